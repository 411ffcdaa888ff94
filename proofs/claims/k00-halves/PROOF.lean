import PyProof.Rows.All
import HandS.ForMost
import HandS.TupAny
import HandS.Zip
import HandS.Iter
import HandS.Exc
import HandS.Hot
import HandS.HotCalls
import HandS.TryOnly
import HandS.Comp
import HandS.Lambda
import HandS.ExcCtx
import HandS.List
import KE.KTupSum
import KE.DataMinMax
import HandS.TupMul
import HandS.Wide
import HandS.Dict
import HandS.Text
import HandS.Style
import HandS.Gcd
import HandS.Flow
import HandS.IsInst
import HandS.ExcOwn
import HandS.ExcIs
import HandS.HeadHook1
import HandS.Conv
import HandS.Small
import HandS.Defaults
import HandS.HeadEnd
import HandS.HeadHook2
import HandS.Head0
import HandS.Head1
import HandS.Head2
import HandS.HeadHook3
import HandS.HeadHook4
import HandS.HeadWalk
import Wide.All
import OpenK.AllK
import Wide.FinOn
import KE.KStateDown
import KE.HD3
import Lean
import PySem.Challenge.RW_gamesweighed_k00_whole_half_numbers
set_option Elab.async false
set_option linter.all false
set_option maxRecDepth 100000
set_option maxHeartbeats 4000000
/-! HX1: walks that end while an exception is handled -/
namespace DLH
open PySem PySem.Spec PyProof.Rows HotX
section
variable {prog : Program} {w : World} {A : Around} {E : Value → Shared → Prop} {s : Shared}
/-- the making of a StopIteration and its raising, while x1 is handled -/
theorem stop_hot {α : Type} {x1 : Addr} {Q : α → Shared → Prop} (hot : HotAt A x1 s.heap)
    (h : ∀ h' e, (∀ b o, s.heap.get? b = some o → h'.get? b = some o) → (∃ o, h'.get? e = some o ∧ o.cls = .type "StopIteration") → E (.ref e) { s with heap := h' }) :
    wpAny (model prog w) A (newExc (.type "StopIteration") [] >>= fun x => (raiseNew x : Sem α)) Q E s := by
  obtain ⟨hd, ob, fs, g1, g2, g3⟩ := hot
  refine wpAny_bind ?_
  unfold newExc newTuple
  refine wpAny_bind (wpAny_newObj_type ?_ (by size_fits))
  refine wpAny_bind (m := firstArgMember _ _) (wpAny_of_eq (a := Value.none) ?_ ?_)
  · first
    | rfl
    | (unfold firstArgMember; rfl)
  refine wpAny_newObj_type ?_ (by size_fits)
  have k1 := Heap.get?_push_of_some { cls := .type "tuple", data := .seq #[] } g1
  refine raiseNew_hot ⟨hd, ob, fs, Heap.get?_push_of_some _ k1, g2, g3⟩ (Nat.ne_of_lt (Heap.lt_size k1)) (Heap.get?_push_size _ rfl) rfl ?_ ?_
  · first
    | (simp; done)
    | (simp; omega)
    | (simp only [Array.size_append]; simp; omega)
  refine h _ _ (fun b o e => ?_) ⟨_, Heap.get?_update_self _ (Heap.get?_push_size _ rfl) rfl, rfl⟩
  rw [Heap.get?_update_other _ _ (Nat.ne_of_gt (Heap.lt_size (Heap.get?_push_of_some _ e)))]
  exact Heap.get?_push_of_some _ (Heap.get?_push_of_some _ e)
theorem list_end_hot {it l x1 : Addr} {i : Nat} {xs : Array Value} {Q : Option Value → Shared → Prop} (hot : HotAt A x1 s.heap) (ne : x1 ≠ it) (hit : s.heap.IsListIter it l i) (hl : s.heap.IsList l xs) (hx : xs[i]? = none)
    (hQ : ∀ h', (∀ b o, b ≠ it → s.heap.get? b = some o → h'.get? b = some o) → Q none { s with heap := h' }) : wpAny (model prog w) A (pyNext (.ref it)) Q E s := by
  obtain ⟨oi, gi, ci, di⟩ := id hit
  obtain ⟨ol, gl, _, n, dl⟩ := hl
  unfold pyNext
  refine wpAny_bind (wpAny_attempt ?_)
  refine wpAny_callSpecial?_slot (name := Str.ofString "__next__") hit.typeIs slot_listiter_next ?_
  refine wpAny_call_entry slot_listiter_next hit.typeIs entry_listiter_next ?_ (args_listiter_next _)
  show wpAny _ _ (field (.ref it) 0 >>= _) _ _ s
  refine wpAny_bind (wpAny_field gi di (x := .ref l) rfl ?_)
  show wpAny _ _ (ite ((Value.ref l == Value.none) = true) _ _) _ _ s
  rw [if_neg (c := (Value.ref l == Value.none) = true) Bool.false_ne_true]
  show wpAny _ _ (field (.ref it) 1 >>= _) _ _ s
  refine wpAny_bind (wpAny_field gi di (x := .int i 0) rfl ?_)
  show wpAny _ _ (seqItems? (.ref l) >>= _) _ _ s
  refine wpAny_bind (wpAny_seqItems gl dl ?_)
  simp only [hx, Int.toNat_natCast]
  refine wpAny_bind (wpAny_rule (wpAny_bind (wpAny_setField gi di (by simp) ?_)))
  obtain ⟨hd, ob, fs, g1, g2, g3⟩ := hot
  refine stop_hot ⟨hd, ob, fs, ?_, g2, g3⟩ fun h' e k he => ?_
  · rw [Heap.get?_update_other _ _ ne.symm]
    exact g1
  · obtain ⟨oe, ge, ce⟩ := he
    refine wpAny_bind (wpAny_isInstance (T := "StopIteration") (b := true) ⟨oe, ge, ce⟩ isSubtype_stop ?_)
    refine wpAny_pure (hQ _ fun b o nb hb => k b o ?_)
    rw [Heap.get?_update_other _ _ (Ne.symm nb)]
    exact hb
theorem nextOf_end_hot {it l x1 : Addr} {i : Nat} {xs : Array Value} {Q : Value → Shared → Prop} (hot : HotAt A x1 s.heap) (ne : x1 ≠ it) (hit : s.heap.IsListIter it l i) (hl : s.heap.IsList l xs) (hx : xs[i]? = none)
    (hQ : ∀ h' e, (∀ b o, b ≠ it → s.heap.get? b = some o → h'.get? b = some o) → (∃ o, h'.get? e = some o ∧ o.cls = .type "StopIteration") → E (.ref e) { s with heap := h' }) : wpAny (model prog w) A (Builtin.SmallTypes.nextOf (.ref it)) Q E s := by
  obtain ⟨oi, gi, ci, di⟩ := id hit
  obtain ⟨ol, gl, _, n, dl⟩ := hl
  unfold Builtin.SmallTypes.nextOf
  refine wpAny_bind ?_
  refine wpAny_callSpecial?_slot (name := Str.ofString "__next__") hit.typeIs slot_listiter_next ?_
  refine wpAny_call_entry slot_listiter_next hit.typeIs entry_listiter_next ?_ (args_listiter_next _)
  show wpAny _ _ (field (.ref it) 0 >>= _) _ _ s
  refine wpAny_bind (wpAny_field gi di (x := .ref l) rfl ?_)
  show wpAny _ _ (ite ((Value.ref l == Value.none) = true) _ _) _ _ s
  rw [if_neg (c := (Value.ref l == Value.none) = true) Bool.false_ne_true]
  show wpAny _ _ (field (.ref it) 1 >>= _) _ _ s
  refine wpAny_bind (wpAny_field gi di (x := .int i 0) rfl ?_)
  show wpAny _ _ (seqItems? (.ref l) >>= _) _ _ s
  refine wpAny_bind (wpAny_seqItems gl dl ?_)
  simp only [hx, Int.toNat_natCast]
  refine wpAny_bind (wpAny_rule (wpAny_bind (wpAny_setField gi di (by simp) ?_)))
  obtain ⟨hd, ob, fs, g1, g2, g3⟩ := hot
  refine stop_hot ⟨hd, ob, fs, ?_, g2, g3⟩ fun h' e k he => ?_
  · rw [Heap.get?_update_other _ _ ne.symm]
    exact g1
  · refine hQ _ e (fun b o nb hb => k b o ?_) he
    rw [Heap.get?_update_other _ _ (Ne.symm nb)]
    exact hb
theorem hot_kept {x1 : Addr} {h h' : Heap} (hot : HotAt A x1 h) (k : ∀ o, h.get? x1 = some o → h'.get? x1 = some o) : HotAt A x1 h' := by
  obtain ⟨hd, ob, fs, g1, g2, g3⟩ := hot
  exact ⟨hd, ob, fs, k _ g1, g2, g3⟩
theorem zip_end0 {z TI TO i1 i2 l1 l2 x1 : Addr} {k1 k2 : Nat} {xs ys : Array Value} {a b : Value} {Q : Fin → Shared → Prop} (hot : HotAt A x1 s.heap) (n1 : x1 ≠ z) (n2 : x1 ≠ TO) (n3 : x1 ≠ i1) (n4 : x1 ≠ i2) (D : ZipApart z TI TO i1 i2 l1 l2)
    (hz : IsZip s.heap z TI TO .none) (hTI : IsPair s.heap TI (.ref i1) (.ref i2)) (hTO : IsPair s.heap TO a b) (h1 : s.heap.IsListIter i1 l1 k1) (h2 : s.heap.IsListIter i2 l2 k2) (e1 : s.heap.IsList l1 xs) (e2 : s.heap.IsList l2 ys)
    (hend : xs[k1]? = none ∨ ys[k2]? = none)
    (hE : ∀ h' e, (∀ c o, c ≠ z → c ≠ TO → c ≠ i1 → c ≠ i2 → s.heap.get? c = some o → h'.get? c = some o) → (∃ o, h'.get? e = some o ∧ o.cls = .type "StopIteration") → E (.ref e) { s with heap := h' }) :
    wpAny (model prog w) A (Builtin.«zip.__next__» ⟨[.ref z], []⟩) Q E s := by
  show wpAny _ _ (field (.ref z) 2 >>= _) _ _ _
  refine wpAny_bind (wpAny_field hz rfl (x := .bool false) rfl ?_)
  show wpAny _ _ (field (.ref z) 3 >>= _) _ _ _
  refine wpAny_bind (wpAny_field hz rfl (x := .ref TI) rfl ?_)
  refine wpAny_bind (wpAny_seqItems hTI rfl (wpAny_bind ?_))
  unfold Builtin.SmallTypes.ownedTupleIsFree
  refine wpAny_bind (wpAny_field hz rfl (x := .none) rfl (wpAny_pure ?_))
  simp only [if_true]
  refine wpAny_bind (wpAny_rule ?_)
  refine wpAny_bind (wpAny_field hz rfl (x := .ref TO) rfl (wpAny_bind (wpAny_setField_rec hz (by simp) fun g1 z1 s1 => ?_)))
  replace z1 : IsZip g1 z TI TO .ellipsis := z1
  have t1 := hot_kept hot fun o q => s1.extBut _ _ n1 q
  refine wpAny_bind ?_
  simp only [List.zipIdx_nil, List.zipIdx_cons, List.forIn_nil, List.forIn_cons]
  refine wpAny_bind (wpAny_bind (wpAny_onRaise ?_))
  show wpAny _ _ (Builtin.SmallTypes.nextOf (.ref i1) >>= _) _ _ _
  cases hx : xs[k1]? with
  | none =>
    refine wpAny_bind (nextOf_end_hot t1 n3 (h1.extBut s1.extBut D.i1z) (e1.extBut s1.extBut D.l1z) hx fun g2 e s2 he => ?_)
    obtain ⟨oe, ge, ce⟩ := he
    have z2 : IsZip g2 z TI TO .ellipsis := s2 _ _ D.i1z.symm z1
    have ez : e ≠ z := by
      rintro rfl
      rw [z2] at ge
      cases ge
      simp at ce
    exact wpAny_setField_rec z2 (by simp) fun g3 _ s3 => hE g3 e (fun c o c1 _ c3 _ q => s3.extBut _ _ c1 (s2 _ _ c3 (s1.extBut _ _ c1 q))) ⟨oe, s3.extBut _ _ ez ge, ce⟩
  | some x =>
    have hy : ys[k2]? = none := by
      rcases hend with q | q
      · rw [hx] at q
        cases q
      · exact q
    refine wpAny_bind (wpAny_nextOf_list_item (h1.extBut s1.extBut D.i1z) (e1.extBut s1.extBut D.l1z) hx fun g2 q2 s2 => wpAny_pure ?_)
    have p2 : IsPair g2 TO a b := s2.extBut _ _ D.TOi1 (s1.extBut _ _ D.TOz hTO)
    refine wpAny_bind (wpAny_seqItems p2 rfl (wpAny_bind (wpAny_updateSeq_pair p2 fun g3 p3 s3 => ?_)))
    refine wpAny_bind (wpAny_letGo (wpAny_pure (wpAny_bind (wpAny_bind (wpAny_onRaise ?_)))))
    show wpAny _ _ (Builtin.SmallTypes.nextOf (.ref i2) >>= _) _ _ _
    have t3 := hot_kept (hot_kept t1 fun o q => s2.extBut _ _ n3 q) fun o q => s3.extBut _ _ n2 q
    refine wpAny_bind (nextOf_end_hot t3 n4 (((h2.extBut s1.extBut D.i2z).extBut s2.extBut D.i12.symm).extBut s3.extBut D.TOi2.symm) (((e2.extBut s1.extBut D.l2z).extBut s2.extBut D.l2i1).extBut s3.extBut D.l2TO) hy fun g4 e s4 he => ?_)
    obtain ⟨oe, ge, ce⟩ := he
    have z4 : IsZip g4 z TI TO .ellipsis := s4 _ _ D.i2z.symm (s3.extBut _ _ D.TOz.symm (s2.extBut _ _ D.i1z.symm z1))
    have ez : e ≠ z := by
      rintro rfl
      rw [z4] at ge
      cases ge
      simp at ce
    exact wpAny_setField_rec z4 (by simp) fun g5 _ s5 => hE g5 e (fun c o c1 c2 c3 c4 q => s5.extBut _ _ c1 (s4 _ _ c4 (s3.extBut _ _ c2 (s2.extBut _ _ c3 (s1.extBut _ _ c1 q))))) ⟨oe, s5.extBut _ _ ez ge, ce⟩
theorem zip_end_hot {z TI TO i1 i2 l1 l2 x1 : Addr} {k1 k2 : Nat} {xs ys : Array Value} {a b : Value} {Q : Option Value → Shared → Prop} (hot : HotAt A x1 s.heap) (n1 : x1 ≠ z) (n2 : x1 ≠ TO) (n3 : x1 ≠ i1) (n4 : x1 ≠ i2) (D : ZipApart z TI TO i1 i2 l1 l2)
    (hz : IsZip s.heap z TI TO .none) (hTI : IsPair s.heap TI (.ref i1) (.ref i2)) (hTO : IsPair s.heap TO a b) (h1 : s.heap.IsListIter i1 l1 k1) (h2 : s.heap.IsListIter i2 l2 k2) (e1 : s.heap.IsList l1 xs) (e2 : s.heap.IsList l2 ys)
    (hend : xs[k1]? = none ∨ ys[k2]? = none) (hQ : ∀ h', (∀ c o, c ≠ z → c ≠ TO → c ≠ i1 → c ≠ i2 → s.heap.get? c = some o → h'.get? c = some o) → Q none { s with heap := h' }) : wpAny (model prog w) A (pyNext (.ref z)) Q E s := by
  have ty : s.TypeIs (.ref z) "zip" := ⟨_, hz, rfl⟩
  unfold pyNext
  refine wpAny_bind (wpAny_attempt (wpAny_callSpecial?_slot (name := Str.ofString "__next__") ty F.slot_zip_next ?_))
  refine wpAny_call_entry F.slot_zip_next ty F.entry_zip_next (zip_end0 hot n1 n2 n3 n4 D hz hTI hTO h1 h2 e1 e2 hend fun h' e k he => ?_) (F.args_zip_next_1 _)
  obtain ⟨o, ge, ce⟩ := he
  exact wpAny_bind (wpAny_isInstance (T := "StopIteration") (b := true) ⟨o, ge, ce⟩ isSubtype_stop (wpAny_pure (hQ _ k)))
end
end DLH
namespace L2H
open PySem PySem.Spec PyProof.Rows L2 HotX DLH
/-- the handled exception, where it stands in such a context -/
theorem hot_at {X : Cx} {pins : List (Addr × Obj)} {σ : L2.St} {H : Hp} {s : Shared} (c : HotC X) (I : Inv X pins σ H s) : ∃ x1, HotAt X.A x1 s.heap ∧ ∀ b, FpOk X pins H b → x1 ≠ b := by
  obtain ⟨p, ⟨hh, v1, e1, c1⟩, hp⟩ := c
  exact ⟨p.1, ⟨hh, p.2, v1, (I.pin p (List.mem_append_left _ hp)).1, e1, c1⟩, fun b f => f.2.2.2.2.2 p (List.mem_append_left _ hp)⟩
theorem turn_listH {P : Program} {w : World} {K : PySem.W.Frag} {tg : Expr} (a it : Addr) : TurnH P w K tg (Itl K a) [it] it (fun i h => h.IsListIter it a i) where
  mem := List.mem_singleton.mpr rfl
  obj := fun i h st b hb => by
    obtain rfl := List.mem_singleton.mp hb
    obtain ⟨o, e, c, d⟩ := st
    exact ⟨o, e, fun v q => by rw [d] at q; cases q⟩
  keep := fun i h h' st k => st.at fun o e => k it (List.mem_singleton.mpr rfl) o e
  item := by
    rintro X rfl rfl rfl hc i pins s σ H E I hf st ⟨xs, x, hq, hx⟩
    obtain ⟨its, rv, p, _⟩ := I.list hq
    obtain ⟨u, hu, ru⟩ := rv.get hx
    obtain ⟨f0, f1, _, f3, f4, f5⟩ := hf it (List.mem_singleton.mpr rfl)
    refine wpAny_pyNext_list_item st p.isList (x := u) (by simpa using hu) fun g st' sb => ⟨u, rfl, ?_⟩
    have J : Inv X pins σ H { s with heap := g } := I.turned (t' := s.toks) (fun b o hb e => (sb.2 b hb).trans e) f0 f1 f3 f4 f5
    obtain ⟨o, e, c, d⟩ := id st'
    refine go_of (s := { s with heap := g }) e c d (by decide) ⟨x, H, J, ru, ⟨rfl, fun ys hy => ?_⟩, st', fun b hb => (hf b hb).1⟩
    rw [I.list_inj hy hq]
    exact hx
  done := by
    rintro X rfl rfl rfl hc i pins s σ H E I hf st ⟨xs, hq, hx⟩
    obtain ⟨its, rv, p, _⟩ := I.list hq
    have fo := hf it (List.mem_singleton.mpr rfl)
    obtain ⟨x1, hot, away⟩ := hot_at hc I
    obtain ⟨f0, f1, _, f3, f4, f5⟩ := id fo
    have hl := rv.length
    refine list_end_hot hot (away it fo) st p.isList (by simp; omega) fun g k => ⟨rfl, ?_⟩
    exact I.turned (t' := s.toks) (fun b o hb e => k b o hb e) f0 f1 f3 f4 f5
  self := fun _ _ _ _ _ st h => wpAny_pyIter_listiter st h
theorem turn_zipH {P : Program} {w : World} {K : PySem.W.Frag} {es : List Expr} {kk : Nat} {tp : Pos} {a b z TI TO i1 i2 : Addr} (D : ZipApart z TI TO i1 i2 a b) (T : Turn P w K (.Tuple es kk tp) (Itz K a b) [z, TI, TO, i1, i2] z (fun i h => IsZip h z TI TO .none ∧ IsPair h TI (.ref i1) (.ref i2) ∧ (∃ x y, IsPair h TO x y) ∧ h.IsListIter i1 a i ∧ h.IsListIter i2 b i)) :
    TurnH P w K (.Tuple es kk tp) (Itz K a b) [z, TI, TO, i1, i2] z (fun i h => IsZip h z TI TO .none ∧ IsPair h TI (.ref i1) (.ref i2) ∧ (∃ x y, IsPair h TO x y) ∧ h.IsListIter i1 a i ∧ h.IsListIter i2 b i) where
  mem := T.mem
  obj := T.obj
  keep := T.keep
  item := by
    rintro X rfl rfl rfl hc i pins s σ H E I hf ⟨hz, hTI, ⟨x0, y0, hTO⟩, h1, h2⟩ ⟨xs, ys, x, y, qx, qy, hx, hy⟩
    obtain ⟨its, rv, p, _⟩ := I.list qx
    obtain ⟨jts, rw', p2, _⟩ := I.list qy
    obtain ⟨u, hu, ru⟩ := rv.get hx
    obtain ⟨t, ht, rt⟩ := rw'.get hy
    have lz : z < s.heap.objs.size := Heap.lt_size hz
    refine wpAny_pyNext_zip_item D hz hTI hTO h1 h2 p.isList p2.isList (x := u) (y := t) (by simpa using hu) (by simpa using ht) fun g z' TO' h1' h2' hT _ hk => ⟨_, rfl, ?_⟩
    refine wpAny_letOwnedTupleGo_zip (s := { s with heap := g }) z' fun g2 z2 sb => ?_
    have hT2 : g2.get? s.heap.objs.size = some { cls := .type "tuple", data := .seq #[u, t] } := (sb.2 _ (Nat.ne_of_gt lz)).trans hT
    have new : ObjOk X.prog X.w (upd H s.heap.objs.size (.tup [x, y])) g2 s.heap.objs.size (.tup [x, y]) := ⟨(by show 2 ≤ sizeLine; decide), [u, t], .cons ru (.cons rt .nil), ⟨_, hT2, rfl, _, rfl⟩⟩
    have far : ∀ c, c ∉ [z, TI, TO, i1, i2] → c ≠ z ∧ c ≠ TO ∧ c ≠ i1 ∧ c ≠ i2 := fun c hb => ⟨fun q => hb (by simp [q]), fun q => hb (by simp [q]), fun q => hb (by simp [q]), fun q => hb (by simp [q])⟩
    have J : Inv X pins σ (upd H s.heap.objs.size (.tup [x, y])) { s with heap := g2 } :=
      I.turnedNew (t' := s.toks) (ch := [z, TI, TO, i1, i2]) (fun c o hb q => (sb.2 c (far c hb).1).trans (hk c o (far c hb).1 (far c hb).2.1 (far c hb).2.2.1 (far c hb).2.2.2 q)) hf (Nat.le_refl _) new
    refine ⟨.ref s.heap.objs.size, _, J, rfl, ⟨_, x, y, rfl, I.hok.fresh (Nat.le_refl _), rfl, fun l hl => ?_, fun l hl => ?_⟩, ⟨z2, ?_, ⟨u, t, ?_⟩, ?_, ?_⟩, fun c hcm => ?_⟩
    · rw [I.list_inj hl qx]
      exact hx
    · rw [I.list_inj hl qy]
      exact hy
    · exact (sb.2 _ D.TIz).trans (hk _ _ D.TIz D.TITO D.TIi1 D.TIi2 hTI)
    · exact (sb.2 _ D.TOz).trans TO'
    · exact h1'.at fun o q => (sb.2 _ D.i1z).trans q
    · exact h2'.at fun o q => (sb.2 _ D.i2z).trans q
    · obtain ⟨o, ho, _⟩ := T.obj i s.heap ⟨hz, hTI, ⟨x0, y0, hTO⟩, h1, h2⟩ c hcm
      rw [upd_ne (Nat.ne_of_lt (Heap.lt_size ho))]
      exact (hf c hcm).1
  done := by
    rintro X rfl rfl rfl hc i pins s σ H E I hf ⟨hz, hTI, ⟨x0, y0, hTO⟩, h1, h2⟩ ⟨xs, ys, qx, qy, hend⟩
    obtain ⟨its, rv, p, _⟩ := I.list qx
    obtain ⟨jts, rw', p2, _⟩ := I.list qy
    have m1 := rv.length
    have m2 := rw'.length
    obtain ⟨x1, hot, away⟩ := hot_at hc I
    have he : its.toArray[i]? = none ∨ jts.toArray[i]? = none := hend.elim (fun q => .inl (by simp; omega)) fun q => .inr (by simp; omega)
    have ff : ∀ c, c ∈ [z, TI, TO, i1, i2] → x1 ≠ c := fun c h => away c (hf c h)
    refine zip_end_hot hot (ff z (by simp)) (ff TO (by simp)) (ff i1 (by simp)) (ff i2 (by simp)) D hz hTI hTO h1 h2 p.isList p2.isList he fun g hk => ⟨rfl, ?_⟩
    exact I.turnedL (t' := s.toks) (ch := [z, TI, TO, i1, i2]) (fun c o hb q => hk c o (fun r => hb (by simp [r])) (fun r => hb (by simp [r])) (fun r => hb (by simp [r])) (fun r => hb (by simp [r])) q) hf
  self := T.self
end L2H
/-! HX2: comprehensions while an exception is handled -/
namespace L2H
open PySem PySem.Spec PyProof.Rows L2 HotX DLH
abbrev blkH (X : Cx) (s : Shared) (H : Hp) (scope : Scope) (ce : Env) (fp : List Addr) : Cx := { X.blk s H scope ce fp with pn := X.pn }
section
variable {X : Cx}
theorem hot_blk {s : Shared} {H : Hp} {scope : Scope} {ce : Env} {fp : List Addr} (c : HotC X) : HotC (blkH X s H scope ce fp) := c
theorem ok_blk {s : Shared} {H : Hp} {scope : Scope} {ce : Env} {fp : List Addr} (k : (X.blk s H scope ce fp).Ok) : (blkH X s H scope ce fp).Ok :=
  ⟨k.mod, k.kind, k.glob, k.blt, k.above, k.inj, k.has, k.cab, k.hd, k.frames, k.stk, k.exf, k.bs, k.bsz, k.noex, k.exfs, k.funs, k.frf⟩
theorem block_startH {pins : List (Addr × Obj)} {σ : L2.St} {H : Hp} {s : Shared} {scope : Scope} {own : List (Str × Nat)} {fp : List Addr} (I : Inv X pins σ H s) (ok : BlkOk X.N X.env.scope scope own) (hN : X.N.Nodup) (hfp : ∀ b ∈ fp, FpOk X pins H b ∧ b < s.heap.objs.size) :
    Inv (blkH X s H scope (compEnvC scope (cellsFrom (s.heap.objs.size + 1) scope.names (cloFrom X.env.cells scope.names [])) s.heap.objs.size X.env) fp) [] (wipe σ (own.map (·.2))) H { s with heap := pushCells (s.heap.push { cls := .type "dict", data := .dict #[] }) scope.names } := by
  have J := block_start I ok hN hfp
  refine ⟨ok_blk J.ok, J.os, J.bare, J.base, J.loc, J.cell, J.free, J.freeC, fun p hp => ?_, J.hok, J.len⟩
  rw [List.append_nil] at hp
  obtain ⟨g, n, nl, nf, nc⟩ := I.pin p (List.mem_append_left _ hp)
  refine ⟨pushCells_keeps _ _ _ _ (Heap.get?_push_of_some _ g), n, ?_, fun z => (List.mem_cons.mp (I.stkSub _ z)).elim nl nf, nc⟩
  exact Nat.ne_of_lt (Heap.lt_size g)
/-- one turn behind another, until the walk ends -/
theorem loopH {Y : Cx} {R : Result → Shared → Prop} {elt tg iter : Expr} {ifs : List Expr} {scope : Scope} {pos : Pos} {it L : Addr} {fp : List Addr} {tn : Nat → Heap → Prop} {J : It} {σ : L2.St} {vs : List Nat} {g : TG} {tt : TT} {te : TE} {W : Nat → Nat → Hp → Prop} {Z : Hp → Prop}
    (c : HotC Y) (xf : ∀ e s, ¬ Y.xe e s) (T : TurnH Y.prog Y.w Y.K tg J fp it tn) (far : ∀ {H' : Hp}, (∀ b ∈ fp, H' b = none) → ∀ b ∈ fp, FpOk Y [] H' b) (pg : PG Y tg g) (pt : PTs Y ifs tt) (pe : PE Y elt te)
    (turn : ∀ i m H, W i m H → (J.stop i H ∧ Z H) ∨ (J.go i H ∧ ∃ Nx : Hp → Prop, (∀ H', Nx H' → ∃ m', m' < m ∧ W (i + 1) m' H') ∧ ∀ x H', J.yld i H x H' → g x (wipe σ vs) H' fun σ2 H2 => wipe σ2 vs = wipe σ vs ∧ tt σ2 H2 fun b H3 =>
      if b = true then te σ2 H3 fun y H4 => ∃ acc, H4 L = some (.lst acc) ∧ acc.length < sizeLine ∧ Nx (upd H4 L (.lst (acc ++ [y]))) else Nx H3))
    (leave : ∀ s' H', Inv Y [] (wipe σ vs) H' s' → Z H' → R (.ok .next) s') {m0 : Nat} {H0 : Hp} {s0 : Shared} (I0 : Inv Y [] (wipe σ vs) H0 s0) (st0 : tn 0 s0.heap) (n0 : ∀ b ∈ fp, H0 b = none) (w0 : W 0 m0 H0) :
    codeAny (model Y.prog Y.w) Y.A (.compLoop (.ListComp elt [⟨tg, iter, ifs, 0⟩] scope pos) 0 (.ref it) (.ref L) Y.env) R s0 := by
  have thnY : ∀ {α : Type} {t : Sem α} {P P' : α → Shared → Prop} {E : Value → Shared → Prop} {s : Shared}, wpAny (model Y.prog Y.w) Y.A t P Y.xe s → (∀ a s, P a s → P' a s) → wpAny (model Y.prog Y.w) Y.A t P' E s := fun h k => wpAny_mono h k fun e s z => (xf e s z).elim
  refine compLoop_any (fun n s' => ∃ i K', Inv Y [] (wipe σ vs) K' s' ∧ tn i s'.heap ∧ (∀ b ∈ fp, K' b = none) ∧ W i n K') ?_ m0 ⟨0, H0, I0, st0, n0, w0⟩
  rintro n s1 ⟨i, H1, I1, st1, n1, w1⟩
  rcases turn i n H1 w1 with ⟨ends, hZ⟩ | ⟨goes, Nx, next, step⟩
  · refine thnF (T.done Y rfl rfl rfl c i [] s1 _ H1 (fun _ _ => False) I1 (far n1) st1 ends) ?_
    rintro _ s2 ⟨rfl, I2⟩
    exact leave s2 H1 I2 hZ
  refine thnF (T.item Y rfl rfl rfl c i [] s1 _ H1 (fun _ _ => False) I1 (far n1) st1 goes) ?_
  rintro _ s2 ⟨u, rfl, h2⟩
  refine thnF h2 ?_
  rintro _ s3 ⟨x, H3, I3, rx, hy, st3, n3⟩
  have P3 := I3.pinned (far n3) (T.obj _ _ st3)
  refine thnY (pg.run _ s3 _ H3 x u _ P3 rx (step x H3 hy)) ?_
  rintro _ s4 ⟨σ4, H4, I4, wiped, q4⟩
  -- where a turn comes to its end
  have back : ∀ {s' : Shared} {H' : Hp}, Inv Y ([] ++ pinsAt fp s3.heap) σ4 H' s' → Nx H' → ∃ m, m < n ∧ ∃ i K', Inv Y [] (wipe σ vs) K' s' ∧ tn i s'.heap ∧ (∀ b ∈ fp, K' b = none) ∧ W i m K' := by
    intro s' H' I' hN
    obtain ⟨m', lt, w'⟩ := next H' hN
    have held : ∀ b ∈ fp, ∀ o, s3.heap.get? b = some o → s'.heap.get? b = some o ∧ H' b = none := fun b hb o e => by
      have z := I'.pin (b, o) (List.mem_append_right _ (List.mem_append_right _ (mem_pinsAt hb e)))
      exact ⟨z.1, z.2.1⟩
    refine ⟨m', lt, i + 1, H', Inv.weak (Inv.unpinned (pins := []) I') ?_ (fun j v e => ?_), T.keep _ _ _ st3 fun b hb o e => (held b hb o e).1, fun b hb => ?_, w'⟩
    · rw [← wiped, wipe_length]
    · rw [← wiped] at e
      exact (wipe_some e).1
    · obtain ⟨o, e, _⟩ := T.obj _ _ st3 b hb
      exact (held b hb o e).2
  refine thnY (pt.run _ s4 σ4 H4 _ I4 q4) ?_
  rintro b s5 ⟨H5, I5, q5⟩
  cases b with
  | false => exact back I5 (by simpa using q5)
  | true =>
    have q5 : te σ4 H5 fun y H6 => ∃ acc, H6 L = some (.lst acc) ∧ acc.length < sizeLine ∧ Nx (upd H6 L (.lst (acc ++ [y]))) := by simpa using q5
    refine thnY (pe.run _ s5 σ4 H5 _ I5 q5) ?_
    rintro z s6 ⟨yv, H6, I6, r6, acc, at6, lt6, nx⟩
    exact app_ok (X := Y) I6 at6 lt6 r6 fun s7 I7 => back I7 nx
/-- the making of a list, while an exception is handled -/
theorem lc_coreH {pins : List (Addr × Obj)} {s : Shared} {σ : L2.St} {H : Hp} {Q : VK} {pos' : Pos} {use : Option (Value → Sem Unit)} {Qf : Value → Shared → Prop} {elt tg iter : Expr} {ifs : List Expr} {scope : Scope} {own : List (Str × Nat)} {pos : Pos} {wi : TI} {g : TG} {tt : TT} {te : TE} (c : HotC X) (hN : X.N.Nodup) (I : Inv X pins σ H s) (hi : PIH X tg iter wi) (ok : BlkOk X.N X.env.scope scope own)
    (hg : ∀ s H C cl fp, PG (blkH X s H scope (compEnvC scope cl C X.env) fp) tg g) (ht : ∀ s H C cl fp, PTs (blkH X s H scope (compEnvC scope cl C X.env) fp) ifs tt) (he : ∀ s H C cl fp, PE (blkH X s H scope (compEnvC scope cl C X.env) fp) elt te)
    (hs : ∀ x, foldedSetIterable iter X.env x = pure x) (h : tLc wi g tt te (own.map (·.2)) σ H Q)
    (hRR : ∀ L C s' m H', Inv X pins σ H' s' → Q (.ref L) H' → s'.heap.Ns C m → FpOk X pins H' C → compPost (model X.prog X.w) X.A X.xe use Qf (.ref L) C (.ok .next) s') :
    wpAny (model X.prog X.w) X.A (comprehension (.ListComp elt [⟨tg, iter, ifs, 0⟩] scope pos) scope X.env pos' (newList []) false (eval iter X.env) use) Qf X.xe s := by
  have cells : ∀ y ∈ scope.names, y.2 = .free → ∃ c, X.env.cells.lookup y.1 = some c := fun y hy e => I.ok.has _ (ok.free y hy e)
  refine wpAny_comprehension_free (use := use) rfl hs (closure_ok cells) ok.kind (fun y hy e => (ok.uniq y hy).trans (congrArg some e)) ?_
  refine thn (hi.run pins s σ H _ I h) fun _ _ hx => thn hx ?_
  rintro _ s2 ⟨it, fp, tn, J, H2, rfl, I2, T, st2, f2, q⟩
  refine wpAny_newObj_type (newEnv_comp ?_) (Nat.zero_le _)
  generalize hL : s2.heap.objs.size = L
  have free : H2 L = none := I2.hok.fresh (Nat.le_of_eq hL)
  obtain ⟨W, ⟨m0, w0⟩, turn⟩ := q L free
  generalize h3 : ({ s2 with heap := s2.heap.push { cls := .type "list", data := .seq ([] : List Value).toArray } } : Shared) = s3
  have e3 : s3.heap = s2.heap.push { cls := .type "list", data := .seq ([] : List Value).toArray } := by rw [← h3]
  have I3 : Inv X pins σ (upd H2 L (.lst [])) s3 := by
    rw [← h3]
    refine I2.laid (t' := s2.toks) (fun b o e => Heap.get?_push_of_some _ e) (Nat.le_of_eq hL) ⟨Nat.zero_le _, [], 0, .nil, ?_⟩
    rw [← hL]
    exact Heap.get?_push_size _ rfl
  have f3 : ∀ b ∈ fp, FpOk X pins (upd H2 L (.lst [])) b ∧ b < s3.heap.objs.size := by
    intro b hb
    obtain ⟨o, e, _⟩ := T.obj _ _ st2 b hb
    have lt := Heap.lt_size e
    refine ⟨⟨?_, (f2 b hb).2⟩, ?_⟩
    · rw [upd_ne (hL ▸ Nat.ne_of_lt lt)]
      exact (f2 b hb).1
    · rw [e3, Heap.size_push]
      exact Nat.lt_succ_of_lt lt
  have st3 : tn 0 s3.heap := T.keep _ _ _ st2 fun b _ o e => by
    rw [e3]
    exact Heap.get?_push_of_some _ e
  have I4 := block_startH I3 ok hN f3
  have far : ∀ {H' : Hp}, (∀ b ∈ fp, H' b = none) → ∀ b ∈ fp, FpOk (blkH X s3 (upd H2 L (.lst [])) scope (compEnvC scope (cellsFrom (s3.heap.objs.size + 1) scope.names (cloFrom X.env.cells scope.names [])) s3.heap.objs.size X.env) fp) [] H' b := by
    intro H' n b hb
    refine ⟨n b hb, (I4.ok.exf b hb).1, I4.ok.exfs b hb, .inl hb, fun x c e => (I4.ok.exf b hb).2 x c e, fun p hp => (f3 b hb).1.2.2.2.2.2 p (List.mem_append_left _ ?_)⟩
    rw [List.append_nil] at hp
    exact hp
  have st4 := T.keep 0 s3.heap (pushCells (s3.heap.push { cls := .type "dict", data := .dict #[] }) scope.names) st3 fun b _ o e => pushCells_keeps _ _ _ _ (Heap.get?_push_of_some _ e)
  have loop := loopH (R := compPost (model X.prog X.w) X.A X.xe use Qf (.ref L) s3.heap.objs.size) (pos := pos) (iter := iter) (scope := scope) (Z := fun H' => Q (.ref L) H') (hot_blk c) (fun _ _ z => z) T far (hg _ _ _ _ _) (ht _ _ _ _ _) (he _ _ _ _ _) turn (fun s' H' I' z => ?_) I4 st4 (fun b hb => (f3 b hb).1.1) w0
  · exact codeAny_compStart_list loop (T.self X.A 0 _ _ _ st4 loop)
  · have I7 : Inv X pins σ H' s' := I3.call' (ch := fp) I'.os I'.base I'.hok I'.bare fun b hb => by
      obtain ⟨k0, k1, k2, k3, k4, k5⟩ := (f3 b hb).1
      exact ⟨k3, k1, k4, k5⟩
    obtain ⟨m, ns, _⟩ := I'.loc
    exact hRR L s3.heap.objs.size s' m H' I7 z ns (I3.fpOk (H' := H') (Nat.le_refl _) I'.free)
/-- a list comprehension, while an exception is handled -/
theorem pe_lcH {elt tg iter : Expr} {ifs : List Expr} {scope : Scope} {own : List (Str × Nat)} {pos : Pos} {wi : TI} {g : TG} {tt : TT} {te : TE} (c : HotC X) (hN : X.N.Nodup) (hi : PIH X tg iter wi) (ok : BlkOk X.N X.env.scope scope own)
    (hg : ∀ s H C cl fp, PG (blkH X s H scope (compEnvC scope cl C X.env) fp) tg g) (ht : ∀ s H C cl fp, PTs (blkH X s H scope (compEnvC scope cl C X.env) fp) ifs tt) (he : ∀ s H C cl fp, PE (blkH X s H scope (compEnvC scope cl C X.env) fp) elt te)
    (hs : ∀ x, foldedSetIterable iter X.env x = pure x) : PE X (.ListComp elt [⟨tg, iter, ifs, 0⟩] scope pos) (tLc wi g tt te (own.map (·.2))) := by
  constructor
  intro pins s σ H Q I h
  rw [eval_ListComp]
  refine lc_coreH c hN I hi ok hg ht he hs h fun L C s' m H' I' q hn f => ⟨m, hn, fun h'' sb => ?_⟩
  obtain ⟨k0, k1, k2, k3, k4, k5⟩ := f
  exact ⟨.ref L, H', I'.turned (t' := s'.toks) (fun b o hb e => (sb.2 b hb).trans e) k0 k1 k3 k4 k5, rfl, q⟩
/-- its name a local on the same line -/
theorem ps_setLcH {i : Nat} {y : Str} {py : Pos} {elt tg iter : Expr} {ifs : List Expr} {scope : Scope} {own : List (Str × Nat)} {pos spos : Pos} {wi : TI} {g : TG} {tt : TT} {te : TE} (c : HotC X) (hN : X.N.Nodup) (hy : X.N[i]? = some y) (hyl : X.env.scope.names.lookup y = some .local)
    (hsw : swapsWith (.ListComp elt [⟨tg, iter, ifs, 0⟩] scope pos) (some (.Name y py)) spos.line X.env = pure true) (hi : PIH X tg iter wi) (ok : BlkOk X.N X.env.scope scope own)
    (hg : ∀ s H C cl fp, PG (blkH X s H scope (compEnvC scope cl C X.env) fp) tg g) (ht : ∀ s H C cl fp, PTs (blkH X s H scope (compEnvC scope cl C X.env) fp) ifs tt) (he : ∀ s H C cl fp, PE (blkH X s H scope (compEnvC scope cl C X.env) fp) elt te)
    (hs : ∀ x, foldedSetIterable iter X.env x = pure x) : PS X (.Assign [.Name y py] (.ListComp elt [⟨tg, iter, ifs, 0⟩] scope pos) spos) (tAsg (tLc wi g tt te (own.map (·.2))) (gName i)) := by
  constructor
  intro pins s σ H D I h
  rw [exec_Assign_Name_used _ _ _ _ hsw]
  refine wpAny_bind (wpAny_standAt (wpAny_bind ?_))
  refine wpAny_bind (thn (lc_coreH (Qf := fun _ s' => SP X pins D .next s') c hN I hi ok hg ht he hs (show tLc wi g tt te (own.map (·.2)) σ H (fun x H1 => gName i x σ H1 D.nx) from h) fun L C s' m H' I' q hn f => ?_) fun _ s' hq => wpAny_pure (wpAny_pure hq))
  refine wpAny_assign_Name (store_ok2 (v := V.ref L) I' hN hy (.inl hyl) rfl (fun s2 I2 ⟨a, sb, ha⟩ => ?_) (.inr hyl))
  obtain ⟨f0, f1, f2, f3, f4, f5⟩ := f
  have away : C ≠ a := ha.elim (fun z => by rw [z]; exact f1) fun z e => f4 y a z e.symm
  refine ⟨m, hn.sameBut sb away, fun h3 sb3 => ?_⟩
  exact ⟨_, H', I2.turned (t' := s2.toks) (fun b o hb e => (sb3.2 b hb).trans e) f0 f1 f3 f4 f5, q⟩
/-- a list, walked there -/
theorem pi_listH {tg l : Expr} {tl : TE} (hl : PE X l tl) : PIH X tg l (fun σ H R => tl σ H fun x H1 => ∃ a, x = .ref a ∧ (∃ xs, SqL X.K H1 a xs) ∧ R (Itl X.K a) H1) := by
  constructor
  intro pins s σ H R I h
  refine thn (hl.run pins s σ H _ I h) ?_
  rintro v s1 ⟨x, H1, I1, r1, a, rfl, ⟨xs, hx⟩, q⟩
  cases r1
  obtain ⟨its, rv, p, hz⟩ := I1.list hx
  refine wpAny_pyIter_list p.isList ⟨_, [s1.heap.objs.size], _, Itl X.K a, H1, rfl, I1.kept (t' := s1.toks) fun b o q => Heap.get?_push_of_some _ q, turn_listH a _, ⟨_, Heap.get?_push_size _ rfl, rfl, rfl⟩, fun b hb => ?_, q⟩
  obtain rfl := List.mem_singleton.mp hb
  exact I1.fpOk (Nat.le_refl _) I1.fresh
/-- zip of two lists, walked there -/
theorem pi_zipH {e e2 : Expr} {ta : TA} {p pos tpos : Pos} {es : List Expr} {kk : Nat} (hg : Gl X "zip") (hm : X.mg "zip" = none) (ha : PA X [e, e2] ta) (hs : starEach [e, e2] X.env = (false, eval e X.env) :: starEach [e2] X.env) (hpl : (backTo pos (starEach [e2] X.env)).any (·.1) = false) :
    PIH X (.Tuple es kk tpos) (.Call (.Name "zip" p) [e, e2] [] pos) (iZip X.K ta) := by
  constructor
  intro pins s σ H R I h
  refine Call_ (ld_blt I hg hm PyProof.Rows.boot_zip (PyProof.Rows.callWith_type1 (thn (ha.run pos pins s σ H _ I h) ?_) hs hpl))
  rintro us s1 ⟨vs, H1, I1, r1, a, b, xs, ys, rfl, qx, qy, q⟩
  match us, r1 with
  | [_, _], .cons r (.cons r' .nil) =>
    cases r
    cases r'
    obtain ⟨its, rv, p1, _⟩ := I1.list qx
    obtain ⟨jts, rw', p2, _⟩ := I1.list qy
    refine call_zip_2 p1.isList p2.isList fun g hz hTI hTO h1 h2 hsz hk => wpAny_pyIter_zip hz ?_
    have D := PySem.W.ktu_apart s1.heap.objs.size a b p1.lt p2.lt
    refine ⟨s1.heap.objs.size + 4, [s1.heap.objs.size + 4, s1.heap.objs.size + 2, s1.heap.objs.size + 3, s1.heap.objs.size, s1.heap.objs.size + 1], _, _, H1, rfl, I1.kept (t' := s1.toks) hk, turn_zipH D (turn_zip D), ⟨hz, hTI, ⟨_, _, hTO⟩, h1, h2⟩, fun c hc => ?_, q⟩
    have le : s1.heap.objs.size ≤ c := by
      simp only [List.mem_cons, List.not_mem_nil, or_false] at hc
      rcases hc with rfl | rfl | rfl | rfl | rfl
      · exact Nat.le_add_right _ _
      · exact Nat.le_add_right _ _
      · exact Nat.le_add_right _ _
      · exact Nat.le_refl _
      · exact Nat.le_add_right _ _
    exact I1.fpOk le (I1.hok.fresh le)
end
end L2H
/-! HX3: a tuple taken apart while an exception is handled -/
namespace DLH
open PySem PySem.Spec PyProof.Rows HotX
section
variable {prog : Program} {w : World} {A : Around} {E : Value → Shared → Prop} {s : Shared}
theorem tuple_end_hot {it t x1 : Addr} {i : Nat} {xs : Array Value} {Q : Option Value → Shared → Prop} (hot : HotAt A x1 s.heap) (ne : x1 ≠ it) (hit : IsTupIter s.heap it t i) (ht : IsTup s.heap t xs) (hx : xs[i]? = none)
    (hQ : ∀ h', (∀ b o, b ≠ it → s.heap.get? b = some o → h'.get? b = some o) → Q none { s with heap := h' }) : wpAny (model prog w) A (pyNext (.ref it)) Q E s := by
  obtain ⟨oi, gi, ci, di⟩ := id hit
  obtain ⟨ot, gt, _, n, dt⟩ := ht
  unfold pyNext
  refine wpAny_bind (wpAny_attempt ?_)
  refine wpAny_callSpecial?_slot (name := Str.ofString "__next__") hit.typeIs slot_tupleiter_next ?_
  refine wpAny_call_entry slot_tupleiter_next hit.typeIs entry_tupleiter_next ?_ (args_tupleiter_next _)
  show wpAny _ _ (field (.ref it) 0 >>= _) _ _ s
  refine wpAny_bind (wpAny_field gi di (x := .ref t) rfl ?_)
  show wpAny _ _ (ite ((Value.ref t == Value.none) = true) _ _) _ _ s
  rw [if_neg (c := (Value.ref t == Value.none) = true) Bool.false_ne_true]
  show wpAny _ _ (field (.ref it) 1 >>= _) _ _ s
  refine wpAny_bind (wpAny_field gi di (x := .int i 0) rfl ?_)
  show wpAny _ _ (seqItems? (.ref t) >>= _) _ _ s
  refine wpAny_bind (wpAny_seqItems gt dt ?_)
  simp only [hx, Int.toNat_natCast]
  refine wpAny_bind (wpAny_rule (wpAny_bind (wpAny_setField gi di (by simp) ?_)))
  obtain ⟨hd, ob, fs, g1, g2, g3⟩ := hot
  refine stop_hot ⟨hd, ob, fs, ?_, g2, g3⟩ fun h' e k he => ?_
  · rw [Heap.get?_update_other _ _ ne.symm]
    exact g1
  · obtain ⟨oe, ge, ce⟩ := he
    refine wpAny_bind (wpAny_isInstance (T := "StopIteration") (b := true) ⟨oe, ge, ce⟩ isSubtype_stop ?_)
    refine wpAny_pure (hQ _ fun b o nb hb => k b o ?_)
    rw [Heap.get?_update_other _ _ (Ne.symm nb)]
    exact hb
theorem unpack_hot {t x1 : Addr} {xs : Array Value} {Q : List Value → Shared → Prop} (hot : HotAt A x1 s.heap) (ht : IsTup s.heap t xs) (hQ : ∀ h', (∀ b o, s.heap.get? b = some o → h'.get? b = some o) → Q xs.toList { s with heap := h' }) :
    wpAny (model prog w) A (unpackItems (.ref t) xs.size none) Q E s := by
  obtain ⟨ot, gt, rest⟩ := id ht
  have lt := Heap.lt_size gt
  have ne : t ≠ s.heap.objs.size := Nat.ne_of_lt lt
  have nx : x1 ≠ s.heap.objs.size := by
    obtain ⟨_, o, vs, g, _⟩ := hot
    exact Nat.ne_of_lt (Heap.lt_size g)
  unfold unpackItems
  refine wpAny_bind ?_
  unfold notIterableAtAll
  refine wpAny_bind (wpAny_specialOf ht.typeIs slot_tuple_iter.lookup (wpAny_pure ?_))
  simp only [Bool.false_eq_true, if_false]
  refine wpAny_bind (wpAny_holding (iter_tuple ht (wpAny_bind (wpAny_holding (draw_tuple ne xs.size 0 _ _ ⟨_, Heap.get?_push_size _ rfl, rfl, rfl⟩ (ht.push _) (Nat.le_of_eq (Nat.zero_add _)) fun g1 it1 s1 => ?_)))))
  rw [List.drop_zero, List.take_of_length_le (by simp), if_neg (by simp)]
  have t1 : IsTup g1 t xs := (ht.push _).extBut s1.extBut ne
  have hot1 : HotAt A x1 g1 := hot_kept hot fun o q => s1.extBut _ _ nx (Heap.get?_push_of_some _ q)
  refine wpAny_bind (wpAny_holding (tuple_end_hot hot1 nx it1 t1 (by simp) fun g2 k => ?_))
  simp only [Option.isSome_none, Bool.false_eq_true, if_false]
  refine wpAny_pure (hQ g2 fun b o hb => ?_)
  have nb : b ≠ s.heap.objs.size := Nat.ne_of_lt (Heap.lt_size hb)
  exact k b o nb (s1.extBut b o nb (Heap.get?_push_of_some _ hb))
end
end DLH
namespace L2H
open PySem PySem.Spec PyProof.Rows L2 HotX DLH
theorem pg_tupH {X : Cx} {es : List Expr} {k : Nat} {t : TGs} {n : Nat} {pos : Pos} (c : HotC X) (h : PGs X es t) (hn : (assignEach es X.env).length = n) (hst : (assignEach es X.env).findIdx? (·.1) = none) : PG X (.Tuple es k pos) (gTup X.K n t) := by
  constructor
  intro pins s σ H v u Q I r hw
  obtain ⟨a, xs, rfl, hq, hl, hw⟩ := hw
  cases r
  obtain ⟨its, rv, ht, hz⟩ := I.tuple hq
  obtain ⟨x1, hot, _⟩ := hot_at c I
  rw [PyProof.Rows.assign_Tuple]
  refine wpAny_bind (wpAny_standAt ?_)
  unfold unpack
  rw [hst, show (assignEach es X.env).length = its.toArray.size from by simp [hn, ← hl, rv.length]]
  refine wpAny_bind (wpAny_holding (unpack_hot hot ht fun g kp => ?_))
  exact h.run pins _ σ H xs _ Q (I.kept (t' := s.toks) kp) (by simpa using rv) hw
theorem turn_tupleH {P : Program} {w : World} {K : PySem.W.Frag} {tg : Expr} (a it : Addr) (T : Turn P w K tg (Itt K a) [it] it (fun i h => h.IsTupleIter it a i)) : TurnH P w K tg (Itt K a) [it] it (fun i h => h.IsTupleIter it a i) where
  mem := T.mem
  obj := T.obj
  keep := T.keep
  item := by
    rintro X rfl rfl rfl hc i pins s σ H E I hf st ⟨xs, x, hq, hx⟩
    obtain ⟨its, rv, p, _⟩ := I.tuple hq
    obtain ⟨u, hu, ru⟩ := rv.get hx
    obtain ⟨f0, f1, _, f3, f4, f5⟩ := hf it (List.mem_singleton.mpr rfl)
    refine wpAny_pyNext_tuple_item st p (x := u) (by simpa using hu) fun g st' sb => ⟨u, rfl, ?_⟩
    have J : Inv X pins σ H { s with heap := g } := I.turned (t' := s.toks) (fun b o hb e => (sb.2 b hb).trans e) f0 f1 f3 f4 f5
    obtain ⟨o, e, c, d⟩ := id st'
    refine go_of (s := { s with heap := g }) e c d (by decide) ⟨x, H, J, ru, ⟨rfl, fun ys hy => ?_⟩, st', fun b hb => (hf b hb).1⟩
    rw [I.tuple_inj hy hq]
    exact hx
  done := by
    rintro X rfl rfl rfl hc i pins s σ H E I hf st ⟨xs, hq, hx⟩
    obtain ⟨its, rv, p, _⟩ := I.tuple hq
    have fo := hf it (List.mem_singleton.mpr rfl)
    obtain ⟨x1, hot, away⟩ := hot_at hc I
    obtain ⟨f0, f1, _, f3, f4, f5⟩ := id fo
    have hl := rv.length
    refine tuple_end_hot hot (away it fo) st p (by simp; omega) fun g k => ⟨rfl, ?_⟩
    exact I.turned (t' := s.toks) (fun b o hb e => k b o hb e) f0 f1 f3 f4 f5
  self := T.self
/-- a list or a tuple, walked there -/
theorem pi_seqH {X : Cx} {tg l : Expr} {tl : TE} (hl : PE X l tl) : PIH X tg l (fun σ H R => tl σ H fun x H1 => ∃ a, x = .ref a ∧ (((∃ xs, SqL X.K H1 a xs) ∧ R (Itl X.K a) H1) ∨ ((∃ xs, SqT X.K H1 a xs) ∧ R (Itt X.K a) H1))) := by
  constructor
  intro pins s σ H R I h
  refine thn (hl.run pins s σ H _ I h) ?_
  rintro v s1 ⟨x, H1, I1, r1, a, rfl, hq⟩
  cases r1
  have kept : ∀ ob : Obj, Inv X pins σ H1 { s1 with heap := s1.heap.push ob } := fun ob => I1.kept (t' := s1.toks) fun b o q => Heap.get?_push_of_some _ q
  have ok1 : ∀ b ∈ [s1.heap.objs.size], FpOk X pins H1 b := fun b hb => by
    obtain rfl := List.mem_singleton.mp hb
    exact I1.fpOk (Nat.le_refl _) I1.fresh
  rcases hq with ⟨⟨xs, hx⟩, q⟩ | ⟨⟨xs, hx⟩, q⟩
  · obtain ⟨its, rv, p, hz⟩ := I1.list hx
    exact wpAny_pyIter_list p.isList ⟨_, [s1.heap.objs.size], _, Itl X.K a, H1, rfl, kept _, turn_listH a _, ⟨_, Heap.get?_push_size _ rfl, rfl, rfl⟩, ok1, q⟩
  · obtain ⟨its, rv, p, hz⟩ := I1.tuple hx
    exact wpAny_pyIter_tuple (items := its.toArray) p ⟨_, [s1.heap.objs.size], _, Itt X.K a, H1, rfl, kept _, turn_tupleH a _ (turn_tuple a _), ⟨_, Heap.get?_push_size _ rfl, rfl, rfl⟩, ok1, q⟩
end L2H
/-! HX4: a lambda handed to a def that tries it; exceptions whose context is None -/
namespace LX
open PySem PySem.Spec PyProof.Rows L2
/-- the context of the def that gets the lambda -/
abbrev gvX (X : Cx) (Ng : List Str) (x : Str) (sg : Scope) (g : Addr) (cdg : Value) (s : Shared) (H : Hp) : Cx := cxOf C8.CX0 X.prog X.w X.K X.mg X.base Ng x sg g cdg X.A X.stack s H C8.E0
abbrev lamQ (X : Cx) : Str := X.env.qual ++ "<lambda>"
/-- what leaves the lambda's frame -/
def lamXe (X : Cx) (A : Around) (outer : List Env) (s : Shared) (H : Hp) (E : XK) (scope : Scope) (f c' : Addr) : Value → Shared → Prop := fun e s1 =>
  let en := LamX.lamEnv X scope s.heap.objs.size f c'
  wpAny (model X.prog X.w) (A.deeper en) (leaving en e) (fun _ s2 => L2N.CX X.prog X.w outer H s E e s2) (fun e2 s2 => L2N.CX X.prog X.w outer H s E e2 s2) s1
/-- the context of the lambda's body -/
abbrev lamN (X : Cx) (A : Around) (outer : List Env) (s : Shared) (H : Hp) (E : XK) (scope : Scope) (f c' : Addr) : Cx := (LamX.lamCx X A outer s H E scope f c').wish (lamXe X A outer s H E scope f c')
theorem lamN_takes {X : Cx} {A : Around} {outer : List Env} {s : Shared} {H : Hp} {E : XK} {scope : Scope} {f c' : Addr} : L2N.Takes (lamN X A outer s H E scope f c') (fun cls d _ H' => E cls d H') := L2N.takes_of rfl rfl rfl rfl
section
variable {X : Cx} {pins : List (Addr × Obj)} {σ : L2.St} {H : Hp} {s : Shared}
/-- a(), in the def that got it -/
theorem pe_actN {Ng : List Str} {x a : Str} {sg scope : Scope} {g f c' : Addr} {cdg pm ctv : Value} {params : Arguments} {body : Expr} {k : Nat} {pn : List (Addr × Obj)} {xe : Value → Shared → Prop} {W : WX} {tb : XK → TE} {p1 p2 : Pos}
    (I : Inv X pins σ H s) (L : LamX.LamS X.env.scope scope)
    (hf : s.heap.get? f = some (PySem.W.kla_obj "<lambda>" (lamQ X) params body scope (cloFrom X.env.cells scope.names []) pm c' ctv)) (hfn : H f = none) (hfr : f ∉ frs X.stack)
    (hbind : bindArgs (PySem.W.kla_fn "<lambda>" (lamQ X) params body scope (cloFrom X.env.cells scope.names []) pm (.ref c') ctv) ⟨[], []⟩ = pure [])
    (tk : L2N.Takes ((gvX X Ng x sg g cdg s H).tr pn xe) W) (hr : Room (k + 1) (X.A.deeper (envOfC x sg s.heap.objs.size g cdg)))
    (hbody : ∀ (A : Around) (outer : List Env) (s : Shared) (H : Hp) (E : XK), Room k (A.deeper (LamX.lamEnv X scope s.heap.objs.size f c')) → PE (lamN X A outer s H E scope f c') body (tb E))
    (hN : Ng[0]? = some a) (hv : Vis sg a) (hd : (a == ("__debug__" : Str)) = false) (hcd : (a == ("__classdict__" : Str)) = false) :
    PE ((gvX X Ng x sg g cdg s H).tr pn xe) (.Call (.Name a p1) [] [] p2) (fun σZ HZ Q => σZ[0]? = some (some (.ref f)) ∧ HZ c' = some (LamX.CodeO c' (lamQ X)) ∧ tb (fun cls d H' => W cls d σZ H') σ HZ Q) := by
  constructor
  rintro pinsZ sZ σZ HZ Q IZ ⟨hs, hc, ht⟩
  refine wpAny_Call_Name_kw (thn ((pe_var (pos := p1) (i := 0) hN hv hd hcd).run pinsZ sZ σZ HZ (fun v H1 => v = .ref f ∧ H1 = HZ) IZ ⟨.ref f, hs, rfl, rfl⟩) ?_)
  rintro u s1 ⟨v, H1, I1, r1, ev, eH⟩
  subst ev
  rw [eH] at I1
  cases r1
  have of1 := I1.base.keep f _ hf hfn hfr (fun z => nomatch (show f ∈ ([] : List Addr) from z))
  refine PySem.W.callWith_F0 ⟨_, _, _, _, of1⟩ ?_
  obtain ⟨⟨oc, vs, t, hoc, hdc, hvc⟩, _, _⟩ := I1.hok c' _ hc
  have rc : codeAny (model X.prog X.w) (X.A.deeper (envOfC x sg s.heap.objs.size g cdg)) (.call (.ref f) ⟨[], []⟩) (CR (L2N.CX X.prog X.w) (envOfC x sg s.heap.objs.size g cdg :: X.stack) X.prog X.w HZ s1 Q fun cls d H' => W cls d σZ H') s1 := by
    refine PySem.W.kla_callFunE hr.depth of1 rfl L.co L.gen rfl ⟨c', oc, vs, t, rfl, hoc, hdc, hvc⟩ ?_
    rw [hbind]
    refine wpAny_pure (wpAny_newFunctionEnv (fun y hy => (L.own y hy).2) (fun y hy => absurd hy (by simp)) (fun h₁ hns hsb => ⟨I1.nolimit.fresh _ hsb, ?_⟩) L.kind)
    have kp : ∀ b o, s1.heap.get? b = some o → h₁.get? b = some o := fun b o e => hsb.extBut b o (Nat.ne_of_lt (Heap.lt_size e)) (Heap.get?_push_of_some _ e)
    have J0 := LamX.lam_start2 (E := fun cls d H' => W cls d σZ H') (f := f) (c' := c') (tk := s1.toks + ([] : List (Str × Value)).length) I L I1.env0 hr.hd (show Un (frs X.stack) [] H HZ s.heap s1.heap from I1.base) hns kp
    have J := Inv.wish J0 (lamXe X (X.A.deeper (envOfC x sg s.heap.objs.size g cdg)) (envOfC x sg s.heap.objs.size g cdg :: X.stack) s1 HZ (fun cls d H' => W cls d σZ H') scope f c')
    refine PySem.W.kla_codeExpr (wpAny_mono ((hbody _ _ s1 HZ (fun cls d H' => W cls d σZ H') (hr.deeper _)).run [] _ σ HZ Q J ht) ?_ fun _ _ z => z)
    rintro v s3 ⟨w2, H2, J2, rv, q⟩
    exact ⟨w2, H2, J2.os, J2.bare, J2.base, J2.hok, rv, q⟩
  refine wpAny_call (codeAny_mono rc fun r s2 hq => ?_)
  cases r with
  | error e => exact L2N.passAt tk σZ pinsZ HZ s1 e s2 I1 hq
  | ok fl =>
    cases fl with
    | ret u => exact I1.after hq
    | _ => exact (show False from hq).elim
end
/-- what the def makes of the lambda's reading -/
def Gives (X : Cx) (k : Nat) (Ng : List Str) (x : Str) (sg : Scope) (g : Addr) (cdg : Value) (bg : List Stmt) (a : Str) (q : Str) (TT : (XK → Hp → VK → Prop) → Hp → VK → Prop) : Prop :=
  ∀ (f c' : Addr) (s : Shared) (H : Hp) (Q : VK) (tl : XK → Hp → VK → Prop), Room k (X.A.deeper (envOfC x sg s.heap.objs.size g cdg)) →
    (∀ (W : WX) (pn : List (Addr × Obj)) (xe : Value → Shared → Prop) (p1 p2 : Pos), L2N.Takes ((gvX X Ng x sg g cdg s H).tr pn xe) W →
      PE ((gvX X Ng x sg g cdg s H).tr pn xe) (.Call (.Name a p1) [] [] p2) (fun σZ HZ Q => σZ[0]? = some (some (.ref f)) ∧ HZ c' = some (LamX.CodeO c' q) ∧ tl (fun cls d H' => W cls d σZ H') HZ Q)) →
    H c' = some (LamX.CodeO c' q) → TT tl H Q →
    ∃ t, PSs (gvX X Ng x sg g cdg s H).nox bg t ∧ t { nx := fun _ H' => Q .non H', rt := Q } (L2.start Ng [.ref f]) H
/-- x(lambda: body) -/
theorem pe_lamcallN {X : Cx} {T : List (Addr × Str)} {TT : (XK → Hp → VK → Prop) → Hp → VK → Prop} {x a : Str} {g c P : Addr} {k : Nat} {pg params : Arguments} {bg : List Stmt} {sg scope : Scope} {dV kV doc pm cdv ct oc : Value} {an od : Option Addr}
    {osl : Array (Option Value)} {Ng : List Str} {body : Expr} {t : XK → TE} {p lpos pos : Pos} (hg : Gl X x) (hm : X.mg x = some (.ref g)) (hk : PySem.W.keepIn X.K (.ref g) = true)
    (lk : X.K.lookup g = some ⟨oc, od, .func (PySem.W.fnOf x x pg bg sg dV kV doc pm an cdv ct), osl⟩) (hcg : PySem.W.codeIn X.K cdv x = true) (hb : L2.Binds X.K (PySem.W.fnOf x x pg bg sg dV kV doc pm an cdv ct) [a] [])
    (Sg : FnScope Ng [a] sg) (hNg : Ng[0]? = some a) (hva : Vis sg a) (hG : Gives X (k + 1) Ng x sg g cdv bg a (lamQ X) TT)
    (TB : LamX.TabB X.base X.mg c P) (hcode : X.env.code = .ref c) (hmT : (P, lamQ X) ∈ T) (hu : ∀ p ∈ T, p.1 = P → p.2 = lamQ X) (hr : Room (k + 2) X.A) (L : LamX.LamS X.env.scope scope)
    (hdef : defaultsOf params X.env = ([], [])) (hbind : ∀ (q : Str) (cl : List (Str × Addr)) (pm cv ctv : Value), bindArgs (PySem.W.kla_fn "<lambda>" q params body scope cl pm cv ctv) ⟨[], []⟩ = pure [])
    (hbody : ∀ (A : Around) (outer : List Env) (s : Shared) (H : Hp) (E : XK) (f c' : Addr), Room k (A.deeper (LamX.lamEnv X scope s.heap.objs.size f c')) → PE (lamN X A outer s H E scope f c') body (t E))
    (hdb : (x == ("__debug__" : Str)) = false) (hd : (a == ("__debug__" : Str)) = false) (hcd : (a == ("__classdict__" : Str)) = false) :
    PE X (.Call (.Name x p) [.Lambda params body scope lpos] [] pos) (LamX.tLam T TT t) := by
  constructor
  rintro pins s σ H Q I ⟨hT, h⟩
  refine wpAny_Call_Name_kw (ld_glob I hg hm ?_ hdb)
  refine PySem.W.callWith_K (h₀ := X.base) I.ok.mod.kin hk ?_ (by rfl) (by rfl)
  refine Calls.spliced_cons (LamX.lam_make2 I TB hcode hmT hu hT hdef (L.has I.ok) fun f c' pm' ctv H1 s1 I1 eN T1 hf hfn hfr hco => ?_)
  refine Calls.spliced_nil ⟨I1.kIn, ?_⟩
  have rc : codeAny (model X.prog X.w) X.A (.call (.ref g) ⟨[.ref f], []⟩) (CR C8.CX0 X.stack X.prog X.w H1 s1 Q C8.E0) s1 := by
    refine LamX.run_ofS (N := Ng) (ps := [a]) (us := [.ref f]) (vs := [.ref f]) lk hcg Sg hr I1.env0 (hb s1 [.ref f] I1.kIn rfl) (.cons rfl .nil) rfl fun hr1 => ?_
    obtain ⟨t1, ht, hq⟩ := hG f c' s1 H1 Q (fun E H' Q' => t E σ H' Q') hr1
      (fun W pn xe p1 p2 tk => pe_actN (tb := t) I1 L hf hfn hfr (hbind _ _ _ _ _) tk hr1 (fun A outer s H E hr2 => hbody A outer s H E f c' hr2) hNg hva hd hcd) hco (h H1 eN T1)
    exact ⟨t1, ht.nox, hq⟩
  refine wpAny_call (codeAny_mono rc fun r s2 hq => ?_)
  cases r with
  | error e => exact (show False from hq).elim
  | ok fl =>
    cases fl with
    | ret u => exact I1.after hq
    | _ => exact (show False from hq).elim
end LX
/-! HX5: sum, min, max of a list or a tuple of ints -/
namespace L2H
open PySem PySem.W PyProof.Rows L2 PySem.Spec
section
variable {X : Cx}
def rSumA (K : PySem.W.Frag) : List V → Hp → VK → Prop := fun vs H Q => ∃ (a : Addr) (ns : List Int), vs = [V.ref a] ∧ (SqL K H a (ns.map V.int) ∨ SqT K H a (ns.map V.int)) ∧ Q (.int ns.sum) H
theorem cr_sumA (hc : X.calm = true) : CallR X (.builtin "sum") (rSumA X.K) := by
  intro pins s σ H vs us Q I r h
  obtain ⟨a, ns, rfl, hs, q⟩ := h
  rcases hs with hs | hs
  · exact cr_sum hc pins s σ H _ us Q I r ⟨a, ns, rfl, hs, q⟩
  · obtain ⟨its, rv, ht, _⟩ := I.tuple hs
    rw [Vals.ref1 r]
    obtain ⟨xs, e⟩ := (Vals.ints rv).allInts.items
    have hn : numsOf (intItems xs).toList = ns := by rw [← e]; exact (Vals.ints rv).numsOf
    rw [nums_intItems] at hn
    rw [e] at ht
    refine PySem.W.ktm_sumG (I.ok.hd hc) ht fun h' tk t' hk => ?_
    rw [preSum_eq, List.take_of_length_le (by simp), hn]
    exact ⟨.int _, H, I.kept hk, ⟨_, rfl⟩, q⟩
theorem alike_ints (ns : List Int) : PySem.W.AlikeAll (ns.map PyData.int) := by
  refine ⟨fun x hx y hy => ?_, fun x hx => ?_⟩
  · obtain ⟨i, _, rfl⟩ := List.mem_map.mp hx
    obtain ⟨j, _, rfl⟩ := List.mem_map.mp hy
    simp [PySem.W.alike]
  · obtain ⟨i, _, rfl⟩ := List.mem_map.mp hx
    exact fun y => nomatch y
theorem depth_ints : ∀ ns : List Int, PyData.depthAll (ns.map PyData.int) = 0
  | [] => by simp [PyData.depthAll]
  | n :: ns => by
    have := depth_ints ns
    simp [PyData.depthAll, PyData.depth, this]
theorem dp_ints {K : PySem.W.Frag} {H : Hp} : ∀ ns : List Int, DpAll K H (ns.map V.int) (ns.map PyData.int)
  | [] => .nil
  | n :: ns => .cons (.int n) (dp_ints ns)
def rMinA (K : PySem.W.Frag) : List V → Hp → VK → Prop := fun vs H Q => ∃ (a : Addr) (ns : List Int), vs = [V.ref a] ∧ (SqL K H a (ns.map V.int) ∨ SqT K H a (ns.map V.int)) ∧ 0 < ns.length ∧ ∀ m, m ∈ ns → (∀ y, y ∈ ns → m ≤ y) → Q (.int m) H
def rMaxA (K : PySem.W.Frag) : List V → Hp → VK → Prop := fun vs H Q => ∃ (a : Addr) (ns : List Int), vs = [V.ref a] ∧ (SqL K H a (ns.map V.int) ∨ SqT K H a (ns.map V.int)) ∧ 0 < ns.length ∧ ∀ m, m ∈ ns → (∀ y, y ∈ ns → y ≤ m) → Q (.int m) H
theorem fold_min : ∀ (ns : List Int) (n : Int), ns.foldl min n ∈ n :: ns ∧ ∀ y ∈ n :: ns, ns.foldl min n ≤ y
  | [], n => by simp
  | m :: ns, n => by
    obtain ⟨h1, h2⟩ := fold_min ns (min n m)
    rw [List.foldl_cons]
    refine ⟨?_, fun y hy => ?_⟩
    · rcases List.mem_cons.mp h1 with e | e
      · rw [e]
        by_cases c : n ≤ m
        · rw [Int.min_eq_left c]; exact List.mem_cons_self
        · rw [Int.min_eq_right (by omega)]; exact List.mem_cons_of_mem _ List.mem_cons_self
      · exact List.mem_cons_of_mem _ (List.mem_cons_of_mem _ e)
    · have h0 := h2 _ List.mem_cons_self
      rcases List.mem_cons.mp hy with rfl | hy
      · omega
      · rcases List.mem_cons.mp hy with rfl | hy
        · omega
        · exact h2 y (List.mem_cons_of_mem _ hy)
theorem fold_max : ∀ (ns : List Int) (n : Int), ns.foldl max n ∈ n :: ns ∧ ∀ y ∈ n :: ns, y ≤ ns.foldl max n
  | [], n => by simp
  | m :: ns, n => by
    obtain ⟨h1, h2⟩ := fold_max ns (max n m)
    rw [List.foldl_cons]
    refine ⟨?_, fun y hy => ?_⟩
    · rcases List.mem_cons.mp h1 with e | e
      · rw [e]
        by_cases c : m ≤ n
        · rw [Int.max_eq_left c]; exact List.mem_cons_self
        · rw [Int.max_eq_right (by omega)]; exact List.mem_cons_of_mem _ List.mem_cons_self
      · exact List.mem_cons_of_mem _ (List.mem_cons_of_mem _ e)
    · have h0 := h2 _ List.mem_cons_self
      rcases List.mem_cons.mp hy with rfl | hy
      · omega
      · rcases List.mem_cons.mp hy with rfl | hy
        · omega
        · exact h2 y (List.mem_cons_of_mem _ hy)
theorem cr_minA (hc : X.calm = true) (hu : X.A.units + 1 < cLine) : CallR X (.builtin "min") (rMinA X.K) := by
  intro pins s σ H vs us Q I r h
  obtain ⟨a, ns, rfl, hs, hne, q⟩ := h
  rcases hs with hs | hs
  · exact cr_min hc pins s σ H _ us Q I r ⟨a, ns, rfl, hs, hne, q⟩
  · obtain ⟨its, rv, ht, _⟩ := I.tuple hs
    rw [Vals.ref1 r]
    cases ns with
    | nil => exact absurd hne (Nat.lt_irrefl _)
    | cons n ns =>
      obtain ⟨as, hr⟩ := Dp.readsAll I ((n :: ns).map PyData.int) _ its (dp_ints (n :: ns)) rv
      refine PySem.W.min_tuple_data (vs := its.toArray) (x := .int n) (xs := ns.map PyData.int) (I.ok.hd hc) ht (by simpa using hr) (alike_ints (n :: ns)) (by have := depth_ints (n :: ns); rw [List.map_cons] at this; rw [this]; omega) fun i v h' tk bs hv hR hk => ?_
      rw [PySem.W.minD_ints] at hR
      cases hR with
      | int =>
        obtain ⟨h1, h2⟩ := fold_min ns n
        exact ⟨.int _, H, I.kept hk, ⟨_, rfl⟩, q _ h1 h2⟩
theorem cr_maxA (hc : X.calm = true) (hu : X.A.units + 1 < cLine) : CallR X (.builtin "max") (rMaxA X.K) := by
  intro pins s σ H vs us Q I r h
  obtain ⟨a, ns, rfl, hs, hne, q⟩ := h
  rcases hs with hs | hs
  · exact cr_max hc pins s σ H _ us Q I r ⟨a, ns, rfl, hs, hne, q⟩
  · obtain ⟨its, rv, ht, _⟩ := I.tuple hs
    rw [Vals.ref1 r]
    cases ns with
    | nil => exact absurd hne (Nat.lt_irrefl _)
    | cons n ns =>
      obtain ⟨as, hr⟩ := Dp.readsAll I ((n :: ns).map PyData.int) _ its (dp_ints (n :: ns)) rv
      refine PySem.W.max_tuple_data (vs := its.toArray) (x := .int n) (xs := ns.map PyData.int) (I.ok.hd hc) ht (by simpa using hr) (alike_ints (n :: ns)) (by have := depth_ints (n :: ns); rw [List.map_cons] at this; rw [this]; omega) fun i v h' tk bs hv hR hk => ?_
      rw [PySem.W.maxD_ints] at hR
      cases hR with
      | int =>
        obtain ⟨h1, h2⟩ := fold_max ns n
        exact ⟨.int _, H, I.kept hk, ⟨_, rfl⟩, q _ h1 h2⟩
end
end L2H
/-! HX6: floor division by any number of few bits; a tuple times 1 -/
namespace L2H
open PySem PySem.Spec PyProof.Rows L2
open PySem.SeqAt
open PySem.AutoSeq1 (wpAny_loadPart')
open PySem.MeetsSeq PySem.MeetsSeq2 PySem.MeetsSeq3
def CDivA (_ j : Int) : Prop := j ≠ 0 ∧ j.natAbs.log2 < 9000
section
variable {X : Cx}
theorem op_fdivA : OpR X (binaryOp .FloorDiv) (rI CDivA fun i j => .int (i.fdiv j)) := opI fun i j _ _ _ _ _ hc q => floordiv_int hc.1 q (.inl (PyProof.noPylong_of_log2 hc.2))
theorem tuple_mul1 (l : Addr) (items : Array Value) (n : Nat) (dd : Option Addr) (sl : Array (Option Value)) (u : Tok) :
    Meets (Builtin.«tuple.__mul__» ⟨[.ref l, .int 1 u], []⟩) (fun _ R s => s.heap.get? l = some { cls := .type "tuple", dict := dd, data := .seq items n, slots := sl } ∧ R (.ok (.ret (Value.ref l))) s) :=
  .of_wp fun prog w A R s h => by
    obtain ⟨hp, g, d, tk, os⟩ := s
    obtain ⟨hl, h⟩ := h
    have f1 := AutoSeq1.idx_int
    have c1 : (items.isEmpty || (1 : Int) == 1) = true := by simp
    wp_walk using wpAny_loadPart' hl
    exact ⟨_, rfl, h⟩
def rRep1 (K : PySem.W.Frag) : R2 := fun x y H Q => ∃ l xs, x = .ref l ∧ y = .int 1 ∧ SqT K H l xs ∧ Q (.ref l) H
theorem op_rep1 : OpR X (binaryOp .Mult) (rRep1 X.K) := by
  intro pins s σ H x y v u Q I rx ry h
  obtain ⟨l, xs, rfl, rfl, hT, q⟩ := h
  cases rx
  obtain ⟨t, rfl⟩ := ry
  obtain ⟨its, r, ⟨⟨cls, dd, data, sl⟩, ho, hc, n, hd⟩, hs⟩ := I.tuple hT
  simp only at hc hd
  subst hc hd
  refine wpAny_binaryOp_repeat_ref (T := "tuple") (U := "int") (by decide) ⟨_, ho, rfl⟩ (fun s' => typeIs_int s' 1 t) noFill_tuple_mul F.fills_int_mul F.slot_int_rmul repeat_tuple F.slot_int_index.lookup
    (call_meets F.slot_int_rmul (typeIs_int s 1 t) F.entry_int_rmul (F.args_int_rmul_2 _ _) (int_rmul_tuple 1 t l its.toArray n dd sl)
      ⟨ho, rfl, ⟨_, ho, rfl⟩, call_meets F.slot_tuple_mul ⟨_, ho, rfl⟩ F.entry_tuple_mul (F.args_tuple_mul_2 _ _) (tuple_mul1 l its.toArray n dd sl t) ⟨ho, ?_⟩⟩)
  exact ⟨.ref l, H, I, rfl, q⟩
end
end L2H
/-! HX7: min and max of a list or a tuple of alike data -/
namespace L2H
open PySem PySem.W PyProof.Rows L2 PySem.Spec
section
variable {X : Cx}
theorem min_mem : ∀ (xs : List PyData) (x : PyData), minD x xs ∈ x :: xs
  | [], x => List.mem_cons_self
  | y :: xs, x => by
    have e : minD x (y :: xs) = minD (if dataLt y x then y else x) xs := rfl
    rw [e]
    have h := min_mem xs (if dataLt y x then y else x)
    rcases List.mem_cons.mp h with h | h
    · rw [h]
      split
      · exact List.mem_cons_of_mem _ List.mem_cons_self
      · exact List.mem_cons_self
    · exact List.mem_cons_of_mem _ (List.mem_cons_of_mem _ h)
theorem max_mem : ∀ (xs : List PyData) (x : PyData), maxD x xs ∈ x :: xs
  | [], x => List.mem_cons_self
  | y :: xs, x => by
    have e : maxD x (y :: xs) = maxD (if dataLt x y then y else x) xs := rfl
    rw [e]
    have h := max_mem xs (if dataLt x y then y else x)
    rcases List.mem_cons.mp h with h | h
    · rw [h]
      split
      · exact List.mem_cons_of_mem _ List.mem_cons_self
      · exact List.mem_cons_self
    · exact List.mem_cons_of_mem _ (List.mem_cons_of_mem _ h)
def rMinD (K : PySem.W.Frag) : List V → Hp → VK → Prop := fun vs H Q => ∃ (a : Addr) (ws : List V) (x : PyData) (xs : List PyData), vs = [V.ref a] ∧ (SqL K H a ws ∨ SqT K H a ws) ∧ DpAll K H ws (x :: xs) ∧ AlikeAll (x :: xs) ∧ PyData.depthAll (x :: xs) ≤ 50 ∧ ∀ (i : Nat) (v : V), ws[i]? = some v → (x :: xs)[i]? = some (minD x xs) → Q v H
def rMaxD (K : PySem.W.Frag) : List V → Hp → VK → Prop := fun vs H Q => ∃ (a : Addr) (ws : List V) (x : PyData) (xs : List PyData), vs = [V.ref a] ∧ (SqL K H a ws ∨ SqT K H a ws) ∧ DpAll K H ws (x :: xs) ∧ AlikeAll (x :: xs) ∧ PyData.depthAll (x :: xs) ≤ 50 ∧ ∀ (i : Nat) (v : V), ws[i]? = some v → (x :: xs)[i]? = some (maxD x xs) → Q v H
theorem vals_at : ∀ {ws : List V} {us : List Value}, Vals ws us → ∀ (i : Nat) (u : Value), us[i]? = some u → ∃ v, ws[i]? = some v ∧ RelV v u
  | _, _, .nil, _, _, h => by simp at h
  | _, _, .cons h t, 0, u, e => by
    cases (show some _ = some u from e)
    exact ⟨_, rfl, h⟩
  | _, _, .cons h t, i + 1, u, e => by
    obtain ⟨v, h1, h2⟩ := vals_at t i u (by simpa using e)
    exact ⟨v, by simpa using h1, h2⟩
theorem pick {its : List Value} {as : List Addr} {ws : List V} {h h' : Heap} {x m : PyData} {xs : List PyData} {bs : List Addr} {i : Nat} {v : Value} (rv : Vals ws its) (hr : ReadsAll h its (x :: xs) as) (ha : AlikeAll (x :: xs)) (hm : m ∈ x :: xs) (hv : its[i]? = some v) (hR : Reads h' v m bs) (hk : ∀ b o, h.get? b = some o → h'.get? b = some o) :
    ∃ w, ws[i]? = some w ∧ RelV w v ∧ (x :: xs)[i]? = some m := by
  obtain ⟨w, e, r⟩ := vals_at rv i v hv
  obtain ⟨cs, q1, q2, q3, _⟩ := readsAll_at hr i v hv
  have e2 := alike_unique ((x :: xs).getD i .none) m v cs bs (ha.1 _ q3 _ hm) (reads_keeps hk q1) hR
  refine ⟨w, e, r, ?_⟩
  rw [← e2, List.getD_eq_getElem?_getD, List.getElem?_eq_getElem q2]
  rfl
theorem cr_minD (hc : X.calm = true) (hu : X.A.units + 64 < cLine) : CallR X (.builtin "min") (rMinD X.K) := by
  intro pins s σ H vs us Q I r h
  obtain ⟨a, ws, x, xs, rfl, hs, hd, ha, hdep, q⟩ := h
  rw [Vals.ref1 r]
  rcases hs with hs | hs
  · obtain ⟨its, rv, ht, _⟩ := I.list hs
    obtain ⟨as, hr⟩ := Dp.readsAll I (x :: xs) _ its hd rv
    refine PySem.W.min_list_data (vs := its.toArray) (x := x) (xs := xs) (I.ok.hd hc) ht.isList (by simpa using hr) ha (by omega) fun i v h' tk bs hv hR hk => ?_
    obtain ⟨w, e1, e2, e3⟩ := pick rv hr ha (min_mem xs x) (by simpa using hv) hR hk
    exact ⟨w, H, I.kept hk, e2, q i w e1 e3⟩
  · obtain ⟨its, rv, ht, _⟩ := I.tuple hs
    obtain ⟨as, hr⟩ := Dp.readsAll I (x :: xs) _ its hd rv
    refine PySem.W.min_tuple_data (vs := its.toArray) (x := x) (xs := xs) (I.ok.hd hc) ht (by simpa using hr) ha (by omega) fun i v h' tk bs hv hR hk => ?_
    obtain ⟨w, e1, e2, e3⟩ := pick rv hr ha (min_mem xs x) (by simpa using hv) hR hk
    exact ⟨w, H, I.kept hk, e2, q i w e1 e3⟩
theorem cr_maxD (hc : X.calm = true) (hu : X.A.units + 64 < cLine) : CallR X (.builtin "max") (rMaxD X.K) := by
  intro pins s σ H vs us Q I r h
  obtain ⟨a, ws, x, xs, rfl, hs, hd, ha, hdep, q⟩ := h
  rw [Vals.ref1 r]
  rcases hs with hs | hs
  · obtain ⟨its, rv, ht, _⟩ := I.list hs
    obtain ⟨as, hr⟩ := Dp.readsAll I (x :: xs) _ its hd rv
    refine PySem.W.max_list_data (vs := its.toArray) (x := x) (xs := xs) (I.ok.hd hc) ht.isList (by simpa using hr) ha (by omega) fun i v h' tk bs hv hR hk => ?_
    obtain ⟨w, e1, e2, e3⟩ := pick rv hr ha (max_mem xs x) (by simpa using hv) hR hk
    exact ⟨w, H, I.kept hk, e2, q i w e1 e3⟩
  · obtain ⟨its, rv, ht, _⟩ := I.tuple hs
    obtain ⟨as, hr⟩ := Dp.readsAll I (x :: xs) _ its hd rv
    refine PySem.W.max_tuple_data (vs := its.toArray) (x := x) (xs := xs) (I.ok.hd hc) ht (by simpa using hr) ha (by omega) fun i v h' tk bs hv hR hk => ?_
    obtain ⟨w, e1, e2, e3⟩ := pick rv hr ha (max_mem xs x) (by simpa using hv) hR hk
    exact ⟨w, H, I.kept hk, e2, q i w e1 e3⟩
end
end L2H
/-! DL1: plain data, draws, own syntax, its interpreter -/
namespace DL
open PySem

inductive D where
  | non | bl (b : Bool) | int (i : Int) | str (x : Str)
  | tup (xs : List D) | lst (xs : List D)
  | ref (n : Nat) | fn (k : Nat) | cls (k : Nat) | ty (n : String) | scr (ns : List Int) | exn
deriving Inhabited

/-- what a ref stands for: a list, a dict (keys ints and texts; keys tuples of them), a thing frozen, the cup of draws -/
inductive Ob where
  | lst (xs : List D) | dK (kvs : List (D × D)) | dT (kvs : List (D × D)) | fro (d : D) | cup
abbrev Mem := List Ob

/-- demonic draws -/
inductive T (α : Type) where
  | ret (a : α) | roll (n : Nat) (k : Nat → T α)
def T.bind {α β : Type} : T α → (α → T β) → T β
  | .ret a, f => f a
  | .roll n k, f => .roll n fun r => (k r).bind f
/-- whatever is drawn, Q holds at the end -/
def T.good {α : Type} : T α → (α → Prop) → Prop
  | .ret a, Q => Q a
  | .roll n k, Q => ∀ r, r < n → (k r).good Q
def allBelow (p : Nat → Bool) : Nat → Bool
  | 0 => true
  | n + 1 => allBelow p n && p n
def T.all {α : Type} : T α → (α → Bool) → Bool
  | .ret a, Q => Q a
  | .roll n k, Q => allBelow (fun r => (k r).all Q) n

inductive R (α : Type) where
  | ok (a : α) (μ : Mem) | exc (c : Nat) (xs : List D) (μ : Mem) | bad
abbrev M (α : Type) := Mem → T (R α)
def M.pure {α : Type} (a : α) : M α := fun μ => .ret (.ok a μ)
def M.bad {α : Type} : M α := fun _ => .ret .bad
def M.andThen {α β : Type} (f : α → M β) : R α → T (R β)
  | .ok a μ => f a μ
  | .exc c xs μ => .ret (.exc c xs μ)
  | .bad => .ret .bad
def M.bind {α β : Type} (m : M α) (f : α → M β) : M β := fun μ => (m μ).bind (M.andThen f)
def M.opt {α : Type} : Option α → M α
  | some a => M.pure a
  | none => M.bad
instance : Monad M where
  pure := M.pure
  bind := M.bind

/-! ### data -/
mutual
def D.py : D → Option PyData
  | .non => some .none
  | .bl b => some (.bool b)
  | .int i => some (.int i)
  | .str x => some (.str x)
  | .tup xs => match D.pys xs with
    | some ys => some (.tuple ys)
    | none => none
  | .lst xs => match D.pys xs with
    | some ys => some (.list ys)
    | none => none
  | _ => none
def D.pys : List D → Option (List PyData)
  | [] => some []
  | x :: xs => match D.py x, D.pys xs with
    | some y, some ys => some (y :: ys)
    | _, _ => none
end
def D.eqv (a b : D) : Option Bool := match a.py, b.py with
  | some x, some y => if SeqAt.shaped x && SeqAt.shaped y then some (PyData.eqv x y) else none
  | _, _ => none
def D.flat : D → Bool
  | .non | .bl _ | .int _ | .str _ => true
  | _ => false
def D.isNon : D → Bool
  | .non => true
  | _ => false
def D.eqF : D → D → Bool
  | .non, .non => true
  | .bl a, .bl b => a == b
  | .bl a, .int j => (if a then 1 else 0) == j
  | .int i, .bl b => i == (if b then 1 else 0)
  | .int i, .int j => i == j
  | .str x, .str y => decide (x = y)
  | _, _ => false

abbrev Env := List (Option D)
def get (ρ : Env) (i : Nat) : M D := match ρ[i]? with
  | some (some d) => M.pure d
  | _ => M.bad
/-- a ref to a frozen thing is the thing -/
def res (d : D) : M D := fun μ => match d with
  | .ref n => match μ[n]? with
    | some (.fro x) => .ret (.ok x μ)
    | _ => .ret (.ok d μ)
  | _ => .ret (.ok d μ)
/-- freeze -/
def frz (d : D) : M D := fun μ => match d with
  | .ref n => match μ[n]? with
    | some (.fro x) => .ret (.ok x μ)
    | some (.lst xs) => .ret (.ok (.lst xs) (μ.set n (.fro (.lst xs))))
    | _ => .ret .bad
  | _ => .ret (.ok d μ)
def alloc (o : Ob) : M D := fun μ => .ret (.ok (.ref μ.length) (μ ++ [o]))
/-- a list's or a tuple's items -/
def seqL (d : D) : M (List D) := fun μ => match d with
  | .lst xs => .ret (.ok xs μ)
  | .ref n => match μ[n]? with
    | some (.lst xs) => .ret (.ok xs μ)
    | _ => .ret .bad
  | _ => .ret .bad
def seqT (d : D) : M (List D) := match d with
  | .tup xs => M.pure xs
  | _ => M.bad
def seqA (d : D) : M (List D) := match d with
  | .tup xs => M.pure xs
  | _ => seqL d
/-- .. that stand still -/
def still (d : D) : M (List D) := match d with
  | .tup xs => M.pure xs
  | .lst xs => M.pure xs
  | _ => M.bad
def truth (d : D) : M Bool := match d with
  | .non => M.pure false
  | .bl b => M.pure b
  | .int i => M.pure (i != 0)
  | .str x => if x.length ≤ sizeLine then M.pure ((x.length : Int) != 0) else M.bad
  | .tup xs => M.pure !xs.isEmpty
  | .lst xs => M.pure !xs.isEmpty
  | .ref n => fun μ => match μ[n]? with
    | some (.lst xs) => .ret (.ok (!xs.isEmpty) μ)
    | some (.dK kvs) => .ret (.ok (!kvs.isEmpty) μ)
    | _ => .ret .bad
  | _ => M.bad

/-! ### own syntax -/
inductive Op2 where
  | add | sub | mul | fdiv | mod | pow | shl | shr | band | bor | bxor
deriving DecidableEq
inductive Cp where
  | eq | ne | lt | le | gt | ge | isN | notN | mem | nmem | isB | notB
deriving DecidableEq
inductive Bf where
  | len | abs | sum | min1 | max1 | minD | maxD | min2 | max2 | int | list | tuple | gcd | isin | all | any
deriving DecidableEq
inductive Tz where
  | nm (i : Nat) | tp (ts : Tz) | nil | cons (t ts : Tz)
deriving DecidableEq
inductive Ez where
  | non | bl (b : Bool) | int (i : Int) | str (x : Str)
  | var (i : Nat) | frz (i : Nat)
  | gfn (k : Nat) | gcon (k : Nat) | gty (n : String)
  | bin (o : Op2) (a b : Ez) | neg (a : Ez)
  | cmp (c : Cp) (a b : Ez) | chain (c c' : Cp) (a b d : Ez)
  | bool (o : BoolOp) (es : Ez) | not (a : Ez) | ife (c a b : Ez)
  | tup (es : Ez) | lst (es : Ez) | idx (a i : Ez) | slc (a : Ez) (lo hi : Ez)
  | mkl (a : Ez) | call (k : Nat) (es : Ez) | bf (f : Bf) (es : Ez)
  | lc (tg : Tz) (it cond elt : Ez)
  | range1 (a : Ez) | range2 (a b : Ez) | enum (a : Ez) | zip (a b : Ez) | zipL (a b : Ez)
  | bad | isx (a : Ez) (q : Nat) | join (s : Str) (b : Ez) | err (k : Nat) (a : Ez) | callv (i : Nat) (es : Ez)
  | dnew (t : Bool) | dget (a b : Ez) | dgetT (a es : Ez) | lrng (a b : Ez) | trng (a b : Ez)
  | rev (a : Ez) | range3 (a b c : Ez) | index (a b : Ez)
  | nil | cons (e es : Ez)
inductive Sz where
  | set (i : Nat) (e : Ez) | tset (ts : Tz) (e : Ez) | par (is : List Nat) (e : Ez)
  | setix (o i e : Ez) | dset (o i e : Ez) | dsetT (o es e : Ez) | app (o e : Ez) | raise (c : Nat) | expr (e : Ez) | ret (e : Ez) | ite (c : Ez) (a b : Sz)
  | for (tg : Tz) (it : Ez) (b : Sz) | while (n : Nat) (c : Ez) (b : Sz)
  | never | pass | brk | cont
  | nil | cons (s ss : Sz)

/-! ### operators -/
def lim : Int := 2 ^ 62
/-- operators that make a new list -/
def binopL (o : Op2) (a b : D) : M (List D) := match o with
  | .add => (seqL a).bind fun xs => (seqL b).bind fun ys => if xs.length + ys.length ≤ sizeLine then M.pure (xs ++ ys) else M.bad
  | .mul => match b with
    | .int k => (seqL a).bind fun xs => if (-(2 ^ 63) ≤ k ∧ k < 2 ^ 63) ∧ xs.length * k.toNat ≤ sizeLine then M.pure (List.replicate k.toNat xs).flatten else M.bad
    | _ => M.bad
  | _ => M.bad
def binop (o : Op2) (a b : D) : M D := match o, a, b with
  | .add, .int i, .int j => M.pure (.int (i + j))
  | .add, .tup xs, .tup ys => if xs.length + ys.length ≤ sizeLine then M.pure (.tup (xs ++ ys)) else M.bad
  | .add, .str x, .str y => if x.length + y.length ≤ sizeLine then M.pure (.str (x ++ y)) else M.bad
  | .sub, .int i, .int j => M.pure (.int (i - j))
  | .mul, .int i, .int j => if (decide (-(2 ^ 64) < i) && decide (i < 2 ^ 64)) || (decide (-(2 ^ 64) < j) && decide (j < 2 ^ 64)) then M.pure (.int (i * j)) else
      if i.natAbs.log2 + j.natAbs.log2 < 1000000 then M.pure (.int (i * j)) else M.bad
  | .mul, .tup xs, .int k => if k = 1 then M.pure (.tup xs) else if xs.isEmpty = false ∧ (2 ≤ k ∧ k ≤ 1000) ∧ xs.length ≤ 1000 then M.pure (.tup (List.replicate k.toNat xs).flatten) else M.bad
  | .fdiv, .int i, .int j => if j ≠ 0 ∧ j.natAbs < 1073741824 then M.pure (.int (i.fdiv j)) else
      if j ≠ 0 ∧ j.natAbs.log2 < 9000 then M.pure (.int (i.fdiv j)) else M.bad
  | .mod, .int i, .int j => if j ≠ 0 then M.pure (.int (i.fmod j)) else M.bad
  | .pow, .int i, .int j => if 0 ≤ j ∧ j ≤ 1000000 ∧ i.natAbs < 2 ^ 64 then M.pure (.int (i ^ j.toNat)) else M.bad
  | .shl, .int i, .int j => if 0 ≤ j ∧ j ≤ 1000000 ∧ i.natAbs < 2 ^ 64 then M.pure (.int (i * 2 ^ j.toNat)) else M.bad
  | .shr, .int i, .int j => if 0 ≤ j then M.pure (.int (i / 2 ^ j.toNat)) else M.bad
  | .band, .int i, .int j => M.pure (.int (Builtin.bitAnd i j))
  | .bor, .int i, .int j => M.pure (.int (Builtin.bitOr i j))
  | .bxor, .int i, .int j => M.pure (.int (Builtin.bitXor i j))
  | o, a, b => (binopL o a b).bind fun xs => M.pure (.lst xs)
/-- a live list, as it is now -/
def peek (d : D) : M D := fun μ => match d with
  | .ref n => match μ[n]? with
    | some (.lst xs) => .ret (.ok (.lst xs) μ)
    | some (.fro x) => .ret (.ok x μ)
    | _ => .ret .bad
  | _ => .ret (.ok d μ)
def eqvM (a b : D) (neg : Bool) : M D := match D.eqv a b with
  | some k => M.pure (.bl (if neg then !k else k))
  | none => M.bad
def cmpop (c : Cp) (a b : D) : M D := match c, a, b with
  | .eq, a, b => (peek a).bind fun x => (peek b).bind fun y => eqvM x y false
  | .ne, a, b => (peek a).bind fun x => (peek b).bind fun y => eqvM x y true
  | .lt, .int i, .int j => M.pure (.bl (decide (i < j)))
  | .le, .int i, .int j => M.pure (.bl (decide (i ≤ j)))
  | .gt, .int i, .int j => M.pure (.bl (decide (j < i)))
  | .ge, .int i, .int j => M.pure (.bl (decide (j ≤ i)))
  | .isN, a, .non => M.pure (.bl a.isNon)
  | .notN, a, .non => M.pure (.bl (!a.isNon))
  | .isB, .bl a, .bl b => M.pure (.bl (decide (a = b)))
  | .notB, .bl a, .bl b => M.pure (.bl (!decide (a = b)))
  | .mem, a, b => (seqA b).bind fun xs => if a.flat && xs.all D.flat then M.pure (.bl (xs.any fun y => D.eqF y a)) else M.bad
  | .nmem, a, b => (seqA b).bind fun xs => if a.flat && xs.all D.flat then M.pure (.bl !(xs.any fun y => D.eqF y a)) else M.bad
  | _, _, _ => M.bad
/-- the type's name, for isinstance -/
def tyName : D → Option String
  | .non => some "NoneType"
  | .bl _ => some "bool"
  | .int _ => some "int"
  | .str _ => some "str"
  | .tup _ => some "tuple"
  | .lst _ => some "list"
  | _ => none
def isTy (a n : String) : Bool := a == n || (a == "bool" && n == "int")
def tyOk (n : String) : Bool := n == "bool" || n == "int" || n == "str" || n == "tuple" || n == "list"
def intsOf : List D → Option (List Int)
  | [] => some []
  | .int i :: xs => match intsOf xs with
    | some is => some (i :: is)
    | none => none
  | _ => none
def blsOf : List D → Option (List Bool)
  | [] => some []
  | .bl i :: xs => match blsOf xs with
    | some is => some (i :: is)
    | none => none
  | _ => none
/-- the first best of alike data -/
def bestD (lt : PyData → PyData → Bool) : D → PyData → List D → List PyData → D
  | d, p, e :: es, q :: qs => if lt q p then bestD lt e q es qs else bestD lt d p es qs
  | d, _, _, _ => d
def isNo : PyData → Bool
  | .none => true
  | _ => false
def alikeL (xs : List PyData) : Bool := (xs.all fun x => xs.all fun y => PySem.W.alike x y) && (xs.all fun x => !isNo x)
def bestOf (lt : PyData → PyData → Bool) (xs : List D) : Option D := match xs, D.pys xs with
  | x :: xs, some (p :: ps) => if alikeL (p :: ps) && decide (PyData.depthAll (p :: ps) ≤ 50) then some (bestD lt x p xs ps) else none
  | _, _ => none
/-- list(x) -/
def bfL (f : Bf) (as : List D) : M (List D) := match f, as with
  | .list, [.scr ns] => M.pure (ns.map D.int)
  | .list, [a] => seqA a
  | _, _ => M.bad
def bfop (f : Bf) (as : List D) : M D := match f, as with
  | .len, [a] => (seqA a).bind fun xs => M.pure (.int xs.length)
  | .abs, [.int i] => M.pure (.int (if i < 0 then -i else i))
  | .int, [.int i] => M.pure (.int i)
  | .min2, [.int i, .int j] => M.pure (.int (if j < i then j else i))
  | .max2, [.int i, .int j] => M.pure (.int (if j > i then j else i))
  | .gcd, [.int i, .int j] => M.pure (.int ((Nat.gcd i.natAbs j.natAbs : Nat) : Int))
  | .sum, [a] => (seqA a).bind fun xs => (M.opt (intsOf xs)).bind fun is => M.pure (.int is.sum)
  | .min1, [a] => (seqA a).bind fun xs => (M.opt (intsOf xs)).bind fun is => (M.opt is.min?).bind fun i => M.pure (.int i)
  | .max1, [a] => (seqA a).bind fun xs => (M.opt (intsOf xs)).bind fun is => (M.opt is.max?).bind fun i => M.pure (.int i)
  | .minD, [a] => (seqA a).bind fun xs => M.opt (bestOf (fun y a => PySem.W.dataLt y a) xs)
  | .maxD, [a] => (seqA a).bind fun xs => M.opt (bestOf (fun y a => PySem.W.dataLt a y) xs)
  | .all, [a] => (seqL a).bind fun xs => (M.opt (blsOf xs)).bind fun is => M.pure (.bl (is.all id))
  | .any, [a] => (seqL a).bind fun xs => (M.opt (blsOf xs)).bind fun is => M.pure (.bl (is.any id))
  | .tuple, [a] => (seqA a).bind fun xs => M.pure (.tup xs)
  | .isin, [a, .ty n] => match tyName a with
    | some t => if tyOk n then M.pure (.bl (isTy t n)) else M.bad
    | none => M.bad
  | .list, as => (bfL .list as).bind fun xs => M.pure (.lst xs)
  | _, _ => M.bad
def idxop (a b : D) : M D := match b with
  | .int i => (seqA a).bind fun xs => M.opt (L2.atI xs i)
  | _ => M.bad
def part (d : Option D) : Option (Option Int) := match d with
  | none => some none
  | some (.int i) => some (some i)
  | _ => none
def cut (xs : List D) (lo hi : Option Int) : List D := (xs.drop (HT.sIx xs.length 0 lo)).take (HT.sIx xs.length xs.length hi - HT.sIx xs.length 0 lo)

/-! ### targets -/
mutual
def bindT : Tz → D → Env → Option Env
  | .nm i, d, ρ => if i < ρ.length then some (ρ.set i (some d)) else none
  | .tp ts, d, ρ => match d with
    | .tup xs => bindTs ts xs ρ
    | _ => none
  | .nil, _, _ => none
  | .cons _ _, _, _ => none
def bindTs : Tz → List D → Env → Option Env
  | .nil, [], ρ => some ρ
  | .cons t ts, d :: ds, ρ => match bindT t d ρ with
    | some ρ' => bindTs ts ds ρ'
    | none => none
  | _, _, _ => none
end
def Tz.slots : Tz → List Nat
  | .nm i => [i]
  | .tp ts => ts.slots
  | .nil => []
  | .cons t ts => t.slots ++ ts.slots
def wipeE (ρ : Env) : List Nat → Env
  | [] => ρ
  | i :: is => (wipeE ρ is).set i none

/-! ### the interpreter -/
def lcGo (ds : List D) (f : D → M (Option D)) : M (List D) := match ds with
  | [] => M.pure []
  | d :: ds => (f d).bind fun r => (lcGo ds f).bind fun rs => M.pure (match r with
    | some e => e :: rs
    | none => rs)
/-- no exception leaves -/
def calmR {α : Type} : R α → T (R α)
  | .ok a μ' => .ret (.ok a μ')
  | _ => .ret .bad
def calmM {α : Type} (m : M α) : M α := fun μ => (m μ).bind calmR
/-- what a piece of syntax is worth: as an expression, a test, written items, what is walked, a part of a slice, a chain of and | or (as a value, as a test), a new list -/
structure Fn where
  e : Env → M D
  t : Env → M Bool
  es : Env → M (List D)
  i : Env → M (List D)
  p : Env → M (Option Int)
  b : BoolOp → Env → M D
  bt : BoolOp → Env → M Bool
  l : Env → M (List D)
  nil : Bool
def asInt : D → M (Option Int)
  | .int i => M.pure (some i)
  | _ => M.bad
def Fn.ofE (f : Env → M D) : Fn where
  e := f
  t := fun ρ => (f ρ).bind truth
  es := fun _ => M.bad
  i := fun ρ => (f ρ).bind still
  p := fun ρ => (f ρ).bind asInt
  b := fun _ _ => M.bad
  bt := fun _ _ => M.bad
  l := fun _ => M.bad
  nil := false
def Fn.ofL (f : Env → M (List D)) : Fn := { Fn.ofE (fun ρ => (f ρ).bind fun xs => M.pure (.lst xs)) with l := f }
def Fn.ofI (f : Env → M (List D)) : Fn := { Fn.ofE (fun _ => M.bad) with i := f }
def negop : D → M D
  | .int i => M.pure (.int (-i))
  | _ => M.bad
def chainop (c' : Cp) (y : D) (z : M D) : D → M D
  | .bl true => z.bind fun z => cmpop c' y z
  | .bl false => M.pure (.bl false)
  | _ => M.bad
def slcop (l h : Option Int) (x : D) : M D := match x with
  | .tup xs => M.pure (.tup (cut xs l h))
  | _ => (seqL x).bind fun xs => M.pure (.lst (cut xs l h))
def lenOk (xs : List D) : M (List D) := if xs.length ≤ sizeLine then M.pure xs else M.bad
def boolV (o : BoolOp) (k : Bool) (x : D) (rest : M D) : M D := match o, k with
  | .And, true => rest
  | .And, false => M.pure x
  | .Or, true => M.pure x
  | .Or, false => rest
def boolT (o : BoolOp) (k : Bool) (rest : M Bool) : M Bool := match o, k with
  | .And, true => rest
  | .And, false => M.pure false
  | .Or, true => M.pure true
  | .Or, false => rest
def rng1 : D → M (List D)
  | .int n => if -lim ≤ n ∧ n < lim then M.pure ((List.range n.toNat).map fun (i : Nat) => D.int (i : Int)) else M.bad
  | _ => M.bad
def rng2 : D → D → M (List D)
  | .int i, .int j => if (-lim ≤ i ∧ i < lim) ∧ (-lim ≤ j ∧ j < lim) then M.pure ((List.range (j - i).toNat).map fun (k : Nat) => D.int (i + (k : Int))) else M.bad
  | _, _ => M.bad
/-- how many items range(i, j, c) has -/
def rngN (i j c : Int) : Nat := if c = -1 then (i - j).toNat else (Builtin.Range.rangeSize i j c).toNat
def rng3ok (i j c : Int) : Bool := decide (c = -1) || (decide (c ≠ 0) && decide (c.natAbs < 1073741824) && Builtin.Range.small i j c && decide (0 ≤ Builtin.Range.rangeSize i j c))
def rng3 : D → D → D → M (List D)
  | .int i, .int j, .int c => if ((-lim ≤ i ∧ i < lim) ∧ (-lim ≤ j ∧ j < lim)) ∧ rng3ok i j c = true then M.pure ((List.range (rngN i j c)).map fun (k : Nat) => D.int (i + (k : Int) * c)) else M.bad
  | _, _, _ => M.bad
/-- xs.index(y), flat -/
def indexop (x y : D) : M D := (seqL x).bind fun xs => if y.flat && xs.all D.flat then (M.opt (xs.findIdx? fun z => D.eqF z y)).bind fun j => M.pure (.int (j : Nat)) else M.bad
def enumD (xs : List D) : List D := xs.zipIdx.map fun p => .tup [.int p.2, p.1]
def enumop : D → M (List D)
  | .lst xs => M.pure (enumD xs)
  | _ => M.bad
def zipD (xs ys : List D) : List D := (xs.zip ys).map fun p => .tup [p.1, p.2]
def zipop : D → D → M (List D)
  | .lst xs, .lst ys => M.pure (zipD xs ys)
  | .tup xs, .tup ys => M.pure (zipD xs ys)
  | _, _ => M.bad
def ziplop : D → D → M (List D)
  | .lst xs, .lst ys => M.pure (zipD xs ys)
  | _, _ => M.bad
def lcTurn (tg : Tz) (cond : Env → M Bool) (elt : Env → M D) (ρ : Env) (d : D) : M (Option D) := calmM ((M.opt (bindT tg d (wipeE ρ tg.slots))).bind fun ρ' => (cond ρ').bind fun k => if k = true then (elt ρ').bind fun x => M.pure (some x) else M.pure none)
/-- the slot of K that tells which exception is handled -/
def xk : Nat := 100000
/-- is the handled exception of the class q? -/
def isxop (K : Nat → D) (q : Nat) : D → M D
  | .exn => match K xk with
    | .int c => M.pure (.bl (c == (q : Int)))
    | _ => M.bad
  | _ => M.bad
def strsOf : List D → Option (List Str)
  | [] => some []
  | .str x :: xs => match strsOf xs with
    | some ys => some (x :: ys)
    | none => none
  | _ => none
def joinop (a : Str) (d : D) : M D := (seqA d).bind fun xs => (M.opt (strsOf xs)).bind fun ys => if (ys.map (·.length)).sum + ys.length * a.length ≤ 16777216 then M.pure (.str (Txt.join a ys)) else M.bad
mutual
/-- no ref from n on -/
def D.noRef (n : Nat) : D → Bool
  | .ref k => Nat.blt k n
  | .exn => false
  | .tup xs => D.noRefs n xs
  | .lst xs => D.noRefs n xs
  | _ => true
def D.noRefs (n : Nat) : List D → Bool
  | [] => true
  | x :: xs => D.noRef n x && D.noRefs n xs
end
def Ob.noRef (n : Nat) : Ob → Bool
  | .lst xs => D.noRefs n xs
  | .fro d => d.noRef n
  | .cup => true
  | .dK kvs => kvs.all fun p => p.1.noRef n && p.2.noRef n
  | .dT kvs => kvs.all fun p => p.1.noRef n && p.2.noRef n
/-- the end of a try's def: a text; all that was made is let go -/
def errEnd (n : Nat) : R D → T (R D)
  | .ok (.str x) μ => if (μ.take n).all (Ob.noRef n) then .ret (.ok (.str x) (μ.take n)) else .ret .bad
  | _ => .ret .bad
/-- what is made of what the try's call did: f [] behind its end, f [.int c] behind an exception of the class c; what was made is let go -/
def errM (m : M D) (f : List D → M D) : M D := fun μ => (m μ).bind fun r => match r with
  | .ok _ μ' => (f [] μ').bind (errEnd μ.length)
  | .exc c [] μ' => (f [.int c] μ').bind (errEnd μ.length)
  | _ => .ret .bad
def callvop (C : Nat → List D → M D) (as : M (List D)) : D → M D
  | .fn k => as.bind (C k)
  | _ => M.bad
/-- a key of a dict: ints, texts; tuples of them -/
def keyOf : D → Option L2.Key
  | .int i => some (.inl i)
  | .str x => some (.inr x)
  | _ => none
def keysOf : List D → Option (List L2.Key)
  | [] => some []
  | d :: ds => match keyOf d, keysOf ds with
    | some k, some ks => some (k :: ks)
    | _, _ => none
def hasT (ks : List L2.Key) (p : D × D) : Bool := match p.1 with
  | .tup ds => decide (keysOf ds = some ks)
  | _ => false
def hasK (k : L2.Key) (p : D × D) : Bool := decide (keyOf p.1 = some k)
def getD (f : D × D → Bool) (kvs : List (D × D)) : Option D := (kvs.find? f).map (·.2)
def putD (f : D × D → Bool) (kvs : List (D × D)) (d v : D) : List (D × D) := if kvs.any f = true then kvs.map (fun p => if f p = true then (p.1, v) else p) else kvs ++ [(d, v)]
/-- d[k] -/
def getTo (kvs : List (D × D)) (ds : List D) : Option D := (keysOf ds).bind fun ks => getD (hasT ks) kvs
def getKo (kvs : List (D × D)) (k : D) : Option D := (keyOf k).bind fun q => getD (hasK q) kvs
def dgetop (o k : D) : M D := fun μ => match o with
  | .ref n => match μ[n]? with
    | some (.dT kvs) => match k with
      | .tup ds => M.opt (getTo kvs ds) μ
      | _ => .ret .bad
    | some (.dK kvs) => M.opt (getKo kvs k) μ
    | _ => .ret .bad
  | _ => .ret .bad
/-- d[k], k no tuple -/
def notTup : D → Bool
  | .tup _ => false
  | _ => true
def dgetK (o k : D) : M D := if notTup k = true then dgetop o k else M.bad
section
variable (C : Nat → List D → M D) (K : Nat → D)
def ev : Ez → Fn
  | .non => .ofE fun _ => M.pure .non
  | .bl b => .ofE fun _ => M.pure (.bl b)
  | .int i => .ofE fun _ => M.pure (.int i)
  | .str x => .ofE fun _ => M.pure (.str x)
  | .var i => .ofE fun ρ => (get ρ i).bind res
  | .frz i => .ofE fun ρ => (get ρ i).bind frz
  | .gfn k => .ofE fun _ => M.pure (.fn k)
  | .gcon k => .ofE fun _ => M.pure (K k)
  | .gty n => .ofE fun _ => M.pure (.ty n)
  | .bin o a b =>
    let A := ev a
    let B := ev b
    { Fn.ofE (fun ρ => (A.e ρ).bind fun x => (B.e ρ).bind fun y => binop o x y) with
      l := fun ρ => (A.e ρ).bind fun x => (B.e ρ).bind fun y => binopL o x y }
  | .neg a =>
    let A := ev a
    .ofE fun ρ => (A.e ρ).bind negop
  | .cmp c a b =>
    let A := ev a
    let B := ev b
    .ofE fun ρ => (A.e ρ).bind fun x => (B.e ρ).bind fun y => cmpop c x y
  | .chain c c' a b d =>
    let A := ev a
    let B := ev b
    let D := ev d
    .ofE fun ρ => (A.e ρ).bind fun x => (B.e ρ).bind fun y => (cmpop c x y).bind (chainop c' y (D.e ρ))
  | .bool o es =>
    let A := ev es
    { Fn.ofE (A.b o) with t := A.bt o }
  | .not a =>
    let A := ev a
    { Fn.ofE (fun ρ => (A.e ρ).bind fun x => (truth x).bind fun k => M.pure (.bl !k)) with
      t := fun ρ => (A.t ρ).bind fun k => M.pure !k }
  | .ife c a b =>
    let P := ev c
    let A := ev a
    let B := ev b
    .ofE fun ρ => (P.t ρ).bind fun k => if k = true then A.e ρ else B.e ρ
  | .tup es =>
    let A := ev es
    .ofE fun ρ => (A.es ρ).bind fun xs => (lenOk xs).bind fun xs => M.pure (.tup xs)
  | .lst es =>
    let A := ev es
    .ofL fun ρ => (A.es ρ).bind lenOk
  | .idx a i =>
    let A := ev a
    let B := ev i
    .ofE fun ρ => (A.e ρ).bind fun x => (B.e ρ).bind fun y => idxop x y
  | .slc a lo hi =>
    let A := ev a
    let L := ev lo
    let U := ev hi
    { Fn.ofE (fun ρ => (A.e ρ).bind fun x => (L.p ρ).bind fun l => (U.p ρ).bind fun h => slcop l h x) with
      l := fun ρ => (A.e ρ).bind fun x => (L.p ρ).bind fun l => (U.p ρ).bind fun h => (seqL x).bind fun xs => M.pure (cut xs l h) }
  | .mkl a =>
    let A := ev a
    .ofE fun ρ => (A.l ρ).bind fun xs => alloc (.lst xs)
  | .call k es =>
    let A := ev es
    .ofE fun ρ => (A.es ρ).bind (C k)
  | .bf f es =>
    let A := ev es
    { Fn.ofE (fun ρ => (A.es ρ).bind (bfop f)) with l := fun ρ => (A.es ρ).bind (bfL f) }
  | .lc tg it cond elt =>
    let I := ev it
    let P := ev cond
    let A := ev elt
    .ofL fun ρ => (I.i ρ).bind fun ds => (lenOk ds).bind fun ds => lcGo ds (lcTurn tg P.t A.e ρ)
  | .range1 a =>
    let A := ev a
    .ofI fun ρ => (A.e ρ).bind rng1
  | .range2 a b =>
    let A := ev a
    let B := ev b
    .ofI fun ρ => (A.e ρ).bind fun x => (B.e ρ).bind fun y => rng2 x y
  | .enum a =>
    let A := ev a
    .ofI fun ρ => (A.e ρ).bind enumop
  | .zip a b =>
    let A := ev a
    let B := ev b
    .ofI fun ρ => (A.e ρ).bind fun x => (B.e ρ).bind fun y => zipop x y
  | .zipL a b =>
    let A := ev a
    let B := ev b
    .ofI fun ρ => (A.e ρ).bind fun x => (B.e ρ).bind fun y => ziplop x y
  | .bad => .ofE fun _ => M.bad
  | .isx a q =>
    let A := ev a
    .ofE fun ρ => (A.e ρ).bind (isxop K q)
  | .join s b =>
    let B := ev b
    .ofE fun ρ => (B.e ρ).bind (joinop s)
  | .err k a =>
    let A := ev a
    .ofE fun ρ => errM (A.e ρ) (C k)
  | .callv i es =>
    let A := ev es
    .ofE fun ρ => (get ρ i).bind (callvop C (A.es ρ))
  | .dnew t => .ofE fun _ => alloc (if t then .dT [] else .dK [])
  | .dget a b =>
    let A := ev a
    let B := ev b
    .ofE fun ρ => (A.e ρ).bind fun x => (B.e ρ).bind fun y => dgetK x y
  | .dgetT a es =>
    let A := ev a
    let B := ev es
    .ofE fun ρ => (A.e ρ).bind fun x => (B.es ρ).bind fun ds => (lenOk ds).bind fun ds => dgetop x (.tup ds)
  | .lrng a b =>
    let A := ev a
    let B := ev b
    .ofL fun ρ => (A.e ρ).bind fun x => (B.e ρ).bind fun y => (rng2 x y).bind lenOk
  | .trng a b =>
    let A := ev a
    let B := ev b
    .ofE fun ρ => (A.e ρ).bind fun x => (B.e ρ).bind fun y => (rng2 x y).bind fun xs => (lenOk xs).bind fun xs => M.pure (.tup xs)
  | .rev a =>
    let A := ev a
    .ofL fun ρ => (A.e ρ).bind fun x => (seqL x).bind fun xs => M.pure xs.reverse
  | .range3 a b c =>
    let A := ev a
    let B := ev b
    let E := ev c
    .ofI fun ρ => (A.e ρ).bind fun x => (B.e ρ).bind fun y => (E.e ρ).bind fun w => rng3 x y w
  | .index a b =>
    let A := ev a
    let B := ev b
    .ofE fun ρ => (A.e ρ).bind fun x => (seqL x).bind fun _ => (B.e ρ).bind fun y => indexop x y
  | .nil => { Fn.ofE (fun _ => M.bad) with
      t := fun _ => M.pure true
      es := fun _ => M.pure []
      p := fun _ => M.pure none
      nil := true }
  | .cons e es =>
    let A := ev e
    let B := ev es
    { Fn.ofE (fun _ => M.bad) with
      t := fun _ => M.bad
      es := fun ρ => (A.e ρ).bind fun x => (B.es ρ).bind fun xs => M.pure (x :: xs)
      p := fun _ => M.bad
      b := fun o ρ => if B.nil then A.e ρ else (A.e ρ).bind fun x => (truth x).bind fun k => boolV o k x (B.b o ρ)
      bt := fun o ρ => if B.nil then A.t ρ else (A.t ρ).bind fun k => boolT o k (B.bt o ρ) }
/-- a statement's ends -/
inductive Out where
  | nx (ρ : Env) | rt (d : D) | bk (ρ : Env) | ct (ρ : Env)
def forGo (tg : Tz) (b : Env → M Out) : List D → Env → M Out
  | [], ρ => M.pure (.nx ρ)
  | d :: ds, ρ => (M.opt (bindT tg d ρ)).bind fun ρ' => (b ρ').bind fun o => match o with
    | .nx ρ1 => forGo tg b ds ρ1
    | .ct ρ1 => forGo tg b ds ρ1
    | .bk ρ1 => M.pure (.nx ρ1)
    | .rt d => M.pure (.rt d)
def whileGo (c : Env → M Bool) (b : Env → M Out) : Nat → Env → M Out
  | 0, _ => M.bad
  | n + 1, ρ => (c ρ).bind fun k => if k = true then (b ρ).bind fun o => match o with
      | .nx ρ1 => whileGo c b n ρ1
      | .ct ρ1 => whileGo c b n ρ1
      | .bk ρ1 => M.pure (.nx ρ1)
      | .rt d => M.pure (.rt d)
    else M.pure (.nx ρ)
def setE (ρ : Env) (i : Nat) (d : D) : M Out := if i < ρ.length then M.pure (.nx (ρ.set i (some d))) else M.bad
/-- o[i] = x, of a list -/
def storeL (o i x : D) : M Unit := fun μ => match o, i with
  | .ref n, .int k => match μ[n]? with
    | some (.lst xs) => match L2.ixN xs.length k with
      | some j => .ret (.ok () (μ.set n (.lst (xs.set j x))))
      | none => .ret .bad
    | _ => .ret .bad
  | _, _ => .ret .bad
/-- o[i] = x, of a dict -/
def putTo (kvs : List (D × D)) (ds : List D) (x : D) : Option Ob := (keysOf ds).bind fun ks => if kvs.length < sizeLine then some (.dT (putD (hasT ks) kvs (.tup ds) x)) else none
def putKo (kvs : List (D × D)) (k x : D) : Option Ob := (keyOf k).bind fun q => if kvs.length < sizeLine then some (.dK (putD (hasK q) kvs k x)) else none
def setOb (n : Nat) : Option Ob → M Unit
  | some o => fun μ => .ret (.ok () (μ.set n o))
  | none => M.bad
def storeD (o k x : D) : M Unit := fun μ => match o with
  | .ref n => match μ[n]? with
    | some (.dT kvs) => match k with
      | .tup ds => setOb n (putTo kvs ds x) μ
      | _ => .ret .bad
    | some (.dK kvs) => setOb n (putKo kvs k x) μ
    | _ => .ret .bad
  | _ => .ret .bad
def storeK (o k x : D) : M Unit := if notTup k = true then storeD o k x else M.bad
/-- o.append(x) -/
def appL (o x : D) : M Unit := fun μ => match o with
  | .ref n => match μ[n]? with
    | some (.lst xs) => if xs.length < sizeLine then .ret (.ok () (μ.set n (.lst (xs ++ [x])))) else .ret .bad
    | _ => .ret .bad
  | _ => .ret .bad
def throwM {α : Type} (c : Nat) : M α := fun μ => .ret (.exc c [] μ)
def setAll : List (Nat × D) → Env → Option Env
  | [], ρ => some ρ
  | (i, d) :: r, ρ => if i < ρ.length then setAll r (ρ.set i (some d)) else none
/-- names that are stored from the right -/
def setPar (is : List Nat) (d : D) (ρ : Env) : Option Env := match d with
  | .tup xs => if xs.length = is.length then setAll (is.zip xs).reverse ρ else none
  | _ => none
def evS : Sz → Env → M Out
  | .set i e, ρ => ((ev C K e).e ρ).bind fun d => setE ρ i d
  | .tset ts e, ρ => ((ev C K e).e ρ).bind fun d => (M.opt (bindT (.tp ts) d ρ)).bind fun ρ' => M.pure (.nx ρ')
  | .par is e, ρ => ((ev C K e).e ρ).bind fun d => (M.opt (setPar is d ρ)).bind fun ρ' => M.pure (.nx ρ')
  | .setix o i e, ρ => ((ev C K e).e ρ).bind fun x => ((ev C K o).e ρ).bind fun y => ((ev C K i).e ρ).bind fun k => (storeL y k x).bind fun _ => M.pure (.nx ρ)
  | .dset o i e, ρ => ((ev C K e).e ρ).bind fun x => ((ev C K o).e ρ).bind fun y => ((ev C K i).e ρ).bind fun k => (storeK y k x).bind fun _ => M.pure (.nx ρ)
  | .dsetT o es e, ρ => ((ev C K e).e ρ).bind fun x => ((ev C K o).e ρ).bind fun y => ((ev C K es).es ρ).bind fun ds => (lenOk ds).bind fun ds => (storeD y (.tup ds) x).bind fun _ => M.pure (.nx ρ)
  | .app o e, ρ => ((ev C K o).e ρ).bind fun y => (seqL y).bind fun _ => ((ev C K e).e ρ).bind fun x => (appL y x).bind fun _ => M.pure (.nx ρ)
  | .raise c, _ => throwM c
  | .expr e, ρ => ((ev C K e).e ρ).bind fun _ => M.pure (.nx ρ)
  | .ret e, ρ => ((ev C K e).e ρ).bind fun d => M.pure (.rt d)
  | .ite c a b, ρ => ((ev C K c).t ρ).bind fun k => if k = true then evS a ρ else evS b ρ
  | .for tg it b, ρ => ((ev C K it).i ρ).bind fun ds => forGo tg (evS b) ds ρ
  | .while n c b, ρ => whileGo (ev C K c).t (evS b) n ρ
  | .never, _ => M.bad
  | .pass, ρ => M.pure (.nx ρ)
  | .brk, ρ => M.pure (.bk ρ)
  | .cont, ρ => M.pure (.ct ρ)
  | .nil, ρ => M.pure (.nx ρ)
  | .cons s ss, ρ => (evS s ρ).bind fun o => match o with
    | .nx ρ1 => evS ss ρ1
    | o => M.pure o
/-- a def's body, entered -/
def run (n : Nat) (b : Sz) (as : List D) : M D := (evS C K b (as.map some ++ List.replicate (n - as.length) none)).bind fun o => match o with
  | .nx _ => M.pure .non
  | .rt d => M.pure d
  | _ => M.bad
end
/-- what was made and is not told is let go -/
def popM (m : M D) : M D := fun μ => (m μ).bind fun r => match r with
  | .ok a μ' => if a.noRef μ.length && (μ'.take μ.length).all (Ob.noRef μ.length) then .ret (.ok a (μ'.take μ.length)) else .ret (.ok a μ')
  | .exc c xs μ' => .ret (.exc c xs μ')
  | .bad => .ret .bad
/-- a def: how many names, how many parameters, its body -/
structure Df where
  names : Nat
  pars : Nat
  body : Sz
/-- the prims: what is not by the text -/
def callF (K : Nat → D) (defs : List Df) (prim : Nat → Option (List D → M D)) : Nat → Nat → List D → M D
  | 0, _, _ => M.bad
  | n + 1, k, as => match prim k with
    | some f => f as
    | none => match defs[k]? with
      | some d => if as.length = d.pars then popM (run (callF K defs prim n) K d.names d.body as) else M.bad
      | none => M.bad
end DL
/-! DL2: worlds: how plain data lie in the abstract heap; what a run is worth in a world -/
namespace DL
open PySem PySem.Spec PyProof.Rows L2

/-- what stands fixed: the program, the world, the written part, where defs and classes stand -/
structure Gx where
  P : Program
  w : World
  K : PySem.W.Frag
  mg : Str → Option Value
  base : Heap
  fa : Nat → Addr
  ca : Nat → Addr
  T : List (Addr × Str)
  xa : Option Addr
  nf : Nat

/-- a world: the addresses of the refs, what they hold, the abstract heap -/
structure Wd where
  m : List Addr
  μ : Mem
  H : Hp
def live (μ : Mem) (i : Nat) : Prop := match μ[i]? with
  | some (.fro _) => False
  | some _ => True
  | none => False
def Wd.lv (W : Wd) (b : Addr) : Prop := ∃ i, live W.μ i ∧ W.m[i]? = some b
open Classical in
/-- the part of the heap that stands still: not what refs hold, not what is being made at z -/
noncomputable def Wd.F (z : List Addr) (W : Wd) : Hp := fun b => if b ∈ z ∨ W.lv b then none else W.H b
theorem Wd.F_some {z : List Addr} {W : Wd} {b : Addr} {o : HO} (h : W.F z b = some o) : W.H b = some o ∧ b ∉ z ∧ ¬ W.lv b := by
  unfold Wd.F at h
  split at h
  · cases h
  · rename_i q
    exact ⟨h, fun hz => q (.inl hz), fun hz => q (.inr hz)⟩
theorem Wd.F_of {z : List Addr} {W : Wd} {b : Addr} {o : HO} (h : W.H b = some o) (hz : b ∉ z) (hl : ¬ W.lv b) : W.F z b = some o := by
  unfold Wd.F
  rw [if_neg (fun q => q.elim hz hl)]
  exact h

def Ext (F F' : Hp) : Prop := ∀ b o, F b = some o → (∀ ps, o ≠ .tbl ps) → F' b = some o
theorem Ext.refl (F : Hp) : Ext F F := fun _ _ h _ => h
theorem Ext.trans {F F1 F2 : Hp} (a : Ext F F1) (b : Ext F1 F2) : Ext F F2 := fun c o h n => b c o (a c o h n) n
theorem Ext.sqT {K : PySem.W.Frag} {F F' : Hp} {a : Addr} {vs : List V} (e : Ext F F') (h : SqT K F a vs) : SqT K F' a vs := by
  rcases h with (h | ⟨o, h⟩) | h
  · exact .inl (.inl (e _ _ h (fun _ q => nomatch q)))
  · exact .inl (.inr ⟨o, e _ _ h (fun _ q => nomatch q)⟩)
  · exact .inr h
theorem Ext.sqL {K : PySem.W.Frag} {F F' : Hp} {a : Addr} {vs : List V} (e : Ext F F') (h : SqL K F a vs) : SqL K F' a vs := by
  rcases h with (h | ⟨o, h⟩) | h
  · exact .inl (.inl (e _ _ h (fun _ q => nomatch q)))
  · exact .inl (.inr ⟨o, e _ _ h (fun _ q => nomatch q)⟩)
  · exact .inr h
theorem sqL_sub {K : PySem.W.Frag} {F H : Hp} {a : Addr} {vs : List V} (e : ∀ b o, F b = some o → H b = some o) (h : SqL K F a vs) : SqL K H a vs := by
  rcases h with (h | ⟨o, h⟩) | h
  · exact .inl (.inl (e _ _ h))
  · exact .inl (.inr ⟨o, e _ _ h⟩)
  · exact .inr h
theorem sqT_sub {K : PySem.W.Frag} {F H : Hp} {a : Addr} {vs : List V} (e : ∀ b o, F b = some o → H b = some o) (h : SqT K F a vs) : SqT K H a vs := by
  rcases h with (h | ⟨o, h⟩) | h
  · exact .inl (.inl (e _ _ h))
  · exact .inl (.inr ⟨o, e _ _ h⟩)
  · exact .inr h

mutual
/-- the value v lies in F as the datum d -/
inductive Rp (G : Gx) (F : Hp) (m : List Addr) : D → V → Prop
  | non : Rp G F m .non .non
  | bl (b : Bool) : Rp G F m (.bl b) (.bl b)
  | int (i : Int) : Rp G F m (.int i) (.int i)
  | str (x : Str) : Rp G F m (.str x) (.str x)
  | tup {a : Addr} {vs : List V} {ds : List D} (h : SqT G.K F a vs) (r : Rps G F m ds vs) : Rp G F m (.tup ds) (.ref a)
  | lst {a : Addr} {vs : List V} {ds : List D} (h : F a = some (.lst vs)) (r : Rps G F m ds vs) : Rp G F m (.lst ds) (.ref a)
  | ref {n : Nat} {a : Addr} (h : m[n]? = some a) : Rp G F m (.ref n) (.ref a)
  | fn (k : Nat) (h : k < G.nf) : Rp G F m (.fn k) (.ref (G.fa k))
  | cls (k : Nat) : Rp G F m (.cls k) (.ref (G.ca k))
  | ty (n : String) : Rp G F m (.ty n) (.ty n)
  | scr {a : Addr} {ns : List Int} (h : SqL G.K F a (ns.map V.int)) : Rp G F m (.scr ns) (.ref a)
  | exn {a : Addr} (h : G.xa = some a) : Rp G F m .exn (.ref a)
inductive Rps (G : Gx) (F : Hp) (m : List Addr) : List D → List V → Prop
  | nil : Rps G F m [] []
  | cons {d : D} {v : V} {ds : List D} {vs : List V} (h : Rp G F m d v) (t : Rps G F m ds vs) : Rps G F m (d :: ds) (v :: vs)
end
section
variable {G : Gx} {F F' : Hp} {m m' : List Addr}
mutual
theorem Rp.mono (e : Ext F F') (hm : ∀ (i : Nat) (a : Addr), m[i]? = some a → m'[i]? = some a) : ∀ {d : D} {v : V}, Rp G F m d v → Rp G F' m' d v
  | _, _, .non => .non
  | _, _, .bl b => .bl b
  | _, _, .int i => .int i
  | _, _, .str x => .str x
  | _, _, .tup h r => .tup (e.sqT h) (Rps.mono e hm r)
  | _, _, .lst h r => .lst (e _ _ h (fun _ q => nomatch q)) (Rps.mono e hm r)
  | _, _, .ref h => .ref (hm _ _ h)
  | _, _, .fn k h => .fn k h
  | _, _, .cls k => .cls k
  | _, _, .ty n => .ty n
  | _, _, .scr h => .scr (e.sqL h)
  | _, _, .exn h => .exn h
theorem Rps.mono (e : Ext F F') (hm : ∀ (i : Nat) (a : Addr), m[i]? = some a → m'[i]? = some a) : ∀ {ds : List D} {vs : List V}, Rps G F m ds vs → Rps G F' m' ds vs
  | _, _, .nil => .nil
  | _, _, .cons h t => .cons (Rp.mono e hm h) (Rps.mono e hm t)
end
theorem Rps.len : ∀ {ds : List D} {vs : List V}, Rps G F m ds vs → ds.length = vs.length
  | _, _, .nil => rfl
  | _, _, .cons _ t => by rw [List.length_cons, List.length_cons, t.len]
theorem Rps.get : ∀ {ds : List D} {vs : List V}, Rps G F m ds vs → ∀ {i : Nat} {d : D}, ds[i]? = some d → ∃ v, vs[i]? = some v ∧ Rp G F m d v
  | _, _, .nil, i, d, e => by simp at e
  | _, _, .cons h t, 0, d, e => by
    simp at e
    subst e
    exact ⟨_, rfl, h⟩
  | _, _, .cons h t, i + 1, d, e => by
    obtain ⟨v, h1, h2⟩ := t.get (i := i) (d := d) (by simpa using e)
    exact ⟨v, by simpa using h1, h2⟩
theorem Rps.getV : ∀ {ds : List D} {vs : List V}, Rps G F m ds vs → ∀ {i : Nat} {v : V}, vs[i]? = some v → ∃ d, ds[i]? = some d ∧ Rp G F m d v
  | _, _, .nil, i, d, e => by simp at e
  | _, _, .cons h t, 0, d, e => by
    simp at e
    subst e
    exact ⟨_, rfl, h⟩
  | _, _, .cons h t, i + 1, d, e => by
    obtain ⟨v, h1, h2⟩ := t.getV (i := i) (v := d) (by simpa using e)
    exact ⟨v, by simpa using h1, h2⟩
theorem Rps.append : ∀ {ds es : List D} {vs us : List V}, Rps G F m ds vs → Rps G F m es us → Rps G F m (ds ++ es) (vs ++ us)
  | _, _, _, _, .nil, s => s
  | _, _, _, _, .cons h t, s => .cons h (t.append s)
theorem Rps.take : ∀ {ds : List D} {vs : List V} (n : Nat), Rps G F m ds vs → Rps G F m (ds.take n) (vs.take n)
  | _, _, 0, _ => by simp; exact .nil
  | _, _, n + 1, .nil => by simp; exact .nil
  | _, _, n + 1, .cons h t => by simp; exact .cons h (t.take n)
theorem Rps.drop : ∀ {ds : List D} {vs : List V} (n : Nat), Rps G F m ds vs → Rps G F m (ds.drop n) (vs.drop n)
  | _, _, 0, r => by simpa using r
  | _, _, n + 1, .nil => by simp; exact .nil
  | _, _, n + 1, .cons h t => by simpa using t.drop n
theorem Rps.rep {ds : List D} {vs : List V} (r : Rps G F m ds vs) : ∀ k : Nat, Rps G F m (List.replicate k ds).flatten (List.replicate k vs).flatten
  | 0 => by simp; exact .nil
  | k + 1 => by
    rw [List.replicate_succ, List.replicate_succ, List.flatten_cons, List.flatten_cons]
    exact r.append (r.rep k)
theorem Rps.set {d : D} {v : V} (h : Rp G F m d v) : ∀ {ds : List D} {vs : List V} (i : Nat), Rps G F m ds vs → Rps G F m (ds.set i d) (vs.set i v)
  | _, _, _, .nil => by simp; exact .nil
  | _, _, 0, .cons _ t => by simp; exact .cons h t
  | _, _, i + 1, .cons q t => by simp; exact .cons q (Rps.set h i t)
end

def fields : List D → Option (List (Str × D)) := fun _ => none
/-- what a ref holds -/
def ObR (G : Gx) (F : Hp) (m : List Addr) (H : Hp) (a : Addr) : Ob → Prop
  | .lst xs => ∃ vs, H a = some (.lst vs) ∧ Rps G F m xs vs
  | .dK kvs => ∃ ks : List (Key × V), H a = some (.dK ks) ∧ Paired (fun (p : D × D) (q : Key × V) => Rp G F m p.1 (kV q.1) ∧ Rp G F m p.2 q.2) kvs ks
  | .dT kvs => ∃ ks : List (List Key × V), H a = some (.dT ks) ∧ Paired (fun (p : D × D) (q : List Key × V) => (∃ ds, p.1 = .tup ds ∧ Rps G F m ds (q.1.map kV)) ∧ Rp G F m p.2 q.2) kvs ks
  | .fro d => Rp G F m d (.ref a)
  | .cup => ∃ x y : Int, H a = some (.lst [.int x, .int y]) ∧ 0 ≤ x ∧ 0 ≤ y ∧ y < 2 ^ 32
structure Mok (G : Gx) (z : List Addr) (W : Wd) : Prop where
  len : W.m.length = W.μ.length
  inj : ∀ (i j : Nat) (a : Addr), live W.μ i → live W.μ j → W.m[i]? = some a → W.m[j]? = some a → i = j
  zl : ∀ b ∈ z, ¬ W.lv b
  zs : ∀ b ∈ z, ∃ vs, W.H b = some (.lst vs)
  tabs : LamX.Tabs G.T W.H
  ob : ∀ (i : Nat) (a : Addr) (o : Ob), W.m[i]? = some a → W.μ[i]? = some o → ObR G (W.F z) W.m W.H a o
/-- from one world to a later one -/
structure Le (z : List Addr) (W W' : Wd) : Prop where
  pre : ∀ (i : Nat) (a : Addr), W.m[i]? = some a → W'.m[i]? = some a
  ext : Ext (W.F z) (W'.F z)
  zk : ∀ b ∈ z, W'.H b = W.H b
theorem Le.refl (z : List Addr) (W : Wd) : Le z W W := ⟨fun _ _ h => h, Ext.refl _, fun _ _ => rfl⟩
theorem Le.trans {z : List Addr} {W W1 W2 : Wd} (a : Le z W W1) (b : Le z W1 W2) : Le z W W2 := ⟨fun i c h => b.pre i c (a.pre i c h), a.ext.trans b.ext, fun c h => (b.zk c h).trans (a.zk c h)⟩
abbrev RpW (G : Gx) (z : List Addr) (W : Wd) (d : D) (v : V) : Prop := Rp G (W.F z) W.m d v
abbrev RpsW (G : Gx) (z : List Addr) (W : Wd) (d : List D) (v : List V) : Prop := Rps G (W.F z) W.m d v
theorem Rp.le {G : Gx} {z : List Addr} {W W' : Wd} {d : D} {v : V} (h : RpW G z W d v) (l : Le z W W') : RpW G z W' d v := Rp.mono l.ext l.pre h
theorem Rps.le {G : Gx} {z : List Addr} {W W' : Wd} {d : List D} {v : List V} (h : RpsW G z W d v) (l : Le z W W') : RpsW G z W' d v := Rps.mono l.ext l.pre h
/-- names and slots -/
structure EnvR (G : Gx) (z : List Addr) (W : Wd) (ρ : Env) (σ : L2.St) : Prop where
  len : ρ.length = σ.length
  at_ : ∀ (i : Nat) (d : D), ρ[i]? = some (some d) → ∃ v, σ[i]? = some (some v) ∧ RpW G z W d v
theorem EnvR.le {G : Gx} {z : List Addr} {W W' : Wd} {ρ : Env} {σ : L2.St} (h : EnvR G z W ρ σ) (l : Le z W W') : EnvR G z W' ρ σ :=
  ⟨h.len, fun i d e => let ⟨v, h1, h2⟩ := h.at_ i d e; ⟨v, h1, h2.le l⟩⟩
theorem EnvR.set {G : Gx} {z : List Addr} {W : Wd} {ρ : Env} {σ : L2.St} {d : D} {v : V} (h : EnvR G z W ρ σ) (r : RpW G z W d v) (i : Nat) : EnvR G z W (ρ.set i (some d)) (σ.set i (some v)) := by
  refine ⟨by rw [List.length_set, List.length_set, h.len], fun j e hj => ?_⟩
  by_cases hij : i = j
  · subst hij
    by_cases hl : i < ρ.length
    · rw [List.getElem?_set_self hl] at hj
      cases hj
      exact ⟨v, List.getElem?_set_self (by rw [← h.len]; exact hl), r⟩
    · rw [List.getElem?_eq_none (by rw [List.length_set]; omega)] at hj
      cases hj
  · rw [List.getElem?_set_ne hij] at hj ⊢
    exact h.at_ j e hj
theorem EnvR.unset {G : Gx} {z : List Addr} {W : Wd} {ρ : Env} {σ : L2.St} (h : EnvR G z W ρ σ) (i : Nat) : EnvR G z W (ρ.set i none) (σ.set i none) := by
  refine ⟨by rw [List.length_set, List.length_set, h.len], fun j e hj => ?_⟩
  by_cases hij : i = j
  · subst hij
    by_cases hl : i < ρ.length
    · rw [List.getElem?_set_self hl] at hj
      cases hj
    · rw [List.getElem?_eq_none (by rw [List.length_set]; omega)] at hj
      cases hj
  · rw [List.getElem?_set_ne hij] at hj ⊢
    exact h.at_ j e hj
theorem EnvR.wipe {G : Gx} {z : List Addr} {W : Wd} {ρ : Env} {σ : L2.St} (h : EnvR G z W ρ σ) : ∀ is : List Nat, EnvR G z W (wipeE ρ is) (L2.wipe σ is)
  | [] => h
  | i :: is => (h.wipe is).unset i
theorem wipeE_len (ρ : Env) : ∀ is : List Nat, (wipeE ρ is).length = ρ.length
  | [] => rfl
  | i :: is => by
    show ((wipeE ρ is).set i none).length = _
    rw [List.length_set, wipeE_len ρ is]

/-- an object that is no table and no code object -/
def plainO (u : HO) : Prop := (∀ ps, u ≠ .tbl ps) ∧ ∀ f, u ≠ .ext f
theorem plain_lst {vs : List V} : plainO (.lst vs) := ⟨fun _ q => (nomatch q), fun _ q => (nomatch q)⟩
theorem plain_dK {vs : List (Key × V)} : plainO (.dK vs) := ⟨fun _ q => (nomatch q), fun _ q => (nomatch q)⟩
theorem plain_dT {vs : List (List Key × V)} : plainO (.dT vs) := ⟨fun _ q => (nomatch q), fun _ q => (nomatch q)⟩
theorem tabs_keep {T : List (Addr × Str)} {H H' : Hp} (t : LamX.Tabs T H) (h : ∀ b u, H b = some u → ¬ plainO u → H' b = some u) : LamX.Tabs T H' := fun p hp => by
  obtain ⟨ps, h1, h2, h3⟩ := t p hp
  refine ⟨ps, h _ _ h1 (fun q => q.1 ps rfl), h2, fun pos cv hc => ?_⟩
  obtain ⟨c, e1, e2⟩ := h3 pos cv hc
  exact ⟨c, e1, h _ _ e2 (fun q => q.2 _ rfl)⟩
theorem tabs_upd {T : List (Addr × Str)} {H : Hp} {a : Addr} {o u : HO} (t : LamX.Tabs T H) (ha : H a = some o) (ho : plainO o) : LamX.Tabs T (upd H a u) := tabs_keep t fun b v e n => by
  rw [upd_ne fun q => n (by rw [q, ha] at e; cases e; exact ho)]
  exact e
theorem tabs_new {T : List (Addr × Str)} {H : Hp} {a : Addr} {u : HO} (t : LamX.Tabs T H) (ha : H a = none) : LamX.Tabs T (upd H a u) := tabs_keep t fun b v e n => by
  rw [upd_ne (ne_of_none e ha)]
  exact e
/-! ### worlds change -/
section
variable {G : Gx} {z : List Addr} {W : Wd} {p : Addr} {o : HO}
theorem Mok.nz (k : Mok G z W) (h : W.H p = none) : p ∉ z := fun hz => by
  obtain ⟨o, e⟩ := k.zs p hz
  rw [h] at e
  cases e
theorem Mok.thereP (k : Mok G z W) {i : Nat} {a : Addr} (hl : live W.μ i) (hm : W.m[i]? = some a) : ∃ o, W.H a = some o ∧ plainO o := by
  unfold live at hl
  cases e : W.μ[i]? with
  | none =>
    rw [e] at hl
    exact hl.elim
  | some o =>
    have r := k.ob i a o hm e
    cases o with
    | lst xs => obtain ⟨vs, h, _⟩ := r; exact ⟨_, h, plain_lst⟩
    | dK xs => obtain ⟨vs, h, _⟩ := r; exact ⟨_, h, plain_dK⟩
    | dT xs => obtain ⟨vs, h, _⟩ := r; exact ⟨_, h, plain_dT⟩
    | cup => obtain ⟨x, y, h, _⟩ := r; exact ⟨_, h, plain_lst⟩
    | fro d =>
      rw [e] at hl
      exact hl.elim
theorem Mok.there (k : Mok G z W) {i : Nat} {a : Addr} (hl : live W.μ i) (hm : W.m[i]? = some a) : ∃ o, W.H a = some o := by
  unfold live at hl
  cases e : W.μ[i]? with
  | none =>
    rw [e] at hl
    exact hl.elim
  | some o =>
    have r := k.ob i a o hm e
    cases o with
    | lst xs => obtain ⟨vs, h, _⟩ := r; exact ⟨_, h⟩
    | dK xs => obtain ⟨vs, h, _⟩ := r; exact ⟨_, h⟩
    | dT xs => obtain ⟨vs, h, _⟩ := r; exact ⟨_, h⟩
    | cup => obtain ⟨x, y, h, _⟩ := r; exact ⟨_, h⟩
    | fro d =>
      rw [e] at hl
      exact hl.elim
theorem Mok.nlv (k : Mok G z W) (h : W.H p = none) : ¬ W.lv p := fun ⟨i, hl, hm⟩ => by
  obtain ⟨o, e⟩ := k.there hl hm
  rw [h] at e
  cases e
theorem ObR.mono {F F' H H' : Hp} {m m' : List Addr} {a : Addr} {ob : Ob} (e : Ext F F') (hm : ∀ (i : Nat) (a : Addr), m[i]? = some a → m'[i]? = some a)
    (hh : (∀ d, ob ≠ .fro d) → ∀ o, H a = some o → H' a = some o) (h : ObR G F m H a ob) : ObR G F' m' H' a ob := by
  cases ob with
  | lst xs => obtain ⟨vs, h1, h2⟩ := h; exact ⟨vs, hh (fun _ q => nomatch q) _ h1, h2.mono e hm⟩
  | dK xs =>
    obtain ⟨vs, h1, h2⟩ := h
    exact ⟨vs, hh (fun _ q => nomatch q) _ h1, Paired.mapP h2 fun a b r => ⟨r.1.mono e hm, r.2.mono e hm⟩⟩
  | dT xs =>
    obtain ⟨vs, h1, h2⟩ := h
    exact ⟨vs, hh (fun _ q => nomatch q) _ h1, Paired.mapP h2 fun a b r => ⟨let ⟨ds, e1, e2⟩ := r.1; ⟨ds, e1, e2.mono e hm⟩, r.2.mono e hm⟩⟩
  | fro d => exact Rp.mono e hm h
  | cup => obtain ⟨x, y, h1, h2⟩ := h; exact ⟨x, y, hh (fun _ q => nomatch q) _ h1, h2⟩
/-- a new object that nothing will change -/
theorem Mok.new (k : Mok G z W) (h : W.H p = none) : Mok G z ⟨W.m, W.μ, upd W.H p o⟩ ∧ Le z W ⟨W.m, W.μ, upd W.H p o⟩ ∧ Wd.F z ⟨W.m, W.μ, upd W.H p o⟩ p = some o := by
  have nz := k.nz h
  have nl := k.nlv h
  have ext : Ext (W.F z) (Wd.F z ⟨W.m, W.μ, upd W.H p o⟩) := fun b u e n => by
    obtain ⟨h1, h2, h3⟩ := Wd.F_some e
    exact Wd.F_of (by show upd W.H p o b = _; rw [upd_ne (ne_of_none h1 h)]; exact h1) h2 h3
  refine ⟨⟨k.len, k.inj, k.zl, fun b hb => ?_, tabs_new k.tabs h, fun i a ob h1 h2 => ?_⟩, ⟨fun _ _ q => q, ext, fun b hb => ?_⟩, Wd.F_of upd_same nz nl⟩
  · obtain ⟨u, e⟩ := k.zs b hb
    exact ⟨u, by show upd W.H p o b = _; rw [upd_ne (ne_of_none e h)]; exact e⟩
  · refine (k.ob i a ob h1 h2).mono ext (fun _ _ q => q) fun _ u e => ?_
    show upd W.H p o a = _
    rw [upd_ne (ne_of_none e h)]
    exact e
  · show upd W.H p o b = _
    rw [upd_ne (fun e => nz (by rw [← e]; exact hb))]
theorem live_app {μ : Mem} {ob : Ob} {i : Nat} : live (μ ++ [ob]) i ↔ live μ i ∨ (i = μ.length ∧ ∀ d, ob ≠ .fro d) := by
  unfold live
  by_cases h : i < μ.length
  · rw [List.getElem?_append_left h]
    constructor
    · exact fun q => .inl q
    · rintro (q | ⟨e, _⟩)
      · exact q
      · omega
  · by_cases e : i = μ.length
    · subst e
      rw [List.getElem?_append_right (Nat.le_refl _), Nat.sub_self]
      have hn : μ[μ.length]? = none := List.getElem?_eq_none (Nat.le_refl _)
      rw [hn]
      cases ob <;> simp
    · have h1 : (μ ++ [ob])[i]? = none := List.getElem?_eq_none (by rw [List.length_append]; simp; omega)
      have h2 : μ[i]? = none := List.getElem?_eq_none (by omega)
      rw [h1, h2]
      simp [e]
/-- a new object that a ref holds -/
theorem Mok.newRef {ob : Ob} (k : Mok G z W) (h : W.H p = none) (hf : ∀ d, ob ≠ .fro d)
    (hob : ∀ F, Ext (W.F z) F → ObR G F (W.m ++ [p]) (upd W.H p o) p ob) :
    Mok G z ⟨W.m ++ [p], W.μ ++ [ob], upd W.H p o⟩ ∧ Le z W ⟨W.m ++ [p], W.μ ++ [ob], upd W.H p o⟩ ∧ (W.m ++ [p])[W.μ.length]? = some p := by
  have nz := k.nz h
  have nl := k.nlv h
  have hpre : ∀ (i : Nat) (a : Addr), W.m[i]? = some a → (W.m ++ [p])[i]? = some a := fun i a e => by
    have hi : i < W.m.length := (List.getElem?_eq_some_iff.mp e).1
    rw [List.getElem?_append_left hi]
    exact e
  have lvi : ∀ b, Wd.lv ⟨W.m ++ [p], W.μ ++ [ob], upd W.H p o⟩ b → W.lv b ∨ b = p := fun b ⟨i, hl, hm⟩ => by
    rcases live_app.mp hl with q | ⟨e, _⟩
    · have hi : i < W.m.length := by
        rw [k.len]
        unfold live at q
        cases e : W.μ[i]? with
        | none => rw [e] at q; exact q.elim
        | some _ => exact (List.getElem?_eq_some_iff.mp e).1
      refine .inl ⟨i, q, ?_⟩
      have hm' : (W.m ++ [p])[i]? = some b := hm
      rw [List.getElem?_append_left hi] at hm'
      exact hm'
    · subst e
      have hm' : (W.m ++ [p])[W.μ.length]? = some b := hm
      rw [← k.len, List.getElem?_append_right (Nat.le_refl _), Nat.sub_self] at hm'
      exact .inr (Option.some.inj hm').symm
  have ext : Ext (W.F z) (Wd.F z ⟨W.m ++ [p], W.μ ++ [ob], upd W.H p o⟩) := fun b u e n => by
    obtain ⟨h1, h2, h3⟩ := Wd.F_some e
    have nb : b ≠ p := ne_of_none h1 h
    exact Wd.F_of (by show upd W.H p o b = _; rw [upd_ne nb]; exact h1) h2 fun q => (lvi b q).elim h3 nb
  have lastm : (W.m ++ [p])[W.μ.length]? = some p := by rw [← k.len, List.getElem?_append_right (Nat.le_refl _), Nat.sub_self]; rfl
  refine ⟨⟨?_, fun i j a hi hj h1 h2 => ?_, fun b hb q => ?_, fun b hb => ?_, tabs_new k.tabs h, fun i a ob' h1 h2 => ?_⟩, ⟨hpre, ext, fun b hb => ?_⟩, lastm⟩
  · show (W.m ++ [p]).length = (W.μ ++ [ob]).length
    rw [List.length_append, List.length_append, k.len]
    rfl
  · have key : ∀ i a, live (W.μ ++ [ob]) i → (W.m ++ [p])[i]? = some a → (live W.μ i ∧ W.m[i]? = some a) ∨ (i = W.μ.length ∧ a = p) := fun i a hi h1 => by
      rcases live_app.mp hi with q | ⟨e, _⟩
      · have hi : i < W.m.length := by
          rw [k.len]
          unfold live at q
          cases e : W.μ[i]? with
          | none => rw [e] at q; exact q.elim
          | some _ => exact (List.getElem?_eq_some_iff.mp e).1
        rw [List.getElem?_append_left hi] at h1
        exact .inl ⟨q, h1⟩
      · subst e
        rw [lastm] at h1
        exact .inr ⟨rfl, (Option.some.inj h1).symm⟩
    rcases key i a hi h1 with ⟨a1, a2⟩ | ⟨a1, a2⟩ <;> rcases key j a hj h2 with ⟨b1, b2⟩ | ⟨b1, b2⟩
    · exact k.inj i j a a1 b1 a2 b2
    · subst b2
      exact absurd ⟨i, a1, a2⟩ nl
    · subst a2
      exact absurd ⟨j, b1, b2⟩ nl
    · rw [a1, b1]
  · rcases lvi b q with q | q
    · exact k.zl b hb q
    · exact nz (q ▸ hb)
  · obtain ⟨u, e⟩ := k.zs b hb
    exact ⟨u, by show upd W.H p o b = _; rw [upd_ne (ne_of_none e h)]; exact e⟩
  · by_cases hi : i < W.μ.length
    · have h1' : W.m[i]? = some a := by
        have h1 : (W.m ++ [p])[i]? = some a := h1
        rw [List.getElem?_append_left (by rw [k.len]; exact hi)] at h1
        exact h1
      have h2' : W.μ[i]? = some ob' := by
        have h2 : (W.μ ++ [ob])[i]? = some ob' := h2
        rw [List.getElem?_append_left hi] at h2
        exact h2
      refine (k.ob i a ob' h1' h2').mono ext hpre fun _ u e => ?_
      show upd W.H p o a = _
      rw [upd_ne (ne_of_none e h)]
      exact e
    · have e : i = W.μ.length := by
        have h2 : (W.μ ++ [ob])[i]? = some ob' := h2
        have := (List.getElem?_eq_some_iff.mp h2).1
        rw [List.length_append] at this
        simp at this
        omega
      subst e
      have h1 : (W.m ++ [p])[W.μ.length]? = some a := h1
      have h2 : (W.μ ++ [ob])[W.μ.length]? = some ob' := h2
      rw [lastm] at h1
      rw [List.getElem?_append_right (Nat.le_refl _), Nat.sub_self] at h2
      cases h1
      cases h2
      exact hob _ ext
  · show upd W.H p o b = _
    rw [upd_ne (fun e => nz (by rw [← e]; exact hb))]
theorem live_set {μ : Mem} {ob : Ob} {i n : Nat} (hn : live μ n) (hf : ∀ d, ob ≠ .fro d) : live (μ.set n ob) i ↔ live μ i := by
  unfold live
  by_cases h : n = i
  · subst h
    have hl : n < μ.length := by
      unfold live at hn
      cases e : μ[n]? with
      | none => rw [e] at hn; exact hn.elim
      | some _ => exact (List.getElem?_eq_some_iff.mp e).1
    rw [List.getElem?_set_self hl]
    have hn' : (match μ[n]? with | some (.fro _) => False | some _ => True | none => False) := hn
    constructor
    · exact fun _ => hn'
    · intro _
      cases ob with
      | fro d => exact absurd rfl (hf d)
      | _ => trivial
  · rw [List.getElem?_set_ne h]
/-- what a ref holds is changed -/
theorem Mok.write {ob : Ob} {n : Nat} {a : Addr} (k : Mok G z W) (hn : live W.μ n) (hm : W.m[n]? = some a) (hf : ∀ d, ob ≠ .fro d)
    (hob : ObR G (W.F z) W.m (upd W.H a o) a ob) :
    Mok G z ⟨W.m, W.μ.set n ob, upd W.H a o⟩ ∧ Le z W ⟨W.m, W.μ.set n ob, upd W.H a o⟩ := by
  have la : W.lv a := ⟨n, hn, hm⟩
  have lvi : ∀ b, Wd.lv ⟨W.m, W.μ.set n ob, upd W.H a o⟩ b ↔ W.lv b := fun b => by
    constructor
    · rintro ⟨i, hl, h⟩
      exact ⟨i, (live_set hn hf).mp hl, h⟩
    · rintro ⟨i, hl, h⟩
      exact ⟨i, (live_set hn hf).mpr hl, h⟩
  have eF : ∀ b, Wd.F z ⟨W.m, W.μ.set n ob, upd W.H a o⟩ b = W.F z b := fun b => by
    by_cases hb : b ∈ z ∨ W.lv b
    · have h1 : Wd.F z W b = none := by
        unfold Wd.F
        rw [if_pos hb]
      have h2 : Wd.F z ⟨W.m, W.μ.set n ob, upd W.H a o⟩ b = none := by
        unfold Wd.F
        rw [if_pos (hb.imp id (lvi b).mpr)]
      rw [h1, h2]
    · have h1 : Wd.F z W b = W.H b := by
        unfold Wd.F
        rw [if_neg hb]
      have h2 : Wd.F z ⟨W.m, W.μ.set n ob, upd W.H a o⟩ b = upd W.H a o b := by
        unfold Wd.F
        rw [if_neg (fun q => hb (q.imp id (lvi b).mp))]
      rw [h1, h2, upd_ne (fun e => hb (.inr (by rw [e]; exact la)))]
  have ext : Ext (W.F z) (Wd.F z ⟨W.m, W.μ.set n ob, upd W.H a o⟩) := fun b u e _ => by
    rw [eF]
    exact e
  have nza : ∀ b ∈ z, b ≠ a := fun b hb e => k.zl b hb (by rw [e]; exact la)
  refine ⟨⟨?_, fun i j c hi hj h1 h2 => k.inj i j c ((live_set hn hf).mp hi) ((live_set hn hf).mp hj) h1 h2, fun b hb q => k.zl b hb ((lvi b).mp q), fun b hb => ?_, let ⟨_, e1, e2⟩ := k.thereP hn hm; tabs_upd k.tabs e1 e2, fun i c ob' h1 h2 => ?_⟩, ⟨fun _ _ q => q, ext, fun b hb => ?_⟩⟩
  · show W.m.length = (W.μ.set n ob).length
    rw [List.length_set]
    exact k.len
  · obtain ⟨u, e⟩ := k.zs b hb
    exact ⟨u, by show upd W.H a o b = _; rw [upd_ne (nza b hb)]; exact e⟩
  · by_cases hin : i = n
    · subst hin
      have hl : i < W.μ.length := by
        have := (List.getElem?_eq_some_iff.mp hm).1
        rw [← k.len]
        exact this
      have h2 : (W.μ.set i ob)[i]? = some ob' := h2
      rw [List.getElem?_set_self hl] at h2
      cases h2
      have h1 : W.m[i]? = some c := h1
      rw [hm] at h1
      cases h1
      exact hob.mono ext (fun _ _ q => q) fun _ _ q => q
    · have h2 : (W.μ.set n ob)[i]? = some ob' := h2
      rw [List.getElem?_set_ne (Ne.symm hin)] at h2
      refine (k.ob i c ob' h1 h2).mono ext (fun _ _ q => q) fun hnf u e => ?_
      have hli : live W.μ i := by
        unfold live
        rw [h2]
        cases ob' with
        | fro d => exact absurd rfl (hnf d)
        | _ => trivial
      show upd W.H a o c = _
      rw [upd_ne (fun e2 => hin (k.inj i n c hli hn h1 (by rw [e2]; exact hm)))]
      exact e
  · show upd W.H a o b = _
    rw [upd_ne (nza b hb)]
/-- a list is frozen -/
theorem Mok.freeze {n : Nat} {a : Addr} {xs : List D} (k : Mok G z W) (hm : W.m[n]? = some a) (hn : W.μ[n]? = some (.lst xs)) :
    Mok G z ⟨W.m, W.μ.set n (.fro (.lst xs)), W.H⟩ ∧ Le z W ⟨W.m, W.μ.set n (.fro (.lst xs)), W.H⟩ ∧ RpW G z ⟨W.m, W.μ.set n (.fro (.lst xs)), W.H⟩ (.lst xs) (.ref a) := by
  have hl : n < W.μ.length := (List.getElem?_eq_some_iff.mp hn).1
  have ln : live W.μ n := by
    unfold live
    rw [hn]
    trivial
  have la : W.lv a := ⟨n, ln, hm⟩
  have lvs : ∀ i, live (W.μ.set n (.fro (.lst xs))) i → live W.μ i ∧ i ≠ n := fun i hi => by
    unfold live at hi ⊢
    by_cases h : n = i
    · subst h
      rw [List.getElem?_set_self hl] at hi
      exact hi.elim
    · rw [List.getElem?_set_ne h] at hi
      exact ⟨hi, Ne.symm h⟩
  have lvi : ∀ b, Wd.lv ⟨W.m, W.μ.set n (.fro (.lst xs)), W.H⟩ b → W.lv b ∧ b ≠ a := fun b ⟨i, h1, h2⟩ => by
    obtain ⟨q1, q2⟩ := lvs i h1
    exact ⟨⟨i, q1, h2⟩, fun e => q2 (k.inj i n a q1 ln (by rw [← e]; exact h2) hm)⟩
  have ext : Ext (W.F z) (Wd.F z ⟨W.m, W.μ.set n (.fro (.lst xs)), W.H⟩) := fun b u e _ => by
    obtain ⟨h1, h2, h3⟩ := Wd.F_some e
    exact Wd.F_of h1 h2 fun q => h3 (lvi b q).1
  obtain ⟨vs, hv, rv⟩ : ∃ vs, W.H a = some (.lst vs) ∧ Rps G (W.F z) W.m xs vs := k.ob n a _ hm hn
  have rep : RpW G z ⟨W.m, W.μ.set n (.fro (.lst xs)), W.H⟩ (.lst xs) (.ref a) := .lst (Wd.F_of hv (fun hz => k.zl a hz la) fun q => (lvi a q).2 rfl) (rv.mono ext fun _ _ q => q)
  refine ⟨⟨?_, fun i j c hi hj h1 h2 => k.inj i j c (lvs i hi).1 (lvs j hj).1 h1 h2, fun b hb q => k.zl b hb (lvi b q).1, k.zs, k.tabs, fun i c ob' h1 h2 => ?_⟩, ⟨fun _ _ q => q, ext, fun _ _ => rfl⟩, rep⟩
  · show W.m.length = (W.μ.set n _).length
    rw [List.length_set]
    exact k.len
  · by_cases hin : i = n
    · subst hin
      have h2 : (W.μ.set i (.fro (.lst xs)))[i]? = some ob' := h2
      rw [List.getElem?_set_self hl] at h2
      cases h2
      have h1 : W.m[i]? = some c := h1
      rw [hm] at h1
      cases h1
      exact rep
    · have h2 : (W.μ.set n (.fro (.lst xs)))[i]? = some ob' := h2
      rw [List.getElem?_set_ne (Ne.symm hin)] at h2
      exact (k.ob i c ob' h1 h2).mono ext (fun _ _ q => q) fun _ _ e => e
end

/-! ### runs in worlds -/
theorem T.good_mono {α : Type} {Q Q' : α → Prop} : ∀ {t : T α}, (∀ a, Q a → Q' a) → t.good Q → t.good Q'
  | .ret a, h, q => h a q
  | .roll n k, h, q => fun r hr => T.good_mono h (q r hr)
theorem T.good_bind {α β : Type} {Q : β → Prop} {f : α → T β} : ∀ {t : T α}, (t.bind f).good Q → t.good fun a => (f a).good Q
  | .ret a, q => q
  | .roll n k, q => fun r hr => T.good_bind (q r hr)
theorem T.bind_good {α β : Type} {Q : β → Prop} {f : α → T β} : ∀ {t : T α}, (t.good fun a => (f a).good Q) → (t.bind f).good Q
  | .ret a, q => q
  | .roll n k, q => fun r hr => T.bind_good (q r hr)
/-- the run t in the world W: it comes to P, or lets out an exception as Ex says -/
def Wp (G : Gx) (z : List Addr) (W : Wd) {α : Type} (m : M α) (P : α → Wd → Prop) (Ex : Nat → List D → Wd → Prop) : Prop :=
  (m W.μ).good fun r => match r with
    | .ok a μ' => ∀ W' : Wd, W'.μ = μ' → Mok G z W' → Le z W W' → P a W'
    | .exc c xs μ' => ∀ W' : Wd, W'.μ = μ' → Mok G z W' → Le z W W' → Ex c xs W'
    | .bad => False
section
variable {G : Gx} {z : List Addr} {W : Wd} {α β : Type} {m : M α} {P P' : α → Wd → Prop} {Ex Ex' : Nat → List D → Wd → Prop}
theorem Wp.mono (h : Wp G z W m P Ex) (hp : ∀ a W', Mok G z W' → Le z W W' → P a W' → P' a W') (he : ∀ c xs W', Mok G z W' → Le z W W' → Ex c xs W' → Ex' c xs W') : Wp G z W m P' Ex' := by
  refine T.good_mono (fun r q => ?_) h
  cases r with
  | ok a μ' => exact fun W' e k l => hp a W' k l (q W' e k l)
  | exc c xs μ' => exact fun W' e k l => he c xs W' k l (q W' e k l)
  | bad => exact q
theorem Wp.bind {f : α → M β} {P : β → Wd → Prop} (h : Wp G z W (M.bind m f) P Ex) : Wp G z W m (fun a W' => Wp G z W' (f a) P Ex) Ex := by
  refine T.good_mono (fun r q => ?_) (T.good_bind h)
  cases r with
  | ok a μ' =>
    intro W' e k l
    show ((f a) W'.μ).good _
    rw [e]
    refine T.good_mono (fun r q => ?_) q
    cases r with
    | ok b μ2 => exact fun W2 e2 k2 l2 => q W2 e2 k2 (l.trans l2)
    | exc c xs μ2 => exact fun W2 e2 k2 l2 => q W2 e2 k2 (l.trans l2)
    | bad => exact q
  | exc c xs μ' => exact q
  | bad => exact q
theorem Wp.pure {a : α} (h : Wp G z W (M.pure a) P Ex) (W' : Wd) (e : W'.μ = W.μ) (k : Mok G z W') (l : Le z W W') : P a W' := h W' e k l
theorem Wp.pure0 {a : α} (h : Wp G z W (M.pure a) P Ex) (k : Mok G z W) : P a W := h W rfl k (Le.refl z W)
theorem Wp.pure' {a : α} (h : ∀ W' : Wd, W'.μ = W.μ → Mok G z W' → Le z W W' → P a W') : Wp G z W (M.pure a) P Ex := h
theorem Wp.bad (h : Wp G z W (M.bad : M α) P Ex) : False := h
theorem Wp.opt {o : Option α} (h : Wp G z W (M.opt o) P Ex) (k : Mok G z W) : ∃ a, o = some a ∧ P a W := by
  cases o with
  | none => exact (Wp.bad h).elim
  | some a => exact ⟨a, rfl, h.pure0 k⟩
theorem Wp.ite {c : Prop} [Decidable c] {m' : M α} (h : Wp G z W (if c then m else m') P Ex) : (c ∧ Wp G z W m P Ex) ∨ (¬ c ∧ Wp G z W m' P Ex) := by
  by_cases q : c
  · rw [if_pos q] at h
    exact .inl ⟨q, h⟩
  · rw [if_neg q] at h
    exact .inr ⟨q, h⟩
end
end DL
/-! DL3: own syntax against the text: the check -/
namespace DL
open PySem PyProof.Rows L2 PySem.Spec

/-- where a piece of text stands: its names by slot, its scope, the written scope of the block it stands in (none: a def's own body), the text's defs with their numbers of parameters, its constants -/
structure Cxt where
  N : List Str
  sc : Scope
  own : Option Scope
  fns : List (Str × Nat)
  cns : List Str
  gcd : Bool
  hot : Bool
  lam : Bool
  ers : List (Nat × Str)
  exs : List (Str × Bool)
def visB (sc : Scope) (x : Str) : Bool := match sc.names.lookup x with
  | some .local => true
  | some .cell => true
  | some .free => true
  | _ => false
def glB (sc : Scope) (x : Str) : Bool := match sc.names.lookup x with
  | some .globalImplicit => true
  | _ => false
def okNm (x : Str) : Bool := !(x == ("__debug__" : Str)) && !(x == ("__classdict__" : Str))
def Cxt.nm (Γ : Cxt) (i : Nat) (x : Str) : Bool := decide (Γ.N[i]? = some x)
def Cxt.asg (Γ : Cxt) (x : Str) : Bool := match Γ.sc.names.lookup x with
  | some .local => true
  | some .cell => match Γ.own with
    | none => true
    | some s => s.names.lookup x == some .cell
  | _ => false
/-! ### which form an expression has -/
def notStar : Expr → Bool
  | .Starred _ _ => false
  | _ => true
def notSet : Expr → Bool
  | .Set _ _ _ => false
  | _ => true
def notSlice : Expr → Bool
  | .Slice _ _ _ _ => false
  | _ => true
def notComp : Expr → Bool
  | .ListComp _ _ _ _ => false
  | .SetComp _ _ _ _ => false
  | .DictComp _ _ _ _ _ => false
  | _ => true
def plainTest : Expr → Bool
  | .UnaryOp .Not _ _ => false
  | .BoolOp _ _ _ => false
  | .IfExp _ _ _ _ => false
  | .Compare _ _ _ _ => false
  | _ => true
theorem star_of {e : Expr} {es : List Expr} {env : PySem.Env} (h : notStar e = true) : starEach (e :: es) env = (false, eval e env) :: starEach es env := by
  cases e <;> first | rfl | cases h
theorem stars_false {env : PySem.Env} {pos : Pos} : ∀ {es : List Expr}, es.all notStar = true → (backTo pos (starEach es env)).any (·.1) = false
  | [], _ => rfl
  | e :: es, h => by
    simp only [List.all_cons, Bool.and_eq_true] at h
    rw [star_of h.1]
    have ih := stars_false (env := env) (pos := pos) h.2
    unfold backTo at ih ⊢
    simpa using ih
theorem assign_of {e : Expr} {es : List Expr} {env : PySem.Env} (h : notStar e = true) : assignEach (e :: es) env = (false, assign e env) :: assignEach es env := by
  cases e <;> first | rfl | cases h
theorem assigns_of {env : PySem.Env} : ∀ {es : List Expr}, es.all notStar = true → assignEach es env = es.map fun e => (false, assign e env)
  | [], _ => rfl
  | e :: es, h => by
    simp only [List.all_cons, Bool.and_eq_true] at h
    rw [assign_of h.1, assigns_of h.2]
    rfl
theorem slice_of {e : Expr} (h : notSlice e = true) : PlainIx e := by
  intro o i
  cases e <;> first | rfl | cases h
theorem set_of {e : Expr} {env : PySem.Env} (h : notSet e = true) : ∀ x, foldedSetIterable e env x = pure x := by
  intro x
  cases e <;> first | rfl | cases h
theorem mark_of {e : Expr} {op : CmpOp} (h : notSet e = true) : behindInMarks op e = false := by
  cases e <;> first | rfl | cases h
theorem swap_none {e : Expr} {n : Nat} {env : PySem.Env} (h : notComp e = true) (t : Option Expr) : swapsWith e t n env = pure false := by
  cases e <;> first | rfl | cases h
theorem plain_of {e : Expr} {env : PySem.Env} (h : plainTest e = true) : ∀ whole, isTrue e env whole = (do let v ← whole; standAt e.pos; holding [v] (truthy v)) := by
  intro whole
  cases e with
  | UnaryOp op a p => cases op <;> first | rfl | cases h
  | BoolOp => cases h
  | IfExp => cases h
  | Compare => cases h
  | _ => rfl

/-! ### targets -/
mutual
def ckT (Γ : Cxt) : Tz → Expr → Bool
  | .nm i, .Name x _ => Γ.nm i x && Γ.asg x
  | .tp ts, .Tuple es _ _ => ckTs Γ ts es
  | _, _ => false
def ckTs (Γ : Cxt) : Tz → List Expr → Bool
  | .nil, [] => true
  | .cons t ts, e :: es => notStar e && ckT Γ t e && ckTs Γ ts es
  | _, _ => false
end
def isTup : Expr → Bool
  | .Tuple _ _ _ => true
  | _ => false
mutual
def namesT : Expr → List Str
  | .Name x _ => [x]
  | .Tuple es _ _ => namesTs es
  | _ => []
def namesTs : List Expr → List Str
  | [] => []
  | e :: es => namesT e ++ namesTs es
end

/-! ### expressions -/
def Op2.op : Op2 → Operator
  | .add => .Add | .sub => .Sub | .mul => .Mult | .fdiv => .FloorDiv | .mod => .Mod | .pow => .Pow
  | .shl => .LShift | .shr => .RShift | .band => .BitAnd | .bor => .BitOr | .bxor => .BitXor
def Cp.op : Cp → CmpOp
  | .eq => .Eq | .ne => .NotEq | .lt => .Lt | .le => .LtE | .gt => .Gt | .ge => .GtE | .isN => .Is | .notN => .IsNot | .mem => .In | .nmem => .NotIn | .isB => .Is | .notB => .IsNot
def Bf.name : Bf → Str
  | .len => "len" | .abs => "abs" | .sum => "sum" | .min1 => "min" | .max1 => "max" | .minD => "min" | .maxD => "max" | .min2 => "min" | .max2 => "max" | .int => "int" | .list => "list" | .tuple => "tuple" | .gcd => "gcd" | .isin => "isinstance" | .all => "all" | .any => "any"
def Bf.ar : Bf → Nat
  | .min2 => 2 | .max2 => 2 | .gcd => 2 | .isin => 2 | _ => 1
def bfOk (Γ : Cxt) : Bf → Bool
  | .gcd => Γ.gcd
  | .sum => !Γ.hot
  | .min1 => !Γ.hot
  | .max1 => !Γ.hot
  | .minD => !Γ.hot
  | .maxD => !Γ.hot
  | .min2 => !Γ.hot
  | .max2 => !Γ.hot
  | .all => !Γ.hot
  | .any => !Γ.hot
  | _ => true
/-- no parameters -/
def noPars (p : Arguments) : Bool := p.posonlyargs.isEmpty && p.args.isEmpty && p.vararg.isNone && p.kwonlyargs.isEmpty && p.kw_defaults.isEmpty && p.kwarg.isNone && p.defaults.isEmpty
theorem noPars_ok {p : Arguments} (h : noPars p = true) : p = ⟨[], [], none, [], [], none, []⟩ := by
  obtain ⟨a, b, c, d, e, f, g⟩ := p
  simp only [noPars, Bool.and_eq_true, List.isEmpty_iff, Option.isNone_iff_eq_none] at h
  obtain ⟨⟨⟨⟨⟨⟨rfl, rfl⟩, rfl⟩, rfl⟩, rfl⟩, rfl⟩, rfl⟩ := h
  rfl
/-- what a method is asked of: a name, an item -/
def plainBase : Expr → Bool
  | .Name _ _ => true
  | .Subscript _ _ _ => true
  | _ => false
theorem base_of {p : Expr} {m : Str} {env : PySem.Env} (h : plainBase p = true) : attributeBase p m env (eval p env) = eval p env := by
  cases p <;> first | rfl | cases h
structure Ck where
  e : Cxt → Expr → Bool
  t : Cxt → Expr → Bool
  es : Cxt → List Expr → Bool
  i : Cxt → Bool → Expr → Bool
  p : Cxt → Option Expr → Bool
  b : Cxt → BoolOp → List Expr → Bool
  bt : Cxt → BoolOp → List Expr → Bool
  l : Cxt → Expr → Bool
def Ck.ofE (f : Cxt → Expr → Bool) : Ck where
  e := f
  t := fun Γ x => f Γ x && plainTest x
  es := fun _ _ => false
  i := fun Γ _ x => f Γ x && notSet x
  p := fun Γ o => match o with
    | some x => f Γ x
    | none => false
  b := fun _ _ _ => false
  bt := fun _ _ _ => false
  l := fun _ _ => false
def Ck.ofI (f : Cxt → Bool → Expr → Bool) : Ck := { Ck.ofE (fun _ _ => false) with i := f }
def isNil : Ez → Bool
  | .nil => true
  | _ => false
def ckLc (tg : Tz) (I P A : Ck) (nl : Bool) (Γ : Cxt) (x : Expr) : Bool := match x with
  | .ListComp y [⟨tgx, itx, ifs, as⟩] s _ => decide (as = 0) && notSet itx && I.i Γ (isTup tgx) itx &&
    decide ((namesT tgx).length = tg.slots.length) && blkC Γ.N Γ.sc s ((namesT tgx).zip tg.slots) &&
    (ckT { Γ with sc := relS s Γ.sc, own := some s } tg tgx && (match ifs with
      | [] => nl
      | [c] => !nl && P.t { Γ with sc := relS s Γ.sc, own := some s } c
      | _ => false) && A.e { Γ with sc := relS s Γ.sc, own := some s } y)
  | _ => false
def ckBf (f : Bf) (A : Ck) (Γ : Cxt) (x : Expr) : Bool := match x with
  | .Call (.Name y _) xs [] _ => decide (y = f.name) && decide (xs.length = f.ar) && glB Γ.sc y && xs.all notStar && bfOk Γ f && A.es Γ xs
  | _ => false
def ck : Ez → Ck
  | .non => .ofE fun _ x => match x with
    | .Constant .none _ _ => true
    | _ => false
  | .bl b => .ofE fun _ x => match x with
    | .Constant (.bool c) _ _ => b == c
    | _ => false
  | .int i => .ofE fun _ x => match x with
    | .Constant (.int j) _ _ => decide (i = j)
    | _ => false
  | .str s => .ofE fun _ x => match x with
    | .Constant (.str t) _ _ => decide (s = t)
    | _ => false
  | .var i => .ofE fun Γ x => match x with
    | .Name y _ => Γ.nm i y && visB Γ.sc y && okNm y
    | _ => false
  | .frz i => .ofE fun Γ x => match x with
    | .Name y _ => Γ.nm i y && visB Γ.sc y && okNm y
    | _ => false
  | .gfn k => .ofE fun Γ x => match x with
    | .Name y _ => (match Γ.fns[k]? with
      | some (z, _) => decide (y = z)
      | none => false) && glB Γ.sc y && okNm y
    | _ => false
  | .gcon k => .ofE fun Γ x => match x with
    | .Name y _ => decide (Γ.cns[k]? = some y) && glB Γ.sc y && okNm y
    | _ => false
  | .gty n => .ofE fun Γ x => match x with
    | .Name y _ => tyOk n && decide (y = Str.ofString n) && glB Γ.sc y
    | _ => false
  | .bin o a b =>
    let f : Cxt → Expr → Bool := fun Γ x => match x with
      | .BinOp l op r _ => decide (op = o.op) && (ck a).e Γ l && (ck b).e Γ r
      | _ => false
    { Ck.ofE f with l := fun Γ x => (decide (o = .add) || decide (o = .mul)) && f Γ x }
  | .neg a => .ofE fun Γ x => match x with
    | .UnaryOp .USub y _ => (ck a).e Γ y
    | _ => false
  | .cmp c a b =>
    let f : Cxt → Expr → Bool := fun Γ x => match x with
      | .Compare l [op] [r] _ => decide (op = c.op) && notSet r && (ck a).e Γ l && (ck b).e Γ r
      | _ => false
    { Ck.ofE f with t := f }
  | .chain c c' a b d =>
    let f : Cxt → Expr → Bool := fun Γ x => match x with
      | .Compare l [op, op'] [m, r] _ => decide (op = c.op) && decide (op' = c'.op) && notSet r && notSet m && (ck a).e Γ l && (ck b).e Γ m && (ck d).e Γ r
      | _ => false
    { Ck.ofE f with t := f }
  | .bool o es =>
    { Ck.ofE fun Γ x => match x with
      | .BoolOp op vs _ => decide (op = o) && (ck es).b Γ o vs
      | _ => false with
      t := fun Γ x => match x with
      | .BoolOp op vs _ => decide (op = o) && (ck es).bt Γ o vs
      | _ => false }
  | .not a =>
    { Ck.ofE fun Γ x => match x with
      | .UnaryOp .Not y _ => (ck a).e Γ y
      | _ => false with
      t := fun Γ x => match x with
      | .UnaryOp .Not y _ => (ck a).t Γ y
      | _ => false }
  | .ife c a b => .ofE fun Γ x => match x with
    | .IfExp t l r _ => (ck c).t Γ t && (ck a).e Γ l && (ck b).e Γ r
    | _ => false
  | .tup es => .ofE fun Γ x => match x with
    | .Tuple xs _ _ => (ck es).es Γ xs
    | _ => false
  | .lst es =>
    let f : Cxt → Expr → Bool := fun Γ x => match x with
      | .List xs _ => (ck es).es Γ xs
      | _ => false
    { Ck.ofE f with l := f }
  | .idx a i => .ofE fun Γ x => match x with
    | .Subscript l r _ => notSlice r && (ck a).e Γ l && (ck i).e Γ r
    | _ => false
  | .slc a lo hi =>
    let f : Cxt → Expr → Bool := fun Γ x => match x with
      | .Subscript l (.Slice p q none _) _ => (ck a).e Γ l && (ck lo).p Γ p && (ck hi).p Γ q
      | _ => false
    { Ck.ofE f with l := f }
  | .mkl a => .ofE fun Γ x => (ck a).l Γ x
  | .call k es => .ofE fun Γ x => match x with
    | .Call (.Name y _) xs [] _ => !Γ.hot && (match Γ.fns[k]? with
      | some (z, n) => decide (y = z) && decide (xs.length = n)
      | none => false) && glB Γ.sc y && okNm y && xs.all notStar && (ck es).es Γ xs
    | _ => false
  | .bf f es =>
    let c := ckBf f (ck es)
    { Ck.ofE c with l := fun Γ x => decide (f = .list) && c Γ x }
  | .lc tg it cond elt =>
    let f := ckLc tg (ck it) (ck cond) (ck elt) (isNil cond)
    { Ck.ofE f with l := f }
  | .range1 a => .ofI fun Γ _ x => match x with
    | .Call (.Name y _) [e] [] _ => !Γ.hot && decide (y = ("range" : Str)) && glB Γ.sc y && notStar e && (ck a).e Γ e
    | _ => false
  | .range2 a b => .ofI fun Γ _ x => match x with
    | .Call (.Name y _) [e, u] [] _ => !Γ.hot && decide (y = ("range" : Str)) && glB Γ.sc y && notStar e && notStar u && (ck a).e Γ e && (ck b).e Γ u
    | _ => false
  | .enum a => .ofI fun Γ tp x => match x with
    | .Call (.Name y _) [e] [] _ => !Γ.hot && tp && decide (y = ("enumerate" : Str)) && glB Γ.sc y && notStar e && (ck a).e Γ e
    | _ => false
  | .zip a b => .ofI fun Γ tp x => match x with
    | .Call (.Name y _) [e, u] [] _ => !Γ.hot && tp && decide (y = ("zip" : Str)) && glB Γ.sc y && notStar e && notStar u && (ck a).e Γ e && (ck b).e Γ u
    | _ => false
  | .zipL a b => .ofI fun Γ tp x => match x with
    | .Call (.Name y _) [e, u] [] _ => Γ.hot && tp && decide (y = ("zip" : Str)) && glB Γ.sc y && notStar e && notStar u && (ck a).e Γ e && (ck b).e Γ u
    | _ => false
  | .bad => .ofE fun _ _ => true
  | .isx a q => .ofE fun Γ x => match x with
    | .Call (.Name y _) [e, .Name c _] [] _ => decide (y = ("isinstance" : Str)) && Γ.hot && Γ.own.isNone && glB Γ.sc y && notStar e && (ck a).e Γ e && (match Γ.exs[q]? with
      | some (c', _) => decide (c' = c)
      | none => false) && glB Γ.sc c && okNm c
    | _ => false
  | .join s b => .ofE fun Γ x => match x with
    | .Call (.Attribute (.Constant (.str s') _ _) m apos) [e] [] pos => decide (m = ("join" : Str)) && (apos.endLine == pos.line) && notStar e && decide (s = s') && (ck b).e Γ e
    | _ => false
  | .err k a => .ofE fun Γ x => match x with
    | .Call (.Name y _) [.Lambda ps b s _] [] _ => !Γ.hot && Γ.lam && decide (Γ.ers.lookup k = some y) && glB Γ.sc y && okNm y && noPars ps && LamX.lamSB Γ.sc s && (ck a).e { Γ with sc := s, own := some s, lam := false, ers := [] } b
    | _ => false
  | .callv i es => .ofE fun Γ x => match x with
    | .Call (.Name y _) (e :: xs) [] _ => !Γ.hot && Γ.nm i y && visB Γ.sc y && okNm y && (e :: xs).all notStar && (ck es).es Γ (e :: xs)
    | _ => false
  | .dnew _ => .ofE fun _ x => match x with
    | .Dict [] [] _ => true
    | _ => false
  | .dget a b => .ofE fun Γ x => match x with
    | .Subscript l r _ => notSlice r && (ck a).e Γ l && (ck b).e Γ r
    | _ => false
  | .dgetT a es => .ofE fun Γ x => match x with
    | .Subscript l (.Tuple xs _ _) _ => (ck a).e Γ l && (ck es).es Γ xs
    | _ => false
  | .lrng a b =>
    let f : Cxt → Expr → Bool := fun Γ x => match x with
      | .Call (.Name y _) [.Call (.Name z _) [e, u] [] _] [] _ => !Γ.hot && decide (y = ("list" : Str)) && decide (z = ("range" : Str)) && glB Γ.sc y && glB Γ.sc z && notStar e && notStar u && (ck a).e Γ e && (ck b).e Γ u
      | _ => false
    { Ck.ofE f with l := f }
  | .trng a b => .ofE fun Γ x => match x with
    | .Call (.Name y _) [.Call (.Name z _) [e, u] [] _] [] _ => !Γ.hot && decide (y = ("tuple" : Str)) && decide (z = ("range" : Str)) && glB Γ.sc y && glB Γ.sc z && notStar e && notStar u && (ck a).e Γ e && (ck b).e Γ u
    | _ => false
  | .rev a =>
    let f : Cxt → Expr → Bool := fun Γ x => match x with
      | .Subscript l (.Slice none none (some (.UnaryOp .USub (.Constant (.int j) _ _) _)) _) _ => decide (j = 1) && (ck a).e Γ l
      | _ => false
    { Ck.ofE f with l := f }
  | .range3 a b c => .ofI fun Γ _ x => match x with
    | .Call (.Name y _) [e, u, v] [] _ => !Γ.hot && decide (y = ("range" : Str)) && glB Γ.sc y && notStar e && notStar u && notStar v && (ck a).e Γ e && (ck b).e Γ u && (ck c).e Γ v
    | _ => false
  | .index a b => .ofE fun Γ x => match x with
    | .Call (.Attribute p m apos) [u] [] pos => decide (m = ("index" : Str)) && (apos.endLine == pos.line) && notStar u && plainBase p && (ck a).e Γ p && (ck b).e Γ u
    | _ => false
  | .nil => { Ck.ofE (fun _ _ => false) with
      es := fun _ xs => xs.isEmpty
      p := fun _ o => o.isNone }
  | .cons e es => { Ck.ofE (fun _ _ => false) with
      p := fun _ _ => false
      es := fun Γ xs => match xs with
        | y :: ys => notStar y && (ck e).e Γ y && (ck es).es Γ ys
        | [] => false
      b := fun Γ o xs => match xs with
        | [y] => (match es with
          | .nil => true
          | _ => false) && (ck e).e Γ y
        | y :: z :: ys => (match es with
          | .cons _ _ => true
          | _ => false) && (ck e).e Γ y && (ck es).b Γ o (z :: ys)
        | [] => false
      bt := fun Γ o xs => match xs with
        | [y] => (match es with
          | .nil => true
          | _ => false) && (ck e).t Γ y
        | y :: z :: ys => (match es with
          | .cons _ _ => true
          | _ => false) && (ck e).t Γ y && (ck es).bt Γ o (z :: ys)
        | [] => false }
end DL
/-! DL4: what a checked expression does, by the interpreter: readings, operators -/
namespace DL
open PySem PyProof.Rows L2 PySem.Spec

/-- an exception's fields, by its own dict -/
def ExR (G : Gx) (z : List Addr) (xs : List D) (d : Option Addr) (W : Wd) : Prop := match xs with
  | [] => d = none
  | [x] => ∃ dd f v, d = some dd ∧ W.F z dd = some (.xd [(f, v)]) ∧ RpW G z W x v
  | _ => False
def exW (G : Gx) (z : List Addr) (Wx : WX) (σ : L2.St) : Nat → List D → Wd → Prop := fun c xs W => ∀ d, ExR G z xs d W → Wx (.ref (G.ca c)) d σ W.H
/-- the run of f from these slots and this heap -/
def Run (G : Gx) (Wx : WX) {α : Type} (f : Env → M α) (σ : L2.St) (H : Hp) (P : List Addr → α → Wd → Prop) : Prop :=
  ∃ z ρ W, W.H = H ∧ Mok G z W ∧ EnvR G z W ρ σ ∧ Wp G z W (f ρ) (P z) (exW G z Wx σ)
def tD (G : Gx) (Wx : WX) (f : Env → M D) : TE := fun σ H Q => Run G Wx f σ H fun z d W => ∀ v, RpW G z W d v → Q v W.H
def tT (G : Gx) (Wx : WX) (f : Env → M Bool) : TT := fun σ H Q => Run G Wx f σ H fun z b W => Q b W.H
def tA (G : Gx) (Wx : WX) (f : Env → M (List D)) : TA := fun σ H Q => Run G Wx f σ H fun z ds W => ∀ vs, RpsW G z W ds vs → Q vs W.H
def tL (G : Gx) (Wx : WX) (f : Env → M (List D)) : TE := fun σ H Q => Run G Wx f σ H fun z ds W => ∀ vs, RpsW G z W ds vs → ∀ p, W.H p = none → Q (.ref p) (upd W.H p (.lst vs))
def tO (G : Gx) (Wx : WX) (f : Env → M (Option Int)) : TO := fun σ H Q => Run G Wx f σ H fun z o W => Q o W.H
/-- J yields these data -/
def ItR (G : Gx) (F : Hp) (m : List Addr) (J : It) (ds : List D) : Prop :=
  ∀ (z : List Addr) (W : Wd), Mok G z W → Ext F (W.F z) → (∀ (i : Nat) (a : Addr), m[i]? = some a → W.m[i]? = some a) →
    (∀ i d, ds[i]? = some d → J.go i W.H ∧ ∀ x H', J.yld i W.H x H' → ∃ W' : Wd, W'.H = H' ∧ W'.μ = W.μ ∧ Mok G z W' ∧ Le z W W' ∧ RpW G z W' d x) ∧ (∀ i, ds.length ≤ i → J.stop i W.H)
def tI (G : Gx) (Wx : WX) (f : Env → M (List D)) : TI := fun σ H R => Run G Wx f σ H fun z ds W => ∀ J, ItR G (W.F z) W.m J ds → R J W.H

theorem impPE {X : Cx} {e : Expr} {t t' : TE} (h : PE X e t) (hi : ∀ σ H Q, t' σ H Q → t σ H Q) : PE X e t' := ⟨fun pins s σ H Q I q => h.run pins s σ H Q I (hi σ H Q q)⟩
theorem impPT {X : Cx} {e : Expr} {t t' : TT} (h : PT X e t) (hi : ∀ σ H Q, t' σ H Q → t σ H Q) : PT X e t' := ⟨fun pins s σ H Q I q => h.run pins s σ H Q I (hi σ H Q q)⟩
theorem impPW {X : Cx} {e : Expr} {t t' : TT} (h : PW X e t) (hi : ∀ σ H Q, t' σ H Q → t σ H Q) : PW X e t' := ⟨fun w pins s σ H Q I q => h.run w pins s σ H Q I (hi σ H Q q)⟩
theorem impPA {X : Cx} {e : List Expr} {t t' : TA} (h : PA X e t) (hi : ∀ σ H Q, t' σ H Q → t σ H Q) : PA X e t' := ⟨fun w pins s σ H Q I q => h.run w pins s σ H Q I (hi σ H Q q)⟩
theorem impPI {X : Cx} {g e : Expr} {t t' : TI} (h : PI X g e t) (hi : ∀ σ H Q, t' σ H Q → t σ H Q) : PI X g e t' := ⟨fun pins s σ H Q I q => h.run pins s σ H Q I (hi σ H Q q)⟩
theorem impPO {X : Cx} {e : Option Expr} {t t' : TO} (h : PO X e t) (hi : ∀ σ H Q, t' σ H Q → t σ H Q) : PO X e t' := ⟨fun pins s σ H Q I q => h.run pins s σ H Q I (hi σ H Q q)⟩

section
variable {G : Gx} {Wx : WX} {σ : L2.St} {H : Hp} {α : Type} {P : List Addr → α → Wd → Prop} {z : List Addr} {W : Wd}
theorem un1 {f : Env → M D} {op : Env → D → M α} (h : Run G Wx (fun ρ => (f ρ).bind (op ρ)) σ H P) {R : V → Hp → Prop}
    (hr : ∀ z ρ W d v, Mok G z W → EnvR G z W ρ σ → RpW G z W d v → Wp G z W (op ρ d) (P z) (exW G z Wx σ) → R v W.H) : tD G Wx f σ H R := by
  obtain ⟨z, ρ, W, e, k, r, h⟩ := h
  exact ⟨z, ρ, W, e, k, r, h.bind.mono (fun d1 W1 k1 l1 h1 v1 rv1 => hr z ρ W1 d1 v1 k1 (r.le l1) rv1 h1) fun _ _ _ _ _ q => q⟩
theorem bin2 {f g : Env → M D} {op : Env → D → D → M α} (h : Run G Wx (fun ρ => (f ρ).bind fun x => (g ρ).bind fun y => op ρ x y) σ H P) {R : V → V → Hp → Prop}
    (hr : ∀ z ρ W d1 d2 v1 v2, Mok G z W → EnvR G z W ρ σ → RpW G z W d1 v1 → RpW G z W d2 v2 → Wp G z W (op ρ d1 d2) (P z) (exW G z Wx σ) → R v1 v2 W.H) :
    tD G Wx f σ H fun x H1 => tD G Wx g σ H1 fun y H2 => R x y H2 := by
  refine un1 h fun z ρ W d v k r rv h1 => ?_
  exact ⟨z, ρ, W, rfl, k, r, h1.bind.mono (fun d2 W2 k2 l2 h2 v2 rv2 => hr z ρ W2 d d2 v v2 k2 (r.le l2) (rv.le l2) rv2 h2) fun _ _ _ _ _ q => q⟩

/-! ### data read -/
theorem F_sub {b : Addr} {o : HO} (h : W.F z b = some o) : W.H b = some o := (Wd.F_some h).1
theorem sqT_of {a : Addr} {vs : List V} (h : SqT G.K (W.F z) a vs) : SqT G.K W.H a vs := sqT_sub (fun _ _ q => F_sub q) h
theorem sqL_of {a : Addr} {vs : List V} (h : SqL G.K (W.F z) a vs) : SqL G.K W.H a vs := sqL_sub (fun _ _ q => F_sub q) h
theorem Rp.inv_ref {F : Hp} {m : List Addr} {n : Nat} {v : V} (h : Rp G F m (.ref n) v) : ∃ a, v = .ref a ∧ m[n]? = some a := by
  cases h with
  | ref h => exact ⟨_, rfl, h⟩
theorem seqL_ok {Q : List D → Wd → Prop} {Ex : Nat → List D → Wd → Prop} {d : D} {v : V} (k : Mok G z W) (r : RpW G z W d v) (h : Wp G z W (seqL d) Q Ex) :
    ∃ a xs vs, v = .ref a ∧ W.H a = some (.lst vs) ∧ RpsW G z W xs vs ∧ Q xs W := by
  cases d with
  | lst xs =>
    cases r with
    | lst h1 h2 => exact ⟨_, xs, _, rfl, F_sub h1, h2, h W rfl k (Le.refl _ _)⟩
  | ref n =>
    obtain ⟨a, rfl, hm⟩ := r.inv_ref
    cases e : W.μ[n]? with
    | none =>
      have h' : (seqL (.ref n) W.μ).good _ := h
      simp only [seqL, e] at h'
      exact h'.elim
    | some o =>
      have h' : (seqL (.ref n) W.μ).good _ := h
      simp only [seqL, e] at h'
      cases o with
      | lst xs =>
        obtain ⟨vs, h1, h2⟩ := k.ob n a _ hm e
        exact ⟨a, xs, vs, rfl, h1, h2, h' W rfl k (Le.refl _ _)⟩
      | dK _ => exact h'.elim
      | dT _ => exact h'.elim
      | fro _ => exact h'.elim
      | cup => exact h'.elim
  | _ => exact (show False from h).elim
theorem seqA_ok {Q : List D → Wd → Prop} {Ex : Nat → List D → Wd → Prop} {d : D} {v : V} (k : Mok G z W) (r : RpW G z W d v) (h : Wp G z W (seqA d) Q Ex) :
    ∃ a xs vs, v = .ref a ∧ (SqL G.K W.H a vs ∨ SqT G.K W.H a vs) ∧ RpsW G z W xs vs ∧ Q xs W ∧ ((∃ ds, d = .tup ds) → SqT G.K W.H a vs ∧ SqT G.K (W.F z) a vs) ∧ ((∀ ds, d ≠ .tup ds) → W.H a = some (.lst vs)) := by
  cases d with
  | tup xs =>
    cases r with
    | tup h1 h2 => exact ⟨_, xs, _, rfl, .inr (sqT_of h1), h2, h W rfl k (Le.refl _ _), fun _ => ⟨sqT_of h1, h1⟩, fun q => absurd rfl (q xs)⟩
  | lst xs =>
    obtain ⟨a, xs, vs, e, h1, h2, h3⟩ := seqL_ok k r (show Wp G z W (seqL (.lst xs)) Q Ex from h)
    exact ⟨a, xs, vs, e, .inl (SqL.of h1), h2, h3, fun ⟨_, q⟩ => (nomatch q), fun _ => h1⟩
  | ref n =>
    obtain ⟨a, xs, vs, e, h1, h2, h3⟩ := seqL_ok k r (show Wp G z W (seqL (.ref n)) Q Ex from h)
    exact ⟨a, xs, vs, e, .inl (SqL.of h1), h2, h3, fun ⟨_, q⟩ => (nomatch q), fun _ => h1⟩
  | _ => exact (show False from h).elim

/-! ### data compared -/
mutual
theorem dp_of (k : True) : ∀ {d : D} {v : V} {y : PyData}, RpW G z W d v → d.py = some y → Dp G.K W.H v y
  | .non, _, _, .non, e => by cases e; exact .non
  | .bl b, _, _, .bl _, e => by cases e; exact .bl b
  | .int i, _, _, .int _, e => by cases e; exact .int i
  | .str x, _, _, .str _, e => by cases e; exact .str x
  | .tup xs, _, y, .tup h r, e => by
    simp only [D.py] at e
    cases q : D.pys xs with
    | none => rw [q] at e; cases e
    | some ys =>
      rw [q] at e
      cases e
      exact .tup (sqT_of h) (dps_of k r q)
  | .lst xs, _, y, .lst h r, e => by
    simp only [D.py] at e
    cases q : D.pys xs with
    | none => rw [q] at e; cases e
    | some ys =>
      rw [q] at e
      cases e
      exact .lst (SqL.of (F_sub h)) (dps_of k r q)
  | .ref _, _, _, _, e => by cases e
  | .fn _, _, _, _, e => by cases e
  | .cls _, _, _, _, e => by cases e
  | .ty _, _, _, _, e => by cases e
  | .scr _, _, _, _, e => by cases e
  | .exn, _, _, _, e => by cases e
theorem dps_of (k : True) : ∀ {d : List D} {v : List V} {y : List PyData}, RpsW G z W d v → D.pys d = some y → DpAll G.K W.H v y
  | [], _, _, .nil, e => by cases e; exact .nil
  | d :: ds, _, y, .cons h t, e => by
    simp only [D.pys] at e
    cases q1 : d.py with
    | none => rw [q1] at e; cases e
    | some y1 =>
      cases q2 : D.pys ds with
      | none => rw [q1, q2] at e; cases e
      | some ys =>
        rw [q1, q2] at e
        cases e
        exact .cons (dp_of k h q1) (dps_of k t q2)
end
/-- what is peeked at is read so -/
theorem peek_ok {Q : D → Wd → Prop} {Ex : Nat → List D → Wd → Prop} {d : D} {v : V} (k : Mok G z W) (r : RpW G z W d v) (h : Wp G z W (peek d) Q Ex) :
    ∃ d', (∀ y, d'.py = some y → Dp G.K W.H v y) ∧ Q d' W := by
  have stay : Wp G z W (M.pure d) Q Ex → ∃ d', (∀ y, d'.py = some y → Dp G.K W.H v y) ∧ Q d' W := fun h => ⟨d, fun y e => dp_of trivial r e, h.pure0 k⟩
  cases d with
  | ref n =>
    have h' : (peek (.ref n) W.μ).good _ := h
    obtain ⟨a, rfl, hm⟩ := r.inv_ref
    cases e : W.μ[n]? with
    | none => simp only [peek, e] at h'; exact (show False from h').elim
    | some o =>
      simp only [peek, e] at h'
      cases o with
      | fro x => exact ⟨x, fun y ey => dp_of trivial (k.ob n a _ hm e) ey, h' W rfl k (Le.refl _ _)⟩
      | lst xs =>
        obtain ⟨vs, h1, h2⟩ := k.ob n a _ hm e
        refine ⟨.lst xs, fun y ey => ?_, h' W rfl k (Le.refl _ _)⟩
        simp only [D.py] at ey
        cases q : D.pys xs with
        | none => rw [q] at ey; cases ey
        | some ys =>
          rw [q] at ey
          cases ey
          exact .lst (SqL.of h1) (dps_of trivial h2 q)
      | dK _ => exact (show False from h').elim
      | dT _ => exact (show False from h').elim
      | cup => exact (show False from h').elim
  | _ => exact stay h
theorem eqv_dp {a b : D} {v w' : V} {c : Bool} (ra : ∀ y, a.py = some y → Dp G.K W.H v y) (rb : ∀ y, b.py = some y → Dp G.K W.H w' y) (h : D.eqv a b = some c) :
    ∃ d e, Dp G.K W.H v d ∧ Dp G.K W.H w' e ∧ SeqAt.shaped d = true ∧ SeqAt.shaped e = true ∧ PyData.eqv d e = c := by
  unfold D.eqv at h
  cases q1 : a.py with
  | none => rw [q1] at h; cases h
  | some x =>
    cases q2 : b.py with
    | none => rw [q1, q2] at h; cases h
    | some y =>
      rw [q1, q2] at h
      simp only at h
      split at h
      · rename_i hs
        simp only [Bool.and_eq_true] at hs
        cases h
        exact ⟨x, y, ra x q1, rb y q2, hs.1, hs.2, rfl⟩
      · cases h
theorem flat_of {d : D} {v : V} (r : RpW G z W d v) (h : d.flat = true) : flatV v = true := by
  cases r <;> first | rfl | cases h
theorem flats_of : ∀ {ds : List D} {vs : List V}, RpsW G z W ds vs → ds.all D.flat = true → vs.all flatV = true
  | _, _, .nil, _ => rfl
  | _, _, .cons h t, e => by
    simp only [List.all_cons, Bool.and_eq_true] at e ⊢
    exact ⟨flat_of h e.1, flats_of t e.2⟩
theorem eqF_of {a b : D} {v w' : V} (ra : RpW G z W a v) (rb : RpW G z W b w') (ha : a.flat = true) (hb : b.flat = true) : eqV v w' = D.eqF a b := by
  cases ra <;> first | (cases ha; done) | skip
  all_goals (cases rb <;> first | (cases hb; done) | rfl)
theorem inV_of {a : D} {v : V} (ra : RpW G z W a v) (ha : a.flat = true) : ∀ {ds : List D} {vs : List V}, RpsW G z W ds vs → ds.all D.flat = true → inV v vs = ds.any fun y => D.eqF y a
  | _, _, .nil, _ => rfl
  | _, _, .cons h t, e => by
    simp only [List.all_cons, Bool.and_eq_true] at e
    have ih := inV_of ra ha t e.2
    unfold inV at ih ⊢
    rw [List.any_cons, List.any_cons, ih, eqF_of h ra e.1 ha]
theorem ints_of : ∀ {ds : List D} {vs : List V} {is : List Int}, RpsW G z W ds vs → intsOf ds = some is → vs = is.map V.int
  | [], _, _, .nil, e => by cases e; rfl
  | d :: ds, _, is, .cons h t, e => by
    cases d with
    | int i =>
      simp only [intsOf] at e
      cases q : intsOf ds with
      | none => rw [q] at e; cases e
      | some js =>
        rw [q] at e
        cases e
        cases h
        rw [ints_of t q]
        rfl
    | _ => cases e
theorem bls_of : ∀ {ds : List D} {vs : List V} {is : List Bool}, RpsW G z W ds vs → blsOf ds = some is → vs = is.map V.bl
  | [], _, _, .nil, e => by cases e; rfl
  | d :: ds, _, is, .cons h t, e => by
    cases d with
    | bl i =>
      simp only [blsOf] at e
      cases q : blsOf ds with
      | none => rw [q] at e; cases e
      | some js =>
        rw [q] at e
        cases e
        cases h
        rw [bls_of t q]
        rfl
    | _ => cases e
theorem atI_of {ds : List D} {vs : List V} {i : Int} {d : D} (r : RpsW G z W ds vs) (h : atI ds i = some d) : ∃ v, atI vs i = some v ∧ RpW G z W d v := by
  unfold atI at h ⊢
  rw [← r.len]
  cases q : ixN ds.length i with
  | none => rw [q] at h; cases h
  | some j =>
    rw [q] at h
    exact r.get (i := j) (d := d) h
theorem cut_of {ds : List D} {vs : List V} {lo hi : Option Int} (r : RpsW G z W ds vs) : RpsW G z W (cut ds lo hi) (cutV vs lo hi) := by
  unfold cut cutV
  rw [r.len]
  exact (r.drop _).take _
theorem truth_ok {Q : Bool → Wd → Prop} {Ex : Nat → List D → Wd → Prop} {d : D} {v : V} (k : Mok G z W) (r : RpW G z W d v) (h : Wp G z W (truth d) Q Ex) :
    ∃ b, TruV G.K v W.H b ∧ Q b W := by
  cases d with
  | non => cases r; exact ⟨_, rfl, h.pure0 k⟩
  | bl b => cases r; exact ⟨_, rfl, h.pure0 k⟩
  | int i => cases r; exact ⟨_, rfl, h.pure0 k⟩
  | str x =>
    cases r
    rcases (show Wp G z W (if x.length ≤ sizeLine then M.pure ((x.length : Int) != 0) else M.bad) Q Ex from h).ite with ⟨q, h⟩ | ⟨q, h⟩
    · exact ⟨_, ⟨q, rfl⟩, h.pure0 k⟩
    · exact h.bad.elim
  | tup xs =>
    cases r with
    | @tup a vs ds h1 h2 =>
      refine ⟨_, .inr (.inl ⟨_, sqT_of h1, rfl⟩), ?_⟩
      have := h.pure0 k
      have e : (!xs.isEmpty) = !vs.isEmpty := by
        cases h2 <;> rfl
      rw [← e]
      exact this
  | lst xs =>
    cases r with
    | @lst a vs ds h1 h2 =>
      refine ⟨_, .inl ⟨_, SqL.of (F_sub h1), rfl⟩, ?_⟩
      have := h.pure0 k
      have e : (!xs.isEmpty) = !vs.isEmpty := by
        cases h2 <;> rfl
      rw [← e]
      exact this
  | ref n =>
    obtain ⟨a, rfl, hm⟩ := r.inv_ref
    cases e : W.μ[n]? with
    | none =>
      have h' : (truth (.ref n) W.μ).good _ := h
      simp only [truth, e] at h'
      exact h'.elim
    | some o =>
      have h' : (truth (.ref n) W.μ).good _ := h
      simp only [truth, e] at h'
      cases o with
      | lst xs =>
        obtain ⟨vs, h1, h2⟩ := k.ob n a _ hm e
        refine ⟨_, .inl ⟨_, SqL.of h1, rfl⟩, ?_⟩
        have := h' W rfl k (Le.refl _ _)
        have e : (!xs.isEmpty) = !vs.isEmpty := by
          cases h2 <;> rfl
        rw [← e]
        exact this
      | dK kvs =>
        obtain ⟨vs, h1, h2⟩ := k.ob n a _ hm e
        refine ⟨_, .inr (.inr ⟨_, h1, rfl⟩), ?_⟩
        have := h' W rfl k (Le.refl _ _)
        have e : (!kvs.isEmpty) = !vs.isEmpty := by
          cases h2 <;> rfl
        rw [← e]
        exact this
      | dT _ => exact h'.elim
      | fro _ => exact h'.elim
      | cup => exact h'.elim
  | _ => exact (show False from h).elim
/-- the answer is a new tuple -/
theorem new_tup {ds : List D} {vs : List V} {Q : VK} {Ex : Nat → List D → Wd → Prop} (k : Mok G z W) (r : RpsW G z W ds vs) (h : Wp G z W (M.pure (.tup ds)) (fun d W' => ∀ v, RpW G z W' d v → Q v W'.H) Ex) :
    ∀ p, W.H p = none → Q (.ref p) (upd W.H p (.tup vs)) := fun p hp => by
  obtain ⟨k1, l1, f1⟩ := k.new (o := .tup vs) hp
  exact h.pure ⟨W.m, W.μ, upd W.H p (.tup vs)⟩ rfl k1 l1 (.ref p) (.tup (SqT.of f1) (r.le l1))
theorem new_lst {ds : List D} {vs : List V} {Q : VK} {Ex : Nat → List D → Wd → Prop} (k : Mok G z W) (r : RpsW G z W ds vs) (h : Wp G z W (M.pure (.lst ds)) (fun d W' => ∀ v, RpW G z W' d v → Q v W'.H) Ex) :
    ∀ p, W.H p = none → Q (.ref p) (upd W.H p (.lst vs)) := fun p hp => by
  obtain ⟨k1, l1, f1⟩ := k.new (o := .lst vs) hp
  exact h.pure ⟨W.m, W.μ, upd W.H p (.lst vs)⟩ rfl k1 l1 (.ref p) (.lst f1 (r.le l1))
/-- from a new list to its datum -/
theorem tD_of_tL {f : Env → M (List D)} {Q : VK} (h : tD G Wx (fun ρ => (f ρ).bind fun xs => M.pure (.lst xs)) σ H Q) : tL G Wx f σ H Q := by
  obtain ⟨z, ρ, W, e, k, r, h⟩ := h
  exact ⟨z, ρ, W, e, k, r, h.bind.mono (fun ds W1 k1 l1 h1 vs rv p hp => new_lst k1 rv h1 p hp) fun _ _ _ _ _ q => q⟩
end
end DL
/-! DL5: operators, built-ins by data -/
namespace DL
open PySem PyProof.Rows L2 PySem.Spec

/-- what is wanted of an answer -/
abbrev Wt (G : Gx) (z : List Addr) (Q : VK) : D → Wd → Prop := fun d W' => ∀ v, RpW G z W' d v → Q v W'.H
abbrev WtL (G : Gx) (z : List Addr) (Q : VK) : List D → Wd → Prop := fun ds W' => ∀ vs, RpsW G z W' ds vs → ∀ p, W'.H p = none → Q (.ref p) (upd W'.H p (.lst vs))
section
variable {G : Gx} {z : List Addr} {W : Wd} {Q : VK} {Ex : Nat → List D → Wd → Prop}
theorem catL {xs ys : List D} {vs us : List V} (k : Mok G z W) (r1 : RpsW G z W xs vs) (r2 : RpsW G z W ys us) (h : Wp G z W (if xs.length + ys.length ≤ sizeLine then M.pure (xs ++ ys) else M.bad) (WtL G z Q) Ex) :
    vs.length + us.length ≤ sizeLine ∧ ∀ p, W.H p = none → Q (.ref p) (upd W.H p (.lst (vs ++ us))) := by
  rcases h.ite with ⟨q, h⟩ | ⟨q, h⟩
  · exact ⟨by rw [← r1.len, ← r2.len]; exact q, fun p hp => h.pure0 k _ (r1.append r2) p hp⟩
  · exact h.bad.elim
/-- operators that make new lists -/
theorem binL_ok {X : Cx} (hK : X.K = G.K) (o : Op2) (ho : o = .add ∨ o = .mul) : ∃ r : R2, OpR X (binaryOp o.op) r ∧
    ∀ (z : List Addr) (W : Wd) (d1 d2 : D) (v1 v2 : V) (Q : VK) (Ex : Nat → List D → Wd → Prop), Mok G z W → RpW G z W d1 v1 → RpW G z W d2 v2 → Wp G z W (binopL o d1 d2) (WtL G z Q) Ex → r v1 v2 W.H Q := by
  rcases ho with rfl | rfl
  · refine ⟨_, op_cat, fun z W d1 d2 v1 v2 Q Ex k r1 r2 h => ?_⟩
    have h : Wp G z W ((seqL d1).bind fun xs => (seqL d2).bind fun ys => if xs.length + ys.length ≤ sizeLine then M.pure (xs ++ ys) else M.bad) (WtL G z Q) Ex := h
    obtain ⟨a, xs, vs, rfl, h1, h2, h3⟩ := seqL_ok k r1 h.bind
    obtain ⟨b, ys, us, rfl, g1, g2, g3⟩ := seqL_ok k r2 h3.bind
    obtain ⟨q1, q2⟩ := catL k h2 g2 g3
    exact ⟨a, b, vs, us, rfl, rfl, h1, g1, q1, q2⟩
  · refine ⟨_, op_rep, fun z W d1 d2 v1 v2 Q Ex k r1 r2 h => ?_⟩
    cases d2 with
    | int i =>
      have h : Wp G z W ((seqL d1).bind fun xs => if (-(2 ^ 63) ≤ i ∧ i < 2 ^ 63) ∧ xs.length * i.toNat ≤ sizeLine then M.pure (List.replicate i.toNat xs).flatten else M.bad) (WtL G z Q) Ex := h
      obtain ⟨a, xs, vs, rfl, h1, h2, h3⟩ := seqL_ok k r1 h.bind
      cases r2
      rcases h3.ite with ⟨q, h3⟩ | ⟨q, h3⟩
      · exact ⟨a, i, vs, rfl, rfl, h1, q.1.1, q.1.2, by rw [← h2.len]; exact q.2, fun p hp => h3.pure0 k _ (h2.rep _) p hp⟩
      · exact h3.bad.elim
    | _ => exact (show False from h).elim
/-- the datum of a new list -/
theorem datum_of {f : M (List D)} (h : Wp G z W (f.bind fun xs => M.pure (.lst xs)) (Wt G z Q) Ex) : Wp G z W f (WtL G z Q) Ex :=
  h.bind.mono (fun ds W1 k1 l1 h1 vs rv p hp => new_lst k1 rv h1 p hp) fun _ _ _ _ _ q => q
theorem add_cases {P : D → Wd → Prop} {a b : D} (h : Wp G z W (binop .add a b) P Ex) : (∃ i j, a = .int i ∧ b = .int j ∧ Wp G z W (M.pure (.int (i + j))) P Ex) ∨
    (∃ xs ys, a = .tup xs ∧ b = .tup ys ∧ Wp G z W (if xs.length + ys.length ≤ sizeLine then M.pure (.tup (xs ++ ys)) else M.bad) P Ex) ∨
    (∃ x y, a = .str x ∧ b = .str y ∧ Wp G z W (if x.length + y.length ≤ sizeLine then M.pure (.str (x ++ y)) else M.bad) P Ex) ∨
    Wp G z W ((binopL .add a b).bind fun xs => M.pure (.lst xs)) P Ex := by
  cases a <;> cases b <;> first
    | exact .inl ⟨_, _, rfl, rfl, h⟩
    | exact .inr (.inl ⟨_, _, rfl, rfl, h⟩)
    | exact .inr (.inr (.inl ⟨_, _, rfl, rfl, h⟩))
    | exact .inr (.inr (.inr h))
theorem mul_cases {P : D → Wd → Prop} {a b : D} (h : Wp G z W (binop .mul a b) P Ex) : (∃ i j, a = .int i ∧ b = .int j ∧ ((((-(2 ^ 64) < i ∧ i < 2 ^ 64) ∨ (-(2 ^ 64) < j ∧ j < 2 ^ 64)) ∨ i.natAbs.log2 + j.natAbs.log2 < 1000000) ∧ Wp G z W (M.pure (.int (i * j))) P Ex)) ∨
    (∃ xs k, a = .tup xs ∧ b = .int k ∧ Wp G z W (if k = 1 then M.pure (.tup xs) else if xs.isEmpty = false ∧ (2 ≤ k ∧ k ≤ 1000) ∧ xs.length ≤ 1000 then M.pure (.tup (List.replicate k.toNat xs).flatten) else M.bad) P Ex) ∨
    Wp G z W ((binopL .mul a b).bind fun xs => M.pure (.lst xs)) P Ex := by
  by_cases q : ∃ i j, a = .int i ∧ b = .int j
  · obtain ⟨i, j, rfl, rfl⟩ := q
    refine .inl ⟨i, j, rfl, rfl, ?_⟩
    have h : Wp G z W (if (decide (-(2 ^ 64) < i) && decide (i < 2 ^ 64)) || (decide (-(2 ^ 64) < j) && decide (j < 2 ^ 64)) then M.pure (.int (i * j)) else if i.natAbs.log2 + j.natAbs.log2 < 1000000 then M.pure (.int (i * j)) else M.bad) P Ex := h
    rcases h.ite with ⟨c, h⟩ | ⟨c, h⟩
    · refine ⟨.inl ?_, h⟩
      simpa only [Bool.or_eq_true, Bool.and_eq_true, decide_eq_true_eq] using c
    · rcases h.ite with ⟨c, h⟩ | ⟨c, h⟩
      · exact ⟨.inr c, h⟩
      · exact h.bad.elim
  · refine .inr ?_
    cases a <;> first
      | exact .inr h
      | (cases b <;> first | exact .inr h | exact .inl ⟨_, _, rfl, rfl, h⟩ | exact absurd ⟨_, _, rfl, rfl⟩ q)
theorem ints_cases {P : D → Wd → Prop} {a b : D} {o : Op2} (ho : o ≠ .add) (ho2 : o ≠ .mul) (h : Wp G z W (binop o a b) P Ex) : ∃ i j, a = .int i ∧ b = .int j := by
  cases a with
  | int i =>
    cases b with
    | int j => exact ⟨i, j, rfl, rfl⟩
    | _ => cases o <;> first | exact absurd rfl ho | exact absurd rfl ho2 | exact (show False from h).elim
  | _ => cases o <;> first | exact absurd rfl ho | exact absurd rfl ho2 | exact (show False from h).elim
theorem bin_ok {X : Cx} (hK : X.K = G.K) (o : Op2) : ∃ r : R2, OpR X (binaryOp o.op) r ∧
    ∀ (z : List Addr) (W : Wd) (d1 d2 : D) (v1 v2 : V) (Q : VK) (Ex : Nat → List D → Wd → Prop), Mok G z W → RpW G z W d1 v1 → RpW G z W d2 v2 → Wp G z W (binop o d1 d2) (Wt G z Q) Ex → r v1 v2 W.H Q := by
  by_cases ha : o = .add
  · subst ha
    obtain ⟨rl, hl, hl2⟩ := binL_ok (X := X) hK .add (.inl rfl)
    refine ⟨_, op_add.or (op_catA.or (op_add_str.or hl)), fun z W d1 d2 v1 v2 Q Ex k r1 r2 h => ?_⟩
    rcases add_cases h with ⟨i, j, rfl, rfl, h⟩ | ⟨xs, ys, rfl, rfl, h⟩ | ⟨x, y, rfl, rfl, h⟩ | h
    · cases r1
      cases r2
      exact .inl ⟨i, j, rfl, rfl, h.pure0 k _ (.int _)⟩
    · rcases h.ite with ⟨q, h⟩ | ⟨q, h⟩
      · cases r1 with
        | @tup a vs ds h1 g1 =>
          cases r2 with
          | @tup b us es h2 g2 =>
            refine .inr (.inl ⟨a, b, vs, us, rfl, rfl, ?_, ?_, by rw [← g1.len, ← g2.len]; exact q, fun e => ?_, fun _ e => ?_, fun _ _ => new_tup k (g1.append g2) h⟩)
            · rw [hK]; exact sqT_of h1
            · rw [hK]; exact sqT_of h2
            · subst e
              cases g1
              exact h.pure0 k _ (.tup h2 g2)
            · subst e
              cases g2
              rw [List.append_nil] at h
              exact h.pure0 k _ (.tup h1 g1)
      · exact h.bad.elim
    · rcases h.ite with ⟨q, h⟩ | ⟨q, h⟩
      · cases r1
        cases r2
        exact .inr (.inr (.inl ⟨x, y, rfl, rfl, q, h.pure0 k _ (.str _)⟩))
      · exact h.bad.elim
    · exact .inr (.inr (.inr (hl2 z W d1 d2 v1 v2 Q Ex k r1 r2 (datum_of h))))
  by_cases hm : o = .mul
  · subst hm
    obtain ⟨rl, hl, hl2⟩ := binL_ok (X := X) hK .mul (.inr rfl)
    refine ⟨_, op_mul.or (op_mulW.or (op_repT.or (L2H.op_rep1.or hl))), fun z W d1 d2 v1 v2 Q Ex k r1 r2 h => ?_⟩
    rcases mul_cases h with ⟨i, j, rfl, rfl, c, h⟩ | ⟨xs, c, rfl, rfl, h⟩ | h
    · cases r1
      cases r2
      rcases c with c | c
      · exact .inl ⟨i, j, rfl, rfl, c, h.pure0 k _ (.int _)⟩
      · exact .inr (.inl ⟨i, j, rfl, rfl, c, h.pure0 k _ (.int _)⟩)
    · cases r2
      cases r1 with
      | @tup a vs ds h1 g1 =>
        rcases h.ite with ⟨q, h⟩ | ⟨q, h⟩
        · subst q
          refine .inr (.inr (.inr (.inl ⟨a, vs, rfl, rfl, ?_, h.pure0 k _ (.tup h1 g1)⟩)))
          rw [hK]; exact sqT_of h1
        · rcases h.ite with ⟨q2, h⟩ | ⟨q2, h⟩
          · refine .inr (.inr (.inl ⟨a, c, vs, rfl, rfl, ?_, fun e => ?_, q2.2.1.1, q2.2.1.2, by rw [← g1.len]; exact q2.2.2, new_tup k ?_ h⟩))
            · rw [hK]; exact sqT_of h1
            · subst e
              cases g1
              exact absurd q2.1 (by simp)
            · exact g1.rep c.toNat
          · exact h.bad.elim
    · exact .inr (.inr (.inr (.inr (hl2 z W d1 d2 v1 v2 Q Ex k r1 r2 (datum_of h)))))
  cases o with
  | add => exact absurd rfl ha
  | mul => exact absurd rfl hm
  | sub =>
    refine ⟨_, op_sub, fun z W d1 d2 v1 v2 Q Ex k r1 r2 h => ?_⟩
    obtain ⟨i, j, rfl, rfl⟩ := ints_cases ha hm h
    cases r1
    cases r2
    exact ⟨i, j, rfl, rfl, h.pure0 k _ (.int _)⟩
  | fdiv =>
    refine ⟨_, op_fdivN.or L2H.op_fdivA, fun z W d1 d2 v1 v2 Q Ex k r1 r2 h => ?_⟩
    obtain ⟨i, j, rfl, rfl⟩ := ints_cases ha hm h
    cases r1
    cases r2
    have h : Wp G z W (if j ≠ 0 ∧ j.natAbs < 1073741824 then M.pure (.int (i.fdiv j)) else if j ≠ 0 ∧ j.natAbs.log2 < 9000 then M.pure (.int (i.fdiv j)) else M.bad) (Wt G z Q) Ex := h
    rcases h.ite with ⟨c, h⟩ | ⟨c, h⟩
    · exact .inl ⟨i, j, rfl, rfl, c, h.pure0 k _ (.int _)⟩
    · rcases h.ite with ⟨c, h⟩ | ⟨c, h⟩
      · exact .inr ⟨i, j, rfl, rfl, c, h.pure0 k _ (.int _)⟩
      · exact h.bad.elim
  | mod =>
    refine ⟨_, op_modN, fun z W d1 d2 v1 v2 Q Ex k r1 r2 h => ?_⟩
    obtain ⟨i, j, rfl, rfl⟩ := ints_cases ha hm h
    cases r1
    cases r2
    rcases (show Wp G z W (if j ≠ 0 then M.pure (.int (i.fmod j)) else M.bad) (Wt G z Q) Ex from h).ite with ⟨c, h⟩ | ⟨c, h⟩
    · exact ⟨i, j, rfl, rfl, c, h.pure0 k _ (.int _)⟩
    · exact h.bad.elim
  | pow =>
    refine ⟨_, op_pow, fun z W d1 d2 v1 v2 Q Ex k r1 r2 h => ?_⟩
    obtain ⟨i, j, rfl, rfl⟩ := ints_cases ha hm h
    cases r1
    cases r2
    rcases (show Wp G z W (if 0 ≤ j ∧ j ≤ 1000000 ∧ i.natAbs < 2 ^ 64 then M.pure (.int (i ^ j.toNat)) else M.bad) (Wt G z Q) Ex from h).ite with ⟨c, h⟩ | ⟨c, h⟩
    · exact ⟨i, j, rfl, rfl, c, h.pure0 k _ (.int _)⟩
    · exact h.bad.elim
  | shl =>
    refine ⟨_, op_shl, fun z W d1 d2 v1 v2 Q Ex k r1 r2 h => ?_⟩
    obtain ⟨i, j, rfl, rfl⟩ := ints_cases ha hm h
    cases r1
    cases r2
    rcases (show Wp G z W (if 0 ≤ j ∧ j ≤ 1000000 ∧ i.natAbs < 2 ^ 64 then M.pure (.int (i * 2 ^ j.toNat)) else M.bad) (Wt G z Q) Ex from h).ite with ⟨c, h⟩ | ⟨c, h⟩
    · exact ⟨i, j, rfl, rfl, c, h.pure0 k _ (.int _)⟩
    · exact h.bad.elim
  | shr =>
    refine ⟨_, op_shr, fun z W d1 d2 v1 v2 Q Ex k r1 r2 h => ?_⟩
    obtain ⟨i, j, rfl, rfl⟩ := ints_cases ha hm h
    cases r1
    cases r2
    rcases (show Wp G z W (if 0 ≤ j then M.pure (.int (i / 2 ^ j.toNat)) else M.bad) (Wt G z Q) Ex from h).ite with ⟨c, h⟩ | ⟨c, h⟩
    · exact ⟨i, j, rfl, rfl, c, h.pure0 k _ (.int _)⟩
    · exact h.bad.elim
  | band =>
    refine ⟨_, op_and, fun z W d1 d2 v1 v2 Q Ex k r1 r2 h => ?_⟩
    obtain ⟨i, j, rfl, rfl⟩ := ints_cases ha hm h
    cases r1
    cases r2
    exact ⟨i, j, rfl, rfl, h.pure0 k _ (.int _)⟩
  | bor =>
    refine ⟨_, op_or, fun z W d1 d2 v1 v2 Q Ex k r1 r2 h => ?_⟩
    obtain ⟨i, j, rfl, rfl⟩ := ints_cases ha hm h
    cases r1
    cases r2
    exact ⟨i, j, rfl, rfl, h.pure0 k _ (.int _)⟩
  | bxor =>
    refine ⟨_, op_xor, fun z W d1 d2 v1 v2 Q Ex k r1 r2 h => ?_⟩
    obtain ⟨i, j, rfl, rfl⟩ := ints_cases ha hm h
    cases r1
    cases r2
    exact ⟨i, j, rfl, rfl, h.pure0 k _ (.int _)⟩
theorem cmp_ints {P : D → Wd → Prop} {a b : D} {c : Cp} (hc : c = .lt ∨ c = .le ∨ c = .gt ∨ c = .ge) (h : Wp G z W (cmpop c a b) P Ex) : ∃ i j, a = .int i ∧ b = .int j := by
  cases a with
  | int i =>
    cases b with
    | int j => exact ⟨i, j, rfl, rfl⟩
    | _ => rcases hc with rfl | rfl | rfl | rfl <;> exact (show False from h).elim
  | _ => rcases hc with rfl | rfl | rfl | rfl <;> exact (show False from h).elim
theorem non_of {a : D} {v : V} (r : RpW G z W a v) : a.isNon = decide (v = .non) := by
  cases r <;> rfl
theorem cmp_ok {X : Cx} (hK : X.K = G.K) (hu : X.A.units + 64 < cLine) (c : Cp) : ∃ r : R2, OpR X (compareOp c.op) r ∧
    ∀ (z : List Addr) (W : Wd) (d1 d2 : D) (v1 v2 : V) (Q : VK) (Ex : Nat → List D → Wd → Prop), Mok G z W → RpW G z W d1 v1 → RpW G z W d2 v2 → Wp G z W (cmpop c d1 d2) (Wt G z Q) Ex → r v1 v2 W.H Q := by
  cases c with
  | eq =>
    refine ⟨_, op_eqD hu, fun z W d1 d2 v1 v2 Q Ex k r1 r2 h => ?_⟩
    obtain ⟨x1, p1, h⟩ := peek_ok k r1 (show Wp G z W ((peek d1).bind fun x => (peek d2).bind fun y => eqvM x y false) (Wt G z Q) Ex from h).bind
    obtain ⟨x2, p2, h⟩ := peek_ok k r2 h.bind
    unfold eqvM at h
    cases e : D.eqv x1 x2 with
    | none => rw [e] at h; exact h.bad.elim
    | some b =>
      rw [e] at h
      obtain ⟨x, y, h1, h2, h3, h4, h5⟩ := eqv_dp p1 p2 e
      refine ⟨x, y, ?_, ?_, h3, h4, ?_⟩
      · rw [hK]; exact h1
      · rw [hK]; exact h2
      · rw [h5]
        exact (show Wp G z W (M.pure (.bl b)) (Wt G z Q) Ex from h).pure0 k _ (.bl _)
  | ne =>
    refine ⟨_, op_neD hu, fun z W d1 d2 v1 v2 Q Ex k r1 r2 h => ?_⟩
    obtain ⟨x1, p1, h⟩ := peek_ok k r1 (show Wp G z W ((peek d1).bind fun x => (peek d2).bind fun y => eqvM x y true) (Wt G z Q) Ex from h).bind
    obtain ⟨x2, p2, h⟩ := peek_ok k r2 h.bind
    unfold eqvM at h
    cases e : D.eqv x1 x2 with
    | none => rw [e] at h; exact h.bad.elim
    | some b =>
      rw [e] at h
      obtain ⟨x, y, h1, h2, h3, h4, h5⟩ := eqv_dp p1 p2 e
      refine ⟨x, y, ?_, ?_, h3, h4, ?_⟩
      · rw [hK]; exact h1
      · rw [hK]; exact h2
      · rw [h5]
        exact (show Wp G z W (M.pure (.bl (!b))) (Wt G z Q) Ex from h).pure0 k _ (.bl _)
  | lt =>
    refine ⟨_, op_lt, fun z W d1 d2 v1 v2 Q Ex k r1 r2 h => ?_⟩
    obtain ⟨i, j, rfl, rfl⟩ := cmp_ints (.inl rfl) h
    cases r1
    cases r2
    exact ⟨i, j, rfl, rfl, h.pure0 k _ (.bl _)⟩
  | le =>
    refine ⟨_, op_le, fun z W d1 d2 v1 v2 Q Ex k r1 r2 h => ?_⟩
    obtain ⟨i, j, rfl, rfl⟩ := cmp_ints (.inr (.inl rfl)) h
    cases r1
    cases r2
    exact ⟨i, j, rfl, rfl, h.pure0 k _ (.bl _)⟩
  | gt =>
    refine ⟨_, op_gt, fun z W d1 d2 v1 v2 Q Ex k r1 r2 h => ?_⟩
    obtain ⟨i, j, rfl, rfl⟩ := cmp_ints (.inr (.inr (.inl rfl))) h
    cases r1
    cases r2
    exact ⟨i, j, rfl, rfl, h.pure0 k _ (.bl _)⟩
  | ge =>
    refine ⟨_, op_ge, fun z W d1 d2 v1 v2 Q Ex k r1 r2 h => ?_⟩
    obtain ⟨i, j, rfl, rfl⟩ := cmp_ints (.inr (.inr (.inr rfl))) h
    cases r1
    cases r2
    exact ⟨i, j, rfl, rfl, h.pure0 k _ (.bl _)⟩
  | isN =>
    refine ⟨_, op_isN, fun z W d1 d2 v1 v2 Q Ex k r1 r2 h => ?_⟩
    cases d2 with
    | non =>
      cases r2
      refine ⟨rfl, ?_⟩
      rw [← non_of r1]
      exact h.pure0 k _ (.bl _)
    | _ => exact (show False from h).elim
  | notN =>
    refine ⟨_, op_notN, fun z W d1 d2 v1 v2 Q Ex k r1 r2 h => ?_⟩
    cases d2 with
    | non =>
      cases r2
      refine ⟨rfl, ?_⟩
      rw [← non_of r1]
      exact h.pure0 k _ (.bl _)
    | _ => exact (show False from h).elim
  | isB =>
    refine ⟨_, op_isBl, fun z W d1 d2 v1 v2 Q Ex k r1 r2 h => ?_⟩
    cases d1 with
    | bl a =>
      cases d2 with
      | bl b =>
        cases r1
        cases r2
        exact ⟨a, b, rfl, rfl, (show Wp G z W (M.pure (.bl (decide (a = b)))) (Wt G z Q) Ex from h).pure0 k _ (.bl _)⟩
      | _ => exact (show False from h).elim
    | _ => exact (show False from by cases d2 <;> exact h).elim
  | notB =>
    refine ⟨_, op_notBl, fun z W d1 d2 v1 v2 Q Ex k r1 r2 h => ?_⟩
    cases d1 with
    | bl a =>
      cases d2 with
      | bl b =>
        cases r1
        cases r2
        exact ⟨a, b, rfl, rfl, (show Wp G z W (M.pure (.bl (!decide (a = b)))) (Wt G z Q) Ex from h).pure0 k _ (.bl _)⟩
      | _ => exact (show False from h).elim
    | _ => exact (show False from by cases d2 <;> exact h).elim
  | mem =>
    refine ⟨_, op_in_seq, fun z W d1 d2 v1 v2 Q Ex k r1 r2 h => ?_⟩
    have h : Wp G z W ((seqA d2).bind fun xs => if d1.flat && xs.all D.flat then M.pure (.bl (xs.any fun y => D.eqF y d1)) else M.bad) (Wt G z Q) Ex := h
    obtain ⟨a, xs, vs, rfl, h1, h2, h3, _⟩ := seqA_ok k r2 h.bind
    rcases h3.ite with ⟨q, h⟩ | ⟨q, h⟩
    · simp only [Bool.and_eq_true] at q
      refine ⟨a, vs, rfl, ?_, flat_of r1 q.1, flats_of h2 q.2, ?_⟩
      · rw [hK]; exact h1
      · rw [if_neg Bool.false_ne_true, inV_of r1 q.1 h2 q.2]
        exact h.pure0 k _ (.bl _)
    · exact h.bad.elim
  | nmem =>
    refine ⟨_, op_notIn_seq, fun z W d1 d2 v1 v2 Q Ex k r1 r2 h => ?_⟩
    have h : Wp G z W ((seqA d2).bind fun xs => if d1.flat && xs.all D.flat then M.pure (.bl !(xs.any fun y => D.eqF y d1)) else M.bad) (Wt G z Q) Ex := h
    obtain ⟨a, xs, vs, rfl, h1, h2, h3, _⟩ := seqA_ok k r2 h.bind
    rcases h3.ite with ⟨q, h⟩ | ⟨q, h⟩
    · simp only [Bool.and_eq_true] at q
      refine ⟨a, vs, rfl, ?_, flat_of r1 q.1, flats_of h2 q.2, ?_⟩
      · rw [hK]; exact h1
      · rw [if_pos rfl, inV_of r1 q.1 h2 q.2]
        exact h.pure0 k _ (.bl _)
    · exact h.bad.elim
end
end DL
/-! DL6: built-ins; what a context must give -/
namespace DL
open PySem PyProof.Rows L2 PySem.Spec

def spD (G : Gx) (n : Nat) (f : List D → M D) : Sp := fun vs H Q E => ∃ z ds W, W.H = H ∧ vs.length = n ∧ Mok G z W ∧ RpsW G z W ds vs ∧
  Wp G z W (f ds) (Wt G z Q) (fun c xs W' => ∀ d, ExR G z xs d W' → E (.ref (G.ca c)) d W'.H)
def builtins : List Str := ["len", "abs", "sum", "min", "max", "int", "list", "tuple", "isinstance", "all", "any", "range", "enumerate", "zip", "bool", "str"]
/-- a def that tries what it got: x(lambda: ..); c: what it answers -/
structure ErrK (G : Gx) (P : Program) (w : World) (K : PySem.W.Frag) (mg : Str → Option Value) (base : Heap) (c : List D → M D) (x : Str) : Prop where
  ex : ∃ (a : Str) (g : Addr) (pg : Arguments) (bg : List Stmt) (sg : Scope) (dV kV doc pm cdv ct oc : Value) (an od : Option Addr) (osl : Array (Option Value)) (Ng : List Str) (TT : (XK → Hp → VK → Prop) → Hp → VK → Prop),
    mg x = some (.ref g) ∧ PySem.W.keepIn K (.ref g) = true ∧ K.lookup g = some ⟨oc, od, .func (PySem.W.fnOf x x pg bg sg dV kV doc pm an cdv ct), osl⟩ ∧ PySem.W.codeIn K cdv x = true ∧ Binds K (PySem.W.fnOf x x pg bg sg dV kV doc pm an cdv ct) [a] [] ∧
    FnScope Ng [a] sg ∧ Ng[0]? = some a ∧ Vis sg a ∧ okNm a = true ∧
    (∀ (X : Cx) (k : Nat) (q : Str), X.prog = P → X.w = w → X.K = K → X.mg = mg → X.base = base → LX.Gives X k Ng x sg g cdv bg a q TT) ∧
    ∀ (z : List Addr) (W1 : Wd) (m : M D) (tl : XK → Hp → VK → Prop) (Q : VK) (Ex : Nat → List D → Wd → Prop), Mok G z W1 → Wp G z W1 (errM m c) (Wt G z Q) Ex →
      (∀ (E : XK) (Q' : VK), Wp G z W1 m (Wt G z Q') (fun c xs W' => ∀ d, ExR G z xs d W' → E (.ref (G.ca c)) d W'.H) → tl E W1.H Q') → TT tl W1.H Q
/-- what a context gives to checked text -/
structure Good (G : Gx) (C : Nat → List D → M D) (Kc : Nat → D) (Γ : Cxt) (X : Cx) (Wx : WX) : Prop where
  K : X.K = G.K
  N : X.N = Γ.N
  nd : Γ.N.Nodup
  sc : X.env.scope = Γ.sc
  calm : Γ.hot = false → X.calm = true
  hotc : Γ.hot = true → L2H.HotC X
  fn : X.fn = (match Γ.own with
    | none => fun _ => true
    | some s => fun x => s.names.lookup x == some .cell)
  tk : L2N.Takes X Wx
  room : X.A.units + 64 < cLine
  bi : ∀ x ∈ builtins, X.mg x = none
  con : ∀ k x, Γ.cns[k]? = some x → ∃ v u, X.mg x = some u ∧ RelV v u ∧ ∀ F m, Rp G F m (Kc k) v
  gcd : Γ.gcd = true → X.mg "gcd" = some (.builtin "math.gcd")
  fns : ∀ k x n, Γ.fns[k]? = some (x, n) → X.mg x = some (.ref (G.fa k)) ∧ PySem.W.keepIn X.K (.ref (G.fa k)) = true
  arity : ∀ k x n, Γ.fns[k]? = some (x, n) → ∀ (z : List Addr) (W : Wd) (ds : List D) (P : D → Wd → Prop) (Ex : Nat → List D → Wd → Prop), Wp G z W (C k ds) P Ex → ds.length = n
  nf : ∀ k x n, Γ.fns[k]? = some (x, n) → k < G.nf
  fnr : Γ.hot = false → ∀ k, k < G.nf → ∃ x n, Γ.fns[k]? = some (x, n)
  calls : Γ.hot = false → ∃ j, Room (if Γ.lam = true then j + 2 else j) X.A ∧ ∀ k x n, Γ.fns[k]? = some (x, n) → ∃ fd ps, Binds X.K fd ps [] ∧ FnOk X.prog X.w X.K X.mg X.base (L2N.CX X.prog X.w) j (G.fa k) fd ps (spD G n (C k))
  lamc : Γ.lam = true → ∃ c P, X.env.code = .ref c ∧ LamX.TabB X.base X.mg c P ∧ (P, LX.lamQ X) ∈ G.T ∧ ∀ p ∈ G.T, p.1 = P → p.2 = LX.lamQ X
  errs : ∀ k x, Γ.ers.lookup k = some x → ErrK G X.prog X.w X.K X.mg X.base (C k) x
  exk : ∀ j x f, Γ.exs[j]? = some (x, f) → X.mg x = some (.ref (G.ca j))
  exr : ∀ j x, Γ.exs[j]? = some (x, true) → PySem.W.excIn X.K (G.ca j) He.veBase "ValueError.__new__" = true ∧ PySem.W.keepIn X.K (.ref (G.ca j)) = true ∧ Raises X (.ref (G.ca j))
  hx : Γ.hot = true → Γ.own = none → ∃ (a Dc : Addr) (c : Nat), G.xa = some a ∧ Kc xk = .int c ∧ CallR X (.builtin "isinstance") (rIsE X.K Dc a) ∧ ∀ q x f, Γ.exs[q]? = some (x, f) → PySem.W.kitOne X.K (.ref Dc) (.ref (G.ca q)) = some (c == q)

theorem gl_of {X : Cx} {sc : Scope} {x : Str} (h : X.env.scope = sc) (g : glB sc x = true) : Gl X x := by
  unfold glB at g
  show X.env.scope.names.lookup x = _
  rw [h]
  split at g
  · assumption
  · cases g
theorem vis_of {X : Cx} {sc : Scope} {x : Str} (h : X.env.scope = sc) (g : visB sc x = true) : Vis X.env.scope x := by
  unfold visB at g
  rw [h]
  split at g
  · exact .inl (by assumption)
  · exact .inr (.inl (by assumption))
  · exact .inr (.inr (by assumption))
  · cases g
theorem nm_of {x : Str} (h : okNm x = true) : (x == ("__debug__" : Str)) = false ∧ (x == ("__classdict__" : Str)) = false := by
  unfold okNm at h
  simpa only [Bool.and_eq_true, Bool.not_eq_true'] using h
theorem kit_all : ∀ t ∈ ["NoneType", "bool", "int", "str", "tuple", "list"], ∀ n ∈ ["bool", "int", "str", "tuple", "list"], kitB t n = some (isTy t n) := by decide +kernel
theorem tyOk_mem {n : String} (h : tyOk n = true) : n ∈ ["bool", "int", "str", "tuple", "list"] := by
  unfold tyOk at h
  simp only [Bool.or_eq_true, beq_iff_eq] at h
  rcases h with (((h | h) | h) | h) | h <;> subst h <;> decide
section
variable {G : Gx} {z : List Addr} {W : Wd} {Q : VK} {Ex : Nat → List D → Wd → Prop}
theorem tyX_of {d : D} {v : V} {t : String} (r : RpW G z W d v) (h : tyName d = some t) : t ∈ ["NoneType", "bool", "int", "str", "tuple", "list"] ∧ TyX G.K W.H v (.type t) := by
  cases r with
  | non => cases h; exact ⟨by decide, .base .non⟩
  | bl b => cases h; exact ⟨by decide, .base (.bl b)⟩
  | int i => cases h; exact ⟨by decide, .base (.int i)⟩
  | str x => cases h; exact ⟨by decide, .base (.str x)⟩
  | lst h1 h2 => cases h; exact ⟨by decide, .base (.lst (F_sub h1))⟩
  | tup h1 h2 =>
    cases h
    refine ⟨by decide, ?_⟩
    rcases sqT_of h1 with (q | ⟨o, q⟩) | ⟨o, its, n, q1, q2, _⟩
    · exact .base (.tup q)
    · exact .fTuple q
    · exact .kTuple q1 q2
  | ref _ => cases h
  | fn _ _ => cases h
  | cls _ => cases h
  | ty _ => cases h
  | scr _ => cases h
  | exn _ => cases h
theorem rps1 {ds : List D} {v : V} {vs : List V} (r : RpsW G z W ds (v :: vs)) : ∃ d es, ds = d :: es ∧ RpW G z W d v ∧ RpsW G z W es vs := by
  cases r with
  | cons h t => exact ⟨_, _, rfl, h, t⟩
theorem ints_rep : ∀ ns : List Int, RpsW G z W (ns.map D.int) (ns.map V.int)
  | [] => .nil
  | n :: ns => .cons (.int n) (ints_rep ns)
theorem bfL_ok {X : Cx} (hK : X.K = G.K) {d : D} {v : V} (k : Mok G z W) (rv : RpW G z W d v) (h : Wp G z W (bfL .list [d]) (WtL G z Q) Ex) :
    ∃ p ys, [v] = [V.ref p] ∧ (SqL X.K W.H p ys ∨ SqT X.K W.H p ys) ∧ ∀ l, W.H l = none → Q (.ref l) (upd W.H l (.lst ys)) := by
  rw [hK]
  have gen : Wp G z W (seqA d) (WtL G z Q) Ex → ∃ p ys, [v] = [V.ref p] ∧ (SqL G.K W.H p ys ∨ SqT G.K W.H p ys) ∧ ∀ l, W.H l = none → Q (.ref l) (upd W.H l (.lst ys)) := fun h => by
    obtain ⟨a, xs, vs, rfl, h1, h2, h3, _⟩ := seqA_ok k rv h
    exact ⟨a, vs, rfl, h1, fun p hp => h3 vs h2 p hp⟩
  cases d with
  | scr ns =>
    cases rv with
    | @scr a _ h1 => exact ⟨a, _, rfl, .inl (sqL_of h1), fun p hp => (show Wp G z W (M.pure (ns.map D.int)) _ _ from h).pure0 k _ (ints_rep ns) p hp⟩
  | _ => exact gen h
/-! ### the best of alike data -/
mutual
theorem py_inj : ∀ (a b : D) {x : PyData}, a.py = some x → b.py = some x → a = b
  | .non, b, x, h1, h2 => by
    cases h1
    cases b <;> simp only [D.py] at h2 <;> first
      | rfl
      | (cases h2; done)
      | (split at h2 <;> cases h2)
  | .bl p, b, x, h1, h2 => by
    cases h1
    cases b <;> simp only [D.py] at h2 <;> first
      | (cases h2; rfl)
      | (cases h2; done)
      | (split at h2 <;> cases h2)
  | .int p, b, x, h1, h2 => by
    cases h1
    cases b <;> simp only [D.py] at h2 <;> first
      | (cases h2; rfl)
      | (cases h2; done)
      | (split at h2 <;> cases h2)
  | .str p, b, x, h1, h2 => by
    cases h1
    cases b <;> simp only [D.py] at h2 <;> first
      | (cases h2; rfl)
      | (cases h2; done)
      | (split at h2 <;> cases h2)
  | .tup xs, b, x, h1, h2 => by
    simp only [D.py] at h1
    cases e1 : D.pys xs with
    | none => rw [e1] at h1; cases h1
    | some us =>
      rw [e1] at h1
      cases h1
      cases b with
      | tup ys =>
        simp only [D.py] at h2
        cases e2 : D.pys ys with
        | none => rw [e2] at h2; cases h2
        | some vs =>
          rw [e2] at h2
          have e3 : vs = us := by simpa using h2
          subst e3
          rw [pys_inj xs ys e1 e2]
      | _ =>
        simp only [D.py] at h2
        first
          | (cases h2; done)
          | (split at h2 <;> cases h2)
  | .lst xs, b, x, h1, h2 => by
    simp only [D.py] at h1
    cases e1 : D.pys xs with
    | none => rw [e1] at h1; cases h1
    | some us =>
      rw [e1] at h1
      cases h1
      cases b with
      | lst ys =>
        simp only [D.py] at h2
        cases e2 : D.pys ys with
        | none => rw [e2] at h2; cases h2
        | some vs =>
          rw [e2] at h2
          have e3 : vs = us := by simpa using h2
          subst e3
          rw [pys_inj xs ys e1 e2]
      | _ =>
        simp only [D.py] at h2
        first
          | (cases h2; done)
          | (split at h2 <;> cases h2)
  | .ref _, b, x, h1, h2 => by cases h1
  | .fn _, b, x, h1, h2 => by cases h1
  | .cls _, b, x, h1, h2 => by cases h1
  | .ty _, b, x, h1, h2 => by cases h1
  | .scr _, b, x, h1, h2 => by cases h1
  | .exn, b, x, h1, h2 => by cases h1
theorem pys_inj : ∀ (a b : List D) {x : List PyData}, D.pys a = some x → D.pys b = some x → a = b
  | [], [], _, _, _ => rfl
  | a :: as, [], x, h1, h2 => by
    cases h2
    simp only [D.pys] at h1
    split at h1 <;> cases h1
  | [], b :: bs, x, h1, h2 => by
    cases h1
    simp only [D.pys] at h2
    split at h2 <;> cases h2
  | a :: as, b :: bs, x, h1, h2 => by
    simp only [D.pys] at h1 h2
    split at h1
    · rename_i u us e1 e2
      split at h2
      · rename_i v vs e3 e4
        cases h1
        have e5 : v = u ∧ vs = us := by simpa using h2
        obtain ⟨rfl, rfl⟩ := e5
        rw [py_inj a b e1 e3, pys_inj as bs e2 e4]
      · cases h2
    · cases h1
end
theorem bestD_py {lt : PyData → PyData → Bool} : ∀ (xs : List D) (ps : List PyData) (x : D) (p : PyData), x.py = some p → D.pys xs = some ps → (bestD lt x p xs ps).py = some (ps.foldl (fun a y => if lt y a = true then y else a) p)
  | [], ps, x, p, h1, h2 => by
    cases h2
    exact h1
  | y :: ys, ps, x, p, h1, h2 => by
    simp only [D.pys] at h2
    split at h2
    · rename_i q qs e3 e4
      cases h2
      rw [List.foldl_cons]
      show (if lt q p then bestD lt y q ys qs else bestD lt x p ys qs).py = _
      cases c : lt q p with
      | true =>
        rw [if_pos rfl, if_pos rfl]
        exact bestD_py ys qs y q e3 e4
      | false =>
        rw [if_neg Bool.false_ne_true, if_neg Bool.false_ne_true]
        exact bestD_py ys qs x p h1 e4
    · cases h2
theorem alikeL_ok {xs : List PyData} (h : alikeL xs = true) : PySem.W.AlikeAll xs := by
  unfold alikeL at h
  simp only [Bool.and_eq_true, List.all_eq_true] at h
  refine ⟨fun x hx y hy => h.1 x hx y hy, fun x hx e => ?_⟩
  have := h.2 x hx
  subst e
  cases this
theorem bestOf_at {lt : PyData → PyData → Bool} {xs : List D} {m : D} (h : bestOf lt xs = some m) :
    ∃ x xs' p ps, xs = x :: xs' ∧ x.py = some p ∧ D.pys xs' = some ps ∧ PySem.W.AlikeAll (p :: ps) ∧ PyData.depthAll (p :: ps) ≤ 50 ∧ m = bestD lt x p xs' ps := by
  cases xs with
  | nil => cases h
  | cons x xs =>
    unfold bestOf at h
    simp only [D.pys] at h
    cases e1 : x.py with
    | none => rw [e1] at h; cases h
    | some p =>
      cases e2 : D.pys xs with
      | none => rw [e1, e2] at h; cases h
      | some ps =>
        rw [e1, e2] at h
        dsimp only at h
        split at h
        · rename_i c
          simp only [Bool.and_eq_true] at c
          cases h
          exact ⟨x, xs, p, ps, rfl, e1, e2, alikeL_ok c.1, of_decide_eq_true c.2, rfl⟩
        · cases h
theorem rps_at {ds : List D} {vs : List V} (r : RpsW G z W ds vs) : ∀ (i : Nat) (v : V), vs[i]? = some v → ∃ d, ds[i]? = some d ∧ RpW G z W d v := by
  induction vs generalizing ds with
  | nil => intro i v h; simp at h
  | cons u us ih =>
    obtain ⟨d, es, rfl, r1, r2⟩ := rps1 r
    intro i v h
    cases i with
    | zero =>
      cases (show some _ = some v from h)
      exact ⟨d, rfl, r1⟩
    | succ i =>
      obtain ⟨e, h1, h2⟩ := ih r2 i v (by simpa using h)
      exact ⟨e, by simpa using h1, h2⟩
theorem pys_at : ∀ {ds : List D} {ps : List PyData} (i : Nat) {d : D} {p : PyData}, D.pys ds = some ps → ds[i]? = some d → ps[i]? = some p → d.py = some p
  | [], _, i, d, p, _, h2, _ => by simp at h2
  | e :: es, ps, i, d, p, h1, h2, h3 => by
    simp only [D.pys] at h1
    split at h1
    · rename_i u us e1 e2
      cases h1
      cases i with
      | zero =>
        cases (show some _ = some d from h2)
        cases (show some _ = some p from h3)
        exact e1
      | succ i => exact pys_at i e2 (by simpa using h2) (by simpa using h3)
    · cases h1
theorem best_rep {lt : PyData → PyData → Bool} {x m : D} {xs : List D} {p : PyData} {ps : List PyData} {us : List V} {i : Nat} {w : V} (e1 : x.py = some p) (e2 : D.pys xs = some ps) (r : RpsW G z W (x :: xs) us) (hm : m = bestD lt x p xs ps) (hi : us[i]? = some w)
    (hw : (p :: ps)[i]? = some (ps.foldl (fun a y => if lt y a = true then y else a) p)) : RpW G z W m w := by
  obtain ⟨d, h1, h2⟩ := rps_at r i w hi
  have h3 := pys_at i (show D.pys (x :: xs) = some (p :: ps) by simp [D.pys, e1, e2]) h1 hw
  have h4 := bestD_py (lt := lt) xs ps x p e1 e2
  rw [← hm] at h4
  rw [py_inj m d h4 h3]
  exact h2
/-- a built-in's call -/
theorem bf_ok {X : Cx} {Γ : Cxt} {C : Nat → List D → M D} {Kc : Nat → D} {Wx : WX} (g : Good G C Kc Γ X Wx) (f : Bf) (hf : bfOk Γ f = true) {t : TA} {p pos : Pos} {e : Expr} {es : List Expr} (hg : Gl X f.name) (ha : PA X (e :: es) t)
    (hs : starEach (e :: es) X.env = (false, eval e X.env) :: starEach es X.env) (hpl : (backTo pos (starEach es X.env)).any (·.1) = false) :
    ∃ r, PE X (.Call (.Name f.name p) (e :: es) [] pos) (tCB r t) ∧
    ∀ (z : List Addr) (W : Wd) (ds : List D) (vs : List V) (Q : VK) (Ex : Nat → List D → Wd → Prop), Mok G z W → RpsW G z W ds vs → Wp G z W (bfop f ds) (Wt G z Q) Ex → r vs W.H Q := by
  have hK := g.K
  cases f with
  | len =>
    refine ⟨_, pe_callB call_len_seq hg (g.bi _ (by decide)) boot_len ha (by decide) (by decide) hs hpl, fun z W ds vs Q Ex k r h => ?_⟩
    match ds, r, h with
    | [d], .cons (v := v) rv .nil, h =>
      obtain ⟨a, xs, us, rfl, h1, h2, h3, _⟩ := seqA_ok k rv (show Wp G z W ((seqA d).bind fun xs => M.pure (.int xs.length)) (Wt G z Q) Ex from h).bind
      refine ⟨a, us, rfl, ?_, ?_⟩
      · rw [hK]; exact h1
      · rw [← h2.len]
        exact h3.pure0 k _ (.int _)
    | [], .nil, h => exact (show False from h).elim
    | _ :: _ :: _, _, h => exact (show False from h).elim
  | abs =>
    refine ⟨_, pe_callB call_abs hg (g.bi _ (by decide)) boot_abs ha (by decide) (by decide) hs hpl, fun z W ds vs Q Ex k r h => ?_⟩
    match ds, r, h with
    | [.int i], .cons (.int _) .nil, h => exact ⟨i, rfl, h.pure0 k _ (.int _)⟩
    | [], .nil, h => exact (show False from h).elim
    | .int _ :: _ :: _, _, h => exact (show False from h).elim
    | .non :: _, _, h => exact (show False from h).elim
    | .bl _ :: _, _, h => exact (show False from h).elim
    | .str _ :: _, _, h => exact (show False from h).elim
    | .tup _ :: _, _, h => exact (show False from h).elim
    | .lst _ :: _, _, h => exact (show False from h).elim
    | .ref _ :: _, _, h => exact (show False from h).elim
    | .fn _ :: _, _, h => exact (show False from h).elim
    | .cls _ :: _, _, h => exact (show False from h).elim
    | .ty _ :: _, _, h => exact (show False from h).elim
    | .scr _ :: _, _, h => exact (show False from h).elim
    | .exn :: _, _, h => exact (show False from h).elim
  | int =>
    refine ⟨_, pe_callTy call_int1 hg (g.bi _ (by decide)) boot_int ha (by decide) (by decide) hs hpl, fun z W ds vs Q Ex k r h => ?_⟩
    match ds, r, h with
    | [.int i], .cons (.int _) .nil, h => exact .inl ⟨i, rfl, h.pure0 k _ (.int _)⟩
    | [], .nil, h => exact (show False from h).elim
    | .int _ :: _ :: _, _, h => exact (show False from h).elim
    | .non :: _, _, h => exact (show False from h).elim
    | .bl _ :: _, _, h => exact (show False from h).elim
    | .str _ :: _, _, h => exact (show False from h).elim
    | .tup _ :: _, _, h => exact (show False from h).elim
    | .lst _ :: _, _, h => exact (show False from h).elim
    | .ref _ :: _, _, h => exact (show False from h).elim
    | .fn _ :: _, _, h => exact (show False from h).elim
    | .cls _ :: _, _, h => exact (show False from h).elim
    | .ty _ :: _, _, h => exact (show False from h).elim
    | .scr _ :: _, _, h => exact (show False from h).elim
    | .exn :: _, _, h => exact (show False from h).elim
  | min2 =>
    refine ⟨_, pe_callB (call_min2 (g.calm (by simpa [bfOk] using hf))) hg (g.bi _ (by decide)) boot_min ha (by decide) (by decide) hs hpl, fun z W ds vs Q Ex k r h => ?_⟩
    have q : ∃ i j, ds = [.int i, .int j] := by
      match ds, h with
      | [], h => exact (show False from h).elim
      | [d], h => cases d <;> exact (show False from h).elim
      | [d, e], h => cases d <;> cases e <;> first | exact ⟨_, _, rfl⟩ | exact (show False from h).elim
      | d :: e :: _ :: _, h => cases d <;> cases e <;> exact (show False from h).elim
    obtain ⟨i, j, rfl⟩ := q
    match r with
    | .cons (.int _) (.cons (.int _) .nil) => exact ⟨i, j, rfl, h.pure0 k _ (.int _)⟩
  | max2 =>
    refine ⟨_, pe_callB (call_max2 (g.calm (by simpa [bfOk] using hf))) hg (g.bi _ (by decide)) boot_max ha (by decide) (by decide) hs hpl, fun z W ds vs Q Ex k r h => ?_⟩
    have q : ∃ i j, ds = [.int i, .int j] := by
      match ds, h with
      | [], h => exact (show False from h).elim
      | [d], h => cases d <;> exact (show False from h).elim
      | [d, e], h => cases d <;> cases e <;> first | exact ⟨_, _, rfl⟩ | exact (show False from h).elim
      | d :: e :: _ :: _, h => cases d <;> cases e <;> exact (show False from h).elim
    obtain ⟨i, j, rfl⟩ := q
    match r with
    | .cons (.int _) (.cons (.int _) .nil) => exact ⟨i, j, rfl, h.pure0 k _ (.int _)⟩
  | gcd =>
    refine ⟨_, pe_callBfun cr_gcd hg (g.gcd hf) ha (by decide) hs hpl, fun z W ds vs Q Ex k r h => ?_⟩
    have q : ∃ i j, ds = [.int i, .int j] := by
      match ds, h with
      | [], h => exact (show False from h).elim
      | [d], h => cases d <;> exact (show False from h).elim
      | [d, e], h => cases d <;> cases e <;> first | exact ⟨_, _, rfl⟩ | exact (show False from h).elim
      | d :: e :: _ :: _, h => cases d <;> cases e <;> exact (show False from h).elim
    obtain ⟨i, j, rfl⟩ := q
    match r with
    | .cons (.int _) (.cons (.int _) .nil) => exact ⟨i, j, rfl, h.pure0 k _ (.int _)⟩
  | sum =>
    refine ⟨_, pe_callB (L2H.cr_sumA (g.calm (by simpa [bfOk] using hf))) hg (g.bi _ (by decide)) boot_sum ha (by decide) (by decide) hs hpl, fun z W ds vs Q Ex k r h => ?_⟩
    match ds, r, h with
    | [d], .cons (v := v) rv .nil, h =>
      obtain ⟨a, xs, us, rfl, h1, h2, h3, _⟩ := seqA_ok k rv (show Wp G z W ((seqA d).bind fun xs => (M.opt (intsOf xs)).bind fun is => M.pure (.int is.sum)) (Wt G z Q) Ex from h).bind
      obtain ⟨is, e, h4⟩ := h3.bind.opt k
      refine ⟨a, is, rfl, ?_, h4.pure0 k _ (.int _)⟩
      rw [← ints_of h2 e, hK]
      exact h1
    | [], .nil, h => exact (show False from h).elim
    | _ :: _ :: _, _, h => exact (show False from h).elim
  | min1 =>
    refine ⟨_, pe_callB (L2H.cr_minA (g.calm (by simpa [bfOk] using hf)) (by have := g.room; omega)) hg (g.bi _ (by decide)) boot_min ha (by decide) (by decide) hs hpl, fun z W ds vs Q Ex k r h => ?_⟩
    match ds, r, h with
    | [d], .cons (v := v) rv .nil, h =>
      obtain ⟨a, xs, us, rfl, h1, h2, h3, _⟩ := seqA_ok k rv (show Wp G z W ((seqA d).bind fun xs => (M.opt (intsOf xs)).bind fun is => (M.opt is.min?).bind fun i => M.pure (.int i)) (Wt G z Q) Ex from h).bind
      obtain ⟨is, e, h4⟩ := h3.bind.opt k
      obtain ⟨i, e2, h5⟩ := h4.bind.opt k
      refine ⟨a, is, rfl, ?_, ?_, fun m hm hle => ?_⟩
      · rw [← ints_of h2 e, hK]
        exact h1
      · cases is with
        | nil => cases e2
        | cons _ _ => exact Nat.succ_pos _
      · obtain ⟨i1, i2⟩ := List.min?_eq_some_iff.mp e2
        have em : m = i := Int.le_antisymm (hle i i1) (i2 m hm)
        rw [em]
        exact h5.pure0 k _ (.int _)
    | [], .nil, h => exact (show False from h).elim
    | _ :: _ :: _, _, h => exact (show False from h).elim
  | max1 =>
    refine ⟨_, pe_callB (L2H.cr_maxA (g.calm (by simpa [bfOk] using hf)) (by have := g.room; omega)) hg (g.bi _ (by decide)) boot_max ha (by decide) (by decide) hs hpl, fun z W ds vs Q Ex k r h => ?_⟩
    match ds, r, h with
    | [d], .cons (v := v) rv .nil, h =>
      obtain ⟨a, xs, us, rfl, h1, h2, h3, _⟩ := seqA_ok k rv (show Wp G z W ((seqA d).bind fun xs => (M.opt (intsOf xs)).bind fun is => (M.opt is.max?).bind fun i => M.pure (.int i)) (Wt G z Q) Ex from h).bind
      obtain ⟨is, e, h4⟩ := h3.bind.opt k
      obtain ⟨i, e2, h5⟩ := h4.bind.opt k
      refine ⟨a, is, rfl, ?_, ?_, fun m hm hle => ?_⟩
      · rw [← ints_of h2 e, hK]
        exact h1
      · cases is with
        | nil => cases e2
        | cons _ _ => exact Nat.succ_pos _
      · obtain ⟨i1, i2⟩ := List.max?_eq_some_iff.mp e2
        have em : m = i := Int.le_antisymm (i2 m hm) (hle i i1)
        rw [em]
        exact h5.pure0 k _ (.int _)
    | [], .nil, h => exact (show False from h).elim
    | _ :: _ :: _, _, h => exact (show False from h).elim
  | minD =>
    refine ⟨_, pe_callB (L2H.cr_minD (g.calm (by simpa [bfOk] using hf)) g.room) hg (g.bi _ (by decide)) boot_min ha (by decide) (by decide) hs hpl, fun z W ds vs Q Ex k r h => ?_⟩
    match ds, r, h with
    | [d], .cons (v := v) rv .nil, h =>
      obtain ⟨a, xs, us, rfl, h1, h2, h3, _⟩ := seqA_ok k rv (show Wp G z W ((seqA d).bind fun xs => M.opt (bestOf (fun y a => PySem.W.dataLt y a) xs)) (Wt G z Q) Ex from h).bind
      obtain ⟨m, e, h4⟩ := h3.opt k
      obtain ⟨x, xs', p, ps, rfl, e1, e2, ha, hdep, hm⟩ := bestOf_at e
      refine ⟨a, us, p, ps, rfl, ?_, ?_, ha, hdep, fun i w hi hw => ?_⟩
      · rw [hK]
        exact h1
      · rw [hK]
        exact dps_of trivial h2 (show D.pys (x :: xs') = some (p :: ps) by simp [D.pys, e1, e2])
      · exact h4 w (best_rep e1 e2 h2 hm hi hw)
    | [], .nil, h => exact (show False from h).elim
    | _ :: _ :: _, _, h => exact (show False from h).elim
  | maxD =>
    refine ⟨_, pe_callB (L2H.cr_maxD (g.calm (by simpa [bfOk] using hf)) g.room) hg (g.bi _ (by decide)) boot_max ha (by decide) (by decide) hs hpl, fun z W ds vs Q Ex k r h => ?_⟩
    match ds, r, h with
    | [d], .cons (v := v) rv .nil, h =>
      obtain ⟨a, xs, us, rfl, h1, h2, h3, _⟩ := seqA_ok k rv (show Wp G z W ((seqA d).bind fun xs => M.opt (bestOf (fun y a => PySem.W.dataLt a y) xs)) (Wt G z Q) Ex from h).bind
      obtain ⟨m, e, h4⟩ := h3.opt k
      obtain ⟨x, xs', p, ps, rfl, e1, e2, ha, hdep, hm⟩ := bestOf_at e
      refine ⟨a, us, p, ps, rfl, ?_, ?_, ha, hdep, fun i w hi hw => ?_⟩
      · rw [hK]
        exact h1
      · rw [hK]
        exact dps_of trivial h2 (show D.pys (x :: xs') = some (p :: ps) by simp [D.pys, e1, e2])
      · exact h4 w (best_rep e1 e2 h2 hm hi hw)
    | [], .nil, h => exact (show False from h).elim
    | _ :: _ :: _, _, h => exact (show False from h).elim
  | all =>
    refine ⟨_, pe_callB (cr_all (g.calm (by simpa [bfOk] using hf))) hg (g.bi _ (by decide)) boot_all ha (by decide) (by decide) hs hpl, fun z W ds vs Q Ex k r h => ?_⟩
    match ds, r, h with
    | [d], .cons (v := v) rv .nil, h =>
      obtain ⟨a, xs, us, rfl, h1, h2, h3⟩ := seqL_ok k rv (show Wp G z W ((seqL d).bind fun xs => (M.opt (blsOf xs)).bind fun is => M.pure (.bl (is.all id))) (Wt G z Q) Ex from h).bind
      obtain ⟨is, e, h4⟩ := h3.bind.opt k
      refine ⟨a, is, rfl, ?_, h4.pure0 k _ (.bl _)⟩
      rw [← bls_of h2 e]
      exact SqL.of h1
    | [], .nil, h => exact (show False from h).elim
    | _ :: _ :: _, _, h => exact (show False from h).elim
  | any =>
    refine ⟨_, pe_callB (cr_any (g.calm (by simpa [bfOk] using hf))) hg (g.bi _ (by decide)) boot_any ha (by decide) (by decide) hs hpl, fun z W ds vs Q Ex k r h => ?_⟩
    match ds, r, h with
    | [d], .cons (v := v) rv .nil, h =>
      obtain ⟨a, xs, us, rfl, h1, h2, h3⟩ := seqL_ok k rv (show Wp G z W ((seqL d).bind fun xs => (M.opt (blsOf xs)).bind fun is => M.pure (.bl (is.any id))) (Wt G z Q) Ex from h).bind
      obtain ⟨is, e, h4⟩ := h3.bind.opt k
      refine ⟨a, is, rfl, ?_, h4.pure0 k _ (.bl _)⟩
      rw [← bls_of h2 e]
      exact SqL.of h1
    | [], .nil, h => exact (show False from h).elim
    | _ :: _ :: _, _, h => exact (show False from h).elim
  | tuple =>
    refine ⟨_, pe_callTy call_tuple_of hg (g.bi _ (by decide)) boot_tuple ha (by decide) (by decide) hs hpl, fun z W ds vs Q Ex k r h => ?_⟩
    match ds, r, h with
    | [d], .cons (v := v) rv .nil, h =>
      obtain ⟨a, xs, us, rfl, h1, h2, h3, h4, h5⟩ := seqA_ok k rv (show Wp G z W ((seqA d).bind fun xs => M.pure (.tup xs)) (Wt G z Q) Ex from h).bind
      by_cases q : ∃ ds, d = .tup ds
      · refine ⟨a, us, rfl, .inr ⟨?_, h3.pure0 k _ (.tup (h4 q).2 h2)⟩⟩
        rw [hK]; exact (h4 q).1
      · exact ⟨a, us, rfl, .inl ⟨SqL.of (h5 fun ds e => q ⟨ds, e⟩), new_tup k h2 h3⟩⟩
    | [], .nil, h => exact (show False from h).elim
    | _ :: _ :: _, _, h => exact (show False from h).elim
  | isin =>
    refine ⟨_, pe_callB call_isi hg (g.bi _ (by decide)) boot_isinstance ha (by decide) (by decide) hs hpl, fun z W ds vs Q Ex k r h => ?_⟩
    have q : ∃ d n, ds = [d, .ty n] := by
      match ds, h with
      | [], h => exact (show False from h).elim
      | [d], h => cases d <;> exact (show False from h).elim
      | [d, e], h => cases e <;> first | exact ⟨_, _, rfl⟩ | exact (show False from h).elim
      | d :: e :: _ :: _, h => cases e <;> exact (show False from h).elim
    obtain ⟨d, n, rfl⟩ := q
    match r with
    | .cons (v := v) rv (.cons (.ty _) .nil) =>
      have h : Wp G z W (match tyName d with | some t => if tyOk n then M.pure (.bl (isTy t n)) else M.bad | none => M.bad) (Wt G z Q) Ex := h
      cases e : tyName d with
      | none => rw [e] at h; exact h.bad.elim
      | some t =>
        rw [e] at h
        rcases (show Wp G z W (if tyOk n then M.pure (.bl (isTy t n)) else M.bad) (Wt G z Q) Ex from h).ite with ⟨q, h⟩ | ⟨q, h⟩
        · obtain ⟨t1, t2⟩ := tyX_of rv e
          refine ⟨v, .ty n, .type t, .type n, isTy t n, rfl, .ty n, ?_, kit_ty (kit_all t t1 n (tyOk_mem q)), h.pure0 k _ (.bl _)⟩
          rw [hK]; exact t2
        · exact h.bad.elim
  | list =>
    refine ⟨_, pe_callTy call_list_of hg (g.bi _ (by decide)) boot_list ha (by decide) (by decide) hs hpl, fun z W ds vs Q Ex k r h => ?_⟩
    have q : ∃ d, ds = [d] := by
      match ds, h with
      | [], h => exact (show False from h).elim
      | [d], h => exact ⟨d, rfl⟩
      | d :: e :: _, h => cases d <;> exact (show False from h).elim
    obtain ⟨d, rfl⟩ := q
    match r with
    | .cons (v := v) rv .nil => exact bfL_ok hK k rv (datum_of (f := bfL .list [d]) (by cases d <;> exact h))
/-- list(x), a new list -/
theorem bfLs_ok {X : Cx} {Γ : Cxt} {C : Nat → List D → M D} {Kc : Nat → D} {Wx : WX} (g : Good G C Kc Γ X Wx) {t : TA} {p pos : Pos} {e : Expr} {es : List Expr} (hg : Gl X (Bf.name .list)) (ha : PA X (e :: es) t)
    (hs : starEach (e :: es) X.env = (false, eval e X.env) :: starEach es X.env) (hpl : (backTo pos (starEach es X.env)).any (·.1) = false) :
    ∃ r, PE X (.Call (.Name (Bf.name .list) p) (e :: es) [] pos) (tCB r t) ∧
    ∀ (z : List Addr) (W : Wd) (ds : List D) (vs : List V) (Q : VK) (Ex : Nat → List D → Wd → Prop), Mok G z W → RpsW G z W ds vs → Wp G z W (bfL .list ds) (WtL G z Q) Ex → r vs W.H Q := by
  refine ⟨_, pe_callTy call_list_of hg (g.bi _ (by decide)) boot_list ha (by decide) (by decide) hs hpl, fun z W ds vs Q Ex k r h => ?_⟩
  have q : ∃ d, ds = [d] := by
    match ds, h with
    | [], h => exact (show False from h).elim
    | [d], h => exact ⟨d, rfl⟩
    | d :: e :: _, h => cases d <;> exact (show False from h).elim
  obtain ⟨d, rfl⟩ := q
  match r with
  | .cons (v := v) rv .nil => exact bfL_ok g.K k rv h
end
end DL
/-! DL7: what is walked; targets -/
namespace DL
open PySem PyProof.Rows L2 PySem.Spec

theorem boot_type {n : String} (h : tyOk n = true) : bootBuiltins (Str.ofString n) = some (.type n) ∧ (Str.ofString n) ≠ "__name__" ∧ (Str.ofString n == ("__debug__" : Str)) = false ∧ Str.ofString n ∈ builtins := by
  have q := tyOk_mem h
  simp only [List.mem_cons, List.not_mem_nil, or_false] at q
  rcases q with rfl | rfl | rfl | rfl | rfl
  · exact ⟨boot_bool, by decide +kernel, by decide +kernel, by decide +kernel⟩
  · exact ⟨boot_int, by decide +kernel, by decide +kernel, by decide +kernel⟩
  · exact ⟨boot_str, by decide +kernel, by decide +kernel, by decide +kernel⟩
  · exact ⟨boot_tuple, by decide +kernel, by decide +kernel, by decide +kernel⟩
  · exact ⟨boot_list, by decide +kernel, by decide +kernel, by decide +kernel⟩

def tzLen : Tz → Nat
  | .cons _ ts => tzLen ts + 1
  | _ => 0
/-! ### a list or a tuple, walked -/
def iSeq (K : PySem.W.Frag) (tl : TE) : TI := fun σ H R => tl σ H fun x H1 => ∃ a, x = .ref a ∧ (((∃ xs, SqL K H1 a xs) ∧ R (Itl K a) H1) ∨ ((∃ xs, SqT K H1 a xs) ∧ R (Itt K a) H1))
theorem pi_seq {X : Cx} {tg l : Expr} {tl : TE} (hl : PE X l tl) : PI X tg l (iSeq X.K tl) := by
  constructor
  intro pins s σ H R I h
  refine thn (hl.run pins s σ H _ I h) ?_
  rintro v s1 ⟨x, H1, I1, r1, a, rfl, hq⟩
  cases r1
  have kept : ∀ ob : Obj, Inv X pins σ H1 { s1 with heap := s1.heap.push ob } := fun ob => I1.kept (t' := s1.toks) fun b o q => Heap.get?_push_of_some _ q
  have ok1 : ∀ b ∈ [s1.heap.objs.size], FpOk X pins H1 b := fun b hb => by
    obtain rfl := List.mem_singleton.mp hb
    exact I1.fpOk (Nat.le_refl _) I1.fresh
  rcases hq with ⟨⟨xs, hx⟩, q⟩ | ⟨⟨xs, hx⟩, q⟩
  · obtain ⟨its, rv, p, hz⟩ := I1.list hx
    exact wpAny_pyIter_list p.isList ⟨_, [s1.heap.objs.size], _, Itl X.K a, H1, rfl, kept _, turn_list a _, ⟨_, Heap.get?_push_size _ rfl, rfl, rfl⟩, ok1, q⟩
  · obtain ⟨its, rv, p, hz⟩ := I1.tuple hx
    exact wpAny_pyIter_tuple (items := its.toArray) p ⟨_, [s1.heap.objs.size], _, Itt X.K a, H1, rfl, kept _, turn_tuple a _, ⟨_, Heap.get?_push_size _ rfl, rfl, rfl⟩, ok1, q⟩

section
variable {G : Gx} {F : Hp} {m : List Addr}
theorem it_list {a : Addr} {vs : List V} {ds : List D} (h : F a = some (.lst vs)) (r : Rps G F m ds vs) : ItR G F m (Itl G.K a) ds := by
  intro z W k e hm
  have ha : W.H a = some (.lst vs) := F_sub (e _ _ h fun _ q => nomatch q)
  have rW : RpsW G z W ds vs := r.mono e hm
  have hS : SqL G.K W.H a vs := SqL.of ha
  refine ⟨fun i d hd => ?_, fun i hi => ⟨vs, hS, by rw [← rW.len]; exact hi⟩⟩
  obtain ⟨v, hv, rv⟩ := rW.get hd
  refine ⟨⟨vs, v, hS, hv⟩, fun x H' hy => ?_⟩
  obtain ⟨e1, e2⟩ := hy
  have e3 : x = v := Option.some.inj ((e2 vs hS).symm.trans hv)
  exact ⟨W, e1.symm, rfl, k, Le.refl _ _, by rw [e3]; exact rv⟩
theorem it_tup {a : Addr} {vs : List V} {ds : List D} (h : SqT G.K F a vs) (r : Rps G F m ds vs) : ItR G F m (Itt G.K a) ds := by
  intro z W k e hm
  have hS : SqT G.K W.H a vs := sqT_of (z := z) (e.sqT h)
  have rW : RpsW G z W ds vs := r.mono e hm
  refine ⟨fun i d hd => ?_, fun i hi => ⟨vs, hS, by rw [← rW.len]; exact hi⟩⟩
  obtain ⟨v, hv, rv⟩ := rW.get hd
  refine ⟨⟨vs, v, hS, hv⟩, fun x H' hy => ?_⟩
  obtain ⟨e1, e2⟩ := hy
  have e3 : x = v := Option.some.inj ((e2 vs hS).symm.trans hv)
  exact ⟨W, e1.symm, rfl, k, Le.refl _ _, by rw [e3]; exact rv⟩
theorem it_rng {lo : Int} {n : Nat} : ItR G F m (Itr lo n) ((List.range n).map fun (i : Nat) => D.int (lo + (i : Int))) := by
  intro z W k e hm
  refine ⟨fun i d hd => ?_, fun i hi => by
    show n ≤ i
    simpa using hi⟩
  rw [List.getElem?_map] at hd
  have hi : i < n := by
    by_cases q : i < n
    · exact q
    · rw [List.getElem?_eq_none (by simpa using q)] at hd
      cases hd
  rw [List.getElem?_range hi] at hd
  cases hd
  refine ⟨hi, fun x H' hy => ?_⟩
  obtain ⟨e1, e2⟩ := hy
  exact ⟨W, e1.symm, rfl, k, Le.refl _ _, by rw [e2]; exact .int _⟩
theorem enumD_get {ds : List D} {i : Nat} {d : D} (h : (enumD ds)[i]? = some d) : ∃ e, ds[i]? = some e ∧ d = .tup [.int (i : Nat), e] := by
  unfold enumD at h
  rw [List.getElem?_map, List.getElem?_zipIdx] at h
  cases q : ds[i]? with
  | none => rw [q] at h; cases h
  | some e =>
    rw [q] at h
    have h' : some (D.tup [.int ((0 + i : Nat) : Int), e]) = some d := h
    rw [Nat.zero_add] at h'
    exact ⟨e, rfl, (Option.some.inj h').symm⟩
theorem enumD_len {ds : List D} : (enumD ds).length = ds.length := by
  unfold enumD
  rw [List.length_map, List.length_zipIdx]
theorem pair_new {z : List Addr} {W : Wd} {T : Addr} {d1 d2 : D} {x y : V} (k : Mok G z W) (hT : W.H T = none) (r1 : RpW G z W d1 x) (r2 : RpW G z W d2 y) :
    ∃ W' : Wd, W'.H = upd W.H T (.tup [x, y]) ∧ W'.μ = W.μ ∧ Mok G z W' ∧ Le z W W' ∧ RpW G z W' (.tup [d1, d2]) (.ref T) := by
  obtain ⟨k1, l1, f1⟩ := k.new (o := .tup [x, y]) hT
  exact ⟨⟨W.m, W.μ, upd W.H T (.tup [x, y])⟩, rfl, rfl, k1, l1, .tup (SqT.of f1) (.cons (r1.le l1) (.cons (r2.le l1) .nil))⟩
theorem it_enum {a : Addr} {vs : List V} {ds : List D} (h : F a = some (.lst vs)) (r : Rps G F m ds vs) : ItR G F m (Ite G.K a) (enumD ds) := by
  intro z W k e hm
  have ha : W.H a = some (.lst vs) := F_sub (e _ _ h fun _ q => nomatch q)
  have rW : RpsW G z W ds vs := r.mono e hm
  have hS : SqL G.K W.H a vs := SqL.of ha
  refine ⟨fun i d hd => ?_, fun i hi => ⟨vs, hS, by rw [← rW.len, ← enumD_len]; exact hi⟩⟩
  obtain ⟨d', hd', rfl⟩ := enumD_get hd
  obtain ⟨v, hv, rv⟩ := rW.get hd'
  refine ⟨⟨vs, v, hS, hv⟩, fun x H' hy => ?_⟩
  obtain ⟨T, x', e1, e2, e3, e4⟩ := hy
  have e5 : x' = v := Option.some.inj ((e4 vs hS).symm.trans hv)
  subst e1 e3 e5
  exact pair_new k e2 (.int _) rv
theorem zipD_get {ds es : List D} {i : Nat} {d : D} (h : (zipD ds es)[i]? = some d) : ∃ x y, ds[i]? = some x ∧ es[i]? = some y ∧ d = .tup [x, y] := by
  unfold zipD at h
  rw [List.getElem?_map] at h
  cases q : (ds.zip es)[i]? with
  | none => rw [q] at h; cases h
  | some p =>
    rw [q] at h
    obtain ⟨h1, h2⟩ := List.getElem?_zip_eq_some.mp q
    exact ⟨p.1, p.2, h1, h2, (Option.some.inj h).symm⟩
theorem zipD_len {ds es : List D} : (zipD ds es).length = min ds.length es.length := by
  unfold zipD
  rw [List.length_map, List.length_zip]
theorem it_zipL {a b : Addr} {vs us : List V} {ds es : List D} (h1 : F a = some (.lst vs)) (h2 : F b = some (.lst us)) (r1 : Rps G F m ds vs) (r2 : Rps G F m es us) : ItR G F m (Itz G.K a b) (zipD ds es) := by
  intro z W k e hm
  have s1 : SqL G.K W.H a vs := SqL.of (F_sub (e _ _ h1 fun _ q => nomatch q))
  have s2 : SqL G.K W.H b us := SqL.of (F_sub (e _ _ h2 fun _ q => nomatch q))
  have q1 : RpsW G z W ds vs := r1.mono e hm
  have q2 : RpsW G z W es us := r2.mono e hm
  refine ⟨fun i d hd => ?_, fun i hi => ⟨vs, us, s1, s2, ?_⟩⟩
  · obtain ⟨d1, d2, g1, g2, rfl⟩ := zipD_get hd
    obtain ⟨v1, e1, p1⟩ := q1.get g1
    obtain ⟨v2, e2, p2⟩ := q2.get g2
    refine ⟨⟨vs, us, v1, v2, s1, s2, e1, e2⟩, fun x H' hy => ?_⟩
    obtain ⟨T, x1, x2, c1, c2, c3, c4, c5⟩ := hy
    have t1 : x1 = v1 := Option.some.inj ((c4 vs s1).symm.trans e1)
    have t2 : x2 = v2 := Option.some.inj ((c5 us s2).symm.trans e2)
    subst c1 c3 t1 t2
    exact pair_new k c2 p1 p2
  · rw [zipD_len, q1.len, q2.len] at hi
    omega
theorem it_zipT {a b : Addr} {vs us : List V} {ds es : List D} (h1 : SqT G.K F a vs) (h2 : SqT G.K F b us) (r1 : Rps G F m ds vs) (r2 : Rps G F m es us) : ItR G F m (RZ.ItzT G.K a b) (zipD ds es) := by
  intro z W k e hm
  have s1 : SqT G.K W.H a vs := sqT_of (z := z) (e.sqT h1)
  have s2 : SqT G.K W.H b us := sqT_of (z := z) (e.sqT h2)
  have q1 : RpsW G z W ds vs := r1.mono e hm
  have q2 : RpsW G z W es us := r2.mono e hm
  refine ⟨fun i d hd => ?_, fun i hi => ⟨vs, us, s1, s2, ?_⟩⟩
  · obtain ⟨d1, d2, g1, g2, rfl⟩ := zipD_get hd
    obtain ⟨v1, e1, p1⟩ := q1.get g1
    obtain ⟨v2, e2, p2⟩ := q2.get g2
    refine ⟨⟨vs, us, v1, v2, s1, s2, e1, e2⟩, fun x H' hy => ?_⟩
    obtain ⟨T, x1, x2, c1, c2, c3, c4, c5⟩ := hy
    have t1 : x1 = v1 := Option.some.inj ((c4 vs s1).symm.trans e1)
    have t2 : x2 = v2 := Option.some.inj ((c5 us s2).symm.trans e2)
    subst c1 c3 t1 t2
    exact pair_new k c2 p1 p2
  · rw [zipD_len, q1.len, q2.len] at hi
    omega
end

/-! ### targets -/
/-- the slots of is may have turned, all else is as it was -/
def Same1 (σ σ' : L2.St) (is : List Nat) : Prop := σ'.length = σ.length ∧ ∀ i, i ∉ is → σ'[i]? = σ[i]?
theorem Same1.wipe {σ σ' : L2.St} {is : List Nat} (h : Same1 σ σ' is) : L2.wipe σ' is = L2.wipe σ is := by
  apply List.ext_getElem?
  intro i
  have key : ∀ (js : List Nat) (τ : L2.St), (i ∈ js → (L2.wipe τ js)[i]? = if i < τ.length then some none else none) ∧ (i ∉ js → (L2.wipe τ js)[i]? = τ[i]?) := by
    intro js
    induction js with
    | nil => exact fun τ => ⟨fun q => absurd q (List.not_mem_nil), fun _ => rfl⟩
    | cons j js ih =>
      intro τ
      have e : L2.wipe τ (j :: js) = (L2.wipe τ js).set j none := rfl
      rw [e]
      by_cases hij : i = j
      · subst hij
        refine ⟨fun _ => ?_, fun q => absurd List.mem_cons_self q⟩
        by_cases hl : i < τ.length
        · rw [List.getElem?_set_self (by rw [wipe_length]; exact hl), if_pos hl]
        · rw [List.getElem?_eq_none (by rw [List.length_set, wipe_length]; omega), if_neg hl]
      · rw [List.getElem?_set_ne (Ne.symm hij)]
        exact ⟨fun q => (ih τ).1 ((List.mem_cons.mp q).resolve_left hij), fun q => (ih τ).2 fun p => q (List.mem_cons_of_mem _ p)⟩
  by_cases hi : i ∈ is
  · rw [(key is σ').1 hi, (key is σ).1 hi, h.1]
  · rw [(key is σ').2 hi, (key is σ).2 hi, h.2 i hi]
theorem Same1.trans {σ σ1 σ2 : L2.St} {is js : List Nat} (a : Same1 σ σ1 is) (b : Same1 σ1 σ2 js) : Same1 σ σ2 (is ++ js) :=
  ⟨b.1.trans a.1, fun i hi => (b.2 i fun q => hi (List.mem_append_right _ q)).trans (a.2 i fun q => hi (List.mem_append_left _ q))⟩
def tTg (G : Gx) (tg : Tz) : TG := fun v σ H Q => ∃ z ρ W d ρ', W.H = H ∧ Mok G z W ∧ EnvR G z W ρ σ ∧ RpW G z W d v ∧ bindT tg d ρ = some ρ' ∧ ∀ σ', EnvR G z W ρ' σ' → Same1 σ σ' tg.slots → Q σ' H
def tTgs (G : Gx) (tg : Tz) : TGs := fun vs σ H Q => ∃ z ρ W ds ρ', W.H = H ∧ Mok G z W ∧ EnvR G z W ρ σ ∧ RpsW G z W ds vs ∧ bindTs tg ds ρ = some ρ' ∧ ∀ σ', EnvR G z W ρ' σ' → Same1 σ σ' tg.slots → Q σ' H
theorem impPG {X : Cx} {e : Expr} {t t' : TG} (h : PG X e t) (hi : ∀ v σ H Q, t' v σ H Q → t v σ H Q) : PG X e t' := ⟨fun pins s σ H v u Q I r q => h.run pins s σ H v u Q I r (hi v σ H Q q)⟩
theorem impPGs {X : Cx} {e : List Expr} {t t' : TGs} (h : PGs X e t) (hi : ∀ v σ H Q, t' v σ H Q → t v σ H Q) : PGs X e t' := ⟨fun pins s σ H v u Q I r q => h.run pins s σ H v u Q I r (hi v σ H Q q)⟩
section
variable {G : Gx} {C : Nat → List D → M D} {Kc : Nat → D} {Γ : Cxt} {X : Cx} {Wx : WX}
theorem asg_of {x : Str} (g : Good G C Kc Γ X Wx) (h : Γ.asg x = true) : Loc X.env.scope x ∧ (X.fn x = true ∨ X.env.scope.names.lookup x = some .local) := by
  unfold Cxt.asg at h
  rw [g.sc, g.fn]
  split at h
  · rename_i q
    exact ⟨.inl q, .inr q⟩
  · rename_i q
    refine ⟨.inr q, .inl ?_⟩
    split at h
    · rename_i e
      rw [e]
    · rename_i s e
      rw [e]
      exact h
  · cases h
mutual
theorem pg_ok (g : Good G C Kc Γ X Wx) : ∀ (t : Tz) (e : Expr), ckT Γ t e = true → PG X e (tTg G t)
  | .nm i, e, h => by
    cases e with
    | Name x p =>
      simp only [ckT, Bool.and_eq_true, Cxt.nm, decide_eq_true_eq] at h
      obtain ⟨a1, a2⟩ := asg_of g h.2
      refine impPG (pg_name (i := i) (by rw [g.N]; exact g.nd) (by rw [g.N]; exact h.1) a1 a2) ?_
      rintro v σ H Q ⟨z, ρ, W, d, ρ', rfl, k, r, rv, hb, q⟩
      simp only [bindT] at hb
      split at hb
      · cases hb
        refine q _ (r.set rv i) ⟨by rw [List.length_set], fun j hj => ?_⟩
        rw [List.getElem?_set_ne]
        intro e
        exact hj (by rw [← e]; exact List.mem_singleton.mpr rfl)
      · cases hb
    | _ => cases h
  | .tp ts, e, h => by
    cases e with
    | Tuple es kk p =>
      simp only [ckT] at h
      have hst := stars_ok h
      have e1 : (assignEach es X.env).length = es.length := by rw [assigns_of hst, List.length_map]
      have e2 : (assignEach es X.env).findIdx? (·.1) = none := by rw [assigns_of hst, List.findIdx?_map]; exact List.findIdx?_eq_none_iff.mpr fun _ _ => rfl
      have P0 : PG X (.Tuple es kk p) (gTup X.K es.length (tTgs G ts)) := by
        cases eh : Γ.hot with
        | false => exact pg_tup (g.calm eh) (pgs_ok g ts es h) e1 e2
        | true => exact L2H.pg_tupH (g.hotc eh) (pgs_ok g ts es h) e1 e2
      refine impPG P0 ?_
      rintro v σ H Q ⟨z, ρ, W, d, ρ', rfl, k, r, rv, hb, q⟩
      cases d with
      | tup xs =>
        simp only [bindT] at hb
        cases rv with
        | @tup a vs ds h1 h2 =>
          refine ⟨a, vs, rfl, ?_, ?_, z, ρ, W, xs, ρ', rfl, k, r, h2, hb, q⟩
          · rw [g.K]; exact sqT_of h1
          · rw [← h2.len, ← len_ok h, bindTs_len hb]
      | _ => cases hb
    | _ => cases h
  | .nil, e, h => by cases e <;> cases h
  | .cons _ _, e, h => by cases e <;> cases h
theorem pgs_ok (g : Good G C Kc Γ X Wx) : ∀ (t : Tz) (es : List Expr), ckTs Γ t es = true → PGs X es (tTgs G t)
  | .nil, [], _ => impPGs pgs_nil (by
    rintro vs σ H Q ⟨z, ρ, W, ds, ρ', rfl, k, r, rv, hb, q⟩
    cases ds with
    | nil =>
      cases hb
      cases rv
      exact ⟨rfl, q σ r ⟨rfl, fun _ _ => rfl⟩⟩
    | cons d ds => cases hb)
  | .cons t ts, e :: es, h => by
    simp only [ckTs, Bool.and_eq_true] at h
    refine impPGs (pgs_cons (pg_ok g t e h.1.2) (pgs_ok g ts es h.2) (by rw [assign_of h.1.1]; rfl)) ?_
    rintro vs σ H Q ⟨z, ρ, W, ds, ρ', rfl, k, r, rv, hb, q⟩
    cases ds with
    | nil => cases hb
    | cons d ds =>
      cases rv with
      | @cons _ v _ vs h1 h2 =>
        simp only [bindTs] at hb
        cases e1 : bindT t d ρ with
        | none => rw [e1] at hb; cases hb
        | some ρ1 =>
          rw [e1] at hb
          exact ⟨v, vs, rfl, z, ρ, W, d, ρ1, rfl, k, r, h1, e1, fun σ1 r1 s1 => ⟨z, ρ1, W, ds, ρ', rfl, k, r1, h2, hb, fun σ2 r2 s2 => q σ2 r2 (s1.trans s2)⟩⟩
  | .nil, _ :: _, h => by cases h
  | .cons _ _, [], h => by cases h
  | .nm _, es, h => by cases es <;> cases h
  | .tp _, es, h => by cases es <;> cases h
theorem stars_ok : ∀ {t : Tz} {es : List Expr}, ckTs Γ t es = true → es.all notStar = true
  | .nil, [], _ => rfl
  | .cons t ts, e :: es, h => by
    simp only [ckTs, Bool.and_eq_true] at h
    simp only [List.all_cons, Bool.and_eq_true]
    exact ⟨h.1.1, stars_ok h.2⟩
  | .nil, _ :: _, h => by cases h
  | .cons _ _, [], h => by cases h
  | .nm _, es, h => by cases es <;> cases h
  | .tp _, es, h => by cases es <;> cases h
theorem len_ok : ∀ {t : Tz} {es : List Expr}, ckTs Γ t es = true → tzLen t = es.length
  | .nil, [], _ => rfl
  | .cons t ts, e :: es, h => by
    simp only [ckTs, Bool.and_eq_true] at h
    simp only [tzLen, List.length_cons, len_ok h.2]
  | .nil, _ :: _, h => by cases h
  | .cons _ _, [], h => by cases h
  | .nm _, es, h => by cases es <;> cases h
  | .tp _, es, h => by cases es <;> cases h
theorem bindTs_len : ∀ {t : Tz} {ds : List D} {ρ ρ' : Env}, bindTs t ds ρ = some ρ' → ds.length = tzLen t
  | .nil, [], _, _, _ => rfl
  | .cons t ts, d :: ds, ρ, ρ', h => by
    simp only [bindTs] at h
    cases e : bindT t d ρ with
    | none => rw [e] at h; cases h
    | some ρ1 =>
      rw [e] at h
      simp only [tzLen, List.length_cons, bindTs_len h]
  | .nil, _ :: _, _, _, h => by cases h
  | .cons _ _, [], _, _, h => by cases h
  | .nm _, ds, _, _, h => by cases ds <;> cases h
  | .tp _, ds, _, _, h => by cases ds <;> cases h
end
end
end DL
/-! DL8: comprehensions -/
namespace DL
open PySem PyProof.Rows L2 PySem.Spec

/-- a world without what is being made at d -/
def Wd.del (W : Wd) (d : Addr) : Wd := ⟨W.m, W.μ, fun b => if b = d then none else W.H b⟩
section
variable {G : Gx} {z : List Addr} {W W' : Wd} {d : Addr} {vs : List V}
theorem del_F : (W.del d).F z = W.F (d :: z) := by
  funext b
  by_cases h : b ∈ d :: z ∨ W.lv b
  · have e2 : W.F (d :: z) b = none := by
      unfold Wd.F
      rw [if_pos h]
    rw [e2]
    unfold Wd.F
    by_cases h2 : b ∈ z ∨ (W.del d).lv b
    · rw [if_pos h2]
    · rw [if_neg h2]
      show (if b = d then none else W.H b) = none
      rcases h with h | h
      · rcases List.mem_cons.mp h with q | q
        · rw [if_pos q]
        · exact absurd (.inl q) h2
      · exact absurd (.inr h) h2
  · have e2 : W.F (d :: z) b = W.H b := by
      unfold Wd.F
      rw [if_neg h]
    rw [e2]
    unfold Wd.F
    rw [if_neg (fun q => h (q.imp (fun p => List.mem_cons_of_mem _ p) id))]
    show (if b = d then none else W.H b) = W.H b
    rw [if_neg (fun q => h (.inl (by rw [q]; exact List.mem_cons_self)))]
theorem del_H {b : Addr} (h : b ≠ d) : (W.del d).H b = W.H b := by
  show (if b = d then none else W.H b) = _
  rw [if_neg h]
theorem del_mok (k : Mok G (d :: z) W) (nz : d ∉ z) : Mok G z (W.del d) := by
  refine ⟨k.len, k.inj, fun b hb => k.zl b (List.mem_cons_of_mem _ hb), fun b hb => ?_, tabs_keep k.tabs fun b u e n => ?_, fun i a ob h1 h2 => ?_⟩
  · obtain ⟨u, e⟩ := k.zs b (List.mem_cons_of_mem _ hb)
    exact ⟨u, (del_H fun q => nz (by rw [← q]; exact hb)).trans e⟩
  · refine (del_H fun q => n ?_).trans e
    obtain ⟨vs, e2⟩ := k.zs d List.mem_cons_self
    rw [q, e2] at e
    cases e
    exact plain_lst
  · rw [del_F]
    refine (k.ob i a ob h1 h2).mono (Ext.refl _) (fun _ _ q => q) fun hf u e => ?_
    have h2' : W.μ[i]? = some ob := h2
    have la : W.lv a := ⟨i, by
      unfold live
      rw [h2']
      cases ob with
      | fro q => exact absurd rfl (hf q)
      | _ => trivial, h1⟩
    exact (del_H fun q => k.zl d List.mem_cons_self (by rw [← q]; exact la)).trans e
theorem del_le (l : Le (d :: z) W W') (nz : d ∉ z) : Le z (W.del d) (W'.del d) := by
  refine ⟨l.pre, ?_, fun b hb => ?_⟩
  · rw [del_F, del_F]
    exact l.ext
  · have nb : b ≠ d := fun q => nz (by rw [← q]; exact hb)
    rw [del_H nb, del_H nb]
    exact l.zk b (List.mem_cons_of_mem _ hb)
theorem Wp.frame {α : Type} {m : M α} {P : α → Wd → Prop} {Ex : Nat → List D → Wd → Prop} (h : Wp G z (W.del d) m P Ex) (nz : d ∉ z) : Wp G (d :: z) W m (fun a W' => P a (W'.del d)) (fun c xs W' => Ex c xs (W'.del d)) := by
  refine T.good_mono (fun r q => ?_) (show (m W.μ).good _ from h)
  cases r with
  | ok a μ' => exact fun W' e k l => q (W'.del d) e (del_mok k nz) (del_le l nz)
  | exc c xs μ' => exact fun W' e k l => q (W'.del d) e (del_mok k nz) (del_le l nz)
  | bad => exact q
theorem Wp.at_ {α : Type} {m : M α} {P : α → Wd → Prop} {Ex : Nat → List D → Wd → Prop} (h : Wp G z W m P Ex) (e : W'.μ = W.μ) (l : Le z W W') : Wp G z W' m P Ex := by
  show (m W'.μ).good _
  rw [e]
  refine T.good_mono (fun r q => ?_) h
  cases r with
  | ok a μ' => exact fun W2 e2 k2 l2 => q W2 e2 k2 (l.trans l2)
  | exc c xs μ' => exact fun W2 e2 k2 l2 => q W2 e2 k2 (l.trans l2)
  | bad => exact q
theorem Wp.calm {α : Type} {m : M α} {P : α → Wd → Prop} {Ex : Nat → List D → Wd → Prop} (h : Wp G z W (calmM m) P Ex) : Wp G z W m P (fun _ _ _ => False) := by
  refine T.good_mono (fun r q => ?_) (T.good_bind (show ((m W.μ).bind calmR).good _ from h))
  cases r with
  | ok a μ' => exact q
  | exc c xs μ' => exact (show False from q).elim
  | bad => exact q
theorem zset (k : Mok G (d :: z) W) : Mok G (d :: z) ⟨W.m, W.μ, upd W.H d (.lst vs)⟩ ∧ Wd.del ⟨W.m, W.μ, upd W.H d (.lst vs)⟩ d = W.del d ∧ Wd.F (d :: z) ⟨W.m, W.μ, upd W.H d (.lst vs)⟩ = W.F (d :: z) := by
  have e1 : Wd.del ⟨W.m, W.μ, upd W.H d (.lst vs)⟩ d = W.del d := by
    unfold Wd.del
    congr 1
    funext b
    show (if b = d then none else upd W.H d (.lst vs) b) = _
    by_cases q : b = d
    · rw [if_pos q, if_pos q]
    · rw [if_neg q, if_neg q, upd_ne q]
  have e2 : Wd.F (d :: z) ⟨W.m, W.μ, upd W.H d (.lst vs)⟩ = W.F (d :: z) := by rw [← del_F, ← del_F, e1]
  refine ⟨⟨k.len, k.inj, k.zl, fun b hb => ?_, let ⟨_, e⟩ := k.zs d List.mem_cons_self; tabs_upd k.tabs e plain_lst, fun i a ob h1 h2 => ?_⟩, e1, e2⟩
  · by_cases q : b = d
    · exact ⟨vs, by rw [q]; exact upd_same⟩
    · obtain ⟨u, e⟩ := k.zs b hb
      exact ⟨u, (upd_ne q).trans e⟩
  · rw [e2]
    refine (k.ob i a ob h1 h2).mono (Ext.refl _) (fun _ _ q => q) fun hf u e => ?_
    have h2' : W.μ[i]? = some ob := h2
    have la : W.lv a := ⟨i, by
      unfold live
      rw [h2']
      cases ob with
      | fro q => exact absurd rfl (hf q)
      | _ => trivial, h1⟩
    exact (upd_ne fun q => k.zl d List.mem_cons_self (by rw [← q]; exact la)).trans e
theorem zstart (k : Mok G z W) (h : W.H d = none) : d ∉ z ∧ Mok G (d :: z) ⟨W.m, W.μ, upd W.H d (.lst vs)⟩ ∧ Wd.del ⟨W.m, W.μ, upd W.H d (.lst vs)⟩ d = W := by
  have e1 : Wd.del ⟨W.m, W.μ, upd W.H d (.lst vs)⟩ d = W := by
    obtain ⟨m, μ, H⟩ := W
    unfold Wd.del
    congr 1
    funext b
    by_cases q : b = d
    · rw [if_pos q, q]
      exact h.symm
    · rw [if_neg q]
      exact upd_ne q
  have e2 : Wd.F (d :: z) ⟨W.m, W.μ, upd W.H d (.lst vs)⟩ = W.F z := by rw [← del_F, e1]
  refine ⟨k.nz h, ⟨k.len, k.inj, fun b hb => ?_, fun b hb => ?_, tabs_new k.tabs h, fun i a ob h1 h2 => ?_⟩, e1⟩
  · rcases List.mem_cons.mp hb with q | q
    · rw [q]
      exact k.nlv h
    · exact k.zl b q
  · rcases List.mem_cons.mp hb with q | q
    · exact ⟨vs, by rw [q]; exact upd_same⟩
    · obtain ⟨u, e⟩ := k.zs b q
      exact ⟨u, (upd_ne (ne_of_none e h)).trans e⟩
  · rw [e2]
    exact (k.ob i a ob h1 h2).mono (Ext.refl _) (fun _ _ q => q) fun hf u e => (upd_ne (ne_of_none e h)).trans e
end
theorem same_wipe (σ : L2.St) : ∀ is : List Nat, Same1 σ (L2.wipe σ is) is
  | [] => ⟨rfl, fun _ _ => rfl⟩
  | j :: is => by
    have ih := same_wipe σ is
    refine ⟨by rw [wipe_length], fun i hi => ?_⟩
    show ((L2.wipe σ is).set j none)[i]? = _
    rw [List.getElem?_set_ne (fun q => hi (by rw [q]; exact List.mem_cons_self))]
    exact ih.2 i fun q => hi (List.mem_cons_of_mem _ q)
/-- nothing is wanted of exceptions: there are none -/
abbrev W0 : WX := fun _ _ _ _ => False
/-- THE COMPREHENSION -/
theorem lc_ok {G : Gx} {Wx : WX} {σ : L2.St} {H : Hp} {Q : VK} {tg : Tz} {I : Env → M (List D)} {P : Env → M Bool} {E : Env → M D}
    (h : tL G Wx (fun ρ => (I ρ).bind fun ds => (lenOk ds).bind fun ds => lcGo ds (lcTurn tg P E ρ)) σ H Q) :
    tLc (tI G Wx I) (tTg G tg) (tT G W0 P) (tD G W0 E) tg.slots σ H Q := by
  obtain ⟨z, ρ, W, rfl, k, r, h⟩ := h
  refine ⟨z, ρ, W, rfl, k, r, h.bind.mono (fun ds W1 k1 l1 h1 J hJ Dd hD => ?_) fun _ _ _ _ _ q => q⟩
  have h1 := h1.bind
  unfold lenOk at h1
  rcases h1.ite with ⟨hsz, h1⟩ | ⟨_, h1⟩
  case inr => exact h1.bad.elim
  have h1 := h1.pure0 k1
  obtain ⟨nz, k0, e0⟩ := zstart (vs := []) k1 hD
  have r1 := r.le l1
  refine ⟨fun i m H => ∃ (W2 : Wd) (acc : List D) (vacc : List V), W2.H = H ∧ m = ds.length - i ∧ i ≤ ds.length ∧ Mok G (Dd :: z) W2 ∧ H Dd = some (.lst vacc) ∧ RpsW G (Dd :: z) W2 acc vacc ∧
    Le z W1 (W2.del Dd) ∧ acc.length ≤ i ∧ Wp G z (W2.del Dd) (lcGo (ds.drop i) (lcTurn tg P E ρ)) (fun xs W' => WtL G z Q (acc ++ xs) W') (exW G z Wx σ), ⟨ds.length, ?_⟩, ?_⟩
  · exact ⟨⟨W1.m, W1.μ, upd W1.H Dd (.lst [])⟩, [], [], rfl, rfl, Nat.zero_le _, k0, upd_same, .nil, by rw [e0]; exact Le.refl _ _, Nat.zero_le _, by rw [e0]; exact h1⟩
  rintro i m H2 ⟨W2, acc, vacc, rfl, rfl, hi, k2, hacc, racc, l2, hlen, h2⟩
  have eF2 : W2.F (Dd :: z) = (W2.del Dd).F z := del_F.symm
  have hJ2 := hJ (Dd :: z) W2 k2 (by rw [eF2]; exact l2.ext) l2.pre
  by_cases hlt : i < ds.length
  · refine .inr ?_
    obtain ⟨d, hd⟩ : ∃ d, ds[i]? = some d := ⟨ds[i], List.getElem?_eq_getElem hlt⟩
    obtain ⟨go, yl⟩ := hJ2.1 i d hd
    have hdrop : ds.drop i = d :: ds.drop (i + 1) := by
      rw [List.drop_eq_getElem_cons hlt]
      have q : ds[i] = d := Option.some.inj ((List.getElem?_eq_getElem hlt).symm.trans hd)
      rw [q]
    rw [hdrop] at h2
    refine ⟨go, fun H' => ∃ (W2 : Wd) (acc : List D) (vacc : List V), W2.H = H' ∧ ds.length - (i + 1) = ds.length - (i + 1) ∧ i + 1 ≤ ds.length ∧ Mok G (Dd :: z) W2 ∧ H' Dd = some (.lst vacc) ∧ RpsW G (Dd :: z) W2 acc vacc ∧
      Le z W1 (W2.del Dd) ∧ acc.length ≤ i + 1 ∧ Wp G z (W2.del Dd) (lcGo (ds.drop (i + 1)) (lcTurn tg P E ρ)) (fun xs W' => WtL G z Q (acc ++ xs) W') (exW G z Wx σ), fun H' q => ⟨ds.length - (i + 1), by omega, q⟩, fun x H' hy => ?_⟩
    obtain ⟨W3, rfl, e3, k3, l3, rx⟩ := yl x H' hy
    have l3' := del_le l3 nz
    have h2 : Wp G z (W2.del Dd) ((lcTurn tg P E ρ d).bind fun r => (lcGo (ds.drop (i + 1)) (lcTurn tg P E ρ)).bind fun rs => M.pure (match r with | some e => e :: rs | none => rs)) (fun xs W' => WtL G z Q (acc ++ xs) W') (exW G z Wx σ) := h2
    have h3 := (h2.bind.calm.at_ (W' := W3.del Dd) e3 l3').bind
    obtain ⟨ρ', hb, h3⟩ := h3.opt (del_mok k3 nz)
    have renv : EnvR G (Dd :: z) W3 ρ σ := by
      have q := (r1.le l2).le l3'
      exact ⟨q.len, fun i d e => by
        obtain ⟨v, e1, e2⟩ := q.at_ i d e
        refine ⟨v, e1, ?_⟩
        show Rp G (W3.F (Dd :: z)) W3.m d v
        rw [← del_F]
        exact e2⟩
    refine ⟨Dd :: z, wipeE ρ tg.slots, W3, d, ρ', rfl, k3, renv.wipe _, rx, hb, fun σ2 r2 s2 => ⟨s2.wipe.trans (same_wipe σ tg.slots).wipe, ?_⟩⟩
    refine ⟨Dd :: z, ρ', W3, rfl, k3, r2, (h3.bind.frame nz).mono (fun b W4 k4 l4 h4 => ?_) fun _ _ _ _ _ q => q.elim⟩
    cases b with
    | false =>
      rw [if_neg Bool.false_ne_true]
      rw [if_neg Bool.false_ne_true] at h4
      have h4 := (h4.pure0 (del_mok k4 nz)).bind
      refine ⟨W4, acc, vacc, rfl, rfl, hlt, k4, ?_, racc.le (l3.trans l4), (l2.trans l3').trans (del_le l4 nz), by omega, h4.mono (fun rs W' k' l' q => q.pure0 k') fun _ _ _ _ _ q => q⟩
      rw [l4.zk Dd List.mem_cons_self, l3.zk Dd List.mem_cons_self]
      exact hacc
    | true =>
      rw [if_pos rfl]
      rw [if_pos rfl] at h4
      refine ⟨Dd :: z, ρ', W4, rfl, k4, r2.le l4, (h4.bind.frame nz).mono (fun y W5 k5 l5 h5 v rv => ?_) fun _ _ _ _ _ q => q.elim⟩
      have h5 := (h5.pure0 (del_mok k5 nz)).bind
      have l25 := (l3.trans l4).trans l5
      refine ⟨vacc, ?_, ?_, ?_⟩
      · rw [l25.zk Dd List.mem_cons_self]
        exact hacc
      · rw [← racc.len]
        omega
      · obtain ⟨k6, e6, f6⟩ := zset (vs := vacc ++ [v]) k5
        refine ⟨⟨W5.m, W5.μ, upd W5.H Dd (.lst (vacc ++ [v]))⟩, acc ++ [y], vacc ++ [v], rfl, rfl, hlt, k6, upd_same, ?_, ?_, ?_, ?_⟩
        · show Rps G (Wd.F (Dd :: z) ⟨W5.m, W5.μ, upd W5.H Dd (.lst (vacc ++ [v]))⟩) W5.m _ _
          rw [f6]
          exact (racc.le l25).append (.cons rv .nil)
        · rw [e6]
          exact l2.trans (del_le l25 nz)
        · rw [List.length_append]
          show acc.length + 1 ≤ i + 1
          omega
        · rw [e6]
          refine h5.mono (fun rs W' k' l' q => ?_) fun _ _ _ _ _ q => q
          have q := q.pure0 k'
          rw [List.append_assoc]
          exact q
  · have ei : i = ds.length := by omega
    subst ei
    refine .inl ⟨hJ2.2 _ (Nat.le_refl _), ?_⟩
    rw [List.drop_length] at h2
    have h2 : Wp G z (W2.del Dd) (M.pure []) (fun xs W' => WtL G z Q (acc ++ xs) W') (exW G z Wx σ) := h2
    have q := h2.pure0 (del_mok k2 nz)
    rw [List.append_nil] at q
    have q2 := q vacc (by show Rps G ((W2.del Dd).F z) W2.m acc vacc; rw [del_F]; exact racc) Dd (by show (if Dd = Dd then none else W2.H Dd) = none; rw [if_pos rfl])
    have e : upd (W2.del Dd).H Dd (.lst vacc) = W2.H := by
      funext b
      by_cases hb : b = Dd
      · rw [hb, upd_same, hacc]
      · rw [upd_ne hb, del_H hb]
    rw [e] at q2
    exact q2
/-! ### dicts -/
theorem keyOf_of {G : Gx} {F : Hp} {m : List Addr} {d : D} {k : Key} (r : Rp G F m d (kV k)) : keyOf d = some k := by
  cases k with
  | inl i => cases r; rfl
  | inr x => cases r; rfl
theorem keyV_of {G : Gx} {F : Hp} {m : List Addr} {d : D} {v : V} {k : Key} (r : Rp G F m d v) (h : keyOf d = some k) : v = kV k := by
  cases r <;> cases h <;> rfl
theorem keysOf_of {G : Gx} {F : Hp} {m : List Addr} : ∀ {ds : List D} {ks : List Key}, Rps G F m ds (ks.map kV) → keysOf ds = some ks
  | [], [], _ => rfl
  | d :: ds, k :: ks, .cons h t => by
    unfold keysOf
    rw [keyOf_of h, keysOf_of t]
  | [], _ :: _, h => nomatch h
  | _ :: _, [], h => nomatch h
theorem keysV_of {G : Gx} {F : Hp} {m : List Addr} : ∀ {ds : List D} {vs : List V} {ks : List Key}, Rps G F m ds vs → keysOf ds = some ks → vs = ks.map kV
  | [], _, ks, .nil, h => by cases h; rfl
  | d :: ds, _, ks, .cons r t, h => by
    unfold keysOf at h
    cases e1 : keyOf d with
    | none => rw [e1] at h; cases h
    | some k =>
      cases e2 : keysOf ds with
      | none => rw [e1, e2] at h; cases h
      | some ks' =>
        rw [e1, e2] at h
        cases h
        rw [keyV_of r e1, keysV_of t e2]
        rfl
theorem hasT_of {G : Gx} {F : Hp} {m : List Addr} {p : D × D} {q : List Key} {ks : List Key} (h : ∃ ds, p.1 = .tup ds ∧ Rps G F m ds (q.map kV)) : hasT ks p = decide (q = ks) := by
  obtain ⟨ds, e, r⟩ := h
  unfold hasT
  rw [e]
  show decide (keysOf ds = some ks) = _
  rw [keysOf_of r]
  by_cases z : q = ks
  · rw [z]; simp
  · rw [decide_eq_false z, decide_eq_false (fun y => z (Option.some.inj y))]
theorem hasK_of {G : Gx} {F : Hp} {m : List Addr} {p : D × D} {q k : Key} (h : Rp G F m p.1 (kV q)) : hasK k p = decide (q = k) := by
  unfold hasK
  rw [keyOf_of h]
  by_cases z : q = k
  · rw [z]; simp
  · rw [decide_eq_false z, decide_eq_false (fun y => z (Option.some.inj y))]
section
variable {κ : Type} [DecidableEq κ] {f : D × D → Bool} {k : κ} {R : D × D → κ × V → Prop} {V1 : D → V → Prop}
theorem getD_ok (hR : ∀ p q, R p q → f p = decide (q.1 = k) ∧ V1 p.2 q.2) : ∀ {kvs : List (D × D)} {ks : List (κ × V)} {d : D}, Paired R kvs ks → getD f kvs = some d → ∃ v, valV ks k = some v ∧ V1 d v
  | [], _, d, .nil, h => by cases h
  | p :: kvs, q :: ks, d, .cons r t, h => by
    obtain ⟨h1, h2⟩ := hR p q r
    unfold getD at h
    rw [List.find?_cons, h1] at h
    by_cases z : q.1 = k
    · rw [decide_eq_true z] at h
      cases h
      exact ⟨q.2, valV_pos z, h2⟩
    · rw [decide_eq_false z] at h
      obtain ⟨v, e1, e2⟩ := getD_ok hR t (d := d) h
      exact ⟨v, (valV_neg z).trans e1, e2⟩
theorem any_ok (hR : ∀ p q, R p q → f p = decide (q.1 = k)) : ∀ {kvs : List (D × D)} {ks : List (κ × V)}, Paired R kvs ks → kvs.any f = ks.any fun kv => decide (kv.1 = k)
  | [], _, .nil => rfl
  | p :: kvs, q :: ks, .cons r t => by rw [List.any_cons, List.any_cons, hR p q r, any_ok hR t]
theorem map_ok (hR : ∀ p q, R p q → f p = decide (q.1 = k)) {d : D} {v : V} (hv : ∀ p q, R p q → q.1 = k → R (p.1, d) (q.1, v)) : ∀ {kvs : List (D × D)} {ks : List (κ × V)}, Paired R kvs ks →
    Paired R (kvs.map fun p => if f p = true then (p.1, d) else p) (ks.map fun kv => if kv.1 = k then (kv.1, v) else kv)
  | [], _, .nil => .nil
  | p :: kvs, q :: ks, .cons r t => by
    rw [List.map_cons, List.map_cons]
    refine .cons ?_ (map_ok hR hv t)
    rw [hR p q r]
    by_cases z : q.1 = k
    · rw [if_pos (decide_eq_true z), if_pos z]
      exact hv p q r z
    · rw [if_neg (by simpa using z), if_neg z]
      exact r
theorem snoc_ok {p : D × D} {q : κ × V} (h : R p q) : ∀ {kvs : List (D × D)} {ks : List (κ × V)}, Paired R kvs ks → Paired R (kvs ++ [p]) (ks ++ [q])
  | _, _, .nil => .cons h .nil
  | _, _, .cons r t => .cons r (snoc_ok h t)
theorem paired_len {kvs : List (D × D)} {ks : List (κ × V)} (h : Paired R kvs ks) : kvs.length = ks.length := by
  induction h with
  | nil => rfl
  | cons _ _ ih => rw [List.length_cons, List.length_cons, ih]
theorem putD_ok (hR : ∀ p q, R p q → f p = decide (q.1 = k)) {dk d : D} {v : V} (hv : ∀ p q, R p q → q.1 = k → R (p.1, d) (q.1, v)) (hn : R (dk, d) (k, v)) {kvs : List (D × D)} {ks : List (κ × V)} (h : Paired R kvs ks) :
    Paired R (putD f kvs dk d) (L2.putK ks k v) := by
  unfold putD L2.putK
  rw [any_ok hR h]
  split
  · exact map_ok hR hv h
  · exact snoc_ok hn h
end
abbrev RdK (G : Gx) (z : List Addr) (W : Wd) : D × D → Key × V → Prop := fun p q => Rp G (W.F z) W.m p.1 (kV q.1) ∧ Rp G (W.F z) W.m p.2 q.2
abbrev RdT (G : Gx) (z : List Addr) (W : Wd) : D × D → List Key × V → Prop := fun p q => (∃ ds, p.1 = .tup ds ∧ Rps G (W.F z) W.m ds (q.1.map kV)) ∧ Rp G (W.F z) W.m p.2 q.2
section
variable {G : Gx} {z : List Addr} {W : Wd} {P : D → Wd → Prop} {Ex : Nat → List D → Wd → Prop}
theorem dget_ok {o k : D} {vo vk : V} (kk : Mok G z W) (ro : RpW G z W o vo) (rk : RpW G z W k vk) (h : Wp G z W (dgetop o k) P Ex) : ∃ (a : Addr) (v : V) (d : D), vo = .ref a ∧ RpW G z W d v ∧ P d W ∧
    ((∀ ds, k ≠ .tup ds) → DGet W.H a vk (some v)) ∧ (∀ ds vs, k = .tup ds → RpsW G z W ds vs → ∀ p H', H' p = some (.tup vs) → (∀ b u, W.H b = some u → H' b = some u) → DGet H' a (.ref p) (some v)) := by
  cases o with
  | ref n =>
    obtain ⟨a, rfl, hm⟩ := ro.inv_ref
    have h' : (dgetop (.ref n) k W.μ).good _ := h
    cases e : W.μ[n]? with
    | none => simp only [dgetop, e] at h'; exact (show False from h').elim
    | some ob =>
      simp only [dgetop, e] at h'
      cases ob with
      | dT kvs =>
        cases k with
        | tup ds =>
          have h2 : Wp G z W (M.opt (getTo kvs ds)) P Ex := h'
          obtain ⟨d, e1, hP0⟩ := h2.opt kk
          unfold getTo at e1
          cases e2 : keysOf ds with
          | none => rw [e2] at e1; cases e1
          | some ks =>
            rw [e2] at e1
            obtain ⟨qs, hH, hP⟩ := kk.ob n a _ hm e
            obtain ⟨v, g1, g2⟩ := getD_ok (f := hasT ks) (k := ks) (R := RdT G z W) (V1 := fun d v => Rp G (W.F z) W.m d v) (fun p q r => ⟨hasT_of r.1, r.2⟩) hP e1
            refine ⟨a, v, d, rfl, g2, hP0, fun q => absurd rfl (q ds), fun ds' vs eq rv p H' hp st => ?_⟩
            cases eq
            rw [keysV_of rv e2] at hp
            rw [← g1]
            exact DGet.t (st _ _ hH) hp
        | _ => exact (show False from h').elim
      | dK kvs =>
        have h2 : Wp G z W (M.opt (getKo kvs k)) P Ex := h'
        obtain ⟨d, e1, hP0⟩ := h2.opt kk
        unfold getKo at e1
        cases e2 : keyOf k with
        | none => rw [e2] at e1; cases e1
        | some ks =>
          rw [e2] at e1
          obtain ⟨qs, hH, hP⟩ := kk.ob n a _ hm e
          obtain ⟨v, g1, g2⟩ := getD_ok (f := hasK ks) (k := ks) (R := RdK G z W) (V1 := fun d v => Rp G (W.F z) W.m d v) (fun p q r => ⟨hasK_of r.1, r.2⟩) hP e1
          refine ⟨a, v, d, rfl, g2, hP0, fun q => ?_, fun ds vs eq => ?_⟩
          · rw [keyV_of rk e2, ← g1]
            exact DGet.k hH
          · rw [eq] at e2
            cases e2
      | _ => exact (show False from h').elim
  | _ => exact (show False from h).elim
theorem setOb_ok {n : Nat} {o : Option Ob} {P : Unit → Wd → Prop} (h : Wp G z W (setOb n o) P Ex) : ∃ ob, o = some ob ∧ ∀ W' : Wd, W'.μ = W.μ.set n ob → Mok G z W' → Le z W W' → P () W' := by
  cases o with
  | none => exact h.bad.elim
  | some ob => exact ⟨ob, rfl, h⟩
theorem dput_ok {o k x : D} {vo vk vx : V} {P : Unit → Wd → Prop} (kk : Mok G z W) (ro : RpW G z W o vo) (rk : RpW G z W k vk) (rx : RpW G z W x vx) (h : Wp G z W (storeD o k x) P Ex) : ∃ (a : Addr) (W' : Wd), vo = .ref a ∧ Mok G z W' ∧ Le z W W' ∧ P () W' ∧
    ((∀ ds, k ≠ .tup ds) → DPut W.H a vk vx W'.H) ∧ (∀ ds, k = .tup ds → ∃ b, vk = .ref b ∧ ∀ vs, RpsW G z W ds vs → W.H b = some (.tup vs) → DPut W.H a vk vx W'.H) := by
  cases o with
  | ref n =>
    obtain ⟨a, rfl, hm⟩ := ro.inv_ref
    have h' : (storeD (.ref n) k x W.μ).good _ := h
    cases e : W.μ[n]? with
    | none => simp only [storeD, e] at h'; exact (show False from h').elim
    | some ob =>
      simp only [storeD, e] at h'
      have ln : (∀ d, ob ≠ .fro d) → live W.μ n := fun hf => by
        unfold live
        rw [e]
        cases ob with
        | fro d => exact absurd rfl (hf d)
        | _ => trivial
      cases ob with
      | dT kvs =>
        cases k with
        | tup ds =>
          have h2 : Wp G z W (setOb n (putTo kvs ds x)) P Ex := h'
          obtain ⟨ob, e1, hP0⟩ := setOb_ok h2
          unfold putTo at e1
          cases e2 : keysOf ds with
          | none => rw [e2] at e1; cases e1
          | some ks =>
            rw [e2] at e1
            have e1 : (if kvs.length < sizeLine then some (Ob.dT (putD (hasT ks) kvs (.tup ds) x)) else none) = some ob := e1
            split at e1
            · rename_i hl
              cases e1
              obtain ⟨qs, hH, hP⟩ := kk.ob n a _ hm e
              cases rk with
              | @tup b vs ds' hb rv =>
                have ev := keysV_of rv e2
                have hP2 := putD_ok (f := hasT ks) (k := ks) (R := RdT G z W) (dk := .tup ds) (d := x) (v := vx) (fun p q r => hasT_of r.1) (fun p q r _ => ⟨r.1, rx⟩) ⟨⟨ds, rfl, ev ▸ rv⟩, rx⟩ hP
                obtain ⟨k2, l2⟩ := kk.write (ob := .dT (putD (hasT ks) kvs (.tup ds) x)) (o := .dT (L2.putK qs ks vx)) (ln fun _ q => nomatch q) hm (fun _ q => nomatch q) ⟨_, upd_same, hP2⟩
                refine ⟨a, _, rfl, k2, l2, hP0 _ rfl k2 l2, fun q => absurd rfl (q ds), fun ds' eq => ?_⟩
                cases eq
                refine ⟨b, rfl, fun vs2 rv2 hp => ?_⟩
                rw [keysV_of rv2 e2] at hp
                exact DPut.t hH hp (by rw [← paired_len hP]; exact hl)
            · cases e1
        | _ => exact (show False from h').elim
      | dK kvs =>
        have h2 : Wp G z W (setOb n (putKo kvs k x)) P Ex := h'
        obtain ⟨ob, e1, hP0⟩ := setOb_ok h2
        unfold putKo at e1
        cases e2 : keyOf k with
        | none => rw [e2] at e1; cases e1
        | some ks =>
          rw [e2] at e1
          have e1 : (if kvs.length < sizeLine then some (Ob.dK (putD (hasK ks) kvs k x)) else none) = some ob := e1
          split at e1
          · rename_i hl
            cases e1
            obtain ⟨qs, hH, hP⟩ := kk.ob n a _ hm e
            have ev := keyV_of rk e2
            have hP2 := putD_ok (f := hasK ks) (k := ks) (R := RdK G z W) (dk := k) (d := x) (v := vx) (fun p q r => hasK_of r.1) (fun p q r _ => ⟨r.1, rx⟩) ⟨ev ▸ rk, rx⟩ hP
            obtain ⟨k2, l2⟩ := kk.write (ob := .dK (putD (hasK ks) kvs k x)) (o := .dK (L2.putK qs ks vx)) (ln fun _ q => nomatch q) hm (fun _ q => nomatch q) ⟨_, upd_same, hP2⟩
            refine ⟨a, _, rfl, k2, l2, hP0 _ rfl k2 l2, fun q => ?_, fun ds eq => ?_⟩
            · rw [ev]
              exact DPut.k hH (by rw [← paired_len hP]; exact hl)
            · rw [eq] at e2
              cases e2
          · cases e1
      | _ => exact (show False from h').elim
  | _ => exact (show False from h).elim
/-- o.append(x) -/
theorem app_ok1 {o x : D} {vo vx : V} {P : Unit → Wd → Prop} (kk : Mok G z W) (ro : RpW G z W o vo) (rx : RpW G z W x vx) (h : Wp G z W (appL o x) P Ex) : ∃ (a : Addr) (vs : List V) (W' : Wd), vo = .ref a ∧ W.H a = some (.lst vs) ∧ vs.length < sizeLine ∧ W'.H = upd W.H a (.lst (vs ++ [vx])) ∧ Mok G z W' ∧ Le z W W' ∧ P () W' := by
  cases o with
  | ref n =>
    obtain ⟨a, rfl, hm⟩ := ro.inv_ref
    have h' : (appL (.ref n) x W.μ).good _ := h
    cases e : W.μ[n]? with
    | none => simp only [appL, e] at h'; exact (show False from h').elim
    | some ob =>
      simp only [appL, e] at h'
      cases ob with
      | lst xs =>
        simp only at h'
        split at h'
        · rename_i hl
          obtain ⟨vs, hH, rv⟩ := kk.ob n a _ hm e
          obtain ⟨k2, l2⟩ := kk.write (ob := .lst (xs ++ [x])) (o := .lst (vs ++ [vx])) (by unfold live; rw [e]; trivial) hm (fun _ q => nomatch q) ⟨_, upd_same, rv.append (.cons rx .nil)⟩
          exact ⟨a, vs, _, rfl, hH, by rw [← rv.len]; exact hl, rfl, k2, l2, h' _ rfl k2 l2⟩
        · exact (show False from h').elim
      | _ => exact (show False from h').elim
  | _ => exact (show False from h).elim
end
end DL
/-! DL9: SOUND: a checked expression does what the interpreter says -/
namespace DL
open PySem PyProof.Rows L2 PySem.Spec

theorem Rps.rev {G : Gx} {F : Hp} {m : List Addr} : ∀ {ds : List D} {vs : List V}, Rps G F m ds vs → Rps G F m ds.reverse vs.reverse
  | _, _, .nil => .nil
  | _, _, .cons h t => by
    rw [List.reverse_cons, List.reverse_cons]
    exact t.rev.append (.cons h .nil)
structure Snd (G : Gx) (C : Nat → List D → M D) (Kc : Nat → D) (e : Ez) : Prop where
  E : ∀ {Γ X Wx}, Good G C Kc Γ X Wx → ∀ x, (ck e).e Γ x = true → PE X x (tD G Wx (ev C Kc e).e)
  T : ∀ {Γ X Wx}, Good G C Kc Γ X Wx → ∀ x, (ck e).t Γ x = true → PT X x (tT G Wx (ev C Kc e).t)
  Es : ∀ {Γ X Wx}, Good G C Kc Γ X Wx → ∀ xs, (ck e).es Γ xs = true → PA X xs (tA G Wx (ev C Kc e).es)
  I : ∀ {Γ X Wx}, Good G C Kc Γ X Wx → ∀ tg x, (ck e).i Γ (isTup tg) x = true → (Γ.hot = false → PI X tg x (tI G Wx (ev C Kc e).i)) ∧ (Γ.hot = true → L2H.PIH X tg x (tI G Wx (ev C Kc e).i))
  P : ∀ {Γ X Wx}, Good G C Kc Γ X Wx → ∀ o, (ck e).p Γ o = true → PO X o (tO G Wx (ev C Kc e).p)
  B : ∀ {Γ X Wx}, Good G C Kc Γ X Wx → ∀ o xs pos, (ck e).b Γ o xs = true → PE X (.BoolOp o xs pos) (tD G Wx ((ev C Kc e).b o))
  BT : ∀ {Γ X Wx}, Good G C Kc Γ X Wx → ∀ o xs pos, (ck e).bt Γ o xs = true → PW X (.BoolOp o xs pos) (tT G Wx ((ev C Kc e).bt o))
  L : ∀ {Γ X Wx}, Good G C Kc Γ X Wx → ∀ x, (ck e).l Γ x = true → PE X x (tL G Wx (ev C Kc e).l)

section
variable {G : Gx} {C : Nat → List D → M D} {Kc : Nat → D} {Γ : Cxt} {X : Cx} {Wx : WX} {f : Env → M D} {x : Expr}
theorem t_ofE (g : Good G C Kc Γ X Wx) (h : PE X x (tD G Wx f)) (hp : plainTest x = true) : PT X x (tT G Wx fun ρ => (f ρ).bind truth) := by
  refine impPT (pt_truth h (plain_of hp)) fun σ H Q h => un1 h fun z ρ W d v k r rv h => ?_
  rw [g.K]
  exact truth_ok k rv h
theorem impPIH {g e : Expr} {t t' : TI} (h : L2H.PIH X g e t) (hi : ∀ σ H Q, t' σ H Q → t σ H Q) : L2H.PIH X g e t' := ⟨fun pins s σ H Q I q => h.run pins s σ H Q I (hi σ H Q q)⟩
theorem i_ofE (g : Good G C Kc Γ X Wx) {tg : Expr} (h : PE X x (tD G Wx f)) : (Γ.hot = false → PI X tg x (tI G Wx fun ρ => (f ρ).bind still)) ∧ (Γ.hot = true → L2H.PIH X tg x (tI G Wx fun ρ => (f ρ).bind still)) := by
  have key : ∀ σ H Q, tI G Wx (fun ρ => (f ρ).bind still) σ H Q → iSeq X.K (tD G Wx f) σ H Q := fun σ H Q h => un1 h fun z ρ W d v k r rv h => by
    rw [g.K]
    cases d with
    | lst xs =>
      cases rv with
      | @lst a vs ds h1 h2 => exact ⟨a, rfl, .inl ⟨⟨vs, SqL.of (F_sub h1)⟩, h.pure0 k _ (it_list h1 h2)⟩⟩
    | tup xs =>
      cases rv with
      | @tup a vs ds h1 h2 => exact ⟨a, rfl, .inr ⟨⟨vs, sqT_of h1⟩, h.pure0 k _ (it_tup h1 h2)⟩⟩
    | _ => exact (show False from h).elim
  exact ⟨fun _ => impPI (pi_seq h) key, fun _ => impPIH (L2H.pi_seqH h) key⟩
theorem p_ofE (g : Good G C Kc Γ X Wx) (h : PE X x (tD G Wx f)) : PO X (some x) (tO G Wx fun ρ => (f ρ).bind asInt) := by
  refine impPO (po_some h) fun σ H Q h => un1 h fun z ρ W d v k r rv h => ?_
  cases d with
  | int i =>
    cases rv
    exact ⟨i, rfl, h.pure0 k⟩
  | _ => exact (show False from h).elim
end
section
variable {G : Gx} {C : Nat → List D → M D} {Kc : Nat → D} {e : Ez}
theorem Snd.ofE {f : Env → M D} {c : Cxt → Expr → Bool} (h1 : ck e = Ck.ofE c) (h2 : ev C Kc e = Fn.ofE f) (h : ∀ {Γ X Wx}, Good G C Kc Γ X Wx → ∀ x, c Γ x = true → PE X x (tD G Wx f)) : Snd G C Kc e := by
  refine ⟨?_, ?_, ?_, ?_, ?_, ?_, ?_, ?_⟩
  all_goals rw [h1, h2]
  · exact fun g x hx => h g x hx
  · intro Γ X Wx g x hx
    obtain ⟨q1, q2⟩ := (Bool.and_eq_true_iff.mp (show (c Γ x && plainTest x) = true from hx))
    exact t_ofE g (h g x q1) q2
  · exact fun g x hx => nomatch (show false = true from hx)
  · intro Γ X Wx g tg x hx
    obtain ⟨q1, q2⟩ := (Bool.and_eq_true_iff.mp (show (c Γ x && notSet x) = true from hx))
    exact i_ofE g (h g x q1)
  · intro Γ X Wx g o hx
    cases o with
    | none => exact nomatch (show false = true from hx)
    | some x => exact p_ofE g (h g x hx)
  · exact fun g o x p hx => nomatch (show false = true from hx)
  · exact fun g o x p hx => nomatch (show false = true from hx)
  · exact fun g x hx => nomatch (show false = true from hx)
/-- as Snd.ofE, with a test of its own -/
theorem Snd.ofET {f : Env → M D} {c : Cxt → Expr → Bool} {ft : Env → M Bool} {ct : Cxt → Expr → Bool} (h1 : ck e = { Ck.ofE c with t := ct }) (h2 : ev C Kc e = { Fn.ofE f with t := ft }) (h : ∀ {Γ X Wx}, Good G C Kc Γ X Wx → ∀ x, c Γ x = true → PE X x (tD G Wx f))
    (ht : ∀ {Γ X Wx}, Good G C Kc Γ X Wx → ∀ x, ct Γ x = true → PT X x (tT G Wx ft)) : Snd G C Kc e := by
  refine ⟨?_, ?_, ?_, ?_, ?_, ?_, ?_, ?_⟩
  all_goals rw [h1, h2]
  · exact fun g x hx => h g x hx
  · exact fun g x hx => ht g x hx
  · exact fun g x hx => nomatch (show false = true from hx)
  · intro Γ X Wx g tg x hx
    obtain ⟨q1, q2⟩ := (Bool.and_eq_true_iff.mp (show (c Γ x && notSet x) = true from hx))
    exact i_ofE g (h g x q1)
  · intro Γ X Wx g o hx
    cases o with
    | none => exact nomatch (show false = true from hx)
    | some x => exact p_ofE g (h g x hx)
  · exact fun g o x p hx => nomatch (show false = true from hx)
  · exact fun g o x p hx => nomatch (show false = true from hx)
  · exact fun g x hx => nomatch (show false = true from hx)
/-- as Snd.ofE, with a new list -/
theorem Snd.ofEL {f : Env → M D} {c : Cxt → Expr → Bool} {fl : Env → M (List D)} {cl : Cxt → Expr → Bool} (h1 : ck e = { Ck.ofE c with l := cl }) (h2 : ev C Kc e = { Fn.ofE f with l := fl }) (h : ∀ {Γ X Wx}, Good G C Kc Γ X Wx → ∀ x, c Γ x = true → PE X x (tD G Wx f))
    (ht : ∀ {Γ X Wx}, Good G C Kc Γ X Wx → ∀ x, cl Γ x = true → PE X x (tL G Wx fl)) : Snd G C Kc e := by
  refine ⟨?_, ?_, ?_, ?_, ?_, ?_, ?_, ?_⟩
  all_goals rw [h1, h2]
  · exact fun g x hx => h g x hx
  · intro Γ X Wx g x hx
    obtain ⟨q1, q2⟩ := (Bool.and_eq_true_iff.mp (show (c Γ x && plainTest x) = true from hx))
    exact t_ofE g (h g x q1) q2
  · exact fun g x hx => nomatch (show false = true from hx)
  · intro Γ X Wx g tg x hx
    obtain ⟨q1, q2⟩ := (Bool.and_eq_true_iff.mp (show (c Γ x && notSet x) = true from hx))
    exact i_ofE g (h g x q1)
  · intro Γ X Wx g o hx
    cases o with
    | none => exact nomatch (show false = true from hx)
    | some x => exact p_ofE g (h g x hx)
  · exact fun g o x p hx => nomatch (show false = true from hx)
  · exact fun g o x p hx => nomatch (show false = true from hx)
  · exact fun g x hx => ht g x hx
theorem Snd.ofLL {fl : Env → M (List D)} {cl : Cxt → Expr → Bool} (h1 : ck e = { Ck.ofE cl with l := cl }) (h2 : ev C Kc e = Fn.ofL fl)
    (ht : ∀ {Γ X Wx}, Good G C Kc Γ X Wx → ∀ x, cl Γ x = true → PE X x (tL G Wx fl)) : Snd G C Kc e :=
  Snd.ofEL (f := fun ρ => (fl ρ).bind fun xs => M.pure (.lst xs)) h1 h2 (fun g x hx => impPE (ht g x hx) fun σ H Q q => tD_of_tL q) ht
theorem Snd.ofI {f : Env → M (List D)} {c : Cxt → Bool → Expr → Bool} (h1 : ck e = Ck.ofI c) (h2 : ev C Kc e = Fn.ofI f)
    (h : ∀ {Γ X Wx}, Good G C Kc Γ X Wx → ∀ tg x, c Γ (isTup tg) x = true → (Γ.hot = false → PI X tg x (tI G Wx f)) ∧ (Γ.hot = true → L2H.PIH X tg x (tI G Wx f))) : Snd G C Kc e := by
  refine ⟨?_, ?_, ?_, ?_, ?_, ?_, ?_, ?_⟩
  all_goals rw [h1, h2]
  · exact fun g x hx => nomatch (show false = true from hx)
  · exact fun g x hx => nomatch (show false = true from hx)
  · exact fun g x hx => nomatch (show false = true from hx)
  · exact fun g tg x hx => h g tg x hx
  · intro Γ X Wx g o hx
    cases o <;> exact nomatch (show false = true from hx)
  · exact fun g o x p hx => nomatch (show false = true from hx)
  · exact fun g o x p hx => nomatch (show false = true from hx)
  · exact fun g x hx => nomatch (show false = true from hx)
end
theorem get_ok {G : Gx} {z : List Addr} {W : Wd} {ρ : Env} {σ : L2.St} {i : Nat} {P : D → Wd → Prop} {Ex : Nat → List D → Wd → Prop} (k : Mok G z W) (r : EnvR G z W ρ σ) (h : Wp G z W (get ρ i) P Ex) :
    ∃ d v, σ[i]? = some (some v) ∧ RpW G z W d v ∧ P d W := by
  unfold get at h
  cases e : ρ[i]? with
  | none => rw [e] at h; exact h.bad.elim
  | some o =>
    cases o with
    | none => rw [e] at h; exact h.bad.elim
    | some d =>
      rw [e] at h
      obtain ⟨v, h1, h2⟩ := r.at_ i d e
      exact ⟨d, v, h1, h2, h.pure0 k⟩
theorem res_ok {G : Gx} {z : List Addr} {W : Wd} {d : D} {v : V} {P : D → Wd → Prop} {Ex : Nat → List D → Wd → Prop} (k : Mok G z W) (r : RpW G z W d v) (h : Wp G z W (res d) P Ex) : ∃ d', RpW G z W d' v ∧ P d' W := by
  have stay : Wp G z W (M.pure d) P Ex → ∃ d', RpW G z W d' v ∧ P d' W := fun h => ⟨d, r, h.pure0 k⟩
  cases d with
  | ref n =>
    have h' : (res (.ref n) W.μ).good _ := h
    obtain ⟨a, rfl, hm⟩ := r.inv_ref
    cases e : W.μ[n]? with
    | none => simp only [res, e] at h'; exact stay h'
    | some o =>
      simp only [res, e] at h'
      cases o with
      | fro x => exact ⟨x, k.ob n a _ hm e, h' W rfl k (Le.refl _ _)⟩
      | lst _ => exact stay h'
      | dK _ => exact stay h'
      | dT _ => exact stay h'
      | cup => exact stay h'
  | _ => exact stay h
theorem frz_ok {G : Gx} {z : List Addr} {W : Wd} {d : D} {v : V} {P : D → Wd → Prop} {Ex : Nat → List D → Wd → Prop} (k : Mok G z W) (r : RpW G z W d v) (h : Wp G z W (frz d) P Ex) : ∃ d' W', W'.H = W.H ∧ Mok G z W' ∧ Le z W W' ∧ RpW G z W' d' v ∧ P d' W' := by
  have stay : Wp G z W (M.pure d) P Ex → ∃ d' W', W'.H = W.H ∧ Mok G z W' ∧ Le z W W' ∧ RpW G z W' d' v ∧ P d' W' := fun h => ⟨d, W, rfl, k, Le.refl _ _, r, h.pure0 k⟩
  cases d with
  | ref n =>
    have h' : (frz (.ref n) W.μ).good _ := h
    obtain ⟨a, rfl, hm⟩ := r.inv_ref
    cases e : W.μ[n]? with
    | none => simp only [frz, e] at h'; exact (show False from h').elim
    | some o =>
      simp only [frz, e] at h'
      cases o with
      | fro x => exact ⟨x, W, rfl, k, Le.refl _ _, k.ob n a _ hm e, h' W rfl k (Le.refl _ _)⟩
      | lst xs =>
        obtain ⟨k1, l1, r1⟩ := k.freeze hm e
        exact ⟨_, ⟨W.m, W.μ.set n (.fro (.lst xs)), W.H⟩, rfl, k1, l1, r1, h' ⟨W.m, W.μ.set n (.fro (.lst xs)), W.H⟩ rfl k1 l1⟩
      | dK _ => exact (show False from h').elim
      | dT _ => exact (show False from h').elim
      | cup => exact (show False from h').elim
  | _ => exact stay h
theorem T.good_and {α : Type} {P Q : α → Prop} : ∀ {t : T α}, t.good P → t.good Q → t.good fun a => P a ∧ Q a
  | .ret a, p, q => ⟨p, q⟩
  | .roll n k, p, q => fun r hr => T.good_and (p r hr) (q r hr)
def isBl : R D → Prop
  | .ok d _ => ∃ k, d = .bl k
  | _ => True
theorem bl_bind {α : Type} {m : M α} {f : α → M D} (h : ∀ a μ, (f a μ).good isBl) (μ : Mem) : (M.bind m f μ).good isBl := by
  have key : ∀ t : T (R α), (t.bind (M.andThen f)).good isBl := by
    intro t
    induction t with
    | ret r =>
      cases r with
      | ok a μ' => exact h a μ'
      | exc c xs μ' => exact True.intro
      | bad => exact True.intro
    | roll n k ih => exact fun r hr => ih r
  exact key (m μ)
theorem cmp_bl (c : Cp) (a b : D) (μ : Mem) : (cmpop c a b μ).good isBl := by
  have no : (M.bad (α := D) μ).good isBl := True.intro
  have yes : ∀ (k : Bool) (μ : Mem), (M.pure (.bl k) μ : T (R D)).good isBl := fun k μ => ⟨k, rfl⟩
  cases c with
  | eq =>
    refine bl_bind (fun x μ => bl_bind (fun y μ => ?_) μ) μ
    unfold eqvM
    cases D.eqv x y with
    | some k => exact yes _ _
    | none => exact True.intro
  | ne =>
    refine bl_bind (fun x μ => bl_bind (fun y μ => ?_) μ) μ
    unfold eqvM
    cases D.eqv x y with
    | some k => exact yes _ _
    | none => exact True.intro
  | mem =>
    refine bl_bind (fun xs μ => ?_) μ
    split
    · exact yes _ _
    · exact True.intro
  | nmem =>
    refine bl_bind (fun xs μ => ?_) μ
    split
    · exact yes _ _
    · exact True.intro
  | isN => cases b <;> first | exact yes _ _ | exact no
  | isB => cases a <;> cases b <;> first | exact yes _ _ | exact no
  | notB => cases a <;> cases b <;> first | exact yes _ _ | exact no
  | notN => cases b <;> first | exact yes _ _ | exact no
  | _ => cases a <;> cases b <;> first | exact yes _ _ | exact no
theorem cmp_k {G : Gx} {z : List Addr} {W : Wd} {c : Cp} {a b : D} {P : D → Wd → Prop} {Ex : Nat → List D → Wd → Prop} (h : Wp G z W (cmpop c a b) P Ex) : Wp G z W (cmpop c a b) (fun d W' => (∃ k, d = .bl k) ∧ P d W') Ex := by
  refine T.good_mono (fun r q => ?_) (T.good_and (cmp_bl c a b W.μ) h)
  obtain ⟨q1, q2⟩ := q
  cases r with
  | ok d μ' => exact fun W' e k l => ⟨q1, q2 W' e k l⟩
  | exc c xs μ' => exact q2
  | bad => exact q2
theorem Run.bind {G : Gx} {Wx : WX} {α β : Type} {f : Env → M α} {k : α → M β} {σ : L2.St} {H : Hp} {P : List Addr → β → Wd → Prop} (h : Run G Wx (fun ρ => (f ρ).bind k) σ H P) : Run G Wx f σ H (fun z a W => Wp G z W (k a) (P z) (exW G z Wx σ)) :=
  let ⟨z, ρ, W, e, k, r, h⟩ := h
  ⟨z, ρ, W, e, k, r, h.bind⟩
theorem tri3 {G : Gx} {Wx : WX} {α : Type} {f : Env → M D} {l u : Env → M (Option Int)} {op : D → Option Int → Option Int → M α} {σ : L2.St} {H : Hp} {P : List Addr → α → Wd → Prop} {R : V → Option Int → Option Int → Hp → VK → Prop} {Q : VK}
    (h : Run G Wx (fun ρ => (f ρ).bind fun x => (l ρ).bind fun a => (u ρ).bind fun b => op x a b) σ H P)
    (hr : ∀ z W d v lo hi, Mok G z W → RpW G z W d v → Wp G z W (op d lo hi) (P z) (exW G z Wx σ) → R v lo hi W.H Q) : tSl R (tD G Wx f) (tO G Wx l) (tO G Wx u) σ H Q := by
  refine un1 h fun z ρ W d v k r rv h => ?_
  refine ⟨z, ρ, W, rfl, k, r, h.bind.mono (fun lo W1 k1 l1 h1 => ?_) fun _ _ _ _ _ q => q⟩
  refine ⟨z, ρ, W1, rfl, k1, r.le l1, h1.bind.mono (fun hi W2 k2 l2 h2 => ?_) fun _ _ _ _ _ q => q⟩
  exact hr z W2 d v lo hi k2 ((rv.le l1).le l2) h2
theorem tri2 {G : Gx} {Wx : WX} {α : Type} {f g u : Env → M D} {op : Env → D → D → D → M α} {σ : L2.St} {H : Hp} {P : List Addr → α → Wd → Prop} (h : Run G Wx (fun ρ => (f ρ).bind fun x => (g ρ).bind fun y => (u ρ).bind fun w => op ρ x y w) σ H P) {R : V → V → V → Hp → Prop}
    (hr : ∀ z ρ W d1 d2 d3 v1 v2 v3, Mok G z W → EnvR G z W ρ σ → RpW G z W d1 v1 → RpW G z W d2 v2 → RpW G z W d3 v3 → Wp G z W (op ρ d1 d2 d3) (P z) (exW G z Wx σ) → R v1 v2 v3 W.H) :
    tD G Wx f σ H fun x H1 => tD G Wx g σ H1 fun y H2 => tD G Wx u σ H2 fun w H3 => R x y w H3 :=
  un1 h fun z ρ W d v k r rv h1 => ⟨z, ρ, W, rfl, k, r, h1.bind.mono (fun d2 W2 k2 l2 h2 v2 rv2 => ⟨z, ρ, W2, rfl, k2, r.le l2, h2.bind.mono (fun d3 W3 k3 l3 h3 v3 rv3 => hr z ρ W3 d d2 d3 v v2 v3 k3 ((r.le l2).le l3) ((rv.le l2).le l3) (rv2.le l3) rv3 h3) fun _ _ _ _ _ q => q⟩) fun _ _ _ _ _ q => q⟩
theorem rgC_of {i j c : Int} (hb : (-lim ≤ i ∧ i < lim) ∧ (-lim ≤ j ∧ j < lim)) (h : rng3ok i j c = true) : RgC i j c (rngN i j c) := by
  unfold rngN
  by_cases q : c = -1
  · rw [if_pos q, q]
    exact RgC.neg hb.1.1 hb.1.2 hb.2.1 hb.2.2
  · rw [if_neg q]
    unfold rng3ok at h
    rw [decide_eq_false q, Bool.false_or] at h
    simp only [Bool.and_eq_true, decide_eq_true_eq] at h
    exact ⟨h.1.1.1, h.1.1.2, h.1.2, (Int.toNat_of_nonneg h.2).symm⟩
theorem it_rngC {G : Gx} {F : Hp} {m : List Addr} {lo c : Int} {n : Nat} : ItR G F m (Itc lo c n) ((List.range n).map fun (i : Nat) => D.int (lo + (i : Int) * c)) := by
  intro z W k e hm
  refine ⟨fun i d hd => ?_, fun i hi => by
    show n ≤ i
    simpa using hi⟩
  rw [List.getElem?_map] at hd
  have hi : i < n := by
    by_cases q : i < n
    · exact q
    · rw [List.getElem?_eq_none (by simpa using q)] at hd
      cases hd
  rw [List.getElem?_range hi] at hd
  cases hd
  refine ⟨hi, fun x H' hy => ?_⟩
  obtain ⟨e1, e2⟩ := hy
  exact ⟨W, e1.symm, rfl, k, Le.refl _ _, by rw [e2]; exact .int _⟩
theorem index_of {G : Gx} {z : List Addr} {W : Wd} {a : D} {v : V} (ra : RpW G z W a v) (ha : a.flat = true) : ∀ {ds : List D} {vs : List V} {j : Nat}, RpsW G z W ds vs → ds.all D.flat = true → (ds.findIdx? fun y => D.eqF y a) = some j →
    ∃ w', vs[j]? = some w' ∧ eqV w' v = true ∧ ∀ (m : Nat) (z' : V), m < j → vs[m]? = some z' → eqV z' v = false
  | [], _, j, .nil, _, h => by cases h
  | d :: ds, _, j, .cons (v := u) (vs := us) hd ht, e, h => by
    simp only [List.all_cons, Bool.and_eq_true] at e
    have eu : eqV u v = D.eqF d a := eqF_of hd ra e.1 ha
    rw [List.findIdx?_cons] at h
    cases q : D.eqF d a with
    | true =>
      rw [q, if_pos rfl] at h
      cases h
      exact ⟨u, rfl, eu.trans q, fun m z' hm => absurd hm (Nat.not_lt_zero _)⟩
    | false =>
      rw [q, if_neg Bool.false_ne_true] at h
      cases qq : (ds.findIdx? fun y => D.eqF y a) with
      | none => rw [qq] at h; cases h
      | some i =>
        rw [qq] at h
        cases h
        obtain ⟨w', h1, h2, h3⟩ := index_of ra ha ht e.2 qq
        refine ⟨w', h1, h2, fun m z' hm hz => ?_⟩
        cases m with
        | zero =>
          cases hz
          exact eu.trans q
        | succ m => exact h3 m z' (Nat.lt_of_succ_lt_succ hm) hz
theorem tL_of_mkl {G : Gx} {Wx : WX} {σ : L2.St} {H : Hp} {Q : VK} {f : Env → M (List D)} (h : tD G Wx (fun ρ => (f ρ).bind fun xs => alloc (.lst xs)) σ H Q) : tL G Wx f σ H Q := by
  obtain ⟨z, ρ, W, e, k, rr, h⟩ := h
  refine ⟨z, ρ, W, e, k, rr, h.bind.mono (fun ds W1 k1 l1 h1 vs rv p hp => ?_) fun _ _ _ _ _ q => q⟩
  obtain ⟨k2, l2, m2⟩ := k1.newRef (o := .lst vs) (ob := .lst ds) hp (fun _ q => nomatch q) fun F e => ⟨vs, upd_same, rv.mono e fun i a q => by
    have hi : i < W1.m.length := (List.getElem?_eq_some_iff.mp q).1
    rw [List.getElem?_append_left hi]
    exact q⟩
  exact h1 ⟨W1.m ++ [p], W1.μ ++ [.lst ds], upd W1.H p (.lst vs)⟩ rfl k2 l2 (.ref p) (.ref m2)
theorem pe_callS0 {X : Cx} {CX : CXT} {k : Nat} {f : Addr} {fd : FuncData} {ps : List Str} {sp : Sp} {E : L2.St → XK} {x : Str} {p pos : Pos} (F : FnOk X.prog X.w X.K X.mg X.base CX k f fd ps sp) (hr : Room k X.A) (hg : Gl X x)
    (hm : X.mg x = some (.ref f)) (hk : PySem.W.keepIn X.K (.ref f) = true) (hb : Binds X.K fd ps []) (hx : ∀ σ, PassesAt CX X σ (E σ)) (hdb : (x == ("__debug__" : Str)) = false) : PE X (.Call (.Name x p) [] [] pos) (fun σ H Q => sp [] H Q (E σ)) := by
  constructor
  intro pins s σ H Q I h
  exact wpAny_Call_Name_kw (ld_glob I hg hm (PySem.W.callWith_K0 I.kIn hk (run_fnS (us := []) F hr hb (hx σ) I .nil h)) hdb)
theorem nil_es {es : Ez} {Γ : Cxt} {C : Nat → List D → M D} {Kc : Nat → D} (h : (ck es).es Γ [] = true) : (ev C Kc es).es = fun _ => M.pure [] := by
  cases es with
  | nil => rfl
  | _ => exact absurd h (by simp [ck, Ck.ofE, Ck.ofI])
theorem takesN0 {X : Cx} : L2N.Takes X W0 := fun u s' x => by
  obtain ⟨_, _, _, _, _, _, _, _, _, _, _, _, _, _, _, _, z⟩ := x
  exact z.elim
theorem Good.blk {G : Gx} {C : Nat → List D → M D} {Kc : Nat → D} {Γ : Cxt} {X : Cx} {Wx : WX} (g : Good G C Kc Γ X Wx) (eh : Γ.hot = false) (st : Shared) (H : Hp) (s : Scope) (Cc : Addr) (cl : List (Str × Addr)) (fp : List Addr) :
    Good G C Kc { Γ with sc := relS s Γ.sc, own := some s } (X.blk st H s (compEnvC s cl Cc X.env) fp) W0 where
  K := g.K
  N := g.N
  nd := g.nd
  sc := by
    show relabel s X.env = relS s Γ.sc
    rw [← g.sc]
    rfl
  calm := g.calm
  hotc := fun e => by
    have e : Γ.hot = true := e
    rw [eh] at e
    cases e
  fn := rfl
  tk := takesN0
  room := g.room
  bi := g.bi
  con := g.con
  gcd := g.gcd
  fns := g.fns
  arity := g.arity
  nf := g.nf
  fnr := g.fnr
  calls := g.calls
  lamc := g.lamc
  errs := g.errs
  exk := g.exk
  exr := g.exr
  hx := fun e => by
    have e : Γ.hot = true := e
    rw [eh] at e
    cases e
theorem Good.blkH {G : Gx} {C : Nat → List D → M D} {Kc : Nat → D} {Γ : Cxt} {X : Cx} {Wx : WX} (g : Good G C Kc Γ X Wx) (st : Shared) (H : Hp) (s : Scope) (Cc : Addr) (cl : List (Str × Addr)) (fp : List Addr) :
    Good G C Kc { Γ with sc := relS s Γ.sc, own := some s } (L2H.blkH X st H s (compEnvC s cl Cc X.env) fp) W0 where
  K := g.K
  N := g.N
  nd := g.nd
  sc := by
    show relabel s X.env = relS s Γ.sc
    rw [← g.sc]
    rfl
  calm := g.calm
  hotc := fun e => L2H.hot_blk (g.hotc e)
  fn := rfl
  tk := takesN0
  room := g.room
  bi := g.bi
  con := g.con
  gcd := g.gcd
  fns := g.fns
  arity := g.arity
  nf := g.nf
  fnr := g.fnr
  calls := g.calls
  lamc := g.lamc
  errs := g.errs
  exk := g.exk
  exr := g.exr
  hx := fun _ e => nomatch (show some s = none from e)
theorem Good.lamN {G : Gx} {C : Nat → List D → M D} {Kc : Nat → D} {Γ : Cxt} {X : Cx} {Wx : WX} (g : Good G C Kc Γ X Wx) (eh : Γ.hot = false) {j : Nat} (cs : ∀ k x n, Γ.fns[k]? = some (x, n) → ∃ fd ps, Binds X.K fd ps [] ∧ FnOk X.prog X.w X.K X.mg X.base (L2N.CX X.prog X.w) j (G.fa k) fd ps (spD G n (C k)))
    {scope : Scope} (L : LamX.LamS X.env.scope scope) (A : Around) (outer : List PySem.Env) (s : Shared) (H : Hp) (E : XK) (f c' : Addr) (hr : Room j (A.deeper (LamX.lamEnv X scope s.heap.objs.size f c'))) :
    Good G C Kc { Γ with sc := scope, own := some scope, lam := false, ers := [] } (LX.lamN X A outer s H E scope f c') (fun cls d _ H' => E cls d H') where
  K := g.K
  N := g.N
  nd := g.nd
  sc := rfl
  calm := fun _ => rfl
  hotc := fun e => by
    have e : Γ.hot = true := e
    rw [eh] at e
    cases e
  fn := by
    show (fun _ => false) = fun x => scope.names.lookup x == some .cell
    funext x
    cases q : scope.names.lookup x with
    | none => rfl
    | some kd =>
      have := (L.own _ (PySem.mem_of_lookup q)).2
      cases kd with
      | cell => exact absurd rfl this
      | _ => rfl
  tk := LX.lamN_takes
  room := hr.units
  bi := g.bi
  con := g.con
  gcd := g.gcd
  fns := g.fns
  arity := g.arity
  nf := g.nf
  fnr := g.fnr
  calls := fun _ => ⟨j, hr, cs⟩
  lamc := fun e => nomatch (show false = true from e)
  errs := fun k x e => nomatch (show none = some x from e)
  exk := g.exk
  exr := g.exr
  hx := fun e => by
    have e : Γ.hot = true := e
    rw [eh] at e
    cases e
/-- a call of a name of one's own that holds a def -/
theorem pe_callLS {X : Cx} {CX : CXT} {k i : Nat} {E : L2.St → XK} {x : Str} {p pos : Pos} {e : Expr} {es : List Expr} {t : TA} (hr : Room k X.A) (hN : X.N[i]? = some x) (hv : Vis X.env.scope x) (hx : ∀ σ, PassesAt CX X σ (E σ)) (ha : PA X (e :: es) t)
    (hdb : (x == ("__debug__" : Str)) = false) (hcd : (x == ("__classdict__" : Str)) = false) (he : starEach (e :: es) X.env = (false, eval e X.env) :: starEach es X.env) (hpl : (backTo pos (starEach es X.env)).any (·.1) = false) :
    PE X (.Call (.Name x p) (e :: es) [] pos) (fun σ H Q => ∃ f fd ps sp, σ[i]? = some (some (.ref f)) ∧ PySem.W.keepIn X.K (.ref f) = true ∧ Binds X.K fd ps [] ∧ FnOk X.prog X.w X.K X.mg X.base CX k f fd ps sp ∧ t σ H fun vs H1 => sp vs H1 Q (E σ)) := by
  constructor
  rintro pins s σ H Q I ⟨f, fd, ps, sp, hs, hk, hb, F, ht⟩
  refine wpAny_Call_Name_kw (thn ((pe_var (pos := p) hN hv hdb hcd).run pins s σ H (fun v H1 => v = .ref f ∧ H1 = H) I ⟨.ref f, hs, rfl, rfl⟩) ?_)
  rintro u s1 ⟨v, H1, I1, r1, rfl, rfl⟩
  cases r1
  refine PySem.W.callWith_K (h₀ := X.base) I.ok.mod.kin hk (thn (ha.run pos pins s1 σ _ _ I1 ht) ?_) he hpl
  rintro us s2 ⟨vs, H2, I2, r, q⟩
  exact ⟨I2.kIn, run_fnS F hr hb (hx σ) I2 r q⟩
theorem nosl_of {e : Expr} (h : notSlice e = true) : NoSl e := by
  intro o i
  cases e <;> first | rfl | cases h
theorem lens_of {α β : Type} {xs : List α} {ys : List β} (h : xs.length = ys.length) : (xs.zip ys).map (·.2) = ys := by
  rw [← List.unzip_snd, List.unzip_zip h]
theorem and4 {a b : Bool} (h : (a && b) = true) : a = true ∧ b = true := Bool.and_eq_true_iff.mp h

/-- all that the comprehension's rules ask -/
theorem lc_with {G : Gx} {C : Nat → List D → M D} {Kc : Nat → D} {Γ : Cxt} {X : Cx} {Wx : WX} (g : Good G C Kc Γ X Wx) {tg : Tz} {it cond elt : Ez} (sit : Snd G C Kc it) (scond : Snd G C Kc cond) (selt : Snd G C Kc elt) {x : Expr} (hx : (ck (.lc tg it cond elt)).e Γ x = true) {R : Prop} (Y : Shared → Hp → Scope → Addr → List (Str × Addr) → List Addr → Cx) (gb : ∀ st H s Cc cl fp, Good G C Kc { Γ with sc := relS s Γ.sc, own := some s } (Y st H s Cc cl fp) W0)
    (hR : ∀ (y tgx itx : Expr) (ifs : List Expr) (s : Scope) (pos : Pos) (own : List (Str × Nat)), x = .ListComp y [⟨tgx, itx, ifs, 0⟩] s pos → own.map (·.2) = tg.slots → ((Γ.hot = false → PI X tgx itx (tI G Wx (ev C Kc it).i)) ∧ (Γ.hot = true → L2H.PIH X tgx itx (tI G Wx (ev C Kc it).i))) → BlkOk X.N X.env.scope s own →
      (∀ (st : Shared) (H : Hp) (Cc : Addr) (cl : List (Str × Addr)) (fp : List Addr), PG (Y st H s Cc cl fp) tgx (tTg G tg)) →
      (∀ (st : Shared) (H : Hp) (Cc : Addr) (cl : List (Str × Addr)) (fp : List Addr), PTs (Y st H s Cc cl fp) ifs (tT G W0 (ev C Kc cond).t)) →
      (∀ (st : Shared) (H : Hp) (Cc : Addr) (cl : List (Str × Addr)) (fp : List Addr), PE (Y st H s Cc cl fp) y (tD G W0 (ev C Kc elt).e)) → (∀ v, foldedSetIterable itx X.env v = pure v) → R) : R := by
  have hx : ckLc tg (ck it) (ck cond) (ck elt) (isNil cond) Γ x = true := hx
  unfold ckLc at hx
  split at hx
  · rename_i y tgx itx ifs as s pos h0
    obtain ⟨hx, h6⟩ := and4 hx
    obtain ⟨hx, h5⟩ := and4 hx
    obtain ⟨hx, h4⟩ := and4 hx
    obtain ⟨hx, h3⟩ := and4 hx
    obtain ⟨h1, h2⟩ := and4 hx
    obtain ⟨h6, h8⟩ := and4 h6
    obtain ⟨h6, h7⟩ := and4 h6
    cases of_decide_eq_true h1
    refine hR y tgx itx ifs s pos _ rfl (lens_of (of_decide_eq_true h4)) (sit.I g tgx _ h3) (blkOk_by (by rw [g.N, g.sc]; exact h5)) (fun st H Cc cl fp => pg_ok (gb st H s Cc cl fp) tg tgx h6) ?_ (fun st H Cc cl fp => selt.E (gb st H s Cc cl fp) y h8) (set_of h2)
    intro st H Cc cl fp
    split at h7
    · cases cond with
      | nil =>
        refine ⟨fun pins s σ H Q I h => pts_nil.run pins s σ H Q I ?_⟩
        obtain ⟨z, ρ, W, e, k, rr, h⟩ := h
        subst e
        exact h.pure0 k
      | _ => cases h7
    · exact pts_one (scond.T (gb st H s Cc cl fp) _ (and4 h7).2)
    · cases h7
  · cases hx

theorem strs_of {G : Gx} {F : Hp} {m : List Addr} : ∀ {ds : List D} {vs : List V} {ys : List Str}, Rps G F m ds vs → strsOf ds = some ys → vs = ys.map V.str
  | [], _, _, .nil, e => by cases e; rfl
  | d :: ds, _, ys, .cons h t, e => by
    cases d with
    | str i =>
      simp only [strsOf] at e
      cases q : strsOf ds with
      | none => rw [q] at e; cases e
      | some js =>
        rw [q] at e
        cases e
        cases h
        rw [strs_of t q]
        rfl
    | _ => cases e
theorem ints_rep2 {G : Gx} {F : Hp} {m : List Addr} (i : Int) (n : Nat) : Rps G F m ((List.range n).map fun (k : Nat) => D.int (i + (k : Int))) ((List.range n).map fun (k : Nat) => V.int (i + (k : Int))) := by
  induction List.range n with
  | nil => exact .nil
  | cons k ks ih => exact .cons (.int _) ih
theorem nokey {G : Gx} {z : List Addr} {W : Wd} {o : D} {ds : List D} {vo : V} {P : D → Wd → Prop} {Ex : Nat → List D → Wd → Prop} (h : Wp G z W (dgetK o (.tup ds)) P Ex) (k : Mok G z W) (r : RpW G z W o vo) : False := h.bad
theorem snd {G : Gx} {C : Nat → List D → M D} {Kc : Nat → D} (e : Ez) : Snd G C Kc e := by
  induction e with
  | non =>
    refine Snd.ofE rfl rfl fun {Γ X Wx} g x hx => ?_
    split at hx
    · exact impPE pe_non fun σ H Q ⟨z, ρ, W, e, k, r, h⟩ => by subst e; exact h.pure0 k _ .non
    · cases hx
  | bl b =>
    refine Snd.ofE rfl rfl fun {Γ X Wx} g x hx => ?_
    split at hx
    · rw [← beq_iff_eq.mp hx]
      exact impPE pe_bl fun σ H Q ⟨z, ρ, W, e, k, r, h⟩ => by subst e; exact h.pure0 k _ (.bl _)
    · cases hx
  | int i =>
    refine Snd.ofE rfl rfl fun {Γ X Wx} g x hx => ?_
    split at hx
    · rw [← of_decide_eq_true hx]
      exact impPE pe_int fun σ H Q ⟨z, ρ, W, e, k, r, h⟩ => by subst e; exact h.pure0 k _ (.int _)
    · cases hx
  | str s =>
    refine Snd.ofE rfl rfl fun {Γ X Wx} g x hx => ?_
    split at hx
    · rw [← of_decide_eq_true hx]
      exact impPE pe_str fun σ H Q ⟨z, ρ, W, e, k, r, h⟩ => by subst e; exact h.pure0 k _ (.str _)
    · cases hx
  | var i =>
    refine Snd.ofE rfl rfl fun {Γ X Wx} g x hx => ?_
    split at hx
    · obtain ⟨hx, h3⟩ := and4 hx
      obtain ⟨h1, h2⟩ := and4 hx
      refine impPE (pe_var (i := i) (by rw [g.N]; exact of_decide_eq_true h1) (vis_of g.sc h2) (nm_of h3).1 (nm_of h3).2) ?_
      rintro σ H Q ⟨z, ρ, W, rfl, k, r, h⟩
      obtain ⟨d, v, e1, e2, h⟩ := get_ok k r h.bind
      obtain ⟨d', e3, h⟩ := res_ok k e2 h
      exact ⟨v, e1, h v e3⟩
    · cases hx
  | frz i =>
    refine Snd.ofE rfl rfl fun {Γ X Wx} g x hx => ?_
    split at hx
    · obtain ⟨hx, h3⟩ := and4 hx
      obtain ⟨h1, h2⟩ := and4 hx
      refine impPE (pe_var (i := i) (by rw [g.N]; exact of_decide_eq_true h1) (vis_of g.sc h2) (nm_of h3).1 (nm_of h3).2) ?_
      rintro σ H Q ⟨z, ρ, W, rfl, k, r, h⟩
      obtain ⟨d, v, e1, e2, h⟩ := get_ok k r h.bind
      obtain ⟨d', W', e0, k', l', e3, h⟩ := frz_ok k e2 h
      refine ⟨v, e1, ?_⟩
      rw [← e0]
      exact h v e3
    · cases hx
  | gfn kk =>
    refine Snd.ofE rfl rfl fun {Γ X Wx} g x hx => ?_
    split at hx
    · obtain ⟨hx, h3⟩ := and4 hx
      obtain ⟨h1, h2⟩ := and4 hx
      split at h1
      · rename_i y p zz n e1
        cases of_decide_eq_true h1
        exact impPE (pe_glob (v := .ref (G.fa kk)) (gl_of g.sc h2) (g.fns _ _ _ e1).1 rfl (nm_of h3).1) fun σ H Q ⟨z, ρ, W, e, k, r, h⟩ => by subst e; exact h.pure0 k _ (.fn _ (g.nf _ _ _ e1))
      · cases h1
    · cases hx
  | gcon kk =>
    refine Snd.ofE rfl rfl fun {Γ X Wx} g x hx => ?_
    split at hx
    · obtain ⟨hx, h3⟩ := and4 hx
      obtain ⟨h1, h2⟩ := and4 hx
      obtain ⟨v, u, e1, e2, e3⟩ := g.con _ _ (of_decide_eq_true h1)
      exact impPE (pe_glob (v := v) (gl_of g.sc h2) e1 e2 (nm_of h3).1) fun σ H Q ⟨z, ρ, W, e, k, r, h⟩ => by subst e; exact h.pure0 k _ (e3 _ _)
    · cases hx
  | gty n =>
    refine Snd.ofE rfl rfl fun {Γ X Wx} g x hx => ?_
    split at hx
    · obtain ⟨hx, h3⟩ := and4 hx
      obtain ⟨h1, h2⟩ := and4 hx
      obtain ⟨b1, b2, b3, b4⟩ := boot_type h1
      cases of_decide_eq_true h2
      exact impPE (pe_bltn (v := .ty n) (gl_of g.sc h3) (g.bi _ b4) b1 rfl b2 b3) fun σ H Q ⟨z, ρ, W, e, k, r, h⟩ => by subst e; exact h.pure0 k _ (.ty _)
    · cases hx
  | bin o a b iha ihb =>
    have key : ∀ {Γ X Wx}, Good G C Kc Γ X Wx → ∀ x, (match x with
      | .BinOp l op r _ => decide (op = o.op) && (ck a).e Γ l && (ck b).e Γ r
      | _ => false) = true → PE X x (tD G Wx fun ρ => ((ev C Kc a).e ρ).bind fun x => ((ev C Kc b).e ρ).bind fun y => binop o x y) := by
      intro Γ X Wx g x hx
      split at hx
      · obtain ⟨hx, h3⟩ := and4 hx
        obtain ⟨h1, h2⟩ := and4 hx
        cases of_decide_eq_true h1
        obtain ⟨r, h4, h5⟩ := bin_ok (G := G) g.K o
        exact impPE (pe_op h4 (iha.E g _ h2) (ihb.E g _ h3)) fun σ H Q h => bin2 h fun z ρ W d1 d2 v1 v2 k _ r1 r2 h => h5 z W d1 d2 v1 v2 Q _ k r1 r2 h
      · cases hx
    refine Snd.ofEL rfl rfl key fun {Γ X Wx} g x hx => ?_
    obtain ⟨h0, hx⟩ := and4 hx
    dsimp only at hx
    split at hx
    · obtain ⟨hx, h3⟩ := and4 hx
      obtain ⟨h1, h2⟩ := and4 hx
      cases of_decide_eq_true h1
      have h0 : o = .add ∨ o = .mul := by simpa only [Bool.or_eq_true, decide_eq_true_eq] using h0
      obtain ⟨r, h4, h5⟩ := binL_ok (G := G) g.K o h0
      exact impPE (pe_op h4 (iha.E g _ h2) (ihb.E g _ h3)) fun σ H Q h => bin2 h fun z ρ W d1 d2 v1 v2 k _ r1 r2 h => h5 z W d1 d2 v1 v2 Q _ k r1 r2 h
    · cases hx
  | neg a iha =>
    refine Snd.ofE rfl rfl fun {Γ X Wx} g x hx => ?_
    split at hx
    · refine impPE (pe_un un_neg (iha.E g _ hx)) fun σ H Q h => un1 h fun z ρ W d v k r rv h => ?_
      cases d with
      | int i =>
        cases rv
        exact ⟨i, rfl, h.pure0 k _ (.int _)⟩
      | _ => exact (show False from h).elim
    · cases hx
  | cmp c a b iha ihb =>
    refine Snd.ofET rfl rfl (fun {Γ X Wx} g x hx => ?_) fun {Γ X Wx} g x hx => ?_
    · split at hx
      · obtain ⟨hx, h4⟩ := and4 hx
        obtain ⟨hx, h3⟩ := and4 hx
        obtain ⟨h1, h2⟩ := and4 hx
        cases of_decide_eq_true h1
        obtain ⟨r, h5, h6⟩ := cmp_ok (G := G) g.K g.room c
        exact impPE (pe_cmpR h5 (iha.E g _ h3) (ihb.E g _ h4) (mark_of h2)) fun σ H Q h => bin2 h fun z ρ W d1 d2 v1 v2 k _ r1 r2 h => h6 z W d1 d2 v1 v2 Q _ k r1 r2 h
      · cases hx
    · split at hx
      · obtain ⟨hx, h4⟩ := and4 hx
        obtain ⟨hx, h3⟩ := and4 hx
        obtain ⟨h1, h2⟩ := and4 hx
        cases of_decide_eq_true h1
        obtain ⟨r, h5, h6⟩ := cmp_ok (G := G) g.K g.room c
        refine impPT (pt_cmpR h5 (iha.E g _ h3) (ihb.E g _ h4) (mark_of h2)) fun σ H Q h => ?_
        refine bin2 (Run.bind h) fun z ρ W d1 d2 v1 v2 k _ r1 r2 h => h6 z W d1 d2 v1 v2 _ _ k r1 r2 ((cmp_k h).mono (fun d W' k' l' h v rv => ?_) fun _ _ _ _ _ q => q)
        obtain ⟨⟨b, rfl⟩, h⟩ := h
        cases rv
        exact ⟨b, rfl, (show Wp G z W' (M.pure b) _ _ from h).pure0 k'⟩
      · cases hx
  | chain c c' a b d iha ihb ihd =>
    have two : ∀ {Γ X Wx} (g : Good G C Kc Γ X Wx) (r r' : R2) (l m n : Expr) (pos : Pos), (ck a).e Γ l = true → (ck b).e Γ m = true → (ck d).e Γ n = true → ∀ (Q : V → Hp → Prop) (σ : L2.St) (H : Hp),
        (∀ (z : List Addr) (W : Wd) (d1 d2 : D) (v1 v2 : V) (Q : VK) (Ex : Nat → List D → Wd → Prop), Mok G z W → RpW G z W d1 v1 → RpW G z W d2 v2 → Wp G z W (cmpop c d1 d2) (Wt G z Q) Ex → r v1 v2 W.H Q) →
        (∀ (z : List Addr) (W : Wd) (d1 d2 : D) (v1 v2 : V) (Q : VK) (Ex : Nat → List D → Wd → Prop), Mok G z W → RpW G z W d1 v1 → RpW G z W d2 v2 → Wp G z W (cmpop c' d1 d2) (Wt G z Q) Ex → r' v1 v2 W.H Q) →
        Run G Wx (fun ρ => ((ev C Kc a).e ρ).bind fun x => ((ev C Kc b).e ρ).bind fun y => (cmpop c x y).bind (chainop c' y ((ev C Kc d).e ρ))) σ H (fun z d W => (∃ k, d = D.bl k) → ∀ v, RpW G z W d v → Q v W.H) →
        tChain r r' (tD G Wx (ev C Kc a).e) (tD G Wx (ev C Kc b).e) (tD G Wx (ev C Kc d).e) σ H Q := by
      intro Γ X Wx g r r' l m n pos ha hb hd Q σ H hr hr' h
      refine bin2 h fun z ρ W d1 d2 v1 v2 k env r1 r2 h => hr z W d1 d2 v1 v2 _ _ k r1 r2 ((cmp_k h.bind).mono (fun q W1 k1 l1 h1 v rv => ?_) fun _ _ _ _ _ q => q)
      obtain ⟨⟨t, rfl⟩, h1⟩ := h1
      cases rv
      refine ⟨t, rfl, ?_⟩
      cases t with
      | true =>
        rw [if_pos rfl]
        have h1 : Wp G z W1 (((ev C Kc d).e ρ).bind fun z => cmpop c' d2 z) _ _ := h1
        exact ⟨z, ρ, W1, rfl, k1, env.le l1, h1.bind.mono (fun d3 W2 k2 l2 h2 v3 r3 => hr' z W2 d2 d3 v2 v3 _ _ k2 ((r2.le l1).le l2) r3 ((cmp_k h2).mono (fun q W3 k3 l3 h3 v rv => h3.2 h3.1 v rv) fun _ _ _ _ _ q => q)) fun _ _ _ _ _ q => q⟩
      | false =>
        rw [if_neg Bool.false_ne_true]
        have h1 : Wp G z W1 (M.pure (D.bl false)) _ _ := h1
        exact h1.pure0 k1 ⟨_, rfl⟩ _ (.bl _)
    refine Snd.ofET rfl rfl (fun {Γ X Wx} g x hx => ?_) fun {Γ X Wx} g x hx => ?_
    · split at hx
      · obtain ⟨hx, h7⟩ := and4 hx
        obtain ⟨hx, h6⟩ := and4 hx
        obtain ⟨hx, h5⟩ := and4 hx
        obtain ⟨hx, h4⟩ := and4 hx
        obtain ⟨hx, h3⟩ := and4 hx
        obtain ⟨h1, h2⟩ := and4 hx
        cases of_decide_eq_true h1
        cases of_decide_eq_true h2
        obtain ⟨r, q1, q2⟩ := cmp_ok (G := G) g.K g.room c
        obtain ⟨r', q3, q4⟩ := cmp_ok (G := G) g.K g.room c'
        refine impPE (pe_chain q1 q3 (iha.E g _ h5) (ihb.E g _ h6) (ihd.E g _ h7) (show behindInMarks _ _ = false from mark_of h3)) fun σ H Q h => two g r r' _ _ _ ⟨0, 0, 0, 0⟩ h5 h6 h7 Q σ H q2 q4 ?_
        obtain ⟨z, ρ, W, e, k, rr, h⟩ := h
        exact ⟨z, ρ, W, e, k, rr, h.mono (fun d W' k' l' q _ => q) fun _ _ _ _ _ q => q⟩
      · cases hx
    · split at hx
      · obtain ⟨hx, h7⟩ := and4 hx
        obtain ⟨hx, h6⟩ := and4 hx
        obtain ⟨hx, h5⟩ := and4 hx
        obtain ⟨hx, h4⟩ := and4 hx
        obtain ⟨hx, h3⟩ := and4 hx
        obtain ⟨h1, h2⟩ := and4 hx
        cases of_decide_eq_true h1
        cases of_decide_eq_true h2
        obtain ⟨r, q1, q2⟩ := cmp_ok (G := G) g.K g.room c
        obtain ⟨r', q3, q4⟩ := cmp_ok (G := G) g.K g.room c'
        refine impPT (pt_chain q1 q3 (iha.E g _ h5) (ihb.E g _ h6) (ihd.E g _ h7) (show behindInMarks _ _ = false from mark_of h3)) fun σ H Q h => two g r r' _ _ _ ⟨0, 0, 0, 0⟩ h5 h6 h7 _ σ H q2 q4 ?_
        obtain ⟨z, ρ, W, e, k, rr, h⟩ := Run.bind h
        refine ⟨z, ρ, W, e, k, rr, h.mono (fun d W' k' l' q hb v rv => ?_) fun _ _ _ _ _ q => q⟩
        obtain ⟨b, rfl⟩ := hb
        cases rv
        exact ⟨b, rfl, (show Wp G z W' (M.pure b) _ _ from q).pure0 k'⟩
      · cases hx
  | bool o es ih =>
    refine Snd.ofET rfl rfl (fun {Γ X Wx} g x hx => ?_) fun {Γ X Wx} g x hx => ?_
    · split at hx
      · obtain ⟨h1, h2⟩ := and4 hx
        cases of_decide_eq_true h1
        exact ih.B g _ _ _ h2
      · cases hx
    · split at hx
      · obtain ⟨h1, h2⟩ := and4 hx
        cases of_decide_eq_true h1
        exact (ih.BT g _ _ _ h2).pt
      · cases hx
  | not a iha =>
    refine Snd.ofET rfl rfl (fun {Γ X Wx} g x hx => ?_) fun {Γ X Wx} g x hx => ?_
    · split at hx
      · refine impPE (pe_notT (iha.E g _ hx)) fun σ H Q h => un1 h fun z ρ W d v k r rv h => ?_
        obtain ⟨b, h1, h2⟩ := truth_ok k rv h.bind
        rw [g.K]
        exact ⟨b, h1, h2.pure0 k _ (.bl _)⟩
      · cases hx
    · split at hx
      · refine impPT (pt_not (iha.T g _ hx)) fun σ H Q h => ?_
        obtain ⟨z, ρ, W, e, k, rr, h⟩ := Run.bind h
        exact ⟨z, ρ, W, e, k, rr, h.mono (fun d W' k' l' q => q.pure0 k') fun _ _ _ _ _ q => q⟩
      · cases hx
  | ife c a b ihc iha ihb =>
    refine Snd.ofE rfl rfl fun {Γ X Wx} g x hx => ?_
    split at hx
    · obtain ⟨hx, h3⟩ := and4 hx
      obtain ⟨h1, h2⟩ := and4 hx
      refine impPE (pe_ifExp (ihc.T g _ h1) (iha.E g _ h2) (ihb.E g _ h3)) fun σ H Q h => ?_
      obtain ⟨z, ρ, W, e, k, rr, h⟩ := h
      refine ⟨z, ρ, W, e, k, rr, h.bind.mono (fun t W' k' l' q => ?_) fun _ _ _ _ _ q => q⟩
      cases t with
      | true =>
        rw [if_pos rfl]
        rw [if_pos rfl] at q
        exact ⟨z, ρ, W', rfl, k', rr.le l', q⟩
      | false =>
        rw [if_neg Bool.false_ne_true]
        rw [if_neg Bool.false_ne_true] at q
        exact ⟨z, ρ, W', rfl, k', rr.le l', q⟩
    · cases hx
  | tup es ih =>
    refine Snd.ofE rfl rfl fun {Γ X Wx} g x hx => ?_
    split at hx
    · refine impPE (pe_tup (ih.Es g _ hx)) fun σ H Q h => ?_
      obtain ⟨z, ρ, W, e, k, rr, h⟩ := h
      refine ⟨z, ρ, W, e, k, rr, h.bind.mono (fun ds W' k' l' q vs rv => ?_) fun _ _ _ _ _ q => q⟩
      have q := q.bind
      unfold lenOk at q
      rcases q.ite with ⟨q1, q⟩ | ⟨_, q⟩
      · exact ⟨by rw [← rv.len]; exact q1, new_tup k' rv (q.pure0 k')⟩
      · exact q.bad.elim
    · cases hx
  | lst es ih =>
    refine Snd.ofLL rfl rfl fun {Γ X Wx} g x hx => ?_
    split at hx
    · refine impPE (pe_lst (ih.Es g _ hx)) fun σ H Q h => ?_
      obtain ⟨z, ρ, W, e, k, rr, h⟩ := h
      refine ⟨z, ρ, W, e, k, rr, h.bind.mono (fun ds W' k' l' q vs rv => ?_) fun _ _ _ _ _ q => q⟩
      unfold lenOk at q
      rcases q.ite with ⟨q1, q⟩ | ⟨_, q⟩
      · exact ⟨by rw [← rv.len]; exact q1, fun p hp => q.pure0 k' vs rv p hp⟩
      · exact q.bad.elim
    · cases hx
  | idx a i iha ihi =>
    refine Snd.ofE rfl rfl fun {Γ X Wx} g x hx => ?_
    split at hx
    · obtain ⟨hx, h3⟩ := and4 hx
      obtain ⟨h1, h2⟩ := and4 hx
      refine impPE (pe_ix ix_seq (iha.E g _ h2) (ihi.E g _ h3) (slice_of h1)) fun σ H Q h => bin2 h fun z ρ W d1 d2 v1 v2 k _ r1 r2 h => ?_
      cases d2 with
      | int i =>
        cases r2
        obtain ⟨a, xs, vs, rfl, q1, q2, q3, q4, q5⟩ := seqA_ok k r1 (show Wp G z W ((seqA d1).bind fun xs => M.opt (L2.atI xs i)) _ _ from h).bind
        obtain ⟨d, e, q⟩ := q3.opt k
        obtain ⟨v, e2, rv⟩ := atI_of q2 e
        rw [g.K]
        rcases q1 with q1 | q1
        · exact .inl ⟨a, vs, i, v, rfl, rfl, q1, e2, q v rv⟩
        · exact .inr (.inl ⟨a, vs, i, v, rfl, rfl, q1, e2, q v rv⟩)
      | _ => exact (show False from h).elim
    · cases hx
  | slc a lo hi iha ihl ihh =>
    refine Snd.ofEL rfl rfl (fun {Γ X Wx} g x hx => ?_) fun {Γ X Wx} g x hx => ?_
    · split at hx
      · obtain ⟨hx, h3⟩ := and4 hx
        obtain ⟨h1, h2⟩ := and4 hx
        refine impPE (pe_slice (sl_tupA.or sl_list) (iha.E g _ h1) (ihl.P g _ h2) (ihh.P g _ h3)) fun σ H Q h => tri3 (op := fun x l h => slcop l h x) h fun z W' d v lo hi k' rv h => ?_
        rw [g.K]
        by_cases ht : ∃ xs, d = D.tup xs
        · obtain ⟨xs, rfl⟩ := ht
          cases rv with
          | @tup a vs ds h1 h2 =>
            refine .inl ⟨a, vs, rfl, sqT_of h1, fun e => ?_, fun _ => new_tup k' (cut_of h2) h⟩
            have e2 : cut xs lo hi = xs := by
              unfold cut
              rw [h2.len, e.1, e.2, List.drop_zero, Nat.sub_zero, ← h2.len, List.take_length]
            have h : Wp G z W' (M.pure (D.tup (cut xs lo hi))) _ _ := h
            rw [e2] at h
            exact h.pure0 k' _ (.tup h1 h2)
        · have h : Wp G z W' ((seqL d).bind fun xs => M.pure (D.lst (cut xs lo hi))) (Wt G z Q) (exW G z Wx σ) := by
            cases d with
            | tup xs => exact absurd ⟨xs, rfl⟩ ht
            | _ => exact h
          obtain ⟨a, xs, vs, rfl, q1, q2, q3⟩ := seqL_ok k' rv h.bind
          exact .inr ⟨a, vs, rfl, SqL.of q1, fun p hp => new_lst k' (cut_of q2) q3 p hp⟩
      · cases hx
    · split at hx
      · obtain ⟨hx, h3⟩ := and4 hx
        obtain ⟨h1, h2⟩ := and4 hx
        refine impPE (pe_slice (sl_tupA.or sl_list) (iha.E g _ h1) (ihl.P g _ h2) (ihh.P g _ h3)) fun σ H Q h => tri3 (op := fun x l h => (seqL x).bind fun xs => M.pure (cut xs l h)) h fun z W' d v lo hi k' rv h => ?_
        rw [g.K]
        obtain ⟨a, xs, vs, rfl, q1, q2, q3⟩ := seqL_ok k' rv h.bind
        exact .inr ⟨a, vs, rfl, SqL.of q1, fun p hp => q3.pure0 k' _ (cut_of q2) p hp⟩
      · cases hx
  | call kk es ih =>
    refine Snd.ofE rfl rfl fun {Γ X Wx} g x hx => ?_
    split at hx
    · rename_i y p xs pos
      obtain ⟨hx, h5⟩ := and4 hx
      obtain ⟨hx, h4⟩ := and4 hx
      obtain ⟨hx, h3⟩ := and4 hx
      obtain ⟨hx, h2⟩ := and4 hx
      obtain ⟨hh, h1⟩ := and4 hx
      have eh : Γ.hot = false := by simpa using hh
      split at h1
      · rename_i zz n e
        obtain ⟨a1, a2⟩ := and4 h1
        cases of_decide_eq_true a1
        obtain ⟨j, hr0, cs⟩ := g.calls eh
        obtain ⟨fd, ps, hb, F⟩ := cs _ _ _ e
        have hr : Room j X.A := hr0.mono (by split <;> omega)
        obtain ⟨m1, m2⟩ := g.fns _ _ _ e
        have fin : ∀ σ H Q, tD G Wx (fun ρ => ((ev C Kc es).es ρ).bind (C kk)) σ H Q → tA G Wx (ev C Kc es).es σ H fun vs H1 => spD G n (C kk) vs H1 Q (WE Wx σ) := by
          rintro σ H Q ⟨z, ρ, W, e0, k, rr, h⟩
          exact ⟨z, ρ, W, e0, k, rr, h.bind.mono (fun ds W1 k1 l1 h1 vs rv => ⟨z, ds, W1, rfl, by rw [← rv.len]; exact g.arity _ _ _ e _ _ _ _ _ h1, k1, rv, h1⟩) fun _ _ _ _ _ q => q⟩
        cases xs with
        | nil =>
          refine impPE (pe_callS0 F hr (gl_of g.sc h2) m1 m2 hb (fun σ => L2N.passAt g.tk σ) (nm_of h3).1) fun σ H Q h => ?_
          have e2 : (ev C Kc es).es = fun _ => M.pure [] := nil_es h5
          have h := fin σ H Q h
          rw [e2] at h
          obtain ⟨z, ρ, W, e0, k, rr, hq⟩ := h
          subst e0
          exact Wp.pure0 hq k [] .nil
        | cons e0 es0 =>
          have h6 := h4
          simp only [List.all_cons, Bool.and_eq_true] at h6
          exact impPE (pe_callS F hr (gl_of g.sc h2) m1 m2 hb (fun σ => L2N.passAt g.tk σ) (ih.Es g _ h5) (nm_of h3).1 (star_of h6.1) (stars_false h6.2)) fin
      · cases h1
    · cases hx
  | mkl a iha =>
    exact Snd.ofE rfl rfl fun {Γ X Wx} g x hx => impPE (iha.L g x hx) fun σ H Q h => tL_of_mkl h
  | bf f es ih =>
    refine Snd.ofEL rfl rfl (fun {Γ X Wx} g x hx => ?_) fun {Γ X Wx} g x hx => ?_
    · unfold ckBf at hx
      split at hx
      · rename_i y p xs pos
        obtain ⟨hx, h5⟩ := and4 hx
        obtain ⟨hx, h4⟩ := and4 hx
        obtain ⟨hx, h3⟩ := and4 hx
        obtain ⟨hx, h2⟩ := and4 hx
        obtain ⟨h0, h1⟩ := and4 hx
        cases of_decide_eq_true h0
        cases xs with
        | nil =>
          have q := of_decide_eq_true h1
          cases f <;> cases q
        | cons e0 es0 =>
          simp only [List.all_cons, Bool.and_eq_true] at h3
          obtain ⟨r, q1, q2⟩ := bf_ok g f h4 (p := p) (pos := pos) (gl_of g.sc h2) (ih.Es g _ h5) (star_of h3.1) (stars_false h3.2)
          refine impPE q1 fun σ H Q h => ?_
          obtain ⟨z, ρ, W, e0, k, rr, h⟩ := h
          exact ⟨z, ρ, W, e0, k, rr, h.bind.mono (fun ds W1 k1 l1 h1 vs rv => q2 z W1 ds vs Q _ k1 rv h1) fun _ _ _ _ _ q => q⟩
      · cases hx
    · obtain ⟨hf, hx⟩ := and4 hx
      cases of_decide_eq_true hf
      unfold ckBf at hx
      split at hx
      · rename_i y p xs pos h0
        obtain ⟨hx, h5⟩ := and4 hx
        obtain ⟨hx, h4⟩ := and4 hx
        obtain ⟨hx, h3⟩ := and4 hx
        obtain ⟨hx, h2⟩ := and4 hx
        obtain ⟨h0, h1⟩ := and4 hx
        cases of_decide_eq_true h0
        cases xs with
        | nil => cases of_decide_eq_true h1
        | cons e0 es0 =>
          simp only [List.all_cons, Bool.and_eq_true] at h3
          obtain ⟨r, q1, q2⟩ := bfLs_ok g (p := p) (pos := pos) (gl_of g.sc h2) (ih.Es g _ h5) (star_of h3.1) (stars_false h3.2)
          refine impPE q1 fun σ H Q h => ?_
          obtain ⟨z, ρ, W, e0, k, rr, h⟩ := h
          exact ⟨z, ρ, W, e0, k, rr, h.bind.mono (fun ds W1 k1 l1 h1 vs rv => q2 z W1 ds vs Q _ k1 rv h1) fun _ _ _ _ _ q => q⟩
      · cases hx
  | lc tg it cond elt ih1 ih2 ih3 =>
    refine Snd.ofLL rfl rfl fun {Γ X Wx} g x hx => ?_
    cases eh : Γ.hot with
    | false =>
      refine lc_with g ih1 ih2 ih3 hx (fun st H s Cc cl fp => X.blk st H s (compEnvC s cl Cc X.env) fp) (fun st H s Cc cl fp => g.blk eh st H s Cc cl fp) fun y tgx itx ifs s pos own e eo p1 p2 p3 p4 p5 p6 => ?_
      subst e
      have P := pe_lc (X := X) (pos := pos) (g.calm eh) (by rw [g.N]; exact g.nd) (p1.1 eh) p2 p3 p4 p5 p6
      rw [eo] at P
      exact impPE P fun σ H Q h => lc_ok h
    | true =>
      refine lc_with g ih1 ih2 ih3 hx (fun st H s Cc cl fp => L2H.blkH X st H s (compEnvC s cl Cc X.env) fp) (fun st H s Cc cl fp => g.blkH st H s Cc cl fp) fun y tgx itx ifs s pos own e eo p1 p2 p3 p4 p5 p6 => ?_
      subst e
      have P := L2H.pe_lcH (X := X) (pos := pos) (g.hotc eh) (by rw [g.N]; exact g.nd) (p1.2 eh) p2 (fun st H cl Cc fp => p3 st H cl Cc fp) (fun st H cl Cc fp => p4 st H cl Cc fp) (fun st H cl Cc fp => p5 st H cl Cc fp) p6
      rw [eo] at P
      exact impPE P fun σ H Q h => lc_ok h
  | range1 a iha =>
    refine Snd.ofI rfl rfl fun {Γ X Wx} g tg x hx => ?_
    split at hx
    · obtain ⟨hx, h4⟩ := and4 hx
      obtain ⟨hx, h3⟩ := and4 hx
      obtain ⟨hx, h2⟩ := and4 hx
      obtain ⟨hh, h1⟩ := and4 hx
      have eh : Γ.hot = false := by simpa using hh
      cases of_decide_eq_true h1
      refine ⟨fun _ => ?_, (fun e => by rw [eh] at e; cases e)⟩
      refine impPI (pi_range1 (gl_of g.sc h2) (g.bi _ (by decide)) (pa_cons (iha.E g _ h4) pa_nil (star_of h3)) (star_of h3)) fun σ H Q h => un1 h fun z ρ W d v k r rv h => ?_
      cases d with
      | int n =>
        cases rv
        rcases (show Wp G z W (if -lim ≤ n ∧ n < lim then M.pure ((List.range n.toNat).map fun (i : Nat) => D.int (i : Int)) else M.bad) _ _ from h).ite with ⟨q, h⟩ | ⟨q, h⟩
        · refine ⟨n, rfl, q.1, q.2, h.pure0 k _ ?_⟩
          have e : (fun (i : Nat) => D.int (0 + (i : Int))) = fun (i : Nat) => D.int (i : Int) := by
            funext i
            rw [Int.zero_add]
          have w := it_rng (G := G) (F := W.F z) (m := W.m) (lo := 0) (n := n.toNat)
          rw [e] at w
          exact w
        · exact h.bad.elim
      | _ => exact (show False from h).elim
    · cases hx
  | range2 a b iha ihb =>
    refine Snd.ofI rfl rfl fun {Γ X Wx} g tg x hx => ?_
    split at hx
    · obtain ⟨hx, h6⟩ := and4 hx
      obtain ⟨hx, h5⟩ := and4 hx
      obtain ⟨hx, h4⟩ := and4 hx
      obtain ⟨hx, h3⟩ := and4 hx
      obtain ⟨hx, h2⟩ := and4 hx
      obtain ⟨hh, h1⟩ := and4 hx
      have eh : Γ.hot = false := by simpa using hh
      cases of_decide_eq_true h1
      refine ⟨fun _ => ?_, (fun e => by rw [eh] at e; cases e)⟩
      refine impPI (pi_range2 (gl_of g.sc h2) (g.bi _ (by decide)) (pa_cons (iha.E g _ h5) (pa_cons (ihb.E g _ h6) pa_nil (star_of h4)) (star_of h3)) (by rw [star_of h3, star_of h4]; rfl) (star_of h4)) fun σ H Q h => bin2 h fun z ρ W d1 d2 v1 v2 k _ r1 r2 h => ?_
      have q : ∃ i j, d1 = .int i ∧ d2 = .int j := by
        cases d1 <;> first
          | exact (show False from h).elim
          | (cases d2 <;> first | exact ⟨_, _, rfl, rfl⟩ | exact (show False from h).elim)
      obtain ⟨i, j, rfl, rfl⟩ := q
      cases r1
      cases r2
      rcases (show Wp G z W (if (-lim ≤ i ∧ i < lim) ∧ (-lim ≤ j ∧ j < lim) then M.pure ((List.range (j - i).toNat).map fun (k : Nat) => D.int (i + (k : Int))) else M.bad) _ _ from h).ite with ⟨q, h⟩ | ⟨q, h⟩
      · exact ⟨i, j, rfl, ⟨q.1.1, q.1.2, q.2.1, q.2.2⟩, h.pure0 k _ it_rng⟩
      · exact h.bad.elim
    · cases hx
  | enum a iha =>
    refine Snd.ofI rfl rfl fun {Γ X Wx} g tg x hx => ?_
    split at hx
    · obtain ⟨hx, h4⟩ := and4 hx
      obtain ⟨hx, h3⟩ := and4 hx
      obtain ⟨hx, h2⟩ := and4 hx
      obtain ⟨hx, h1⟩ := and4 hx
      obtain ⟨hh, h0⟩ := and4 hx
      have eh : Γ.hot = false := by simpa using hh
      cases of_decide_eq_true h1
      cases tg with
      | Tuple es kk tp =>
        refine ⟨fun _ => ?_, (fun e => by rw [eh] at e; cases e)⟩
        refine impPI (pi_enum (gl_of g.sc h2) (g.bi _ (by decide)) (pa_cons (iha.E g _ h4) pa_nil (star_of h3)) (star_of h3)) fun σ H Q h => un1 h fun z ρ W d v k r rv h => ?_
        cases d with
        | lst xs =>
          cases rv with
          | @lst a vs ds h1 h2 =>
            rw [g.K]
            exact ⟨a, vs, rfl, SqL.of (F_sub h1), h.pure0 k _ (it_enum h1 h2)⟩
        | _ => exact (show False from h).elim
      | _ => cases h0
    · cases hx
  | zip a b iha ihb =>
    refine Snd.ofI rfl rfl fun {Γ X Wx} g tg x hx => ?_
    split at hx
    · obtain ⟨hx, h6⟩ := and4 hx
      obtain ⟨hx, h5⟩ := and4 hx
      obtain ⟨hx, h4⟩ := and4 hx
      obtain ⟨hx, h3⟩ := and4 hx
      obtain ⟨hx, h2⟩ := and4 hx
      obtain ⟨hx, h1⟩ := and4 hx
      obtain ⟨hh, h0⟩ := and4 hx
      have eh : Γ.hot = false := by simpa using hh
      cases of_decide_eq_true h1
      cases tg with
      | Tuple es kk tp =>
        refine ⟨fun _ => ?_, (fun e => by rw [eh] at e; cases e)⟩
        refine impPI (RZ.pi_zipA (gl_of g.sc h2) (g.bi _ (by decide)) (pa_cons (iha.E g _ h5) (pa_cons (ihb.E g _ h6) pa_nil (star_of h4)) (star_of h3)) (star_of h3) (by rw [star_of h4]; rfl)) fun σ H Q h => bin2 h fun z ρ W d1 d2 v1 v2 k _ r1 r2 h => ?_
        rw [g.K]
        cases d1 with
        | lst xs =>
          cases d2 with
          | lst ys =>
            cases r1 with
            | @lst a vs ds h1 h2 =>
              cases r2 with
              | @lst b us es h3 h4 => exact ⟨a, b, vs, us, rfl, .inl ⟨SqL.of (F_sub h1), SqL.of (F_sub h3), h.pure0 k _ (it_zipL h1 h3 h2 h4)⟩⟩
          | _ => exact (show False from h).elim
        | tup xs =>
          cases d2 with
          | tup ys =>
            cases r1 with
            | @tup a vs ds h1 h2 =>
              cases r2 with
              | @tup b us es h3 h4 => exact ⟨a, b, vs, us, rfl, .inr ⟨sqT_of h1, sqT_of h3, h.pure0 k _ (it_zipT h1 h3 h2 h4)⟩⟩
          | _ => exact (show False from h).elim
        | _ => exact (show False from h).elim
      | _ => cases h0
    · cases hx
  | zipL a b iha ihb =>
    refine Snd.ofI rfl rfl fun {Γ X Wx} g tg x hx => ?_
    split at hx
    · obtain ⟨hx, h6⟩ := and4 hx
      obtain ⟨hx, h5⟩ := and4 hx
      obtain ⟨hx, h4⟩ := and4 hx
      obtain ⟨hx, h3⟩ := and4 hx
      obtain ⟨hx, h2⟩ := and4 hx
      obtain ⟨hx, h1⟩ := and4 hx
      obtain ⟨eh, h0⟩ := and4 hx
      cases of_decide_eq_true h1
      cases tg with
      | Tuple es kk tp =>
        refine ⟨(fun e => by rw [eh] at e; cases e), fun _ => ?_⟩
        refine impPIH (L2H.pi_zipH (gl_of g.sc h2) (g.bi _ (by decide)) (pa_cons (iha.E g _ h5) (pa_cons (ihb.E g _ h6) pa_nil (star_of h4)) (star_of h3)) (star_of h3) (by rw [star_of h4]; rfl)) fun σ H Q h => bin2 h fun z ρ W d1 d2 v1 v2 k _ r1 r2 h => ?_
        rw [g.K]
        cases d1 with
        | lst xs =>
          cases d2 with
          | lst ys =>
            cases r1 with
            | @lst a vs ds h1 h2 =>
              cases r2 with
              | @lst b us es h3 h4 => exact ⟨a, b, vs, us, rfl, SqL.of (F_sub h1), SqL.of (F_sub h3), h.pure0 k _ (it_zipL h1 h3 h2 h4)⟩
          | _ => exact (show False from h).elim
        | _ => exact (show False from h).elim
      | _ => cases h0
    · cases hx
  | bad => exact Snd.ofE rfl rfl fun {Γ X Wx} g x hx => ⟨fun pins s σ H Q I ⟨z, ρ, W, e, k, r, h⟩ => h.bad.elim⟩
  | isx a q iha =>
    refine Snd.ofE rfl rfl fun {Γ X Wx} g x hx => ?_
    split at hx
    · rename_i y p e c p2 pos
      obtain ⟨hx, h9⟩ := and4 hx
      obtain ⟨hx, h8⟩ := and4 hx
      obtain ⟨hx, h7⟩ := and4 hx
      obtain ⟨hx, h6⟩ := and4 hx
      obtain ⟨hx, h5⟩ := and4 hx
      obtain ⟨hx, h4⟩ := and4 hx
      obtain ⟨hx, h3⟩ := and4 hx
      obtain ⟨h1, h2⟩ := and4 hx
      cases of_decide_eq_true h1
      obtain ⟨c0, f, e1, e2⟩ : ∃ c0 f, Γ.exs[q]? = some (c0, f) ∧ c0 = c := by
        split at h7
        · rename_i c0 f e1
          exact ⟨c0, f, e1, of_decide_eq_true h7⟩
        · cases h7
      subst e2
      obtain ⟨ax, Dc, cc, x1, x2, x3, x4⟩ := g.hx h2 (Option.isNone_iff_eq_none.mp h3)
      have pc : PE X (.Name c0 p2) (tC (.ref (G.ca q))) := pe_glob (gl_of g.sc h8) (g.exk _ _ _ e1) rfl (nm_of h9).1
      refine impPE (pe_callB x3 (gl_of g.sc h4) (g.bi _ (by decide)) boot_isinstance (pa_cons (iha.E g _ h6) (pa_cons pc pa_nil (star_of rfl)) (star_of h5)) (by decide) (by decide) (star_of h5) (by rw [star_of rfl]; rfl)) fun σ H Q h => un1 h fun z ρ W d v k r rv h => ?_
      cases d with
      | exn =>
        cases rv with
        | exn hxa =>
          rw [x1] at hxa
          cases hxa
          have h : Wp G z W (isxop Kc q .exn) _ _ := h
          unfold isxop at h
          simp only [x2] at h
          refine ⟨.ref (G.ca q), .ref (G.ca q), (cc == q), rfl, fun u ru => ru, x4 _ _ _ e1, ?_⟩
          have eb : ((cc : Int) == (q : Int)) = (cc == q) := by
            by_cases z : cc = q
            · subst z; simp
            · have z2 : (cc : Int) ≠ q := fun y => z (by omega)
              rw [beq_eq_false_iff_ne.mpr z, beq_eq_false_iff_ne.mpr z2]
          rw [eb] at h
          exact h.pure0 k _ (.bl _)
      | _ => exact (show False from h).elim
    · cases hx
  | join s b ihb =>
    refine Snd.ofE rfl rfl fun {Γ X Wx} g x hx => ?_
    split at hx
    · rename_i s1 j1 p1 m apos e pos
      obtain ⟨hx, h5⟩ := and4 hx
      obtain ⟨hx, h4⟩ := and4 hx
      obtain ⟨hx, h3⟩ := and4 hx
      obtain ⟨h1, h2⟩ := and4 hx
      cases of_decide_eq_true h1
      cases of_decide_eq_true h4
      refine impPE (pe_join pe_str (ihb.E g _ h5) (star_of h3) (by rfl) h2) fun σ H Q h => ⟨⟨s, rfl⟩, un1 h fun z ρ W d v k r rv h => ?_⟩
      have h : Wp G z W ((seqA d).bind fun xs => (M.opt (strsOf xs)).bind fun ys => if (ys.map (·.length)).sum + ys.length * s.length ≤ 16777216 then M.pure (D.str (Txt.join s ys)) else M.bad) _ _ := h
      obtain ⟨a, xs, us, rfl, q1, q2, q3, _⟩ := seqA_ok k rv h.bind
      obtain ⟨ys, e1, h4⟩ := q3.bind.opt k
      rcases h4.ite with ⟨hs, h4⟩ | ⟨_, h4⟩
      · rw [g.K]
        refine ⟨s, a, ys, rfl, rfl, ?_, hs, h4.pure0 k _ (.str _)⟩
        rw [← strs_of q2 e1]
        exact q1
      · exact h4.bad.elim
    · cases hx
  | err kk a iha =>
    refine Snd.ofE rfl rfl fun {Γ X Wx} g x hx => ?_
    split at hx
    · rename_i y p ps b s lpos pos
      obtain ⟨hx, h8⟩ := and4 hx
      obtain ⟨hx, h7⟩ := and4 hx
      obtain ⟨hx, h6⟩ := and4 hx
      obtain ⟨hx, h5⟩ := and4 hx
      obtain ⟨hx, h4⟩ := and4 hx
      obtain ⟨hx, h3⟩ := and4 hx
      obtain ⟨h1, h2⟩ := and4 hx
      have eh : Γ.hot = false := by simpa using h1
      obtain ⟨cd, P, c1, c2, c3, c4⟩ := g.lamc h2
      obtain ⟨j, hr0, cs⟩ := g.calls eh
      rw [if_pos h2] at hr0
      have L : LamX.LamS X.env.scope s := LamX.lamS_by (by rw [g.sc]; exact h7)
      obtain ⟨an, ga, pg, bg, sg, dV, kV, doc, pm, cdv, ct, oc, aa, od, osl, Ng, TT, g1, g2, g3, g4, g5, g6, g7, g8, g9, g10, g11⟩ := (g.errs kk y (of_decide_eq_true h3)).ex
      cases noPars_ok h6
      have hdf : defaultsOf ⟨[], [], none, [], [], none, []⟩ X.env = ([], []) := by simp [defaultsOf, evalEach, evalEachOpt]
      refine impPE (LX.pe_lamcallN (t := fun E => tD G (fun cls d _ H' => E cls d H') (ev C Kc a).e) (gl_of g.sc h4) g1 g2 g3 g4 g5 g6 g7 g8 (g10 X (j + 1) _ rfl rfl rfl rfl rfl) c2 c1 c3 c4 hr0 L hdf (fun q cl pm cv ctv => rfl)
        (fun A outer st H E f c' hr => iha.E (g.lamN eh cs L A outer st H E f c' hr) b h8) (nm_of h5).1 (nm_of g9).1 (nm_of g9).2) fun σ H Q h => ?_
      obtain ⟨z, ρ, W, rfl, k, r, h⟩ := h
      refine ⟨k.tabs, fun H1 eN T1 => ?_⟩
      have e1 : Ext (W.F z) (Wd.F z ⟨W.m, W.μ, H1⟩) := fun b u e n => by
        obtain ⟨q1, q2, q3⟩ := Wd.F_some e
        exact Wd.F_of (eN _ _ q1 n) q2 q3
      have l1 : Le z W ⟨W.m, W.μ, H1⟩ := ⟨fun _ _ q => q, e1, fun b hb => by
        obtain ⟨vs, q⟩ := k.zs b hb
        show H1 b = W.H b
        rw [q]
        exact eN _ _ q fun _ y => nomatch y⟩
      have k1 : Mok G z ⟨W.m, W.μ, H1⟩ := ⟨k.len, k.inj, k.zl, fun b hb => by
        obtain ⟨vs, q⟩ := k.zs b hb
        exact ⟨vs, eN _ _ q fun _ y => nomatch y⟩, T1, fun i a o q1 q2 => (k.ob i a o q1 q2).mono e1 (fun _ _ q => q) fun hf u e => by
        refine eN _ _ e fun ps y => ?_
        have ll : live W.μ i := by
          unfold live
          rw [show W.μ[i]? = some o from q2]
          cases o with
          | fro d => exact absurd rfl (hf d)
          | _ => trivial
        obtain ⟨u2, e2, e3⟩ := k.thereP ll q1
        rw [e] at e2
        cases e2
        exact e3.1 ps y⟩
      exact g11 z ⟨W.m, W.μ, H1⟩ ((ev C Kc a).e ρ) _ Q _ k1 (h.at_ (W' := ⟨W.m, W.μ, H1⟩) rfl l1) fun E Q' hw => ⟨z, ρ, ⟨W.m, W.μ, H1⟩, rfl, k1, r.le l1, hw⟩
    · cases hx
  | callv i es ih =>
    refine Snd.ofE rfl rfl fun {Γ X Wx} g x hx => ?_
    split at hx
    · rename_i y p e0 es0 pos
      obtain ⟨hx, h6⟩ := and4 hx
      obtain ⟨hx, h5⟩ := and4 hx
      obtain ⟨hx, h4⟩ := and4 hx
      obtain ⟨hx, h3⟩ := and4 hx
      obtain ⟨h1, h2⟩ := and4 hx
      have eh : Γ.hot = false := by simpa using h1
      obtain ⟨j, hr0, cs⟩ := g.calls eh
      have hr : Room j X.A := hr0.mono (by split <;> omega)
      simp only [List.all_cons, Bool.and_eq_true] at h5
      refine impPE (pe_callLS (i := i) hr (by rw [g.N]; exact of_decide_eq_true h2) (vis_of g.sc h3) (fun σ => L2N.passAt g.tk σ) (ih.Es g _ h6) (nm_of h4).1 (nm_of h4).2 (star_of h5.1) (stars_false h5.2)) fun σ H Q h => ?_
      obtain ⟨z, ρ, W, rfl, k, r, h⟩ := h
      obtain ⟨d, v, e1, e2, h⟩ := get_ok k r h.bind
      cases d with
      | fn kk =>
        cases e2 with
        | fn _ hk =>
          obtain ⟨xn, n, e3⟩ := g.fnr eh kk hk
          obtain ⟨fd, ps, hb, F⟩ := cs _ _ _ e3
          obtain ⟨m1, m2⟩ := g.fns _ _ _ e3
          have h : Wp G z W (((ev C Kc es).es ρ).bind (C kk)) _ _ := h
          exact ⟨_, fd, ps, _, e1, m2, hb, F, z, ρ, W, rfl, k, r, h.bind.mono (fun ds W1 k1 l1 h1 vs rv => ⟨z, ds, W1, rfl, by rw [← rv.len]; exact g.arity _ _ _ e3 _ _ _ _ _ h1, k1, rv, h1⟩) fun _ _ _ _ _ q => q⟩
      | _ => exact (show False from h).elim
    · cases hx
  | dnew tt =>
    refine Snd.ofE rfl rfl fun {Γ X Wx} g x hx => ?_
    split at hx
    · cases tt with
      | true =>
        refine impPE pe_dnewT fun σ H Q h => ?_
        obtain ⟨z, ρ, W, rfl, k, r, h⟩ := h
        intro p hp
        obtain ⟨k2, l2, m2⟩ := k.newRef (o := .dT []) (ob := .dT []) hp (fun _ q => nomatch q) fun F e => ⟨[], upd_same, .nil⟩
        exact h ⟨W.m ++ [p], W.μ ++ [.dT []], upd W.H p (.dT [])⟩ rfl k2 l2 (.ref p) (.ref m2)
      | false =>
        refine impPE pe_dnewK fun σ H Q h => ?_
        obtain ⟨z, ρ, W, rfl, k, r, h⟩ := h
        intro p hp
        obtain ⟨k2, l2, m2⟩ := k.newRef (o := .dK []) (ob := .dK []) hp (fun _ q => nomatch q) fun F e => ⟨[], upd_same, .nil⟩
        exact h ⟨W.m ++ [p], W.μ ++ [.dK []], upd W.H p (.dK [])⟩ rfl k2 l2 (.ref p) (.ref m2)
    · cases hx
  | dget a b iha ihb =>
    refine Snd.ofE rfl rfl fun {Γ X Wx} g x hx => ?_
    split at hx
    · obtain ⟨hx, h3⟩ := and4 hx
      obtain ⟨h1, h2⟩ := and4 hx
      refine impPE (pe_dget (by have := g.room; omega) (iha.E g _ h2) (ihb.E g _ h3) (nosl_of h1)) fun σ H Q h => bin2 h fun z ρ W d1 d2 v1 v2 k _ r1 r2 h => ?_
      by_cases q : ∃ ds, d2 = .tup ds
      · obtain ⟨ds, rfl⟩ := q
        exact (nokey h k r1).elim
      · obtain ⟨a, v, d, e1, e2, e3, e4, _⟩ := dget_ok k r1 r2 (show Wp G z W (dgetop d1 d2) _ _ from by
          have e : dgetK d1 d2 = dgetop d1 d2 := by
            unfold dgetK
            cases d2 <;> first | rfl | exact absurd ⟨_, rfl⟩ q
          rw [← e]
          exact h)
        exact ⟨a, v, e1, e4 fun ds y => q ⟨ds, y⟩, e3 v e2⟩
    · cases hx
  | dgetT a es iha ihes =>
    refine Snd.ofE rfl rfl fun {Γ X Wx} g x hx => ?_
    split at hx
    · obtain ⟨h1, h2⟩ := and4 hx
      refine impPE (pe_dget (by have := g.room; omega) (iha.E g _ h1) (pe_tup (ihes.Es g _ h2)) (nosl_of rfl)) fun σ H Q h => un1 h fun z ρ W d v k r rv h => ?_
      refine ⟨z, ρ, W, rfl, k, r, h.bind.mono (fun ds W1 k1 l1 h1 vs rvs => ?_) fun _ _ _ _ _ q => q⟩
      have h1 := h1.bind
      unfold lenOk at h1
      rcases h1.ite with ⟨hl, h1⟩ | ⟨_, h1⟩
      · refine ⟨by rw [← rvs.len]; exact hl, fun p hp => ?_⟩
        have h1 := h1.pure0 k1
        obtain ⟨k2, l2, f2⟩ := k1.new (o := .tup vs) hp
        obtain ⟨a, v2, d2, e1, e2, e3, _, e5⟩ := dget_ok k2 ((rv.le l1).le l2) (Rp.tup (SqT.of f2) (rvs.le l2)) (h1.at_ (W' := ⟨W1.m, W1.μ, upd W1.H p (.tup vs)⟩) rfl l2)
        exact ⟨a, v2, e1, e5 ds vs rfl (rvs.le l2) p _ upd_same (fun _ _ q => q), e3 v2 e2⟩
      · exact h1.bad.elim
    · cases hx
  | lrng a b iha ihb =>
    have key : ∀ {Γ X Wx}, Good G C Kc Γ X Wx → ∀ x, (match x with
      | .Call (.Name y _) [.Call (.Name z _) [e, u] [] _] [] _ => !Γ.hot && decide (y = ("list" : Str)) && decide (z = ("range" : Str)) && glB Γ.sc y && glB Γ.sc z && notStar e && notStar u && (ck a).e Γ e && (ck b).e Γ u
      | _ => false) = true → PE X x (tL G Wx fun ρ => ((ev C Kc a).e ρ).bind fun x => ((ev C Kc b).e ρ).bind fun y => (rng2 x y).bind lenOk) := by
      intro Γ X Wx g x hx
      split at hx
      · obtain ⟨hx, h9⟩ := and4 hx
        obtain ⟨hx, h8⟩ := and4 hx
        obtain ⟨hx, h7⟩ := and4 hx
        obtain ⟨hx, h6⟩ := and4 hx
        obtain ⟨hx, h5⟩ := and4 hx
        obtain ⟨hx, h4⟩ := and4 hx
        obtain ⟨hx, h3⟩ := and4 hx
        obtain ⟨h1, h2⟩ := and4 hx
        have eh : Γ.hot = false := by simpa using h1
        cases of_decide_eq_true h2
        cases of_decide_eq_true h3
        refine impPE (pe_listRg (g.calm eh) (gl_of g.sc h4) (g.bi _ (by decide)) (prg_2 (gl_of g.sc h5) (g.bi _ (by decide)) (iha.E g _ h8) (ihb.E g _ h9) (star_of h6) (star_of h7) (by rw [star_of h7]; rfl)) (star_of rfl)) fun σ H Q h => bin2 h fun z ρ W d1 d2 v1 v2 k _ r1 r2 h => ?_
        have q : ∃ i j, d1 = .int i ∧ d2 = .int j := by
          cases d1 <;> first
            | exact (show False from h).elim
            | (cases d2 <;> first | exact ⟨_, _, rfl, rfl⟩ | exact (show False from h).elim)
        obtain ⟨i, j, rfl, rfl⟩ := q
        cases r1
        cases r2
        have h : Wp G z W ((if (-lim ≤ i ∧ i < lim) ∧ (-lim ≤ j ∧ j < lim) then M.pure ((List.range (j - i).toNat).map fun (k : Nat) => D.int (i + (k : Int))) else M.bad).bind lenOk) _ _ := h
        by_cases c : (-lim ≤ i ∧ i < lim) ∧ (-lim ≤ j ∧ j < lim)
        · rw [if_pos c] at h
          have h := h.bind.pure0 k
          unfold lenOk at h
          rcases h.ite with ⟨hl, h⟩ | ⟨_, h⟩
          · rw [List.length_map, List.length_range] at hl
            refine ⟨i, j, rfl, rfl, ⟨c.1.1, c.1.2, c.2.1, c.2.2, hl⟩, fun p hp => h.pure0 k _ ?_ p hp⟩
            unfold rgV
            exact ints_rep2 _ _
          · exact h.bad.elim
        · rw [if_neg c] at h
          exact h.bind.bad.elim
      · cases hx
    exact Snd.ofLL rfl rfl key
  | trng a b iha ihb =>
    refine Snd.ofE rfl rfl fun {Γ X Wx} g x hx => ?_
    split at hx
    · obtain ⟨hx, h9⟩ := and4 hx
      obtain ⟨hx, h8⟩ := and4 hx
      obtain ⟨hx, h7⟩ := and4 hx
      obtain ⟨hx, h6⟩ := and4 hx
      obtain ⟨hx, h5⟩ := and4 hx
      obtain ⟨hx, h4⟩ := and4 hx
      obtain ⟨hx, h3⟩ := and4 hx
      obtain ⟨h1, h2⟩ := and4 hx
      have eh : Γ.hot = false := by simpa using h1
      cases of_decide_eq_true h2
      cases of_decide_eq_true h3
      refine impPE (pe_tupRg (g.calm eh) (gl_of g.sc h4) (g.bi _ (by decide)) (prg_2 (gl_of g.sc h5) (g.bi _ (by decide)) (iha.E g _ h8) (ihb.E g _ h9) (star_of h6) (star_of h7) (by rw [star_of h7]; rfl)) (star_of rfl)) fun σ H Q h => bin2 h fun z ρ W d1 d2 v1 v2 k _ r1 r2 h => ?_
      have q : ∃ i j, d1 = .int i ∧ d2 = .int j := by
        cases d1 <;> first
          | exact (show False from h).elim
          | (cases d2 <;> first | exact ⟨_, _, rfl, rfl⟩ | exact (show False from h).elim)
      obtain ⟨i, j, rfl, rfl⟩ := q
      cases r1
      cases r2
      have h : Wp G z W ((if (-lim ≤ i ∧ i < lim) ∧ (-lim ≤ j ∧ j < lim) then M.pure ((List.range (j - i).toNat).map fun (k : Nat) => D.int (i + (k : Int))) else M.bad).bind fun xs => (lenOk xs).bind fun xs => M.pure (D.tup xs)) _ _ := h
      by_cases c : (-lim ≤ i ∧ i < lim) ∧ (-lim ≤ j ∧ j < lim)
      · rw [if_pos c] at h
        have h := (h.bind.pure0 k).bind
        unfold lenOk at h
        rcases h.ite with ⟨hl, h⟩ | ⟨_, h⟩
        · rw [List.length_map, List.length_range] at hl
          refine ⟨i, j, rfl, rfl, ⟨c.1.1, c.1.2, c.2.1, c.2.2, hl⟩, new_tup k ?_ (h.pure0 k)⟩
          unfold rgV
          exact ints_rep2 _ _
        · exact h.bad.elim
      · rw [if_neg c] at h
        exact h.bind.bad.elim
    · cases hx
  | rev a iha =>
    refine Snd.ofLL rfl rfl fun {Γ X Wx} g x hx => ?_
    split at hx
    · obtain ⟨h1, h2⟩ := and4 hx
      cases of_decide_eq_true h1
      refine impPE (pe_revL (iha.E g _ h2)) fun σ H Q h => un1 (op := fun _ x => (seqL x).bind fun xs => M.pure xs.reverse) h fun z ρ W d v k r rv h => ?_
      rw [g.K]
      obtain ⟨a, xs, vs, rfl, q1, q2, q3⟩ := seqL_ok k rv h.bind
      exact ⟨a, vs, rfl, SqL.of q1, fun p hp => q3.pure0 k _ (Rps.rev q2) p hp⟩
    · cases hx
  | range3 a b c iha ihb ihc =>
    refine Snd.ofI rfl rfl fun {Γ X Wx} g tg x hx => ?_
    split at hx
    · obtain ⟨hx, h9⟩ := and4 hx
      obtain ⟨hx, h8⟩ := and4 hx
      obtain ⟨hx, h7⟩ := and4 hx
      obtain ⟨hx, h6⟩ := and4 hx
      obtain ⟨hx, h5⟩ := and4 hx
      obtain ⟨hx, h4⟩ := and4 hx
      obtain ⟨hx, h3⟩ := and4 hx
      obtain ⟨hh, h1⟩ := and4 hx
      have eh : Γ.hot = false := by simpa using hh
      cases of_decide_eq_true h1
      refine ⟨fun _ => ?_, (fun e => by rw [eh] at e; cases e)⟩
      refine impPI (pi_range3 (gl_of g.sc h3) (g.bi _ (by decide)) (pa_cons (iha.E g _ h7) (pa_cons (ihb.E g _ h8) (pa_cons (ihc.E g _ h9) pa_nil (star_of h6)) (star_of h5)) (star_of h4)) (by rw [star_of h4, star_of h5, star_of h6] <;> rfl) (by rw [star_of h5, star_of h6] <;> rfl)) fun σ H Q h => tri2 h fun z ρ W d1 d2 d3 v1 v2 v3 k _ r1 r2 r3 h => ?_
      have q : ∃ i j c, d1 = .int i ∧ d2 = .int j ∧ d3 = .int c := by
        cases d1 <;> first
          | exact (show False from h).elim
          | (cases d2 <;> first
            | exact (show False from h).elim
            | (cases d3 <;> first | exact ⟨_, _, _, rfl, rfl, rfl⟩ | exact (show False from h).elim))
      obtain ⟨i, j, c, rfl, rfl, rfl⟩ := q
      cases r1
      cases r2
      cases r3
      rcases (show Wp G z W (if ((-lim ≤ i ∧ i < lim) ∧ (-lim ≤ j ∧ j < lim)) ∧ rng3ok i j c = true then M.pure ((List.range (rngN i j c)).map fun (k : Nat) => D.int (i + (k : Int) * c)) else M.bad) _ _ from h).ite with ⟨q, h⟩ | ⟨q, h⟩
      · exact ⟨i, j, c, _, rfl, rgC_of q.1 q.2, h.pure0 k _ it_rngC⟩
      · exact h.bad.elim
    · cases hx
  | index a b iha ihb =>
    refine Snd.ofE rfl rfl fun {Γ X Wx} g x hx => ?_
    split at hx
    · obtain ⟨h, h6⟩ := and4 hx
      obtain ⟨h, h5⟩ := and4 h
      obtain ⟨h, h4⟩ := and4 h
      obtain ⟨h, h3⟩ := and4 h
      obtain ⟨h1, h2⟩ := and4 h
      cases of_decide_eq_true h1
      refine impPE (pe_bm PySem.F.plainAttrs_list PySem.F.slot_list_index PySem.F.type_list_index mt_index (iha.E g _ h5) (pa_cons (ihb.E g _ h6) pa_nil (star_of h3)) (base_of h4) (by rw [star_of h3]; rfl) h2 (star_of h3)) fun σ H Q q => ?_
      refine un1 (op := fun ρ x => (seqL x).bind fun _ => ((ev C Kc b).e ρ).bind fun y => indexop x y) q fun z ρ W d v k r rv h => ?_
      obtain ⟨a, xs, vs, rfl, q1, q2, h⟩ := seqL_ok k rv h.bind
      refine ⟨.inl ⟨rfl, vs, SqL.of q1⟩, z, ρ, W, rfl, k, r, h.bind.mono (fun d1 W1 k1 l1 h1 v1 rv1 => ?_) fun _ _ _ _ _ q => q⟩
      have h1 : Wp G z W1 ((seqL d).bind fun xs => if (d1.flat && xs.all D.flat) = true then (M.opt (xs.findIdx? fun z => D.eqF z d1)).bind fun j => M.pure (D.int (j : Nat)) else M.bad) _ _ := h1
      obtain ⟨a2, xs2, vs2, e2, q3, q4, h1⟩ := seqL_ok k1 (rv.le l1) h1.bind
      cases e2
      rcases h1.ite with ⟨hf, h1⟩ | ⟨_, h1⟩
      · simp only [Bool.and_eq_true] at hf
        obtain ⟨j, ej, h1⟩ := h1.bind.opt k1
        obtain ⟨w', p1, p2, p3⟩ := index_of rv1 hf.1 q4 hf.2 ej
        rw [g.K]
        exact ⟨a, vs2, v1, j, w', rfl, rfl, SqL.of q3, flat_of rv1 hf.1, flats_of q4 hf.2, p1, p2, p3, h1.pure0 k1 _ (.int _)⟩
      · exact h1.bad.elim
    · cases hx
  | nil =>
    refine ⟨?_, ?_, ?_, ?_, ?_, ?_, ?_, ?_⟩
    · exact fun g x hx => nomatch (show false = true from hx)
    · exact fun g x hx => nomatch (show false = true from hx)
    · intro Γ X Wx g xs hx
      cases xs with
      | nil =>
        refine impPA pa_nil fun σ H Q ⟨z, ρ, W, e, k, rr, h⟩ => ?_
        subst e
        exact h.pure0 k [] .nil
      | cons _ _ => cases hx
    · exact fun g tg x hx => nomatch (show false = true from hx)
    · intro Γ X Wx g o hx
      cases o with
      | none =>
        refine impPO po_none fun σ H Q ⟨z, ρ, W, e, k, rr, h⟩ => ?_
        subst e
        exact h.pure0 k
      | some _ => cases hx
    · exact fun g o x p hx => nomatch (show false = true from hx)
    · exact fun g o x p hx => nomatch (show false = true from hx)
    · exact fun g x hx => nomatch (show false = true from hx)
  | cons e es ihe ihes =>
    refine ⟨?_, ?_, ?_, ?_, ?_, ?_, ?_, ?_⟩
    · exact fun g x hx => nomatch (show false = true from hx)
    · exact fun g x hx => nomatch (show false = true from hx)
    · intro Γ X Wx g xs hx
      cases xs with
      | nil => cases hx
      | cons y ys =>
        have hx : (notStar y && (ck e).e Γ y && (ck es).es Γ ys) = true := hx
        obtain ⟨hx, h3⟩ := and4 hx
        obtain ⟨h1, h2⟩ := and4 hx
        refine impPA (pa_cons (ihe.E g _ h2) (ihes.Es g _ h3) (star_of h1)) fun σ H Q h => ?_
        refine un1 h fun z ρ W d v k r rv h => ?_
        exact ⟨z, ρ, W, rfl, k, r, h.bind.mono (fun ds W1 k1 l1 h1 vs rvs => h1.pure0 k1 (v :: vs) (.cons (rv.le l1) rvs)) fun _ _ _ _ _ q => q⟩
    · exact fun g tg x hx => nomatch (show false = true from hx)
    · exact fun g o hx => nomatch (show false = true from hx)
    · intro Γ X Wx g o xs pos hx
      match xs, hx with
      | [y], hx =>
        obtain ⟨h1, h2⟩ := and4 (show (_ && (ck e).e Γ y) = true from hx)
        cases es with
        | nil => exact pe_one (ihe.E g _ h2)
        | _ => cases h1
      | y :: z :: ys, hx =>
        obtain ⟨h1, h3⟩ := and4 (show (_ && (ck e).e Γ y && (ck es).b Γ o (z :: ys)) = true from hx)
        obtain ⟨h1, h2⟩ := and4 h1
        cases es with
        | cons e2 es2 =>
          cases o with
          | And =>
            refine impPE (pe_andT (ihe.E g _ h2) (ihes.B g _ _ _ h3)) fun σ H Q h => ?_
            have h : Run G Wx (fun ρ => ((ev C Kc e).e ρ).bind fun x => (truth x).bind fun k => boolV .And k x ((ev C Kc (.cons e2 es2)).b .And ρ)) σ H fun z d W => ∀ v, RpW G z W d v → Q v W.H := h
            refine un1 h fun z ρ W d v k r rv h => ?_
            obtain ⟨b, q1, q2⟩ := truth_ok k rv h.bind
            rw [g.K]
            refine ⟨b, q1, ?_⟩
            cases b with
            | true =>
              rw [if_pos rfl]
              exact ⟨z, ρ, W, rfl, k, r, q2⟩
            | false =>
              rw [if_neg Bool.false_ne_true]
              exact (show Wp G z W (M.pure d) _ _ from q2).pure0 k v rv
          | Or =>
            refine impPE (pe_orT (ihe.E g _ h2) (ihes.B g _ _ _ h3)) fun σ H Q h => ?_
            have h : Run G Wx (fun ρ => ((ev C Kc e).e ρ).bind fun x => (truth x).bind fun k => boolV .Or k x ((ev C Kc (.cons e2 es2)).b .Or ρ)) σ H fun z d W => ∀ v, RpW G z W d v → Q v W.H := h
            refine un1 h fun z ρ W d v k r rv h => ?_
            obtain ⟨b, q1, q2⟩ := truth_ok k rv h.bind
            rw [g.K]
            refine ⟨b, q1, ?_⟩
            cases b with
            | false =>
              rw [if_neg Bool.false_ne_true]
              exact ⟨z, ρ, W, rfl, k, r, q2⟩
            | true =>
              rw [if_pos rfl]
              exact (show Wp G z W (M.pure d) _ _ from q2).pure0 k v rv
        | _ => cases h1
      | [], hx => cases hx
    · intro Γ X Wx g o xs pos hx
      match xs, hx with
      | [y], hx =>
        obtain ⟨h1, h2⟩ := and4 (show (_ && (ck e).t Γ y) = true from hx)
        cases es with
        | nil =>
          cases o with
          | And => exact pw_and1 (ihe.T g _ h2)
          | Or => exact pw_or1 (ihe.T g _ h2)
        | _ => cases h1
      | y :: z :: ys, hx =>
        obtain ⟨h1, h3⟩ := and4 (show (_ && (ck e).t Γ y && (ck es).bt Γ o (z :: ys)) = true from hx)
        obtain ⟨h1, h2⟩ := and4 h1
        cases es with
        | cons e2 es2 =>
          cases o with
          | And =>
            refine impPW (pw_and (ihe.T g _ h2) (ihes.BT g _ _ _ h3)) fun σ H Q h => ?_
            have h : Run G Wx (fun ρ => ((ev C Kc e).t ρ).bind fun k => boolT .And k ((ev C Kc (.cons e2 es2)).bt .And ρ)) σ H fun z b W => Q b W.H := h
            obtain ⟨z, ρ, W, e0, k, rr, h⟩ := h
            refine ⟨z, ρ, W, e0, k, rr, h.bind.mono (fun b W1 k1 l1 q2 => ?_) fun _ _ _ _ _ q => q⟩
            cases b with
            | true =>
              rw [if_pos rfl]
              exact ⟨z, ρ, W1, rfl, k1, rr.le l1, q2⟩
            | false =>
              rw [if_neg Bool.false_ne_true]
              exact (show Wp G z W1 (M.pure false) _ _ from q2).pure0 k1
          | Or =>
            refine impPW (pw_or (ihe.T g _ h2) (ihes.BT g _ _ _ h3)) fun σ H Q h => ?_
            have h : Run G Wx (fun ρ => ((ev C Kc e).t ρ).bind fun k => boolT .Or k ((ev C Kc (.cons e2 es2)).bt .Or ρ)) σ H fun z b W => Q b W.H := h
            obtain ⟨z, ρ, W, e0, k, rr, h⟩ := h
            refine ⟨z, ρ, W, e0, k, rr, h.bind.mono (fun b W1 k1 l1 q2 => ?_) fun _ _ _ _ _ q => q⟩
            cases b with
            | false =>
              rw [if_neg Bool.false_ne_true]
              exact ⟨z, ρ, W1, rfl, k1, rr.le l1, q2⟩
            | true =>
              rw [if_pos rfl]
              exact (show Wp G z W1 (M.pure true) _ _ from q2).pure0 k1
        | _ => cases h1
      | [], hx => cases hx
    · exact fun g x hx => nomatch (show false = true from hx)
end DL
/-! DL10: statements -/
namespace DL
open PySem PyProof.Rows L2 PySem.Spec

/-! ### the check -/
/-- names stored from the right, or one after another -/
def swNames (sc : Scope) (line : Nat) (ts : List Expr) : List Str := ts.filterMap fun
  | .Name id pos => if sc.names.lookup id == some .local && pos.line == line then some id else none
  | _ => none
def swR (sc : Scope) (ts vs : List Expr) : Option (Option (List Str)) :=
  if !(ts.length == 2 || ts.length == 3) || vs.length != ts.length then some none
  else if !vs.all notStar then none
  else
    let names := swNames sc ((ts.head?.map (·.pos.line)).getD 0) ts
    if names.length != ts.length || names.eraseDups.length != names.length then some none
    else if vs.all (foldedForSure 8) then some none
    else if vs.all (constantsAlone 8) then none
    else some (some names)
theorem any_star : ∀ (vs : List Expr), vs.all notStar = true → (vs.any fun | .Starred .. => true | _ => false) = false
  | [], _ => rfl
  | e :: es, h => by
    simp only [List.all_cons, Bool.and_eq_true] at h
    rw [List.any_cons, any_star es h.2]
    cases e <;> first | rfl | cases h.1
theorem ite_skip {c : Prop} [Decidable c] {α : Sort _} {a b r : α} (h : ¬ c) (hb : b = r) : (if c then a else b) = r := by
  rw [if_neg h]
  exact hb
theorem swR_ok {env : PySem.Env} {sc : Scope} (hs : env.scope = sc) (hk : env.scope.kind = .function) {ts vs : List Expr} {r : Option (List Str)} (h : swR sc ts vs = some r) (k k2 : Nat) (p p2 : Pos) :
    swappedStores [.Tuple ts k p] (.Tuple vs k2 p2) env = pure r := by
  have hb : env.blockKind = .function := by
    unfold Env.blockKind
    rw [hk]
    rfl
  unfold swR at h
  unfold swappedStores
  simp only [hb]
  by_cases c1 : (!(ts.length == 2 || ts.length == 3) || vs.length != ts.length) = true
  · rw [if_pos c1] at h
    cases h
    rw [if_pos (by rw [c1]; rfl)]
  rw [if_neg c1] at h
  by_cases c2 : (!vs.all notStar) = true
  · rw [if_pos c2] at h
    cases h
  rw [if_neg c2] at h
  have c2' : vs.all notStar = true := by simpa using c2
  have c1' : (!(ts.length == 2 || ts.length == 3) || vs.length != ts.length || (ScopeKind.function != ScopeKind.function)) = false := by
    have : (!(ts.length == 2 || ts.length == 3) || vs.length != ts.length) = false := by simpa using c1
    rw [this]
    rfl
  rw [if_neg (by rw [c1']; exact Bool.false_ne_true)]
  refine ite_skip (fun q => Bool.false_ne_true ((any_star vs c2').symm.trans q)) ?_
  generalize hg : List.filterMap _ ts = nm
  have hn : nm = swNames sc ((ts.head?.map (·.pos.line)).getD 0) ts := hg.symm.trans (by
    unfold swNames
    rw [← hs]
    rfl)
  rw [hn]
  simp only at h
  split at h
  · rename_i c
    cases h
    rw [if_pos c]
  · rename_i c
    rw [if_neg c]
    split at h
    · rename_i c
      cases h
      rw [if_pos c]
    · rename_i c
      rw [if_neg c]
      split at h
      · cases h
      · rename_i c
        cases h
        rw [if_neg c]
/-- where the stored name is dealt with inside the comprehension -/
def swB (sc : Scope) (t : Str) (p : Pos) : Expr → Bool
  | .ListComp _ _ s q => sc.names.lookup t == some .local && p.line == q.line && !(s.names.any fun (n, k) => n == t && (k == .local || k == .cell))
  | _ => false
def isLc : Expr → Bool
  | .ListComp _ _ _ _ => true
  | _ => false
mutual
def ckS (Γ : Cxt) : Sz → Stmt → Bool
  | .set i e, st => match st with
    | .Assign [.Name x p] v pos => Γ.nm i x && Γ.asg x && (ck e).e Γ v && (notComp v || (isLc v && (match swB Γ.sc x p v with
      | false => true
      | true => (match e with
        | .lc _ _ _ _ => true
        | .mkl a => (match a with
          | .lc _ _ _ _ => true
          | _ => false)
        | _ => false))))
    | _ => false
  | .tset ts e, st => match st with
    | .Assign [.Tuple es _ _] v _ => ckTs Γ ts es && (ck e).e Γ v && (match v with
      | .Tuple vs _ _ => decide (swR Γ.sc es vs = some none)
      | _ => true)
    | _ => false
  | .par is e, st => match st with
    | .Assign [.Tuple es _ _] (.Tuple vs k p) _ => !Γ.hot && (ck e).e Γ (.Tuple vs k p) && decide (es.all notStar = true) && (match swR Γ.sc es vs with
      | some (some ns) => ckNs Γ is ns
      | _ => false)
    | _ => false
  | .setix o i e, st => match st with
    | .Assign [.Subscript p q _] v _ => notSlice q && (ck e).e Γ v && (ck o).e Γ p && (ck i).e Γ q
    | _ => false
  | .dset o i e, st => match st with
    | .Assign [.Subscript p q _] v _ => notSlice q && (ck e).e Γ v && (ck o).e Γ p && (ck i).e Γ q
    | _ => false
  | .dsetT o es e, st => match st with
    | .Assign [.Subscript p (.Tuple xs _ _) _] v _ => (ck e).e Γ v && (ck o).e Γ p && (ck es).es Γ xs
    | _ => false
  | .app o e, st => match st with
    | .Expr (.Call (.Attribute p m apos) [x] [] pos) _ => decide (m = ("append" : Str)) && (apos.endLine == pos.line) && notStar x && plainBase p && (ck o).e Γ p && (ck e).e Γ x
    | _ => false
  | .raise c, st => match st with
    | .Raise (some (.Call (.Name y _) [.Constant (.str _) _ _] [] _)) none _ => !Γ.hot && decide (Γ.exs[c]? = some (y, true)) && glB Γ.sc y && okNm y
    | _ => false
  | .expr e, st => match st with
    | .Expr v _ => notComp v && (ck e).e Γ v
    | _ => false
  | .ret e, st => match st with
    | .Return (some v) _ => (ck e).e Γ v
    | _ => false
  | .ite c a b, st => match st with
    | .If t p q _ => (ck c).t Γ t && ckB Γ a p && ckB Γ b q
    | _ => false
  | .for tg it b, st => match st with
    | .For t i p [] _ => !Γ.hot && ckT Γ tg t && (ck it).i Γ (isTup t) i && notSet i && ckB Γ b p
    | _ => false
  | .while _ c b, st => match st with
    | .While t p [] _ => !Γ.hot && (ck c).t Γ t && ckB Γ b p
    | _ => false
  | .never, _ => true
  | .pass, st => match st with
    | .Pass _ => true
    | _ => false
  | .brk, st => match st with
    | .Break _ => true
    | _ => false
  | .cont, st => match st with
    | .Continue _ => true
    | _ => false
  | .nil, _ => false
  | .cons _ _, _ => false
def ckB (Γ : Cxt) : Sz → List Stmt → Bool
  | .nil, [] => true
  | .never, _ => true
  | .cons s ss, st :: sts => ckS Γ s st && ckB Γ ss sts
  | _, _ => false
def ckNs (Γ : Cxt) : List Nat → List Str → Bool
  | [], [] => true
  | i :: is, x :: xs => Γ.nm i x && (Γ.sc.names.lookup x == some .local) && ckNs Γ is xs
  | _, _ => false
end

/-! ### readings -/
def outW (G : Gx) (z : List Addr) (Dn : Ends) : Out → Wd → Prop := fun o W => match o with
  | .nx ρ => ∀ σ, EnvR G z W ρ σ → Dn.nx σ W.H
  | .rt d => ∀ v, RpW G z W d v → Dn.rt v W.H
  | .bk ρ => ∀ σ, EnvR G z W ρ σ → Dn.bk σ W.H
  | .ct ρ => ∀ σ, EnvR G z W ρ σ → Dn.ct σ W.H
def exS (G : Gx) (z : List Addr) (Wx : WX) : Nat → List D → Wd → Prop := fun c xs W => ∀ σ d, ExR G z xs d W → Wx (.ref (G.ca c)) d σ W.H
def tS (G : Gx) (Wx : WX) (f : Env → M Out) : TS := fun Dn σ H => ∃ z ρ W, W.H = H ∧ Mok G z W ∧ EnvR G z W ρ σ ∧ Wp G z W (f ρ) (outW G z Dn) (exS G z Wx)
theorem impPS {X : Cx} {e : Stmt} {t t' : TS} (h : PS X e t) (hi : ∀ Dn σ H, t' Dn σ H → t Dn σ H) : PS X e t' := ⟨fun pins s σ H Dn I q => h.run pins s σ H Dn I (hi Dn σ H q)⟩
theorem impPSs {X : Cx} {e : List Stmt} {t t' : TS} (h : PSs X e t) (hi : ∀ Dn σ H, t' Dn σ H → t Dn σ H) : PSs X e t' := ⟨fun pins s σ H Dn I q => h.run pins s σ H Dn I (hi Dn σ H q)⟩
section
variable {G : Gx} {Wx : WX} {σ : L2.St} {H : Hp} {Dn : Ends}
/-- a value, then what is done with it -/
theorem s1 {f : Env → M D} {op : Env → D → M Out} (h : tS G Wx (fun ρ => (f ρ).bind (op ρ)) Dn σ H) {R : V → Hp → Prop}
    (hr : ∀ z ρ W d v, Mok G z W → EnvR G z W ρ σ → RpW G z W d v → Wp G z W (op ρ d) (outW G z Dn) (exS G z Wx) → R v W.H) : tD G Wx f σ H R := by
  obtain ⟨z, ρ, W, e, k, r, h⟩ := h
  exact ⟨z, ρ, W, e, k, r, h.bind.mono (fun d1 W1 k1 l1 h1 v1 rv1 => hr z ρ W1 d1 v1 k1 (r.le l1) rv1 h1) fun c xs W' k' l' q d hd => q σ d hd⟩
end
/-- what a def's body gives, besides -/
structure GoodS (G : Gx) (C : Nat → List D → M D) (Kc : Nat → D) (Γ : Cxt) (X : Cx) (Wx : WX) : Prop where
  g : Good G C Kc Γ X Wx
  po : Γ.hot = false → PassesOwn (model X.prog X.w) X.A X.env X.xe
  kd : Γ.sc.kind = .function
theorem swap_lc {env : PySem.Env} {sc : Scope} (hs : env.scope = sc) (hk : env.scope.kind = .function) {t : Str} {p : Pos} {n : Nat} {v : Expr} (hl : isLc v = true) : swapsWith v (some (.Name t p)) n env = pure (swB sc t p v) := by
  cases v with
  | ListComp elt gs s q =>
    have hb : env.blockKind = .function := by
      unfold Env.blockKind
      rw [hk]
      rfl
    unfold swapsWith swB
    simp only [hb, Expr.pos]
    rw [← hs]
    rfl
  | _ => cases hl
theorem swap_tup {v : Expr} {es : List Expr} {k n : Nat} {p : Pos} {env : PySem.Env} : swapsWith v (some (.Tuple es k p)) n env = pure false := by
  cases v <;> rfl
theorem swap_sub {v o i : Expr} {n : Nat} {p : Pos} {env : PySem.Env} : swapsWith v (some (.Subscript o i p)) n env = pure false := by
  cases v <;> rfl
theorem sw_sub {v o i : Expr} {p : Pos} {env : PySem.Env} : swappedStores [.Subscript o i p] v env = pure none := by
  cases v <;> rfl
theorem asg_sub {o i : Expr} {pos : Pos} {env : PySem.Env} (h : notSlice i = true) (v : Value) : assign (.Subscript o i pos) env v = (do
      let ov ← holding [v] (eval o env)
      let iv ← holding [v, ov] (eval i env)
      standAt pos
      holding [v, ov, iv] (setItem ov iv v)
      release [v, ov, iv] []) := by
  cases i <;> first | rfl | cases h
theorem sw_none {v : Expr} {ts : List Expr} {k : Nat} {p : Pos} {env : PySem.Env} (h : ∀ vs k2 p2, v ≠ .Tuple vs k2 p2) : swappedStores [.Tuple ts k p] v env = pure none := by
  cases v <;> first | rfl | exact absurd rfl (h _ _ _)
/-! ### names stored from the right -/
theorem stores_ok {G : Gx} {C : Nat → List D → M D} {Kc : Nat → D} {Γ : Cxt} {X : Cx} {Wx : WX} (g : Good G C Kc Γ X Wx) {pins : List (Addr × Obj)} {H : Hp} {z : List Addr} {W : Wd} {Q : L2.St → Prop} :
    ∀ (ps : List (Nat × Str)) (ds : List D) (vs : List V) (us : List Value) (ρ ρ' : Env) (σ : L2.St) (s : Shared), (∀ p ∈ ps, X.N[p.1]? = some p.2 ∧ X.env.scope.names.lookup p.2 = some .local) → RpsW G z W ds vs → Vals vs us → ds.length = ps.length →
    Inv X pins σ H s → EnvR G z W ρ σ → setAll ((ps.map (·.1)).zip ds) ρ = some ρ' → (∀ σ', EnvR G z W ρ' σ' → Q σ') →
    wpAny (model X.prog X.w) X.A (assignInOrder (ps.map fun p => fun v => bindName X.env p.2 v) us) (fun _ s' => ∃ σ', Inv X pins σ' H s' ∧ Q σ') X.xe s
  | [], ds, vs, us, ρ, ρ', σ, s, hp, rd, rv, hl, I, r, hs, hQ => by
    cases ds with
    | cons d ds => cases hl
    | nil =>
      cases rd
      cases rv
      cases hs
      exact assignInOrder_nil ⟨σ, I, hQ σ r⟩
  | (i, x) :: ps, [], vs, us, ρ, ρ', σ, s, hp, rd, rv, hl, I, r, hs, hQ => nomatch hl
  | (i, x) :: ps, d :: ds, vs, us, ρ, ρ', σ, s, hp, rd, rv, hl, I, r, hs, hQ => by
    cases rd with
    | cons rd1 rd2 =>
      cases rv with
      | cons rv1 rv2 =>
        have hs : (if i < ρ.length then setAll ((ps.map (·.1)).zip ds) (ρ.set i (some d)) else none) = some ρ' := hs
        split at hs
        · obtain ⟨p1, p2⟩ := hp (i, x) List.mem_cons_self
          refine assignInOrder_cons (wpAny_bindName (store_ok I (by rw [g.N]; exact g.nd) p1 (.inl p2) rv1 (fun s2 I2 => ?_) (.inr p2)))
          exact stores_ok g ps ds _ _ _ ρ' _ s2 (fun q hq => hp q (List.mem_cons_of_mem _ hq)) rd2 rv2 (Nat.succ.inj hl) I2 (r.set rd1 i) hs hQ
        · cases hs
theorem ckNs_ok {Γ : Cxt} : ∀ {is : List Nat} {ns : List Str}, ckNs Γ is ns = true → is.length = ns.length ∧ ∀ p ∈ is.zip ns, Γ.N[p.1]? = some p.2 ∧ Γ.sc.names.lookup p.2 = some .local
  | [], [], _ => ⟨rfl, fun p hp => nomatch hp⟩
  | i :: is, x :: xs, h => by
    simp only [ckNs, Bool.and_eq_true] at h
    obtain ⟨q1, q2⟩ := ckNs_ok h.2
    refine ⟨by rw [List.length_cons, List.length_cons, q1], fun p hp => ?_⟩
    rcases List.mem_cons.mp hp with e | hp
    · rw [e]
      exact ⟨of_decide_eq_true h.1.1, beq_iff_eq.mp h.1.2⟩
    · exact q2 p hp
  | [], _ :: _, h => by cases h
  | _ :: _, [], h => by cases h
theorem zip_rev {α β : Type} {xs : List α} {ys : List β} (h : xs.length = ys.length) : xs.reverse.zip ys.reverse = (xs.zip ys).reverse := by
  induction xs generalizing ys with
  | nil =>
    cases ys with
    | nil => rfl
    | cons y ys => cases h
  | cons x xs ih =>
    cases ys with
    | nil => cases h
    | cons y ys =>
      have h' : xs.length = ys.length := Nat.succ.inj h
      rw [List.reverse_cons, List.reverse_cons, List.zip_append (by rw [List.length_reverse, List.length_reverse, h']), ih h']
      show _ = ((x, y) :: xs.zip ys).reverse
      rw [List.reverse_cons]
      rfl
theorem Vals.rev {xs : List V} {us : List Value} (h : Vals xs us) : Vals xs.reverse us.reverse := Vals.reverse h
theorem ps_parN {G : Gx} {C : Nat → List D → M D} {Kc : Nat → D} {Γ : Cxt} {X : Cx} {Wx : WX} (g : GoodS G C Kc Γ X Wx) {is : List Nat} {e : Ez} {es vs : List Expr} {ns : List Str} {k k2 : Nat} {p p2 pos : Pos}
    (eh : Γ.hot = false) (he : (ck e).e Γ (.Tuple vs k2 p2) = true) (hsw : swR Γ.sc es vs = some (some ns)) (hn : ckNs Γ is ns = true) : PS X (.Assign [.Tuple es k p] (.Tuple vs k2 p2) pos) (tS G Wx (evS C Kc (.par is e))) := by
  constructor
  intro pins s σ H Dn I h
  obtain ⟨hlen, hns⟩ := ckNs_ok hn
  rw [exec_Assign_arm]
  refine wpAny_bind (wpAny_standAt (wpAny_bind ?_))
  rw [show swapsWithSole [Expr.Tuple es k p] (.Tuple vs k2 p2) pos.line X.env = pure false from (by unfold swapsWithSole; exact swap_tup)]
  refine wpAny_pure ?_
  rw [if_neg Bool.false_ne_true]
  have T : tD G Wx (ev C Kc e).e σ H fun v H1 => ∃ z ρ W d ρ', W.H = H1 ∧ Mok G z W ∧ EnvR G z W ρ σ ∧ RpW G z W d v ∧ setPar is d ρ = some ρ' ∧ ∀ σ', EnvR G z W ρ' σ' → Dn.nx σ' H1 := by
    refine s1 h fun z ρ W d v k r rv h => ?_
    obtain ⟨ρ', hb, h⟩ := h.bind.opt k
    exact ⟨z, ρ, W, d, ρ', rfl, k, r, rv, hb, fun σ' r' => h.pure0 k σ' r'⟩
  refine wpAny_bind (thn (((snd e).E g.g _ he).run pins s σ H _ I T) ?_)
  rintro u s1 ⟨v, H1, I1, r1, z, ρ, W, d, ρ', rfl, k, r, rv, hb, hQ⟩
  rw [swR_ok g.g.sc (by rw [g.g.sc]; exact g.kd) hsw]
  refine wpAny_bind (wpAny_pure ?_)
  cases d with
  | tup xs =>
    have hb : (if xs.length = is.length then setAll (is.zip xs).reverse ρ else none) = some ρ' := hb
    split at hb
    case isFalse => cases hb
    rename_i hxl
    cases rv with
    | @tup a vs ds h1 h2 =>
      cases r1
      obtain ⟨its, rv, ht, hz⟩ := I1.tuple (xs := vs) (by rw [g.g.K]; exact sqT_of h1)
      have hil : ns.length = its.toArray.size := by
        rw [List.size_toArray, ← rv.length, ← h2.len, hxl, hlen]
      show wpAny _ _ (do rule "assign.swapped-stores"; let items ← unpackItems (.ref a) ns.length none; assignInOrder (ns.reverse.map fun n => bindName X.env n) items.reverse; pure Flow.next) _ _ _
      refine wpAny_bind (wpAny_rule (wpAny_bind ?_))
      rw [hil]
      refine unpackItems_tuple (I1.ok.hd (g.g.calm eh)) ht fun h' hx => wpAny_bind ?_
      have I2 : Inv X pins σ W.H { s1 with heap := h' } := I1.kept (t' := s1.toks) fun b o e => hx b o (Nat.ne_of_lt (Heap.lt_size e)) e
      have er : (ns.reverse.map fun n => bindName X.env n) = ((is.zip ns).reverse.map fun p => fun v => bindName X.env p.2 v) := by
        rw [List.map_reverse, List.map_reverse]
        congr 1
        have : ns = (is.zip ns).map (·.2) := (lens_of hlen).symm
        conv => lhs; rw [this]
        rw [List.map_map]
        rfl
      rw [er]
      refine thn (stores_ok (Q := fun σ' => Dn.nx σ' W.H) g.g (is.zip ns).reverse xs.reverse vs.reverse its.reverse ρ ρ' σ _ (fun q hq => ?_) (Rps.rev h2) (Vals.reverse rv) ?_ I2 r ?_ hQ) ?_
      · have := hns q (List.mem_reverse.mp hq)
        rw [g.g.N, g.g.sc]
        exact this
      · rw [List.length_reverse, List.length_reverse, List.length_zip, hxl, ← hlen, Nat.min_self]
      · have e1 : ((is.zip ns).reverse.map (·.1)).zip xs.reverse = (is.zip xs).reverse := by
          rw [List.map_reverse, ← List.unzip_fst, List.unzip_zip_left (Nat.le_of_eq hlen)]
          exact zip_rev (by rw [hxl])
        rw [e1]
        exact hb
      · rintro _ s3 ⟨σ', I3, q⟩
        exact wpAny_pure ⟨σ', W.H, I3, q⟩
  | _ => cases hb
end DL
/-! DL11: SOUND: checked statements, blocks, loops -/
namespace DL
open PySem PyProof.Rows L2 PySem.Spec

section
variable {G : Gx} {Wx : WX} {σ : L2.St} {H : Hp} {Dn : Ends}
theorem for_ok {tg : Tz} {I : Env → M (List D)} {b : Env → M Out} (h : tS G Wx (fun ρ => (I ρ).bind fun ds => forGo tg b ds ρ) Dn σ H) : tFor (tI G Wx I) (tTg G tg) (tS G Wx b) Dn σ H := by
  obtain ⟨z, ρ, W, rfl, k, r, h⟩ := h
  refine ⟨z, ρ, W, rfl, k, r, h.bind.mono (fun ds W1 k1 l1 h1 J hJ => ?_) fun c xs W' k' l' q d hd => q σ d hd⟩
  refine ⟨fun i m σ H => ∃ (W2 : Wd) (ρ2 : Env), W2.H = H ∧ m = ds.length - i ∧ i ≤ ds.length ∧ Mok G z W2 ∧ EnvR G z W2 ρ2 σ ∧ Le z W1 W2 ∧ Wp G z W2 (forGo tg b (ds.drop i) ρ2) (outW G z Dn) (exS G z Wx),
    ⟨ds.length, W1, ρ, rfl, rfl, Nat.zero_le _, k1, r.le l1, Le.refl _ _, h1⟩, ?_⟩
  rintro i m σ2 H2 ⟨W2, ρ2, rfl, rfl, hi, k2, r2, l2, h2⟩
  have hJ2 := hJ z W2 k2 l2.ext l2.pre
  by_cases hlt : i < ds.length
  · refine .inr ?_
    obtain ⟨d, hd⟩ : ∃ d, ds[i]? = some d := ⟨ds[i], List.getElem?_eq_getElem hlt⟩
    obtain ⟨go, yl⟩ := hJ2.1 i d hd
    have hdrop : ds.drop i = d :: ds.drop (i + 1) := by
      rw [List.drop_eq_getElem_cons hlt]
      have q : ds[i] = d := Option.some.inj ((List.getElem?_eq_getElem hlt).symm.trans hd)
      rw [q]
    rw [hdrop] at h2
    refine ⟨go, fun σ' H' => ∃ (W2 : Wd) (ρ2 : Env), W2.H = H' ∧ i + 1 ≤ ds.length ∧ Mok G z W2 ∧ EnvR G z W2 ρ2 σ' ∧ Le z W1 W2 ∧ Wp G z W2 (forGo tg b (ds.drop (i + 1)) ρ2) (outW G z Dn) (exS G z Wx), fun σ' H' ⟨W2, ρ2, q1, q2, q3⟩ => ⟨ds.length - (i + 1), by omega, W2, ρ2, q1, rfl, q2, q3⟩, fun x H' hy => ?_⟩
    obtain ⟨W3, rfl, e3, k3, l3, rx⟩ := yl x H' hy
    have h2 : Wp G z W2 ((M.opt (bindT tg d ρ2)).bind fun ρ' => (b ρ').bind fun o => match o with
      | .nx ρ1 => forGo tg b (ds.drop (i + 1)) ρ1
      | .ct ρ1 => forGo tg b (ds.drop (i + 1)) ρ1
      | .bk ρ1 => M.pure (.nx ρ1)
      | .rt d => M.pure (.rt d)) (outW G z Dn) (exS G z Wx) := h2
    obtain ⟨ρ', hb, h3⟩ := (h2.at_ e3 l3).bind.opt k3
    refine ⟨z, ρ2, W3, d, ρ', rfl, k3, r2.le l3, rx, hb, fun σ3 r3 _ => ⟨z, ρ', W3, rfl, k3, r3, h3.bind.mono (fun o W4 k4 l4 h4 => ?_) fun _ _ _ _ _ q => q⟩⟩
    cases o with
    | nx ρ1 => exact fun σ' r' => ⟨W4, ρ1, rfl, hlt, k4, r', (l2.trans l3).trans l4, h4⟩
    | ct ρ1 => exact fun σ' r' => ⟨W4, ρ1, rfl, hlt, k4, r', (l2.trans l3).trans l4, h4⟩
    | bk ρ1 => exact fun σ' r' => (show Wp G z W4 (M.pure (Out.nx ρ1)) _ _ from h4).pure0 k4 σ' r'
    | rt v => exact fun u ru => (show Wp G z W4 (M.pure (Out.rt v)) _ _ from h4).pure0 k4 u ru
  · have ei : i = ds.length := by omega
    subst ei
    refine .inl ⟨hJ2.2 _ (Nat.le_refl _), ?_⟩
    rw [List.drop_length] at h2
    exact (show Wp G z W2 (M.pure (Out.nx ρ2)) (outW G z Dn) (exS G z Wx) from h2).pure0 k2 σ2 r2
theorem while_ok {c : Env → M Bool} {b : Env → M Out} {n : Nat} (h : tS G Wx (whileGo c b n) Dn σ H) : tWhile (tT G Wx c) (tS G Wx b) Dn σ H := by
  obtain ⟨z, ρ, W, rfl, k, r, h⟩ := h
  refine ⟨fun m σ H => ∃ (W2 : Wd) (ρ2 : Env), W2.H = H ∧ Mok G z W2 ∧ EnvR G z W2 ρ2 σ ∧ Wp G z W2 (whileGo c b m ρ2) (outW G z Dn) (exS G z Wx), ⟨n, W, ρ, rfl, k, r, h⟩, ?_⟩
  rintro m σ2 H2 ⟨W2, ρ2, rfl, k2, r2, h2⟩
  cases m with
  | zero => exact (show False from h2).elim
  | succ m =>
    have h2 : Wp G z W2 ((c ρ2).bind fun k => if k = true then (b ρ2).bind fun o => match o with
        | .nx ρ1 => whileGo c b m ρ1
        | .ct ρ1 => whileGo c b m ρ1
        | .bk ρ1 => M.pure (.nx ρ1)
        | .rt d => M.pure (.rt d)
      else M.pure (.nx ρ2)) (outW G z Dn) (exS G z Wx) := h2
    refine ⟨z, ρ2, W2, rfl, k2, r2, h2.bind.mono (fun t W3 k3 l3 h3 => ?_) fun c xs W' k' l' q d hd => q σ2 d hd⟩
    cases t with
    | false =>
      rw [if_neg Bool.false_ne_true]
      rw [if_neg Bool.false_ne_true] at h3
      exact h3.pure0 k3 σ2 (r2.le l3)
    | true =>
      rw [if_pos rfl]
      rw [if_pos rfl] at h3
      refine ⟨fun σ' H' => ∃ (W2 : Wd) (ρ2 : Env), W2.H = H' ∧ Mok G z W2 ∧ EnvR G z W2 ρ2 σ' ∧ Wp G z W2 (whileGo c b m ρ2) (outW G z Dn) (exS G z Wx), fun σ' H' q => ⟨m, Nat.lt_succ_self m, q⟩, z, ρ2, W3, rfl, k3, r2.le l3, h3.bind.mono (fun o W4 k4 l4 h4 => ?_) fun _ _ _ _ _ q => q⟩
      cases o with
      | nx ρ1 => exact fun σ' r' => ⟨W4, ρ1, rfl, k4, r', h4⟩
      | ct ρ1 => exact fun σ' r' => ⟨W4, ρ1, rfl, k4, r', h4⟩
      | bk ρ1 => exact fun σ' r' => (show Wp G z W4 (M.pure (Out.nx ρ1)) _ _ from h4).pure0 k4 σ' r'
      | rt v => exact fun u ru => (show Wp G z W4 (M.pure (Out.rt v)) _ _ from h4).pure0 k4 u ru
end
theorem store_ok {G : Gx} {z : List Addr} {W : Wd} {o i x : D} {vo vi vx : V} {P : Unit → Wd → Prop} {Ex : Nat → List D → Wd → Prop} (k : Mok G z W) (ro : RpW G z W o vo) (ri : RpW G z W i vi) (rx : RpW G z W x vx) (h : Wp G z W (storeL o i x) P Ex) :
    ∃ (n : Nat) (a : Addr) (xs : List D) (vs : List V) (ik : Int) (j : Nat) (W' : Wd), vo = .ref a ∧ vi = .int ik ∧ W.H a = some (.lst vs) ∧ ixN vs.length ik = some j ∧ W'.H = upd W.H a (.lst (vs.set j vx)) ∧ Mok G z W' ∧ Le z W W' ∧ W'.μ = W.μ.set n (.lst (xs.set j x)) ∧ P () W' := by
  cases o with
  | ref n =>
    obtain ⟨a, rfl, hm⟩ := ro.inv_ref
    cases i with
    | int ik =>
      cases ri
      cases e : W.μ[n]? with
      | none =>
        have h' : (storeL (.ref n) (.int ik) x W.μ).good _ := h
        simp only [storeL, e] at h'
        exact (show False from h').elim
      | some ob =>
        have h' : (storeL (.ref n) (.int ik) x W.μ).good _ := h
        simp only [storeL, e] at h'
        cases ob with
        | lst xs =>
          simp only at h'
          cases e2 : ixN xs.length ik with
          | none =>
            rw [e2] at h'
            exact (show False from h').elim
          | some j =>
            rw [e2] at h'
            obtain ⟨vs, hv, rv⟩ := k.ob n a _ hm e
            have ln : live W.μ n := by
              unfold live
              rw [e]
              trivial
            obtain ⟨k2, l2⟩ := k.write (ob := .lst (xs.set j x)) (o := .lst (vs.set j vx)) ln hm (fun _ q => nomatch q) ⟨_, upd_same, Rps.set rx j rv⟩
            exact ⟨n, a, xs, vs, ik, j, ⟨W.m, W.μ.set n (.lst (xs.set j x)), upd W.H a (.lst (vs.set j vx))⟩, rfl, rfl, hv, by rw [← rv.len]; exact e2, rfl, k2, l2, rfl, h' _ rfl k2 l2⟩
        | _ => exact (show False from h').elim
    | _ => exact (show False from h).elim
  | _ => exact (show False from h).elim
section
variable {G : Gx} {C : Nat → List D → M D} {Kc : Nat → D} {Γ : Cxt} {X : Cx} {Wx : WX}
theorem set_k {i : Nat} {e : Ez} {Dn : Ends} {σ : L2.St} {H : Hp} (h : tS G Wx (evS C Kc (.set i e)) Dn σ H) : tD G Wx (ev C Kc e).e σ H fun x H1 => gName i x σ H1 Dn.nx := by
  refine s1 h fun z ρ W d v k r rv h => ?_
  unfold setE at h
  rcases h.ite with ⟨q, h⟩ | ⟨_, h⟩
  · exact h.pure0 k _ (r.set rv i)
  · exact h.bad.elim
mutual
theorem ps_ok (g : GoodS G C Kc Γ X Wx) : ∀ (s : Sz) (st : Stmt), ckS Γ s st = true → PS X st (tS G Wx (evS C Kc s))
  | .set i e, st, h => by
    unfold ckS at h
    split at h
    case h_1 x p v pos =>
      obtain ⟨h, h4⟩ := and4 h
      obtain ⟨h, h3⟩ := and4 h
      obtain ⟨h1, h2⟩ := and4 h
      obtain ⟨a1, a2⟩ := asg_of g.g h2
      have hi : X.N[i]? = some x := by rw [g.g.N]; exact of_decide_eq_true h1
      have hN : X.N.Nodup := by rw [g.g.N]; exact g.g.nd
      rcases Bool.or_eq_true_iff.mp h4 with h4 | h4
      · exact impPS (ps_set hN hi a1 ((snd e).E g.g v h3) (swap_none h4 _) a2) fun Dn σ H q => set_k q
      · obtain ⟨h4, h5⟩ := and4 h4
        have hk : X.env.scope.kind = .function := by rw [g.g.sc]; exact g.kd
        have sw := swap_lc (n := pos.line) g.g.sc hk (t := x) (p := p) h4
        cases e2 : swB Γ.sc x p v with
        | false =>
          rw [e2] at sw
          exact impPS (ps_set hN hi a1 ((snd e).E g.g v h3) sw a2) fun Dn σ H q => set_k q
        | true =>
          rw [e2] at sw h5
          simp only at h5
          cases e with
          | lc tg it cond elt =>
            cases eh : Γ.hot with
            | true =>
              refine lc_with g.g (snd it) (snd cond) (snd elt) h3 (fun st H s Cc cl fp => L2H.blkH X st H s (compEnvC s cl Cc X.env) fp) (fun st H s Cc cl fp => g.g.blkH st H s Cc cl fp) fun y tgx itx ifs s lpos own e eo p1 p2 p3 p4 p5 p6 => ?_
              subst e
              have hl : X.env.scope.names.lookup x = some .local := by
                rw [g.g.sc]
                unfold swB at e2
                simp only [Bool.and_eq_true, beq_iff_eq] at e2
                exact e2.1.1
              have P := L2H.ps_setLcH (X := X) (pos := lpos) (g.g.hotc eh) hN hi hl sw (p1.2 eh) p2 (fun st H cl Cc fp => p3 st H cl Cc fp) (fun st H cl Cc fp => p4 st H cl Cc fp) (fun st H cl Cc fp => p5 st H cl Cc fp) p6
              rw [eo] at P
              refine impPS P fun Dn σ H q => ?_
              have q2 := set_k q
              exact lc_ok (tD_of_tL q2)
            | false =>
            refine lc_with g.g (snd it) (snd cond) (snd elt) h3 (fun st H s Cc cl fp => X.blk st H s (compEnvC s cl Cc X.env) fp) (fun st H s Cc cl fp => g.g.blk eh st H s Cc cl fp) fun y tgx itx ifs s lpos own e eo p1 p2 p3 p4 p5 p6 => ?_
            subst e
            have hl : X.env.scope.names.lookup x = some .local := by
              rw [g.g.sc]
              unfold swB at e2
              simp only [Bool.and_eq_true, beq_iff_eq] at e2
              exact e2.1.1
            have P := ps_setLc (X := X) (pos := lpos) (g.g.calm eh) hN hi hl sw (p1.1 eh) p2 p3 p4 p5 p6
            rw [eo] at P
            refine impPS P fun Dn σ H q => ?_
            have q2 := set_k q
            exact lc_ok (tD_of_tL q2)
          | mkl a =>
           cases a with
           | lc tg it cond elt =>
             cases eh : Γ.hot with
             | true =>
               refine lc_with g.g (snd it) (snd cond) (snd elt) h3 (fun st H s Cc cl fp => L2H.blkH X st H s (compEnvC s cl Cc X.env) fp) (fun st H s Cc cl fp => g.g.blkH st H s Cc cl fp) fun y tgx itx ifs s lpos own e eo p1 p2 p3 p4 p5 p6 => ?_
               subst e
               have hl : X.env.scope.names.lookup x = some .local := by
                 rw [g.g.sc]
                 unfold swB at e2
                 simp only [Bool.and_eq_true, beq_iff_eq] at e2
                 exact e2.1.1
               have P := L2H.ps_setLcH (X := X) (pos := lpos) (g.g.hotc eh) hN hi hl sw (p1.2 eh) p2 (fun st H cl Cc fp => p3 st H cl Cc fp) (fun st H cl Cc fp => p4 st H cl Cc fp) (fun st H cl Cc fp => p5 st H cl Cc fp) p6
               rw [eo] at P
               refine impPS P fun Dn σ H q => ?_
               have q2 := set_k q
               exact lc_ok (tL_of_mkl q2)
             | false =>
             refine lc_with g.g (snd it) (snd cond) (snd elt) h3 (fun st H s Cc cl fp => X.blk st H s (compEnvC s cl Cc X.env) fp) (fun st H s Cc cl fp => g.g.blk eh st H s Cc cl fp) fun y tgx itx ifs s lpos own e eo p1 p2 p3 p4 p5 p6 => ?_
             subst e
             have hl : X.env.scope.names.lookup x = some .local := by
               rw [g.g.sc]
               unfold swB at e2
               simp only [Bool.and_eq_true, beq_iff_eq] at e2
               exact e2.1.1
             have P := ps_setLc (X := X) (pos := lpos) (g.g.calm eh) hN hi hl sw (p1.1 eh) p2 p3 p4 p5 p6
             rw [eo] at P
             refine impPS P fun Dn σ H q => ?_
             have q2 := set_k q
             exact lc_ok (tL_of_mkl q2)
           | _ => cases h5
          | _ => cases h5
    all_goals cases h
  | .tset ts e, st, h => by
    unfold ckS at h
    split at h
    case h_1 es2 p k v pos =>
      obtain ⟨h, h3⟩ := and4 h
      obtain ⟨h1, h2⟩ := and4 h
      have hw : swappedStores [.Tuple es2 p k] v X.env = pure none := by
        split at h3
        · exact swR_ok g.g.sc (by rw [g.g.sc]; exact g.kd) (of_decide_eq_true h3) _ _ _ _
        · rename_i hn
          exact sw_none fun vs k2 p2 e => hn vs k2 p2 e
      refine impPS (ps_asg ((snd e).E g.g v h2) (pg_ok g.g (.tp ts) (.Tuple es2 p k) h1) (by unfold swapsWithSole; exact swap_tup) hw (by rfl)) fun Dn σ H q => ?_
      refine s1 q fun z ρ W d v k r rv h => ?_
      obtain ⟨ρ', hb, h⟩ := h.bind.opt k
      exact ⟨z, ρ, W, d, ρ', rfl, k, r, rv, hb, fun σ' r' _ => h.pure0 k σ' r'⟩
    all_goals cases h
  | .par is e, st, h => by
    unfold ckS at h
    split at h
    case h_1 es2 k p vs k2 p2 pos =>
      obtain ⟨h, h3⟩ := and4 h
      obtain ⟨h, h2⟩ := and4 h
      obtain ⟨h0, h1⟩ := and4 h
      split at h3
      · rename_i ns hns
        exact ps_parN g (by simpa using h0) h1 hns h3
      · cases h3
    all_goals cases h
  | .setix o i e, st, h => by
    unfold ckS at h
    split at h
    case h_1 p q sp v pos =>
      obtain ⟨h, h4⟩ := and4 h
      obtain ⟨h, h3⟩ := and4 h
      obtain ⟨h1, h2⟩ := and4 h
      refine impPS (ps_asg ((snd e).E g.g v h2) (pg_sub ((snd o).E g.g p h3) ((snd i).E g.g q h4) set_list (asg_sub h1)) (by unfold swapsWithSole; exact swap_sub) sw_sub (by rfl)) fun Dn σ H hq => ?_
      refine s1 hq fun z ρ W d v k r rv h => ?_
      refine ⟨z, ρ, W, rfl, k, r, h.bind.mono (fun d1 W1 k1 l1 h1 v1 rv1 => ?_) fun c xs W' k' l' q d hd => q σ d hd⟩
      refine ⟨z, ρ, W1, rfl, k1, r.le l1, h1.bind.mono (fun d2 W2 k2 l2 h2 v2 rv2 => ?_) fun c xs W' k' l' q d hd => q σ d hd⟩
      obtain ⟨n, a, xs, vs, i, j, W3, e1, e2, e3, e4, e5, k3, l3, e6, h3⟩ := store_ok k2 (rv1.le l2) rv2 ((rv.le l1).le l2) h2.bind
      exact ⟨a, vs, i, j, e1, e2, e3, e4, by rw [← e5]; exact h3.pure0 k3 σ ((((r.le l1).le l2).le l3))⟩
    all_goals cases h
  | .dset o i e, st, h => by
    unfold ckS at h
    split at h
    case h_1 p q sp v pos =>
      obtain ⟨h, h4⟩ := and4 h
      obtain ⟨h, h3⟩ := and4 h
      obtain ⟨h1, h2⟩ := and4 h
      refine impPS (ps_asg ((snd e).E g.g v h2) (pg_sub ((snd o).E g.g p h3) ((snd i).E g.g q h4) (set_dict (by have := g.g.room; omega)) (asg_sub h1)) (by unfold swapsWithSole; exact swap_sub) sw_sub (by rfl)) fun Dn σ H hq => ?_
      refine s1 hq fun z ρ W d v k r rv h => ?_
      refine ⟨z, ρ, W, rfl, k, r, h.bind.mono (fun d1 W1 k1 l1 h1 v1 rv1 => ?_) fun c xs W' k' l' q d hd => q σ d hd⟩
      refine ⟨z, ρ, W1, rfl, k1, r.le l1, h1.bind.mono (fun d2 W2 k2 l2 h2 v2 rv2 => ?_) fun c xs W' k' l' q d hd => q σ d hd⟩
      have h2 := h2.bind
      by_cases hq : ∃ ds, d2 = .tup ds
      · obtain ⟨ds, rfl⟩ := hq
        exact (show False from h2).elim
      · have eq : storeK d1 d2 d = storeD d1 d2 d := by
          unfold storeK
          cases d2 <;> first | rfl | exact absurd ⟨_, rfl⟩ hq
        rw [eq] at h2
        obtain ⟨a, W3, e1, k3, l3, h3, e2, _⟩ := dput_ok k2 (rv1.le l2) rv2 ((rv.le l1).le l2) h2
        exact ⟨a, W3.H, e1, e2 fun ds y => hq ⟨ds, y⟩, h3.pure0 k3 σ ((((r.le l1).le l2).le l3))⟩
    all_goals cases h
  | .dsetT o es e, st, h => by
    unfold ckS at h
    split at h
    case h_1 p xs kk tp sp v pos =>
      obtain ⟨h, h3⟩ := and4 h
      obtain ⟨h1, h2⟩ := and4 h
      refine impPS (ps_asg ((snd e).E g.g v h1) (pg_sub ((snd o).E g.g p h2) (pe_tup ((snd es).Es g.g xs h3)) (set_dict (by have := g.g.room; omega)) (asg_sub rfl)) (by unfold swapsWithSole; exact swap_sub) sw_sub (by rfl)) fun Dn σ H hq => ?_
      refine s1 hq fun z ρ W d v k r rv h => ?_
      refine ⟨z, ρ, W, rfl, k, r, h.bind.mono (fun d1 W1 k1 l1 h1 v1 rv1 => ?_) fun c xs W' k' l' q d hd => q σ d hd⟩
      refine ⟨z, ρ, W1, rfl, k1, r.le l1, h1.bind.mono (fun ds W2 k2 l2 h2 vs rvs => ?_) fun c xs W' k' l' q d hd => q σ d hd⟩
      have h2 := h2.bind
      unfold lenOk at h2
      rcases h2.ite with ⟨hl, h2⟩ | ⟨_, h2⟩
      · refine ⟨by rw [← rvs.len]; exact hl, fun pa hp => ?_⟩
        have h2 := (h2.pure0 k2).bind
        obtain ⟨k4, l4, f4⟩ := k2.new (o := .tup vs) hp
        obtain ⟨a, W3, e1, k3, l3, h3, _, e2⟩ := dput_ok k4 ((rv1.le l2).le l4) (Rp.tup (SqT.of f4) (rvs.le l4)) (((rv.le l1).le l2).le l4) (h2.at_ (W' := ⟨W2.m, W2.μ, upd W2.H pa (.tup vs)⟩) rfl l4)
        obtain ⟨b, e3, e5⟩ := e2 ds rfl
        cases e3
        exact ⟨a, W3.H, e1, e5 vs (rvs.le l4) upd_same, h3.pure0 k3 σ (((((r.le l1).le l2).le l4).le l3))⟩
      · exact h2.bad.elim
    all_goals cases h
  | .app o e, st, h => by
    unfold ckS at h
    split at h
    case h_1 p m apos x pos epos =>
      obtain ⟨h, h6⟩ := and4 h
      obtain ⟨h, h5⟩ := and4 h
      obtain ⟨h, h4⟩ := and4 h
      obtain ⟨h, h3⟩ := and4 h
      obtain ⟨h1, h2⟩ := and4 h
      cases of_decide_eq_true h1
      refine impPS (ps_expr (pe_bm PySem.F.plainAttrs_list PySem.F.slot_list_append PySem.F.type_list_append mt_append ((snd o).E g.g p h5) (pa_cons ((snd e).E g.g x h6) pa_nil (star_of h3)) (base_of h4) (by rw [star_of h3]; rfl) h2 (star_of h3)) (swap_none rfl _)) fun Dn σ H q => ?_
      show tD G Wx (ev C Kc o).e σ H fun x H1 => tyV X.K "list" x H1 ∧ tCons (tD G Wx (ev C Kc e).e) tNil σ H1 fun xs H2 => rAppend x xs H2 fun _ H3 => Dn.nx σ H3
      refine s1 q fun z ρ W d v k r rv h => ?_
      obtain ⟨a, xs, vs, rfl, q1, q2, h⟩ := seqL_ok k rv h.bind
      refine ⟨.inl ⟨rfl, vs, SqL.of q1⟩, z, ρ, W, rfl, k, r, h.bind.mono (fun d1 W1 k1 l1 h1 v1 rv1 => ?_) fun c xs W' k' l' q d hd => q σ d hd⟩
      obtain ⟨a2, us, W2, e1, e2, e3, e4, k2, l2, h2⟩ := app_ok1 k1 (rv.le l1) rv1 h1.bind
      cases e1
      exact ⟨a, us, v1, rfl, rfl, e2, e3, by rw [← e4]; exact h2.pure0 k2 σ ((r.le l1).le l2)⟩
    all_goals cases h
  | .raise c, st, h => by
    unfold ckS at h
    split at h
    case h_1 y p m j p2 pos rpos =>
      obtain ⟨h, h4⟩ := and4 h
      obtain ⟨h, h3⟩ := and4 h
      obtain ⟨h1, h2⟩ := and4 h
      have eh : Γ.hot = false := by simpa using h1
      obtain ⟨x1, x2, x3⟩ := g.g.exr _ _ (of_decide_eq_true h2)
      refine impPS (L2N.ps_raise (g.g.calm eh) g.g.tk (L2N.pmk_own PySem.F.excBase_ValueError x1 (g.g.exk _ _ _ (of_decide_eq_true h2)) x2 x3 (gl_of g.g.sc h3) (nm_of h4).1)) fun Dn σ H ⟨z, ρ, W, e, k, r, h⟩ => ?_
      subst e
      exact h W rfl k (Le.refl _ _) σ none rfl
    all_goals cases h
  | .expr e, st, h => by
    unfold ckS at h
    split at h
    case h_1 v pos =>
      obtain ⟨h1, h2⟩ := and4 h
      refine impPS (ps_expr ((snd e).E g.g v h2) (swap_none h1 _)) fun Dn σ H q => ?_
      exact s1 q fun z ρ W d v k r rv h => h.pure0 k σ r
    all_goals cases h
  | .ret e, st, h => by
    unfold ckS at h
    split at h
    case h_1 v pos =>
      refine impPS (ps_ret ((snd e).E g.g v h)) fun Dn σ H q => ?_
      exact s1 q fun z ρ W d v k r rv h => h.pure0 k v rv
    all_goals cases h
  | .ite c a b, st, h => by
    unfold ckS at h
    split at h
    case h_1 t p q pos =>
      obtain ⟨h, h3⟩ := and4 h
      obtain ⟨h1, h2⟩ := and4 h
      refine impPS (ps_if ((snd c).T g.g t h1) (pss_ok g a p h2) (pss_ok g b q h3)) fun Dn σ H q => ?_
      obtain ⟨z, ρ, W, e, k, rr, h⟩ := q
      refine ⟨z, ρ, W, e, k, rr, h.bind.mono (fun t W' k' l' q => ?_) fun c xs W' k' l' q d hd => q σ d hd⟩
      cases t with
      | true =>
        rw [if_pos rfl]
        rw [if_pos rfl] at q
        exact ⟨z, ρ, W', rfl, k', rr.le l', q⟩
      | false =>
        rw [if_neg Bool.false_ne_true]
        rw [if_neg Bool.false_ne_true] at q
        exact ⟨z, ρ, W', rfl, k', rr.le l', q⟩
    all_goals cases h
  | .for tg it b, st, h => by
    unfold ckS at h
    split at h
    case h_1 t i p pos =>
      obtain ⟨h, h4⟩ := and4 h
      obtain ⟨h, h3⟩ := and4 h
      obtain ⟨h, h2⟩ := and4 h
      obtain ⟨h0, h1⟩ := and4 h
      have eh : Γ.hot = false := by simpa using h0
      exact impPS (ps_for (g.po eh) (g.g.calm eh) (((snd it).I g.g t i h2).1 eh) (pg_ok g.g tg t h1) (pss_ok g b p h4) (set_of h3)) fun Dn σ H q => for_ok q
    all_goals cases h
  | .while n c b, st, h => by
    unfold ckS at h
    split at h
    case h_1 t p pos =>
      obtain ⟨h, h2⟩ := and4 h
      obtain ⟨h0, h1⟩ := and4 h
      have eh : Γ.hot = false := by simpa using h0
      exact impPS (ps_while (g.po eh) ((snd c).T g.g t h1) (pss_ok g b p h2)) fun Dn σ H q => while_ok q
    all_goals cases h
  | .never, st, h => impPS ps_never fun Dn σ H ⟨z, ρ, W, e, k, r, h⟩ => h.bad
  | .pass, st, h => by
    unfold ckS at h
    split at h
    case h_1 => exact impPS ps_pass fun Dn σ H ⟨z, ρ, W, e, k, r, h⟩ => by subst e; exact (show Wp G z W (M.pure (Out.nx ρ)) _ _ from h).pure0 k σ r
    all_goals cases h
  | .brk, st, h => by
    unfold ckS at h
    split at h
    case h_1 => exact impPS ps_break fun Dn σ H ⟨z, ρ, W, e, k, r, h⟩ => by subst e; exact (show Wp G z W (M.pure (Out.bk ρ)) _ _ from h).pure0 k σ r
    all_goals cases h
  | .cont, st, h => by
    unfold ckS at h
    split at h
    case h_1 => exact impPS ps_continue fun Dn σ H ⟨z, ρ, W, e, k, r, h⟩ => by subst e; exact (show Wp G z W (M.pure (Out.ct ρ)) _ _ from h).pure0 k σ r
    all_goals cases h
  | .nil, st, h => nomatch (show false = true from h)
  | .cons _ _, st, h => nomatch (show false = true from h)
theorem pss_ok (g : GoodS G C Kc Γ X Wx) : ∀ (s : Sz) (sts : List Stmt), ckB Γ s sts = true → PSs X sts (tS G Wx (evS C Kc s))
  | .nil, [], _ => impPSs pss_nil fun Dn σ H ⟨z, ρ, W, e, k, r, h⟩ => by subst e; exact (show Wp G z W (M.pure (Out.nx ρ)) _ _ from h).pure0 k σ r
  | .never, sts, _ => impPSs pss_never fun Dn σ H ⟨z, ρ, W, e, k, r, h⟩ => h.bad
  | .cons s ss, st :: sts, h => by
    obtain ⟨h1, h2⟩ := and4 (show (ckS Γ s st && ckB Γ ss sts) = true from h)
    refine impPSs (pss_cons (ps_ok g s st h1) (pss_ok g ss sts h2)) fun Dn σ H q => ?_
    obtain ⟨z, ρ, W, e, k, rr, h⟩ := q
    have h : Wp G z W ((evS C Kc s ρ).bind fun o => match o with
      | .nx ρ1 => evS C Kc ss ρ1
      | o => M.pure o) (outW G z Dn) (exS G z Wx) := h
    refine ⟨z, ρ, W, e, k, rr, h.bind.mono (fun o W' k' l' h => ?_) fun _ _ _ _ _ q => q⟩
    cases o with
    | nx ρ1 => exact fun σ' r' => ⟨z, ρ1, W', rfl, k', r', h⟩
    | rt v => exact (show Wp G z W' (M.pure (Out.rt v)) _ _ from h).pure0 k'
    | bk ρ1 => exact (show Wp G z W' (M.pure (Out.bk ρ1)) _ _ from h).pure0 k'
    | ct ρ1 => exact (show Wp G z W' (M.pure (Out.ct ρ1)) _ _ from h).pure0 k'
  | .nil, _ :: _, h => by cases h
  | .cons _ _, [], h => by cases h
  | .set _ _, sts, h => by cases sts <;> cases h
  | .tset _ _, sts, h => by cases sts <;> cases h
  | .par _ _, sts, h => by cases sts <;> cases h
  | .setix _ _ _, sts, h => by cases sts <;> cases h
  | .dset _ _ _, sts, h => by cases sts <;> cases h
  | .dsetT _ _ _, sts, h => by cases sts <;> cases h
  | .app _ _, sts, h => by cases sts <;> cases h
  | .raise _, sts, h => by cases sts <;> cases h
  | .expr _, sts, h => by cases sts <;> cases h
  | .ret _, sts, h => by cases sts <;> cases h
  | .ite _ _ _, sts, h => by cases sts <;> cases h
  | .for _ _ _, sts, h => by cases sts <;> cases h
  | .while _ _ _, sts, h => by cases sts <;> cases h
  | .pass, sts, h => by cases sts <;> cases h
  | .brk, sts, h => by cases sts <;> cases h
  | .cont, sts, h => by cases sts <;> cases h
end
end
end DL
/-! DL12: defs; the cup and its rolls -/
namespace DL
open PySem PyProof.Rows L2 PySem.Spec

/-- a def of the text: its name, where it is written, its names by slot, its parameters, its body in own syntax -/
structure Dr where
  name : Str
  st : Stmt
  N : List Str
  ps : List Str
  body : Sz
  lam : Bool
def Dr.df (d : Dr) : Df := ⟨d.N.length, d.ps.length, d.body⟩
def fnsOf (ds : List Dr) : List (Str × Nat) := ds.map fun d => (d.name, d.ps.length)
def fnScB (N ps : List Str) (sc : Scope) : Bool :=
  decide (sc.kind = .function) && !sc.isCoroutine && !sc.isGenerator && decide N.Nodup && decide (N.take ps.length = ps) &&
    (ps.all fun x => match sc.names.lookup x with
      | some .local => true
      | some .cell => true
      | _ => false) && sc.names.all fun y => !decide (y.2 = .free)
theorem fnSc_ok {N ps : List Str} {sc : Scope} (h : fnScB N ps sc = true) : FnScope N ps sc := by
  unfold fnScB at h
  simp only [Bool.and_eq_true, decide_eq_true_eq, Bool.not_eq_true', List.all_eq_true, decide_eq_false_iff_not] at h
  obtain ⟨⟨⟨⟨⟨⟨h1, h2⟩, h3⟩, h4⟩, h5⟩, h6⟩, h7⟩ := h
  refine ⟨h1, h2, h3, h4, h5, fun x hx => ?_, h7⟩
  have q := h6 x hx
  split at q
  · exact .inl (by assumption)
  · exact .inr (by assumption)
  · cases q
/-- what all defs of a text share: defs, constants, gcd, defs that try (with their numbers), classes of exceptions -/
structure Sh where
  fns : List (Str × Nat)
  cns : List Str
  gcd : Bool
  ers : List (Nat × Str)
  exs : List (Str × Bool)
def Sh.cx (h : Sh) (N : List Str) (sc : Scope) (lam : Bool) : Cxt := ⟨N, sc, none, h.fns, h.cns, h.gcd, false, lam, h.ers, h.exs⟩
def ckDr (h : Sh) (d : Dr) : Bool := ckB (h.cx d.N (defScope d.st) d.lam) d.body (defBody d.st) && fnScB d.N d.ps (defScope d.st)

/-- nothing is promised -/
theorem fn_bad {P : Program} {w : World} {K : PySem.W.Frag} {mg : Str → Option Value} {base : Heap} {CX : CXT} {G : Gx} {k n : Nat} {f : Addr} {fd : FuncData} {ps : List Str} {c : List D → M D} (hc : ∀ ds, c ds = M.bad) : FnOk P w K mg base CX k f fd ps (spD G n c) := by
  have no : ∀ vs H Q E, ¬ spD G n c vs H Q E := by
    rintro vs H Q E ⟨z, ds, W, e, _, _, _, h⟩
    rw [hc] at h
    exact h.bad
  exact ⟨fun vs H Q E h => absurd h (no vs H Q E), fun A outer s H args us vs Q E _ _ _ _ h => absurd h (no vs H Q E)⟩
theorem start_env {G : Gx} {z : List Addr} {W : Wd} {ds : List D} {vs : List V} (r : RpsW G z W ds vs) (N : List Str) : EnvR G z W (ds.map some ++ List.replicate (N.length - ds.length) none) (L2.start N vs) := by
  have hl := r.len
  refine ⟨by unfold L2.start; rw [List.length_append, List.length_append, List.length_map, List.length_map, List.length_replicate, List.length_replicate, hl], fun i d e => ?_⟩
  by_cases hi : i < ds.length
  · rw [List.getElem?_append_left (by rw [List.length_map]; exact hi), List.getElem?_map] at e
    cases q : ds[i]? with
    | none => rw [q] at e; cases e
    | some d' =>
      rw [q] at e
      cases e
      obtain ⟨v, h1, h2⟩ := r.get q
      refine ⟨v, ?_, h2⟩
      unfold L2.start
      rw [List.getElem?_append_left (by rw [List.length_map, ← hl]; exact hi), List.getElem?_map, h1]
      rfl
  · rw [List.getElem?_append_right (by rw [List.length_map]; omega)] at e
    have := List.mem_of_getElem? e
    have := List.eq_of_mem_replicate this
    cases this
/-- the facts of the classes of exceptions -/
structure ExcF (G : Gx) (K : PySem.W.Frag) (mg : Str → Option Value) (exs : List (Str × Bool)) : Prop where
  mg : ∀ j x f, exs[j]? = some (x, f) → mg x = some (.ref (G.ca j))
  mak : ∀ j x, exs[j]? = some (x, true) → PySem.W.excIn K (G.ca j) He.veBase "ValueError.__new__" = true ∧ PySem.W.keepIn K (.ref (G.ca j)) = true ∧ PySem.W.subIn K (.ref (G.ca j)) (.type "BaseException") = some true ∧ PySem.W.typeIn K (.ref (G.ca j)) = some (.type "type")
  is : ∀ j x, exs[j]? = some (x, true) → ExcC K (G.ca j)
  kit : ∀ j x q y f, exs[j]? = some (x, true) → exs[q]? = some (y, f) → PySem.W.kitOne K (.ref (G.ca j)) (.ref (G.ca q)) = some (j == q)
/-- a checked def does what its body's run says -/
theorem def_ok {P : Program} {w : World} {K : PySem.W.Frag} {mg : Str → Option Value} {base : Heap} {G : Gx} {C : Nat → List D → M D} {Kc : Nat → D} {n : Nat} {h : Sh} {d : Dr} {f : Addr} {fd : FuncData}
    (hK : K = G.K) (F : FunD K d.name d.name (defArgs d.st) (defBody d.st) (defScope d.st) [] [] f fd) (hc : ckDr h d = true)
    (bi : ∀ x ∈ builtins, mg x = none) (con : ∀ k x, h.cns[k]? = some x → ∃ v u, mg x = some u ∧ RelV v u ∧ ∀ F m, Rp G F m (Kc k) v) (hg : h.gcd = true → mg "gcd" = some (.builtin "math.gcd"))
    (hf : ∀ k x n, h.fns[k]? = some (x, n) → mg x = some (.ref (G.fa k)) ∧ PySem.W.keepIn K (.ref (G.fa k)) = true) (hn : h.fns.length = G.nf)
    (ar : ∀ k x n, h.fns[k]? = some (x, n) → ∀ (z : List Addr) (W : Wd) (ds : List D) (P : D → Wd → Prop) (Ex : Nat → List D → Wd → Prop), Wp G z W (C k ds) P Ex → ds.length = n)
    (calls : ∀ k x m, h.fns[k]? = some (x, m) → ∃ fd ps, Binds K fd ps [] ∧ FnOk P w K mg base (L2N.CX P w) n (G.fa k) fd ps (spD G m (C k)))
    (xf : ExcF G K mg h.exs) (er : ∀ k x, h.ers.lookup k = some x → ErrK G P w K mg base (C k) x)
    (hl : d.lam = true → ∀ c, fd.code = .ref c → ∃ T, LamX.TabB base mg c T ∧ (T, d.name ++ ".<locals>." ++ "<lambda>") ∈ G.T ∧ ∀ p ∈ G.T, p.1 = T → p.2 = d.name ++ ".<locals>." ++ "<lambda>") :
    FnOk P w K mg base (L2N.CX P w) (n + 3) f fd d.ps (spD G d.ps.length fun as => if as.length = d.ps.length then run C Kc d.N.length d.body as else M.bad) := by
  obtain ⟨h1, h2⟩ := and4 hc
  have S := fnSc_ok h2
  obtain ⟨oc, od, dV, kV, doc, pm, an, cdv, ct, osl, rfl, lk, hcd, _, _⟩ := F.ex
  refine fn_of (k := n + 2) lk hcd S (fun vs H Q E h => ?_) (fun A outer s H vs Q E hr h => ?_)
  · obtain ⟨z, ds, W, e, hl, _⟩ := h
    exact hl
  · obtain ⟨z, ds, W, e, hl2, k, r, hw⟩ := h
    have g : Good G C Kc (h.cx d.N (defScope d.st) d.lam) (cxOf (L2N.CX P w) P w K mg base d.N d.name (defScope d.st) f cdv A outer s H E) (fun cls dd _ H => E cls dd H) := {
      K := hK
      N := rfl
      nd := S.nd
      sc := rfl
      calm := fun _ => rfl
      hotc := fun e => nomatch (show false = true from e)
      fn := rfl
      tk := L2N.takes_of rfl rfl rfl rfl
      room := hr.units
      bi := bi
      con := con
      gcd := hg
      fns := hf
      arity := ar
      nf := fun k x m e => by
        rw [← hn]
        exact (List.getElem?_eq_some_iff.mp e).1
      fnr := fun _ k hk => by
        rw [← hn] at hk
        exact ⟨_, _, List.getElem?_eq_getElem hk⟩
      calls := fun _ => ⟨n, by
        split
        · exact hr
        · exact hr.mono (by omega), calls⟩
      lamc := fun e => by
        obtain ⟨c, rfl⟩ := He.codeIn_ref hcd
        obtain ⟨T, t1, t2, t3⟩ := hl e c rfl
        exact ⟨c, T, rfl, t1, t2, t3⟩
      errs := er
      exk := xf.mg
      exr := fun j x e => ⟨(xf.mak j x e).1, (xf.mak j x e).2.1, raises_own (xf.mak j x e).2.2.1 (xf.mak j x e).2.2.2⟩
      hx := fun e => nomatch (show false = true from e) }
    have gs : GoodS G C Kc (h.cx d.N (defScope d.st) d.lam) (cxOf (L2N.CX P w) P w K mg base d.N d.name (defScope d.st) f cdv A outer s H E) (fun cls dd _ H => E cls dd H) := ⟨g, fun _ => passes_of rfl, S.kind⟩
    refine ⟨_, pss_ok gs d.body _ h1, ?_⟩
    rcases hw.ite with ⟨q, hw⟩ | ⟨_, hw⟩
    case inr => exact hw.bad.elim
    refine ⟨z, ds.map some ++ List.replicate (d.N.length - ds.length) none, W, e, k, start_env r d.N, ?_⟩
    unfold run at hw
    refine hw.bind.mono (fun o W' k' l' h => ?_) fun c xs W' k' l' q σ dd hd => q dd hd
    cases o with
    | nx ρ => exact fun σ _ => (show Wp G z W' (M.pure D.non) _ _ from h).pure0 k' _ .non
    | rt v => exact (show Wp G z W' (M.pure v) _ _ from h).pure0 k'
    | bk ρ => exact (show Wp G z W' M.bad _ _ from h).bad.elim
    | ct ρ => exact (show Wp G z W' M.bad _ _ from h).bad.elim

/-! ### what is let go -/
section
variable {G : Gx}
theorem D.noRefs_iff {n : Nat} : ∀ {ds : List D}, D.noRefs n ds = true ↔ ∀ d ∈ ds, D.noRef n d = true
  | [] => by simp [D.noRefs]
  | x :: xs => by simp [D.noRefs, D.noRefs_iff]
mutual
theorem Rp.cut {F F' : Hp} {m : List Addr} {n : Nat} (e : Ext F F') : ∀ {d : D} {v : V}, Rp G F m d v → D.noRef n d = true → Rp G F' (m.take n) d v
  | _, _, .non, _ => .non
  | _, _, .bl b, _ => .bl b
  | _, _, .int i, _ => .int i
  | _, _, .str x, _ => .str x
  | _, _, .tup h r, q => .tup (e.sqT h) (Rps.cut e r q)
  | _, _, .lst h r, q => .lst (e _ _ h (fun _ q => nomatch q)) (Rps.cut e r q)
  | _, _, .ref (n := k) h, q => .ref (by
      have q : Nat.blt k n = true := q
      rw [List.getElem?_take_of_lt (Nat.le_of_ble_eq_true q)]
      exact h)
  | _, _, .fn k h, _ => .fn k h
  | _, _, .cls k, _ => .cls k
  | _, _, .ty n, _ => .ty n
  | _, _, .scr h, _ => .scr (e.sqL h)
  | _, _, .exn h, _ => .exn h
theorem Rps.cut {F F' : Hp} {m : List Addr} {n : Nat} (e : Ext F F') : ∀ {ds : List D} {vs : List V}, Rps G F m ds vs → D.noRefs n ds = true → Rps G F' (m.take n) ds vs
  | _, _, .nil, _ => .nil
  | _, _, .cons h t, q => .cons (Rp.cut e h (Bool.and_eq_true_iff.mp q).1) (Rps.cut e t (Bool.and_eq_true_iff.mp q).2)
end
theorem take_get {α : Type} {l : List α} {n i : Nat} {a : α} (h : (l.take n)[i]? = some a) : i < n ∧ l[i]? = some a := by
  rw [List.getElem?_take] at h
  split at h
  · exact ⟨by assumption, h⟩
  · cases h
theorem paired_mem {α β : Type} {R R' : α → β → Prop} {c : α → Bool} (h : ∀ a b, R a b → c a = true → R' a b) : ∀ {xs : List α} {ys : List β}, Paired R xs ys → xs.all c = true → Paired R' xs ys
  | _, _, .nil, _ => .nil
  | _, _, .cons r t, q => by
    simp only [List.all_cons, Bool.and_eq_true] at q
    exact .cons (h _ _ r q.1) (paired_mem h t q.2)
theorem cut_ok {z : List Addr} {W W' : Wd} (k0 : Mok G z W) (k : Mok G z W') (l : Le z W W') (hq : (W'.μ.take W.μ.length).all (Ob.noRef W.μ.length) = true) :
    Mok G z ⟨W'.m.take W.μ.length, W'.μ.take W.μ.length, W'.H⟩ ∧ Le z W ⟨W'.m.take W.μ.length, W'.μ.take W.μ.length, W'.H⟩ ∧ Ext (W'.F z) (Wd.F z ⟨W'.m.take W.μ.length, W'.μ.take W.μ.length, W'.H⟩) := by
  obtain ⟨n, hn⟩ : ∃ n, n = W.μ.length := ⟨_, rfl⟩
  rw [← hn] at hq ⊢
  have lv : ∀ b, Wd.lv ⟨W'.m.take n, W'.μ.take n, W'.H⟩ b → W'.lv b := fun b ⟨i, h1, h2⟩ => by
    obtain ⟨q1, q2⟩ := take_get h2
    refine ⟨i, ?_, q2⟩
    unfold live at h1 ⊢
    rw [show (Wd.μ ⟨W'.m.take n, W'.μ.take n, W'.H⟩)[i]? = W'.μ[i]? from List.getElem?_take_of_lt q1] at h1
    exact h1
  have lvi : ∀ i, live (W'.μ.take n) i → live W'.μ i := fun i h1 => by
    unfold live at h1 ⊢
    cases q : (W'.μ.take n)[i]? with
    | none => rw [q] at h1; exact h1.elim
    | some o =>
      rw [q] at h1
      rw [(take_get q).2]
      exact h1
  have ext : Ext (W'.F z) (Wd.F z ⟨W'.m.take n, W'.μ.take n, W'.H⟩) := fun b o e _ => by
    obtain ⟨h1, h2, h3⟩ := Wd.F_some e
    exact Wd.F_of h1 h2 fun q => h3 (lv b q)
  refine ⟨{ len := ?_, inj := fun i j a h1 h2 e1 e2 => k.inj i j a (lvi i h1) (lvi j h2) (take_get e1).2 (take_get e2).2, zl := fun b hb q => k.zl b hb (lv b q), zs := k.zs, tabs := k.tabs, ob := fun i a o e1 e2 => ?_ }, ⟨fun i a e => ?_, l.ext.trans ext, l.zk⟩, ext⟩
  · show (W'.m.take n).length = (W'.μ.take n).length
    rw [List.length_take, List.length_take, k.len]
  · have q : Ob.noRef n o = true := List.all_eq_true.mp hq o (List.mem_of_getElem? e2)
    have h := k.ob i a o (take_get e1).2 (take_get e2).2
    cases o with
    | lst xs =>
      obtain ⟨vs, h1, h2⟩ := h
      exact ⟨vs, h1, Rps.cut ext h2 q⟩
    | fro d => exact Rp.cut ext (show Rp G _ _ d (.ref a) from h) q
    | cup => exact h
    | dK kvs =>
      obtain ⟨ks, h1, h2⟩ := h
      exact ⟨ks, h1, paired_mem (fun p q r c => by
        obtain ⟨c1, c2⟩ := Bool.and_eq_true_iff.mp c
        exact ⟨Rp.cut ext r.1 c1, Rp.cut ext r.2 c2⟩) h2 q⟩
    | dT kvs =>
      obtain ⟨ks, h1, h2⟩ := h
      exact ⟨ks, h1, paired_mem (fun p q r c => by
        obtain ⟨c1, c2⟩ := Bool.and_eq_true_iff.mp c
        obtain ⟨⟨ds, e1, e2⟩, r2⟩ := r
        rw [e1] at c1
        exact ⟨⟨ds, e1, Rps.cut ext e2 c1⟩, Rp.cut ext r2 c2⟩) h2 q⟩
  · show (W'.m.take n)[i]? = some a
    have : i < n := by
      rw [hn, ← k0.len]
      exact (List.getElem?_eq_some_iff.mp e).1
    rw [List.getElem?_take_of_lt this]
    exact l.pre i a e
end
/-! ### what is known of a caught exception -/
abbrev Gx.at_ (G : Gx) (a : Addr) : Gx := { G with xa := some a }
section
variable {G : Gx} {F : Hp} {m : List Addr} {a : Addr}
mutual
theorem Rp.up (hx : G.xa = none) : ∀ {d : D} {v : V}, Rp G F m d v → Rp (G.at_ a) F m d v
  | _, _, .non => .non
  | _, _, .bl b => .bl b
  | _, _, .int i => .int i
  | _, _, .str x => .str x
  | _, _, .tup h r => .tup h (Rps.up hx r)
  | _, _, .lst h r => .lst h (Rps.up hx r)
  | _, _, .ref h => .ref h
  | _, _, .fn k h => .fn (G := G.at_ a) k h
  | _, _, .cls k => .cls (G := G.at_ a) k
  | _, _, .ty n => .ty n
  | _, _, .scr h => .scr h
  | _, _, .exn h => by rw [hx] at h; cases h
theorem Rps.up (hx : G.xa = none) : ∀ {ds : List D} {vs : List V}, Rps G F m ds vs → Rps (G.at_ a) F m ds vs
  | _, _, .nil => .nil
  | _, _, .cons h t => .cons (Rp.up hx h) (Rps.up hx t)
end
mutual
theorem Rp.down {n : Nat} : ∀ {d : D} {v : V}, Rp (G.at_ a) F m d v → D.noRef n d = true → Rp G F m d v
  | _, _, .non, _ => .non
  | _, _, .bl b, _ => .bl b
  | _, _, .int i, _ => .int i
  | _, _, .str x, _ => .str x
  | _, _, .tup h r, q => .tup h (Rps.down r q)
  | _, _, .lst h r, q => .lst h (Rps.down r q)
  | _, _, .ref h, _ => .ref h
  | _, _, .fn k h, _ => .fn (G := G) k h
  | _, _, .cls k, _ => .cls (G := G) k
  | _, _, .ty n, _ => .ty n
  | _, _, .scr h, _ => .scr h
  | _, _, .exn h, q => by cases q
theorem Rps.down {n : Nat} : ∀ {ds : List D} {vs : List V}, Rps (G.at_ a) F m ds vs → D.noRefs n ds = true → Rps G F m ds vs
  | _, _, .nil, _ => .nil
  | _, _, .cons h t, q => .cons (Rp.down h (Bool.and_eq_true_iff.mp q).1) (Rps.down t (Bool.and_eq_true_iff.mp q).2)
end
theorem Mok.up {z : List Addr} {W : Wd} (k : Mok G z W) (hx : G.xa = none) : Mok (G.at_ a) z W := ⟨k.len, k.inj, k.zl, k.zs, k.tabs, fun i b o e1 e2 => by
  have h := k.ob i b o e1 e2
  cases o with
  | lst xs => obtain ⟨vs, h1, h2⟩ := h; exact ⟨vs, h1, h2.up hx⟩
  | dK kvs => obtain ⟨ks, h1, h2⟩ := h; exact ⟨ks, h1, Paired.mapP h2 fun p q r => ⟨r.1.up hx, r.2.up hx⟩⟩
  | dT kvs => obtain ⟨ks, h1, h2⟩ := h; exact ⟨ks, h1, Paired.mapP h2 fun p q r => ⟨let ⟨ds, e1, e2⟩ := r.1; ⟨ds, e1, e2.up hx⟩, r.2.up hx⟩⟩
  | fro d => exact Rp.up hx (show Rp G _ _ d (.ref b) from h)
  | cup => exact h⟩
theorem Mok.down {z : List Addr} {W : Wd} {n : Nat} (k : Mok (G.at_ a) z W) (hq : W.μ.all (Ob.noRef n) = true) : Mok G z W := ⟨k.len, k.inj, k.zl, k.zs, k.tabs, fun i b o e1 e2 => by
  have h := k.ob i b o e1 e2
  have q : Ob.noRef n o = true := List.all_eq_true.mp hq o (List.mem_of_getElem? e2)
  cases o with
  | lst xs => obtain ⟨vs, h1, h2⟩ := h; exact ⟨vs, h1, h2.down q⟩
  | dK kvs =>
    obtain ⟨ks, h1, h2⟩ := h
    exact ⟨ks, h1, paired_mem (fun p q r c => by
      obtain ⟨c1, c2⟩ := Bool.and_eq_true_iff.mp c
      exact ⟨r.1.down c1, r.2.down c2⟩) h2 q⟩
  | dT kvs =>
    obtain ⟨ks, h1, h2⟩ := h
    exact ⟨ks, h1, paired_mem (fun p q r c => by
      obtain ⟨c1, c2⟩ := Bool.and_eq_true_iff.mp c
      obtain ⟨⟨ds, e1, e2⟩, r2⟩ := r
      rw [e1] at c1
      exact ⟨⟨ds, e1, Rps.down e2 c1⟩, r2.down c2⟩) h2 q⟩
  | fro d => exact Rp.down (show Rp (G.at_ a) _ _ d (.ref b) from h) q
  | cup => exact h⟩
end
/-! ### defs that try what they got -/
/-- name, where it is written, its names, the slot of the exception's name, the class it takes, the suite, the answer where nothing was raised -/
structure Er where
  name : Str
  st : Stmt
  N : List Str
  i : Nat
  ge : Str
  body : Sz
  ret : Str
def erCx (exs : List (Str × Bool)) (e : Er) : Cxt := ⟨e.N, defScope e.st, none, [], [], false, true, false, [], exs⟩
def noC : Nat → List D → M D := fun _ _ => M.bad
def outStr : Out → M D
  | .rt (.str x) => M.pure (.str x)
  | _ => M.bad
def Er.env (e : Er) : Env := (List.replicate e.N.length none).set e.i (some .exn)
def Er.run (e : Er) (c : Nat) : Env → M Out := evS noC (fun _ => .int c) e.body
/-- what it answers: behind the end [], behind an exception [.int c] -/
def errC (exs : List (Str × Bool)) (e : Er) : List D → M D
  | [] => M.pure (.str e.ret)
  | [.int c] => if 0 ≤ c ∧ (match exs[c.toNat]? with | some (_, f) => f | none => false) = true then (e.run c.toNat e.env).bind outStr else M.bad
  | _ => M.bad
def ckEr (exs : List (Str × Bool)) (e : Er) : Bool := match defBody e.st with
  | [.Try [.Expr (.Call (.Name a _) [] [] _) _] [.ExceptHandler (some (.Name ge _)) (some n) (b0 :: su) _] [] [] _, .Return (some (.Constant (.str r) _ _)) _] =>
    decide (e.N[0]? = some a) && decide (e.N[e.i]? = some n) && decide (ge = e.ge) && glB (defScope e.st) ge && okNm ge && okNm a && visB (defScope e.st) a && decide ((defScope e.st).names.lookup n = some .local) && decide (r = e.ret) &&
      ckB (erCx exs e) e.body (b0 :: su) && fnScB e.N [a] (defScope e.st)
  | _ => false
theorem vis_sc {sc : Scope} {x : Str} (g : visB sc x = true) : Vis sc x := by
  unfold visB at g
  split at g
  · exact .inl (by assumption)
  · exact .inr (.inl (by assumption))
  · exact .inr (.inr (by assumption))
  · cases g
theorem outW_rt {G : Gx} {z : List Addr} {Dn Dn' : Ends} {d : D} {W : Wd} (h : Dn.rt = Dn'.rt) (q : outW G z Dn (.rt d) W) : outW G z Dn' (.rt d) W := by
  unfold outW at q ⊢
  rw [← h]
  exact q
/-- what is wished of the suite -/
def SuW (G : Gx) (exs : List (Str × Bool)) (e : Er) (Q : VK) : XK := fun cls d H' => ∃ c x, exs[c]? = some (x, true) ∧ cls = .ref (G.ca c) ∧ d = none ∧ ∀ (a : Addr) (σ : L2.St) (Dn : Ends), σ.length = e.N.length → Dn.rt = Q → tS (G.at_ a) W0 (e.run c) Dn (σ.set e.i (some (.ref a))) H'
theorem er_sem {G : Gx} {exs : List (Str × Bool)} {e : Er} (hx : G.xa = none) (z : List Addr) (W1 : Wd) (m : M D) (Q : VK) (Ex : Nat → List D → Wd → Prop) (k1 : Mok G z W1) (h : Wp G z W1 (errM m (errC exs e)) (Wt G z Q) Ex)
    (E : XK) (Q' : VK) (hE : ∀ cls d H', SuW G exs e Q cls d H' → E cls d H') (hQ : ∀ v H', Q (.str e.ret) H' → Q' v H') : Wp G z W1 m (Wt G z Q') (fun c xs W' => ∀ d, ExR G z xs d W' → E (.ref (G.ca c)) d W'.H) := by
  refine T.good_mono (fun r q => ?_) (T.good_bind (show ((m W1.μ).bind _).good _ from h))
  cases r with
  | bad => exact (show False from q)
  | ok d μ' =>
    intro W' e' k' l' v _
    have q : (errEnd W1.μ.length (.ok (.str e.ret) μ')).good _ := q
    unfold errEnd at q
    dsimp only at q
    split at q
    · rename_i c
      obtain ⟨g1, g2, g3⟩ := cut_ok k1 k' l' (by rw [e']; exact c)
      exact hQ v _ ((show ∀ W2 : Wd, W2.μ = μ'.take W1.μ.length → Mok G z W2 → Le z W1 W2 → Wt G z Q (.str e.ret) W2 from q) ⟨W'.m.take W1.μ.length, W'.μ.take W1.μ.length, W'.H⟩ (by show W'.μ.take _ = _; rw [e']) g1 g2 _ (.str _))
    · exact (show False from q).elim
  | exc c xs μ' =>
    intro W' e' k' l' d hd
    cases xs with
    | cons x xs => exact (show False from q).elim
    | nil =>
      cases (show d = none from hd)
      have q : ((errC exs e [.int c] μ').bind (errEnd W1.μ.length)).good _ := q
      have hc : ∃ x, exs[c]? = some (x, true) := by
        cases ec : exs[c]? with
        | none =>
          have : errC exs e [.int c] = M.bad := if_neg (fun y => by
            have y2 := y.2
            rw [Int.toNat_natCast, ec] at y2
            cases y2)
          rw [this] at q
          exact (show False from q).elim
        | some p =>
          obtain ⟨x, f⟩ := p
          cases f with
          | true => exact ⟨x, rfl⟩
          | false =>
            have : errC exs e [.int c] = M.bad := if_neg (fun y => by
              have y2 := y.2
              rw [Int.toNat_natCast, ec] at y2
              cases y2)
            rw [this] at q
            exact (show False from q).elim
      obtain ⟨x, ec⟩ := hc
      have e2 : errC exs e [.int c] = (e.run c e.env).bind outStr := by
        have : errC exs e [.int c] = (e.run (c : Int).toNat e.env).bind outStr := if_pos ⟨Int.natCast_nonneg c, by rw [Int.toNat_natCast, ec]⟩
        rw [this, Int.toNat_natCast]
      rw [e2] at q
      refine hE _ _ _ ⟨c, x, ec, rfl, rfl, fun a σ Dn hl hr => ?_⟩
      have kU : Mok (G.at_ a) z W' := k'.up hx
      refine ⟨z, e.env, W', rfl, kU, ⟨by unfold Er.env; rw [List.length_set, List.length_set, List.length_replicate, hl], fun i d hi => ?_⟩, ?_⟩
      · unfold Er.env at hi
        by_cases hie : e.i = i
        · subst hie
          by_cases hlt : e.i < e.N.length
          · rw [List.getElem?_set_self (by rw [List.length_replicate]; exact hlt)] at hi
            cases hi
            exact ⟨.ref a, List.getElem?_set_self (by rw [hl]; exact hlt), .exn (G := G.at_ a) rfl⟩
          · rw [List.getElem?_eq_none (by rw [List.length_set, List.length_replicate]; omega)] at hi
            cases hi
        · rw [List.getElem?_set_ne hie] at hi
          have := List.eq_of_mem_replicate (List.mem_of_getElem? hi)
          cases this
      · have q := T.good_bind (T.good_bind (show ((((e.run c e.env) μ').bind (M.andThen outStr)).bind (errEnd W1.μ.length)).good _ from q))
        show ((e.run c e.env) W'.μ).good _
        rw [e']
        refine T.good_mono (fun r q => ?_) q
        cases r with
        | bad => exact (show False from q)
        | exc c2 xs2 μ2 => exact (show False from q).elim
        | ok o μ2 =>
          intro W2 e3 k2 l2
          cases o with
          | rt d =>
            cases d with
            | str x =>
              have q : (errEnd W1.μ.length (.ok (.str x) μ2)).good _ := q
              unfold errEnd at q
              dsimp only at q
              split at q
              · rename_i cc
                obtain ⟨g1, g2, g3⟩ := cut_ok (k1.up hx) k2 (l'.trans l2) (by rw [e3]; exact cc)
                have g4 : Mok G z ⟨W2.m.take W1.μ.length, W2.μ.take W1.μ.length, W2.H⟩ := Mok.down g1 (n := W1.μ.length) (by rw [e3]; exact cc)
                intro v hv
                cases hv
                rw [hr]
                exact (show ∀ W3 : Wd, W3.μ = μ2.take W1.μ.length → Mok G z W3 → Le z W1 W3 → Wt G z Q (.str x) W3 from q) ⟨W2.m.take W1.μ.length, W2.μ.take W1.μ.length, W2.H⟩ (by show W2.μ.take _ = _; rw [e3]) g4 g2 _ (.str _)
              · exact (show False from q).elim
            | _ => exact (show False from q).elim
          | _ => exact (show False from q).elim
theorem er_ok {P : Program} {w : World} {K : PySem.W.Frag} {mg : Str → Option Value} {base : Heap} {G : Gx} {exs : List (Str × Bool)} {e : Er} {g GE : Addr} {fd : FuncData} (hx : G.xa = none) (hK : K = G.K)
    (F : FunD K e.name e.name (defArgs e.st) (defBody e.st) (defScope e.st) [] [] g fd) (hc : ckEr exs e = true) (hg : mg e.name = some (.ref g)) (hb : ∀ a, e.N[0]? = some a → Binds K fd [a] []) (bi : ∀ x ∈ builtins, mg x = none)
    (xf : ExcF G K mg exs) (hge : mg e.ge = some (.ref GE)) (hm : ∀ j x, exs[j]? = some (x, true) → PySem.W.exmOne K (.ref (G.ca j)) (.ref GE) = some true) : ErrK G P w K mg base (errC exs e) e.name := by
  obtain ⟨oc, od, dV, kV, doc, pm, an, cdv, ct, osl, rfl, lk, hcd, _, _⟩ := F.ex
  unfold ckEr at hc
  split at hc
  case h_2 => cases hc
  rename_i a p1 p2 p3 ge p4 n b0 su p5 p6 r j p7 p8 eb
  obtain ⟨hc, c11⟩ := and4 hc
  obtain ⟨hc, c10⟩ := and4 hc
  obtain ⟨hc, c9⟩ := and4 hc
  obtain ⟨hc, c8⟩ := and4 hc
  obtain ⟨hc, c7⟩ := and4 hc
  obtain ⟨hc, c6⟩ := and4 hc
  obtain ⟨hc, c5⟩ := and4 hc
  obtain ⟨hc, c4⟩ := and4 hc
  obtain ⟨hc, c3⟩ := and4 hc
  obtain ⟨c1, c2⟩ := and4 hc
  have c1 := of_decide_eq_true c1
  have c2 := of_decide_eq_true c2
  have c3 := of_decide_eq_true c3
  have c8 := of_decide_eq_true c8
  have c9 := of_decide_eq_true c9
  subst c3 c9
  have S := fnSc_ok c11
  have hvis : Vis (defScope e.st) a := vis_sc c7
  refine ⟨a, g, _, _, _, dV, kV, doc, pm, cdv, ct, oc, an, od, osl, e.N, fun tl H Q => ∀ (E : XK) (Q' : VK), (∀ cls d H', SuW G exs e Q cls d H' → E cls d H') → (∀ v H', Q (.str e.ret) H' → Q' v H') → tl E H Q', hg, F.kp, lk, hcd, hb a c1, S, c1, hvis, c6, ?_, ?_⟩
  · rintro X k q rfl rfl rfl rfl rfl f c' s H Q tl hr act hco hTT
    rw [eb]
    have hsu : ∀ (a1 : Addr) (oe : Obj) (cls : Value) (d : Option Addr) (pn : List (Addr × Obj)), L2N.Zn cls d oe → (∃ vs, oe.data = .fields vs) → PSs ((LX.gvX X e.N e.name (defScope e.st) g cdv s H).nox.suite a1 ((a1, oe) :: pn)) (b0 :: su)
        (fun Dn σ H => ∃ c x, exs[c]? = some (x, true) ∧ cls = .ref (G.ca c) ∧ d = none ∧ tS (G.at_ a1) W0 (e.run c) Dn σ H) := by
      intro a1 oe cls d pn hz hv
      constructor
      rintro pins s1 σ1 H1 Dn I ⟨c, x, hcx, rfl, rfl, ht⟩
      have gd : Good (G.at_ a1) noC (fun _ => .int c) (erCx exs e) ((LX.gvX X e.N e.name (defScope e.st) g cdv s H).nox.suite a1 ((a1, oe) :: pn)) W0 := {
        K := hK
        N := rfl
        nd := S.nd
        sc := rfl
        calm := fun e => nomatch (show true = false from e)
        hotc := fun _ => by
          obtain ⟨vs, hv⟩ := hv
          exact ⟨(a1, oe), ⟨rfl, vs, hv, hz.2.2 vs hv⟩, List.mem_cons_self⟩
        fn := rfl
        tk := takesN0
        room := hr.units
        bi := bi
        con := fun k x e => nomatch (show none = some x from e)
        gcd := fun e => nomatch (show false = true from e)
        fns := fun k x n e => nomatch (show none = some (x, n) from e)
        arity := fun k x n e => nomatch (show none = some (x, n) from e)
        nf := fun k x n e => nomatch (show none = some (x, n) from e)
        fnr := fun e => nomatch (show true = false from e)
        calls := fun e => nomatch (show true = false from e)
        lamc := fun e => nomatch (show false = true from e)
        errs := fun k x e => nomatch (show none = some x from e)
        exk := xf.mg
        exr := fun j x e => ⟨(xf.mak j x e).1, (xf.mak j x e).2.1, raises_own (xf.mak j x e).2.2.1 (xf.mak j x e).2.2.2⟩
        hx := fun _ _ => ⟨a1, G.ca c, c, rfl, rfl, call_isE (xf.is c x hcx) hz.zc hv, fun q y f e => xf.kit c x q y f hcx e⟩ }
      have gs : GoodS (G.at_ a1) noC (fun _ => .int c) (erCx exs e) ((LX.gvX X e.N e.name (defScope e.st) g cdv s H).nox.suite a1 ((a1, oe) :: pn)) W0 := ⟨gd, (fun e => nomatch (show true = false from e)), S.kind⟩
      exact (pss_ok gs e.body _ c10).run pins s1 σ1 H1 Dn I ht
    have hgl : Gl (LX.gvX X e.N e.name (defScope e.st) g cdv s H).nox e.ge := gl_of (X := (LX.gvX X e.N e.name (defScope e.st) g cdv s H).nox) rfl c4
    have hloc : (LX.gvX X e.N e.name (defScope e.st) g cdv s H).nox.env.kindOf n = some .local := c8
    refine ⟨_, pss_cons (L2N.ps_try_as (X := (LX.gvX X e.N e.name (defScope e.st) g cdv s H).nox) (c := .ref GE) (i := e.i) (Wout := W0)
      (tb := fun W Dn σ H => σ[0]? = some (some (.ref f)) ∧ H c' = some (LamX.CodeO c' q) ∧ tl (fun cls d H' => W cls d σ H') H fun _ H' => Dn.nx σ H')
      rfl rfl S.nd c2 hloc ⟨hgl, (nm_of c5).1, .inl hge⟩ takesN0 (fun W pn xe tk _ => ?_) hsu) (pss_one (ps_ret pe_str)), ?_⟩
    · exact pss_one (ps_expr (act W pn xe p1 p2 tk) (swap_none rfl _))
    · refine ⟨?_, hco, hTT _ _ (fun cls d H' hs => ?_) (fun v H' hq => hq)⟩
      · show (L2.start e.N [V.ref f])[0]? = _
        unfold L2.start
        rfl
      · obtain ⟨c, x, hcx, rfl, rfl, hs⟩ := hs
        refine ⟨true, hm c x hcx, fun _ a1 _ => ⟨c, x, hcx, rfl, rfl, hs a1 _ _ ?_ rfl⟩, fun y => nomatch y⟩
        show (L2.start e.N [V.ref f]).length = _
        have : 0 < e.N.length := (List.getElem?_eq_some_iff.mp c1).1
        unfold L2.start
        rw [List.length_append, List.length_map, List.length_replicate]
        show 1 + (e.N.length - 1) = _
        omega
  · exact fun z W1 m tl Q Ex k1 h htl E Q' hE hQ => htl E Q' (er_sem hx z W1 m Q Ex k1 h E Q' hE hQ)
/-! ### the cup -/
def primCup : List D → M D
  | [.scr ns] => if ns.length ≤ 63 then alloc .cup else M.bad
  | _ => M.bad
def primRoll : List D → M D
  | [.ref n, .int many] => fun μ => match μ[n]? with
    | some .cup => if 0 < many ∧ many.natAbs.log2 < 9000 then .roll many.toNat fun r => .ret (.ok (.int (r : Int)) μ) else .ret .bad
    | _ => .ret .bad
  | _ => M.bad
section
variable {G : Gx} {z : List Addr}
/-- what refs hold is told otherwise -/
theorem relabel_ok {m : List Addr} {μ μ' : Mem} {H : Hp} (k : Mok G z ⟨m, μ, H⟩) (hl : μ'.length = μ.length) (hv : ∀ i, live μ' i ↔ live μ i)
    (hob : ∀ (i : Nat) (a : Addr) (o : Ob), m[i]? = some a → μ'[i]? = some o → (∀ o', μ[i]? = some o' → ObR G (Wd.F z ⟨m, μ, H⟩) m H a o') → ObR G (Wd.F z ⟨m, μ, H⟩) m H a o) :
    Mok G z ⟨m, μ', H⟩ ∧ Wd.F z ⟨m, μ', H⟩ = Wd.F z ⟨m, μ, H⟩ := by
  have lv : ∀ b, Wd.lv ⟨m, μ', H⟩ b ↔ Wd.lv ⟨m, μ, H⟩ b := fun b => ⟨fun ⟨i, q1, q2⟩ => ⟨i, (hv i).mp q1, q2⟩, fun ⟨i, q1, q2⟩ => ⟨i, (hv i).mpr q1, q2⟩⟩
  have eF : Wd.F z ⟨m, μ', H⟩ = Wd.F z ⟨m, μ, H⟩ := by
    funext b
    unfold Wd.F
    by_cases q : b ∈ z ∨ Wd.lv ⟨m, μ, H⟩ b
    · rw [if_pos q, if_pos (q.imp id (lv b).mpr)]
    · rw [if_neg q, if_neg (fun q' => q (q'.imp id (lv b).mp))]
  refine ⟨⟨k.len.trans hl.symm, fun i j a h1 h2 => k.inj i j a ((hv i).mp h1) ((hv j).mp h2), fun b hb q => k.zl b hb ((lv b).mp q), k.zs, k.tabs, fun i a o h1 h2 => ?_⟩, eF⟩
  rw [eF]
  exact hob i a o h1 h2 fun o' h3 => k.ob i a o' h1 h3
theorem live_cup {μ : Mem} {n i : Nat} {o o' : Ob} (h : μ[n]? = some o) (ho : ∀ d, o ≠ .fro d) (ho' : ∀ d, o' ≠ .fro d) : live (μ.set n o') i ↔ live μ i :=
  live_set (by
    unfold live
    rw [h]
    cases o with
    | fro d => exact absurd rfl (ho d)
    | _ => trivial) ho'
theorem to_cup {m : List Addr} {μ : Mem} {H : Hp} {n : Nat} {x y : Int} (k : Mok G z ⟨m, μ, H⟩) (h : μ[n]? = some (.lst [.int x, .int y])) (h1 : 0 ≤ x) (h2 : 0 ≤ y) (h3 : y < 2 ^ 32) : Mok G z ⟨m, μ.set n .cup, H⟩ ∧ Wd.F z ⟨m, μ.set n .cup, H⟩ = Wd.F z ⟨m, μ, H⟩ := by
  refine relabel_ok k (List.length_set ..) (fun i => live_cup h (fun _ q => nomatch q) fun _ q => nomatch q) fun i a o e1 e2 ho => ?_
  by_cases hi : n = i
  · subst hi
    rw [List.getElem?_set_self (List.getElem?_eq_some_iff.mp h).1] at e2
    cases e2
    obtain ⟨vs, q1, q2⟩ := ho _ h
    match q2 with
    | .cons (.int _) (.cons (.int _) .nil) => exact ⟨x, y, q1, h1, h2, h3⟩
  · rw [List.getElem?_set_ne hi] at e2
    exact ho o e2
theorem of_cup {m : List Addr} {μ : Mem} {H : Hp} {n : Nat} (k : Mok G z ⟨m, μ, H⟩) (h : μ[n]? = some .cup) : ∃ x y : Int, 0 ≤ x ∧ 0 ≤ y ∧ y < 2 ^ 32 ∧ Mok G z ⟨m, μ.set n (.lst [.int x, .int y]), H⟩ ∧ Wd.F z ⟨m, μ.set n (.lst [.int x, .int y]), H⟩ = Wd.F z ⟨m, μ, H⟩ := by
  obtain ⟨a, ha⟩ : ∃ a, m[n]? = some a := by
    have : n < m.length := by
      rw [k.len]
      exact (List.getElem?_eq_some_iff.mp h).1
    exact ⟨m[n], List.getElem?_eq_getElem this⟩
  obtain ⟨x, y, q1, q2, q3, q4⟩ := k.ob n a _ ha h
  refine ⟨x, y, q2, q3, q4, ?_⟩
  refine relabel_ok k (List.length_set ..) (fun i => live_cup h (fun _ q => nomatch q) fun _ q => nomatch q) fun i a o e1 e2 ho => ?_
  by_cases hi : n = i
  · subst hi
    rw [List.getElem?_set_self (List.getElem?_eq_some_iff.mp h).1] at e2
    cases e2
    rw [show m[n]? = some _ from ha] at e1
    cases e1
    exact ⟨_, q1, .cons (.int _) (.cons (.int _) .nil)⟩
  · rw [List.getElem?_set_ne hi] at e2
    exact ho o e2
end
/-- cup(script), as it is written -/
def cupBody : Sz :=
  .cons (.set 1 (.bf .abs (.cons (.idx (.bin .add (.bf .list (.cons (.var 0) .nil)) (.lst (.cons (.int 0) .nil))) (.int 0)) .nil)))
  (.cons (.ret (.mkl (.lst (.cons (.ife (.cmp .ge (.var 1) (.bin .pow (.int 10) (.int 18))) (.bin .fdiv (.var 1) (.int 113)) (.int 0))
    (.cons (.bin .add (.bin .mod (.bf .int (.cons (.bin .add (.bin .mul (.var 1) (.int 367)) (.int 5303)) .nil)) (.int 1984129399)) (.int 227)) .nil))))) .nil)
/-- roll(cup, many), as it is written -/
def rollBody : Sz :=
  let c0 : Ez := .idx (.var 0) (.int 0)
  let c1 : Ez := .idx (.var 0) (.int 1)
  .cons (.ite (.cmp .gt c0 (.int 0))
    (.cons (.set 2 (.bin .mod (.bf .int (.cons c0 .nil)) (.var 1))) (.cons (.setix (.var 0) (.int 0) (.bin .fdiv c0 (.var 1))) (.cons (.ret (.var 2)) .nil))) .nil)
  (.cons (.setix (.var 0) (.int 1) (.bin .mod (.bf .int (.cons (.bin .add (.bin .mul c1 (.int 30011)) (.int 9001)) .nil)) (.int 2147483543)))
  (.cons (.set 3 (.bin .mod (.bf .int (.cons (.bin .mul c1 (.bin .add c1 (.int 293))) .nil)) (.int 2147483587)))
  (.cons (.ret (.bin .mod (.bf .int (.cons (.bin .fdiv (.var 3) (.int 883)) .nil)) (.var 1))) .nil)))
theorem bind_ok {α β : Type} {m : M α} {f : α → M β} {μ μ' : Mem} {a : α} (h : m μ = .ret (.ok a μ')) : M.bind m f μ = f a μ' := by
  unfold M.bind
  rw [h]
  rfl
theorem bin_add (i j : Int) : binop .add (.int i) (.int j) = M.pure (.int (i + j)) := rfl
theorem bin_mulR {i j : Int} (h : -(2 ^ 64) < j ∧ j < 2 ^ 64) : binop .mul (.int i) (.int j) = M.pure (.int (i * j)) := by
  refine if_pos ?_
  simp only [Bool.or_eq_true, Bool.and_eq_true, decide_eq_true_eq]
  exact .inr h
theorem bin_mod {i j : Int} (h : j ≠ 0) : binop .mod (.int i) (.int j) = M.pure (.int (i.fmod j)) := if_pos h
theorem bin_fdiv {i j : Int} (h : 0 < j) (hl : j.natAbs.log2 < 9000) : binop .fdiv (.int i) (.int j) = M.pure (.int (i.fdiv j)) := by
  show (if j ≠ 0 ∧ j.natAbs < 1073741824 then M.pure (D.int (i.fdiv j)) else if j ≠ 0 ∧ j.natAbs.log2 < 9000 then M.pure (D.int (i.fdiv j)) else M.bad) = _
  by_cases q : j ≠ 0 ∧ j.natAbs < 1073741824
  · rw [if_pos q]
  · rw [if_neg q, if_pos ⟨by omega, hl⟩]
section
variable {C : Nat → List D → M D} {Kc : Nat → D}
set_option maxHeartbeats 400000 in
theorem roll_run {n : Nat} {many x y : Int} {μ : Mem} (h : μ[n]? = some (.lst [.int x, .int y])) (hx : 0 ≤ x) (hy : 0 ≤ y) (hy2 : y < 2 ^ 32) (hm : 0 < many) (hl : many.natAbs.log2 < 9000) :
    ∃ (r : Nat) (x' y' : Int), r < many.toNat ∧ 0 ≤ x' ∧ 0 ≤ y' ∧ y' < 2 ^ 32 ∧ run C Kc 4 rollBody [.ref n, .int many] μ = .ret (.ok (.int (r : Int)) (μ.set n (.lst [.int x', .int y']))) := by
  have hn : n < μ.length := (List.getElem?_eq_some_iff.mp h).1
  have hm0 : many ≠ 0 := by omega
  by_cases h0 : 0 < x
  · refine ⟨(x.fmod many).toNat, x.fdiv many, y, ?_, ?_, hy, hy2, ?_⟩
    · have := Int.fmod_nonneg_of_pos x hm
      have := Int.fmod_lt_of_pos x hm
      omega
    · exact Int.fdiv_nonneg hx (Int.le_of_lt hm)
    · have e : ((x.fmod many).toNat : Int) = x.fmod many := Int.toNat_of_nonneg (Int.fmod_nonneg_of_pos x hm)
      rw [e]
      simp [run, rollBody, evS, ev, Fn.ofE, M.bind, T.bind, M.andThen, M.pure, get, res, seqA, seqL, idxop, cmpop, truth, bfop, bin_mod hm0, bin_fdiv hm hl, storeL, setE, M.opt, atI, ixN, h, h0]
  · obtain ⟨y1, e1⟩ : ∃ y1 : Int, y1 = (y * 30011 + 9001).fmod 2147483543 := ⟨_, rfl⟩
    have b1 : 0 ≤ y1 ∧ y1 < 2147483543 := by
      rw [e1]
      exact ⟨Int.fmod_nonneg_of_pos _ (by decide), Int.fmod_lt_of_pos _ (by decide)⟩
    obtain ⟨d, e2⟩ : ∃ d : Int, d = (y1 * (y1 + 293)).fmod 2147483587 := ⟨_, rfl⟩
    obtain ⟨r, e3⟩ : ∃ r : Int, r = (d.fdiv 883).fmod many := ⟨_, rfl⟩
    have b3 : 0 ≤ r ∧ r < many := by
      rw [e3]
      exact ⟨Int.fmod_nonneg_of_pos _ hm, Int.fmod_lt_of_pos _ hm⟩
    refine ⟨r.toNat, x, y1, by omega, hx, b1.1, by omega, ?_⟩
    have e : ((r.toNat : Nat) : Int) = r := Int.toNat_of_nonneg b3.1
    rw [e, e3, e2, e1]
    have m1 : binop .mul (.int y) (.int 30011) = M.pure (.int (y * 30011)) := bin_mulR (by decide)
    have m2 : binop .mul (.int y1) (.int (y1 + 293)) = M.pure (.int (y1 * (y1 + 293))) := bin_mulR (by omega)
    rw [e1] at m2
    have m3 : ∀ i : Int, binop .mod (.int i) (.int 2147483543) = M.pure (.int (i.fmod 2147483543)) := fun i => bin_mod (by decide)
    have m4 : ∀ i : Int, binop .mod (.int i) (.int 2147483587) = M.pure (.int (i.fmod 2147483587)) := fun i => bin_mod (by decide)
    have m5 : ∀ i : Int, binop .fdiv (.int i) (.int 883) = M.pure (.int (i.fdiv 883)) := fun i => bin_fdiv (by decide) (by rw [show (883 : Int).natAbs = 883 from rfl]; exact Nat.lt_of_le_of_lt (Nat.log2_le_self 883) (by decide))
    have hx0 : decide (0 < x) = false := decide_eq_false h0
    simp [run, rollBody, evS, ev, Fn.ofE, M.bind, T.bind, M.andThen, M.pure, get, res, seqA, seqL, idxop, cmpop, truth, bfop, bin_add, bin_mod hm0, storeL, setE, M.opt, atI, ixN, h, hx0, m1, m2, m3, m4, m5, List.getElem?_set_self hn]
theorem cup_run {ns : List Int} {μ : Mem} (hn : ns.length ≤ 63) : ∃ x y : Int, 0 ≤ x ∧ 0 ≤ y ∧ y < 2 ^ 32 ∧ run C Kc 2 cupBody [.scr ns] μ = .ret (.ok (.ref μ.length) (μ ++ [.lst [.int x, .int y]])) := by
  obtain ⟨c, hc⟩ : ∃ c : Int, c = ns.headD 0 := ⟨_, rfl⟩
  obtain ⟨a, ha⟩ : ∃ a : Int, a = if c < 0 then -c else c := ⟨_, rfl⟩
  have a0 : 0 ≤ a := by
    rw [ha]
    split <;> omega
  have e1 : binop .add (.lst (ns.map D.int)) (.lst [.int 0]) = M.pure (.lst (ns.map D.int ++ [.int 0])) := by
    show M.bind (M.bind (seqL (.lst (ns.map D.int))) fun xs => M.bind (seqL (.lst [D.int 0])) fun ys => if xs.length + ys.length ≤ sizeLine then M.pure (xs ++ ys) else M.bad) (fun xs => M.pure (D.lst xs)) = _
    funext μ
    have q : (ns.map D.int).length + [D.int 0].length ≤ sizeLine := by
      rw [List.length_map]
      show ns.length + 1 ≤ sizeLine
      rw [sizeLine_eq]
      omega
    simp only [M.bind, seqL, T.bind, M.andThen, if_pos q, M.pure]
  have e2 : idxop (.lst (ns.map D.int ++ [.int 0])) (.int 0) = M.pure (.int c) := by
    funext μ
    have q : L2.atI (ns.map D.int ++ [D.int 0]) 0 = some (.int c) := by
      rw [hc]
      refine L2.atI_nat (j := 0) ?_
      cases ns with
      | nil => rfl
      | cons n r => rfl
    simp only [idxop, M.bind, seqA, seqL, T.bind, M.andThen, q, M.opt, M.pure]
  have e3 : binop .pow (.int 10) (.int 18) = M.pure (.int 1000000000000000000) := rfl
  have m1 : binop .mul (.int a) (.int 367) = M.pure (.int (a * 367)) := bin_mulR (by decide)
  have m3 : ∀ i : Int, binop .mod (.int i) (.int 1984129399) = M.pure (.int (i.fmod 1984129399)) := fun i => bin_mod (by decide)
  have m5 : ∀ i : Int, binop .fdiv (.int i) (.int 113) = M.pure (.int (i.fdiv 113)) := fun i => bin_fdiv (by decide) (by rw [show (113 : Int).natAbs = 113 from rfl]; exact Nat.lt_of_le_of_lt (Nat.log2_le_self 113) (by decide))
  have b1 := Int.fmod_nonneg_of_pos (a * 367 + 5303) (b := 1984129399) (by decide)
  have b2 := Int.fmod_lt_of_pos (a * 367 + 5303) (b := 1984129399) (by decide)
  have l2 : ∀ x y : Int, lenOk [D.int x, D.int y] = M.pure [D.int x, D.int y] := fun x y => rfl
  have l1 : lenOk [D.int 0] = M.pure [D.int 0] := rfl
  by_cases h : 1000000000000000000 ≤ a
  · refine ⟨a.fdiv 113, (a * 367 + 5303).fmod 1984129399 + 227, Int.fdiv_nonneg a0 (by decide), by omega, by omega, ?_⟩
    have hd : decide ((1000000000000000000 : Int) ≤ a) = true := decide_eq_true h
    simp [run, cupBody, evS, ev, Fn.ofE, Fn.ofL, M.bind, T.bind, M.andThen, M.pure, get, res, cmpop, truth, bfop, bfL, bin_add, setE, e1, e2, e3, m1, m3, m5, ← ha, hd, l1, l2, alloc]
  · refine ⟨0, (a * 367 + 5303).fmod 1984129399 + 227, Int.le_refl 0, by omega, by omega, ?_⟩
    have hd : decide ((1000000000000000000 : Int) ≤ a) = false := decide_eq_false h
    simp [run, cupBody, evS, ev, Fn.ofE, Fn.ofL, M.bind, T.bind, M.andThen, M.pure, get, res, cmpop, truth, bfop, bfL, bin_add, setE, e1, e2, e3, m1, m3, m5, ← ha, hd, l1, l2, alloc]
end
end DL
/-! DL13: the table of a text's defs; the law's end -/
namespace DL
open PySem PyProof.Rows L2 PySem.Spec
section
variable {G : Gx} {C : Nat → List D → M D} {Kc : Nat → D}
/-- the cup's def does what primCup says -/
theorem cup_imp (vs : List V) (H : Hp) (Q : VK) (E : XK) (h : spD G 1 primCup vs H Q E) : spD G 1 (fun as => if as.length = 1 then run C Kc 2 cupBody as else M.bad) vs H Q E := by
  obtain ⟨z, ds, W, e, hl, k, r, h⟩ := h
  unfold primCup at h
  split at h
  case h_2 => exact h.bad.elim
  rename_i ns
  rcases h.ite with ⟨hn, h⟩ | ⟨_, h⟩
  case inr => exact h.bad.elim
  refine ⟨z, [.scr ns], W, e, hl, k, r, ?_⟩
  obtain ⟨x, y, h1, h2, h3, hr⟩ := cup_run (C := C) (Kc := Kc) (μ := W.μ) hn
  show Wp G z W (run C Kc 2 cupBody [.scr ns]) _ _
  unfold Wp
  rw [hr]
  intro W' e' k' l'
  have hm : W'.μ[W.μ.length]? = some (.lst [.int x, .int y]) := by
    rw [e']
    simp
  obtain ⟨m, μ', H'⟩ := W'
  obtain ⟨q1, q2⟩ := to_cup k' hm h1 h2 h3
  have em : μ'.set W.μ.length .cup = W.μ ++ [.cup] := by
    rw [show μ' = _ from e']
    simp
  have := h ⟨m, μ'.set W.μ.length .cup, H'⟩ em q1 ⟨l'.pre, by rw [q2]; exact l'.ext, l'.zk⟩
  intro v hv
  refine this v ?_
  show Rp G (Wd.F z ⟨m, μ'.set W.μ.length .cup, H'⟩) m _ v
  rw [q2]
  exact hv
theorem set_self {α : Type} {l : List α} {n : Nat} {a b : α} (h : l[n]? = some a) : (l.set n b).set n a = l := by
  rw [List.set_set]
  obtain ⟨h1, h2⟩ := List.getElem?_eq_some_iff.mp h
  rw [← h2]
  exact List.set_getElem_self h1
theorem roll_imp (vs : List V) (H : Hp) (Q : VK) (E : XK) (h : spD G 2 primRoll vs H Q E) : spD G 2 (fun as => if as.length = 2 then run C Kc 4 rollBody as else M.bad) vs H Q E := by
  obtain ⟨z, ds, W, e, hl, k, r, h⟩ := h
  unfold primRoll at h
  split at h
  case h_2 => exact h.bad.elim
  rename_i n many
  obtain ⟨hc, hm, h⟩ : W.μ[n]? = some .cup ∧ (0 < many ∧ many.natAbs.log2 < 9000) ∧ Wp G z W (fun μ => .roll many.toNat fun r => .ret (.ok (.int (r : Int)) μ)) (Wt G z Q) fun c xs W' => ∀ (d : Option Addr), ExR G z xs d W' → E (Value.ref (G.ca c)) d W'.H := by
    unfold Wp at h ⊢
    dsimp only at h ⊢
    cases q : W.μ[n]? with
    | none =>
      rw [q] at h
      exact h.elim
    | some o =>
      rw [q] at h
      cases o with
      | cup =>
        by_cases q2 : 0 < many ∧ many.natAbs.log2 < 9000
        · exact ⟨rfl, q2, by simpa only [if_pos q2] using h⟩
        · simp only [if_neg q2] at h
          exact h.elim
      | _ => exact h.elim
  obtain ⟨x, y, q1, q2, q3, q4, q5⟩ := of_cup (m := W.m) (H := W.H) k hc
  have hn : n < W.μ.length := (List.getElem?_eq_some_iff.mp hc).1
  have hx : (W.μ.set n (.lst [.int x, .int y]))[n]? = some (.lst [.int x, .int y]) := List.getElem?_set_self hn
  obtain ⟨s, x', y', hs, p1, p2, p3, hr⟩ := roll_run (C := C) (Kc := Kc) hx q1 q2 q3 hm.1 hm.2
  refine ⟨z, [.ref n, .int many], ⟨W.m, W.μ.set n (.lst [.int x, .int y]), W.H⟩, e, hl, q4, ?_, ?_⟩
  · show Rps G (Wd.F z ⟨W.m, W.μ.set n (.lst [.int x, .int y]), W.H⟩) W.m _ vs
    rw [q5]
    exact r
  show Wp G z ⟨W.m, W.μ.set n (.lst [.int x, .int y]), W.H⟩ (run C Kc 4 rollBody [.ref n, .int many]) _ _
  unfold Wp
  show (run C Kc 4 rollBody [.ref n, .int many] (W.μ.set n (.lst [.int x, .int y]))).good _
  rw [hr]
  intro W' e' k' l'
  obtain ⟨m, μ', H'⟩ := W'
  have e2 : μ' = W.μ.set n (.lst [.int x', .int y']) := by
    rw [show μ' = _ from e', List.set_set]
  have hm' : μ'[n]? = some (.lst [.int x', .int y']) := by
    rw [e2]
    exact List.getElem?_set_self hn
  obtain ⟨t1, t2⟩ := to_cup k' hm' p1 p2 p3
  have em : μ'.set n .cup = W.μ := by
    rw [e2]
    exact set_self hc
  have := h s hs ⟨m, μ'.set n .cup, H'⟩ em t1 ⟨l'.pre, by rw [t2]; exact q5 ▸ l'.ext, l'.zk⟩
  intro v hv
  refine this v ?_
  show Rp G (Wd.F z ⟨m, μ'.set n .cup, H'⟩) m _ v
  rw [t2]
  exact hv
end
section
variable {G : Gx}
theorem pop_imp {n : Nat} {p : List D → Prop} [DecidablePred p] {f : List D → M D} (vs : List V) (H : Hp) (Q : VK) (E : XK) (h : spD G n (fun as => if p as then popM (f as) else M.bad) vs H Q E) : spD G n (fun as => if p as then f as else M.bad) vs H Q E := by
  obtain ⟨z, ds, W, e, hl, k, r, h⟩ := h
  refine ⟨z, ds, W, e, hl, k, r, ?_⟩
  rcases h.ite with ⟨hp, h⟩ | ⟨_, h⟩
  case inr => exact h.bad.elim
  show Wp G z W (if p ds then f ds else M.bad) _ _
  rw [if_pos hp]
  have h : ((f ds W.μ).bind _).good _ := h
  refine DL.T.good_mono (fun q hq => ?_) (DL.T.good_bind h)
  cases q with
  | bad => exact hq
  | exc c xs μ' => exact hq
  | ok a μ' =>
    intro W' e' k' l'
    dsimp only at hq
    by_cases c : (a.noRef W.μ.length && (μ'.take W.μ.length).all (Ob.noRef W.μ.length)) = true
    · rw [if_pos c] at hq
      obtain ⟨c1, c2⟩ := Bool.and_eq_true_iff.mp c
      obtain ⟨g1, g2, g3⟩ := cut_ok k k' l' (by rw [e']; exact c2)
      intro v hv
      exact hq ⟨W'.m.take W.μ.length, W'.μ.take W.μ.length, W'.H⟩ (by show W'.μ.take _ = _; rw [e']) g1 g2 v (Rp.cut g3 hv c1)
    · rw [if_neg c] at hq
      exact hq W' e' k' l'
end
/-- a text: defs, classes of exceptions (which are raised), defs that try, the places of the cup and of the roll -/
structure Tx where
  ds : List Dr
  exs : List (Str × Bool)
  es : List Er
  c : Nat
  r : Nat
/-- the numbers of defs that try begin here -/
def ek : Nat := 100000
/-- the prims of a text -/
def Tx.prim (t : Tx) : Nat → Option (List D → M D) := fun k => if k = t.c then some primCup else if k = t.r then some primRoll else if ek ≤ k then (t.es[k - ek]?).map (errC t.exs) else none
abbrev tabF (Kc : Nat → D) (t : Tx) (n : Nat) : Nat → List D → M D := callF Kc (t.ds.map Dr.df) t.prim n
def ersFrom (i : Nat) : List Er → List (Nat × Str)
  | [] => []
  | e :: es => (i, e.name) :: ersFrom (i + 1) es
theorem ers_at : ∀ {es : List Er} {i k : Nat} {x : Str}, (ersFrom i es).lookup k = some x → ∃ e, i ≤ k ∧ es[k - i]? = some e ∧ e.name = x
  | [], i, k, x, h => nomatch h
  | e :: es, i, k, x, h => by
    unfold ersFrom at h
    rw [List.lookup_cons] at h
    cases q : (k == i) with
    | true =>
      rw [q] at h
      cases h
      have : k = i := beq_iff_eq.mp q
      subst this
      exact ⟨e, Nat.le_refl _, by rw [Nat.sub_self]; rfl, rfl⟩
    | false =>
      rw [q] at h
      obtain ⟨e2, h1, h2, h3⟩ := ers_at h
      refine ⟨e2, by omega, ?_, h3⟩
      rw [show k - i = (k - (i + 1)) + 1 from by omega]
      exact h2
def Tx.sh (t : Tx) (cns : List Str) (gcd : Bool) : Sh := ⟨fnsOf t.ds, cns, gcd, ersFrom ek t.es, t.exs⟩
theorem fns_at {ds : List Dr} {k : Nat} {x : Str} {n : Nat} (h : (fnsOf ds)[k]? = some (x, n)) : ∃ d, ds[k]? = some d ∧ d.name = x ∧ d.ps.length = n := by
  unfold fnsOf at h
  rw [List.getElem?_map] at h
  cases e : ds[k]? with
  | none => rw [e] at h; cases h
  | some d =>
    rw [e] at h
    cases h
    exact ⟨d, rfl, rfl, rfl⟩
theorem callF_prim {Kc : Nat → D} {ds : List Df} {p : Nat → Option (List D → M D)} {n k : Nat} {f : List D → M D} (h : p k = some f) : callF Kc ds p (n + 1) k = f := by
  funext as
  rw [callF, h]
theorem callF_at {Kc : Nat → D} {ds : List Df} {p : Nat → Option (List D → M D)} {n k : Nat} {d : Df} (h : p k = none) (hd : ds[k]? = some d) : callF Kc ds p (n + 1) k = fun as => if as.length = d.pars then popM (run (callF Kc ds p n) Kc d.names d.body as) else M.bad := by
  funext as
  rw [callF, h]
  simp only [hd]
structure TabOk (t : Tx) (cns : List Str) (gcd : Bool) : Prop where
  ck : ∀ d ∈ t.ds, ckDr (t.sh cns gcd) d = true
  ce : ∀ e ∈ t.es, ckEr t.exs e = true
  cup : ∀ d, t.ds[t.c]? = some d → d.N.length = 2 ∧ d.ps.length = 1 ∧ d.body = cupBody
  roll : ∀ d, t.ds[t.r]? = some d → d.N.length = 4 ∧ d.ps.length = 2 ∧ d.body = rollBody
  ne : t.c ≠ t.r
  small : t.ds.length ≤ ek ∧ t.c < ek ∧ t.r < ek
theorem prim_c {t : Tx} {n : Nat} {Kc : Nat → D} : tabF Kc t (n + 1) t.c = primCup := callF_prim (if_pos rfl)
theorem prim_r {t : Tx} {n : Nat} {Kc : Nat → D} {cns : List Str} {gcd : Bool} (T : TabOk t cns gcd) : tabF Kc t (n + 1) t.r = primRoll := callF_prim (by
  unfold Tx.prim
  rw [if_neg (Ne.symm T.ne), if_pos rfl])
theorem prim_e {t : Tx} {n k : Nat} {Kc : Nat → D} {cns : List Str} {gcd : Bool} {e : Er} (T : TabOk t cns gcd) (h : ek ≤ k) (he : t.es[k - ek]? = some e) : tabF Kc t (n + 1) k = errC t.exs e := callF_prim (by
  have := T.small
  unfold Tx.prim
  rw [if_neg (by omega), if_neg (by omega), if_pos h, he]
  rfl)
theorem prim_d {t : Tx} {n k : Nat} {Kc : Nat → D} {cns : List Str} {gcd : Bool} {d : Dr} (T : TabOk t cns gcd) (hc : k ≠ t.c) (hr : k ≠ t.r) (hd : t.ds[k]? = some d) : tabF Kc t (n + 1) k = fun as => if as.length = d.ps.length then popM (run (tabF Kc t n) Kc d.N.length d.body as) else M.bad := by
  have := T.small
  have hk := (List.getElem?_eq_some_iff.mp hd).1
  exact callF_at (d := d.df) (by
    unfold Tx.prim
    rw [if_neg hc, if_neg hr, if_neg (by omega)]) (by rw [List.getElem?_map, hd]; rfl)
theorem arity_ok {Kc : Nat → D} {t : Tx} {n k m : Nat} {x : Str} {cns : List Str} {gcd : Bool} (T : TabOk t cns gcd) (h : (fnsOf t.ds)[k]? = some (x, m)) {G : Gx} (z : List Addr) (W : Wd) (as : List D) (P : D → Wd → Prop) (Ex : Nat → List D → Wd → Prop) (q : Wp G z W (tabF Kc t n k as) P Ex) : as.length = m := by
  obtain ⟨d, h1, h2, h3⟩ := fns_at h
  cases n with
  | zero => exact q.bad.elim
  | succ n =>
    by_cases hc : k = t.c
    · subst hc
      rw [prim_c] at q
      have := (T.cup d h1).2.1
      unfold primCup at q
      split at q
      · rw [← h3, this]; rfl
      · exact q.bad.elim
    · by_cases hr : k = t.r
      · subst hr
        rw [prim_r T] at q
        have := (T.roll d h1).2.1
        unfold primRoll at q
        split at q
        · rw [← h3, this]; rfl
        · exact q.bad.elim
      · rw [prim_d T hc hr h1] at q
        rcases q.ite with ⟨q1, _⟩ | ⟨_, q⟩
        · exact q1.trans h3
        · exact q.bad.elim
theorem ErrK.imp {P : Program} {w : World} {K : PySem.W.Frag} {mg : Str → Option Value} {base : Heap} {G : Gx} {c c' : List D → M D} {x : Str} (h : ErrK G P w K mg base c x) (hc : ∀ as, c' as = c as ∨ c' as = M.bad) : ErrK G P w K mg base c' x := by
  obtain ⟨a, g, pg, bg, sg, dV, kV, doc, pm, cdv, ct, oc, an, od, osl, Ng, TT, g1, g2, g3, g4, g5, g6, g7, g8, g9, g10, g11⟩ := h.ex
  refine ⟨a, g, pg, bg, sg, dV, kV, doc, pm, cdv, ct, oc, an, od, osl, Ng, TT, g1, g2, g3, g4, g5, g6, g7, g8, g9, g10, fun z W1 m tl Q Ex k1 hw => g11 z W1 m tl Q Ex k1 ?_⟩
  refine T.bind_good (T.good_mono (fun r q => ?_) (T.good_bind (show ((m W1.μ).bind _).good _ from hw)))
  have main : ∀ (Post : R D → Prop) (as : List D) (μ' : Mem), (Post .bad → False) → ((c' as μ').bind (errEnd W1.μ.length)).good Post → ((c as μ').bind (errEnd W1.μ.length)).good Post := fun Post as μ' hb q => by
    rcases hc as with e | e
    · rw [← e]
      exact q
    · rw [e] at q
      exact (hb q).elim
  cases r with
  | bad => exact q
  | ok d μ' => exact main _ [] μ' (fun h => h) q
  | exc c0 xs μ' =>
    cases xs with
    | cons x xs => exact q
    | nil => exact main _ [.int c0] μ' (fun h => h) q
/-- THE TABLE: each def does what its run says -/
theorem tab_ok {P : Program} {w : World} {K : PySem.W.Frag} {mg : Str → Option Value} {base : Heap} {G : Gx} {Kc : Nat → D} {t : Tx} {cns : List Str} {gcd : Bool}
    (hK : K = G.K) (T : TabOk t cns gcd) (hn : t.ds.length = G.nf)
    (F : ∀ k d, t.ds[k]? = some d → ∃ fd, FunD K d.name d.name (defArgs d.st) (defBody d.st) (defScope d.st) [] [] (G.fa k) fd ∧ Binds K fd d.ps [] ∧
      (d.lam = true → ∀ c, fd.code = .ref c → ∃ Q, LamX.TabB base mg c Q ∧ (Q, d.name ++ ".<locals>." ++ "<lambda>") ∈ G.T ∧ ∀ p ∈ G.T, p.1 = Q → p.2 = d.name ++ ".<locals>." ++ "<lambda>"))
    (bi : ∀ x ∈ builtins, mg x = none) (con : ∀ k x, cns[k]? = some x → ∃ v u, mg x = some u ∧ RelV v u ∧ ∀ F m, Rp G F m (Kc k) v) (hg : gcd = true → mg "gcd" = some (.builtin "math.gcd"))
    (gl : ∀ k d, t.ds[k]? = some d → mg d.name = some (.ref (G.fa k))) (xf : ExcF G K mg t.exs) (er : ∀ e ∈ t.es, ErrK G P w K mg base (errC t.exs e) e.name) :
    ∀ n k d, t.ds[k]? = some d → ∃ fd, FunD K d.name d.name (defArgs d.st) (defBody d.st) (defScope d.st) [] [] (G.fa k) fd ∧ Binds K fd d.ps [] ∧ FnOk P w K mg base (L2N.CX P w) (3 * n) (G.fa k) fd d.ps (spD G d.ps.length (tabF Kc t n k))
  | 0, k, d, hk => by
    obtain ⟨fd, FD, B, _⟩ := F k d hk
    exact ⟨fd, FD, B, fn_bad fun _ => rfl⟩
  | n + 1, k, d, hk => by
    have ih := tab_ok (P := P) (w := w) (base := base) hK T hn F bi con hg gl xf er n
    obtain ⟨fd, FD, B, HL⟩ := F k d hk
    have D := def_ok (P := P) (w := w) (mg := mg) (base := base) (G := G) (C := tabF Kc t n) (Kc := Kc) (n := 3 * n) (h := t.sh cns gcd) hK FD (T.ck d (List.mem_of_getElem? hk)) bi con hg
      (fun k x m e => by
        obtain ⟨d', e1, e2, e3⟩ := fns_at e
        obtain ⟨fd', F', _⟩ := F k d' e1
        exact ⟨e2 ▸ gl k d' e1, F'.kp⟩)
      (by show (fnsOf t.ds).length = _; unfold fnsOf; rw [List.length_map]; exact hn)
      (fun k x m e z W as P' Ex q => arity_ok T e z W as P' Ex q)
      (fun k x m e => by
        obtain ⟨d', e1, e2, e3⟩ := fns_at e
        obtain ⟨fd', F', B', O'⟩ := ih k d' e1
        exact ⟨fd', d'.ps, B', e3 ▸ O'⟩) xf
      (fun k x e => by
        obtain ⟨e0, h1, h2, h3⟩ := ers_at e
        rw [← h3]
        refine (er e0 (List.mem_of_getElem? h2)).imp fun as => ?_
        cases n with
        | zero => exact .inr rfl
        | succ n => exact .inl (by rw [prim_e T h1 h2])) HL
    refine ⟨fd, FD, B, ?_⟩
    by_cases hc : k = t.c
    · subst hc
      obtain ⟨t1, t2, t3⟩ := T.cup d hk
      rw [prim_c]
      rw [t1, t2, t3] at D
      rw [t2]
      exact D.imp cup_imp
    · by_cases hr : k = t.r
      · subst hr
        obtain ⟨t1, t2, t3⟩ := T.roll d hk
        rw [prim_r T]
        rw [t1, t2, t3] at D
        rw [t2]
        exact D.imp roll_imp
      · rw [prim_d T hc hr hk]
        exact D.imp pop_imp
end DL
/-! DL14: a law's end by the facts of the head -/
namespace DL
open PySem PyProof.Rows L2 PySem.Spec
instance : Inhabited Dr := ⟨⟨"", .Pass ⟨0, 0, 0, 0⟩, [], [], .nil, false⟩⟩
/-- constants of the module -/
inductive Kon where
  | int (i : Int) | str (x : Str)
def Kon.fa (x : Str) : Kon → He.Fa
  | .int i => .int x i
  | .str z => .str x z
def Kon.d : Kon → D
  | .int i => .int i
  | .str z => .str z
def kcOf (ks : List (Str × Kon)) (k : Nat) : D := match ks[k]? with
  | some (_, q) => q.d
  | none => .non
def dfdOf (d : Dr) : He.DefD := ⟨(d.name, none), d.name, d.name, defArgs d.st, defBody d.st, defScope d.st, [], []⟩
def dfdE (d : Er) : He.DefD := ⟨(d.name, none), d.name, d.name, defArgs d.st, defBody d.st, defScope d.st, [], []⟩
def dfs (t : Tx) : List He.DefD := t.ds.map dfdOf ++ t.es.map dfdE
def rzs (t : Tx) : List Str := (t.exs.filter (·.2)).map (·.1)
def faOf (t : Tx) (ks : List (Str × Kon)) : List He.Fa := t.ds.map (fun d => He.Fa.glo d.name) ++ (builtins.map He.Fa.free ++ (ks.map (fun q => q.2.fa q.1) ++
  (t.es.map (fun e => He.Fa.glo e.name) ++ (t.exs.map (fun p => He.Fa.glo p.1) ++ ((rzs t).map He.Fa.exc ++ (t.es.map (fun e => He.Fa.glo e.ge) ++ t.es.flatMap fun e => (rzs t).map fun x => He.Fa.exm x e.ge true))))))
def kitAll (K : PySem.W.Frag) (exs : List (Str × Bool)) : Bool := (List.range exs.length).all fun j => (List.range exs.length).all fun q => match exs[j]?, exs[q]? with
  | some (x, true), some (y, _) => decide (PySem.W.kitOne K (.ref (He.ga K x)) (.ref (He.ga K y)) = some (j == q))
  | _, _ => true
def excCB (K : PySem.W.Frag) (C : Addr) : Bool := He.eqO (PySem.W.findIn K (.ref C) "__getattribute__") (some (some (.builtin "BaseException.__getattribute__"))) && He.eqO (PySem.W.findIn K (.ref C) "__getattr__") (some none) &&
  decide (PySem.W.subIn K (.ref C) (.type "BaseException") = some true) && PySem.W.hasDictIn K C && He.eqO (PySem.W.findIn K (.ref C) "__class__") (some (some (.builtin "object.__class__"))) &&
  He.eqO (PySem.W.specialIn K (.builtin "object.__class__") "__get__") (some (some (.builtin "getset_descriptor.__get__"))) && decide (PySem.W.takesIn K (.builtin "object.__class__") = some true) && decide (PySem.W.mroIn K C (.type "object") = some true)
theorem excCB_ok {K : PySem.W.Frag} {C : Addr} (h : excCB K C = true) : ExcC K C := by
  unfold excCB at h
  simp only [Bool.and_eq_true, decide_eq_true_eq] at h
  obtain ⟨⟨⟨⟨⟨⟨⟨h1, h2⟩, h3⟩, h4⟩, h5⟩, h6⟩, h7⟩, h8⟩ := h
  exact ⟨He.eqO_ok h1, He.eqO_ok h2, h3, h4, He.eqO_ok h5, He.eqO_ok h6, h7, h8⟩
def lams (t : Tx) : List Dr := t.ds.filter (·.lam)
def lamB (K : PySem.W.Frag) (l : List Dr) : Bool := l.all fun d => l.all fun e => !((He.cT K (d.name, none)).2 == (He.cT K (e.name, none)).2) || decide (d.name = e.name)
def exOf (gcd : Bool) (t : Tx) (K : PySem.W.Frag) : Bool := (!gcd || He.eqO (PySem.W.nsIn K mainGlobals "gcd") (some (some (.builtin "math.gcd")))) && (kitAll K t.exs && ((rzs t).all fun x => excCB K (He.ga K x)) && lamB K (lams t))
def tfOf (t : Tx) : List He.Defn := (lams t).map fun d => (d.name, none)
abbrev hkOf (n : Nat) (t : Tx) (ks : List (Str × Kon)) (gcd : Bool) : PySem.W.Hook := He.hookX n (faOf t ks) (dfs t) [] (tfOf t) (exOf gcd t)
theorem fnOk_calm {P : Program} {w : World} {K : PySem.W.Frag} {mg : Str → Option Value} {base : Heap} {k : Nat} {f : Addr} {fd : FuncData} {ps : List Str} {sp : Sp} (F : FnOk P w K mg base (L2N.CX P w) k f fd ps sp) :
    FnOk P w K mg base CX0 k f fd ps (fun vs H Q _ => sp vs H Q fun _ _ _ => False) :=
  ⟨fun vs H Q E h => F.len _ _ _ _ h, fun A outer s H args us vs Q E hr he hb hv hs => codeAny_mono (F.run A outer s H args us vs Q _ hr he hb hv hs) fun r s' q => by
    cases r with
    | ok v =>
      cases v with
      | ret u => exact q
      | _ => exact q
    | error e =>
      obtain ⟨_, _, _, _, _, _, _, _, _, _, _, _, q⟩ := q
      exact q⟩
def bindsB (d : Dr) : Prop := ∀ (kV doc pm : Value) (an : Option Addr) (cdv ct : Value) (us : List Value), us.length = d.ps.length → bindArgs (PySem.W.fnOf d.name d.name (defArgs d.st) (defBody d.st) (defScope d.st) .none kV doc pm an cdv ct) ⟨us, []⟩ = pure (d.ps.zip us)
theorem wd0_F (H : Hp) : Wd.F [] ⟨[], [], H⟩ = H := by
  funext b
  unfold Wd.F
  rw [if_neg]
  rintro (h | ⟨i, h, e⟩)
  · cases h
  · cases e
def bindsE (e : Er) : Prop := ∀ (kV doc pm : Value) (an : Option Addr) (cdv ct : Value) (us : List Value), us.length = 1 → bindArgs (PySem.W.fnOf e.name e.name (defArgs e.st) (defBody e.st) (defScope e.st) .none kV doc pm an cdv ct) ⟨us, []⟩ = pure ([e.N.headD ""].zip us)
theorem mok0 {G : Gx} (H : Hp) (h : LamX.Tabs G.T H) : Mok G [] ⟨[], [], H⟩ := { len := rfl, inj := fun i j a h => by simp [live] at h, zl := fun b h => (nomatch h), zs := fun b h => (nomatch h), tabs := h, ob := fun i a o e => by simp at e }
def good (N : Nat) (t : Tx) (ks : List (Str × Kon)) (L : Nat) : Prop := ∀ ns : List Int, ns.length ≤ 63 → (tabF (kcOf ks) t N L [.scr ns] []).good fun q => ∃ μ, q = .ok (.bl true) μ
theorem law_facts {l : PySem.W.OpenLaw} {w : World} {K : PySem.W.Frag} {h : Heap} {mg : Str → Option Value} {f : Addr} {t : Tx} {ks : List (Str × Kon)} {gcd : Bool} {L N : Nat} {x : Str} {dL : Dr}
    (T : TabOk t (ks.map (·.1)) gcd) (hb : ∀ d ∈ t.ds, bindsB d) (hbe : ∀ e ∈ t.es, bindsE e) (hL : t.ds[L]? = some dL) (hps : dL.ps = [x]) (hgood : good N t ks L)
    (X : K.In h) (G0 : h.Ns mainGlobals mg) (cc : He.SaysX (faOf t ks) (dfs t) [] (tfOf t) (exOf gcd t) w h K) (hmg : mg dL.name = some (.ref f)) :
    LamX.LawAtS l w K CX0 (3 * N) 63 x mg f h := by
  have sd : He.SaysD (faOf t ks) (dfs t) K := cc.t.d
  have fF : ∀ {q : He.Fa}, q ∈ faOf t ks → q.ok K = true := fun hq => sd.facts hq
  have hex : exOf gcd t K = true := cc.more
  obtain ⟨hex1, hex2⟩ := and4 hex
  obtain ⟨hex2, hex5⟩ := and4 hex2
  obtain ⟨hex3, hex4⟩ := and4 hex2
  obtain ⟨G, hG⟩ : ∃ G : Gx, G = ⟨l.prog, w, K, mg, h, fun k => He.ga K (t.ds.getD k default).name, fun j => He.ga K (t.exs.getD j ("", false)).1, (lams t).map (fun d => ((He.cT K (d.name, none)).2, d.name ++ ".<locals>." ++ "<lambda>")), none, t.ds.length⟩ := ⟨_, rfl⟩
  have hK : K = G.K := by rw [hG]
  have hfa : ∀ k d, t.ds[k]? = some d → G.fa k = He.ga K d.name := fun k d e => by
    rw [hG]
    show He.ga K (t.ds.getD k default).name = _
    rw [List.getD_eq_getElem?_getD, e]
    rfl
  have hca : ∀ j y b, t.exs[j]? = some (y, b) → G.ca j = He.ga K y := fun j y b e => by
    rw [hG]
    show He.ga K (t.exs.getD j ("", false)).1 = _
    rw [List.getD_eq_getElem?_getD, e]
    rfl
  have i1 : ∀ {q : He.Fa}, q ∈ t.ds.map (fun d => He.Fa.glo d.name) → q ∈ faOf t ks := fun h => List.mem_append_left _ h
  have i2 : ∀ {q : He.Fa}, q ∈ builtins.map He.Fa.free → q ∈ faOf t ks := fun h => List.mem_append_right _ (List.mem_append_left _ h)
  have i3 : ∀ {q : He.Fa}, q ∈ ks.map (fun q => q.2.fa q.1) → q ∈ faOf t ks := fun h => List.mem_append_right _ (List.mem_append_right _ (List.mem_append_left _ h))
  have i4 : ∀ {q : He.Fa}, q ∈ t.es.map (fun e => He.Fa.glo e.name) → q ∈ faOf t ks := fun h => List.mem_append_right _ (List.mem_append_right _ (List.mem_append_right _ (List.mem_append_left _ h)))
  have i5 : ∀ {q : He.Fa}, q ∈ t.exs.map (fun p => He.Fa.glo p.1) → q ∈ faOf t ks := fun h => List.mem_append_right _ (List.mem_append_right _ (List.mem_append_right _ (List.mem_append_right _ (List.mem_append_left _ h))))
  have i6 : ∀ {q : He.Fa}, q ∈ (rzs t).map He.Fa.exc → q ∈ faOf t ks := fun h => List.mem_append_right _ (List.mem_append_right _ (List.mem_append_right _ (List.mem_append_right _ (List.mem_append_right _ (List.mem_append_left _ h)))))
  have i7 : ∀ {q : He.Fa}, q ∈ t.es.map (fun e => He.Fa.glo e.ge) → q ∈ faOf t ks := fun h => List.mem_append_right _ (List.mem_append_right _ (List.mem_append_right _ (List.mem_append_right _ (List.mem_append_right _ (List.mem_append_right _ (List.mem_append_left _ h))))))
  have i8 : ∀ {q : He.Fa}, q ∈ t.es.flatMap (fun e => (rzs t).map fun x => He.Fa.exm x e.ge true) → q ∈ faOf t ks := fun h => List.mem_append_right _ (List.mem_append_right _ (List.mem_append_right _ (List.mem_append_right _ (List.mem_append_right _ (List.mem_append_right _ (List.mem_append_right _ h))))))
  have gl : ∀ k d, t.ds[k]? = some d → mg d.name = some (.ref (G.fa k)) := fun k d e => by
    rw [hfa k d e]
    exact He.glo_ok X G0 (fF (i1 (List.mem_map.mpr ⟨d, List.mem_of_getElem? e, rfl⟩)))
  have fd_of : ∀ k d, t.ds[k]? = some d → ∃ fd, FunD K d.name d.name (defArgs d.st) (defBody d.st) (defScope d.st) [] [] (G.fa k) fd := fun k d e => by
    obtain ⟨fd, F⟩ := sd.defs (d := dfdOf d) (List.mem_append_left _ (List.mem_map.mpr ⟨d, List.mem_of_getElem? e, rfl⟩))
    rw [hfa k d e]
    exact ⟨fd, F⟩
  have bi : ∀ y ∈ builtins, mg y = none := fun y hy => He.free_ok X G0 (fF (i2 (List.mem_map.mpr ⟨y, hy, rfl⟩)))
  have con : ∀ k y, (ks.map (·.1))[k]? = some y → ∃ v u, mg y = some u ∧ RelV v u ∧ ∀ F m, Rp G F m (kcOf ks k) v := fun k y e => by
    rw [List.getElem?_map] at e
    cases q : ks[k]? with
    | none => rw [q] at e; cases e
    | some p =>
      rw [q] at e
      cases e
      obtain ⟨y, p⟩ := p
      have hq : p.fa y ∈ faOf t ks := i3 (List.mem_map.mpr ⟨(y, p), List.mem_of_getElem? q, rfl⟩)
      have hkc : kcOf ks k = p.d := by
        unfold kcOf
        rw [q]
      cases p with
      | int i =>
        obtain ⟨t, ht⟩ := He.int_ok X G0 (fF hq)
        exact ⟨.int i, _, ht, ⟨t, rfl⟩, fun F m => by rw [hkc]; exact .int i⟩
      | str z =>
        obtain ⟨t, ht⟩ := He.str_ok X G0 (fF hq)
        exact ⟨.str z, _, ht, ⟨t, rfl⟩, fun F m => by rw [hkc]; exact .str z⟩
  have hg : gcd = true → mg "gcd" = some (.builtin "math.gcd") := fun hg => by
    rw [hg] at hex1
    exact PySem.W.mg_of X G0 (He.eqO_ok hex1)
  have rz : ∀ j y, t.exs[j]? = some (y, true) → y ∈ rzs t := fun j y e => List.mem_map.mpr ⟨(y, true), List.mem_filter.mpr ⟨List.mem_of_getElem? e, rfl⟩, rfl⟩
  have xf : ExcF G K mg t.exs := {
    mg := fun j y b e => by
      rw [hca j y b e]
      exact He.glo_ok X G0 (fF (i5 (List.mem_map.mpr ⟨(y, b), List.mem_of_getElem? e, rfl⟩)))
    mak := fun j y e => by
      rw [hca j y true e]
      exact He.exc_ok (fF (i6 (List.mem_map.mpr ⟨y, rz j y e, rfl⟩)))
    is := fun j y e => by
      rw [hca j y true e]
      exact excCB_ok (List.all_eq_true.mp hex4 y (rz j y e))
    kit := fun j y q y2 b e e2 => by
      rw [hca j y true e, hca q y2 b e2]
      have h1 := List.all_eq_true.mp hex3 j (List.mem_range.mpr (List.getElem?_eq_some_iff.mp e).1)
      have h2 := List.all_eq_true.mp h1 q (List.mem_range.mpr (List.getElem?_eq_some_iff.mp e2).1)
      rw [e, e2] at h2
      exact of_decide_eq_true h2 }
  have er : ∀ base : Heap, ∀ e ∈ t.es, ErrK G l.prog w K mg base (errC t.exs e) e.name := fun base e he => by
    obtain ⟨fd, F⟩ := sd.defs (d := dfdE e) (List.mem_append_right _ (List.mem_map.mpr ⟨e, he, rfl⟩))
    refine er_ok (by rw [hG]) hK F (T.ce e he) (He.glo_ok X G0 (fF (i4 (List.mem_map.mpr ⟨e, he, rfl⟩)))) (fun a ha => ?_) bi xf (He.glo_ok X G0 (fF (i7 (List.mem_map.mpr ⟨e, he, rfl⟩)))) fun j y ey => ?_
    · have hd : e.N.headD "" = a := by
        rw [← List.head?_eq_getElem?] at ha
        rw [List.headD_eq_head?_getD, ha]
        rfl
      refine F.bindsN fun kV doc pm an cdv ct us hl => ?_
      rw [← hd]
      exact hbe e he kV doc pm an cdv ct us hl
    · rw [hca j y true ey]
      exact He.exm_ok (fF (i8 (List.mem_flatMap.mpr ⟨e, he, List.mem_map.mpr ⟨y, rz j y ey, rfl⟩⟩)))
  obtain ⟨fd, FD⟩ := fd_of L dL hL
  have ef : f = G.fa L := by
    have := hmg.symm.trans (gl L dL hL)
    cases this
    rfl
  have b := FunD.bindsA (ps := dL.ps) FD (hb dL (List.mem_of_getElem? hL))
  have hcs : ∀ p ∈ (tfOf t).map (He.cT K), ∃ q ∈ tfOf t, He.cT K q = p := fun p hp => List.mem_map.mp hp
  refine ⟨fd, (tfOf t).map (He.cT K), fun vs H Q _ => spD G dL.ps.length (tabF (kcOf ks) t N L) vs H Q fun _ _ _ => False, fun p hp => ?_, fun p hp => ?_, fun p hp => ?_, fun s u => ?_, ?_, fun base hKb hns hTB => ?_⟩
  · obtain ⟨q, hq, rfl⟩ := hcs p hp
    exact cc.empty q hq
  · obtain ⟨q, hq, rfl⟩ := hcs p hp
    exact cc.out q hq
  · obtain ⟨q, hq, rfl⟩ := hcs p hp
    exact PySem.W.codeHd_of_K X (cc.hd q hq)
  · have := b s [u] (by rw [hps]; rfl)
    rw [hps] at this
    exact this
  · intro H a ns hl _ hTb hS
    refine ⟨[], [.scr ns], ⟨[], [], H⟩, rfl, by rw [hps]; rfl, mok0 H (fun p hp => ?_), ?_, ?_⟩
    · rw [hG] at hp
      obtain ⟨d, hd, rfl⟩ := List.mem_map.mp hp
      exact LamX.TabS.nil (hTb (He.cT K (d.name, none)) (List.mem_map.mpr ⟨(d.name, none), List.mem_map.mpr ⟨d, hd, rfl⟩, rfl⟩))
    · show Rps G (Wd.F [] ⟨[], [], H⟩) [] [.scr ns] [.ref a]
      rw [wd0_F]
      exact .cons (.scr (hK ▸ hS)) .nil
    · refine DL.T.good_mono (fun q hq => ?_) (hgood ns hl)
      obtain ⟨μ, rfl⟩ := hq
      intro W' _ _ _ v hv
      cases hv
      rfl
  · obtain ⟨fd2, FD2, _, O⟩ := tab_ok (P := l.prog) (w := w) (base := base) (t := t) hK T (by rw [hG]) (fun k d e => by
      obtain ⟨fd, F⟩ := fd_of k d e
      refine ⟨fd, F, F.bindsN (hb d (List.mem_of_getElem? e)), fun hlam c hc => ?_⟩
      have hm : d ∈ lams t := List.mem_filter.mpr ⟨List.mem_of_getElem? e, hlam⟩
      obtain ⟨oc, od, dV, kV, doc, pm, an, cdv, ct, osl, e1, lk, _⟩ := F.ex
      have hcode : He.codeOf K (d.name, none) = c := He.codeOf_eq (p := (d.name, none)) (by
        show K.lookup (He.ga K d.name) = _
        rw [← hfa k d e]
        exact lk) hc
      refine ⟨(He.cT K (d.name, none)).2, ?_, ?_, fun p hp hq => ?_⟩
      · have := hTB (He.cT K (d.name, none)) (List.mem_map.mpr ⟨(d.name, none), List.mem_map.mpr ⟨d, hm, rfl⟩, rfl⟩)
        rw [← hcode]
        exact this
      · rw [hG]
        exact List.mem_map.mpr ⟨d, hm, rfl⟩
      · rw [hG] at hp
        obtain ⟨d2, hd2, rfl⟩ := List.mem_map.mp hp
        have h1 := List.all_eq_true.mp (List.all_eq_true.mp hex5 d2 hd2) d hm
        rw [show (He.cT K (d2.name, none)).2 = (He.cT K (d.name, none)).2 from hq] at h1
        have h2 : d2.name = d.name := by simpa using h1
        show d2.name ++ _ ++ _ = _
        rw [h2]) bi con hg gl xf (er base) N L dL hL
    have efd : fd2 = fd := by
      obtain ⟨_, _, _, _, _, _, _, _, _, _, _, lk1, _⟩ := FD.ex
      obtain ⟨_, _, _, _, _, _, _, _, _, _, _, lk2, _⟩ := FD2.ex
      rw [lk1] at lk2
      have := Option.some.inj lk2
      injection this with _ _ h3 _
      injection h3 with h4
      exact h4.symm
    rw [ef, ← efd, ← hps]
    exact fnOk_calm O
end DL
/-! DL15: runs without memory, in equations -/
namespace DL
open PySem
theorem T.bind_assoc {α β γ : Type} (f : α → T β) (g : β → T γ) : ∀ t : T α, (t.bind f).bind g = t.bind fun a => (f a).bind g
  | .ret a => rfl
  | .roll n k => by
    show T.roll n _ = T.roll n _
    congr 1
    funext r
    exact T.bind_assoc f g (k r)
section
variable {α β γ : Type}
@[simp] theorem pb (a : α) (f : α → M β) : M.bind (M.pure a) f = f a := rfl
@[simp] theorem bb (m : M α) (f : α → M β) (g : β → M γ) : M.bind (M.bind m f) g = M.bind m fun x => M.bind (f x) g := by
  funext μ
  unfold M.bind
  rw [T.bind_assoc]
  congr 1
  funext r
  cases r <;> rfl
@[simp] theorem badb (f : α → M β) : M.bind M.bad f = M.bad := rfl
@[simp] theorem opt_some (a : α) : M.opt (some a) = M.pure a := rfl
@[simp] theorem opt_none : M.opt (none : Option α) = M.bad := rfl
@[simp] theorem iteb {c : Prop} [Decidable c] (a b : M α) (f : α → M β) : M.bind (if c then a else b) f = if c then M.bind a f else M.bind b f := by
  by_cases q : c
  · rw [if_pos q, if_pos q]
  · rw [if_neg q, if_neg q]
@[simp] theorem popM_pure (a : D) : popM (M.pure a) = M.pure a := by
  funext μ
  show (if _ then T.ret (R.ok a (μ.take μ.length)) else T.ret (R.ok a μ)) = _
  rw [List.take_length]
  exact ite_self _
@[simp] theorem popM_bad : popM M.bad = M.bad := rfl
@[simp] theorem popM_ite {c : Prop} [Decidable c] (a b : M D) : popM (if c then a else b) = if c then popM a else popM b := by
  by_cases q : c
  · rw [if_pos q, if_pos q]
  · rw [if_neg q, if_neg q]
theorem popM_opt (o : Option D) : popM (M.opt o) = M.opt o := by
  cases o <;> simp
end
section
variable (C : Nat → List D → M D) (K : Nat → D) (ρ : Env)

variable (a b c d e es it elt cond lo hi : Ez) (o : Op2) (bo : BoolOp) (cp cp2 : Cp) (n : Nat) (z : Int) (x : Str) (q : Bool) (s : String) (f : Bf) (tg : Tz)
@[simp] theorem ev_non_e : (ev C K (.non)).e ρ = M.pure .non := rfl
@[simp] theorem ev_non_t : (ev C K (.non)).t ρ = M.bind ((ev C K (.non)).e ρ) truth := rfl
@[simp] theorem ev_non_i : (ev C K (.non)).i ρ = M.bind ((ev C K (.non)).e ρ) still := rfl
@[simp] theorem ev_non_p : (ev C K (.non)).p ρ = M.bind ((ev C K (.non)).e ρ) asInt := rfl
@[simp] theorem ev_bl_e : (ev C K (.bl q)).e ρ = M.pure (.bl q) := rfl
@[simp] theorem ev_bl_t : (ev C K (.bl q)).t ρ = M.bind ((ev C K (.bl q)).e ρ) truth := rfl
@[simp] theorem ev_bl_i : (ev C K (.bl q)).i ρ = M.bind ((ev C K (.bl q)).e ρ) still := rfl
@[simp] theorem ev_bl_p : (ev C K (.bl q)).p ρ = M.bind ((ev C K (.bl q)).e ρ) asInt := rfl
@[simp] theorem ev_int_e : (ev C K (.int z)).e ρ = M.pure (.int z) := rfl
@[simp] theorem ev_int_t : (ev C K (.int z)).t ρ = M.bind ((ev C K (.int z)).e ρ) truth := rfl
@[simp] theorem ev_int_i : (ev C K (.int z)).i ρ = M.bind ((ev C K (.int z)).e ρ) still := rfl
@[simp] theorem ev_int_p : (ev C K (.int z)).p ρ = M.bind ((ev C K (.int z)).e ρ) asInt := rfl
@[simp] theorem ev_str_e : (ev C K (.str x)).e ρ = M.pure (.str x) := rfl
@[simp] theorem ev_str_t : (ev C K (.str x)).t ρ = M.bind ((ev C K (.str x)).e ρ) truth := rfl
@[simp] theorem ev_str_i : (ev C K (.str x)).i ρ = M.bind ((ev C K (.str x)).e ρ) still := rfl
@[simp] theorem ev_str_p : (ev C K (.str x)).p ρ = M.bind ((ev C K (.str x)).e ρ) asInt := rfl
@[simp] theorem ev_var_e : (ev C K (.var n)).e ρ = M.bind (get ρ n) res := rfl
@[simp] theorem ev_var_t : (ev C K (.var n)).t ρ = M.bind ((ev C K (.var n)).e ρ) truth := rfl
@[simp] theorem ev_var_i : (ev C K (.var n)).i ρ = M.bind ((ev C K (.var n)).e ρ) still := rfl
@[simp] theorem ev_var_p : (ev C K (.var n)).p ρ = M.bind ((ev C K (.var n)).e ρ) asInt := rfl
@[simp] theorem ev_gfn_e : (ev C K (.gfn n)).e ρ = M.pure (.fn n) := rfl
@[simp] theorem ev_gfn_t : (ev C K (.gfn n)).t ρ = M.bind ((ev C K (.gfn n)).e ρ) truth := rfl
@[simp] theorem ev_gfn_i : (ev C K (.gfn n)).i ρ = M.bind ((ev C K (.gfn n)).e ρ) still := rfl
@[simp] theorem ev_gfn_p : (ev C K (.gfn n)).p ρ = M.bind ((ev C K (.gfn n)).e ρ) asInt := rfl
@[simp] theorem ev_gcon_e : (ev C K (.gcon n)).e ρ = M.pure (K n) := rfl
@[simp] theorem ev_gcon_t : (ev C K (.gcon n)).t ρ = M.bind ((ev C K (.gcon n)).e ρ) truth := rfl
@[simp] theorem ev_gcon_i : (ev C K (.gcon n)).i ρ = M.bind ((ev C K (.gcon n)).e ρ) still := rfl
@[simp] theorem ev_gcon_p : (ev C K (.gcon n)).p ρ = M.bind ((ev C K (.gcon n)).e ρ) asInt := rfl
@[simp] theorem ev_gty_e : (ev C K (.gty s)).e ρ = M.pure (.ty s) := rfl
@[simp] theorem ev_gty_t : (ev C K (.gty s)).t ρ = M.bind ((ev C K (.gty s)).e ρ) truth := rfl
@[simp] theorem ev_gty_i : (ev C K (.gty s)).i ρ = M.bind ((ev C K (.gty s)).e ρ) still := rfl
@[simp] theorem ev_gty_p : (ev C K (.gty s)).p ρ = M.bind ((ev C K (.gty s)).e ρ) asInt := rfl
@[simp] theorem ev_frz_e : (ev C K (.frz n)).e ρ = M.bind (get ρ n) frz := rfl
@[simp] theorem ev_frz_t : (ev C K (.frz n)).t ρ = M.bind ((ev C K (.frz n)).e ρ) truth := rfl
@[simp] theorem ev_frz_i : (ev C K (.frz n)).i ρ = M.bind ((ev C K (.frz n)).e ρ) still := rfl
@[simp] theorem ev_frz_p : (ev C K (.frz n)).p ρ = M.bind ((ev C K (.frz n)).e ρ) asInt := rfl
@[simp] theorem ev_bin_e : (ev C K (.bin o a b)).e ρ = M.bind ((ev C K a).e ρ) fun x => M.bind ((ev C K b).e ρ) fun y => binop o x y := rfl
@[simp] theorem ev_bin_t : (ev C K (.bin o a b)).t ρ = M.bind ((ev C K (.bin o a b)).e ρ) truth := rfl
@[simp] theorem ev_bin_i : (ev C K (.bin o a b)).i ρ = M.bind ((ev C K (.bin o a b)).e ρ) still := rfl
@[simp] theorem ev_bin_p : (ev C K (.bin o a b)).p ρ = M.bind ((ev C K (.bin o a b)).e ρ) asInt := rfl
@[simp] theorem ev_neg_e : (ev C K (.neg a)).e ρ = M.bind ((ev C K a).e ρ) negop := rfl
@[simp] theorem ev_neg_t : (ev C K (.neg a)).t ρ = M.bind ((ev C K (.neg a)).e ρ) truth := rfl
@[simp] theorem ev_neg_i : (ev C K (.neg a)).i ρ = M.bind ((ev C K (.neg a)).e ρ) still := rfl
@[simp] theorem ev_neg_p : (ev C K (.neg a)).p ρ = M.bind ((ev C K (.neg a)).e ρ) asInt := rfl
@[simp] theorem ev_cmp_e : (ev C K (.cmp cp a b)).e ρ = M.bind ((ev C K a).e ρ) fun x => M.bind ((ev C K b).e ρ) fun y => cmpop cp x y := rfl
@[simp] theorem ev_cmp_t : (ev C K (.cmp cp a b)).t ρ = M.bind ((ev C K (.cmp cp a b)).e ρ) truth := rfl
@[simp] theorem ev_cmp_i : (ev C K (.cmp cp a b)).i ρ = M.bind ((ev C K (.cmp cp a b)).e ρ) still := rfl
@[simp] theorem ev_cmp_p : (ev C K (.cmp cp a b)).p ρ = M.bind ((ev C K (.cmp cp a b)).e ρ) asInt := rfl
@[simp] theorem ev_chain_e : (ev C K (.chain cp cp2 a b d)).e ρ = M.bind ((ev C K a).e ρ) fun x => M.bind ((ev C K b).e ρ) fun y => M.bind (cmpop cp x y) (chainop cp2 y ((ev C K d).e ρ)) := rfl
@[simp] theorem ev_chain_t : (ev C K (.chain cp cp2 a b d)).t ρ = M.bind ((ev C K (.chain cp cp2 a b d)).e ρ) truth := rfl
@[simp] theorem ev_chain_i : (ev C K (.chain cp cp2 a b d)).i ρ = M.bind ((ev C K (.chain cp cp2 a b d)).e ρ) still := rfl
@[simp] theorem ev_chain_p : (ev C K (.chain cp cp2 a b d)).p ρ = M.bind ((ev C K (.chain cp cp2 a b d)).e ρ) asInt := rfl
@[simp] theorem ev_ife_e : (ev C K (.ife c a b)).e ρ = M.bind ((ev C K c).t ρ) fun k => if k = true then (ev C K a).e ρ else (ev C K b).e ρ := rfl
@[simp] theorem ev_ife_t : (ev C K (.ife c a b)).t ρ = M.bind ((ev C K (.ife c a b)).e ρ) truth := rfl
@[simp] theorem ev_ife_i : (ev C K (.ife c a b)).i ρ = M.bind ((ev C K (.ife c a b)).e ρ) still := rfl
@[simp] theorem ev_ife_p : (ev C K (.ife c a b)).p ρ = M.bind ((ev C K (.ife c a b)).e ρ) asInt := rfl
@[simp] theorem ev_tup_e : (ev C K (.tup es)).e ρ = M.bind ((ev C K es).es ρ) fun xs => M.bind (lenOk xs) fun xs => M.pure (.tup xs) := rfl
@[simp] theorem ev_tup_t : (ev C K (.tup es)).t ρ = M.bind ((ev C K (.tup es)).e ρ) truth := rfl
@[simp] theorem ev_tup_i : (ev C K (.tup es)).i ρ = M.bind ((ev C K (.tup es)).e ρ) still := rfl
@[simp] theorem ev_tup_p : (ev C K (.tup es)).p ρ = M.bind ((ev C K (.tup es)).e ρ) asInt := rfl
@[simp] theorem ev_idx_e : (ev C K (.idx a b)).e ρ = M.bind ((ev C K a).e ρ) fun x => M.bind ((ev C K b).e ρ) fun y => idxop x y := rfl
@[simp] theorem ev_idx_t : (ev C K (.idx a b)).t ρ = M.bind ((ev C K (.idx a b)).e ρ) truth := rfl
@[simp] theorem ev_idx_i : (ev C K (.idx a b)).i ρ = M.bind ((ev C K (.idx a b)).e ρ) still := rfl
@[simp] theorem ev_idx_p : (ev C K (.idx a b)).p ρ = M.bind ((ev C K (.idx a b)).e ρ) asInt := rfl
@[simp] theorem ev_slc_e : (ev C K (.slc a lo hi)).e ρ = M.bind ((ev C K a).e ρ) fun x => M.bind ((ev C K lo).p ρ) fun l => M.bind ((ev C K hi).p ρ) fun h => slcop l h x := rfl
@[simp] theorem ev_slc_t : (ev C K (.slc a lo hi)).t ρ = M.bind ((ev C K (.slc a lo hi)).e ρ) truth := rfl
@[simp] theorem ev_slc_i : (ev C K (.slc a lo hi)).i ρ = M.bind ((ev C K (.slc a lo hi)).e ρ) still := rfl
@[simp] theorem ev_slc_p : (ev C K (.slc a lo hi)).p ρ = M.bind ((ev C K (.slc a lo hi)).e ρ) asInt := rfl
@[simp] theorem ev_mkl_e : (ev C K (.mkl a)).e ρ = M.bind ((ev C K a).l ρ) fun xs => alloc (.lst xs) := rfl
@[simp] theorem ev_mkl_t : (ev C K (.mkl a)).t ρ = M.bind ((ev C K (.mkl a)).e ρ) truth := rfl
@[simp] theorem ev_mkl_i : (ev C K (.mkl a)).i ρ = M.bind ((ev C K (.mkl a)).e ρ) still := rfl
@[simp] theorem ev_mkl_p : (ev C K (.mkl a)).p ρ = M.bind ((ev C K (.mkl a)).e ρ) asInt := rfl
@[simp] theorem ev_call_e : (ev C K (.call n es)).e ρ = M.bind ((ev C K es).es ρ) (C n) := rfl
@[simp] theorem ev_call_t : (ev C K (.call n es)).t ρ = M.bind ((ev C K (.call n es)).e ρ) truth := rfl
@[simp] theorem ev_call_i : (ev C K (.call n es)).i ρ = M.bind ((ev C K (.call n es)).e ρ) still := rfl
@[simp] theorem ev_call_p : (ev C K (.call n es)).p ρ = M.bind ((ev C K (.call n es)).e ρ) asInt := rfl
@[simp] theorem ev_bf_e : (ev C K (.bf f es)).e ρ = M.bind ((ev C K es).es ρ) (bfop f) := rfl
@[simp] theorem ev_bf_t : (ev C K (.bf f es)).t ρ = M.bind ((ev C K (.bf f es)).e ρ) truth := rfl
@[simp] theorem ev_bf_i : (ev C K (.bf f es)).i ρ = M.bind ((ev C K (.bf f es)).e ρ) still := rfl
@[simp] theorem ev_bf_p : (ev C K (.bf f es)).p ρ = M.bind ((ev C K (.bf f es)).e ρ) asInt := rfl
@[simp] theorem ev_isx_e : (ev C K (.isx a n)).e ρ = M.bind ((ev C K a).e ρ) (isxop K n) := rfl
@[simp] theorem ev_isx_t : (ev C K (.isx a n)).t ρ = M.bind ((ev C K (.isx a n)).e ρ) truth := rfl
@[simp] theorem ev_isx_i : (ev C K (.isx a n)).i ρ = M.bind ((ev C K (.isx a n)).e ρ) still := rfl
@[simp] theorem ev_isx_p : (ev C K (.isx a n)).p ρ = M.bind ((ev C K (.isx a n)).e ρ) asInt := rfl
@[simp] theorem ev_join_e : (ev C K (.join x b)).e ρ = M.bind ((ev C K b).e ρ) (joinop x) := rfl
@[simp] theorem ev_join_t : (ev C K (.join x b)).t ρ = M.bind ((ev C K (.join x b)).e ρ) truth := rfl
@[simp] theorem ev_join_i : (ev C K (.join x b)).i ρ = M.bind ((ev C K (.join x b)).e ρ) still := rfl
@[simp] theorem ev_join_p : (ev C K (.join x b)).p ρ = M.bind ((ev C K (.join x b)).e ρ) asInt := rfl
@[simp] theorem ev_err_e : (ev C K (.err n a)).e ρ = errM ((ev C K a).e ρ) (C n) := rfl
@[simp] theorem ev_err_t : (ev C K (.err n a)).t ρ = M.bind ((ev C K (.err n a)).e ρ) truth := rfl
@[simp] theorem ev_err_i : (ev C K (.err n a)).i ρ = M.bind ((ev C K (.err n a)).e ρ) still := rfl
@[simp] theorem ev_err_p : (ev C K (.err n a)).p ρ = M.bind ((ev C K (.err n a)).e ρ) asInt := rfl
@[simp] theorem ev_callv_e : (ev C K (.callv n es)).e ρ = M.bind (get ρ n) (callvop C ((ev C K es).es ρ)) := rfl
@[simp] theorem ev_callv_t : (ev C K (.callv n es)).t ρ = M.bind ((ev C K (.callv n es)).e ρ) truth := rfl
@[simp] theorem ev_callv_i : (ev C K (.callv n es)).i ρ = M.bind ((ev C K (.callv n es)).e ρ) still := rfl
@[simp] theorem ev_callv_p : (ev C K (.callv n es)).p ρ = M.bind ((ev C K (.callv n es)).e ρ) asInt := rfl
@[simp] theorem ev_dnew_e : (ev C K (.dnew q)).e ρ = alloc (if q then .dT [] else .dK []) := rfl
@[simp] theorem ev_dnew_t : (ev C K (.dnew q)).t ρ = M.bind ((ev C K (.dnew q)).e ρ) truth := rfl
@[simp] theorem ev_dnew_i : (ev C K (.dnew q)).i ρ = M.bind ((ev C K (.dnew q)).e ρ) still := rfl
@[simp] theorem ev_dnew_p : (ev C K (.dnew q)).p ρ = M.bind ((ev C K (.dnew q)).e ρ) asInt := rfl
@[simp] theorem ev_dget_e : (ev C K (.dget a b)).e ρ = M.bind ((ev C K a).e ρ) fun x => M.bind ((ev C K b).e ρ) fun y => dgetK x y := rfl
@[simp] theorem ev_dget_t : (ev C K (.dget a b)).t ρ = M.bind ((ev C K (.dget a b)).e ρ) truth := rfl
@[simp] theorem ev_dget_i : (ev C K (.dget a b)).i ρ = M.bind ((ev C K (.dget a b)).e ρ) still := rfl
@[simp] theorem ev_dget_p : (ev C K (.dget a b)).p ρ = M.bind ((ev C K (.dget a b)).e ρ) asInt := rfl
@[simp] theorem ev_index_e : (ev C K (.index a b)).e ρ = M.bind ((ev C K a).e ρ) fun x => M.bind (seqL x) fun _ => M.bind ((ev C K b).e ρ) fun y => indexop x y := rfl
@[simp] theorem ev_index_t : (ev C K (.index a b)).t ρ = M.bind ((ev C K (.index a b)).e ρ) truth := rfl
@[simp] theorem ev_index_i : (ev C K (.index a b)).i ρ = M.bind ((ev C K (.index a b)).e ρ) still := rfl
@[simp] theorem ev_index_p : (ev C K (.index a b)).p ρ = M.bind ((ev C K (.index a b)).e ρ) asInt := rfl
@[simp] theorem ev_dgetT_e : (ev C K (.dgetT a es)).e ρ = M.bind ((ev C K a).e ρ) fun x => M.bind ((ev C K es).es ρ) fun ds => M.bind (lenOk ds) fun ds => dgetop x (.tup ds) := rfl
@[simp] theorem ev_dgetT_t : (ev C K (.dgetT a es)).t ρ = M.bind ((ev C K (.dgetT a es)).e ρ) truth := rfl
@[simp] theorem ev_dgetT_i : (ev C K (.dgetT a es)).i ρ = M.bind ((ev C K (.dgetT a es)).e ρ) still := rfl
@[simp] theorem ev_dgetT_p : (ev C K (.dgetT a es)).p ρ = M.bind ((ev C K (.dgetT a es)).e ρ) asInt := rfl
@[simp] theorem ev_bin_l : (ev C K (.bin o a b)).l ρ = M.bind ((ev C K a).e ρ) fun x => M.bind ((ev C K b).e ρ) fun y => binopL o x y := rfl
@[simp] theorem ev_bf_l : (ev C K (.bf f es)).l ρ = M.bind ((ev C K es).es ρ) (bfL f) := rfl
@[simp] theorem ev_slc_l : (ev C K (.slc a lo hi)).l ρ = M.bind ((ev C K a).e ρ) fun x => M.bind ((ev C K lo).p ρ) fun l => M.bind ((ev C K hi).p ρ) fun h => M.bind (seqL x) fun xs => M.pure (cut xs l h) := rfl
@[simp] theorem ev_lst_l : (ev C K (.lst es)).l ρ = M.bind ((ev C K es).es ρ) lenOk := rfl
@[simp] theorem ev_lst_e : (ev C K (.lst es)).e ρ = M.bind ((ev C K (.lst es)).l ρ) fun xs => M.pure (.lst xs) := rfl
@[simp] theorem ev_lst_i : (ev C K (.lst es)).i ρ = M.bind ((ev C K (.lst es)).e ρ) still := rfl
@[simp] theorem ev_lc_l : (ev C K (.lc tg it cond elt)).l ρ = M.bind ((ev C K it).i ρ) fun ds => M.bind (lenOk ds) fun ds => lcGo ds (lcTurn tg (ev C K cond).t (ev C K elt).e ρ) := rfl
@[simp] theorem ev_lc_e : (ev C K (.lc tg it cond elt)).e ρ = M.bind ((ev C K (.lc tg it cond elt)).l ρ) fun xs => M.pure (.lst xs) := rfl
@[simp] theorem ev_lc_i : (ev C K (.lc tg it cond elt)).i ρ = M.bind ((ev C K (.lc tg it cond elt)).e ρ) still := rfl
@[simp] theorem ev_lrng_l : (ev C K (.lrng a b)).l ρ = M.bind ((ev C K a).e ρ) fun x => M.bind ((ev C K b).e ρ) fun y => M.bind (rng2 x y) lenOk := rfl
@[simp] theorem ev_lrng_e : (ev C K (.lrng a b)).e ρ = M.bind ((ev C K (.lrng a b)).l ρ) fun xs => M.pure (.lst xs) := rfl
@[simp] theorem ev_lrng_i : (ev C K (.lrng a b)).i ρ = M.bind ((ev C K (.lrng a b)).e ρ) still := rfl
@[simp] theorem ev_trng_e : (ev C K (.trng a b)).e ρ = M.bind ((ev C K a).e ρ) fun x => M.bind ((ev C K b).e ρ) fun y => M.bind (rng2 x y) fun xs => M.bind (lenOk xs) fun xs => M.pure (.tup xs) := rfl
@[simp] theorem ev_trng_i : (ev C K (.trng a b)).i ρ = M.bind ((ev C K (.trng a b)).e ρ) still := rfl
@[simp] theorem ev_rev_l : (ev C K (.rev a)).l ρ = M.bind ((ev C K a).e ρ) fun x => M.bind (seqL x) fun xs => M.pure xs.reverse := rfl
@[simp] theorem ev_rev_e : (ev C K (.rev a)).e ρ = M.bind ((ev C K (.rev a)).l ρ) fun xs => M.pure (.lst xs) := rfl
@[simp] theorem ev_rev_i : (ev C K (.rev a)).i ρ = M.bind ((ev C K (.rev a)).e ρ) still := rfl
@[simp] theorem ev_range3_i : (ev C K (.range3 a b c)).i ρ = M.bind ((ev C K a).e ρ) fun x => M.bind ((ev C K b).e ρ) fun y => M.bind ((ev C K c).e ρ) fun w => rng3 x y w := rfl
@[simp] theorem ev_zipL_i : (ev C K (.zipL a b)).i ρ = M.bind ((ev C K a).e ρ) fun x => M.bind ((ev C K b).e ρ) fun y => ziplop x y := rfl
@[simp] theorem ev_bool_e : (ev C K (.bool bo es)).e ρ = (ev C K es).b bo ρ := rfl
@[simp] theorem ev_bool_t : (ev C K (.bool bo es)).t ρ = (ev C K es).bt bo ρ := rfl
@[simp] theorem ev_not_e : (ev C K (.not a)).e ρ = M.bind ((ev C K a).e ρ) fun x => M.bind (truth x) fun k => M.pure (.bl !k) := rfl
@[simp] theorem ev_not_t : (ev C K (.not a)).t ρ = M.bind ((ev C K a).t ρ) fun k => M.pure !k := rfl
@[simp] theorem ev_range1_i : (ev C K (.range1 a)).i ρ = M.bind ((ev C K a).e ρ) rng1 := rfl
@[simp] theorem ev_range2_i : (ev C K (.range2 a b)).i ρ = M.bind ((ev C K a).e ρ) fun x => M.bind ((ev C K b).e ρ) fun y => rng2 x y := rfl
@[simp] theorem ev_enum_i : (ev C K (.enum a)).i ρ = M.bind ((ev C K a).e ρ) enumop := rfl
@[simp] theorem ev_zip_i : (ev C K (.zip a b)).i ρ = M.bind ((ev C K a).e ρ) fun x => M.bind ((ev C K b).e ρ) fun y => zipop x y := rfl
@[simp] theorem ev_nil_es : (ev C K .nil).es ρ = M.pure [] := rfl
@[simp] theorem ev_nil_t : (ev C K .nil).t ρ = M.pure true := rfl
@[simp] theorem ev_nil_p : (ev C K .nil).p ρ = M.pure none := rfl
@[simp] theorem ev_cons_es : (ev C K (.cons e es)).es ρ = M.bind ((ev C K e).e ρ) fun x => M.bind ((ev C K es).es ρ) fun xs => M.pure (x :: xs) := rfl
@[simp] theorem ev_one_b : (ev C K (.cons e .nil)).b bo ρ = (ev C K e).e ρ := rfl
@[simp] theorem ev_more_b : (ev C K (.cons e (.cons d es))).b bo ρ = M.bind ((ev C K e).e ρ) fun x => M.bind (truth x) fun k => boolV bo k x ((ev C K (.cons d es)).b bo ρ) := rfl
@[simp] theorem ev_one_bt : (ev C K (.cons e .nil)).bt bo ρ = (ev C K e).t ρ := rfl
@[simp] theorem ev_more_bt : (ev C K (.cons e (.cons d es))).bt bo ρ = M.bind ((ev C K e).t ρ) fun k => boolT bo k ((ev C K (.cons d es)).bt bo ρ) := rfl
end
@[simp] theorem res_non  : res .non = M.pure .non := rfl
@[simp] theorem res_bl {b : Bool} : res (.bl b) = M.pure (.bl b) := rfl
@[simp] theorem res_int {i : Int} : res (.int i) = M.pure (.int i) := rfl
@[simp] theorem res_str {x : Str} : res (.str x) = M.pure (.str x) := rfl
@[simp] theorem res_tup {xs : List D} : res (.tup xs) = M.pure (.tup xs) := rfl
@[simp] theorem res_lst {xs : List D} : res (.lst xs) = M.pure (.lst xs) := rfl
@[simp] theorem res_fn {k : Nat} : res (.fn k) = M.pure (.fn k) := rfl
@[simp] theorem res_cls {k : Nat} : res (.cls k) = M.pure (.cls k) := rfl
@[simp] theorem res_ty {s : String} : res (.ty s) = M.pure (.ty s) := rfl
@[simp] theorem res_scr {ns : List Int} : res (.scr ns) = M.pure (.scr ns) := rfl
section
variable {i j : Int} {xs ys : List D} {a b : Bool} {x y : Str} {m : M D}
@[simp] theorem truth_bl : truth (.bl a) = M.pure a := rfl
@[simp] theorem truth_int : truth (.int i) = M.pure (i != 0) := rfl
@[simp] theorem truth_lst : truth (.lst xs) = M.pure !xs.isEmpty := rfl
@[simp] theorem truth_tup : truth (.tup xs) = M.pure !xs.isEmpty := rfl
@[simp] theorem truth_non : truth .non = M.pure false := rfl
@[simp] theorem bin_add' : binop .add (.int i) (.int j) = M.pure (.int (i + j)) := rfl
@[simp] theorem bin_sub' : binop .sub (.int i) (.int j) = M.pure (.int (i - j)) := rfl
@[simp] theorem neg_int : negop (.int i) = M.pure (.int (-i)) := rfl
@[simp] theorem callv_fn {C : Nat → List D → M D} {k : Nat} {as : M (List D)} : callvop C as (.fn k) = M.bind as (C k) := rfl
@[simp] theorem isx_exn {K : Nat → D} {q : Nat} : isxop K q .exn = (match K xk with
    | .int c => M.pure (.bl (c == (q : Int)))
    | _ => M.bad) := rfl
@[simp] theorem ziplop_lst : ziplop (.lst xs) (.lst ys) = M.pure (zipD xs ys) := rfl
@[simp] theorem lt_int : cmpop .lt (.int i) (.int j) = M.pure (.bl (decide (i < j))) := rfl
@[simp] theorem le_int : cmpop .le (.int i) (.int j) = M.pure (.bl (decide (i ≤ j))) := rfl
@[simp] theorem gt_int : cmpop .gt (.int i) (.int j) = M.pure (.bl (decide (j < i))) := rfl
@[simp] theorem ge_int : cmpop .ge (.int i) (.int j) = M.pure (.bl (decide (j ≤ i))) := rfl
@[simp] theorem isB_bl : cmpop .isB (.bl a) (.bl b) = M.pure (.bl (decide (a = b))) := rfl
@[simp] theorem notB_bl : cmpop .notB (.bl a) (.bl b) = M.pure (.bl (!decide (a = b))) := rfl
@[simp] theorem eq_int : cmpop .eq (.int i) (.int j) = M.pure (.bl (i == j)) := rfl
@[simp] theorem ne_int : cmpop .ne (.int i) (.int j) = M.pure (.bl (!(i == j))) := rfl
@[simp] theorem chain_t (c : Cp) (d : D) : chainop c d m (.bl true) = M.bind m fun z => cmpop c d z := rfl
@[simp] theorem chain_f (c : Cp) (d : D) : chainop c d m (.bl false) = M.pure (.bl false) := rfl
theorem chain_b (c : Cp) (d : D) : chainop c d m (.bl a) = if a = true then M.bind m fun z => cmpop c d z else M.pure (.bl false) := by cases a <;> rfl
@[simp] theorem seqL_lst : seqL (.lst xs) = M.pure xs := rfl
@[simp] theorem seqA_lst : seqA (.lst xs) = M.pure xs := rfl
@[simp] theorem seqA_tup : seqA (.tup xs) = M.pure xs := rfl
@[simp] theorem still_lst : still (.lst xs) = M.pure xs := rfl
@[simp] theorem still_tup : still (.tup xs) = M.pure xs := rfl
@[simp] theorem asInt_int : asInt (.int i) = M.pure (some i) := rfl
@[simp] theorem idx_int (d : D) : idxop d (.int i) = M.bind (seqA d) fun xs => M.opt (L2.atI xs i) := rfl
@[simp] theorem boolV_at (d : D) : boolV .And true d m = m := rfl
@[simp] theorem boolV_af (d : D) : boolV .And false d m = M.pure d := rfl
@[simp] theorem boolV_ot (d : D) : boolV .Or true d m = M.pure d := rfl
@[simp] theorem boolV_of (d : D) : boolV .Or false d m = m := rfl
@[simp] theorem boolT_at (m : M Bool) : boolT .And true m = m := rfl
@[simp] theorem boolT_af (m : M Bool) : boolT .And false m = M.pure false := rfl
@[simp] theorem boolT_ot (m : M Bool) : boolT .Or true m = M.pure true := rfl
@[simp] theorem boolT_of (m : M Bool) : boolT .Or false m = m := rfl
theorem boolT_and (m : M Bool) : boolT .And a m = if a = true then m else M.pure false := by cases a <;> rfl
theorem boolT_or (m : M Bool) : boolT .Or a m = if a = true then M.pure true else m := by cases a <;> rfl
theorem boolV_and (d : D) : boolV .And a d m = if a = true then m else M.pure d := by cases a <;> rfl
theorem boolV_or (d : D) : boolV .Or a d m = if a = true then M.pure d else m := by cases a <;> rfl
@[simp] theorem bf_len (d : D) : bfop .len [d] = M.bind (seqA d) fun xs => M.pure (.int xs.length) := rfl
@[simp] theorem bf_abs : bfop .abs [.int i] = M.pure (.int (if i < 0 then -i else i)) := rfl
@[simp] theorem bf_int : bfop .int [.int i] = M.pure (.int i) := rfl
@[simp] theorem bf_min : bfop .min2 [.int i, .int j] = M.pure (.int (if j < i then j else i)) := rfl
@[simp] theorem bf_max : bfop .max2 [.int i, .int j] = M.pure (.int (if j > i then j else i)) := rfl
@[simp] theorem bf_gcd : bfop .gcd [.int i, .int j] = M.pure (.int ((Nat.gcd i.natAbs j.natAbs : Nat) : Int)) := Eq.trans (Eq.refl _) (Eq.refl _)
@[simp] theorem bf_tuple (d : D) : bfop .tuple [d] = M.bind (seqA d) fun xs => M.pure (.tup xs) := rfl
@[simp] theorem bf_sum (d : D) : bfop .sum [d] = M.bind (seqA d) fun xs => M.bind (M.opt (intsOf xs)) fun is => M.pure (.int is.sum) := rfl
@[simp] theorem bf_minD (d : D) : bfop .minD [d] = M.bind (seqA d) fun xs => M.opt (bestOf (fun y a => PySem.W.dataLt y a) xs) := rfl
@[simp] theorem bf_maxD (d : D) : bfop .maxD [d] = M.bind (seqA d) fun xs => M.opt (bestOf (fun y a => PySem.W.dataLt a y) xs) := rfl
@[simp] theorem bf_min1 (d : D) : bfop .min1 [d] = M.bind (seqA d) fun xs => M.bind (M.opt (intsOf xs)) fun is => M.bind (M.opt is.min?) fun i => M.pure (.int i) := rfl
@[simp] theorem bf_max1 (d : D) : bfop .max1 [d] = M.bind (seqA d) fun xs => M.bind (M.opt (intsOf xs)) fun is => M.bind (M.opt is.max?) fun i => M.pure (.int i) := rfl
@[simp] theorem isin_ii : bfop .isin [.int i, .ty "int"] = M.pure (.bl true) := rfl
@[simp] theorem isin_ib : bfop .isin [.int i, .ty "bool"] = M.pure (.bl false) := rfl
@[simp] theorem intsOf_map (is : List Int) : intsOf (is.map D.int) = some is := by
  induction is with
  | nil => rfl
  | cons i is ih =>
    show (match intsOf (is.map D.int) with
      | some is => some (i :: is)
      | none => none) = _
    rw [ih]
@[simp] theorem lenOk0 : lenOk [] = M.pure [] := rfl
@[simp] theorem len1 (d : D) : lenOk [d] = M.pure [d] := rfl
@[simp] theorem len2 (d e : D) : lenOk [d, e] = M.pure [d, e] := rfl
@[simp] theorem len3 (d e f : D) : lenOk [d, e, f] = M.pure [d, e, f] := rfl
@[simp] theorem len4 (d e f g : D) : lenOk [d, e, f, g] = M.pure [d, e, f, g] := rfl
theorem lenOk_le (h : xs.length ≤ 8000) : lenOk xs = M.pure xs := by
  unfold lenOk
  rw [if_pos (by rw [sizeLine_eq]; omega)]
@[simp] theorem atI0 {α : Type} (a : α) (l : List α) : L2.atI (a :: l) 0 = some a := L2.atI_nat (j := 0) rfl
@[simp] theorem atI1 {α : Type} (a b : α) (l : List α) : L2.atI (a :: b :: l) 1 = some b := L2.atI_nat (j := 1) rfl
@[simp] theorem atI2 {α : Type} (a b c : α) (l : List α) : L2.atI (a :: b :: c :: l) 2 = some c := L2.atI_nat (j := 2) rfl
theorem bin_mulS (h : -(2 ^ 64) < i ∧ i < 2 ^ 64) : binop .mul (.int i) (.int j) = M.pure (.int (i * j)) := by
  refine if_pos ?_
  simp only [Bool.or_eq_true, Bool.and_eq_true, decide_eq_true_eq]
  exact .inl h
/-- a def, called -/
theorem call_at {Kc : Nat → D} {t : Tx} {n k : Nat} {d : Dr} (hd : t.ds[k]? = some d) (h : t.prim k = none) (as : List D) (ha : as.length = d.ps.length) :
    tabF Kc t (n + 1) k as = popM (run (tabF Kc t n) Kc d.N.length d.body as) := by
  have := callF_at (Kc := Kc) (ds := t.ds.map Dr.df) (p := t.prim) (n := n) (k := k) (d := d.df) h (by rw [List.getElem?_map, hd]; rfl)
  show callF Kc (t.ds.map Dr.df) t.prim (n + 1) k as = _
  rw [this]
  exact if_pos ha
theorem run_eq {C : Nat → List D → M D} {K : Nat → D} {n : Nat} {b : Sz} {as : List D} : run C K n b as = M.bind (evS C K b (as.map some ++ List.replicate (n - as.length) none)) fun o => match o with
  | .nx _ => M.pure .non
  | .rt d => M.pure d
  | _ => M.bad := rfl
end
/-! ### loops -/
section
variable {σ : Type}
/-- a loop whose turns go on -/
theorem forGo_fold {tg : Tz} {b : Env → M Out} {emb : σ → Env} {g : σ → D → σ} : ∀ (ds : List D) (s : σ), (∀ s, ∀ d ∈ ds, (M.bind (M.opt (bindT tg d (emb s))) fun ρ' => b ρ') = M.pure (.nx (emb (g s d)))) → forGo tg b ds (emb s) = M.pure (.nx (emb (ds.foldl g s)))
  | [], s, _ => rfl
  | d :: ds, s, h => by
    have h1 := h s d (List.mem_cons_self ..)
    show (M.bind (M.opt (bindT tg d (emb s))) fun ρ' => M.bind (b ρ') _) = _
    rw [← bb, h1, pb]
    exact forGo_fold ds (g s d) fun s e he => h s e (List.mem_cons_of_mem _ he)
theorem lcGo_map {f : D → M (Option D)} {g : D → Option D} : ∀ (ds : List D), (∀ d ∈ ds, f d = M.pure (g d)) → lcGo ds f = M.pure (ds.filterMap g)
  | [], _ => rfl
  | d :: ds, h => by
    show (M.bind (f d) fun r => M.bind (lcGo ds f) fun rs => M.pure (match r with
      | some e => e :: rs
      | none => rs)) = _
    rw [h d (List.mem_cons_self ..), pb, lcGo_map ds fun e he => h e (List.mem_cons_of_mem _ he), pb, List.filterMap_cons]
    cases g d <;> rfl
@[simp] theorem calmM_pure {α : Type} (a : α) : calmM (M.pure a) = M.pure a := rfl
@[simp] theorem calmM_ite {α : Type} {c : Prop} [Decidable c] (a b : M α) : calmM (if c then a else b) = if c then calmM a else calmM b := by
  by_cases q : c
  · rw [if_pos q, if_pos q]
  · rw [if_neg q, if_neg q]
end
end DL
/-! DL16: the laws' common defs: sort, like -/
namespace DL
open PySem
theorem mem2 {l a b : Int} : cmpop .mem (.int l) (.tup [.int a, .int b]) = M.pure (.bl (a == l || b == l)) := by
  show M.pure (D.bl (a == l || (b == l || false))) = _
  rw [Bool.or_false]
theorem rng1_ok {n : Int} (h : 0 ≤ n ∧ n ≤ 1000000) : rng1 (.int n) = M.pure ((List.range n.toNat).map fun (i : Nat) => D.int (i : Int)) := by
  refine if_pos ?_
  unfold lim
  omega
theorem bin_fdivS {i j : Int} (h : j ≠ 0 ∧ j.natAbs < 1073741824) : binop .fdiv (.int i) (.int j) = M.pure (.int (i.fdiv j)) := if_pos h
theorem mem_rng {s : Nat} {d : D} (h : d ∈ (List.range s).map fun (i : Nat) => D.int (i : Int)) : ∃ i : Nat, i < s ∧ d = .int i := by
  obtain ⟨i, h1, h2⟩ := List.mem_map.mp h
  exact ⟨i, List.mem_range.mp h1, h2.symm⟩
@[simp] theorem isN_non {d : D} : cmpop .isN d .non = M.pure (D.bl d.isNon) := rfl
@[simp] theorem notN_non {d : D} : cmpop .notN d .non = M.pure (D.bl (!d.isNon)) := rfl
theorem isinF {d : D} {n t : String} (h1 : tyName d = some t) (h2 : tyOk n = true) : bfop .isin [d, .ty n] = M.pure (.bl (isTy t n)) := by
  show (match tyName d with
    | some t => if tyOk n then M.pure (D.bl (isTy t n)) else M.bad
    | none => M.bad) = _
  rw [h1]
  exact if_pos h2
theorem isinE {d : D} {n : String} : bfop .isin [d, .ty n] = match tyName d with
    | some t => if tyOk n then M.pure (D.bl (isTy t n)) else M.bad
    | none => M.bad := rfl
def sortB : Sz := (.cons (.ite (.bool .Or (.cons (.cmp .isN (.var 0) .non) (.cons (.bf .isin (.cons (.var 0) (.cons (.gty "bool") .nil))) .nil))) (.cons (.ret (.ife (.cmp .isN (.var 0) .non) (.int 0) (.int 1))) .nil) .nil) (.cons (.ite (.bool .Or (.cons (.bf .isin (.cons (.var 0) (.cons (.gty "int") .nil))) (.cons (.bf .isin (.cons (.var 0) (.cons (.gty "str") .nil))) .nil))) (.cons (.ret (.ife (.bf .isin (.cons (.var 0) (.cons (.gty "int") .nil))) (.int 2) (.int 3))) .nil) .nil) (.cons (.ret (.ife (.bf .isin (.cons (.var 0) (.cons (.gty "tuple") .nil))) (.int 4) (.ife (.bf .isin (.cons (.var 0) (.cons (.gty "list") .nil))) (.int 5) (.int 6)))) .nil)))
def likeB (kS kL : Nat) : Sz := (.cons (.set 2 (.call kS (.cons (.var 1) .nil))) (.cons (.ite (.bool .Or (.cons (.cmp .ne (.call kS (.cons (.var 0) .nil)) (.var 2)) (.cons (.cmp .eq (.var 2) (.int 6)) .nil))) (.cons (.ret (.bl false)) .nil) .nil) (.cons (.ite (.cmp .mem (.var 2) (.tup (.cons (.int 4) (.cons (.int 5) .nil)))) (.cons (.ret (.bool .And (.cons (.cmp .eq (.bf .len (.cons (.var 0) .nil)) (.bf .len (.cons (.var 1) .nil))) (.cons (.cmp .eq (.lc (.tp (.cons (.nm 3) (.cons (.nm 4) .nil))) (.zip (.var 0) (.var 1)) (.not (.call kL (.cons (.var 3) (.cons (.var 4) .nil)))) (.int 1)) (.lst .nil)) .nil)))) .nil) .nil) (.cons (.ret (.cmp .eq (.var 0) (.var 1))) .nil))))
def srt : D → Option Int
  | .non => some 0
  | .bl _ => some 1
  | .int _ => some 2
  | .str _ => some 3
  | .tup _ => some 4
  | .lst _ => some 5
  | _ => none
structure LikeAt (t : Tx) (kS kL : Nat) : Prop where
  s : ∃ d, t.ds[kS]? = some d ∧ d.ps.length = 1 ∧ d.N.length = 1 ∧ d.body = sortB
  l : ∃ d, t.ds[kL]? = some d ∧ d.ps.length = 2 ∧ d.N.length = 5 ∧ d.body = likeB kS kL
  ps : t.prim kS = none
  pl : t.prim kL = none
section
variable {Kc : Nat → D} {t : Tx} {kS kL : Nat} (A : LikeAt t kS kL)
include A
theorem sort_at (n : Nat) {v : D} {i : Int} (h : srt v = some i) : tabF Kc t (n + 1) kS [v] = M.pure (.int i) := by
  obtain ⟨d, h1, h2, h3, h4⟩ := A.s
  rw [call_at h1 A.ps _ (by rw [h2]; rfl), run_eq, h3, h4]
  have b1 : tyOk "bool" = true := by decide
  have b2 : tyOk "int" = true := by decide
  have b3 : tyOk "str" = true := by decide
  have b4 : tyOk "tuple" = true := by decide
  have b5 : tyOk "list" = true := by decide
  cases v <;> cases h <;> simp -implicitDefEqProofs [sortB, evS, DL.get, D.isNon, isinE, tyName, b1, b2, b3, b4, b5, isTy]
/-- plain data of depth at most k -/
def PL : Nat → D → Prop
  | 0, _ => False
  | k + 1, d => match d with
    | .non => True
    | .bl _ => True
    | .int _ => True
    | .str x => cmpop .eq (.str x) (.str x) = M.pure (.bl true)
    | .tup xs => xs.length ≤ 8000 ∧ ∀ x ∈ xs, PL k x
    | .lst xs => xs.length ≤ 8000 ∧ ∀ x ∈ xs, PL k x
    | _ => False
omit A in
theorem zipD_self {xs : List D} {d : D} (h : d ∈ zipD xs xs) : ∃ x ∈ xs, d = .tup [x, x] := by
  unfold zipD at h
  obtain ⟨p, hp, rfl⟩ := List.mem_map.mp h
  have : ∀ {l : List D} {p : D × D}, p ∈ l.zip l → p.1 ∈ l ∧ p.2 = p.1 := fun {l} => by
    induction l with
    | nil => intro p h; cases h
    | cons a l ih =>
      intro p h
      rw [List.zip_cons_cons] at h
      rcases List.mem_cons.mp h with rfl | h
      · exact ⟨List.mem_cons_self .., rfl⟩
      · exact ⟨List.mem_cons_of_mem _ (ih h).1, (ih h).2⟩
  obtain ⟨q1, q2⟩ := this hp
  exact ⟨p.1, q1, by rw [q2]⟩
omit A in
theorem eq_nil : cmpop .eq (.lst []) (.lst []) = M.pure (.bl true) := rfl
theorem like_at : ∀ (k n : Nat) {x : D}, PL k x → tabF Kc t (n + k + 1) kL [x, x] = M.pure (.bl true)
  | 0, n, x, h => h.elim
  | k + 1, n, x, h => by
    obtain ⟨d, h1, h2, h3, h4⟩ := A.l
    rw [call_at h1 A.pl _ (by rw [h2]; rfl), run_eq, h3, h4]
    have seq : ∀ xs : List D, xs.length ≤ 8000 → (∀ x ∈ xs, PL k x) → ∀ ρ : Env, ρ.length = 5 → lcGo (zipD xs xs) (lcTurn (.tp (.cons (.nm 3) (.cons (.nm 4) .nil))) (ev (tabF Kc t (n + (k + 1))) Kc (.not (.call kL (.cons (.var 3) (.cons (.var 4) .nil))))).t (ev (tabF Kc t (n + (k + 1))) Kc (.int 1)).e ρ) = M.pure [] := fun xs hl hx ρ hρ => by
      obtain ⟨a, b, c', d', e, rfl⟩ : ∃ a b c d e, ρ = [a, b, c, d, e] := by
        match ρ, hρ with
        | [a, b, c, d, e], _ => exact ⟨a, b, c, d, e, rfl⟩
      rw [lcGo_map (g := fun _ => none)]
      · rw [show (zipD xs xs).filterMap (fun _ => (none : Option D)) = [] from by simp]
      · intro dd hd
        obtain ⟨x, hx', rfl⟩ := zipD_self hd
        have ih := like_at k n (hx x hx')
        have rs : res x = M.pure x := by
          have := hx x hx'
          match k, x, this with
          | k + 1, .non, _ => rfl
          | k + 1, .bl _, _ => rfl
          | k + 1, .int _, _ => rfl
          | k + 1, .str _, _ => rfl
          | k + 1, .tup _, _ => rfl
          | k + 1, .lst _, _ => rfl
        have ih' : tabF Kc t (n + (k + 1)) kL [x, x] = M.pure (.bl true) := ih
        simp -implicitDefEqProofs [lcTurn, wipeE, Tz.slots, bindT, bindTs, DL.get, rs, ih']
    have so := fun {v i} (hv : srt v = some i) => sort_at (Kc := Kc) A (n + k) hv
    have so' : ∀ {v : D} {i : Int}, srt v = some i → tabF Kc t (n + (k + 1)) kS [v] = M.pure (.int i) := so
    have zl : ∀ xs : List D, xs.length ≤ 8000 → lenOk (zipD xs xs) = M.pure (zipD xs xs) := fun xs hl => lenOk_le (by unfold zipD; simpa using hl)
    match x, h with
    | .non, _ => simp -implicitDefEqProofs [likeB, evS, DL.get, setE, so' (v := .non) rfl, mem2, show cmpop .eq (.non) (.non) = M.pure (.bl true) from rfl]
    | .bl b, _ => simp -implicitDefEqProofs [likeB, evS, DL.get, setE, so' (v := .bl b) rfl, mem2, show cmpop .eq (.bl b) (.bl b) = M.pure (.bl true) from by cases b <;> rfl]
    | .int i, _ => simp -implicitDefEqProofs [likeB, evS, DL.get, setE, so' (v := .int i) rfl, mem2]
    | .str s, h =>
      have h : cmpop .eq (.str s) (.str s) = M.pure (.bl true) := h
      simp -implicitDefEqProofs [likeB, evS, DL.get, setE, so' (v := .str s) rfl, mem2, h]
    | .tup xs, h =>
      have hz : zipop (.tup xs) (.tup xs) = M.pure (zipD xs xs) := rfl
      simp -implicitDefEqProofs [likeB, evS, DL.get, setE, so' (v := .tup xs) rfl, mem2, hz, zl xs h.1, seq xs h.1 h.2 [some (.tup xs), some (.tup xs), some (.int 4), none, none] rfl, eq_nil]
    | .lst xs, h =>
      have hz : zipop (.lst xs) (.lst xs) = M.pure (zipD xs xs) := rfl
      simp -implicitDefEqProofs [likeB, evS, DL.get, setE, so' (v := .lst xs) rfl, mem2, hz, zl xs h.1, seq xs h.1 h.2 [some (.lst xs), some (.lst xs), some (.int 5), none, none] rfl, eq_nil]
end
end DL
/-! DL17: runs with draws and memory: weakest preconditions -/
namespace DL
open PySem
theorem T.good_bind' {α β : Type} {f : α → T β} {Q : β → Prop} : ∀ {t : T α}, t.good (fun a => (f a).good Q) → (t.bind f).good Q
  | .ret a, h => h
  | .roll n k, h => fun r hr => T.good_bind' (h r hr)
/-- from μ, whatever is drawn, m ends well -/
structure wp {α : Type} (m : M α) (μ : Mem) (Q : α → Mem → Prop) : Prop where
  g : (m μ).good fun r => ∃ a μ', r = .ok a μ' ∧ Q a μ'
section
variable {α β : Type} {μ : Mem}
theorem wp_pure {a : α} {Q : α → Mem → Prop} (h : Q a μ) : wp (M.pure a) μ Q := ⟨a, μ, rfl, h⟩
theorem wp_bind {m : M α} {f : α → M β} {Q : β → Mem → Prop} (h : wp m μ fun a μ' => wp (f a) μ' Q) : wp (M.bind m f) μ Q := by
  refine ⟨T.good_bind' (T.good_mono (fun r hr => ?_) h.g)⟩
  obtain ⟨a, μ', rfl, h⟩ := hr
  exact h.g
theorem wp_mono {m : M α} {Q Q' : α → Mem → Prop} (h : wp m μ Q) (hq : ∀ a μ', Q a μ' → Q' a μ') : wp m μ Q' := ⟨T.good_mono (fun r ⟨a, μ', e, h⟩ => ⟨a, μ', e, hq a μ' h⟩) h.g⟩
theorem wp_of {m : M α} {Q : α → Mem → Prop} {a : α} {μ' : Mem} (e : m μ = .ret (.ok a μ')) (h : Q a μ') : wp m μ Q := by
  refine ⟨?_⟩
  rw [e]
  exact ⟨a, μ', rfl, h⟩
/-- no ref leads out of the memory -/
def clo (μ : Mem) : Prop := μ.all (Ob.noRef μ.length) = true
theorem wp_pop {m : M D} {Q : D → Mem → Prop} (h : wp m μ fun a μ' => (a.noRef μ.length && (μ'.take μ.length).all (Ob.noRef μ.length)) = true ∧ Q a (μ'.take μ.length)) : wp (popM m) μ Q := by
  refine ⟨T.good_bind' (T.good_mono (fun r hr => ?_) h.g)⟩
  obtain ⟨a, μ', rfl, h1, h2⟩ := hr
  dsimp only
  rw [if_pos h1]
  exact ⟨a, _, rfl, h2⟩
/-- the memory is as it was, up to what was made -/
theorem wp_pop' {m : M D} {Q : D → Mem → Prop} (hc : clo μ) (h : wp m μ fun a μ' => a.noRef μ.length = true ∧ (∃ more, μ' = μ ++ more) ∧ Q a μ) : wp (popM m) μ Q := by
  refine wp_pop (wp_mono h fun a μ' ⟨h1, ⟨more, h2⟩, h3⟩ => ?_)
  have e : μ'.take μ.length = μ := by rw [h2, List.take_left']; rfl
  rw [e]
  exact ⟨by rw [h1]; exact hc, h3⟩
/-- what is made is kept, or nothing was made -/
theorem wp_popK {m : M D} {Q : D → Mem → Prop} (h : wp m μ fun a μ' => Q a μ' ∧ ((a.noRef μ.length && (μ'.take μ.length).all (Ob.noRef μ.length)) = false ∨ μ'.length ≤ μ.length)) : wp (popM m) μ Q := by
  refine ⟨T.good_bind' (T.good_mono (fun r hr => ?_) h.g)⟩
  obtain ⟨a, μ', rfl, h1, h2⟩ := hr
  dsimp only
  rcases h2 with h2 | h2
  · rw [h2]
    exact ⟨a, _, rfl, h1⟩
  · by_cases c : (a.noRef μ.length && (μ'.take μ.length).all (Ob.noRef μ.length)) = true
    · rw [if_pos c, List.take_of_length_le h2]
      exact ⟨a, _, rfl, h1⟩
    · rw [if_neg c]
      exact ⟨a, _, rfl, h1⟩
theorem wp_cup {ns : List Int} {Q : D → Mem → Prop} (hn : ns.length ≤ 63) (h : Q (.ref μ.length) (μ ++ [.cup])) : wp (primCup [.scr ns]) μ Q := by
  show wp (if ns.length ≤ 63 then alloc .cup else M.bad) μ Q
  rw [if_pos hn]
  exact ⟨_, _, rfl, h⟩
theorem wp_roll {n : Nat} {many : Int} {Q : D → Mem → Prop} (hc : μ[n]? = some .cup) (hm : 0 < many ∧ many < 2 ^ 62) (h : ∀ r : Nat, (r : Int) < many → Q (.int (r : Int)) μ) : wp (primRoll [.ref n, .int many]) μ Q := by
  have hm2 : 0 < many ∧ many.natAbs.log2 < 9000 := ⟨hm.1, by
    have : many.natAbs.log2 < 62 := (Nat.log2_lt (by omega)).mpr (by omega)
    omega⟩
  refine ⟨?_⟩
  unfold primRoll
  dsimp only
  rw [hc]
  dsimp only
  rw [if_pos hm2]
  intro r hr
  exact ⟨_, _, rfl, h r (by omega)⟩
theorem wp_res {n : Nat} {o : Ob} {Q : D → Mem → Prop} (hc : μ[n]? = some o) (ho : ∀ d, o ≠ .fro d) (h : Q (.ref n) μ) : wp (res (.ref n)) μ Q := by
  refine wp_of ?_ h
  unfold res
  dsimp only
  rw [hc]
  cases o with
  | fro d => exact absurd rfl (ho d)
  | _ => rfl
theorem wp_alloc {o : Ob} {Q : D → Mem → Prop} (h : Q (.ref μ.length) (μ ++ [o])) : wp (alloc o) μ Q := ⟨_, _, rfl, h⟩
theorem wp_dget {n : Nat} {kvs : List (D × D)} {ds : List D} {v : D} {Q : D → Mem → Prop} (hc : μ[n]? = some (.dT kvs)) (hv : getTo kvs ds = some v) (h : Q v μ) : wp (dgetop (.ref n) (.tup ds)) μ Q := by
  refine wp_of ?_ h
  unfold dgetop
  dsimp only
  rw [hc]
  dsimp only
  rw [hv]
  rfl
theorem wp_dput {n : Nat} {kvs : List (D × D)} {ds : List D} {x : D} {ks : List L2.Key} {Q : Unit → Mem → Prop} (hc : μ[n]? = some (.dT kvs)) (hk : keysOf ds = some ks) (hl : kvs.length < sizeLine) (h : Q () (μ.set n (.dT (putD (hasT ks) kvs (.tup ds) x)))) : wp (storeD (.ref n) (.tup ds) x) μ Q := by
  refine wp_of ?_ h
  unfold storeD putTo
  dsimp only
  rw [hc]
  dsimp only
  rw [hk]
  show setOb n (if _ then _ else _) μ = _
  rw [if_pos hl]
  rfl
@[simp] theorem throw_bind {α β : Type} {c : Nat} (f : α → M β) : M.bind (throwM c) f = throwM c := rfl
@[simp] theorem popM_throw {c : Nat} : popM (throwM c) = throwM c := rfl
/-- x(lambda: ..) where an exception is raised -/
theorem wp_err {f : List D → M D} {c : Nat} {x : Str} {Q : D → Mem → Prop} (hc : clo μ) (hf : f [.int c] = M.pure (.str x)) (h : Q (.str x) μ) : wp (errM (throwM c) f) μ Q := by
  refine wp_of ?_ h
  show (f [.int c] μ).bind (errEnd μ.length) = _
  rw [hf]
  show (if (μ.take μ.length).all (Ob.noRef μ.length) = true then T.ret (R.ok (D.str x) (μ.take μ.length)) else T.ret R.bad) = _
  rw [List.take_length]
  exact if_pos hc
theorem wp_errP {f : List D → M D} {d : D} {x : Str} {Q : D → Mem → Prop} (hc : clo μ) (hf : f [] = M.pure (.str x)) (h : Q (.str x) μ) : wp (errM (M.pure d) f) μ Q := by
  refine wp_of ?_ h
  show (f [] μ).bind (errEnd μ.length) = _
  rw [hf]
  show (if (μ.take μ.length).all (Ob.noRef μ.length) = true then T.ret (R.ok (D.str x) (μ.take μ.length)) else T.ret R.bad) = _
  rw [List.take_length]
  exact if_pos hc
/-- a loop, by what holds ahead of each turn -/
theorem wp_forI {tg : Tz} {b : Env → M Out} {ds : List D} {Q : Out → Mem → Prop} (I : Nat → Env → Mem → Prop)
    (step : ∀ i d ρ μ, ds[i]? = some d → I i ρ μ → wp (M.bind (M.opt (bindT tg d ρ)) b) μ fun o μ' => match o with
      | .nx ρ' => I (i + 1) ρ' μ'
      | .ct ρ' => I (i + 1) ρ' μ'
      | .bk ρ' => Q (.nx ρ') μ'
      | .rt d => Q (.rt d) μ') (hend : ∀ ρ μ, I ds.length ρ μ → Q (.nx ρ) μ) {ρ : Env} (h0 : I 0 ρ μ) : wp (forGo tg b ds ρ) μ Q := by
  have key : ∀ (es pre : List D) (ρ : Env) (μ : Mem), ds = pre ++ es → I pre.length ρ μ → wp (forGo tg b es ρ) μ Q := by
    intro es
    induction es with
    | nil =>
      intro pre ρ μ he h
      refine wp_pure (hend ρ μ ?_)
      rw [he, List.append_nil]
      exact h
    | cons d es ih =>
      intro pre ρ μ he h
      have hd : ds[pre.length]? = some d := by
        rw [he, List.getElem?_append_right (Nat.le_refl _), Nat.sub_self]
        rfl
      have st := step pre.length d ρ μ hd h
      show wp (M.bind (M.opt (bindT tg d ρ)) fun ρ' => M.bind (b ρ') _) μ Q
      rw [← bb]
      refine wp_bind (wp_mono st fun o μ' ho => ?_)
      have he2 : ds = (pre ++ [d]) ++ es := by rw [he, List.append_assoc]; rfl
      have hl2 : (pre ++ [d]).length = pre.length + 1 := by simp
      cases o with
      | nx ρ' => exact ih (pre ++ [d]) ρ' μ' he2 (by rw [hl2]; exact ho)
      | ct ρ' => exact ih (pre ++ [d]) ρ' μ' he2 (by rw [hl2]; exact ho)
      | bk ρ' => exact wp_pure ho
      | rt d => exact wp_pure ho
  exact key ds [] ρ μ rfl h0
/-- a comprehension, by what holds ahead of each turn -/
theorem wp_lcI {f : D → M (Option D)} {ds : List D} {Q : List D → Mem → Prop} (I : Nat → List D → Mem → Prop)
    (step : ∀ i d xs μ, ds[i]? = some d → I i xs μ → wp (f d) μ fun o μ' => I (i + 1) (xs ++ o.toList) μ') (hend : ∀ xs μ, I ds.length xs μ → Q xs μ) (h0 : I 0 [] μ) : wp (lcGo ds f) μ Q := by
  have key : ∀ (es pre xs : List D) (μ : Mem), ds = pre ++ es → I pre.length xs μ → wp (lcGo es f) μ fun ys μ' => Q (xs ++ ys) μ' := by
    intro es
    induction es with
    | nil =>
      intro pre xs μ he h
      refine wp_pure ?_
      rw [List.append_nil]
      refine hend xs μ ?_
      rw [he, List.append_nil]
      exact h
    | cons d es ih =>
      intro pre xs μ he h
      have hd : ds[pre.length]? = some d := by
        rw [he, List.getElem?_append_right (Nat.le_refl _), Nat.sub_self]
        rfl
      refine wp_bind (wp_mono (step pre.length d xs μ hd h) fun o μ' ho => ?_)
      have he2 : ds = (pre ++ [d]) ++ es := by rw [he, List.append_assoc]; rfl
      refine wp_bind (wp_mono (ih (pre ++ [d]) (xs ++ o.toList) μ' he2 (by rw [show (pre ++ [d]).length = pre.length + 1 from by simp]; exact ho)) fun ys μ2 hy => ?_)
      refine wp_pure ?_
      cases o with
      | none => simpa using hy
      | some e => simpa using hy
  exact wp_mono (key ds [] [] μ rfl h0) fun ys μ' h => by simpa using h
theorem call_cup {Kc : Nat → D} {t : Tx} {n k : Nat} (h : k = t.c) : tabF Kc t (n + 1) k = primCup := callF_prim (by unfold Tx.prim; rw [if_pos h])
theorem call_roll {Kc : Nat → D} {t : Tx} {n k : Nat} (h : k = t.r) (hc : k ≠ t.c) : tabF Kc t (n + 1) k = primRoll := callF_prim (by unfold Tx.prim; rw [if_neg hc, if_pos h])
theorem call_err {Kc : Nat → D} {t : Tx} {n k : Nat} {e : Er} (h : t.prim k = some (errC t.exs e)) : tabF Kc t (n + 1) k = errC t.exs e := callF_prim h
theorem good_of_wp {N L : Nat} {t : Tx} {ks : List (Str × Kon)} (h : ∀ ns : List Int, ns.length ≤ 63 → wp (α := D) (tabF (kcOf ks) t N L [.scr ns]) [] fun a _ => a = .bl true) : good N t ks L := fun ns hn => by
  refine DL.T.good_mono (fun q hq => ?_) (h ns hn).g
  obtain ⟨a, μ, e, rfl⟩ := hq
  exact ⟨μ, e⟩
end
/-! ### runs that leave the memory as it is -/
def At {α : Type} (μ : Mem) (m : M α) (a : α) : Prop := m μ = .ret (.ok a μ)
section
variable {α β : Type} {μ : Mem}
theorem At_pure {a : α} : At μ (M.pure a) a := rfl
theorem At_bind {m : M α} {f : α → M β} {a : α} {b : β} (h : At μ m a) (h2 : At μ (f a) b) : At μ (M.bind m f) b := by
  show (m μ).bind (M.andThen f) = _
  rw [show m μ = _ from h]
  exact h2
theorem At_pop {m : M D} {a : D} (h : At μ m a) : At μ (popM m) a := by
  show (m μ).bind _ = _
  rw [show m μ = _ from h]
  show (if _ then T.ret (R.ok a (μ.take μ.length)) else T.ret (R.ok a μ)) = _
  rw [List.take_length]
  exact ite_self _
theorem At_calm {m : M α} {a : α} (h : At μ m a) : At μ (calmM m) a := by
  show (m μ).bind _ = _
  rw [show m μ = _ from h]
  rfl
theorem At_lc {f : D → M (Option D)} {g : D → Option D} : ∀ (ds : List D), (∀ d ∈ ds, At μ (f d) (g d)) → At μ (lcGo ds f) (ds.filterMap g)
  | [], _ => rfl
  | d :: ds, h => by
    refine At_bind (h d (List.mem_cons_self ..)) (At_bind (At_lc ds fun e he => h e (List.mem_cons_of_mem _ he)) ?_)
    rw [List.filterMap_cons]
    cases g d <;> rfl
theorem At_res {n : Nat} {o : Ob} (hc : μ[n]? = some o) (ho : ∀ d, o ≠ .fro d) : At μ (res (.ref n)) (.ref n) := by
  unfold At res
  dsimp only
  rw [hc]
  cases o with
  | fro d => exact absurd rfl (ho d)
  | _ => rfl
theorem At_dget {n : Nat} {kvs : List (D × D)} {ds : List D} {v : D} (hc : μ[n]? = some (.dT kvs)) (hv : getTo kvs ds = some v) : At μ (dgetop (.ref n) (.tup ds)) v := by
  unfold At dgetop
  dsimp only
  rw [hc]
  dsimp only
  rw [hv]
  rfl
theorem wp_at {m : M α} {a : α} {Q : α → Mem → Prop} (h : At μ m a) (q : Q a μ) : wp m μ Q := wp_of h q
end
/-! ### dicts with pairs of ints as keys -/
def ent (L : Int × Int → D) (p : Int × Int) : D × D := (.tup [.int p.1, .int p.2], L p)
def kyI (p : Int × Int) : List L2.Key := [.inl p.1, .inl p.2]
theorem keys2 (p : Int × Int) : keysOf [.int p.1, .int p.2] = some (kyI p) := rfl
theorem hasT_ent (L : Int × Int → D) (p q : Int × Int) : hasT (kyI p) (ent L q) = decide (q = p) := by
  show decide (some (kyI q) = some (kyI p)) = _
  by_cases h : q = p
  · subst h; simp
  · rw [decide_eq_false h]
    refine decide_eq_false fun e => h ?_
    have e2 := Option.some.inj e
    unfold kyI at e2
    injection e2 with e3 e4
    injection e4 with e5 e6
    injection e3 with e7
    injection e5 with e8
    exact Prod.ext e7 e8
theorem get_ent {L : Int × Int → D} {p : Int × Int} : ∀ {l : List (Int × Int)}, p ∈ l → getTo (l.map (ent L)) [.int p.1, .int p.2] = some (L p)
  | [], h => nomatch h
  | q :: l, h => by
    have ih := fun h => get_ent (L := L) (p := p) (l := l) h
    unfold getTo at ih ⊢
    rw [keys2] at ih ⊢
    simp only [Option.bind_some] at ih ⊢
    unfold getD at ih ⊢
    rw [List.map_cons, List.find?_cons, hasT_ent]
    by_cases e : q = p
    · subst e
      simp [ent]
    · rw [decide_eq_false e]
      exact ih ((List.mem_cons.mp h).resolve_left fun z => e z.symm)
theorem any_ent {L : Int × Int → D} {p : Int × Int} : ∀ {l : List (Int × Int)}, p ∉ l → (l.map (ent L)).any (hasT (kyI p)) = false
  | [], _ => rfl
  | q :: l, h => by
    rw [List.map_cons, List.any_cons, hasT_ent, any_ent fun z => h (List.mem_cons_of_mem _ z), decide_eq_false fun e => h (by rw [e]; exact List.mem_cons_self), Bool.or_false]
theorem put_ent {L : Int × Int → D} {p : Int × Int} {l : List (Int × Int)} (h : p ∉ l) : putD (hasT (kyI p)) (l.map (ent L)) (.tup [.int p.1, .int p.2]) (L p) = (l ++ [p]).map (ent L) := by
  unfold putD
  rw [any_ent h, if_neg Bool.false_ne_true, List.map_append]
  rfl
/-- all (a, b), b ≤ a < n -/
def prs (n : Nat) : List (Int × Int) := (List.range n).flatMap fun a => (List.range (a + 1)).map fun (b : Nat) => ((a : Int), (b : Int))
theorem prs_succ (n : Nat) : prs (n + 1) = prs n ++ (List.range (n + 1)).map fun (b : Nat) => ((n : Int), (b : Int)) := by
  unfold prs
  rw [List.range_succ, List.flatMap_append]
  simp [List.range_succ]
theorem mem_prs {n : Nat} {a b : Int} : (a, b) ∈ prs n ↔ 0 ≤ b ∧ b ≤ a ∧ a < n := by
  unfold prs
  simp only [List.mem_flatMap, List.mem_map, List.mem_range, Prod.mk.injEq]
  constructor
  · rintro ⟨x, hx, y, hy, rfl, rfl⟩
    omega
  · intro h
    exact ⟨a.toNat, by omega, b.toNat, by omega, by omega, by omega⟩
theorem prs_len : ∀ n : Nat, (prs n).length ≤ n * n
  | 0 => Nat.le_refl _
  | n + 1 => by
    rw [prs_succ, List.length_append, List.length_map, List.length_range]
    have := prs_len n
    rw [Nat.add_mul, Nat.mul_add]
    omega
end DL
/-! DL18: data compared, natively -/
namespace DL
open PySem
mutual
/-- plain data, at most k deep -/
def D.plain : Nat → D → Bool
  | _, .non => true
  | _, .bl _ => true
  | _, .int _ => true
  | _, .str x => PyData.strOk x
  | 0, .tup _ => false
  | 0, .lst _ => false
  | k + 1, .tup xs => D.plains k xs
  | k + 1, .lst xs => D.plains k xs
  | _, _ => false
def D.plains : Nat → List D → Bool
  | _, [] => true
  | k, x :: xs => D.plain k x && D.plains k xs
end
mutual
def D.eqP : D → D → Bool
  | .non, .non => true
  | .bl a, .bl b => a == b
  | .bl a, .int j => (if a then 1 else 0) == j
  | .int i, .bl b => i == (if b then 1 else 0)
  | .int i, .int j => i == j
  | .str x, .str y => x == y
  | .lst xs, .lst ys => D.eqPs xs ys
  | .tup xs, .tup ys => D.eqPs xs ys
  | _, _ => false
def D.eqPs : List D → List D → Bool
  | [], [] => true
  | x :: xs, y :: ys => D.eqP x y && D.eqPs xs ys
  | _, _ => false
end
mutual
theorem plain_py : ∀ (k : Nat) (d : D), D.plain k d = true → ∃ y, d.py = some y ∧ PyData.canLay0 y = true ∧ PyData.depth y ≤ k
  | k, .non, _ => ⟨.none, rfl, by simp [PyData.canLay0], by simp [PyData.depth]⟩
  | k, .bl b, _ => ⟨.bool b, rfl, by simp [PyData.canLay0], by simp [PyData.depth]⟩
  | k, .int i, _ => ⟨.int i, rfl, by simp [PyData.canLay0], by simp [PyData.depth]⟩
  | k, .str x, h => ⟨.str x, rfl, by
    unfold D.plain at h
    simpa [PyData.canLay0] using h, by simp [PyData.depth]⟩
  | 0, .tup xs, h => by simp [D.plain] at h
  | 0, .lst xs, h => by simp [D.plain] at h
  | k + 1, .tup xs, h => by
    obtain ⟨ys, e, h1, h2⟩ := plains_py k xs (by simpa [D.plain] using h)
    exact ⟨.tuple ys, by simp [D.py, e], by simpa [PyData.canLay0] using h1, by simpa [PyData.depth] using h2⟩
  | k + 1, .lst xs, h => by
    obtain ⟨ys, e, h1, h2⟩ := plains_py k xs (by simpa [D.plain] using h)
    exact ⟨.list ys, by simp [D.py, e], by simpa [PyData.canLay0] using h1, by simpa [PyData.depth] using h2⟩
  | k, .ref _, h => by cases k <;> simp [D.plain] at h
  | k, .fn _, h => by cases k <;> simp [D.plain] at h
  | k, .cls _, h => by cases k <;> simp [D.plain] at h
  | k, .ty _, h => by cases k <;> simp [D.plain] at h
  | k, .scr _, h => by cases k <;> simp [D.plain] at h
  | k, .exn, h => by cases k <;> simp [D.plain] at h
theorem plains_py : ∀ (k : Nat) (ds : List D), D.plains k ds = true → ∃ ys, D.pys ds = some ys ∧ PyData.canLayAll0 ys = true ∧ PyData.depthAll ys ≤ k
  | k, [], _ => ⟨[], rfl, by simp [PyData.canLayAll0], by simp [PyData.depthAll]⟩
  | k, d :: ds, h => by
    unfold D.plains at h
    simp only [Bool.and_eq_true] at h
    obtain ⟨y, e1, h1, h2⟩ := plain_py k d h.1
    obtain ⟨ys, e2, h3, h4⟩ := plains_py k ds h.2
    exact ⟨y :: ys, by simp [D.pys, e1, e2], by simp [PyData.canLayAll0, h1, h3], by simp [PyData.depthAll]; omega⟩
end
mutual
theorem eqP_py : ∀ (a b : D) {x y : PyData}, a.py = some x → b.py = some y → PyData.eqv x y = D.eqP a b
  | .tup xs, b, x, y, h1, h2 => by
    simp only [D.py] at h1
    cases e1 : D.pys xs with
    | none => rw [e1] at h1; cases h1
    | some us =>
      rw [e1] at h1
      cases h1
      cases b with
      | tup ys =>
        simp only [D.py] at h2
        cases e2 : D.pys ys with
        | none => rw [e2] at h2; cases h2
        | some vs =>
          rw [e2] at h2
          cases h2
          simp only [PyData.eqv, D.eqP]
          exact eqPs_py xs ys e1 e2
      | _ =>
        simp only [D.py] at h2
        first
          | (cases h2; simp [PyData.eqv, D.eqP]; done)
          | (cases h2; done)
          | (split at h2 <;> first | (cases h2; done) | (cases h2; simp [PyData.eqv, D.eqP]; done))
  | .lst xs, b, x, y, h1, h2 => by
    simp only [D.py] at h1
    cases e1 : D.pys xs with
    | none => rw [e1] at h1; cases h1
    | some us =>
      rw [e1] at h1
      cases h1
      cases b with
      | lst ys =>
        simp only [D.py] at h2
        cases e2 : D.pys ys with
        | none => rw [e2] at h2; cases h2
        | some vs =>
          rw [e2] at h2
          cases h2
          simp only [PyData.eqv, D.eqP]
          exact eqPs_py xs ys e1 e2
      | _ =>
        simp only [D.py] at h2
        first
          | (cases h2; simp [PyData.eqv, D.eqP]; done)
          | (cases h2; done)
          | (split at h2 <;> first | (cases h2; done) | (cases h2; simp [PyData.eqv, D.eqP]; done))
  | .non, b, x, y, h1, h2 => by
    cases h1
    cases b <;> simp only [D.py] at h2 <;> first
      | (cases h2; simp [PyData.eqv, D.eqP]; done)
      | (cases h2; done)
      | (split at h2 <;> first | (cases h2; done) | (cases h2; simp [PyData.eqv, D.eqP]; done))
  | .bl _, b, x, y, h1, h2 => by
    cases h1
    cases b <;> simp only [D.py] at h2 <;> first
      | (cases h2; simp [PyData.eqv, D.eqP]; done)
      | (cases h2; done)
      | (split at h2 <;> first | (cases h2; done) | (cases h2; simp [PyData.eqv, D.eqP]; done))
  | .int _, b, x, y, h1, h2 => by
    cases h1
    cases b <;> simp only [D.py] at h2 <;> first
      | (cases h2; simp [PyData.eqv, D.eqP]; done)
      | (cases h2; done)
      | (split at h2 <;> first | (cases h2; done) | (cases h2; simp [PyData.eqv, D.eqP]; done))
  | .str _, b, x, y, h1, h2 => by
    cases h1
    cases b <;> simp only [D.py] at h2 <;> first
      | (cases h2; simp [PyData.eqv, D.eqP]; done)
      | (cases h2; done)
      | (split at h2 <;> first | (cases h2; done) | (cases h2; simp [PyData.eqv, D.eqP]; done))
  | .ref _, b, x, y, h1, h2 => by cases h1
  | .fn _, b, x, y, h1, h2 => by cases h1
  | .cls _, b, x, y, h1, h2 => by cases h1
  | .ty _, b, x, y, h1, h2 => by cases h1
  | .scr _, b, x, y, h1, h2 => by cases h1
  | .exn, b, x, y, h1, h2 => by cases h1
theorem eqPs_py : ∀ (a b : List D) {x y : List PyData}, D.pys a = some x → D.pys b = some y → PyData.eqvAll x y = D.eqPs a b
  | [], [], x, y, h1, h2 => by
    cases h1
    cases h2
    simp [PyData.eqvAll, D.eqPs]
  | a :: as, [], x, y, h1, h2 => by
    cases h2
    simp only [D.pys] at h1
    split at h1
    · cases h1
      simp [PyData.eqvAll, D.eqPs]
    · cases h1
  | [], b :: bs, x, y, h1, h2 => by
    cases h1
    simp only [D.pys] at h2
    split at h2
    · cases h2
      simp [PyData.eqvAll, D.eqPs]
    · cases h2
  | a :: as, b :: bs, x, y, h1, h2 => by
    simp only [D.pys] at h1 h2
    split at h1
    · rename_i u us e1 e2
      split at h2
      · rename_i v vs e3 e4
        cases h1
        cases h2
        simp only [PyData.eqvAll, D.eqPs]
        rw [eqP_py a b e1 e3, eqPs_py as bs e2 e4]
      · cases h2
    · cases h1
end
theorem eqv_plain {a b : D} (ha : D.plain 60 a = true) (hb : D.plain 60 b = true) : D.eqv a b = some (D.eqP a b) := by
  obtain ⟨x, e1, h1, h2⟩ := plain_py 60 a ha
  obtain ⟨y, e3, h3, h4⟩ := plain_py 60 b hb
  unfold D.eqv
  rw [e1, e3]
  have s1 : SeqAt.shaped x = true := by
    unfold SeqAt.shaped
    rw [h1, decide_eq_true (by omega)]
    rfl
  have s2 : SeqAt.shaped y = true := by
    unfold SeqAt.shaped
    rw [h3, decide_eq_true (by omega)]
    rfl
  dsimp only
  rw [s1, s2, eqP_py a b e1 e3]
  rfl
theorem peek_plain {k : Nat} {a : D} (ha : D.plain k a = true) : peek a = M.pure a := by
  cases a <;> first | rfl | (cases k <;> simp [D.plain] at ha)
theorem eq_plain {a b : D} (ha : D.plain 60 a = true) (hb : D.plain 60 b = true) : cmpop .eq a b = M.pure (.bl (D.eqP a b)) := by
  show M.bind (peek a) (fun x => M.bind (peek b) fun y => eqvM x y false) = _
  rw [peek_plain ha, peek_plain hb, pb, pb, eqvM, eqv_plain ha hb]
  rfl
theorem ne_plain {a b : D} (ha : D.plain 60 a = true) (hb : D.plain 60 b = true) : cmpop .ne a b = M.pure (.bl (!D.eqP a b)) := by
  show M.bind (peek a) (fun x => M.bind (peek b) fun y => eqvM x y true) = _
  rw [peek_plain ha, peek_plain hb, pb, pb, eqvM, eqv_plain ha hb]
  rfl
theorem plains_all {k : Nat} : ∀ {ds : List D}, (∀ d ∈ ds, D.plain k d = true) → D.plains k ds = true
  | [], _ => by simp [D.plains]
  | d :: ds, h => by
    unfold D.plains
    rw [h d (List.mem_cons_self ..), plains_all fun e he => h e (List.mem_cons_of_mem _ he)]
    rfl
theorem plains_ints {k : Nat} {is : List Int} : D.plains k (is.map D.int) = true := plains_all fun d hd => by
  obtain ⟨i, _, rfl⟩ := List.mem_map.mp hd
  cases k <;> simp [D.plain]
theorem eqPs_nil {xs : List D} : D.eqPs xs [] = xs.isEmpty := by
  cases xs <;> simp [D.eqPs]
theorem At_err {μ : Mem} {f : List D → M D} {c : Nat} {x : Str} (hc : clo μ) (hf : f [.int c] = M.pure (.str x)) : At μ (errM (throwM c) f) (.str x) := by
  show (f [.int c] μ).bind (errEnd μ.length) = _
  rw [hf]
  show (if (μ.take μ.length).all (Ob.noRef μ.length) = true then T.ret (R.ok (D.str x) (μ.take μ.length)) else T.ret R.bad) = _
  rw [List.take_length]
  exact if_pos hc
theorem add_lst {xs ys : List D} (h : xs.length + ys.length ≤ 8000) : binop .add (.lst xs) (.lst ys) = M.pure (.lst (xs ++ ys)) := by
  show M.bind (if xs.length + ys.length ≤ sizeLine then M.pure (xs ++ ys) else M.bad) (fun xs => M.pure (D.lst xs)) = _
  rw [if_pos (by rw [sizeLine_eq]; omega)]
  rfl
theorem mul_lst {xs : List D} {k : Int} (h : 0 ≤ k ∧ k ≤ 1000 ∧ xs.length ≤ 8) : binop .mul (.lst xs) (.int k) = M.pure (.lst (List.replicate k.toNat xs).flatten) := by
  show M.bind (if (-(2 ^ 63) ≤ k ∧ k < 2 ^ 63) ∧ xs.length * k.toNat ≤ sizeLine then M.pure (List.replicate k.toNat xs).flatten else M.bad) (fun xs => M.pure (D.lst xs)) = _
  have : xs.length * k.toNat ≤ 8 * 1000 := Nat.mul_le_mul h.2.2 (by omega)
  rw [if_pos ⟨by omega, by rw [sizeLine_eq]; omega⟩]
  rfl
end DL
/-! DL19: runs that draw nothing, with their memory -/
namespace DL
open PySem
def Rn {α : Type} (μ : Mem) (m : M α) (a : α) (μ' : Mem) : Prop := m μ = .ret (.ok a μ')
section
variable {α β : Type} {μ μ' μ2 : Mem}
theorem Rn_pure {a : α} : Rn μ (M.pure a) a μ := rfl
theorem Rn_bind {m : M α} {f : α → M β} {a : α} {b : β} (h : Rn μ m a μ') (h2 : Rn μ' (f a) b μ2) : Rn μ (M.bind m f) b μ2 := by
  show (m μ).bind (M.andThen f) = _
  rw [show m μ = _ from h]
  exact h2
theorem Rn_at {m : M α} {a : α} (h : At μ m a) : Rn μ m a μ := h
theorem wp_rn {m : M α} {a : α} {Q : α → Mem → Prop} (h : Rn μ m a μ') (q : Q a μ') : wp m μ Q := wp_of h q
theorem At_popN {m : M D} {a : D} {more : Mem} (hc : clo μ) (ha : a.noRef μ.length = true) (h : Rn μ m a (μ ++ more)) : At μ (popM m) a := by
  show (m μ).bind _ = _
  rw [show m μ = _ from h]
  show (if (a.noRef μ.length && ((μ ++ more).take μ.length).all (Ob.noRef μ.length)) = true then T.ret (R.ok a ((μ ++ more).take μ.length)) else T.ret (R.ok a (μ ++ more))) = _
  have e : (μ ++ more).take μ.length = μ := List.take_left' rfl
  rw [e, ha, if_pos (show (true && _) = true from hc)]
theorem Rn_alloc {o : Ob} : Rn μ (alloc o) (.ref μ.length) (μ ++ [o]) := rfl
theorem Rn_res {n : Nat} {o : Ob} (hc : μ[n]? = some o) (ho : ∀ d, o ≠ .fro d) : Rn μ (res (.ref n)) (.ref n) μ := At_res hc ho
theorem Rn_resF {n : Nat} {x : D} (hc : μ[n]? = some (.fro x)) : Rn μ (res (.ref n)) x μ := by
  unfold Rn res
  dsimp only
  rw [hc]
theorem Rn_frz {n : Nat} {xs : List D} (hc : μ[n]? = some (.lst xs)) : Rn μ (frz (.ref n)) (.lst xs) (μ.set n (.fro (.lst xs))) := by
  unfold Rn frz
  dsimp only
  rw [hc]
theorem Rn_frzF {n : Nat} {x : D} (hc : μ[n]? = some (.fro x)) : Rn μ (frz (.ref n)) x μ := by
  unfold Rn frz
  dsimp only
  rw [hc]
theorem Rn_seqL {n : Nat} {xs : List D} (hc : μ[n]? = some (.lst xs)) : Rn μ (seqL (.ref n)) xs μ := by
  unfold Rn seqL
  dsimp only
  rw [hc]
theorem Rn_seqA {n : Nat} {xs : List D} (hc : μ[n]? = some (.lst xs)) : Rn μ (seqA (.ref n)) xs μ := Rn_seqL hc
theorem Rn_app {n : Nat} {xs : List D} {x : D} (hc : μ[n]? = some (.lst xs)) (hl : xs.length < 8000) : Rn μ (appL (.ref n) x) () (μ.set n (.lst (xs ++ [x]))) := by
  unfold Rn appL
  dsimp only
  rw [hc]
  dsimp only
  rw [if_pos (by rw [sizeLine_eq]; omega)]
theorem getM {l : Mem} (i : Nat) : (μ ++ l)[μ.length + i]? = l[i]? := by
  rw [List.getElem?_append_right (by omega), Nat.add_sub_cancel_left]
theorem setM {l : Mem} (i : Nat) (x : Ob) : (μ ++ l).set (μ.length + i) x = μ ++ l.set i x := by
  rw [List.set_append_right _ _ (by omega), Nat.add_sub_cancel_left]
theorem getM0 {l : Mem} : (μ ++ l)[μ.length]? = l[0]? := getM 0
theorem setM0 {l : Mem} (x : Ob) : (μ ++ l).set μ.length x = μ ++ l.set 0 x := setM 0 x
theorem At_calmR {m : M α} {a : α} (h : Rn μ m a μ') : Rn μ (calmM m) a μ' := by
  show (m μ).bind _ = _
  rw [show m μ = _ from h]
  rfl
/-- a loop, turn by turn: f tells the names and the memory ahead of the i-th turn -/
theorem Rn_for {tg : Tz} {b : Env → M Out} {ds : List D} (f : Nat → Env × Mem)
    (step : ∀ i d, ds[i]? = some d → Rn (f i).2 (M.bind (M.opt (bindT tg d (f i).1)) b) (.nx (f (i + 1)).1) (f (i + 1)).2) : Rn (f 0).2 (forGo tg b ds (f 0).1) (.nx (f ds.length).1) (f ds.length).2 := by
  have key : ∀ (es pre : List D), ds = pre ++ es → Rn (f pre.length).2 (forGo tg b es (f pre.length).1) (.nx (f ds.length).1) (f ds.length).2 := by
    intro es
    induction es with
    | nil =>
      intro pre he
      rw [he, List.append_nil]
      exact Rn_pure
    | cons d es ih =>
      intro pre he
      have hd : ds[pre.length]? = some d := by
        rw [he, List.getElem?_append_right (Nat.le_refl _), Nat.sub_self]
        rfl
      have st := step pre.length d hd
      show Rn _ (M.bind (M.opt (bindT tg d (f pre.length).1)) fun ρ' => M.bind (b ρ') _) _ _
      rw [← bb]
      refine Rn_bind st ?_
      have he2 : ds = (pre ++ [d]) ++ es := by rw [he, List.append_assoc]; rfl
      have := ih (pre ++ [d]) he2
      rw [show (pre ++ [d]).length = pre.length + 1 from by simp] at this
      exact this
  exact key ds [] rfl
theorem Rn_forCons {tg : Tz} {b : Env → M Out} {d : D} {ds : List D} {ρ ρ1 : Env} {μ1 : Mem} {o : Out} (h : Rn μ (M.bind (M.opt (bindT tg d ρ)) b) (.nx ρ1) μ1) (h2 : Rn μ1 (forGo tg b ds ρ1) o μ2) : Rn μ (forGo tg b (d :: ds) ρ) o μ2 := by
  show Rn _ (M.bind (M.opt (bindT tg d ρ)) fun ρ' => M.bind (b ρ') _) _ _
  rw [← bb]
  exact Rn_bind h h2
theorem atI_last {α : Type} (xs : List α) (x : α) : L2.atI (xs ++ [x]) (-1) = some x := by
  unfold L2.atI L2.ixN
  have e : (-1 + ((xs.length : Int) + 1)).toNat = xs.length := by omega
  simp
  rw [if_pos (by omega), e]
  simp
theorem atI_last2 {α : Type} (xs : List α) (y x : α) : L2.atI (xs ++ [y] ++ [x]) (-2) = some y := by
  unfold L2.atI L2.ixN
  have e : (-2 + ((xs.length : Int) + 2)).toNat = xs.length := by omega
  simp
  rw [if_pos (by omega), e]
  simp
/-- a comprehension, whose turns leave the memory as it is, ints in -/
theorem At_lcI {f : D → M (Option D)} {is : List Int} {g : Int → Option D} (h : ∀ i ∈ is, At μ (f (.int i)) (g i)) : At μ (lcGo (is.map D.int) f) (is.filterMap g) := by
  have := At_lc (μ := μ) (f := f) (g := fun d => match d with
    | .int i => g i
    | _ => none) (is.map D.int) (fun d hd => by
    obtain ⟨i, hi, rfl⟩ := List.mem_map.mp hd
    exact h i hi)
  rw [List.filterMap_map] at this
  exact this
end
end DL
/-! DL20: the least of some pairs of ints -/
namespace DL
open PySem
def pD (p : Int × Int) : D := .tup [.int p.1, .int p.2]
def pY (p : Int × Int) : PyData := .tuple [.int p.1, .int p.2]
def ltP (x y : Int × Int) : Bool := decide (x.1 < y.1) || (!decide (y.1 < x.1) && decide (x.2 < y.2))
theorem itemLt_inl (a b : Int) : PyProof.Rows.itemLt (.inl a) (.inl b) = decide (a < b) := rfl
theorem lt_pair (x y : Int × Int) : PySem.W.dataLt (pY x) (pY y) = ltP x y := by
  unfold pY
  rw [PySem.W.dataLt_tuple]
  simp only [PySem.W.keyToksAll, PySem.W.keyToks, List.cons_append, List.nil_append]
  rw [PyProof.Rows.lex_cons, PyProof.Rows.lex_cons, PyProof.Rows.lex_cons, PyProof.Rows.lex_cons, PyProof.Rows.lex_cons]
  simp [ltP, PyProof.Rows.lexLt, itemLt_inl]
theorem bestD_pairs : ∀ (ps : List (Int × Int)) (x : Int × Int), bestD (fun y a => PySem.W.dataLt y a) (pD x) (pY x) (ps.map pD) (ps.map pY) = pD (ps.foldl (fun a y => if ltP y a = true then y else a) x)
  | [], x => rfl
  | p :: ps, x => by
    rw [List.map_cons, List.map_cons, List.foldl_cons]
    show (if PySem.W.dataLt (pY p) (pY x) = true then _ else _) = _
    rw [lt_pair]
    cases ltP p x with
    | true => exact bestD_pairs ps p
    | false => exact bestD_pairs ps x
theorem ltP_iff {x y : Int × Int} : ltP x y = true ↔ x.1 < y.1 ∨ (x.1 = y.1 ∧ x.2 < y.2) := by
  unfold ltP
  simp only [Bool.or_eq_true, Bool.and_eq_true, decide_eq_true_eq, Bool.not_eq_true', decide_eq_false_iff_not]
  omega
theorem ltP_no {x y : Int × Int} : ltP x y = false ↔ ¬ (x.1 < y.1 ∨ (x.1 = y.1 ∧ x.2 < y.2)) := by
  rw [← ltP_iff]
  simp
theorem fold_least : ∀ (ps : List (Int × Int)) (x : Int × Int), ps.foldl (fun a y => if ltP y a = true then y else a) x ∈ x :: ps ∧ ∀ y ∈ x :: ps, ltP y (ps.foldl (fun a y => if ltP y a = true then y else a) x) = false
  | [], x => ⟨List.mem_cons_self, fun y hy => by
    rw [List.mem_singleton.mp hy]
    exact ltP_no.mpr (by show ¬ (x.1 < x.1 ∨ (x.1 = x.1 ∧ x.2 < x.2)); omega)⟩
  | p :: ps, x => by
    rw [List.foldl_cons]
    cases c : ltP p x with
    | true =>
      rw [if_pos rfl]
      obtain ⟨h1, h2⟩ := fold_least ps p
      refine ⟨List.mem_cons_of_mem _ h1, fun y hy => ?_⟩
      rcases List.mem_cons.mp hy with rfl | hy
      · have h3 := ltP_no.mp (h2 p List.mem_cons_self)
        have h4 := ltP_iff.mp c
        exact ltP_no.mpr (by omega)
      · exact h2 y hy
    | false =>
      rw [if_neg Bool.false_ne_true]
      obtain ⟨h1, h2⟩ := fold_least ps x
      refine ⟨?_, fun y hy => ?_⟩
      · rcases List.mem_cons.mp h1 with h | h
        · rw [h]; exact List.mem_cons_self
        · exact List.mem_cons_of_mem _ (List.mem_cons_of_mem _ h)
      · rcases List.mem_cons.mp hy with rfl | hy
        · exact h2 y List.mem_cons_self
        · rcases List.mem_cons.mp hy with rfl | hy
          · have h3 := ltP_no.mp (h2 x List.mem_cons_self)
            have h4 := ltP_no.mp c
            exact ltP_no.mpr (by omega)
          · exact h2 y (List.mem_cons_of_mem _ hy)
theorem pys_pairs : ∀ ps : List (Int × Int), D.pys (ps.map pD) = some (ps.map pY)
  | [] => rfl
  | p :: ps => by
    rw [List.map_cons, List.map_cons]
    simp [D.pys, D.py, pD, pY, pys_pairs ps]
theorem depth_pairs : ∀ ps : List (Int × Int), PyData.depthAll (ps.map pY) ≤ 1
  | [] => by simp [PyData.depthAll]
  | p :: ps => by
    have := depth_pairs ps
    simp [PyData.depthAll, PyData.depth, pY]
    omega
theorem alike_pairs (ps : List (Int × Int)) : alikeL (ps.map pY) = true := by
  unfold alikeL
  simp only [Bool.and_eq_true, List.all_eq_true]
  refine ⟨fun x hx y hy => ?_, fun x hx => ?_⟩
  · obtain ⟨p, _, rfl⟩ := List.mem_map.mp hx
    obtain ⟨q, _, rfl⟩ := List.mem_map.mp hy
    simp [pY, PySem.W.alike, PySem.W.alikeAll]
  · obtain ⟨p, _, rfl⟩ := List.mem_map.mp hx
    rfl
theorem best_pairs {ps : List (Int × Int)} {m : Int × Int} (hm : m ∈ ps) (hl : ∀ y ∈ ps, y = m ∨ ltP m y = true) : bestOf (fun y a => PySem.W.dataLt y a) (ps.map pD) = some (pD m) := by
  cases ps with
  | nil => cases hm
  | cons p ps =>
    have e1 := pys_pairs (p :: ps)
    have e2 := alike_pairs (p :: ps)
    have e3 := depth_pairs (p :: ps)
    have e4 := bestD_pairs ps p
    obtain ⟨h1, h2⟩ := fold_least ps p
    generalize ps.foldl (fun a y => if ltP y a = true then y else a) p = z at *
    have hz : z = m := by
      rcases hl z h1 with h | h
      · exact h
      · have := h2 m hm
        rw [h] at this
        cases this
    rw [List.map_cons] at e1 e2 e3 ⊢
    unfold bestOf
    rw [e1]
    show (if (alikeL (pY p :: List.map pY ps) && decide (PyData.depthAll (pY p :: List.map pY ps) ≤ 50)) = true then some (bestD (fun y a => PySem.W.dataLt y a) (pD p) (pY p) (ps.map pD) (ps.map pY)) else none) = _
    rw [e2, decide_eq_true (by omega), Bool.and_true, if_pos rfl, e4, hz]
end DL
namespace Row
open PySem PySem.Spec PyProof.Rows L2 DL
def top (i : Nat) : Stmt := PySem.Challenge.pw_gamesweighed_k00_whole_half_numbers.main.body.getD i (.Pass ⟨0, 0, 0, 0⟩)
def b0 : Sz := (.cons (.set 1 (.call 1 (.cons (.var 0) .nil))) (.cons (.set 2 (.call 2 (.cons (.var 1) (.cons (.int 60) .nil)))) (.cons (.for (.nm 3) (.range1 (.int 12)) (.cons (.set 4 (.call 2 (.cons (.var 1) (.cons (.call 5 (.cons (.var 1) (.cons (.lst (.cons (.int 2) (.cons (.int 20) (.cons (.int 60) .nil)))) .nil))) .nil)))) (.cons (.ite (.bool .Or (.cons (.not (.call 22 (.cons (.var 4) (.cons (.var 2) .nil)))) (.cons (.not (.call 22 (.cons (.var 2) (.cons (.var 4) .nil)))) (.cons (.not (.call 22 (.cons (.var 4) (.cons (.var 4) .nil)))) .nil)))) (.cons (.ret (.bl false)) .nil) .nil) (.cons (.set 2 (.var 4)) (.cons (.par [5, 6] (.tup (.cons (.call 2 (.cons (.var 1) (.cons (.int 6) .nil))) (.cons (.call 2 (.cons (.var 1) (.cons (.int 6) .nil))) .nil)))) (.cons (.ite (.bool .Or (.cons (.not (.call 24 (.cons (.var 5) (.cons (.var 6) .nil)))) (.cons (.not (.call 24 (.cons (.var 6) (.cons (.var 5) .nil)))) (.cons (.not (.call 24 (.cons (.var 5) (.cons (.var 5) .nil)))) .nil)))) (.cons (.ret (.bl false)) .nil) .nil) .nil)))))) (.cons (.par [7, 8, 9] (.tup (.cons (.bin .pow (.int 10) (.int 40)) (.cons (.call 4 (.cons (.var 1) (.cons (.int 120) .nil))) (.cons (.call 4 (.cons (.var 1) (.cons (.int 1000) .nil))) .nil))))) (.cons (.set 10 (.lst (.cons (.call 18 (.cons (.var 7) (.cons (.int 0) .nil))) (.cons (.call 18 (.cons (.int 6) (.cons (.int 2) .nil))) (.cons (.call 18 (.cons (.int 0) (.cons (.int 120) .nil))) (.cons (.call 18 (.cons (.neg (.int 1)) (.cons (.int 120) .nil))) (.cons (.call 18 (.cons (.bin .shl (.int 1) (.var 8)) (.cons (.var 8) .nil))) (.cons (.call 18 (.cons (.bin .shl (.int 3) (.var 8)) (.cons (.var 8) .nil))) .nil)))))))) (.cons (.set 11 (.lst (.cons (.tup (.cons (.var 7) (.cons (.int 1) .nil))) (.cons (.tup (.cons (.int 3) (.cons (.int 2) .nil))) (.cons (.tup (.cons (.int 0) (.cons (.int 1) .nil))) (.cons (.tup (.cons (.neg (.int 1)) (.cons (.bin .shl (.int 1) (.int 120)) .nil))) (.cons (.tup (.cons (.int 1) (.cons (.int 1) .nil))) (.cons (.tup (.cons (.int 3) (.cons (.int 1) .nil))) .nil)))))))) (.cons (.set 10 (.bin .add (.var 10) (.lst (.cons (.call 17 (.cons (.tup (.cons (.int 0) (.cons (.int 1) .nil))) (.cons (.tup (.cons (.int 1) (.cons (.bin .shl (.int 1) (.var 8)) .nil))) .nil))) (.cons (.call 17 (.cons (.tup (.cons (.var 9) (.cons (.int 1) .nil))) (.cons (.tup (.cons (.bin .add (.var 9) (.int 9)) (.cons (.int 1) .nil))) .nil))) (.cons (.call 17 (.cons (.tup (.cons (.bin .sub (.neg (.var 9)) (.int 9)) (.cons (.int 1) .nil))) (.cons (.tup (.cons (.neg (.var 9)) (.cons (.int 1) .nil))) .nil))) .nil)))))) (.cons (.set 11 (.bin .add (.var 11) (.lst (.cons (.tup (.cons (.int 1) (.cons (.bin .shl (.int 2) (.var 8)) .nil))) (.cons (.tup (.cons (.bin .add (.var 9) (.int 1)) (.cons (.int 1) .nil))) (.cons (.tup (.cons (.bin .sub (.neg (.var 9)) (.int 1)) (.cons (.int 1) .nil))) .nil)))))) (.cons (.set 10 (.bin .add (.var 10) (.lst (.cons (.call 17 (.cons (.tup (.cons (.int 1) (.cons (.int 4) .nil))) (.cons (.tup (.cons (.int 1) (.cons (.int 1) .nil))) .nil))) (.cons (.call 17 (.cons (.tup (.cons (.int 5) (.cons (.int 4) .nil))) (.cons (.tup (.cons (.int 7) (.cons (.int 4) .nil))) .nil))) (.cons (.call 17 (.cons (.tup (.cons (.neg (.int 3)) (.cons (.int 1) .nil))) (.cons (.tup (.cons (.int 2) (.cons (.int 1) .nil))) .nil))) (.cons (.call 16 (.cons (.tup (.cons (.int 1) (.cons (.int 2) .nil))) (.cons (.tup (.cons (.int 1) (.cons (.int 1) .nil))) .nil))) .nil))))))) (.cons (.ite (.not (.call 20 (.cons (.var 10) (.cons (.bin .add (.var 11) (.lst (.cons (.tup (.cons (.int 1) (.cons (.int 2) .nil))) (.cons (.tup (.cons (.int 3) (.cons (.int 2) .nil))) (.cons (.tup (.cons (.int 0) (.cons (.int 1) .nil))) (.cons (.tup (.cons (.int 3) (.cons (.int 4) .nil))) .nil)))))) .nil)))) (.cons (.ret (.bl false)) .nil) .nil) (.cons (.set 12 (.lst (.cons (.tup (.cons (.int 0) (.cons (.int 1) .nil))) (.cons (.tup (.cons (.int 1) (.cons (.int 2) .nil))) (.cons (.tup (.cons (.neg (.int 3)) (.cons (.int 4) .nil))) (.cons (.tup (.cons (.var 7) (.cons (.int 1) .nil))) (.cons (.tup (.cons (.int 1) (.cons (.bin .shl (.int 1) (.int 120)) .nil))) (.cons (.tup (.cons (.bin .add (.var 7) (.int 1)) (.cons (.int 1) .nil))) (.cons (.tup (.cons (.bin .sub (.neg (.var 7)) (.int 1)) (.cons (.int 1) .nil))) (.cons (.tup (.cons (.int 1) (.cons (.bin .shl (.int 1) (.int 121)) .nil))) (.cons (.tup (.cons (.int 2) (.cons (.int 4) .nil))) (.cons (.tup (.cons (.int 0) (.cons (.int 2) .nil))) (.cons (.tup (.cons (.int 1) (.cons (.int 3) .nil))) (.cons (.tup (.cons (.int 1) (.cons (.int 0) .nil))) .nil)))))))))))))) (.cons (.set 12 (.bin .add (.var 12) (.lst (.cons (.tup (.cons (.int 1) (.cons (.neg (.int 2)) .nil))) (.cons (.lst (.cons (.int 1) (.cons (.int 2) .nil))) (.cons (.tup (.cons (.int 1) .nil)) (.cons (.tup (.cons (.int 1) (.cons (.int 2) (.cons (.int 4) .nil)))) (.cons (.tup (.cons (.bl true) (.cons (.int 2) .nil))) (.cons (.tup (.cons (.int 1) (.cons (.bl true) .nil))) (.cons .non (.cons (.int 1) (.cons (.str "1/2") (.cons (.tup (.cons (.tup (.cons (.int 1) .nil)) (.cons (.int 2) .nil))) .nil))))))))))))) (.cons (.ite (.not (.call 20 (.cons (.lc (.nm 13) (.var 12) .nil (.call 8 (.cons (.var 13) .nil))) (.cons (.bin .add (.bin .mul (.lst (.cons (.bl true) .nil)) (.int 5)) (.bin .mul (.lst (.cons (.bl false) .nil)) (.int 17))) .nil)))) (.cons (.ret (.bl false)) .nil) .nil) (.cons (.tset (.cons (.nm 14) (.cons (.nm 15) .nil)) (.tup (.cons (.call 5 (.cons (.var 1) (.cons (.slc (.var 12) (.int 5) .nil) .nil))) (.cons (.lst .nil) .nil)))) (.cons (.for (.nm 16) (.tup (.cons (.gfn 6) (.cons (.gfn 14) (.cons (.gfn 16) (.cons (.gfn 17) .nil))))) (.cons (.set 15 (.bin .add (.var 15) (.lst (.cons (.err 100000 (.callv 16 (.cons (.var 14) (.cons (.var 14) .nil)))) .nil)))) (.cons (.set 15 (.bin .add (.var 15) (.lst (.cons (.err 100000 (.callv 16 (.cons (.tup (.cons (.int 0) (.cons (.int 1) .nil))) (.cons (.var 14) .nil)))) .nil)))) .nil))) (.cons (.set 15 (.bin .add (.var 15) (.lst (.cons (.err 100000 (.call 23 (.cons (.var 14) .nil))) .nil)))) (.cons (.set 15 (.bin .add (.var 15) (.lst (.cons (.err 100000 (.call 17 (.cons (.tup (.cons (.int 1) (.cons (.int 2) .nil))) (.cons (.tup (.cons (.int 1) (.cons (.int 2) .nil))) .nil)))) .nil)))) (.cons (.for (.nm 17) (.tup (.cons (.tup (.cons (.bin .add (.var 7) (.int 1)) (.cons (.int 0) .nil))) (.cons (.tup (.cons (.bin .sub (.neg (.var 7)) (.int 1)) (.cons (.int 0) .nil))) (.cons (.tup (.cons (.bl true) (.cons (.int 0) .nil))) (.cons (.tup (.cons (.int 0) (.cons (.neg (.int 1)) .nil))) (.cons (.tup (.cons (.int 0) (.cons (.int 121) .nil))) (.cons (.tup (.cons (.int 0) (.cons .non .nil))) (.cons (.tup (.cons .non (.cons (.int 0) .nil))) .nil)))))))) (.cons (.set 15 (.bin .add (.var 15) (.lst (.cons (.err 100000 (.call 18 (.cons (.idx (.var 17) (.int 0)) (.cons (.idx (.var 17) (.int 1)) .nil)))) .nil)))) .nil)) (.cons (.ret (.cmp .eq (.var 15) (.bin .add (.bin .mul (.lst (.cons (.str "half") .nil)) (.int 10)) (.bin .mul (.lst (.cons (.str "number") .nil)) (.int 7))))) .nil)))))))))))))))))))
def b1 : Sz := (.cons (.set 1 (.bf .abs (.cons (.idx (.bin .add (.bf .list (.cons (.var 0) .nil)) (.lst (.cons (.int 0) .nil))) (.int 0)) .nil))) (.cons (.ret (.mkl (.lst (.cons (.ife (.cmp .ge (.var 1) (.bin .pow (.int 10) (.int 18))) (.bin .fdiv (.var 1) (.int 113)) (.int 0)) (.cons (.bin .add (.bin .mod (.bf .int (.cons (.bin .add (.bin .mul (.var 1) (.int 367)) (.int 5303)) .nil)) (.int 1984129399)) (.int 227)) .nil))))) .nil))
def b2 : Sz := (.cons (.par [2, 3] (.tup (.cons (.call 4 (.cons (.var 0) (.cons (.bin .add (.var 1) (.int 1)) .nil))) (.cons (.call 5 (.cons (.var 0) (.cons (.lst (.cons (.int 3) (.cons (.int 50) (.cons (.bin .pow (.int 10) (.int 9)) .nil)))) .nil))) .nil)))) (.cons (.ret (.call 3 (.cons (.bin .sub (.call 4 (.cons (.var 0) (.cons (.bin .add (.bin .mul (.int 2) (.var 3)) (.int 1)) .nil))) (.var 3)) (.cons (.var 2) .nil)))) .nil))
def b3 : Sz := (.cons (.for (.nm 2) (.range1 (.var 1)) (.cons (.ite (.cmp .eq (.bin .mod (.var 0) (.int 2)) (.int 0)) (.cons (.par [0, 1] (.tup (.cons (.bin .fdiv (.var 0) (.int 2)) (.cons (.bin .sub (.var 1) (.int 1)) .nil)))) .nil) .nil) .nil)) (.cons (.ret (.tup (.cons (.var 0) (.cons (.bin .shl (.int 1) (.var 1)) .nil)))) .nil))
def b4 : Sz := (.cons (.ite (.cmp .gt (.idx (.var 0) (.int 0)) (.int 0)) (.cons (.set 2 (.bin .mod (.bf .int (.cons (.idx (.var 0) (.int 0)) .nil)) (.var 1))) (.cons (.setix (.var 0) (.int 0) (.bin .fdiv (.idx (.var 0) (.int 0)) (.var 1))) (.cons (.ret (.var 2)) .nil))) .nil) (.cons (.setix (.var 0) (.int 1) (.bin .mod (.bf .int (.cons (.bin .add (.bin .mul (.idx (.var 0) (.int 1)) (.int 30011)) (.int 9001)) .nil)) (.int 2147483543))) (.cons (.set 3 (.bin .mod (.bf .int (.cons (.bin .mul (.idx (.var 0) (.int 1)) (.bin .add (.idx (.var 0) (.int 1)) (.int 293))) .nil)) (.int 2147483587))) (.cons (.ret (.bin .mod (.bf .int (.cons (.bin .fdiv (.var 3) (.int 883)) .nil)) (.var 1))) .nil))))
def b5 : Sz := (.cons (.ret (.idx (.var 1) (.call 4 (.cons (.var 0) (.cons (.bf .len (.cons (.var 1) .nil)) .nil))))) .nil)
def b6 : Sz := (.cons (.expr (.call 7 (.cons (.var 0) .nil))) (.cons (.expr (.call 7 (.cons (.var 1) .nil))) (.cons (.ret (.call 12 (.cons (.var 0) (.cons (.var 1) .nil)))) .nil)))
def b7 : Sz := (.cons (.ite (.not (.call 8 (.cons (.var 0) .nil))) (.cons (.raise 0) .nil) .nil) .nil)
def b8 : Sz := (.cons (.ite (.bool .Or (.cons (.not (.call 10 (.cons (.var 0) (.cons (.int 2) (.cons (.int 2) .nil))))) (.cons (.not (.call 11 (.cons (.idx (.var 0) (.int 0)) (.cons (.neg (.gcon 0)) (.cons (.gcon 0) .nil))))) (.cons (.not (.call 11 (.cons (.idx (.var 0) (.int 1)) (.cons (.int 1) (.cons (.gcon 1) .nil))))) .nil)))) (.cons (.ret (.bl false)) .nil) .nil) (.cons (.ret (.bool .And (.cons (.call 9 (.cons (.idx (.var 0) (.int 1)) .nil)) (.cons (.bool .Or (.cons (.cmp .eq (.idx (.var 0) (.int 1)) (.int 1)) (.cons (.cmp .eq (.bin .mod (.idx (.var 0) (.int 0)) (.int 2)) (.int 1)) .nil))) .nil)))) .nil))
def b9 : Sz := (.cons (.ret (.cmp .eq (.bin .band (.var 0) (.bin .sub (.var 0) (.int 1))) (.int 0))) .nil)
def b10 : Sz := (.cons (.ret (.bool .And (.cons (.bf .isin (.cons (.var 0) (.cons (.gty "tuple") .nil))) (.cons (.chain .le .le (.var 1) (.bf .len (.cons (.var 0) .nil)) (.var 2)) .nil)))) .nil)
def b11 : Sz := (.cons (.ret (.bool .And (.cons (.bf .isin (.cons (.var 0) (.cons (.gty "int") .nil))) (.cons (.not (.bf .isin (.cons (.var 0) (.cons (.gty "bool") .nil)))) (.cons (.chain .le .le (.var 1) (.var 0) (.var 2)) .nil))))) .nil)
def b12 : Sz := (.cons (.ret (.call 13 (.cons (.bin .add (.bin .mul (.idx (.var 0) (.int 0)) (.idx (.var 1) (.int 1))) (.bin .mul (.idx (.var 1) (.int 0)) (.idx (.var 0) (.int 1)))) (.cons (.bin .mul (.idx (.var 0) (.int 1)) (.idx (.var 1) (.int 1))) .nil)))) .nil)
def b13 : Sz := (.cons (.ite (.cmp .eq (.var 0) (.int 0)) (.cons (.ret (.tup (.cons (.int 0) (.cons (.int 1) .nil)))) .nil) .nil) (.cons (.set 2 (.bf .min2 (.cons (.bin .band (.var 0) (.neg (.var 0))) (.cons (.var 1) .nil)))) (.cons (.ret (.tup (.cons (.bin .fdiv (.var 0) (.var 2)) (.cons (.bin .fdiv (.var 1) (.var 2)) .nil)))) .nil)))
def b14 : Sz := (.cons (.expr (.call 7 (.cons (.var 0) .nil))) (.cons (.expr (.call 7 (.cons (.var 1) .nil))) (.cons (.ret (.call 15 (.cons (.var 0) (.cons (.var 1) .nil)))) .nil)))
def b15 : Sz := (.cons (.set 2 (.bin .sub (.bin .mul (.idx (.var 0) (.int 0)) (.idx (.var 1) (.int 1))) (.bin .mul (.idx (.var 1) (.int 0)) (.idx (.var 0) (.int 1))))) (.cons (.ret (.ife (.cmp .gt (.var 2) (.int 0)) (.int 1) (.ife (.cmp .lt (.var 2) (.int 0)) (.neg (.int 1)) (.int 0)))) .nil))
def b16 : Sz := (.cons (.expr (.call 7 (.cons (.var 0) .nil))) (.cons (.expr (.call 7 (.cons (.var 1) .nil))) (.cons (.set 2 (.call 12 (.cons (.var 0) (.cons (.var 1) .nil)))) (.cons (.ret (.call 13 (.cons (.idx (.var 2) (.int 0)) (.cons (.bin .mul (.idx (.var 2) (.int 1)) (.int 2)) .nil)))) .nil))))
def b17 : Sz := (.cons (.expr (.call 7 (.cons (.var 0) .nil))) (.cons (.expr (.call 7 (.cons (.var 1) .nil))) (.cons (.ite (.cmp .ge (.call 15 (.cons (.var 0) (.cons (.var 1) .nil))) (.int 0)) (.cons (.raise 0) .nil) .nil) (.cons (.set 2 (.int 1)) (.cons (.while 130 (.bl true) (.cons (.par [3, 4] (.tup (.cons (.bin .add (.bin .fdiv (.bin .mul (.idx (.var 0) (.int 0)) (.var 2)) (.idx (.var 0) (.int 1))) (.int 1)) (.cons (.bin .sub (.neg (.bin .fdiv (.bin .mul (.neg (.idx (.var 1) (.int 0))) (.var 2)) (.idx (.var 1) (.int 1)))) (.int 1)) .nil)))) (.cons (.ite (.cmp .le (.var 3) (.var 4)) (.cons (.set 5 (.ife (.cmp .gt (.var 3) (.int 0)) (.var 3) (.ife (.cmp .lt (.var 4) (.int 0)) (.var 4) (.int 0)))) (.cons (.ret (.call 13 (.cons (.var 5) (.cons (.var 2) .nil)))) .nil)) .nil) (.cons (.set 2 (.bin .mul (.var 2) (.int 2))) .nil)))) .nil)))))
def b18 : Sz := (.cons (.expr (.call 19 (.cons (.var 0) (.cons (.neg (.gcon 0)) (.cons (.gcon 0) .nil))))) (.cons (.expr (.call 19 (.cons (.var 1) (.cons (.int 0) (.cons (.int 120) .nil))))) (.cons (.ret (.call 13 (.cons (.var 0) (.cons (.bin .shl (.int 1) (.var 1)) .nil)))) .nil)))
def b19 : Sz := (.cons (.ite (.not (.call 11 (.cons (.var 0) (.cons (.var 1) (.cons (.var 2) .nil))))) (.cons (.raise 1) .nil) .nil) .nil)
def b20 : Sz := (.cons (.set 2 (.call 21 (.cons (.var 1) .nil))) (.cons (.ite (.bool .Or (.cons (.cmp .ne (.call 21 (.cons (.var 0) .nil)) (.var 2)) (.cons (.cmp .eq (.var 2) (.int 6)) .nil))) (.cons (.ret (.bl false)) .nil) .nil) (.cons (.ite (.cmp .mem (.var 2) (.tup (.cons (.int 4) (.cons (.int 5) .nil)))) (.cons (.ret (.bool .And (.cons (.cmp .eq (.bf .len (.cons (.var 0) .nil)) (.bf .len (.cons (.var 1) .nil))) (.cons (.cmp .eq (.lc (.tp (.cons (.nm 3) (.cons (.nm 4) .nil))) (.zip (.var 0) (.var 1)) (.not (.call 20 (.cons (.var 3) (.cons (.var 4) .nil)))) (.int 1)) (.lst .nil)) .nil)))) .nil) .nil) (.cons (.ret (.cmp .eq (.var 0) (.var 1))) .nil))))
def b21 : Sz := (.cons (.ite (.bool .Or (.cons (.cmp .isN (.var 0) .non) (.cons (.bf .isin (.cons (.var 0) (.cons (.gty "bool") .nil))) .nil))) (.cons (.ret (.ife (.cmp .isN (.var 0) .non) (.int 0) (.int 1))) .nil) .nil) (.cons (.ite (.bool .Or (.cons (.bf .isin (.cons (.var 0) (.cons (.gty "int") .nil))) (.cons (.bf .isin (.cons (.var 0) (.cons (.gty "str") .nil))) .nil))) (.cons (.ret (.ife (.bf .isin (.cons (.var 0) (.cons (.gty "int") .nil))) (.int 2) (.int 3))) .nil) .nil) (.cons (.ret (.ife (.bf .isin (.cons (.var 0) (.cons (.gty "tuple") .nil))) (.int 4) (.ife (.bf .isin (.cons (.var 0) (.cons (.gty "list") .nil))) (.int 5) (.int 6)))) .nil)))
def b22 : Sz := (.cons (.tset (.cons (.nm 2) (.cons (.nm 3) (.cons (.nm 4) .nil))) (.tup (.cons (.bin .mul (.idx (.var 0) (.int 0)) (.idx (.var 1) (.int 1))) (.cons (.bin .mul (.idx (.var 1) (.int 0)) (.idx (.var 0) (.int 1))) (.cons (.bin .mul (.idx (.var 0) (.int 1)) (.idx (.var 1) (.int 1))) .nil))))) (.cons (.set 5 (.bf .len (.cons (.lc (.nm 6) (.range1 (.int 240)) (.cmp .gt (.var 4) (.bin .shl (.int 1) (.var 6))) (.int 1)) .nil))) (.cons (.set 7 (.ife (.cmp .gt (.var 2) (.var 3)) (.int 1) (.ife (.cmp .lt (.var 2) (.var 3)) (.neg (.int 1)) (.int 0)))) (.cons (.set 8 (.lst (.cons (.call 6 (.cons (.var 0) (.cons (.var 1) .nil))) (.cons (.call 16 (.cons (.var 0) (.cons (.var 1) .nil))) (.cons (.call 14 (.cons (.var 0) (.cons (.var 1) .nil))) (.cons (.call 23 (.cons (.var 0) .nil)) (.cons (.call 8 (.cons (.var 0) .nil)) .nil))))))) (.cons (.set 9 (.lst (.cons (.call 3 (.cons (.bin .add (.var 2) (.var 3)) (.cons (.var 5) .nil))) (.cons (.call 3 (.cons (.bin .add (.var 2) (.var 3)) (.cons (.bin .add (.var 5) (.int 1)) .nil))) (.cons (.var 7) (.cons (.tup (.cons (.neg (.idx (.var 0) (.int 0))) (.cons (.idx (.var 0) (.int 1)) .nil))) (.cons (.bl true) .nil))))))) (.cons (.ret (.call 20 (.cons (.var 8) (.cons (.var 9) .nil)))) .nil))))))
def b23 : Sz := (.cons (.expr (.call 7 (.cons (.var 0) .nil))) (.cons (.ret (.tup (.cons (.neg (.idx (.var 0) (.int 0))) (.cons (.idx (.var 0) (.int 1)) .nil)))) .nil))
def b24 : Sz := (.cons (.ite (.cmp .ge (.bin .mul (.idx (.var 0) (.int 0)) (.idx (.var 1) (.int 1))) (.bin .mul (.idx (.var 1) (.int 0)) (.idx (.var 0) (.int 1)))) (.cons (.ret (.cmp .eq (.err 100000 (.call 17 (.cons (.var 0) (.cons (.var 1) .nil)))) (.str "half"))) .nil) .nil) (.cons (.for (.nm 2) (.range1 (.int 14)) (.cons (.set 3 (.mkl (.lst .nil))) (.cons (.par [4, 5] (.tup (.cons (.bin .fdiv (.bin .mul (.idx (.var 0) (.int 0)) (.bin .shl (.int 1) (.var 2))) (.idx (.var 0) (.int 1))) (.cons (.bin .add (.bin .fdiv (.bin .mul (.idx (.var 1) (.int 0)) (.bin .shl (.int 1) (.var 2))) (.idx (.var 1) (.int 1))) (.int 1)) .nil)))) (.cons (.set 6 (.lc (.nm 7) (.tup (.cons (.var 4) (.cons (.bin .add (.var 4) (.int 1)) (.cons (.bin .add (.var 4) (.int 2)) (.cons (.int 0) (.cons (.var 5) (.cons (.bin .sub (.var 5) (.int 1)) (.cons (.bin .sub (.var 5) (.int 2)) .nil)))))))) (.cmp .lt (.bin .shl (.idx (.var 0) (.int 0)) (.var 2)) (.bin .mul (.var 7) (.idx (.var 0) (.int 1)))) (.var 7))) (.cons (.set 6 (.lc (.nm 7) (.var 6) (.cmp .lt (.bin .mul (.var 7) (.idx (.var 1) (.int 1))) (.bin .shl (.idx (.var 1) (.int 0)) (.var 2))) (.var 7))) (.cons (.for (.nm 7) (.var 6) (.cons (.app (.var 3) (.tup (.cons (.bf .abs (.cons (.var 7) .nil)) (.cons (.var 7) .nil)))) .nil)) (.cons (.ite (.cmp .ne (.var 3) (.lst .nil)) (.cons (.ret (.call 20 (.cons (.call 17 (.cons (.var 0) (.cons (.var 1) .nil))) (.cons (.call 3 (.cons (.idx (.bf .minD (.cons (.var 3) .nil)) (.int 1)) (.cons (.var 2) .nil))) .nil)))) .nil) .nil) .nil))))))) (.cons (.ret (.bl false)) .nil)))
def d0 : Dr := ⟨"law", top 34, ["script", "cup", "last", "turn", "one", "small", "other", "great", "power", "step", "told", "due", "odds", "odd", "bad", "words", "name", "pair"], ["script"], b0, true⟩
def d1 : Dr := ⟨"_law_cup", top 24, ["script", "cell"], ["script"], b1, false⟩
def d2 : Dr := ⟨"_law_half", top 30, ["cup", "most", "power", "size"], ["cup", "most"], b2, false⟩
def d3 : Dr := ⟨"_law_lowest", top 29, ["top", "power", "step"], ["top", "power"], b3, false⟩
def d4 : Dr := ⟨"_law_roll", top 25, ["cup", "many", "found", "deep"], ["cup", "many"], b4, false⟩
def d5 : Dr := ⟨"_law_some", top 26, ["cup", "things"], ["cup", "things"], b5, false⟩
def d6 : Dr := ⟨"half_sum", top 18, ["one", "other"], ["one", "other"], b6, false⟩
def d7 : Dr := ⟨"need_half", top 13, ["value"], ["value"], b7, false⟩
def d8 : Dr := ⟨"is_half", top 12, ["value"], ["value"], b8, false⟩
def d9 : Dr := ⟨"is_power", top 11, ["number"], ["number"], b9, false⟩
def d10 : Dr := ⟨"is_tuple_of", top 7, ["value", "low", "high"], ["value", "low", "high"], b10, false⟩
def d11 : Dr := ⟨"is_whole", top 5, ["value", "low", "high"], ["value", "low", "high"], b11, false⟩
def d12 : Dr := ⟨"joined_halves", top 15, ["one", "other"], ["one", "other"], b12, false⟩
def d13 : Dr := ⟨"lowered", top 14, ["top", "bottom", "shared"], ["top", "bottom"], b13, false⟩
def d14 : Dr := ⟨"compared", top 20, ["one", "other"], ["one", "other"], b14, false⟩
def d15 : Dr := ⟨"sign_between", top 16, ["one", "other", "gap"], ["one", "other"], b15, false⟩
def d16 : Dr := ⟨"midst", top 21, ["one", "other", "both"], ["one", "other"], b16, false⟩
def d17 : Dr := ⟨"simplest_between", top 22, ["one", "other", "bottom", "low", "high", "top"], ["one", "other"], b17, false⟩
def d18 : Dr := ⟨"half_of", top 17, ["top", "power"], ["top", "power"], b18, false⟩
def d19 : Dr := ⟨"need_whole", top 6, ["value", "low", "high"], ["value", "low", "high"], b19, false⟩
def d20 : Dr := ⟨"_law_like", top 28, ["one", "other", "sort", "first", "second"], ["one", "other"], b20, false⟩
def d21 : Dr := ⟨"_law_sort", top 27, ["value"], ["value"], b21, false⟩
def d22 : Dr := ⟨"_law_pair_right", top 32, ["one", "other", "first", "second", "bottom", "power", "place", "sign", "told", "due"], ["one", "other"], b22, false⟩
def d23 : Dr := ⟨"turned", top 19, ["one"], ["one"], b23, false⟩
def d24 : Dr := ⟨"_law_between_right", top 33, ["one", "other", "power", "found", "low", "high", "near", "top"], ["one", "other"], b24, true⟩
def ds : List Dr := [d0, d1, d2, d3, d4, d5, d6, d7, d8, d9, d10, d11, d12, d13, d14, d15, d16, d17, d18, d19, d20, d21, d22, d23, d24]
def eb0 : Sz := (.cons (.set 1 (.lst (.cons (.tup (.cons (.str "half") (.cons (.isx (.var 4) 0) .nil))) (.cons (.tup (.cons (.str "number") (.cons (.isx (.var 4) 1) .nil))) .nil)))) (.cons (.ret (.join "" (.lc (.tp (.cons (.nm 2) (.cons (.nm 3) .nil))) (.var 1) (.var 3) (.var 2)))) .nil))
def e0 : Er := ⟨"_law_error", top 31, ["call", "pairs", "word", "is_so", "e"], 4, "GameError", eb0, "none"⟩
def exs : List (Str × Bool) := [("InvalidHalf", true), ("InvalidNumber", true)]
def tx : Tx := ⟨ds, exs, [e0], 1, 4⟩
def ks : List (Str × Kon) := [("GREAT", .int 10000000000000000000000000000000000000000), ("POWER", .int 1329227995784915872903807060280344576)]
def gc : Bool := false
theorem tok : TabOk tx (ks.map (·.1)) gc where
  ck := by
    have h : (tx.ds.all fun d => ckDr (tx.sh (ks.map (·.1)) gc) d) = true := by decide +kernel
    exact List.all_eq_true.mp h
  ce := by
    have h : (tx.es.all fun d => ckEr tx.exs d) = true := by decide +kernel
    exact List.all_eq_true.mp h
  cup := fun d h => by
    cases h
    exact ⟨rfl, rfl, rfl⟩
  roll := fun d h => by
    cases h
    exact ⟨rfl, rfl, rfl⟩
  ne := by decide
  small := by decide
theorem bnd : ∀ d ∈ tx.ds, bindsB d := by
  intro d hd
  simp only [tx, ds, List.mem_cons, List.not_mem_nil, or_false] at hd
  rcases hd with rfl | rfl | rfl | rfl | rfl | rfl | rfl | rfl | rfl | rfl | rfl | rfl | rfl | rfl | rfl | rfl | rfl | rfl | rfl | rfl | rfl | rfl | rfl | rfl | rfl
  · exact fun _ _ _ _ _ _ us hl => match us, hl with | [_], _ => rfl
  · exact fun _ _ _ _ _ _ us hl => match us, hl with | [_], _ => rfl
  · exact fun _ _ _ _ _ _ us hl => match us, hl with | [_, _], _ => rfl
  · exact fun _ _ _ _ _ _ us hl => match us, hl with | [_, _], _ => rfl
  · exact fun _ _ _ _ _ _ us hl => match us, hl with | [_, _], _ => rfl
  · exact fun _ _ _ _ _ _ us hl => match us, hl with | [_, _], _ => rfl
  · exact fun _ _ _ _ _ _ us hl => match us, hl with | [_, _], _ => rfl
  · exact fun _ _ _ _ _ _ us hl => match us, hl with | [_], _ => rfl
  · exact fun _ _ _ _ _ _ us hl => match us, hl with | [_], _ => rfl
  · exact fun _ _ _ _ _ _ us hl => match us, hl with | [_], _ => rfl
  · exact fun _ _ _ _ _ _ us hl => match us, hl with | [_, _, _], _ => rfl
  · exact fun _ _ _ _ _ _ us hl => match us, hl with | [_, _, _], _ => rfl
  · exact fun _ _ _ _ _ _ us hl => match us, hl with | [_, _], _ => rfl
  · exact fun _ _ _ _ _ _ us hl => match us, hl with | [_, _], _ => rfl
  · exact fun _ _ _ _ _ _ us hl => match us, hl with | [_, _], _ => rfl
  · exact fun _ _ _ _ _ _ us hl => match us, hl with | [_, _], _ => rfl
  · exact fun _ _ _ _ _ _ us hl => match us, hl with | [_, _], _ => rfl
  · exact fun _ _ _ _ _ _ us hl => match us, hl with | [_, _], _ => rfl
  · exact fun _ _ _ _ _ _ us hl => match us, hl with | [_, _], _ => rfl
  · exact fun _ _ _ _ _ _ us hl => match us, hl with | [_, _, _], _ => rfl
  · exact fun _ _ _ _ _ _ us hl => match us, hl with | [_, _], _ => rfl
  · exact fun _ _ _ _ _ _ us hl => match us, hl with | [_], _ => rfl
  · exact fun _ _ _ _ _ _ us hl => match us, hl with | [_, _], _ => rfl
  · exact fun _ _ _ _ _ _ us hl => match us, hl with | [_], _ => rfl
  · exact fun _ _ _ _ _ _ us hl => match us, hl with | [_, _], _ => rfl
theorem bnde : ∀ e ∈ tx.es, bindsE e := by
  intro e he
  simp only [tx, List.mem_cons, List.not_mem_nil, or_false] at he
  rcases he with rfl
  · exact fun _ _ _ _ _ _ us hl => match us, hl with | [_], _ => rfl
abbrev R : PySem.W.OpenRow := PySem.W.OpenLaw.row PySem.Challenge.rw_gamesweighed_k00_whole_half_numbers
abbrev hk : PySem.W.Hook := hkOf 5 tx ks gc
def obs (s : PySem.W.SharedT) : He.AlX := He.obsX 5 (faOf tx ks) (dfs tx) [] (tfOf tx) (exOf gc tx) (HandSHeadRun.getT s)
theorem obs_eq (s : PySem.W.SharedT) : obs s = hk.obs s.abs := He.obsX_eq (HandSHeadRun.getT_eq s)
def loose : List Str := (["is_whole", "need_whole", "is_tuple_of", "is_power", "is_half", "need_half", "lowered", "joined_halves", "sign_between", "half_of", "half_sum", "turned", "compared", "midst", "simplest_between", "_law_cup", "_law_roll", "_law_some", "_law_sort", "_law_like", "_law_lowest", "_law_half", "_law_error", "_law_pair_right", "_law_between_right", "GameError", "InvalidNumber", "InvalidHalf", "GREAT", "POWER"] : List Str)
theorem hrun (w : World) : HandSHeadRun.RunEq R (PySem.W.view R.prog [34]) hk obs 4000 loose w := by
  intro os
  kernel_rfl
end Row
namespace Row
open PySem DL
abbrev F (n : Nat) : Nat → List D → M D := tabF (kcOf ks) tx n
abbrev G40 : Int := 10000000000000000000000000000000000000000
abbrev P120 : Int := 1329227995784915872903807060280344576
theorem k0 : kcOf ks 0 = .int G40 := rfl
theorem k1 : kcOf ks 1 = .int P120 := rfl
theorem negG : negop (.int G40) = M.pure (.int (-G40)) := rfl
def dat : D → Bool
  | .non => true
  | .bl _ => true
  | .int _ => true
  | .str _ => true
  | .tup _ => true
  | .lst _ => true
  | _ => false
theorem res_dat {v : D} (h : dat v = true) : res v = M.pure v := by cases v <;> first | rfl | cases h
def whB (lo hi : Int) : D → Bool
  | .int v => decide (lo ≤ v ∧ v ≤ hi)
  | _ => false
def tupB (lo hi : Int) : D → Bool
  | .tup xs => decide (lo ≤ (xs.length : Int) ∧ (xs.length : Int) ≤ hi)
  | _ => false
theorem isinI {v : D} (h : dat v = true) : bfop .isin [v, .ty "int"] = M.pure (.bl (match v with
    | .int _ => true
    | .bl _ => true
    | _ => false)) := by cases v <;> first | rfl | cases h
theorem isinBl {v : D} (h : dat v = true) : bfop .isin [v, .ty "bool"] = M.pure (.bl (match v with
    | .bl _ => true
    | _ => false)) := by cases v <;> first | rfl | cases h
theorem isinT {v : D} (h : dat v = true) : bfop .isin [v, .ty "tuple"] = M.pure (.bl (match v with
    | .tup _ => true
    | _ => false)) := by cases v <;> first | rfl | cases h
theorem is_whole (n : Nat) (v : D) (lo hi : Int) (h : dat v = true) : F (n + 1) 11 [v, .int lo, .int hi] = M.pure (.bl (whB lo hi v)) := by
  unfold F
  rw [call_at (d := d11) rfl rfl _ rfl, run_eq]
  have e1 := isinI h
  have e2 := isinBl h
  cases v with
  | int v =>
    simp -implicitDefEqProofs [d11, b11, evS, DL.get, chain_b, whB]
    by_cases h : lo ≤ v <;> simp -implicitDefEqProofs [h]
  | non => simp -implicitDefEqProofs [d11, b11, evS, DL.get, e1, whB]
  | bl q => simp -implicitDefEqProofs [d11, b11, evS, DL.get, e1, e2, whB]
  | str x => simp -implicitDefEqProofs [d11, b11, evS, DL.get, e1, whB]
  | tup x => simp -implicitDefEqProofs [d11, b11, evS, DL.get, e1, whB]
  | lst x => simp -implicitDefEqProofs [d11, b11, evS, DL.get, e1, whB]
  | _ => cases h
theorem is_tuple_of (n : Nat) (v : D) (lo hi : Int) (h : dat v = true) : F (n + 1) 10 [v, .int lo, .int hi] = M.pure (.bl (tupB lo hi v)) := by
  unfold F
  rw [call_at (d := d10) rfl rfl _ rfl, run_eq]
  have e1 := isinT h
  cases v with
  | tup xs =>
    simp -implicitDefEqProofs [d10, b10, evS, DL.get, chain_b, tupB, e1]
    by_cases h : lo ≤ (xs.length : Int) <;> simp -implicitDefEqProofs [h]
  | non => simp -implicitDefEqProofs [d10, b10, evS, DL.get, e1, tupB]
  | bl q => simp -implicitDefEqProofs [d10, b10, evS, DL.get, e1, tupB]
  | int q => simp -implicitDefEqProofs [d10, b10, evS, DL.get, e1, tupB]
  | str x => simp -implicitDefEqProofs [d10, b10, evS, DL.get, e1, tupB]
  | lst x => simp -implicitDefEqProofs [d10, b10, evS, DL.get, e1, tupB]
  | _ => cases h
theorem need_whole (n : Nat) (v : D) (lo hi : Int) (h : dat v = true) : F (n + 2) 19 [v, .int lo, .int hi] = if whB lo hi v = true then M.pure .non else throwM 1 := by
  unfold F
  rw [call_at (d := d19) rfl rfl _ rfl, run_eq]
  have e := is_whole n v lo hi h
  unfold F at e
  generalize whB lo hi v = q at *
  cases q <;> simp -implicitDefEqProofs [d19, b19, evS, DL.get, res_dat h, e]
/-! ### half numbers, plainly -/
def low : Int → Nat → Int × Nat
  | t, 0 => (t, 0)
  | t, p + 1 => if t % 2 = 0 then low (t / 2) p else (t, p + 1)
@[irreducible] def pw (p : Nat) : Int := 2 ^ p
theorem pw_def (p : Nat) : pw p = 2 ^ p := by unfold pw; rfl
theorem pw_pos (p : Nat) : 0 < pw p := by rw [pw_def]; exact Int.pow_pos (by decide)
theorem pw0 : pw 0 = 1 := by rw [pw_def]; rfl
theorem pw_succ (p : Nat) : pw (p + 1) = pw p * 2 := by rw [pw_def, pw_def, Int.pow_succ]
theorem pw_add (p q : Nat) : pw (p + q) = pw p * pw q := by rw [pw_def, pw_def, pw_def, Int.pow_add]
theorem pw_le {p q : Nat} (h : p ≤ q) : pw p ≤ pw q := by
  obtain ⟨k, rfl⟩ := Nat.exists_eq_add_of_le h
  rw [pw_add]
  have h1 := pw_pos p
  have h2 := pw_pos k
  have : pw p * 1 ≤ pw p * pw k := Int.mul_le_mul_of_nonneg_left (by omega) (by omega)
  omega
theorem pw_lt {p q : Nat} : pw p < pw q ↔ p < q := by
  constructor
  · intro h
    rcases Nat.lt_or_ge p q with c | c
    · exact c
    · have := pw_le c
      omega
  · intro h
    have h1 := pw_le (show p + 1 ≤ q from h)
    rw [pw_succ] at h1
    have := pw_pos p
    omega
def hl (x : Int × Nat) : D := .tup [.int x.1, .int (pw x.2)]
theorem low_odd {t : Int} {p : Nat} (h : t % 2 = 1) : low t p = (t, p) := by
  cases p with
  | zero => rfl
  | succ p => unfold low; rw [if_neg (by omega)]
theorem low_zero : ∀ p : Nat, low 0 p = (0, 0)
  | 0 => rfl
  | p + 1 => by unfold low; rw [if_pos (by decide)]; exact low_zero p
theorem low_next : ∀ (k : Nat) (s : Int), low s (k + 1) = low (low s k).1 ((low s k).2 + 1)
  | 0, s => rfl
  | k + 1, s => by
    by_cases c : s % 2 = 0
    · have e1 : low s (k + 1 + 1) = low (s / 2) (k + 1) := by rw [low, if_pos c]
      have e2 : low s (k + 1) = low (s / 2) k := by rw [low, if_pos c]
      rw [e1, e2]
      exact low_next k (s / 2)
    · have e1 : low s (k + 1 + 1) = (s, k + 1 + 1) := by rw [low, if_neg c]
      have e2 : low s (k + 1) = (s, k + 1) := by rw [low, if_neg c]
      rw [e1, e2]
      exact e1.symm
theorem low_spec : ∀ (p : Nat) (t : Int), (low t p).2 ≤ p ∧ t = (low t p).1 * pw (p - (low t p).2) ∧ ((low t p).2 = 0 ∨ (low t p).1 % 2 = 1) ∧ (low t p).1.natAbs ≤ t.natAbs
  | 0, t => ⟨Nat.le_refl _, by show t = t * pw 0; rw [pw0]; omega, .inl rfl, Nat.le_refl _⟩
  | p + 1, t => by
    by_cases c : t % 2 = 0
    · have e : low t (p + 1) = low (t / 2) p := by rw [low, if_pos c]
      obtain ⟨h1, h2, h3, h4⟩ := low_spec p (t / 2)
      rw [e]
      refine ⟨by omega, ?_, h3, by omega⟩
      rw [show p + 1 - (low (t / 2) p).2 = p - (low (t / 2) p).2 + 1 from by omega, pw_succ, ← Int.mul_assoc, ← h2]
      omega
    · have e : low t (p + 1) = (t, p + 1) := by rw [low, if_neg c]
      rw [e]
      refine ⟨Nat.le_refl _, ?_, .inr (by show t % 2 = 1; omega), Nat.le_refl _⟩
      show t = t * pw (p + 1 - (p + 1))
      rw [Nat.sub_self, pw0]
      omega
/-! ### the lowest bit -/
theorem land_bits (x y : Nat) (b c : Bool) : (2 * x + b.toNat) &&& (2 * y + c.toNat) = 2 * (x &&& y) + (b && c).toNat := by
  apply Nat.eq_of_testBit_eq
  intro i
  cases i with
  | zero =>
    rw [Nat.testBit_and, Nat.testBit_zero, Nat.testBit_zero, Nat.testBit_zero]
    cases b <;> cases c <;> simp <;> omega
  | succ i =>
    rw [Nat.testBit_and, Nat.testBit_succ, Nat.testBit_succ, Nat.testBit_succ]
    have e : ∀ (z : Nat) (d : Bool), (2 * z + d.toNat) / 2 = z := fun z d => by cases d <;> simp <;> omega
    rw [e, e, e, Nat.testBit_and]
theorem land_low : ∀ (v m : Nat), ((2 * m + 1) * 2 ^ v) &&& ((2 * m + 1) * 2 ^ v - 1) = 2 * m * 2 ^ v
  | 0, m => by
    have := land_bits m m true false
    simp only [Bool.toNat_true, Bool.toNat_false, Bool.and_false, Nat.add_zero, Nat.and_self] at this
    rw [Nat.pow_zero, Nat.mul_one, Nat.mul_one, Nat.add_sub_cancel]
    exact this
  | v + 1, m => by
    have ih := land_low v m
    have hp : 0 < (2 * m + 1) * 2 ^ v := Nat.mul_pos (by omega) (Nat.pow_pos (by decide))
    have e1 : (2 * m + 1) * 2 ^ (v + 1) = 2 * ((2 * m + 1) * 2 ^ v) := by rw [Nat.pow_succ, ← Nat.mul_assoc, Nat.mul_comm]
    have e2 : 2 * m * 2 ^ (v + 1) = 2 * (2 * m * 2 ^ v) := by rw [Nat.pow_succ, ← Nat.mul_assoc, Nat.mul_comm]
    rw [e1, e2]
    generalize (2 * m + 1) * 2 ^ v = a at *
    generalize 2 * m * 2 ^ v = b at *
    have := land_bits a (a - 1) false true
    simp only [Bool.toNat_true, Bool.toNat_false, Bool.false_and, Nat.add_zero] at this
    rw [ih] at this
    rw [← this]
    congr 1
    omega
theorem low_bit {t : Int} (h0 : t ≠ 0) : ∃ (v m : Nat), t.natAbs = (2 * m + 1) * 2 ^ v ∧ Builtin.bitAnd t (-t) = pw v := by
  have key : ∀ k a : Nat, a ≤ k → a ≠ 0 → ∃ v m : Nat, a = (2 * m + 1) * 2 ^ v := by
    intro k
    induction k with
    | zero => intro a h1 h2; omega
    | succ k ih =>
      intro a h1 h2
      by_cases c : a % 2 = 0
      · obtain ⟨v, m, e⟩ := ih (a / 2) (by omega) (by omega)
        refine ⟨v + 1, m, ?_⟩
        rw [Nat.pow_succ, ← Nat.mul_assoc, ← e]
        omega
      · exact ⟨0, a / 2, by rw [Nat.pow_zero]; omega⟩
  obtain ⟨v, m, e⟩ := key _ t.natAbs (Nat.le_refl _) (by omega)
  refine ⟨v, m, e, ?_⟩
  have hl := land_low v m
  rw [← e] at hl
  have hs : (2 * m + 1) * 2 ^ v = 2 * m * 2 ^ v + 2 ^ v := by rw [Nat.add_mul, Nat.one_mul]
  have hp : pw v = ((2 ^ v : Nat) : Int) := by rw [pw_def]; simp
  rw [hp]
  generalize 2 * m * 2 ^ v = b at *
  generalize 2 ^ v = w at *
  unfold Builtin.bitAnd
  rcases Int.lt_or_lt_of_ne h0 with c | c
  · have d1 : decide (0 ≤ t) = false := decide_eq_false (by omega)
    have d2 : decide (0 ≤ -t) = true := decide_eq_true (by omega)
    rw [d1, d2]
    show -t - (((-t).toNat &&& (-t - 1).toNat : Nat) : Int) = _
    rw [show (-t).toNat = t.natAbs from by omega, show (-t - 1).toNat = t.natAbs - 1 from by omega, hl]
    omega
  · have d1 : decide (0 ≤ t) = true := decide_eq_true (by omega)
    have d2 : decide (0 ≤ -t) = false := decide_eq_false (by omega)
    rw [d1, d2]
    show t - ((t.toNat &&& (-(-t) - 1).toNat : Nat) : Int) = _
    rw [show t.toNat = t.natAbs from by omega, show (-(-t) - 1).toNat = t.natAbs - 1 from by omega, hl]
    omega
theorem pw_power (p : Nat) : Builtin.bitAnd (pw p) (pw p - 1) = 0 := by
  have hl := land_low p 0
  rw [Nat.mul_zero, Nat.zero_add, Nat.one_mul, Nat.zero_mul] at hl
  have hp : pw p = ((2 ^ p : Nat) : Int) := by rw [pw_def]; simp
  have hp0 := pw_pos p
  rw [hp] at hp0 ⊢
  generalize 2 ^ p = w at *
  unfold Builtin.bitAnd
  rw [decide_eq_true (show 0 ≤ (w : Int) by omega), decide_eq_true (show 0 ≤ (w : Int) - 1 by omega)]
  show (((w : Int).toNat &&& ((w : Int) - 1).toNat : Nat) : Int) = 0
  rw [show (w : Int).toNat = w from by omega, show ((w : Int) - 1).toNat = w - 1 from by omega, hl]
  rfl
end Row
namespace Row
open PySem DL
theorem lk : LikeAt tx 21 20 := ⟨⟨d21, rfl, rfl, rfl, rfl⟩, ⟨d20, rfl, rfl, rfl, rfl⟩, rfl, rfl⟩
theorem mod2 (t : Int) : binop .mod (.int t) (.int 2) = M.pure (.int (t % 2)) := by
  rw [bin_mod (by decide), Int.fmod_eq_emod_of_nonneg t (by decide)]
theorem fdiv2 (t : Int) : binop .fdiv (.int t) (.int 2) = M.pure (.int (t / 2)) := by
  rw [bin_fdivS (by decide), Int.fdiv_eq_ediv_of_nonneg t (by decide)]
theorem shl1 {p : Nat} (h : p ≤ 1000000) : binop .shl (.int 1) (.int (p : Nat)) = M.pure (.int (pw p)) := by
  show (if 0 ≤ (p : Int) ∧ (p : Int) ≤ 1000000 ∧ (1 : Int).natAbs < 2 ^ 64 then M.pure (D.int (1 * 2 ^ (p : Int).toNat)) else M.bad) = _
  rw [if_pos ⟨by omega, by omega, by decide⟩, Int.one_mul, pw_def, Int.toNat_natCast]
theorem shlT {t : Int} {p : Nat} (ht : t.natAbs < 2 ^ 64) (h : p ≤ 1000000) : binop .shl (.int t) (.int (p : Nat)) = M.pure (.int (t * pw p)) := by
  show (if 0 ≤ (p : Int) ∧ (p : Int) ≤ 1000000 ∧ t.natAbs < 2 ^ 64 then M.pure (D.int (t * 2 ^ (p : Int).toNat)) else M.bad) = _
  rw [if_pos ⟨by omega, by omega, ht⟩, pw_def, Int.toNat_natCast]
theorem pw_log (p : Nat) : (pw p).natAbs.log2 = p := by
  rw [pw_def]
  have : ((2 : Int) ^ p).natAbs = 2 ^ p := by rw [Int.natAbs_pow]; rfl
  rw [this]
  exact Nat.log2_two_pow
theorem fdivP {i : Int} {p : Nat} (h : p < 9000) : binop .fdiv (.int i) (.int (pw p)) = M.pure (.int (i / pw p)) := by
  have h0 : pw p ≠ 0 := by have := pw_pos p; omega
  have e : i.fdiv (pw p) = i / pw p := Int.fdiv_eq_ediv_of_nonneg i (by have := pw_pos p; omega)
  show (if pw p ≠ 0 ∧ (pw p).natAbs < 1073741824 then M.pure (D.int (i.fdiv (pw p))) else if pw p ≠ 0 ∧ (pw p).natAbs.log2 < 9000 then M.pure (.int (i.fdiv (pw p))) else M.bad) = _
  rw [e]
  split
  · rfl
  · rw [if_pos ⟨h0, by rw [pw_log]; exact h⟩]
/-! ### lowest terms -/
def lb3 : Sz := (.cons (.ite (.cmp .eq (.bin .mod (.var 0) (.int 2)) (.int 0)) (.cons (.par [0, 1] (.tup (.cons (.bin .fdiv (.var 0) (.int 2)) (.cons (.bin .sub (.var 1) (.int 1)) .nil)))) .nil) .nil) .nil)
theorem eb3 : d3.body = .cons (.for (.nm 2) (.range1 (.var 1)) lb3) (.cons (.ret (.tup (.cons (.var 0) (.cons (.bin .shl (.int 1) (.var 1)) .nil)))) .nil) := rfl
section
variable {C : Nat → List D → M D} {K : Nat → D}
theorem t3odd {t q : Int} {d : D} {x : Option D} (h : t % 2 = 1) : M.bind (M.opt (bindT (.nm 2) d [some (.int t), some (.int q), x])) (evS C K lb3) = M.pure (.nx [some (.int t), some (.int q), some d]) := by
  have m := mod2 t
  rw [h] at m
  simp -implicitDefEqProofs [bindT, lb3, evS, DL.get, m]
theorem t3even {t q : Int} {d : D} {x : Option D} (h : t % 2 = 0) : M.bind (M.opt (bindT (.nm 2) d [some (.int t), some (.int q), x])) (evS C K lb3) = M.pure (.nx [some (.int (t / 2)), some (.int (q - 1)), some d]) := by
  have m := mod2 t
  have f := fdiv2 t
  rw [h] at m
  simp -implicitDefEqProofs [bindT, lb3, evS, DL.get, m, f, setPar, setAll]
theorem l3odd {t q : Int} (h : t % 2 = 1) : ∀ (ds : List D) (x : Option D), ∃ y, forGo (.nm 2) (evS C K lb3) ds [some (.int t), some (.int q), x] = M.pure (.nx [some (.int t), some (.int q), y])
  | [], x => ⟨x, rfl⟩
  | d :: ds, x => by
    obtain ⟨y, ih⟩ := l3odd h ds (some d)
    refine ⟨y, ?_⟩
    show M.bind (M.opt (bindT (.nm 2) d _)) (fun ρ' => M.bind (evS C K lb3 ρ') _) = _
    rw [← bb, t3odd h, pb]
    exact ih
theorem l3 : ∀ (ds : List D) (t : Int) (x : Option D), ∃ y, forGo (.nm 2) (evS C K lb3) ds [some (.int t), some (.int (ds.length : Nat)), x] = M.pure (.nx [some (.int (low t ds.length).1), some (.int ((low t ds.length).2 : Nat)), y])
  | [], t, x => ⟨x, rfl⟩
  | d :: ds, t, x => by
    by_cases c : t % 2 = 0
    · obtain ⟨y, ih⟩ := l3 ds (t / 2) (some d)
      refine ⟨y, ?_⟩
      have e : low t (d :: ds).length = low (t / 2) ds.length := by rw [List.length_cons, low, if_pos c]
      rw [e, ← ih]
      show M.bind (M.opt (bindT (.nm 2) d _)) (fun ρ' => M.bind (evS C K lb3 ρ') _) = _
      rw [← bb, t3even c, pb]
      rw [show (((d :: ds).length : Nat) : Int) - 1 = ((ds.length : Nat) : Int) from by rw [List.length_cons]; omega]
    · have c1 : t % 2 = 1 := by omega
      obtain ⟨y, h⟩ := l3odd (C := C) (K := K) (q := ((d :: ds).length : Nat)) c1 (d :: ds) x
      refine ⟨y, ?_⟩
      rw [low_odd c1]
      exact h
end
theorem lowest (n : Nat) (t : Int) {p : Nat} (h : p ≤ 1000) : F (n + 1) 3 [.int t, .int (p : Nat)] = M.pure (hl (low t p)) := by
  unfold F
  rw [call_at (d := d3) rfl rfl _ rfl, run_eq, eb3]
  have hN : d3.N.length = 3 := rfl
  rw [hN]
  have hr : rng1 (.int (p : Nat)) = M.pure ((List.range p).map fun (i : Nat) => D.int (i : Int)) := by
    rw [rng1_ok (by omega), Int.toNat_natCast]
  obtain ⟨y, e⟩ := l3 (C := tabF (kcOf ks) tx n) (K := kcOf ks) ((List.range p).map fun (i : Nat) => D.int (i : Int)) t none
  rw [List.length_map, List.length_range] at e
  have hq := (low_spec p t).1
  have s := shl1 (p := (low t p).2) (by omega)
  unfold hl
  generalize (List.range p).map (fun (i : Nat) => D.int (i : Int)) = ds at *
  generalize (low t p).2 = q at *
  generalize (low t p).1 = t' at *
  simp -implicitDefEqProofs [evS, DL.get, hr, e, s]
theorem lowered (n : Nat) (t : Int) {p : Nat} (h : p ≤ 1000) : F (n + 1) 13 [.int t, .int (pw p)] = M.pure (hl (low t p)) := by
  unfold F
  rw [call_at (d := d13) rfl rfl _ rfl, run_eq]
  by_cases h0 : t = 0
  · subst h0
    rw [low_zero]
    unfold hl
    rw [pw0]
    simp -implicitDefEqProofs [d13, b13, evS, DL.get]
  · obtain ⟨v, m, e1, e2⟩ := low_bit h0
    obtain ⟨h1, h2, h3, _⟩ := low_spec p t
    obtain ⟨k, hk⟩ : ∃ k, k = p - (low t p).2 := ⟨_, rfl⟩
    have hkp : p = (low t p).2 + k := by omega
    have hv : pw k ∣ t := ⟨(low t p).1, by rw [Int.mul_comm, hk]; exact h2⟩
    have pn : ∀ j, (pw j).natAbs = 2 ^ j := fun j => by rw [pw_def, Int.natAbs_pow]; rfl
    have hkv : k ≤ v := by
      rcases Nat.lt_or_ge v k with c | c
      · exfalso
        have d1 := Int.natAbs_dvd_natAbs.mpr hv
        rw [pn, e1] at d1
        have d2 : 2 ^ (v + 1) ∣ (2 * m + 1) * 2 ^ v := Nat.dvd_trans (Nat.pow_dvd_pow 2 c) d1
        rw [Nat.pow_succ, Nat.mul_comm (2 ^ v) 2] at d2
        have := Nat.dvd_of_mul_dvd_mul_right (Nat.pow_pos (by decide)) d2
        omega
      · exact c
    have hkk : k = min v p := by
      rcases h3 with h3 | h3
      · omega
      · -- t' is odd
        have e3 : t.natAbs = (low t p).1.natAbs * 2 ^ k := by
          conv => lhs; rw [h2]
          rw [Int.natAbs_mul, pn, hk]
        rw [e1] at e3
        rcases Nat.lt_or_ge k v with c | c
        · exfalso
          obtain ⟨j, rfl⟩ := Nat.exists_eq_add_of_lt c
          rw [show k + j + 1 = k + (j + 1) from by omega, Nat.pow_add, Nat.mul_comm (2 ^ k), ← Nat.mul_assoc] at e3
          have e4 := Nat.eq_of_mul_eq_mul_right (Nat.pow_pos (by decide)) e3
          rw [Nat.pow_succ, ← Nat.mul_assoc] at e4
          omega
        · omega
    have hm : bfop .min2 [.int (pw v), .int (pw p)] = M.pure (.int (pw k)) := by
      show M.pure (D.int (if pw p < pw v then pw p else pw v)) = _
      rw [hkk]
      by_cases c : p < v
      · rw [if_pos (pw_lt.mpr c), Nat.min_eq_right (by omega)]
      · rw [if_neg (fun q => c (pw_lt.mp q)), Nat.min_eq_left (by omega)]
    have f1 := fdivP (i := t) (p := k) (by omega)
    have f2 := fdivP (i := pw p) (p := k) (by omega)
    have g1 : t / pw k = (low t p).1 := by
      conv => lhs; rw [h2, ← hk]
      exact Int.mul_ediv_cancel _ (by have := pw_pos k; omega)
    have g2 : pw p / pw k = pw (low t p).2 := by
      conv => lhs; rw [hkp, pw_add]
      exact Int.mul_ediv_cancel _ (by have := pw_pos k; omega)
    rw [g1] at f1
    rw [g2] at f2
    have hb : binop .band (.int t) (.int (-t)) = M.pure (.int (pw v)) := by
      show M.pure (D.int (Builtin.bitAnd t (-t))) = _
      rw [e2]
    have t0 : (t == 0) = false := beq_eq_false_iff_ne.mpr h0
    unfold hl
    generalize (low t p).2 = q at *
    generalize (low t p).1 = t' at *
    clear h2 h3 hv e1 e2 hkk hkv
    simp -implicitDefEqProofs [d13, b13, evS, DL.get, setE, t0, hb, hm, f1, f2]
end Row
namespace Row
open PySem DL
abbrev G9 : Int := 1000000000
structure Hf (t : Int) (p : Nat) : Prop where
  ht : -G40 ≤ t ∧ t ≤ G40
  hp : p ≤ 120
  ho : p = 0 ∨ t % 2 = 1
structure Hs (m : Nat) (t : Int) (p : Nat) : Prop where
  ht : -G9 ≤ t ∧ t ≤ G9
  hp : p ≤ m
  ho : p = 0 ∨ t % 2 = 1
theorem Hs.f {m : Nat} {t : Int} {p : Nat} (h : Hs m t p) (hm : m ≤ 120) : Hf t p := ⟨by have := h.ht; unfold G9 at this; unfold G40; omega, Nat.le_trans h.hp hm, h.ho⟩
abbrev hd (t : Int) (p : Nat) : D := .tup [.int t, .int (pw p)]
def halfB : D → Bool
  | .tup [a, b] => match a, b with
    | .int p, .int q => decide (-G40 ≤ p ∧ p ≤ G40) && (decide (1 ≤ q ∧ q ≤ P120) && ((Builtin.bitAnd q (q - 1) == 0) && (q == 1 || p % 2 == 1)))
    | _, _ => false
  | _ => false
theorem split2 (v : D) : (∃ a b, v = .tup [a, b]) ∨ (tupB 2 2 v = false ∧ halfB v = false) := by
  cases v with
  | tup xs =>
    match xs with
    | [a, b] => exact .inl ⟨a, b, rfl⟩
    | [] => exact .inr ⟨rfl, rfl⟩
    | [_] => exact .inr ⟨rfl, rfl⟩
    | _ :: _ :: _ :: xs => exact .inr ⟨by unfold tupB; exact decide_eq_false (by simp; omega), rfl⟩
  | _ => exact .inr ⟨rfl, rfl⟩
theorem half_no1 {a b : D} (h : whB (-G40) G40 a = false) : halfB (.tup [a, b]) = false := by
  unfold halfB
  cases a with
  | int p =>
    cases b with
    | int q =>
      have h : decide (-G40 ≤ p ∧ p ≤ G40) = false := h
      dsimp only
      rw [h]
      rfl
    | _ => rfl
  | _ => rfl
theorem half_no2 {a b : D} (h : whB 1 P120 b = false) : halfB (.tup [a, b]) = false := by
  unfold halfB
  cases a with
  | int p =>
    cases b with
    | int q =>
      have h : decide (1 ≤ q ∧ q ≤ P120) = false := h
      dsimp only
      rw [h]
      simp
    | _ => rfl
  | _ => rfl
theorem is_power (n : Nat) (q : Int) : F (n + 1) 9 [.int q] = M.pure (.bl (Builtin.bitAnd q (q - 1) == 0)) := by
  unfold F
  rw [call_at (d := d9) rfl rfl _ rfl, run_eq]
  have hb : binop .band (.int q) (.int (q - 1)) = M.pure (.int (Builtin.bitAnd q (q - 1))) := rfl
  generalize Builtin.bitAnd q (q - 1) = z at *
  simp -implicitDefEqProofs [d9, b9, evS, DL.get, hb]
theorem is_half (n : Nat) (v : D) (h : dat v = true) (hx : ∀ xs, v = .tup xs → ∀ x ∈ xs, dat x = true) : F (n + 2) 8 [v] = M.pure (.bl (halfB v)) := by
  unfold F
  rw [call_at (d := d8) rfl rfl _ rfl, run_eq]
  have e1 := is_tuple_of n v 2 2 h
  unfold F at e1
  rcases split2 v with ⟨a, b, rfl⟩ | ⟨h1, h2⟩
  case inr =>
    rw [h1] at e1
    rw [h2]
    simp -implicitDefEqProofs [d8, b8, evS, DL.get, res_dat h, e1]
  case inl =>
    have ha := hx _ rfl a (by simp)
    have hb := hx _ rfl b (by simp)
    have e2 := is_whole n a (-G40) G40 ha
    have e3 := is_whole n b 1 P120 hb
    unfold F at e2 e3
    have e4 : tupB 2 2 (.tup [a, b]) = true := rfl
    rw [e4] at e1
    cases q1 : whB (-G40) G40 a with
    | false =>
      rw [q1] at e2
      rw [half_no1 q1]
      simp -implicitDefEqProofs [d8, b8, evS, DL.get, e1, e2, k0, negG]
    | true =>
      rw [q1] at e2
      cases q2 : whB 1 P120 b with
      | false =>
        rw [q2] at e3
        rw [half_no2 q2]
        simp -implicitDefEqProofs [d8, b8, evS, DL.get, e1, e2, e3, k0, k1, negG]
      | true =>
        rw [q2] at e3
        obtain ⟨p, rfl⟩ : ∃ p, a = .int p := by cases a <;> first | exact ⟨_, rfl⟩ | cases q1
        obtain ⟨q, rfl⟩ : ∃ q, b = .int q := by cases b <;> first | exact ⟨_, rfl⟩ | cases q2
        have q1 : decide (-G40 ≤ p ∧ p ≤ G40) = true := q1
        have q2 : decide (1 ≤ q ∧ q ≤ P120) = true := q2
        have e5 := is_power n q
        have e6 : halfB (.tup [.int p, .int q]) = ((Builtin.bitAnd q (q - 1) == 0) && (q == 1 || p % 2 == 1)) := by
          unfold halfB
          dsimp only
          rw [q1, q2]
          rfl
        rw [e6]
        have m2 := mod2 p
        unfold F at e5
        generalize (Builtin.bitAnd q (q - 1) == 0) = c at *
        cases c with
        | false => simp -implicitDefEqProofs [d8, b8, evS, DL.get, e1, e2, e3, k0, k1, negG, e5]
        | true =>
          cases c1 : (q == 1) with
          | true => simp -implicitDefEqProofs [d8, b8, evS, DL.get, e1, e2, e3, k0, k1, negG, e5, c1]
          | false => simp -implicitDefEqProofs [d8, b8, evS, DL.get, e1, e2, e3, k0, k1, negG, e5, c1, m2]
theorem pw120 : pw 120 = P120 := by rw [pw_def]; decide +kernel
theorem Hf.b {t : Int} {p : Nat} (h : Hf t p) : halfB (hd t p) = true := by
  have h1 := pw_pos p
  have h2 := pw_le h.hp
  rw [pw120] at h2
  show (decide (-G40 ≤ t ∧ t ≤ G40) && (decide (1 ≤ pw p ∧ pw p ≤ P120) && ((Builtin.bitAnd (pw p) (pw p - 1) == 0) && (pw p == 1 || t % 2 == 1)))) = true
  rw [decide_eq_true h.ht, decide_eq_true ⟨by omega, h2⟩, pw_power]
  rcases h.ho with rfl | ho
  · rw [pw0]; rfl
  · rw [ho]; simp
theorem need_half (n : Nat) (v : D) (h : dat v = true) (hx : ∀ xs, v = .tup xs → ∀ x ∈ xs, dat x = true) : F (n + 3) 7 [v] = if halfB v = true then M.pure .non else throwM 0 := by
  unfold F
  rw [call_at (d := d7) rfl rfl _ rfl, run_eq]
  have e := is_half n v h hx
  unfold F at e
  generalize halfB v = q at *
  cases q <;> simp -implicitDefEqProofs [d7, b7, evS, DL.get, res_dat h, e]
theorem dat2 {p q : Int} : ∀ xs, D.tup [.int p, .int q] = .tup xs → ∀ x ∈ xs, dat x = true := fun xs e x hx => by
  cases e
  simp only [List.mem_cons, List.not_mem_nil, or_false] at hx
  rcases hx with rfl | rfl <;> rfl
theorem need_hf (n : Nat) {t : Int} {p : Nat} (h : Hf t p) : F (n + 3) 7 [hd t p] = M.pure .non := by
  rw [need_half n _ rfl dat2, h.b]
  rfl
/-! ### two halves -/
section
variable {m : Nat} {t u : Int} {p q : Nat}
def sm (t u : Int) (p q : Nat) : Int := t * pw q + u * pw p
theorem pw64 {p : Nat} (h : p ≤ 62) : -(2 ^ 64) < pw p ∧ pw p < 2 ^ 64 := by
  have h1 := pw_pos p
  have h2 := pw_le h
  have h3 : pw 62 = 4611686018427387904 := by rw [pw_def]; rfl
  omega
theorem mulL {a b : Int} (h : a.natAbs < 2 ^ 63) : binop .mul (.int a) (.int b) = M.pure (.int (a * b)) := bin_mulS (by omega)
theorem joined (n : Nat) (ht : t.natAbs < 2 ^ 63) (hu : u.natAbs < 2 ^ 63) (hp : p ≤ 62) (hq : q ≤ 62) : F (n + 2) 12 [hd t p, hd u q] = M.pure (hl (low (sm t u p q) (p + q))) := by
  unfold F
  rw [call_at (d := d12) rfl rfl _ rfl, run_eq]
  have m1 := mulL (a := t) (b := pw q) ht
  have m2 := mulL (a := u) (b := pw p) hu
  have m3 : binop .mul (.int (pw p)) (.int (pw q)) = M.pure (.int (pw (p + q))) := by rw [bin_mulS (pw64 hp), pw_add]
  have e := lowered n (sm t u p q) (p := p + q) (by omega)
  unfold sm at *
  unfold F at e
  simp -implicitDefEqProofs [d12, b12, evS, DL.get, m1, m2, m3, e]
def sgn (t u : Int) (p q : Nat) : Int := if u * pw p < t * pw q then 1 else if t * pw q < u * pw p then -1 else 0
theorem sign_ (n : Nat) (ht : t.natAbs < 2 ^ 63) (hu : u.natAbs < 2 ^ 63) : F (n + 1) 15 [hd t p, hd u q] = M.pure (.int (sgn t u p q)) := by
  unfold F
  rw [call_at (d := d15) rfl rfl _ rfl, run_eq]
  have m1 := mulL (a := t) (b := pw q) ht
  have m2 := mulL (a := u) (b := pw p) hu
  have n1 : negop (.int 1) = M.pure (.int (-1)) := rfl
  unfold sgn
  obtain ⟨g, hg⟩ : ∃ g, g = t * pw q - u * pw p := ⟨_, rfl⟩
  have hs : binop .sub (.int (t * pw q)) (.int (u * pw p)) = M.pure (.int g) := by rw [hg]; rfl
  generalize t * pw q = a at *
  generalize u * pw p = b at *
  by_cases c : b < a
  · have c1 : decide (0 < g) = true := decide_eq_true (by omega)
    rw [if_pos c]
    simp -implicitDefEqProofs [-bin_sub', -decide_eq_true_eq, d15, b15, evS, DL.get, setE, m1, m2, hs, n1, c1]
  · have c1 : decide (0 < g) = false := decide_eq_false (by omega)
    rw [if_neg c]
    by_cases c2 : a < b
    · have c3 : decide (g < 0) = true := decide_eq_true (by omega)
      rw [if_pos c2]
      simp -implicitDefEqProofs [-bin_sub', -decide_eq_true_eq, -decide_eq_false_iff_not, d15, b15, evS, DL.get, setE, m1, m2, hs, n1, c1, c3]
    · have c3 : decide (g < 0) = false := decide_eq_false (by omega)
      rw [if_neg c2]
      simp -implicitDefEqProofs [-bin_sub', -decide_eq_true_eq, -decide_eq_false_iff_not, d15, b15, evS, DL.get, setE, m1, m2, hs, n1, c1, c3]
variable (h : Hf t p) (h2 : Hf u q)
include h h2
theorem half_sum (n : Nat) (ht : t.natAbs < 2 ^ 63) (hu : u.natAbs < 2 ^ 63) (hp : p ≤ 62) (hq : q ≤ 62) : F (n + 4) 6 [hd t p, hd u q] = M.pure (hl (low (sm t u p q) (p + q))) := by
  unfold F
  rw [call_at (d := d6) rfl rfl _ rfl, run_eq]
  have e1 := need_hf n h
  have e2 := need_hf n h2
  have e3 := joined (n + 1) ht hu hp hq
  generalize hl (low (sm t u p q) (p + q)) = R at *
  unfold F at e1 e2 e3
  simp -implicitDefEqProofs [d6, b6, evS, DL.get, e1, e2, e3]
theorem midst_ (n : Nat) (ht : t.natAbs < 2 ^ 63) (hu : u.natAbs < 2 ^ 63) (hp : p ≤ 62) (hq : q ≤ 62) : F (n + 4) 16 [hd t p, hd u q] = M.pure (hl (low (sm t u p q) (p + q + 1))) := by
  unfold F
  rw [call_at (d := d16) rfl rfl _ rfl, run_eq]
  have e1 := need_hf n h
  have e2 := need_hf n h2
  have e3 := joined (n + 1) ht hu hp hq
  have e0 := (low_spec (p + q) (sm t u p q)).1
  have e4 := lowered (n + 2) (low (sm t u p q) (p + q)).1 (p := (low (sm t u p q) (p + q)).2 + 1) (by omega)
  rw [← low_next, pw_succ] at e4
  have m2 : binop .mul (.int (pw (low (sm t u p q) (p + q)).2)) (.int 2) = M.pure (.int (pw (low (sm t u p q) (p + q)).2 * 2)) := bin_mulR (by decide)
  generalize hl (low (sm t u p q) (p + q + 1)) = R at *
  unfold hl at *
  generalize pw (low (sm t u p q) (p + q)).2 = b at *
  generalize (low (sm t u p q) (p + q)).1 = a at *
  unfold F at e1 e2 e3 e4
  simp -implicitDefEqProofs [d16, b16, evS, DL.get, setE, e1, e2, e3, m2, e4]
theorem compared (n : Nat) (ht : t.natAbs < 2 ^ 63) (hu : u.natAbs < 2 ^ 63) : F (n + 4) 14 [hd t p, hd u q] = M.pure (.int (sgn t u p q)) := by
  unfold F
  rw [call_at (d := d14) rfl rfl _ rfl, run_eq]
  have e1 := need_hf n h
  have e2 := need_hf n h2
  have e3 := sign_ (p := p) (q := q) (n + 2) ht hu
  unfold F at e1 e2 e3
  simp -implicitDefEqProofs [d14, b14, evS, DL.get, e1, e2, e3]
omit h2
theorem turned (n : Nat) : F (n + 4) 23 [hd t p] = M.pure (hd (-t) p) := by
  unfold F
  rw [call_at (d := d23) rfl rfl _ rfl, run_eq]
  have e1 := need_hf n h
  have hn : negop (.int t) = M.pure (.int (-t)) := rfl
  unfold F at e1
  simp -implicitDefEqProofs [d23, b23, evS, DL.get, e1, hn]
end
theorem half_of (n : Nat) {t : Int} {k : Nat} (ht : -G40 ≤ t ∧ t ≤ G40) (hk : k ≤ 120) : F (n + 3) 18 [.int t, .int (k : Nat)] = M.pure (hl (low t k)) := by
  unfold F
  rw [call_at (d := d18) rfl rfl _ rfl, run_eq]
  have e1 := need_whole n (.int t) (-G40) G40 rfl
  have e2 := need_whole n (.int (k : Nat)) 0 120 rfl
  have w1 : whB (-G40) G40 (.int t) = true := decide_eq_true ht
  have w2 : whB 0 120 (.int (k : Nat)) = true := decide_eq_true (by omega)
  rw [w1, if_pos rfl] at e1
  rw [w2, if_pos rfl] at e2
  have e3 := lowered (n + 1) t (p := k) (by omega)
  have s := shl1 (p := k) (by omega)
  generalize hl (low t k) = R at *
  unfold F at *
  simp -implicitDefEqProofs [d18, b18, evS, DL.get, k0, negG, e1, e2, s, e3]
end Row
namespace Row
open PySem DL
def lc22 : Ez := (.lc (.nm 6) (.range1 (.int 240)) (.cmp .gt (.var 4) (.bin .shl (.int 1) (.var 6))) (.int 1))
def v22 (s : Sz) : Sz := (.cons (.set 5 (.bf .len (.cons lc22 .nil))) s)
theorem eb22 : d22.body = .cons (.tset (.cons (.nm 2) (.cons (.nm 3) (.cons (.nm 4) .nil))) (.tup (.cons (.bin .mul (.idx (.var 0) (.int 0)) (.idx (.var 1) (.int 1))) (.cons (.bin .mul (.idx (.var 1) (.int 0)) (.idx (.var 0) (.int 1))) (.cons (.bin .mul (.idx (.var 0) (.int 1)) (.idx (.var 1) (.int 1))) .nil))))) (v22 (.cons (.set 7 (.ife (.cmp .gt (.var 2) (.var 3)) (.int 1) (.ife (.cmp .lt (.var 2) (.var 3)) (.neg (.int 1)) (.int 0)))) (.cons (.set 8 (.lst (.cons (.call 6 (.cons (.var 0) (.cons (.var 1) .nil))) (.cons (.call 16 (.cons (.var 0) (.cons (.var 1) .nil))) (.cons (.call 14 (.cons (.var 0) (.cons (.var 1) .nil))) (.cons (.call 23 (.cons (.var 0) .nil)) (.cons (.call 8 (.cons (.var 0) .nil)) .nil))))))) (.cons (.set 9 (.lst (.cons (.call 3 (.cons (.bin .add (.var 2) (.var 3)) (.cons (.var 5) .nil))) (.cons (.call 3 (.cons (.bin .add (.var 2) (.var 3)) (.cons (.bin .add (.var 5) (.int 1)) .nil))) (.cons (.var 7) (.cons (.tup (.cons (.neg (.idx (.var 0) (.int 0))) (.cons (.idx (.var 0) (.int 1)) .nil))) (.cons (.bl true) .nil))))))) (.cons (.ret (.call 20 (.cons (.var 8) (.cons (.var 9) .nil)))) .nil))))) := rfl
theorem count_lt (k : Nat) (x : D) : ∀ N : Nat, ((List.range N).filterMap fun i => if i < k then some x else none).length = min N k
  | 0 => by simp
  | N + 1 => by
    rw [List.range_succ, List.filterMap_append, List.length_append, count_lt k x N]
    by_cases c : N < k
    · simp [c]; omega
    · simp [c]; omega
theorem pl5 {a b c d e : D} (h1 : PL 3 a) (h2 : PL 3 b) (h3 : PL 3 c) (h4 : PL 3 d) (h5 : PL 3 e) : PL 4 (.lst [a, b, c, d, e]) := ⟨by show 5 ≤ 8000; omega, fun x hx => by
    simp only [List.mem_cons, List.not_mem_nil, or_false] at hx
    rcases hx with rfl | rfl | rfl | rfl | rfl <;> assumption⟩
theorem plh (k : Nat) (x : Int × Nat) : PL (k + 2) (hl x) := ⟨by show 2 ≤ 8000; omega, fun x hx => by
    simp only [List.mem_cons, List.not_mem_nil, or_false] at hx
    rcases hx with rfl | rfl <;> exact trivial⟩
theorem l5 (a b c d e : D) : lenOk [a, b, c, d, e] = M.pure [a, b, c, d, e] := lenOk_le (by show 5 ≤ 8000; omega)
theorem pair_right (n : Nat) {m : Nat} (hm : m ≤ 60) {t u : Int} {p q : Nat} (h : Hs m t p) (h2 : Hs m u q) : F (n + 6) 22 [hd t p, hd u q] = M.pure (.bl true) := by
  unfold F
  rw [call_at (d := d22) rfl rfl _ rfl, run_eq, eb22]
  have hN : d22.N.length = 10 := rfl
  rw [hN]
  have bt : t.natAbs < 2 ^ 63 := by have := h.ht; unfold G9 at this; omega
  have bu : u.natAbs < 2 ^ 63 := by have := h2.ht; unfold G9 at this; omega
  have bp : p ≤ 62 := by have := h.hp; omega
  have bq : q ≤ 62 := by have := h2.hp; omega
  have hf := h.f (by omega)
  have hf2 := h2.f (by omega)
  have m1 := mulL (a := t) (b := pw q) bt
  have m2 := mulL (a := u) (b := pw p) bu
  have m3 : binop .mul (.int (pw p)) (.int (pw q)) = M.pure (.int (pw (p + q))) := by rw [bin_mulS (pw64 bp), pw_add]
  have a1 := half_sum hf hf2 (n + 1) bt bu bp bq
  have a2 := midst_ hf hf2 (n + 1) bt bu bp bq
  have a3 := compared hf hf2 (n + 1) bt bu
  have a4 := turned hf (n + 1)
  have a5 := is_half (n + 3) (hd t p) rfl dat2
  rw [hf.b] at a5
  have b1 := lowest (n + 4) (sm t u p q) (p := p + q) (by omega)
  have b2 := lowest (n + 4) (sm t u p q) (p := p + q + 1) (by omega)
  have hr : rng1 (.int 240) = M.pure ((List.range 240).map fun (i : Nat) => D.int (i : Int)) := by
    rw [rng1_ok (by omega)]
    rfl
  have hlen : lenOk ((List.range 240).map fun (i : Nat) => D.int (i : Int)) = M.pure ((List.range 240).map fun (i : Nat) => D.int (i : Int)) := lenOk_le (by simp)
  obtain ⟨os, hos, hlc⟩ : ∃ os : List D, os.length = p + q ∧ ∀ w2 w3 : Option D, lcGo ((List.range 240).map fun (i : Nat) => D.int (i : Int)) (lcTurn (.nm 6) (ev (F (n + 5)) (kcOf ks) (.cmp .gt (.var 4) (.bin .shl (.int 1) (.var 6)))).t (ev (F (n + 5)) (kcOf ks) (.int 1)).e [some (hd t p), some (hd u q), w2, w3, some (.int (pw (p + q))), none, none, none, none, none]) = M.pure os := by
    refine ⟨(List.range 240).filterMap fun i => if i < p + q then some (.int 1) else none, by rw [count_lt]; omega, fun w2 w3 => ?_⟩
    rw [lcGo_map (g := fun d => match d with
      | .int i => if i.toNat < p + q then some (.int 1) else none
      | _ => none) _ fun d hd' => by
      obtain ⟨i, hi, rfl⟩ := mem_rng hd'
      have s := shl1 (p := i) (by omega)
      have e : decide (pw i < pw (p + q)) = decide (i < p + q) := decide_eq_decide.mpr pw_lt
      unfold F
      by_cases c : i < p + q
      · rw [decide_eq_true c] at e
        simp -implicitDefEqProofs [-decide_eq_true_eq, lcTurn, wipeE, Tz.slots, bindT, DL.get, s, e, c]
      · rw [decide_eq_false c] at e
        simp -implicitDefEqProofs [-decide_eq_true_eq, -decide_eq_false_iff_not, lcTurn, wipeE, Tz.slots, bindT, DL.get, s, e, c]]
    congr 1
  have sg : ∀ {C K} {ρ : DL.Env}, DL.get ρ 2 = M.pure (.int (t * pw q)) → DL.get ρ 3 = M.pure (.int (u * pw p)) → (ev C K (.ife (.cmp .gt (.var 2) (.var 3)) (.int 1) (.ife (.cmp .lt (.var 2) (.var 3)) (.neg (.int 1)) (.int 0)))).e ρ = M.pure (.int (sgn t u p q)) := fun {C K ρ} g1 g2 => by
    have n1 : negop (.int 1) = M.pure (.int (-1)) := rfl
    unfold sgn
    generalize t * pw q = a at *
    generalize u * pw p = b at *
    by_cases c : b < a
    · simp -implicitDefEqProofs [g1, g2, n1, c]
    · by_cases c2 : a < b
      · simp -implicitDefEqProofs [g1, g2, n1, c, c2]
      · simp -implicitDefEqProofs [g1, g2, n1, c, c2]
  have L := like_at (Kc := kcOf ks) lk 4 n (pl5 (a := hl (low (sm t u p q) (p + q))) (b := hl (low (sm t u p q) (p + q + 1))) (c := .int (sgn t u p q)) (d := hd (-t) p) (e := .bl true) (plh 1 _) (plh 1 _) trivial (plh 1 (-t, p)) trivial)
  have hn : negop (.int t) = M.pure (.int (-t)) := rfl
  have ea : binop .add (.int (t * pw q)) (.int (u * pw p)) = M.pure (.int (sm t u p q)) := rfl
  have rl : ∀ x, res (hl x) = M.pure (hl x) := fun _ => rfl
  have e1 : ∀ k : Nat, binop .add (.int (k : Int)) (.int 1) = M.pure (.int ((k : Int) + 1)) := fun _ => rfl
  have l5' := l5
  generalize ((List.range 240).map fun (i : Nat) => D.int (i : Int)) = ds at *
  generalize hl (low (sm t u p q) (p + q)) = R1 at *
  generalize hl (low (sm t u p q) (p + q + 1)) = R2 at *
  generalize sgn t u p q = S at *
  generalize sm t u p q = Z at *
  generalize t * pw q = A at *
  generalize u * pw p = B at *
  generalize hk1 : p + q = k at *
  generalize pw k = PK at *
  have b2 : F (n + 5) 3 [.int Z, .int ((k : Int) + 1)] = M.pure R2 := b2
  unfold F at *
  unfold v22 lc22
  generalize hE : (Ez.ife (.cmp .gt (.var 2) (.var 3)) (.int 1) (.ife (.cmp .lt (.var 2) (.var 3)) (.neg (.int 1)) (.int 0))) = EE at *
  simp -implicitDefEqProofs [-bin_add', evS, DL.get, setE, bindT, bindTs, m1, m2, m3, hr, hlen, hlc, hos]
  rw [sg rfl rfl]
  simp -implicitDefEqProofs [-bin_add', evS, DL.get, setE, a1, a2, a3, a4, a5, l5', ea, e1, b1, b2, hn]
  rw [L]
  simp -implicitDefEqProofs
end Row
namespace Row
open PySem DL
def Lo (t : Int) (p s : Nat) : Int := t * pw s / pw p + 1
def Hi (u : Int) (q s : Nat) : Int := -(-u * pw s / pw q) - 1
def tp (L H : Int) : Int := if 0 < L then L else if H < 0 then H else 0
def wb17 : Sz := (.cons (.par [3, 4] (.tup (.cons (.bin .add (.bin .fdiv (.bin .mul (.idx (.var 0) (.int 0)) (.var 2)) (.idx (.var 0) (.int 1))) (.int 1)) (.cons (.bin .sub (.neg (.bin .fdiv (.bin .mul (.neg (.idx (.var 1) (.int 0))) (.var 2)) (.idx (.var 1) (.int 1)))) (.int 1)) .nil)))) (.cons (.ite (.cmp .le (.var 3) (.var 4)) (.cons (.set 5 (.ife (.cmp .gt (.var 3) (.int 0)) (.var 3) (.ife (.cmp .lt (.var 4) (.int 0)) (.var 4) (.int 0)))) (.cons (.ret (.call 13 (.cons (.var 5) (.cons (.var 2) .nil)))) .nil)) .nil) (.cons (.set 2 (.bin .mul (.var 2) (.int 2))) .nil)))
theorem eb17 : d17.body = (.cons (.expr (.call 7 (.cons (.var 0) .nil))) (.cons (.expr (.call 7 (.cons (.var 1) .nil))) (.cons (.ite (.cmp .ge (.call 15 (.cons (.var 0) (.cons (.var 1) .nil))) (.int 0)) (.cons (.raise 0) .nil) .nil) (.cons (.set 2 (.int 1)) (.cons (.while 130 (.bl true) wb17) .nil))))) := rfl
section
variable {t u : Int} {p q : Nat} (ht : t.natAbs < 2 ^ 63) (hu : u.natAbs < 2 ^ 63) (hp : p ≤ 120) (hq : q ≤ 120)
include ht hu hp hq
theorem wturn (n : Nat) {s : Nat} (hs : s ≤ 1000) (x y : Option D) : evS (F (n + 1)) (kcOf ks) wb17 [some (hd t p), some (hd u q), some (.int (pw s)), x, y, none] =
    if Lo t p s ≤ Hi u q s then M.pure (.rt (hl (low (tp (Lo t p s) (Hi u q s)) s))) else M.pure (.nx [some (hd t p), some (hd u q), some (.int (pw (s + 1))), some (.int (Lo t p s)), some (.int (Hi u q s)), none]) := by
  have m1 := mulL (a := t) (b := pw s) ht
  have m2 := mulL (a := -u) (b := pw s) (by omega)
  have f1 := fdivP (i := t * pw s) (p := p) (by omega)
  have f2 := fdivP (i := -u * pw s) (p := q) (by omega)
  have n1 : negop (.int u) = M.pure (.int (-u)) := rfl
  have n2 : negop (.int (-u * pw s / pw q)) = M.pure (.int (-(-u * pw s / pw q))) := rfl
  have a1 : binop .add (.int (t * pw s / pw p)) (.int 1) = M.pure (.int (Lo t p s)) := rfl
  have a2 : binop .sub (.int (-(-u * pw s / pw q))) (.int 1) = M.pure (.int (Hi u q s)) := rfl
  have m3 : binop .mul (.int (pw s)) (.int 2) = M.pure (.int (pw (s + 1))) := by rw [bin_mulR (by decide), pw_succ]
  have lw := lowered n (tp (Lo t p s) (Hi u q s)) (p := s) hs
  unfold tp at *
  generalize Lo t p s = L at *
  generalize Hi u q s = H at *
  generalize t * pw s = ts at *
  generalize -u * pw s = us at *
  generalize ts / pw p = tq at *
  generalize us / pw q = uq at *
  generalize -uq = nuq at *
  generalize -u = nu at *
  generalize pw (s + 1) = b2 at *
  generalize pw s = b1 at *
  unfold F at *
  by_cases c : L ≤ H
  · rw [if_pos c]
    by_cases c1 : 0 < L
    · rw [if_pos c1] at lw ⊢
      simp -implicitDefEqProofs [-bin_add', -bin_sub', wb17, evS, DL.get, setE, m1, m2, f1, f2, n1, n2, a1, a2, setPar, setAll, c, c1, lw]
    · rw [if_neg c1] at lw ⊢
      by_cases c2 : H < 0
      · rw [if_pos c2] at lw ⊢
        simp -implicitDefEqProofs [-bin_add', -bin_sub', wb17, evS, DL.get, setE, m1, m2, f1, f2, n1, n2, a1, a2, setPar, setAll, c, c1, c2, lw]
      · rw [if_neg c2] at lw ⊢
        simp -implicitDefEqProofs [-bin_add', -bin_sub', wb17, evS, DL.get, setE, m1, m2, f1, f2, n1, n2, a1, a2, setPar, setAll, c, c1, c2, lw]
  · rw [if_neg c]
    simp -implicitDefEqProofs [-bin_add', -bin_sub', wb17, evS, DL.get, setE, m1, m2, f1, f2, n1, n2, a1, a2, setPar, setAll, c, m3]
theorem wloop (n : Nat) {cd : DL.Env → M Bool} (hcd : ∀ ρ, cd ρ = M.pure true) : ∀ (k fuel s : Nat) (x y : Option D), (∀ i, s ≤ i → i < s + k → ¬ Lo t p i ≤ Hi u q i) → Lo t p (s + k) ≤ Hi u q (s + k) → k < fuel → s + k ≤ 1000 →
    whileGo cd (evS (F (n + 1)) (kcOf ks) wb17) fuel [some (hd t p), some (hd u q), some (.int (pw s)), x, y, none] = M.pure (.rt (hl (low (tp (Lo t p (s + k)) (Hi u q (s + k))) (s + k))))
  | k, 0, s, x, y, _, _, h, _ => by omega
  | 0, fuel + 1, s, x, y, _, h2, _, h4 => by
    rw [Nat.add_zero] at h2 h4 ⊢
    show M.bind (cd _) _ = _
    rw [hcd, pb, if_pos rfl, wturn ht hu hp hq n h4, if_pos h2]
    rfl
  | k + 1, fuel + 1, s, x, y, h1, h2, h3, h4 => by
    show M.bind (cd _) _ = _
    rw [hcd, pb, if_pos rfl, wturn ht hu hp hq n (by omega), if_neg (h1 s (Nat.le_refl _) (by omega)), pb]
    have ih := wloop n hcd k fuel (s + 1) (some (.int (Lo t p s))) (some (.int (Hi u q s))) (fun i h5 h6 => h1 i (by omega) (by omega)) (by rw [show s + 1 + k = s + (k + 1) from by omega]; exact h2) (by omega) (by omega)
    rw [show s + 1 + k = s + (k + 1) from by omega] at ih
    exact ih
theorem simplest (n : Nat) (h : Hf t p) (h2 : Hf u q) (hlt : t * pw q < u * pw p) {k : Nat} (hk : k < 130) (hno : ∀ i, i < k → ¬ Lo t p i ≤ Hi u q i) (hyes : Lo t p k ≤ Hi u q k) : F (n + 4) 17 [hd t p, hd u q] = M.pure (hl (low (tp (Lo t p k) (Hi u q k)) k)) := by
  unfold F
  rw [call_at (d := d17) rfl rfl _ rfl, run_eq, eb17]
  have hN : d17.N.length = 6 := rfl
  rw [hN]
  have e1 := need_hf n h
  have e2 := need_hf n h2
  have e3 := sign_ (p := p) (q := q) (n + 2) ht hu
  have hs : sgn t u p q = -1 := by
    unfold sgn
    rw [if_neg (by omega), if_pos hlt]
  rw [hs] at e3
  have w := wloop ht hu hp hq (n + 2) (cd := (ev (F (n + 3)) (kcOf ks) (.bl true)).t) (fun ρ => by rfl) k 130 0 none none (fun i _ h6 => hno i (by omega)) (by rw [Nat.zero_add]; exact hyes) hk (by omega)
  rw [Nat.zero_add, pw0] at w
  generalize hl (low (tp (Lo t p k) (Hi u q k)) k) = R at *
  generalize wb17 = B at *
  unfold F at e1 e2 e3 w
  simp -implicitDefEqProofs [-ev_bl_t, evS, DL.get, setE, e1, e2, e3]
  rw [w]
  simp -implicitDefEqProofs
theorem simplest_no (n : Nat) (h : Hf t p) (h2 : Hf u q) (hge : u * pw p ≤ t * pw q) : F (n + 4) 17 [hd t p, hd u q] = throwM 0 := by
  unfold F
  rw [call_at (d := d17) rfl rfl _ rfl, run_eq, eb17]
  have hN : d17.N.length = 6 := rfl
  rw [hN]
  have e1 := need_hf n h
  have e2 := need_hf n h2
  have e3 := sign_ (p := p) (q := q) (n + 2) ht hu
  have hs : 0 ≤ sgn t u p q := by
    unfold sgn
    split
    · decide
    · rw [if_neg (by omega)]; decide
  generalize sgn t u p q = S at *
  generalize wb17 = B at *
  unfold F at e1 e2 e3
  simp -implicitDefEqProofs [evS, DL.get, setE, e1, e2, e3, hs]
end
end Row
namespace Row
open PySem DL
/-! ### what lies between, plainly -/
theorem least_of (P : Nat → Prop) [DecidablePred P] : ∀ n, P n → ∃ k, k ≤ n ∧ P k ∧ ∀ i, i < k → ¬ P i := by
  intro n
  induction n using Nat.strongRecOn with
  | ind n ih =>
    intro h
    by_cases c : ∃ i, i < n ∧ P i
    · obtain ⟨i, hi, hp⟩ := c
      obtain ⟨k, h1, h2, h3⟩ := ih i hi hp
      exact ⟨k, by omega, h2, h3⟩
    · exact ⟨n, Nat.le_refl _, h, fun i hi hp => c ⟨i, hi, hp⟩⟩
theorem lo_iff {t x : Int} {p s : Nat} : t * pw s < x * pw p ↔ Lo t p s ≤ x := by
  unfold Lo
  have := Int.ediv_lt_iff_lt_mul (a := t * pw s) (b := x) (pw_pos p)
  omega
theorem hi_iff {u x : Int} {q s : Nat} : x * pw q < u * pw s ↔ x ≤ Hi u q s := by
  unfold Hi
  have := Int.ediv_lt_iff_lt_mul (a := -u * pw s) (b := -x) (pw_pos q)
  rw [Int.neg_mul, Int.neg_mul] at this
  rw [Int.neg_mul]
  omega
theorem hi_near (u : Int) (q s : Nat) : Hi u q s = u * pw s / pw q ∨ Hi u q s = u * pw s / pw q - 1 := by
  have h1 : u * pw s / pw q - 1 ≤ Hi u q s := hi_iff.mp (by
    have := Int.ediv_mul_le (u * pw s) (b := pw q) (by have := pw_pos q; omega)
    have := pw_pos q
    rw [Int.sub_mul]
    omega)
  have h2 : ¬ u * pw s / pw q + 1 ≤ Hi u q s := fun c => by
    have h3 := hi_iff.mpr c
    have := Int.lt_ediv_add_one_mul_self (u * pw s) (pw_pos q)
    omega
  omega
theorem pw_even {k : Nat} (h : 1 ≤ k) : ∃ j, pw k = 2 * j := by
  obtain ⟨i, rfl⟩ := Nat.exists_eq_add_of_le h
  exact ⟨pw i, by rw [pw_add, show pw 1 = 2 from by rw [pw_def]; rfl]⟩
theorem yes7 {t u : Int} {p q : Nat} (hp : p ≤ 6) (hq : q ≤ 6) (h : t * pw q < u * pw p) : Lo t p 7 ≤ Hi u q 7 := by
  have e1 : ∀ (x : Int) (r : Nat), r ≤ 6 → x * pw 7 / pw r = x * pw (7 - r) := fun x r hr => by
    have : pw 7 = pw (7 - r) * pw r := by rw [← pw_add]; congr 1; omega
    rw [this, ← Int.mul_assoc]
    exact Int.mul_ediv_cancel _ (by have := pw_pos r; omega)
  unfold Lo Hi
  rw [e1 t p hp, e1 (-u) q hq]
  obtain ⟨i, hi⟩ := pw_even (k := 7 - p) (by omega)
  obtain ⟨j, hj⟩ := pw_even (k := 7 - q) (by omega)
  have a1 : t * pw (7 - p) * (pw p * pw q) = t * pw q * pw 7 := by
    have : pw 7 = pw (7 - p) * pw p := by rw [← pw_add]; congr 1; omega
    rw [this]
    simp only [Int.mul_assoc, Int.mul_comm, Int.mul_left_comm]
  have a2 : u * pw (7 - q) * (pw p * pw q) = u * pw p * pw 7 := by
    have : pw 7 = pw (7 - q) * pw q := by rw [← pw_add]; congr 1; omega
    rw [this]
    simp only [Int.mul_assoc, Int.mul_comm, Int.mul_left_comm]
  have a3 : t * pw q * pw 7 < u * pw p * pw 7 := Int.mul_lt_mul_of_pos_right h (pw_pos 7)
  rw [← a1, ← a2] at a3
  have a4 := Int.lt_of_mul_lt_mul_right a3 (Int.le_of_lt (Int.mul_pos (pw_pos p) (pw_pos q)))
  rw [Int.neg_mul]
  rw [hi, hj] at *
  have b1 : t * (2 * i) = 2 * (t * i) := Int.mul_left_comm ..
  have b2 : u * (2 * j) = 2 * (u * j) := Int.mul_left_comm ..
  omega
def cand (lv hv : Int) : List Int := [lv, lv + 1, lv + 2, 0, hv, hv - 1, hv - 2]
def near (t u : Int) (p q s : Nat) : List Int := ((cand (t * pw s / pw p) (u * pw s / pw q + 1)).filter fun x => decide (Lo t p s ≤ x)).filter fun x => decide (x ≤ Hi u q s)
def ax (x : Int) : Int := if x < 0 then -x else x
theorem near_none {t u : Int} {p q s : Nat} (h : ¬ Lo t p s ≤ Hi u q s) : near t u p q s = [] := by
  unfold near
  rw [List.filter_filter]
  refine List.filter_eq_nil_iff.mpr fun x _ => ?_
  simp only [Bool.and_eq_true, decide_eq_true_eq]
  omega
theorem near_best {t u : Int} {p q s : Nat} (h : Lo t p s ≤ Hi u q s) : bestOf (fun y a => PySem.W.dataLt y a) ((near t u p q s).map fun x => pD (ax x, x)) = some (pD (ax (tp (Lo t p s) (Hi u q s)), tp (Lo t p s) (Hi u q s))) := by
  have hm : tp (Lo t p s) (Hi u q s) ∈ near t u p q s := by
    unfold near
    refine List.mem_filter.mpr ⟨List.mem_filter.mpr ⟨?_, ?_⟩, ?_⟩
    · have h1 := hi_near u q s
      have h2 : Lo t p s = t * pw s / pw p + 1 := rfl
      unfold tp cand
      simp only [List.mem_cons, List.not_mem_nil, or_false]
      split
      · omega
      · split <;> omega
    · unfold tp
      exact decide_eq_true (by split <;> (try split) <;> omega)
    · unfold tp
      exact decide_eq_true (by split <;> (try split) <;> omega)
  have hall : ∀ x ∈ near t u p q s, Lo t p s ≤ x ∧ x ≤ Hi u q s := fun x hx => by
    unfold near at hx
    obtain ⟨h1, h2⟩ := List.mem_filter.mp hx
    obtain ⟨_, h3⟩ := List.mem_filter.mp h1
    exact ⟨of_decide_eq_true h3, of_decide_eq_true h2⟩
  have e : (near t u p q s).map (fun x => pD (ax x, x)) = ((near t u p q s).map fun x => (ax x, x)).map pD := by rw [List.map_map]; rfl
  rw [e]
  refine best_pairs (List.mem_map.mpr ⟨_, hm, rfl⟩) fun y hy => ?_
  obtain ⟨x, hx, rfl⟩ := List.mem_map.mp hy
  obtain ⟨h1, h2⟩ := hall x hx
  by_cases c : x = tp (Lo t p s) (Hi u q s)
  · exact .inl (by rw [← c])
  · refine .inr (ltP_iff.mpr ?_)
    show ax (tp (Lo t p s) (Hi u q s)) < ax x ∨ (ax (tp (Lo t p s) (Hi u q s)) = ax x ∧ tp (Lo t p s) (Hi u q s) < x)
    generalize Lo t p s = L at *
    generalize Hi u q s = H at *
    unfold tp at *
    unfold ax
    split at c <;> (try split at c) <;> split <;> split <;> omega
/-! ### the judge of what is between -/
def ap24 : Sz := (.cons (.app (.var 3) (.tup (.cons (.bf .abs (.cons (.var 7) .nil)) (.cons (.var 7) .nil)))) .nil)
theorem app_loop {C : Nat → List D → M D} {K : Nat → D} {μ : Mem} (w0 w1 w2 w4 w5 w6 : Option D) : ∀ (xs : List Int) (acc : List D) (x : Option D), acc.length + xs.length ≤ 7000 →
    ∃ y, Rn (μ ++ [.lst acc]) (forGo (.nm 7) (evS C K ap24) (xs.map D.int) [w0, w1, w2, some (.ref μ.length), w4, w5, w6, x]) (.nx [w0, w1, w2, some (.ref μ.length), w4, w5, w6, y]) (μ ++ [.lst (acc ++ xs.map fun x => pD (ax x, x))])
  | [], acc, x, _ => ⟨x, by
    rw [List.map_nil, List.map_nil, List.append_nil]
    exact Rn_pure⟩
  | i :: xs, acc, x, hl => by
    rw [List.length_cons] at hl
    obtain ⟨y, ih⟩ := app_loop (C := C) (K := K) (μ := μ) w0 w1 w2 w4 w5 w6 xs (acc ++ [pD (ax i, i)]) (some (.int i)) (by simp; omega)
    refine ⟨y, ?_⟩
    rw [List.map_cons, List.map_cons]
    rw [show acc ++ (pD (ax i, i) :: xs.map fun x => pD (ax x, x)) = acc ++ [pD (ax i, i)] ++ xs.map fun x => pD (ax x, x) from by simp]
    refine Rn_forCons ?_ ih
    have ab : bfop .abs [.int i] = M.pure (.int (ax i)) := rfl
    simp -implicitDefEqProofs [-bf_abs, ab, bindT, ap24, evS, DL.get]
    refine Rn_bind (Rn_res (o := .lst acc) getM0 (fun _ q => nomatch q)) ?_
    refine Rn_bind (Rn_seqL (xs := acc) getM0) ?_
    have e := Rn_app (μ := μ ++ [.lst acc]) (n := μ.length) (xs := acc) (x := pD (ax i, i)) getM0 (by omega)
    rw [setM0] at e
    exact Rn_bind e Rn_pure
end Row
namespace Row
open PySem DL
def lcA : Ez := (.lc (.nm 7) (.tup (.cons (.var 4) (.cons (.bin .add (.var 4) (.int 1)) (.cons (.bin .add (.var 4) (.int 2)) (.cons (.int 0) (.cons (.var 5) (.cons (.bin .sub (.var 5) (.int 1)) (.cons (.bin .sub (.var 5) (.int 2)) .nil)))))))) (.cmp .lt (.bin .shl (.idx (.var 0) (.int 0)) (.var 2)) (.bin .mul (.var 7) (.idx (.var 0) (.int 1)))) (.var 7))
def lcB : Ez := (.lc (.nm 7) (.var 6) (.cmp .lt (.bin .mul (.var 7) (.idx (.var 1) (.int 1))) (.bin .shl (.idx (.var 1) (.int 0)) (.var 2))) (.var 7))
def ret24 : Sz := (.cons (.ret (.call 20 (.cons (.call 17 (.cons (.var 0) (.cons (.var 1) .nil))) (.cons (.call 3 (.cons (.idx (.bf .minD (.cons (.var 3) .nil)) (.int 1)) (.cons (.var 2) .nil))) .nil)))) .nil)
def par24 : Sz := (.par [4, 5] (.tup (.cons (.bin .fdiv (.bin .mul (.idx (.var 0) (.int 0)) (.bin .shl (.int 1) (.var 2))) (.idx (.var 0) (.int 1))) (.cons (.bin .add (.bin .fdiv (.bin .mul (.idx (.var 1) (.int 0)) (.bin .shl (.int 1) (.var 2))) (.idx (.var 1) (.int 1))) (.int 1)) .nil))))
def lb24 : Sz := (.cons (.set 3 (.mkl (.lst .nil))) (.cons par24 (.cons (.set 6 lcA) (.cons (.set 6 lcB) (.cons (.for (.nm 7) (.var 6) ap24) (.cons (.ite (.cmp .ne (.var 3) (.lst .nil)) ret24 .nil) .nil))))))
def if24 : Sz := (.ite (.cmp .ge (.bin .mul (.idx (.var 0) (.int 0)) (.idx (.var 1) (.int 1))) (.bin .mul (.idx (.var 1) (.int 0)) (.idx (.var 0) (.int 1)))) (.cons (.ret (.cmp .eq (.err 100000 (.call 17 (.cons (.var 0) (.cons (.var 1) .nil)))) (.str "half"))) .nil) .nil)
theorem eb24 : d24.body = (.cons if24 (.cons (.for (.nm 2) (.range1 (.int 14)) lb24) (.cons (.ret (.bl false)) .nil))) := rfl
theorem Rn_cons {C : Nat → List D → M D} {K : Nat → D} {s ss : Sz} {ρ ρ' : DL.Env} {μ μ' μ2 : Mem} {o : Out} (h : Rn μ (evS C K s ρ) (.nx ρ') μ') (h2 : Rn μ' (evS C K ss ρ') o μ2) : Rn μ (evS C K (.cons s ss) ρ) o μ2 := Rn_bind h h2
theorem plain_pairs (xs : List Int) : D.plain 60 (.lst (xs.map fun x => pD (ax x, x))) = true := by
  rw [D.plain]
  refine plains_all fun d hd => ?_
  obtain ⟨x, _, rfl⟩ := List.mem_map.mp hd
  simp [pD, D.plain, D.plains]
theorem ne_live {μ : Mem} {n : Nat} {xs : List D} (hc : μ[n]? = some (.lst xs)) (hp : D.plain 60 (.lst xs) = true) : Rn μ (cmpop .ne (.ref n) (.lst [])) (.bl (!xs.isEmpty)) μ := by
  show Rn μ (M.bind (peek (.ref n)) (fun x => M.bind (peek (.lst [])) fun y => eqvM x y true)) _ μ
  have h1 : Rn μ (peek (.ref n)) (.lst xs) μ := by
    unfold Rn peek
    dsimp only
    rw [hc]
  refine Rn_bind h1 (Rn_bind (show Rn μ (peek (.lst [])) (.lst []) μ from rfl) ?_)
  unfold eqvM
  rw [eqv_plain hp (by simp [D.plain, D.plains]), D.eqP, eqPs_nil]
  exact Rn_pure
theorem lcFil {tg : Tz} {C : Nat → List D → M D} {K : Nat → D} {c e : Ez} {ρ : DL.Env} {P : Int → Bool} (xs : List Int) (h : ∀ x ∈ xs, lcTurn tg (ev C K c).t (ev C K e).e ρ (.int x) = M.pure (if P x = true then some (.int x) else none)) : lcGo (xs.map D.int) (lcTurn tg (ev C K c).t (ev C K e).e ρ) = M.pure ((xs.filter P).map D.int) := by
  rw [lcGo_map (g := fun d => match d with
    | .int x => if P x = true then some (.int x) else none
    | _ => none) (xs.map D.int) fun d hd => by
    obtain ⟨x, hx, rfl⟩ := List.mem_map.mp hd
    exact h x hx]
  congr 1
  clear h
  induction xs with
  | nil => rfl
  | cons x xs ih =>
    rw [List.map_cons, List.filterMap_cons, ih, List.filter_cons]
    cases hP : P x <;> simp [hP]
theorem l7 (a b c d e f g : D) : lenOk [a, b, c, d, e, f, g] = M.pure [a, b, c, d, e, f, g] := lenOk_le (by show 7 ≤ 8000; omega)
section
variable {t u : Int} {p q : Nat} (h : Hs 6 t p) (h2 : Hs 6 u q) (n : Nat) {s : Nat} (hs : s < 14) {μ : Mem}
include h h2 hs
theorem bt_ : t.natAbs < 2 ^ 40 ∧ u.natAbs < 2 ^ 40 := by
  have := h.ht
  have := h2.ht
  unfold G9 at *
  omega
theorem st24b (w3 w4 w5 w6 w7 : Option D) : evS (F (n + 5)) (kcOf ks) par24 [some (hd t p), some (hd u q), some (.int (s : Nat)), w3, w4, w5, w6, w7] = M.pure (.nx [some (hd t p), some (hd u q), some (.int (s : Nat)), w3, some (.int (t * pw s / pw p)), some (.int (u * pw s / pw q + 1)), w6, w7]) := by
  have hb := bt_ h h2 hs
  have m1 := mulL (a := t) (b := pw s) (by omega)
  have m2 := mulL (a := u) (b := pw s) (by omega)
  have s1 := shl1 (p := s) (by omega)
  have f1 := fdivP (i := t * pw s) (p := p) (by have := h.hp; omega)
  have f2 := fdivP (i := u * pw s) (p := q) (by have := h2.hp; omega)
  generalize pw s = ps at *
  generalize t * ps = ts at *
  generalize u * ps = us at *
  generalize ts / pw p = tq at *
  generalize us / pw q = uq at *
  unfold F
  simp -implicitDefEqProofs [par24, evS, DL.get, s1, m1, m2, f1, f2, setPar, setAll]
theorem lcA_ev (w3 w6 w7 : Option D) (lv hv : Int) : (ev (F (n + 5)) (kcOf ks) lcA).e [some (hd t p), some (hd u q), some (.int (s : Nat)), w3, some (.int lv), some (.int hv), w6, w7] = M.pure (.lst (((cand lv hv).filter fun x => decide (Lo t p s ≤ x)).map D.int)) := by
  have hb := bt_ h h2 hs
  have s1 := shlT (t := t) (p := s) (by omega) (by omega)
  have hlc := lcFil (tg := .nm 7) (C := F (n + 5)) (K := kcOf ks) (c := .cmp .lt (.bin .shl (.idx (.var 0) (.int 0)) (.var 2)) (.bin .mul (.var 7) (.idx (.var 0) (.int 1)))) (e := .var 7) (ρ := [some (hd t p), some (hd u q), some (.int (s : Nat)), w3, some (.int lv), some (.int hv), w6, w7]) (P := fun x => decide (Lo t p s ≤ x)) (cand lv hv) (fun x _ => by
    have hp := h.hp
    have m1 : binop .mul (.int x) (.int (pw p)) = M.pure (.int (x * pw p)) := bin_mulR (pw64 (by omega))
    have e : decide (t * pw s < x * pw p) = decide (Lo t p s ≤ x) := decide_eq_decide.mpr lo_iff
    generalize x * pw p = xp at *
    generalize t * pw s = ts at *
    generalize Lo t p s = L at *
    unfold F
    by_cases c : L ≤ x
    · rw [decide_eq_true c] at e
      simp -implicitDefEqProofs [-decide_eq_true_eq, lcTurn, wipeE, Tz.slots, bindT, DL.get, s1, m1, e, c]
    · rw [decide_eq_false c] at e
      simp -implicitDefEqProofs [-decide_eq_true_eq, -decide_eq_false_iff_not, lcTurn, wipeE, Tz.slots, bindT, DL.get, s1, m1, e, c])
  have hc : (cand lv hv).map D.int = [.int lv, .int (lv + 1), .int (lv + 2), .int 0, .int hv, .int (hv - 1), .int (hv - 2)] := rfl
  rw [hc] at hlc
  generalize ((cand lv hv).filter fun x => decide (Lo t p s ≤ x)).map D.int = R at *
  unfold lcA
  unfold F at *
  simp -implicitDefEqProofs [DL.get, l7, hlc]
theorem lcB_ev (w3 w4 w5 w7 : Option D) (xs : List Int) (hx : xs.length ≤ 7000) : (ev (F (n + 5)) (kcOf ks) lcB).e [some (hd t p), some (hd u q), some (.int (s : Nat)), w3, w4, w5, some (.lst (xs.map D.int)), w7] = M.pure (.lst ((xs.filter fun x => decide (x ≤ Hi u q s)).map D.int)) := by
  have hb := bt_ h h2 hs
  have s1 := shlT (t := u) (p := s) (by omega) (by omega)
  have hlc := lcFil (tg := .nm 7) (C := F (n + 5)) (K := kcOf ks) (c := .cmp .lt (.bin .mul (.var 7) (.idx (.var 1) (.int 1))) (.bin .shl (.idx (.var 1) (.int 0)) (.var 2))) (e := .var 7) (ρ := [some (hd t p), some (hd u q), some (.int (s : Nat)), w3, w4, w5, some (.lst (xs.map D.int)), w7]) (P := fun x => decide (x ≤ Hi u q s)) xs (fun x _ => by
    have hq := h2.hp
    have m1 : binop .mul (.int x) (.int (pw q)) = M.pure (.int (x * pw q)) := bin_mulR (pw64 (by omega))
    have e : decide (x * pw q < u * pw s) = decide (x ≤ Hi u q s) := decide_eq_decide.mpr hi_iff
    generalize x * pw q = xp at *
    generalize u * pw s = ts at *
    generalize Hi u q s = L at *
    generalize xs.map D.int = xD
    unfold F
    by_cases c : x ≤ L
    · rw [decide_eq_true c] at e
      simp -implicitDefEqProofs [-decide_eq_true_eq, lcTurn, wipeE, Tz.slots, bindT, DL.get, s1, m1, e, c]
    · rw [decide_eq_false c] at e
      simp -implicitDefEqProofs [-decide_eq_true_eq, -decide_eq_false_iff_not, lcTurn, wipeE, Tz.slots, bindT, DL.get, s1, m1, e, c])
  have hlen : lenOk (xs.map D.int) = M.pure (xs.map D.int) := lenOk_le (by rw [List.length_map]; omega)
  generalize (xs.filter fun x => decide (x ≤ Hi u q s)).map D.int = R at *
  generalize xs.map D.int = xD at *
  unfold lcB
  unfold F at *
  simp -implicitDefEqProofs [DL.get, hlen, hlc]
theorem pre24 (w3 w4 w5 w6 w7 : Option D) (X : Sz) {Pr : Out → Mem → Prop} (hX : ∀ a b c d, ∃ o μ2, Rn (μ ++ [.lst ((near t u p q s).map fun x => pD (ax x, x))]) (evS (F (n + 5)) (kcOf ks) X [some (hd t p), some (hd u q), some (.int (s : Nat)), some (.ref μ.length), a, b, c, d]) o μ2 ∧ Pr o μ2) :
    ∃ o μ2, Rn μ (evS (F (n + 5)) (kcOf ks) (.cons (.set 3 (.mkl (.lst .nil))) (.cons par24 (.cons (.set 6 lcA) (.cons (.set 6 lcB) (.cons (.for (.nm 7) (.var 6) ap24) X))))) [some (hd t p), some (hd u q), some (.int (s : Nat)), w3, w4, w5, w6, w7]) o μ2 ∧ Pr o μ2 := by
  obtain ⟨y, hl⟩ := app_loop (C := F (n + 5)) (K := kcOf ks) (μ := μ) (some (hd t p)) (some (hd u q)) (some (.int (s : Nat))) (some (.int (t * pw s / pw p))) (some (.int (u * pw s / pw q + 1))) (some (.lst ((near t u p q s).map D.int))) (near t u p q s) [] w7 (by
    have : (near t u p q s).length ≤ 7 := by
      unfold near
      exact Nat.le_trans (List.length_filter_le ..) (Nat.le_trans (List.length_filter_le ..) (by show 7 ≤ 7; omega))
    simp; omega)
  rw [List.nil_append] at hl
  obtain ⟨o, μ2, hx, hpr⟩ := hX (some (.int (t * pw s / pw p))) (some (.int (u * pw s / pw q + 1))) (some (.lst ((near t u p q s).map D.int))) y
  refine ⟨o, μ2, ?_, hpr⟩
  refine Rn_cons (ρ' := [some (hd t p), some (hd u q), some (.int (s : Nat)), some (.ref μ.length), w4, w5, w6, w7]) (μ' := μ ++ [.lst []]) ?_ ?_
  · unfold F
    simp -implicitDefEqProofs [evS]
    exact Rn_bind Rn_alloc Rn_pure
  refine Rn_cons (by rw [st24b h h2 n hs]; exact Rn_pure) ?_
  refine Rn_cons (ρ' := [some (hd t p), some (hd u q), some (.int (s : Nat)), some (.ref μ.length), some (.int (t * pw s / pw p)), some (.int (u * pw s / pw q + 1)), some (.lst (((cand (t * pw s / pw p) (u * pw s / pw q + 1)).filter fun x => decide (Lo t p s ≤ x)).map D.int)), w7]) (μ' := μ ++ [.lst []]) (Rn_bind (Rn_at (show At _ _ _ by rw [lcA_ev h h2 n hs]; exact At_pure)) Rn_pure) ?_
  refine Rn_cons (ρ' := [some (hd t p), some (hd u q), some (.int (s : Nat)), some (.ref μ.length), some (.int (t * pw s / pw p)), some (.int (u * pw s / pw q + 1)), some (.lst ((near t u p q s).map D.int)), w7]) (μ' := μ ++ [.lst []]) (Rn_bind (Rn_at (show At _ _ _ by rw [lcB_ev h h2 n hs _ _ _ _ _ (Nat.le_trans (List.length_filter_le ..) (by show 7 ≤ 7000; omega))]; exact At_pure)) Rn_pure) ?_
  exact Rn_cons hl hx
end
end Row
namespace Row
open PySem DL
theorem err0 : errC exs e0 [.int ((0 : Nat) : Int)] = M.pure (.str "half") := by rfl
theorem Rn_forRt {tg : Tz} {b : DL.Env → M Out} {d : D} {ds : List D} {ρ : DL.Env} {μ μ1 : Mem} {v : D} (h : Rn μ (M.bind (M.opt (bindT tg d ρ)) b) (.rt v) μ1) : Rn μ (forGo tg b (d :: ds) ρ) (.rt v) μ1 := by
  show Rn _ (M.bind (M.opt (bindT tg d ρ)) fun ρ' => M.bind (b ρ') _) _ _
  rw [← bb]
  exact Rn_bind h Rn_pure
theorem elb24 : lb24 = (.cons (.set 3 (.mkl (.lst .nil))) (.cons par24 (.cons (.set 6 lcA) (.cons (.set 6 lcB) (.cons (.for (.nm 7) (.var 6) ap24) (.cons (.ite (.cmp .ne (.var 3) (.lst .nil)) ret24 .nil) .nil)))))) := rfl
theorem bind_opt {α β : Type} {a : α} {f : α → M β} : M.bind (M.opt (some a)) f = f a := rfl
section
variable {t u : Int} {p q : Nat} (h : Hs 6 t p) (h2 : Hs 6 u q) (n : Nat) {s : Nat} (hs : s < 14) {μ : Mem}
include h h2 hs
theorem turn_no (hno : ¬ Lo t p s ≤ Hi u q s) (w2 w3 w4 w5 w6 w7 : Option D) : ∃ a b c d e, Rn μ (M.bind (M.opt (bindT (.nm 2) (.int (s : Nat)) [some (hd t p), some (hd u q), w2, w3, w4, w5, w6, w7])) (evS (F (n + 5)) (kcOf ks) lb24))
    (.nx [some (hd t p), some (hd u q), some (.int (s : Nat)), a, b, c, d, e]) (μ ++ [.lst []]) := by
  have hn := near_none (t := t) (u := u) (p := p) (q := q) hno
  obtain ⟨o, μ2, hr, a, b, c, d, e, rfl, rfl⟩ := pre24 h h2 n hs (μ := μ) w3 w4 w5 w6 w7 (.cons (.ite (.cmp .ne (.var 3) (.lst .nil)) ret24 .nil) .nil) (Pr := fun o μ2 => ∃ a b c d e, o = .nx [some (hd t p), some (hd u q), some (.int (s : Nat)), a, b, c, d, e] ∧ μ2 = μ ++ [.lst []]) (fun a b c d => by
    rw [hn]
    refine ⟨.nx [some (hd t p), some (hd u q), some (.int (s : Nat)), some (.ref μ.length), a, b, c, d], μ ++ [.lst []], ?_, _, _, _, _, _, rfl, rfl⟩
    generalize ret24 = R
    unfold F
    rw [List.map_nil]
    simp -implicitDefEqProofs [evS, DL.get]
    refine Rn_bind (Rn_res (o := .lst []) getM0 (fun _ q => nomatch q)) ?_
    refine Rn_bind (ne_live (xs := []) getM0 (by rw [D.plain]; rfl)) ?_
    simp -implicitDefEqProofs
    exact Rn_pure)
  refine ⟨a, b, c, d, e, ?_⟩
  rw [show bindT (.nm 2) (.int (s : Nat)) [some (hd t p), some (hd u q), w2, w3, w4, w5, w6, w7] = some [some (hd t p), some (hd u q), some (.int (s : Nat)), w3, w4, w5, w6, w7] from rfl, bind_opt, elb24]
  exact hr
theorem turn_yes (hy : Lo t p s ≤ Hi u q s) (hno : ∀ i, i < s → ¬ Lo t p i ≤ Hi u q i) (hlt : t * pw q < u * pw p) (w2 w3 w4 w5 w6 w7 : Option D) : ∃ μ2, Rn μ (M.bind (M.opt (bindT (.nm 2) (.int (s : Nat)) [some (hd t p), some (hd u q), w2, w3, w4, w5, w6, w7])) (evS (F (n + 5)) (kcOf ks) lb24)) (.rt (.bl true)) (μ ++ μ2) := by
  have hb := near_best (t := t) (u := u) (p := p) (q := q) hy
  have hpl := plain_pairs (near t u p q s)
  have hne : ((near t u p q s).map fun x => pD (ax x, x)).isEmpty = false := by
    generalize ((near t u p q s).map fun x => pD (ax x, x)) = z at hb
    cases z with
    | nil => cases hb
    | cons _ _ => rfl
  have bt := bt_ h h2 hs
  have hf := h.f (by omega)
  have hf2 := h2.f (by omega)
  have s1 := simplest (p := p) (q := q) (show t.natAbs < 2 ^ 63 by omega) (show u.natAbs < 2 ^ 63 by omega) hf.hp hf2.hp (n + 1) hf hf2 hlt (by omega) hno hy
  have s2 := lowest (n + 4) (tp (Lo t p s) (Hi u q s)) (p := s) (by omega)
  have L := like_at (Kc := kcOf ks) lk 3 (n + 1) (plh 1 (low (tp (Lo t p s) (Hi u q s)) s))
  obtain ⟨o, μ2, hr, rfl, rfl⟩ := pre24 h h2 n hs (μ := μ) w3 w4 w5 w6 w7 (.cons (.ite (.cmp .ne (.var 3) (.lst .nil)) ret24 .nil) .nil) (Pr := fun o μ2 => o = .rt (.bl true) ∧ μ2 = μ ++ [.lst ((near t u p q s).map fun x => pD (ax x, x))]) (fun a b c d => by
    refine ⟨.rt (.bl true), _, ?_, rfl, rfl⟩
    generalize ((near t u p q s).map fun x => pD (ax x, x)) = ps at *
    generalize tp (Lo t p s) (Hi u q s) = T at *
    have pdx : seqA (pD (ax T, T)) = M.pure [.int (ax T), .int T] := rfl
    have pdy : M.opt (L2.atI [D.int (ax T), D.int T] 1) = M.pure (.int T) := rfl
    have rl : res (pD (ax T, T)) = M.pure (pD (ax T, T)) := rfl
    generalize pD (ax T, T) = PT at *
    generalize hl (low T s) = R at *
    have ho : M.opt (bestOf (fun y a => PySem.W.dataLt y a) ps) = M.pure PT := by rw [hb]; rfl
    unfold F at *
    simp -implicitDefEqProofs [evS, DL.get]
    refine Rn_bind (Rn_res (o := .lst ps) getM0 (fun _ q => nomatch q)) ?_
    refine Rn_bind (ne_live (xs := ps) getM0 hpl) ?_
    rw [hne]
    simp -implicitDefEqProofs [ret24, evS, DL.get, s1]
    refine Rn_bind (Rn_res (o := .lst ps) getM0 (fun _ q => nomatch q)) ?_
    refine Rn_bind (Rn_seqA (xs := ps) getM0) ?_
    simp -implicitDefEqProofs [ho, pdx, pdy, s2, L]
    exact Rn_pure)
  refine ⟨[.lst ((near t u p q s).map fun x => pD (ax x, x))], ?_⟩
  rw [show bindT (.nm 2) (.int (s : Nat)) [some (hd t p), some (hd u q), w2, w3, w4, w5, w6, w7] = some [some (hd t p), some (hd u q), some (.int (s : Nat)), w3, w4, w5, w6, w7] from rfl, bind_opt, elb24]
  exact hr
end
def rgs (s len : Nat) : List D := (List.range' s len).map fun (i : Nat) => D.int (i : Int)
theorem bloop {t u : Int} {p q : Nat} (h : Hs 6 t p) (h2 : Hs 6 u q) (n : Nat) (hlt : t * pw q < u * pw p) : ∀ (d s len : Nat) (μ : Mem) (w2 w3 w4 w5 w6 w7 : Option D), s + len = 14 → d < len → (∀ i, i < s + d → ¬ Lo t p i ≤ Hi u q i) → Lo t p (s + d) ≤ Hi u q (s + d) →
    ∃ μ2, Rn μ (forGo (.nm 2) (evS (F (n + 5)) (kcOf ks) lb24) (rgs s len) [some (hd t p), some (hd u q), w2, w3, w4, w5, w6, w7]) (.rt (.bl true)) (μ ++ μ2)
  | d, s, 0, μ, w2, w3, w4, w5, w6, w7, _, hd', _, _ => by omega
  | 0, s, len + 1, μ, w2, w3, w4, w5, w6, w7, hl, _, hno, hy => by
    obtain ⟨μ2, hr⟩ := turn_yes h h2 n (s := s) (by omega) (μ := μ) hy hno hlt w2 w3 w4 w5 w6 w7
    exact ⟨μ2, Rn_forRt hr⟩
  | d + 1, s, len + 1, μ, w2, w3, w4, w5, w6, w7, hl, hd', hno, hy => by
    obtain ⟨a, b, c, d', e, hr⟩ := turn_no h h2 n (s := s) (by omega) (μ := μ) (hno s (by omega)) w2 w3 w4 w5 w6 w7
    obtain ⟨μ2, ih⟩ := bloop h h2 n hlt d (s + 1) len (μ ++ [.lst []]) (some (.int (s : Nat))) a b c d' e (by omega) (by omega) (fun i hi => hno i (by omega)) (by rw [show s + 1 + d = s + (d + 1) from by omega]; exact hy)
    rw [List.append_assoc] at ih
    exact ⟨_, Rn_forCons hr ih⟩
theorem between_right (n : Nat) {t u : Int} {p q : Nat} (h : Hs 6 t p) (h2 : Hs 6 u q) {μ : Mem} (hc : clo μ) : At μ (F (n + 6) 24 [hd t p, hd u q]) (.bl true) := by
  unfold F
  rw [call_at (d := d24) rfl rfl _ rfl]
  have hN : d24.N.length = 8 := rfl
  have hf := h.f (by omega)
  have hf2 := h2.f (by omega)
  have bt := bt_ h h2 (show 0 < 14 by decide)
  have m1 := mulL (a := t) (b := pw q) (by omega)
  have m2 := mulL (a := u) (b := pw p) (by omega)
  by_cases c : t * pw q < u * pw p
  · have hle : ¬ u * pw p ≤ t * pw q := by omega
    obtain ⟨k, hk, hy, hno⟩ := least_of (fun s => Lo t p s ≤ Hi u q s) 7 (yes7 h.hp h2.hp c)
    obtain ⟨μ2, hr⟩ := bloop h h2 n c k 0 14 μ none none none none none none (by omega) (by omega) (fun i hi => hno i (by omega)) (by rw [Nat.zero_add]; exact hy)
    refine At_popN (more := μ2) hc rfl ?_
    rw [run_eq, eb24, hN]
    have hr14 : rng1 (.int 14) = M.pure (rgs 0 14) := by
      rw [rng1_ok (by omega)]
      rfl
    generalize rgs 0 14 = ds at *
    generalize lb24 = B at *
    generalize t * pw q = A at *
    generalize u * pw p = B2 at *
    unfold F at hr
    simp -implicitDefEqProofs [if24, evS, DL.get, m1, m2, hle, hr14]
    exact Rn_bind hr Rn_pure
  · refine At_pop ?_
    have s1 := simplest_no (p := p) (q := q) (show t.natAbs < 2 ^ 63 by omega) (show u.natAbs < 2 ^ 63 by omega) hf.hp hf2.hp (n + 1) hf hf2 (by omega)
    have hle : u * pw p ≤ t * pw q := by omega
    have ce : tabF (kcOf ks) tx (n + 5) 100000 = errC exs e0 := call_err rfl
    have eq : cmpop .eq (.str "half") (.str "half") = M.pure (.bl true) := by rw [eq_plain (by decide +kernel) (by decide +kernel)]; rfl
    rw [run_eq, eb24, hN]
    generalize lb24 = B at *
    generalize t * pw q = A at *
    generalize u * pw p = B2 at *
    unfold F at s1
    simp -implicitDefEqProofs [if24, evS, DL.get, m1, m2, hle, s1, ce]
    refine At_bind (At_err hc err0) ?_
    rw [eq]
    exact At_pure
end Row
namespace Row
open PySem DL
def lbq2 : Sz := (.cons (.set 4 (.call 2 (.cons (.var 1) (.cons (.call 5 (.cons (.var 1) (.cons (.lst (.cons (.int 2) (.cons (.int 20) (.cons (.int 60) .nil)))) .nil))) .nil)))) (.cons (.ite (.bool .Or (.cons (.not (.call 22 (.cons (.var 4) (.cons (.var 2) .nil)))) (.cons (.not (.call 22 (.cons (.var 2) (.cons (.var 4) .nil)))) (.cons (.not (.call 22 (.cons (.var 4) (.cons (.var 4) .nil)))) .nil)))) (.cons (.ret (.bl false)) .nil) .nil) (.cons (.set 2 (.var 4)) (.cons (.par [5, 6] (.tup (.cons (.call 2 (.cons (.var 1) (.cons (.int 6) .nil))) (.cons (.call 2 (.cons (.var 1) (.cons (.int 6) .nil))) .nil)))) (.cons (.ite (.bool .Or (.cons (.not (.call 24 (.cons (.var 5) (.cons (.var 6) .nil)))) (.cons (.not (.call 24 (.cons (.var 6) (.cons (.var 5) .nil)))) (.cons (.not (.call 24 (.cons (.var 5) (.cons (.var 5) .nil)))) .nil)))) (.cons (.ret (.bl false)) .nil) .nil) .nil)))))
def lbq14 : Sz := (.cons (.set 15 (.bin .add (.var 15) (.lst (.cons (.err 100000 (.callv 16 (.cons (.var 14) (.cons (.var 14) .nil)))) .nil)))) (.cons (.set 15 (.bin .add (.var 15) (.lst (.cons (.err 100000 (.callv 16 (.cons (.tup (.cons (.int 0) (.cons (.int 1) .nil))) (.cons (.var 14) .nil)))) .nil)))) .nil))
def lbq17 : Sz := (.cons (.set 15 (.bin .add (.var 15) (.lst (.cons (.err 100000 (.call 18 (.cons (.idx (.var 17) (.int 0)) (.cons (.idx (.var 17) (.int 1)) .nil)))) .nil)))) .nil)
def lcO : Ez := (.lc (.nm 13) (.var 12) .nil (.call 8 (.cons (.var 13) .nil)))
def it17 : Ez := (.tup (.cons (.tup (.cons (.bin .add (.var 7) (.int 1)) (.cons (.int 0) .nil))) (.cons (.tup (.cons (.bin .sub (.neg (.var 7)) (.int 1)) (.cons (.int 0) .nil))) (.cons (.tup (.cons (.bl true) (.cons (.int 0) .nil))) (.cons (.tup (.cons (.int 0) (.cons (.neg (.int 1)) .nil))) (.cons (.tup (.cons (.int 0) (.cons (.int 121) .nil))) (.cons (.tup (.cons (.int 0) (.cons .non .nil))) (.cons (.tup (.cons .non (.cons (.int 0) .nil))) .nil))))))))
def q0 : Sz := (.set 1 (.call 1 (.cons (.var 0) .nil)))
def q1 : Sz := (.set 2 (.call 2 (.cons (.var 1) (.cons (.int 60) .nil))))
def q2 : Sz := (.for (.nm 3) (.range1 (.int 12)) lbq2)
def q3 : Sz := (.par [7, 8, 9] (.tup (.cons (.bin .pow (.int 10) (.int 40)) (.cons (.call 4 (.cons (.var 1) (.cons (.int 120) .nil))) (.cons (.call 4 (.cons (.var 1) (.cons (.int 1000) .nil))) .nil)))))
def q4 : Sz := (.set 10 (.lst (.cons (.call 18 (.cons (.var 7) (.cons (.int 0) .nil))) (.cons (.call 18 (.cons (.int 6) (.cons (.int 2) .nil))) (.cons (.call 18 (.cons (.int 0) (.cons (.int 120) .nil))) (.cons (.call 18 (.cons (.neg (.int 1)) (.cons (.int 120) .nil))) (.cons (.call 18 (.cons (.bin .shl (.int 1) (.var 8)) (.cons (.var 8) .nil))) (.cons (.call 18 (.cons (.bin .shl (.int 3) (.var 8)) (.cons (.var 8) .nil))) .nil))))))))
def q5 : Sz := (.set 11 (.lst (.cons (.tup (.cons (.var 7) (.cons (.int 1) .nil))) (.cons (.tup (.cons (.int 3) (.cons (.int 2) .nil))) (.cons (.tup (.cons (.int 0) (.cons (.int 1) .nil))) (.cons (.tup (.cons (.neg (.int 1)) (.cons (.bin .shl (.int 1) (.int 120)) .nil))) (.cons (.tup (.cons (.int 1) (.cons (.int 1) .nil))) (.cons (.tup (.cons (.int 3) (.cons (.int 1) .nil))) .nil))))))))
def q6 : Sz := (.set 10 (.bin .add (.var 10) (.lst (.cons (.call 17 (.cons (.tup (.cons (.int 0) (.cons (.int 1) .nil))) (.cons (.tup (.cons (.int 1) (.cons (.bin .shl (.int 1) (.var 8)) .nil))) .nil))) (.cons (.call 17 (.cons (.tup (.cons (.var 9) (.cons (.int 1) .nil))) (.cons (.tup (.cons (.bin .add (.var 9) (.int 9)) (.cons (.int 1) .nil))) .nil))) (.cons (.call 17 (.cons (.tup (.cons (.bin .sub (.neg (.var 9)) (.int 9)) (.cons (.int 1) .nil))) (.cons (.tup (.cons (.neg (.var 9)) (.cons (.int 1) .nil))) .nil))) .nil))))))
def q7 : Sz := (.set 11 (.bin .add (.var 11) (.lst (.cons (.tup (.cons (.int 1) (.cons (.bin .shl (.int 2) (.var 8)) .nil))) (.cons (.tup (.cons (.bin .add (.var 9) (.int 1)) (.cons (.int 1) .nil))) (.cons (.tup (.cons (.bin .sub (.neg (.var 9)) (.int 1)) (.cons (.int 1) .nil))) .nil))))))
def q8 : Sz := (.set 10 (.bin .add (.var 10) (.lst (.cons (.call 17 (.cons (.tup (.cons (.int 1) (.cons (.int 4) .nil))) (.cons (.tup (.cons (.int 1) (.cons (.int 1) .nil))) .nil))) (.cons (.call 17 (.cons (.tup (.cons (.int 5) (.cons (.int 4) .nil))) (.cons (.tup (.cons (.int 7) (.cons (.int 4) .nil))) .nil))) (.cons (.call 17 (.cons (.tup (.cons (.neg (.int 3)) (.cons (.int 1) .nil))) (.cons (.tup (.cons (.int 2) (.cons (.int 1) .nil))) .nil))) (.cons (.call 16 (.cons (.tup (.cons (.int 1) (.cons (.int 2) .nil))) (.cons (.tup (.cons (.int 1) (.cons (.int 1) .nil))) .nil))) .nil)))))))
def q9 : Sz := (.ite (.not (.call 20 (.cons (.var 10) (.cons (.bin .add (.var 11) (.lst (.cons (.tup (.cons (.int 1) (.cons (.int 2) .nil))) (.cons (.tup (.cons (.int 3) (.cons (.int 2) .nil))) (.cons (.tup (.cons (.int 0) (.cons (.int 1) .nil))) (.cons (.tup (.cons (.int 3) (.cons (.int 4) .nil))) .nil)))))) .nil)))) (.cons (.ret (.bl false)) .nil) .nil)
def q10 : Sz := (.set 12 (.lst (.cons (.tup (.cons (.int 0) (.cons (.int 1) .nil))) (.cons (.tup (.cons (.int 1) (.cons (.int 2) .nil))) (.cons (.tup (.cons (.neg (.int 3)) (.cons (.int 4) .nil))) (.cons (.tup (.cons (.var 7) (.cons (.int 1) .nil))) (.cons (.tup (.cons (.int 1) (.cons (.bin .shl (.int 1) (.int 120)) .nil))) (.cons (.tup (.cons (.bin .add (.var 7) (.int 1)) (.cons (.int 1) .nil))) (.cons (.tup (.cons (.bin .sub (.neg (.var 7)) (.int 1)) (.cons (.int 1) .nil))) (.cons (.tup (.cons (.int 1) (.cons (.bin .shl (.int 1) (.int 121)) .nil))) (.cons (.tup (.cons (.int 2) (.cons (.int 4) .nil))) (.cons (.tup (.cons (.int 0) (.cons (.int 2) .nil))) (.cons (.tup (.cons (.int 1) (.cons (.int 3) .nil))) (.cons (.tup (.cons (.int 1) (.cons (.int 0) .nil))) .nil))))))))))))))
def q11 : Sz := (.set 12 (.bin .add (.var 12) (.lst (.cons (.tup (.cons (.int 1) (.cons (.neg (.int 2)) .nil))) (.cons (.lst (.cons (.int 1) (.cons (.int 2) .nil))) (.cons (.tup (.cons (.int 1) .nil)) (.cons (.tup (.cons (.int 1) (.cons (.int 2) (.cons (.int 4) .nil)))) (.cons (.tup (.cons (.bl true) (.cons (.int 2) .nil))) (.cons (.tup (.cons (.int 1) (.cons (.bl true) .nil))) (.cons .non (.cons (.int 1) (.cons (.str "1/2") (.cons (.tup (.cons (.tup (.cons (.int 1) .nil)) (.cons (.int 2) .nil))) .nil)))))))))))))
def q12 : Sz := (.ite (.not (.call 20 (.cons lcO (.cons (.bin .add (.bin .mul (.lst (.cons (.bl true) .nil)) (.int 5)) (.bin .mul (.lst (.cons (.bl false) .nil)) (.int 17))) .nil)))) (.cons (.ret (.bl false)) .nil) .nil)
def q13 : Sz := (.tset (.cons (.nm 14) (.cons (.nm 15) .nil)) (.tup (.cons (.call 5 (.cons (.var 1) (.cons (.slc (.var 12) (.int 5) .nil) .nil))) (.cons (.lst .nil) .nil))))
def q14 : Sz := (.for (.nm 16) (.tup (.cons (.gfn 6) (.cons (.gfn 14) (.cons (.gfn 16) (.cons (.gfn 17) .nil))))) lbq14)
def q15 : Sz := (.set 15 (.bin .add (.var 15) (.lst (.cons (.err 100000 (.call 23 (.cons (.var 14) .nil))) .nil))))
def q16 : Sz := (.set 15 (.bin .add (.var 15) (.lst (.cons (.err 100000 (.call 17 (.cons (.tup (.cons (.int 1) (.cons (.int 2) .nil))) (.cons (.tup (.cons (.int 1) (.cons (.int 2) .nil))) .nil)))) .nil))))
def q17 : Sz := (.for (.nm 17) it17 lbq17)
def q18 : Sz := (.ret (.cmp .eq (.var 15) (.bin .add (.bin .mul (.lst (.cons (.str "half") .nil)) (.int 10)) (.bin .mul (.lst (.cons (.str "number") .nil)) (.int 7)))))
theorem ebq : d0.body = (.cons q0 (.cons q1 (.cons q2 (.cons q3 (.cons q4 (.cons q5 (.cons q6 (.cons q7 (.cons q8 (.cons q9 (.cons q10 (.cons q11 (.cons q12 (.cons q13 (.cons q14 (.cons q15 (.cons q16 (.cons q17 (.cons q18 .nil))))))))))))))))))) := rfl
theorem some_ (n : Nat) {μ : Mem} {is : List Int} {Q : D → Mem → Prop} (hc : μ[0]? = some .cup) (hcl : clo μ) (hl : 0 < is.length ∧ is.length ≤ 1000) (hQ : ∀ i ∈ is, Q (.int i) μ) : wp (F (n + 2) 5 [.ref 0, .lst (is.map D.int)]) μ Q := by
  unfold F
  rw [call_at (d := d5) rfl rfl _ rfl]
  refine wp_pop' hcl (wp_mono (Q := fun a μ' => (∃ i ∈ is, a = .int i) ∧ μ' = μ) ?_ fun a μ' h => by
    obtain ⟨⟨i, hi, rfl⟩, rfl⟩ := h
    exact ⟨rfl, ⟨[], by simp⟩, hQ i hi⟩)
  rw [run_eq]
  have rl : tabF (kcOf ks) tx (n + 1) 4 = primRoll := call_roll rfl (by decide)
  simp -implicitDefEqProofs [d5, b5, evS, DL.get, rl]
  refine wp_bind (wp_res hc (fun _ q => nomatch q) (wp_bind (wp_roll hc (by omega) fun r hr => ?_)))
  have hr' : r < is.length := by omega
  have e : L2.atI (is.map D.int) (r : Int) = some (.int is[r]) := by
    refine L2.atI_nat ?_
    rw [List.getElem?_map, List.getElem?_eq_getElem hr']
    rfl
  simp -implicitDefEqProofs [e]
  exact wp_pure ⟨⟨_, List.getElem_mem hr', rfl⟩, rfl⟩
theorem someD (n : Nat) {μ : Mem} {ds : List D} {Q : D → Mem → Prop} (hc : μ[0]? = some .cup) (hcl : clo μ) (hl : 0 < ds.length ∧ ds.length ≤ 1000) (hnr : ∀ d ∈ ds, D.noRef μ.length d = true) (hQ : ∀ d ∈ ds, Q d μ) : wp (F (n + 2) 5 [.ref 0, .lst ds]) μ Q := by
  unfold F
  rw [call_at (d := d5) rfl rfl _ rfl]
  refine wp_pop' hcl (wp_mono (Q := fun a μ' => a ∈ ds ∧ μ' = μ) ?_ fun a μ' h => by
    obtain ⟨hi, rfl⟩ := h
    exact ⟨hnr _ hi, ⟨[], by simp⟩, hQ _ hi⟩)
  rw [run_eq]
  have rl : tabF (kcOf ks) tx (n + 1) 4 = primRoll := call_roll rfl (by decide)
  simp -implicitDefEqProofs [d5, b5, evS, DL.get, rl]
  refine wp_bind (wp_res hc (fun _ q => nomatch q) (wp_bind (wp_roll hc (by omega) fun r hr => ?_)))
  have hr' : r < ds.length := by omega
  have e : L2.atI ds (r : Int) = some ds[r] := by
    refine L2.atI_nat ?_
    rw [List.getElem?_eq_getElem hr']
  simp -implicitDefEqProofs [e]
  exact wp_pure ⟨List.getElem_mem hr', rfl⟩
theorem pow_ok {i j : Int} {r : Int} (h : 0 ≤ j ∧ j ≤ 1000000 ∧ i.natAbs < 2 ^ 64) (e : i ^ j.toNat = r) : binop .pow (.int i) (.int j) = M.pure (.int r) := by
  have : binop .pow (.int i) (.int j) = if 0 ≤ j ∧ j ≤ 1000000 ∧ i.natAbs < 2 ^ 64 then M.pure (.int (i ^ j.toNat)) else M.bad := rfl
  rw [this, if_pos h, e]
theorem p9 : binop .pow (.int 10) (.int 9) = M.pure (.int 1000000000) := pow_ok (by decide) (by rfl)
theorem p40 : binop .pow (.int 10) (.int 40) = M.pure (.int G40) := pow_ok (by decide) (by rfl)
theorem law_half (n : Nat) {μ : Mem} {m : Int} (hm : 0 ≤ m ∧ m ≤ 60) {Q : D → Mem → Prop} (hc : μ[0]? = some .cup) (hcl : clo μ) (hQ : ∀ t p, Hs m.toNat t p → Q (hd t p) μ) : wp (F (n + 3) 2 [.ref 0, .int m]) μ Q := by
  unfold F
  rw [call_at (d := d2) rfl rfl _ rfl]
  refine wp_pop' hcl (wp_mono (Q := fun a μ' => (∃ t p, Hs m.toNat t p ∧ a = hd t p) ∧ μ' = μ) ?_ fun a μ' h => by
    obtain ⟨⟨p, q, h, rfl⟩, rfl⟩ := h
    exact ⟨rfl, ⟨[], by simp⟩, hQ p q h⟩)
  rw [run_eq]
  have rl : tabF (kcOf ks) tx (n + 2) 4 = primRoll := call_roll rfl (by decide)
  have s1 : ∀ {Q : D → Mem → Prop}, (∀ i ∈ [(3 : Int), 50, 1000000000], Q (.int i) μ) → wp (tabF (kcOf ks) tx (n + 2) 5 [.ref 0, .lst [.int 3, .int 50, .int 1000000000]]) μ Q := fun h => some_ n (is := [3, 50, 1000000000]) hc hcl (by decide) h
  simp -implicitDefEqProofs [d2, b2, evS, DL.get, setE, p9, rl]
  refine wp_bind (wp_res hc (fun _ q => nomatch q) (wp_bind (wp_roll hc (by omega) fun r hr => ?_)))
  refine wp_bind (wp_res hc (fun _ q => nomatch q) (wp_bind (s1 fun sz hsz => ?_)))
  have hz : 3 ≤ sz ∧ sz ≤ G9 := by
    simp only [List.mem_cons, List.not_mem_nil, or_false] at hsz
    unfold G9
    omega
  have m2 : binop .mul (.int 2) (.int sz) = M.pure (.int (2 * sz)) := bin_mulS (by decide)
  simp -implicitDefEqProofs [setPar, setAll]
  refine wp_bind (wp_res hc (fun _ q => nomatch q) ?_)
  rw [m2, pb]
  simp -implicitDefEqProofs
  refine wp_bind (wp_roll hc (by unfold G9 at hz; omega) fun v hv => ?_)
  have e := lowest (n + 1) ((v : Int) - sz) (p := r) (by omega)
  obtain ⟨h1, h2, h3, h4⟩ := low_spec r ((v : Int) - sz)
  unfold F at e
  simp -implicitDefEqProofs [e]
  refine wp_pure ⟨⟨(low ((v : Int) - sz) r).1, (low ((v : Int) - sz) r).2, ⟨?_, by omega, h3⟩, rfl⟩, rfl⟩
  unfold G9 at *
  omega
/-! ### the fixed answers -/
theorem pw1 : pw 1 = 2 := by rw [pw_def]; rfl
theorem pw2 : pw 2 = 4 := by rw [pw_def]; rfl
abbrev fd (p q : Int) : D := .tup [.int p, .int q]
theorem low_mul (m : Int) : ∀ k : Nat, low (m * pw k) k = (m, 0)
  | 0 => by rw [pw0, Int.mul_one]; rfl
  | k + 1 => by
    rw [low, pw_succ, ← Int.mul_assoc, if_pos (by omega), Int.mul_ediv_cancel _ (by decide)]
    exact low_mul m k
section
variable (n : Nat)
theorem h1_ : F (n + 3) 18 [.int G40, .int 0] = M.pure (fd G40 1) := by
  have := half_of n (t := G40) (k := 0) (by decide +kernel) (by decide)
  rw [show low G40 0 = (G40, 0) from rfl] at this
  unfold hl at this
  rw [pw0] at this
  exact this
theorem h2_ : F (n + 3) 18 [.int 6, .int 2] = M.pure (fd 3 2) := by
  have := half_of n (t := 6) (k := 2) (by decide +kernel) (by decide)
  rw [show low 6 2 = (3, 1) from by decide +kernel] at this
  unfold hl at this
  rw [pw1] at this
  exact this
theorem h3_ : F (n + 3) 18 [.int 0, .int 120] = M.pure (fd 0 1) := by
  have := half_of n (t := 0) (k := 120) (by decide +kernel) (by decide)
  rw [low_zero] at this
  unfold hl at this
  rw [pw0] at this
  exact this
theorem h4_ : F (n + 3) 18 [.int (-1), .int 120] = M.pure (fd (-1) (pw 120)) := by
  have := half_of n (t := -1) (k := 120) (by decide +kernel) (by decide)
  rw [low_odd (by decide)] at this
  exact this
theorem h5_ {k : Nat} (hk : k < 120) : F (n + 3) 18 [.int (pw k), .int (k : Nat)] = M.pure (fd 1 1) := by
  have h1 := pw_le (show k ≤ 120 by omega)
  rw [pw120] at h1
  have h0 := pw_pos k
  have := half_of n (t := pw k) (k := k) (by unfold G40; unfold P120 at h1; omega) (by omega)
  have e := low_mul 1 k
  rw [Int.one_mul] at e
  rw [e] at this
  unfold hl at this
  rw [pw0] at this
  exact this
theorem h6_ {k : Nat} (hk : k < 120) : F (n + 3) 18 [.int (3 * pw k), .int (k : Nat)] = M.pure (fd 3 1) := by
  have h1 := pw_le (show k ≤ 120 by omega)
  rw [pw120] at h1
  have h0 := pw_pos k
  have := half_of n (t := 3 * pw k) (k := k) (by unfold G40; unfold P120 at h1; omega) (by omega)
  rw [low_mul] at this
  unfold hl at this
  rw [pw0] at this
  exact this
theorem hf0 {t : Int} (h : -G40 ≤ t ∧ t ≤ G40) : Hf t 0 := ⟨h, by decide, .inl rfl⟩
theorem hf1 {t : Int} {p : Nat} (h : -G40 ≤ t ∧ t ≤ G40) (h2 : t % 2 = 1) (hp : p ≤ 120) : Hf t p := ⟨h, hp, .inr h2⟩
theorem s1_ {k : Nat} (hk : k < 120) : F (n + 4) 17 [fd 0 1, fd 1 (pw k)] = M.pure (fd 1 (pw (k + 1))) := by
  have hlo : ∀ i, Lo 0 0 i = 1 := fun i => by unfold Lo; rw [Int.zero_mul, Int.zero_ediv]; rfl
  have hhi : ∀ i, i ≤ k → Hi 1 k i = 0 := fun i hi => by
    unfold Hi
    have h1 := pw_le hi
    have h2 := pw_pos i
    have h3 : -1 * pw i / pw k = -1 := by
      have a1 := Int.ediv_lt_iff_lt_mul (a := -1 * pw i) (b := 0) (pw_pos k)
      have a2 := Int.le_ediv_iff_mul_le (b := -1 * pw i) (a := -1) (pw_pos k)
      omega
    rw [h3]
    rfl
  have hk1 : Hi 1 k (k + 1) = 1 := by
    unfold Hi
    have h3 : -1 * pw (k + 1) / pw k = -2 := by
      rw [pw_succ, show -1 * (pw k * 2) = -2 * pw k from by omega]
      exact Int.mul_ediv_cancel _ (by have := pw_pos k; omega)
    rw [h3]
    rfl
  have := simplest (t := 0) (u := 1) (p := 0) (q := k) (by decide) (by decide) (by decide) (by omega) n (hf0 (by decide +kernel)) (hf1 (by decide +kernel) (by decide) (by omega)) (by rw [Int.zero_mul, pw0]; decide) (k := k + 1) (by omega) (fun i hi => by rw [hlo, hhi i (by omega)]; decide) (by rw [hlo, hk1]; decide)
  rw [hlo, hk1, show tp 1 1 = 1 from rfl, low_odd (by decide)] at this
  unfold hl hd at this
  rw [pw0] at this
  exact this
theorem lo0 (t : Int) : Lo t 0 0 = t + 1 := by unfold Lo; rw [pw0, Int.mul_one, Int.ediv_one]
theorem hi0 (t : Int) : Hi t 0 0 = t - 1 := by unfold Hi; rw [pw0, Int.mul_one, Int.ediv_one]; omega
theorem s0_ {a b : Int} (ha : a.natAbs < 2 ^ 62) (hb : b.natAbs < 2 ^ 62) (h : a + 1 ≤ b - 1) : F (n + 4) 17 [fd a 1, fd b 1] = M.pure (fd (tp (a + 1) (b - 1)) 1) := by
  have := simplest (t := a) (u := b) (p := 0) (q := 0) (by omega) (by omega) (by decide) (by decide) n (hf0 (by unfold G40; omega)) (hf0 (by unfold G40; omega)) (by rw [pw0]; omega) (k := 0) (by decide) (fun i hi => by omega) (by rw [lo0, hi0]; exact h)
  rw [lo0, hi0] at this
  rw [show low (tp (a + 1) (b - 1)) 0 = (tp (a + 1) (b - 1), 0) from rfl] at this
  unfold hl hd at this
  rw [pw0] at this
  exact this
theorem s4_ : F (n + 4) 17 [fd 1 4, fd 1 1] = M.pure (fd 1 2) := by
  have := simplest (t := 1) (u := 1) (p := 2) (q := 0) (by decide) (by decide) (by decide) (by decide) n (hf1 (by decide +kernel) (by decide) (by decide)) (hf0 (by decide +kernel)) (by rw [pw0, pw2]; decide) (k := 1) (by decide) (fun i hi => by
    obtain rfl : i = 0 := by omega
    unfold Lo Hi
    rw [pw0, pw2]; decide) (by unfold Lo Hi; rw [pw0, pw1, pw2]; decide)
  rw [show Lo 1 2 1 = 1 from by unfold Lo; rw [pw1, pw2]; rfl, show Hi 1 0 1 = 1 from by unfold Hi; rw [pw1, pw0]; rfl, show low (tp 1 1) 1 = (1, 1) from by decide +kernel] at this
  unfold hl hd at this
  rw [pw0, pw1, pw2] at this
  exact this
theorem s5_ : F (n + 4) 17 [fd 5 4, fd 7 4] = M.pure (fd 3 2) := by
  have := simplest (t := 5) (u := 7) (p := 2) (q := 2) (by decide) (by decide) (by decide) (by decide) n (hf1 (by decide +kernel) (by decide) (by decide)) (hf1 (by decide +kernel) (by decide) (by decide)) (by rw [pw2]; decide) (k := 1) (by decide) (fun i hi => by
    obtain rfl : i = 0 := by omega
    unfold Lo Hi
    rw [pw0, pw2]; decide) (by unfold Lo Hi; rw [pw1, pw2]; decide)
  rw [show Lo 5 2 1 = 3 from by unfold Lo; rw [pw1, pw2]; rfl, show Hi 7 2 1 = 3 from by unfold Hi; rw [pw1, pw2]; rfl, show low (tp 3 3) 1 = (3, 1) from by decide +kernel] at this
  unfold hl hd at this
  rw [pw1, pw2] at this
  exact this
theorem m1_ : F (n + 4) 16 [fd 1 2, fd 1 1] = M.pure (fd 3 4) := by
  have := midst_ (t := 1) (u := 1) (p := 1) (q := 0) (hf1 (by decide +kernel) (by decide) (by decide)) (hf0 (by decide +kernel)) n (by decide) (by decide) (by decide) (by decide)
  rw [show sm 1 1 1 0 = 3 from by unfold sm; rw [pw0, pw1]; rfl, show low 3 (1 + 0 + 1) = (3, 2) from by decide +kernel] at this
  unfold hl hd at this
  rw [pw0, pw1, pw2] at this
  exact this
end
end Row
namespace Row
open PySem DL
def mu0 : Mem := [.cup]
theorem clo0 : clo mu0 := rfl
theorem l3e (a b c : D) : lenOk [a, b, c] = M.pure [a, b, c] := lenOk_le (by show 3 ≤ 8000; omega)
theorem l4 (a b c d : D) : lenOk [a, b, c, d] = M.pure [a, b, c, d] := lenOk_le (by show 4 ≤ 8000; omega)
theorem l6 (a b c d e f : D) : lenOk [a, b, c, d, e, f] = M.pure [a, b, c, d, e, f] := lenOk_le (by show 6 ≤ 8000; omega)
theorem l10 (a b c d e f g h i j : D) : lenOk [a, b, c, d, e, f, g, h, i, j] = M.pure [a, b, c, d, e, f, g, h, i, j] := lenOk_le (by show 10 ≤ 8000; omega)
theorem l12 (a b c d e f g h i j k l : D) : lenOk [a, b, c, d, e, f, g, h, i, j, k, l] = M.pure [a, b, c, d, e, f, g, h, i, j, k, l] := lenOk_le (by show 12 ≤ 8000; omega)
def dA : List D := [fd G40 1, fd 3 2, fd 0 1, fd (-1) (pw 120), fd 1 1, fd 3 1]
def dB (k : Nat) (st : Int) : List D := [fd 1 (pw (k + 1)), fd (st + 1) 1, fd (-st - 1) 1]
def dC : List D := [fd 1 2, fd 3 2, fd 0 1, fd 3 4]
theorem tp1 {st : Int} (h : 0 ≤ st) : tp (st + 1) (st + 9 - 1) = st + 1 := by unfold tp; rw [if_pos (by omega)]
theorem tp2 {st : Int} (h : 0 ≤ st) : tp (-st - 9 + 1) (-st - 1) = -st - 1 := by unfold tp; rw [if_neg (by omega), if_pos (by omega)]
theorem likeT (n : Nat) (k : Nat) (st : Int) : F (n + 4) 20 [.lst (dA ++ dB k st ++ dC), .lst (dA ++ dB k st ++ dC)] = M.pure (.bl true) := like_at (Kc := kcOf ks) lk 3 n (x := .lst (dA ++ dB k st ++ dC)) ⟨by show 13 ≤ 8000; omega, fun x hx => by
  have hx : x ∈ [fd G40 1, fd 3 2, fd 0 1, fd (-1) (pw 120), fd 1 1, fd 3 1, fd 1 (pw (k + 1)), fd (st + 1) 1, fd (-st - 1) 1, fd 1 2, fd 3 2, fd 0 1, fd 3 4] := hx
  have key : ∀ a b : Int, PL 2 (fd a b) := fun a b => ⟨by show 2 ≤ 8000; omega, fun x hx => by
    simp only [List.mem_cons, List.not_mem_nil, or_false] at hx
    rcases hx with rfl | rfl <;> exact trivial⟩
  simp only [List.mem_cons, List.not_mem_nil, or_false] at hx
  rcases hx with rfl | rfl | rfl | rfl | rfl | rfl | rfl | rfl | rfl | rfl | rfl | rfl | rfl <;> exact key _ _⟩
section
variable (n : Nat) (rest : Sz) (w0 w1 w2 w3 w4 w5 w6 w10 w11 : Option D) {k : Nat} (hk : k < 120) {st : Int} (hst : 0 ≤ st ∧ st < 1000)
include hk hst
theorem st4 : evS (F (n + 5)) (kcOf ks) (.cons q4 rest) [w0, w1, w2, w3, w4, w5, w6, some (.int G40), some (.int (k : Nat)), some (.int st), none, none, none, none, none, none, none, none] =
    evS (F (n + 5)) (kcOf ks) rest [w0, w1, w2, w3, w4, w5, w6, some (.int G40), some (.int (k : Nat)), some (.int st), some (.lst dA), none, none, none, none, none, none, none] := by
  have a1 := h1_ (n + 2)
  have a2 := h2_ (n + 2)
  have a3 := h3_ (n + 2)
  have a4 := h4_ (n + 2)
  have a5 := h5_ (n + 2) hk
  have a6 := h6_ (n + 2) hk
  have s1 := shl1 (p := k) (by omega)
  have s3 := shlT (t := 3) (p := k) (by decide) (by omega)
  have n1 : negop (.int 1) = M.pure (.int (-1)) := rfl
  have ll := l6
  unfold dA
  generalize 3 * pw k = pk3 at *
  generalize pw k = pk at *
  generalize pw 120 = p12 at *
  unfold F at *
  simp -implicitDefEqProofs [q4, evS, DL.get, setE, a1, a2, a3, a4, a5, a6, s1, s3, n1, ll]
theorem st5 : evS (F (n + 5)) (kcOf ks) (.cons q5 rest) [w0, w1, w2, w3, w4, w5, w6, some (.int G40), some (.int (k : Nat)), some (.int st), w10, none, none, none, none, none, none, none] =
    evS (F (n + 5)) (kcOf ks) rest [w0, w1, w2, w3, w4, w5, w6, some (.int G40), some (.int (k : Nat)), some (.int st), w10, some (.lst dA), none, none, none, none, none, none] := by
  have s1 : binop .shl (.int 1) (.int 120) = M.pure (.int (pw 120)) := shl1 (p := 120) (by decide)
  have n1 : negop (.int 1) = M.pure (.int (-1)) := rfl
  have ll := l6
  unfold dA
  generalize pw 120 = p12 at *
  unfold F at *
  simp -implicitDefEqProofs [q5, evS, DL.get, setE, s1, n1, ll]
theorem st6 : evS (F (n + 5)) (kcOf ks) (.cons q6 rest) [w0, w1, w2, w3, w4, w5, w6, some (.int G40), some (.int (k : Nat)), some (.int st), some (.lst dA), w11, none, none, none, none, none, none] =
    evS (F (n + 5)) (kcOf ks) rest [w0, w1, w2, w3, w4, w5, w6, some (.int G40), some (.int (k : Nat)), some (.int st), some (.lst (dA ++ dB k st)), w11, none, none, none, none, none, none] := by
  have s1 := s1_ (n + 1) hk
  have s2 := s0_ (n + 1) (a := st) (b := st + 9) (by omega) (by omega) (by omega)
  have s3 := s0_ (n + 1) (a := -st - 9) (b := -st) (by omega) (by omega) (by omega)
  rw [tp1 hst.1] at s2
  rw [tp2 hst.1] at s3
  have sh := shl1 (p := k) (by omega)
  have ad : binop .add (.lst dA) (.lst [fd 1 (pw (k + 1)), fd (st + 1) 1, fd (-st - 1) 1]) = M.pure (.lst (dA ++ dB k st)) := add_lst (by show 6 + 3 ≤ 8000; omega)
  have b1 : binop .add (.int st) (.int 9) = M.pure (.int (st + 9)) := rfl
  have b2 : binop .sub (.int (-st)) (.int 9) = M.pure (.int (-st - 9)) := rfl
  have n1 : negop (.int st) = M.pure (.int (-st)) := rfl
  have ll := l3e
  generalize dA ++ dB k st = AB at *
  generalize dA = A at *
  generalize st + 9 = x1 at *
  generalize st + 1 = x2 at *
  generalize -st - 9 = x3 at *
  generalize -st - 1 = x4 at *
  generalize -st = x5 at *
  generalize pw (k + 1) = pk1 at *
  generalize pw k = pk at *
  unfold F at *
  simp -implicitDefEqProofs [-bin_add', -bin_sub', q6, evS, DL.get, setE, s1, s2, s3, sh, b1, b2, n1, ll, ad]
theorem st7 : evS (F (n + 5)) (kcOf ks) (.cons q7 rest) [w0, w1, w2, w3, w4, w5, w6, some (.int G40), some (.int (k : Nat)), some (.int st), w10, some (.lst dA), none, none, none, none, none, none] =
    evS (F (n + 5)) (kcOf ks) rest [w0, w1, w2, w3, w4, w5, w6, some (.int G40), some (.int (k : Nat)), some (.int st), w10, some (.lst (dA ++ dB k st)), none, none, none, none, none, none] := by
  have sh := shlT (t := 2) (p := k) (by decide) (by omega)
  rw [show 2 * pw k = pw (k + 1) from by rw [pw_succ]; omega] at sh
  have ad : binop .add (.lst dA) (.lst [fd 1 (pw (k + 1)), fd (st + 1) 1, fd (-st - 1) 1]) = M.pure (.lst (dA ++ dB k st)) := add_lst (by show 6 + 3 ≤ 8000; omega)
  have b1 : binop .add (.int st) (.int 1) = M.pure (.int (st + 1)) := rfl
  have b2 : binop .sub (.int (-st)) (.int 1) = M.pure (.int (-st - 1)) := rfl
  have n1 : negop (.int st) = M.pure (.int (-st)) := rfl
  have ll := l3e
  generalize dA ++ dB k st = AB at *
  generalize dA = A at *
  generalize st + 1 = x2 at *
  generalize -st - 1 = x4 at *
  generalize -st = x5 at *
  generalize pw (k + 1) = pk1 at *
  unfold F at *
  simp -implicitDefEqProofs [-bin_add', -bin_sub', q7, evS, DL.get, setE, sh, b1, b2, n1, ll, ad]
theorem st8 : evS (F (n + 5)) (kcOf ks) (.cons q8 (.cons q9 rest)) [w0, w1, w2, w3, w4, w5, w6, some (.int G40), some (.int (k : Nat)), some (.int st), some (.lst (dA ++ dB k st)), some (.lst (dA ++ dB k st)), none, none, none, none, none, none] =
    evS (F (n + 5)) (kcOf ks) rest [w0, w1, w2, w3, w4, w5, w6, some (.int G40), some (.int (k : Nat)), some (.int st), some (.lst (dA ++ dB k st ++ dC)), some (.lst (dA ++ dB k st)), none, none, none, none, none, none] := by
  have s1 := s4_ (n + 1)
  have s2 := s5_ (n + 1)
  have s3 := s0_ (n + 1) (a := -3) (b := 2) (by decide) (by decide) (by decide)
  rw [show tp (-3 + 1) (2 - 1) = 0 from by decide] at s3
  have s4 := m1_ (n + 1)
  have n3 : negop (.int 3) = M.pure (.int (-3)) := rfl
  have ad : binop .add (.lst (dA ++ dB k st)) (.lst [fd 1 2, fd 3 2, fd 0 1, fd 3 4]) = M.pure (.lst (dA ++ dB k st ++ dC)) := add_lst (by show 9 + 4 ≤ 8000; omega)
  have L := likeT (n + 1) k st
  have ll := l4
  generalize dA ++ dB k st ++ dC = ABC at *
  generalize dA ++ dB k st = AB at *
  unfold F at *
  simp -implicitDefEqProofs [q8, q9, evS, DL.get, setE, s1, s2, s3, s4, n3, ll, ad, L]
end
/-! ### odd values -/
def oddsA : List D := [fd 0 1, fd 1 2, fd (-3) 4, fd G40 1, fd 1 (pw 120), fd (G40 + 1) 1, fd (-G40 - 1) 1, fd 1 (pw 121), fd 2 4, fd 0 2, fd 1 3, fd 1 0]
def oddsB : List D := [fd 1 (-2), .lst [.int 1, .int 2], .tup [.int 1], .tup [.int 1, .int 2, .int 4], .tup [.bl true, .int 2], .tup [.int 1, .bl true], .non, .int 1, .str "1/2", .tup [.tup [.int 1], .int 2]]
def odds22 : List D := oddsA ++ oddsB
theorem adO : binop .add (.lst oddsA) (.lst oddsB) = M.pure (.lst odds22) := add_lst (by show 12 + 10 ≤ 8000; omega)
theorem st10 (n : Nat) (rest : Sz) (w0 w1 w2 w3 w4 w5 w6 w8 w9 w10 w11 : Option D) : evS (F (n + 5)) (kcOf ks) (.cons q10 (.cons q11 rest)) [w0, w1, w2, w3, w4, w5, w6, some (.int G40), w8, w9, w10, w11, none, none, none, none, none, none] =
    evS (F (n + 5)) (kcOf ks) rest [w0, w1, w2, w3, w4, w5, w6, some (.int G40), w8, w9, w10, w11, some (.lst odds22), none, none, none, none, none] := by
  have b1 : binop .add (.int G40) (.int 1) = M.pure (.int (G40 + 1)) := rfl
  have b2 : binop .sub (.int (-G40)) (.int 1) = M.pure (.int (-G40 - 1)) := rfl
  have n2 : negop (.int 2) = M.pure (.int (-2)) := rfl
  have n3 : negop (.int 3) = M.pure (.int (-3)) := rfl
  have s1 : binop .shl (.int 1) (.int 120) = M.pure (.int (pw 120)) := shl1 (p := 120) (by decide)
  have s2 : binop .shl (.int 1) (.int 121) = M.pure (.int (pw 121)) := shl1 (p := 121) (by decide)
  have ad := adO
  have e12 := l12
  have e10 := l10
  unfold oddsA oddsB at ad
  generalize odds22 = o22 at *
  have ng := negG
  generalize G40 + 1 = gp at *
  generalize -G40 - 1 = gm at *
  generalize pw 120 = pa at *
  generalize pw 121 = pb' at *
  unfold F
  simp -implicitDefEqProofs [-bin_add', -bin_sub', q10, q11, evS, DL.get, setE, b1, ng, b2, n2, n3, s1, s2, e12, e10, ad]
def okF (d : D) : Bool := dat d && (match d with
  | .tup xs => xs.all dat
  | _ => true)
theorem okF_d {d : D} (h : okF d = true) : dat d = true := by
  unfold okF at h
  simp only [Bool.and_eq_true] at h
  exact h.1
theorem okF_t {d : D} (h : okF d = true) : ∀ xs, d = .tup xs → ∀ x ∈ xs, dat x = true := fun xs e => by
  subst e
  unfold okF at h
  simp only [Bool.and_eq_true, List.all_eq_true] at h
  exact h.2
theorem okO : ∀ d ∈ odds22, okF d = true := List.all_eq_true.mp (show odds22.all okF = true by decide +kernel)
def rO : List D := (odds22.map halfB).map D.bl
theorem hlO : odds22.map halfB = List.replicate 5 true ++ List.replicate 17 false := by
  unfold odds22 oddsA
  rw [show pw 121 = 2658455991569831745807614120560689152 from by rw [pw_def]; decide +kernel, pw120]
  decide +kernel
theorem rO_eq : rO = List.replicate 5 (D.bl true) ++ List.replicate 17 (D.bl false) := by
  unfold rO
  rw [hlO]
  rfl
theorem fm_map {α β : Type} (f : α → β) : ∀ l : List α, l.filterMap (fun d => some (f d)) = l.map f
  | [] => rfl
  | a :: l => by rw [List.filterMap_cons, fm_map f l]; rfl
theorem st12 (n : Nat) (rest : Sz) (w0 w1 w2 w3 w4 w5 w6 w7 w8 w9 w10 w11 : Option D) : evS (F (n + 5)) (kcOf ks) (.cons q12 rest) [w0, w1, w2, w3, w4, w5, w6, w7, w8, w9, w10, w11, some (.lst odds22), none, none, none, none, none] =
    evS (F (n + 5)) (kcOf ks) rest [w0, w1, w2, w3, w4, w5, w6, w7, w8, w9, w10, w11, some (.lst odds22), none, none, none, none, none] := by
  have hlc := lcGo_map (f := lcTurn (.nm 13) (ev (F (n + 5)) (kcOf ks) .nil).t (ev (F (n + 5)) (kcOf ks) (.call 8 (.cons (.var 13) .nil))).e [w0, w1, w2, w3, w4, w5, w6, w7, w8, w9, w10, w11, some (.lst odds22), none, none, none, none, none]) (g := fun d => some (.bl (halfB d))) odds22 fun d hd => by
    have h := okO d hd
    have e := is_half (n + 3) d (okF_d h) (okF_t h)
    generalize odds22 = o20 at *
    unfold F at e ⊢
    simp -implicitDefEqProofs [lcTurn, wipeE, Tz.slots, bindT, DL.get, res_dat (okF_d h), e]
  rw [fm_map (fun d => D.bl (halfB d)), show odds22.map (fun d => D.bl (halfB d)) = rO from by unfold rO; rw [List.map_map]; rfl] at hlc
  have hlen : lenOk odds22 = M.pure odds22 := lenOk_le (by show 22 ≤ 8000; omega)
  have m4 : binop .mul (.lst [.bl true]) (.int 5) = M.pure (.lst (List.replicate 5 (.bl true))) := mul_lst (by decide)
  have m16 : binop .mul (.lst [.bl false]) (.int 17) = M.pure (.lst (List.replicate 17 (.bl false))) := mul_lst (by decide)
  have ad : binop .add (.lst (List.replicate 5 (.bl true))) (.lst (List.replicate 17 (.bl false))) = M.pure (.lst rO) := by
    rw [rO_eq]
    exact add_lst (by decide)
  have L := like_at (Kc := kcOf ks) lk 3 (n + 1) (x := .lst rO) ⟨by rw [rO_eq]; decide, fun x hx => by
    unfold rO at hx
    obtain ⟨b, _, rfl⟩ := List.mem_map.mp hx
    exact trivial⟩
  generalize odds22 = o20 at *
  generalize rO = r at *
  generalize List.replicate 5 (D.bl true) = r4 at *
  generalize List.replicate 17 (D.bl false) = r16 at *
  unfold F at *
  simp -implicitDefEqProofs [q12, lcO, evS, DL.get, hlen, hlc, m4, m16, ad, L]
def bad17 : List D := odds22.drop 5
theorem st13 (n : Nat) (rest : Sz) (w0 w2 w3 w4 w5 w6 w7 w8 w9 w10 w11 : Option D) {Q : Out → Mem → Prop} (hQ : ∀ d, okF d = true → halfB d = false → wp (evS (F (n + 5)) (kcOf ks) rest [w0, some (.ref 0), w2, w3, w4, w5, w6, w7, w8, w9, w10, w11, some (.lst odds22), none, some d, some (.lst []), none, none]) mu0 Q) :
    wp (evS (F (n + 5)) (kcOf ks) (.cons q13 rest) [w0, some (.ref 0), w2, w3, w4, w5, w6, w7, w8, w9, w10, w11, some (.lst odds22), none, none, none, none, none]) mu0 Q := by
  have so := fun {Q} => someD (n + 3) (μ := mu0) (ds := bad17) (Q := Q) rfl clo0 (by show 0 < 17 ∧ 17 ≤ 1000; omega) (List.all_eq_true.mp (show bad17.all (D.noRef 1) = true by decide +kernel))
  have hs : slcop (some 5) none (.lst odds22) = M.pure (.lst bad17) := by rfl
  have h1 : ∀ d ∈ bad17, okF d = true := fun d hd => okO d (List.mem_of_mem_drop hd)
  have h2 : ∀ d ∈ bad17, halfB d = false := fun d hd => by
    have e : bad17.map halfB = List.replicate 17 false := by
      unfold bad17
      rw [List.map_drop, hlO]
      rfl
    have := List.mem_map_of_mem (f := halfB) hd
    rw [e] at this
    exact List.eq_of_mem_replicate this
  generalize bad17 = b16 at *
  generalize odds22 = o20 at *
  unfold F at *
  simp -implicitDefEqProofs [q13, evS, DL.get]
  refine wp_bind (wp_res (o := .cup) rfl (fun _ q => nomatch q) ?_)
  rw [hs, pb]
  refine wp_bind (so fun d hd => ?_)
  simp -implicitDefEqProofs [bindT, bindTs]
  exact hQ d (h1 d hd) (h2 d hd)
end Row
namespace Row
open PySem DL
theorem err1 : errC exs e0 [.int ((1 : Nat) : Int)] = M.pure (.str "number") := by rfl
section
variable (n : Nat) {a b : D} (ha : okF a = true) (hb : okF b = true) (h : halfB a = false ∨ (halfB a = true ∧ halfB b = false))
include ha hb h
theorem no6 : F (n + 4) 6 [a, b] = throwM 0 := by
  unfold F
  rw [call_at (d := d6) rfl rfl _ rfl, run_eq]
  have e1 := need_half n a (okF_d ha) (okF_t ha)
  have e2 := need_half n b (okF_d hb) (okF_t hb)
  unfold F at *
  rcases h with h | ⟨h, h2⟩
  · rw [h, if_neg Bool.false_ne_true] at e1
    simp -implicitDefEqProofs [d6, b6, evS, DL.get, res_dat (okF_d ha), e1]
  · rw [h, if_pos rfl] at e1
    rw [h2, if_neg Bool.false_ne_true] at e2
    simp -implicitDefEqProofs [d6, b6, evS, DL.get, res_dat (okF_d ha), res_dat (okF_d hb), e1, e2]
theorem no14 : F (n + 4) 14 [a, b] = throwM 0 := by
  unfold F
  rw [call_at (d := d14) rfl rfl _ rfl, run_eq]
  have e1 := need_half n a (okF_d ha) (okF_t ha)
  have e2 := need_half n b (okF_d hb) (okF_t hb)
  unfold F at *
  rcases h with h | ⟨h, h2⟩
  · rw [h, if_neg Bool.false_ne_true] at e1
    simp -implicitDefEqProofs [d14, b14, evS, DL.get, res_dat (okF_d ha), e1]
  · rw [h, if_pos rfl] at e1
    rw [h2, if_neg Bool.false_ne_true] at e2
    simp -implicitDefEqProofs [d14, b14, evS, DL.get, res_dat (okF_d ha), res_dat (okF_d hb), e1, e2]
theorem no16 : F (n + 4) 16 [a, b] = throwM 0 := by
  unfold F
  rw [call_at (d := d16) rfl rfl _ rfl, run_eq]
  have e1 := need_half n a (okF_d ha) (okF_t ha)
  have e2 := need_half n b (okF_d hb) (okF_t hb)
  unfold F at *
  rcases h with h | ⟨h, h2⟩
  · rw [h, if_neg Bool.false_ne_true] at e1
    simp -implicitDefEqProofs [d16, b16, evS, DL.get, res_dat (okF_d ha), e1]
  · rw [h, if_pos rfl] at e1
    rw [h2, if_neg Bool.false_ne_true] at e2
    simp -implicitDefEqProofs [d16, b16, evS, DL.get, res_dat (okF_d ha), res_dat (okF_d hb), e1, e2]
theorem no17 : F (n + 4) 17 [a, b] = throwM 0 := by
  unfold F
  rw [call_at (d := d17) rfl rfl _ rfl, run_eq]
  have e1 := need_half n a (okF_d ha) (okF_t ha)
  have e2 := need_half n b (okF_d hb) (okF_t hb)
  unfold F at *
  rcases h with h | ⟨h, h2⟩
  · rw [h, if_neg Bool.false_ne_true] at e1
    simp -implicitDefEqProofs [d17, b17, evS, DL.get, res_dat (okF_d ha), e1]
  · rw [h, if_pos rfl] at e1
    rw [h2, if_neg Bool.false_ne_true] at e2
    simp -implicitDefEqProofs [d17, b17, evS, DL.get, res_dat (okF_d ha), res_dat (okF_d hb), e1, e2]
theorem noK {k : Nat} (hk : k = 6 ∨ k = 14 ∨ k = 16 ∨ k = 17) : F (n + 4) k [a, b] = throwM 0 := by
  rcases hk with rfl | rfl | rfl | rfl
  · exact no6 n ha hb h
  · exact no14 n ha hb h
  · exact no16 n ha hb h
  · exact no17 n ha hb h
end
theorem no23 (n : Nat) {a : D} (ha : okF a = true) (h : halfB a = false) : F (n + 4) 23 [a] = throwM 0 := by
  unfold F
  rw [call_at (d := d23) rfl rfl _ rfl, run_eq]
  have e1 := need_half n a (okF_d ha) (okF_t ha)
  unfold F at *
  rw [h, if_neg Bool.false_ne_true] at e1
  simp -implicitDefEqProofs [d23, b23, evS, DL.get, res_dat (okF_d ha), e1]
theorem half_of_no (n : Nat) {a b : D} (ha : dat a = true) (hb : dat b = true) (h : whB (-G40) G40 a = false ∨ (whB (-G40) G40 a = true ∧ whB 0 120 b = false)) : F (n + 3) 18 [a, b] = throwM 1 := by
  unfold F
  rw [call_at (d := d18) rfl rfl _ rfl, run_eq]
  have e1 := need_whole n a (-G40) G40 ha
  have e2 := need_whole n b 0 120 hb
  unfold F at *
  rcases h with h | ⟨h, h2⟩
  · rw [h, if_neg Bool.false_ne_true] at e1
    simp -implicitDefEqProofs [d18, b18, evS, DL.get, k0, negG, res_dat ha, e1]
  · rw [h, if_pos rfl] at e1
    rw [h2, if_neg Bool.false_ne_true] at e2
    simp -implicitDefEqProofs [d18, b18, evS, DL.get, k0, negG, res_dat ha, res_dat hb, e1, e2]
theorem add1 {ws : List D} {x : D} (h : ws.length ≤ 100) : binop .add (.lst ws) (.lst [x]) = M.pure (.lst (ws ++ [x])) := add_lst (by simp; omega)
theorem l1 (a : D) : lenOk [a] = M.pure [a] := lenOk_le (by show 1 ≤ 8000; omega)
theorem loopW {tg : Tz} {b : DL.Env → M Out} {w : D} (en : List D → Option D → DL.Env) (ds : List D) (step : ∀ d ∈ ds, ∀ ws : List D, ws.length ≤ 100 → ∀ x, Rn mu0 (M.bind (M.opt (bindT tg d (en ws x))) b) (.nx (en (ws ++ [w]) (some d))) mu0) :
    ∀ (ws : List D) (x : Option D), ws.length + ds.length ≤ 100 → ∃ y, Rn mu0 (forGo tg b ds (en ws x)) (.nx (en (ws ++ List.replicate ds.length w) y)) mu0 := by
  induction ds with
  | nil => intro ws x _; exact ⟨x, by rw [List.length_nil, List.replicate_zero, List.append_nil]; exact Rn_pure⟩
  | cons d ds ih =>
    intro ws x hl
    rw [List.length_cons] at hl
    obtain ⟨y, h⟩ := ih (fun e he => step e (List.mem_cons_of_mem _ he)) (ws ++ [w]) (some d) (by simp; omega)
    refine ⟨y, ?_⟩
    have e : ws ++ List.replicate (d :: ds).length w = ws ++ [w] ++ List.replicate ds.length w := by
      rw [List.length_cons, List.replicate_succ]
      simp
    rw [e]
    exact Rn_forCons (step d List.mem_cons_self ws (by omega) x) h
section
variable (n : Nat) {bad : D} (h1 : okF bad = true) (h2 : halfB bad = false) (w0 w1 w2 w3 w4 w5 w6 w8 w9 w10 w11 w12 w13 w16 w17 : Option D) (ws : List D) (hl : ws.length ≤ 90) (x : Option D)
include h1 h2 hl
theorem step14 {k : Nat} (hk : k = 6 ∨ k = 14 ∨ k = 16 ∨ k = 17) :
    Rn mu0 (M.bind (M.opt (bindT (.nm 16) (.fn k) [w0, w1, w2, w3, w4, w5, w6, some (.int G40), w8, w9, w10, w11, w12, w13, some bad, some (.lst ws), x, w17])) (evS (F (n + 5)) (kcOf ks) lbq14)) (.nx [w0, w1, w2, w3, w4, w5, w6, some (.int G40), w8, w9, w10, w11, w12, w13, some bad, some (.lst (ws ++ [.str "half"] ++ [.str "half"])), some (.fn k), w17]) mu0 := by
  have ce : tabF (kcOf ks) tx (n + 5) 100000 = errC exs e0 := call_err rfl
  have e1 := noK (n + 1) h1 h1 (.inl h2) hk
  have hb01 : halfB (fd 0 1) = true := by decide +kernel
  have e2 := noK (n + 1) (a := fd 0 1) (by rfl) h1 (.inr ⟨hb01, h2⟩) hk
  have a1 := add1 (ws := ws) (x := .str "half") (by omega)
  have a2 := add1 (ws := ws ++ [.str "half"]) (x := .str "half") (by simp; omega)
  unfold F at *
  simp -implicitDefEqProofs [bindT, lbq14, evS, DL.get, res_dat (okF_d h1), e1, e2, ce]
  refine Rn_bind (Rn_at (At_err clo0 err0)) ?_
  simp -implicitDefEqProofs [a1, setE, l1, DL.get, res_dat (okF_d h1), e2, ce]
  refine Rn_bind (Rn_at (At_err clo0 err0)) ?_
  have a2' : binop .add (.lst (ws ++ [.str "half"])) (.lst [.str "half"]) = M.pure (.lst (ws ++ [.str "half", .str "half"])) := by rw [a2]; simp
  simp -implicitDefEqProofs [a2', setE, l1]
  exact Rn_pure
theorem st15 : Rn mu0 (evS (F (n + 5)) (kcOf ks) q15 [w0, w1, w2, w3, w4, w5, w6, some (.int G40), w8, w9, w10, w11, w12, w13, some bad, some (.lst ws), w16, w17]) (.nx [w0, w1, w2, w3, w4, w5, w6, some (.int G40), w8, w9, w10, w11, w12, w13, some bad, some (.lst (ws ++ [.str "half"])), w16, w17]) mu0 := by
  have ce : tabF (kcOf ks) tx (n + 5) 100000 = errC exs e0 := call_err rfl
  have e1 := no23 (n + 1) h1 h2
  have a1 := add1 (ws := ws) (x := .str "half") (by omega)
  unfold F at *
  simp -implicitDefEqProofs [q15, evS, DL.get, res_dat (okF_d h1), e1, ce]
  refine Rn_bind (Rn_at (At_err clo0 err0)) ?_
  simp -implicitDefEqProofs [a1, setE, l1]
  exact Rn_pure
end
section
variable (n : Nat) (w0 w1 w2 w3 w4 w5 w6 w8 w9 w10 w11 w12 w13 w14 w16 w17 : Option D) (ws : List D) (hl : ws.length ≤ 100) (x : Option D)
include hl
theorem st16 : Rn mu0 (evS (F (n + 5)) (kcOf ks) q16 [w0, w1, w2, w3, w4, w5, w6, some (.int G40), w8, w9, w10, w11, w12, w13, w14, some (.lst ws), w16, w17]) (.nx [w0, w1, w2, w3, w4, w5, w6, some (.int G40), w8, w9, w10, w11, w12, w13, w14, some (.lst (ws ++ [.str "half"])), w16, w17]) mu0 := by
  have ce : tabF (kcOf ks) tx (n + 5) 100000 = errC exs e0 := call_err rfl
  have e1 := simplest_no (t := 1) (u := 1) (p := 1) (q := 1) (by decide) (by decide) (by decide) (by decide) (n + 1) (hf1 (by decide +kernel) (by decide) (by decide)) (hf1 (by decide +kernel) (by decide) (by decide)) (Int.le_refl _)
  unfold hd at e1
  rw [pw1] at e1
  have a1 := add1 (ws := ws) (x := .str "half") (by omega)
  unfold F at *
  simp -implicitDefEqProofs [q16, evS, DL.get, e1, ce]
  refine Rn_bind (Rn_at (At_err clo0 err0)) ?_
  simp -implicitDefEqProofs [a1, setE, l1]
  exact Rn_pure
def row17 : List D := [.tup [.int (G40 + 1), .int 0], .tup [.int (-G40 - 1), .int 0], .tup [.bl true, .int 0], .tup [.int 0, .int (-1)], .tup [.int 0, .int 121], .tup [.int 0, .non], .tup [.non, .int 0]]
theorem step17 {d : D} (hd' : d ∈ row17) : Rn mu0 (M.bind (M.opt (bindT (.nm 17) d [w0, w1, w2, w3, w4, w5, w6, some (.int G40), w8, w9, w10, w11, w12, w13, w14, some (.lst ws), w16, x])) (evS (F (n + 5)) (kcOf ks) lbq17)) (.nx [w0, w1, w2, w3, w4, w5, w6, some (.int G40), w8, w9, w10, w11, w12, w13, w14, some (.lst (ws ++ [.str "number"])), w16, some d]) mu0 := by
  have ce : tabF (kcOf ks) tx (n + 5) 100000 = errC exs e0 := call_err rfl
  have a1 := add1 (ws := ws) (x := .str "number") (by omega)
  obtain ⟨a, b, rfl, ha, hb, h⟩ : ∃ a b, d = .tup [a, b] ∧ dat a = true ∧ dat b = true ∧ (whB (-G40) G40 a = false ∨ (whB (-G40) G40 a = true ∧ whB 0 120 b = false)) := by
    simp only [row17, List.mem_cons, List.not_mem_nil, or_false] at hd'
    rcases hd' with rfl | rfl | rfl | rfl | rfl | rfl | rfl
    · exact ⟨_, _, rfl, rfl, rfl, .inl (by decide +kernel)⟩
    · exact ⟨_, _, rfl, rfl, rfl, .inl (by decide +kernel)⟩
    · exact ⟨_, _, rfl, rfl, rfl, .inl rfl⟩
    · exact ⟨_, _, rfl, rfl, rfl, .inr ⟨by decide +kernel, by decide +kernel⟩⟩
    · exact ⟨_, _, rfl, rfl, rfl, .inr ⟨by decide +kernel, by decide +kernel⟩⟩
    · exact ⟨_, _, rfl, rfl, rfl, .inr ⟨by decide +kernel, rfl⟩⟩
    · exact ⟨_, _, rfl, rfl, rfl, .inl rfl⟩
  have e := half_of_no (n + 2) ha hb h
  clear hd'
  unfold F at *
  simp -implicitDefEqProofs [bindT, lbq17, evS, DL.get, e, ce]
  refine Rn_bind (Rn_at (At_err clo0 err1)) ?_
  simp -implicitDefEqProofs [a1, setE, l1]
  exact Rn_pure
end
theorem l7e (a b c d e f g : D) : lenOk [a, b, c, d, e, f, g] = M.pure [a, b, c, d, e, f, g] := lenOk_le (by show 7 ≤ 8000; omega)
theorem i17 {C : Nat → List D → M D} (w0 w1 w2 w3 w4 w5 w6 w8 w9 w10 w11 w12 w13 w14 w15 w16 w17 : Option D) : (ev C (kcOf ks) it17).i [w0, w1, w2, w3, w4, w5, w6, some (.int G40), w8, w9, w10, w11, w12, w13, w14, w15, w16, w17] = M.pure row17 := by
  have b1 : binop .add (.int G40) (.int 1) = M.pure (.int (G40 + 1)) := rfl
  have b2 : binop .sub (.int (-G40)) (.int 1) = M.pure (.int (-G40 - 1)) := rfl
  have n1 : negop (.int 1) = M.pure (.int (-1)) := rfl
  have ll := l7e
  have ng := negG
  unfold row17
  generalize G40 + 1 = gp at *
  generalize -G40 - 1 = gm at *
  simp -implicitDefEqProofs [-bin_add', -bin_sub', it17, DL.get, b1, ng, b2, n1, ll]
theorem wp_cons {C : Nat → List D → M D} {K : Nat → D} {s ss : Sz} {ρ ρ' : DL.Env} {μ μ' : Mem} {Q : Out → Mem → Prop} (h : Rn μ (evS C K s ρ) (.nx ρ') μ') (h2 : wp (evS C K ss ρ') μ' Q) : wp (evS C K (.cons s ss) ρ) μ Q := wp_bind (wp_rn h h2)
abbrev hfs (k : Nat) : List D := List.replicate k (.str "half")
abbrev nms : List D := List.replicate 7 (.str "number")
def finW : List D := hfs 10 ++ nms
theorem weq : D.eqP (.lst finW) (.lst finW) = true := by decide +kernel
theorem wpl : D.plain 60 (.lst finW) = true := by decide +kernel
theorem st18 (n : Nat) (w0 w1 w2 w3 w4 w5 w6 w7 w8 w9 w10 w11 w12 w13 w14 w16 w17 : Option D) : evS (F (n + 5)) (kcOf ks) (.cons q18 .nil) [w0, w1, w2, w3, w4, w5, w6, w7, w8, w9, w10, w11, w12, w13, w14, some (.lst finW), w16, w17] = M.pure (.rt (.bl true)) := by
  have m1 : binop .mul (.lst [.str "half"]) (.int 10) = M.pure (.lst (hfs 10)) := mul_lst (by decide)
  have m2 : binop .mul (.lst [.str "number"]) (.int 7) = M.pure (.lst nms) := mul_lst (by decide)
  have a1 : binop .add (.lst (hfs 10)) (.lst nms) = M.pure (.lst finW) := add_lst (by decide)
  have e : cmpop .eq (.lst finW) (.lst finW) = M.pure (.bl true) := by rw [eq_plain wpl wpl, weq]
  have ll := l1
  generalize hfs 10 = x1 at *
  generalize nms = x4 at *
  generalize finW = fw at *
  unfold F
  simp -implicitDefEqProofs [q18, evS, DL.get, ll, m1, m2, a1, e]
theorem lp14 (n : Nat) (w0 w1 w2 w3 w4 w5 w6 w8 w9 w10 w11 w12 w13 w17 : Option D) {bad : D} (h1 : okF bad = true) (h2 : halfB bad = false) : Rn mu0 (evS (F (n + 5)) (kcOf ks) q14 [w0, w1, w2, w3, w4, w5, w6, some (.int G40), w8, w9, w10, w11, w12, w13, some bad, some (.lst []), none, w17]) (.nx [w0, w1, w2, w3, w4, w5, w6, some (.int G40), w8, w9, w10, w11, w12, w13, some bad, some (.lst (hfs 8)), some (.fn 17), w17]) mu0 := by
  have s1 := step14 n h1 h2 w0 w1 w2 w3 w4 w5 w6 w8 w9 w10 w11 w12 w13 w17 [] (by decide) none (k := 6) (by decide)
  have s2 := step14 n h1 h2 w0 w1 w2 w3 w4 w5 w6 w8 w9 w10 w11 w12 w13 w17 (hfs 2) (by decide) (some (.fn 6)) (k := 14) (by decide)
  have s3 := step14 n h1 h2 w0 w1 w2 w3 w4 w5 w6 w8 w9 w10 w11 w12 w13 w17 (hfs 4) (by decide) (some (.fn 14)) (k := 16) (by decide)
  have s4 := step14 n h1 h2 w0 w1 w2 w3 w4 w5 w6 w8 w9 w10 w11 w12 w13 w17 (hfs 6) (by decide) (some (.fn 16)) (k := 17) (by decide)
  have e : ∀ ρ, evS (F (n + 5)) (kcOf ks) q14 ρ = forGo (.nm 16) (evS (F (n + 5)) (kcOf ks) lbq14) [.fn 6, .fn 14, .fn 16, .fn 17] ρ := fun ρ => by
    have ll := l4
    unfold q14
    generalize lbq14 = B
    unfold F
    simp -implicitDefEqProofs [evS, ll]
  rw [e]
  exact Rn_forCons s1 (Rn_forCons s2 (Rn_forCons s3 (Rn_forCons s4 Rn_pure)))
theorem lp17 (n : Nat) (w0 w1 w2 w3 w4 w5 w6 w8 w9 w10 w11 w12 w13 w14 w16 w17 : Option D) : ∃ y, Rn mu0 (evS (F (n + 5)) (kcOf ks) q17 [w0, w1, w2, w3, w4, w5, w6, some (.int G40), w8, w9, w10, w11, w12, w13, w14, some (.lst (hfs 10)), w16, w17]) (.nx [w0, w1, w2, w3, w4, w5, w6, some (.int G40), w8, w9, w10, w11, w12, w13, w14, some (.lst finW), w16, y]) mu0 := by
  obtain ⟨y, h⟩ := loopW (tg := .nm 17) (b := evS (F (n + 5)) (kcOf ks) lbq17) (w := .str "number") (fun ws x => [w0, w1, w2, w3, w4, w5, w6, some (.int G40), w8, w9, w10, w11, w12, w13, w14, some (.lst ws), w16, x]) row17 (fun d hd ws hl x => by
    exact step17 n w0 w1 w2 w3 w4 w5 w6 w8 w9 w10 w11 w12 w13 w14 w16 ws hl x hd) (hfs 10) w17 (by decide)
  refine ⟨y, ?_⟩
  rw [show q17 = .for (.nm 17) it17 lbq17 from rfl]
  exact Rn_bind (Rn_at (show At mu0 _ row17 by rw [i17]; exact At_pure)) h
end Row
namespace Row
open PySem DL
theorem tail_wp (n : Nat) (w0 w2 w3 w4 w5 w6 : Option D) {k : Nat} (hk : k < 120) {st : Int} (hst : 0 ≤ st ∧ st < 1000) {Q : Out → Mem → Prop} (hQ : Q (.rt (.bl true)) mu0) : wp (evS (F (n + 5)) (kcOf ks) (.cons q4 (.cons q5 (.cons q6 (.cons q7 (.cons q8 (.cons q9 (.cons q10 (.cons q11 (.cons q12 (.cons q13 (.cons q14 (.cons q15 (.cons q16 (.cons q17 (.cons q18 .nil))))))))))))))) [w0, some (.ref 0), w2, w3, w4, w5, w6, some (.int G40), some (.int (k : Nat)), some (.int st), none, none, none, none, none, none, none, none]) mu0 Q := by
  rw [st4 n _ _ _ _ _ _ _ _ hk hst, st5 n _ _ _ _ _ _ _ _ _ hk hst, st6 n _ _ _ _ _ _ _ _ _ hk hst, st7 n _ _ _ _ _ _ _ _ _ hk hst, st8 n _ _ _ _ _ _ _ _ hk hst, st10, st12]
  refine st13 n _ _ _ _ _ _ _ _ _ _ _ _ fun bad h1 h2 => ?_
  refine wp_cons (lp14 n _ _ _ _ _ _ _ _ _ _ _ _ _ _ h1 h2) ?_
  refine wp_cons (st15 n h1 h2 _ _ _ _ _ _ _ _ _ _ _ _ _ _ _ (hfs 8) (by decide)) ?_
  refine wp_cons (st16 n _ _ _ _ _ _ _ _ _ _ _ _ _ _ _ _ (hfs 9) (by decide)) ?_
  obtain ⟨y, h⟩ := lp17 n w0 (some (.ref 0)) w2 w3 w4 w5 w6 (some (.int (k : Nat))) (some (.int st)) (some (.lst (dA ++ dB k st ++ dC))) (some (.lst (dA ++ dB k st))) (some (.lst odds22)) none (some bad) (some (.fn 17)) none
  refine wp_cons h ?_
  rw [st18]
  exact wp_pure hQ
def inv12 (ns : List Int) (ρ : DL.Env) (μ : Mem) : Prop := μ = mu0 ∧ ∃ t p a b c d, Hs 60 t p ∧ ρ = [some (.scr ns), some (.ref 0), some (hd t p), a, b, c, d, none, none, none, none, none, none, none, none, none, none, none]
theorem Hs.mono {m m' : Nat} {t : Int} {p : Nat} (h : Hs m t p) (hm : m ≤ m') : Hs m' t p := ⟨h.ht, Nat.le_trans h.hp hm, h.ho⟩
theorem law_wp (ns : List Int) (hn : ns.length ≤ 63) (n : Nat) : wp (α := D) (F (n + 8) 0 [.scr ns]) [] fun a _ => a = .bl true := by
  unfold F
  rw [call_at (d := d0) rfl rfl _ rfl]
  refine wp_pop (wp_mono (Q := fun a μ => a = .bl true ∧ μ = mu0) ?_ fun a μ h => by
    obtain ⟨rfl, rfl⟩ := h
    exact ⟨rfl, rfl⟩)
  rw [run_eq, ebq]
  have hN : d0.N.length = 18 := rfl
  rw [hN]
  have cl : tabF (kcOf ks) tx (n + 7) 1 = primCup := call_cup rfl
  have rl : tabF (kcOf ks) tx (n + 7) 4 = primRoll := call_roll rfl (by decide)
  have lf := fun m hm {Q} => law_half (n + 4) (μ := mu0) (m := m) hm (Q := Q) rfl clo0
  have so : ∀ {Q : D → Mem → Prop}, (∀ i ∈ [(2 : Int), 20, 60], Q (.int i) mu0) → wp (tabF (kcOf ks) tx (n + 7) 5 [.ref 0, .lst [.int 2, .int 20, .int 60]]) mu0 Q := fun h => some_ (n + 5) (is := [2, 20, 60]) rfl clo0 (by decide) h
  have pr := fun {t p u q} (h : Hs 60 t p) (h2 : Hs 60 u q) => pair_right (n + 1) (m := 60) (Nat.le_refl _) h h2
  have br := fun {t p u q} (h : Hs 6 t p) (h2 : Hs 6 u q) => between_right (n + 1) h h2 clo0
  have te := fun w2 w3 w4 w5 w6 {k} hk {st} hst {Q} hQ => tail_wp (n + 2) (some (.scr ns)) w2 w3 w4 w5 w6 (k := k) hk (st := st) hst (Q := Q) hQ
  have r12 : rng1 (.int 12) = M.pure ((List.range 12).map fun (i : Nat) => D.int (i : Int)) := by
    rw [rng1_ok (by omega)]
    rfl
  generalize hT : (Sz.cons q4 (.cons q5 (.cons q6 (.cons q7 (.cons q8 (.cons q9 (.cons q10 (.cons q11 (.cons q12 (.cons q13 (.cons q14 (.cons q15 (.cons q16 (.cons q17 (.cons q18 .nil))))))))))))))) = TT at *
  unfold F at *
  simp -implicitDefEqProofs [q0, q1, q2, evS, DL.get, setE, cl]
  refine wp_bind (wp_cup hn ?_)
  simp -implicitDefEqProofs
  refine wp_bind (wp_res (o := .cup) rfl (fun _ q => nomatch q) ?_)
  refine wp_bind (lf 60 (by decide) fun t p hf => ?_)
  simp -implicitDefEqProofs [r12]
  refine wp_bind (wp_forI (fun _ => inv12 ns) (fun i d ρ μ hd' hI => ?_) (fun ρ μ hI => ?_) ⟨rfl, t, p, _, _, _, _, hf, rfl⟩)
  · obtain ⟨rfl, t, p, a, b, c, d', hf, rfl⟩ := hI
    simp -implicitDefEqProofs [bindT, lbq2, evS, DL.get]
    refine wp_bind (wp_res (o := .cup) rfl (fun _ q => nomatch q) ?_)
    refine wp_bind (wp_res (o := .cup) rfl (fun _ q => nomatch q) ?_)
    refine wp_bind (so fun m hm => ?_)
    have hm' : 0 ≤ m ∧ m ≤ 60 := by
      simp only [List.mem_cons, List.not_mem_nil, or_false] at hm
      omega
    refine wp_bind (lf m hm' fun u q hf2 => ?_)
    have hf2 := hf2.mono (m' := 60) (by omega)
    have p1 := pr hf2 hf
    have p2 := pr hf hf2
    have p3 := pr hf2 hf2
    simp -implicitDefEqProofs [setE, DL.get, p1, p2, p3]
    refine wp_bind (wp_res (o := .cup) rfl (fun _ q => nomatch q) ?_)
    refine wp_bind (lf 6 (by decide) fun x i h3 => ?_)
    refine wp_bind (wp_res (o := .cup) rfl (fun _ q => nomatch q) ?_)
    refine wp_bind (lf 6 (by decide) fun y j h4 => ?_)
    have b1 := br h3 h4
    have b2 := br h4 h3
    have b3 := br h3 h3
    simp -implicitDefEqProofs [setPar, setAll, DL.get]
    refine wp_bind (wp_at b1 ?_)
    simp -implicitDefEqProofs
    refine wp_bind (wp_at b2 ?_)
    simp -implicitDefEqProofs
    refine wp_bind (wp_at b3 ?_)
    simp -implicitDefEqProofs
    exact wp_pure ⟨rfl, u, q, _, _, _, _, hf2, rfl⟩
  · obtain ⟨rfl, t, p, a, b, c, d', hf, rfl⟩ := hI
    simp -implicitDefEqProofs [q3, evS, DL.get, p40, rl]
    refine wp_bind (wp_res (o := .cup) rfl (fun _ q => nomatch q) ?_)
    refine wp_bind (wp_roll (n := 0) rfl (by decide) fun k hk => ?_)
    refine wp_bind (wp_res (o := .cup) rfl (fun _ q => nomatch q) ?_)
    refine wp_bind (wp_roll (n := 0) rfl (by decide) fun st hst => ?_)
    simp -implicitDefEqProofs [setPar, setAll]
    refine wp_bind (te _ _ _ _ _ (show k < 120 by omega) (show 0 ≤ (st : Int) ∧ (st : Int) < 1000 by omega) ?_)
    simp -implicitDefEqProofs
    exact wp_pure ⟨rfl, rfl⟩
theorem law_good : good 60 tx ks 0 := good_of_wp fun ns hn => law_wp ns hn 52
end Row
open PySem PySem.W PySem.Calls PyProof.Rows in
theorem PySem.Challenge.cw_gamesweighed_k00_whole_half_numbers_holds : PySem.Challenge.rw_gamesweighed_k00_whole_half_numbers.Holds := by
  w_on; o_law
  refine HandSHeadRun.head_any (r := OpenLaw.row PySem.Challenge.rw_gamesweighed_k00_whole_half_numbers) (q := view (OpenLaw.row PySem.Challenge.rw_gamesweighed_k00_whole_half_numbers).prog [34]) (H := Row.hk) (ob := Row.obs) (M := 4000) (loose := Row.loose) (d := HandSHeadRun.topDef (OpenLaw.row PySem.Challenge.rw_gamesweighed_k00_whole_half_numbers).prog 34) (kwd := []) Row.obs_eq
    (by kernel_rfl) (fun s => by kernel_rfl) Row.hrun (by kernel_rfl) (by kernel_rfl) (by kernel_rfl) (by rfl) (by first | assumption | decide +kernel) (by decide +kernel) ⟨rfl, rfl, rfl, rfl, rfl, by decide +kernel⟩ ?hw ?hc
  case hw => w_witness2
  case hc =>
    refine LamX.walk_ofTsE (l := PySem.Challenge.rw_gamesweighed_k00_whole_half_numbers) (n := 63) (k := 3 * 60) (x := "script") (CX := fun _ => L2.CX0) rfl (by decide) (by kernel_rfl) ⟨rfl, by decide, by decide⟩ ?F (fun _ _ _ _ _ z => z)
    intro w mg fa h Y G hmg0
    obtain ⟨K, KX, c⟩ := Y
    have hmg : mg ("law" : PySem.Str) = some (.ref fa) := by
      have e : (HandSHeadRun.topDef (OpenLaw.row PySem.Challenge.rw_gamesweighed_k00_whole_half_numbers).prog 34).name = ("law" : PySem.Str) := by kernel_rfl
      rw [← e]
      exact hmg0
    exact ⟨K, KX, DL.law_facts (l := PySem.Challenge.rw_gamesweighed_k00_whole_half_numbers) (w := w) (dL := Row.d0) Row.tok Row.bnd Row.bnde rfl rfl Row.law_good KX G c hmg⟩
