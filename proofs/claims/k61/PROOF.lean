import PyProof.Rows.All
import Wide.All
import OpenK.AllK
import Wide.FinOn
import HandS.ForMost
import HandS.ForExc
import HandS.Wide
import HandS.Conv
import HandS.TupAny
import HandS.IsInst
import HandS.SortInts
import PyProof.ZipIter
import PyProof.EnumIter
import HandS.Iter
import HandS.Comp
import HandS.ExcCtx
import HandS.Hot
import HandS.HotCalls
import HandS.ExcIs
import HandS.Style
import KE.KDictKeyed
import KE.KDictDisplayH
import HandS.Codes
import HandS.Text
import PyProof.ExcBaseAll.ValueError
import PyProof.ListStr
import PyProof.EnumMake
import PyProof.EnumFor
import PyProof.Draws
import HandS.Replace
import HandS.Strs
import HandS.SetTxtIn
import HandS.TupMul
import HandS.TupLen
import HandS.Zip
import HandS.Property
import KE.KOpsOwn
import KE.KCallOwn
import HandS.Star
import HandS.SlotsOwn
import HandS.ExcOwn
import OpenK.KOps
import OpenK.KMeth
import HandS.Flow
import PyProof.NeKinds
import PyProof.EqKinds
import PySem.Challenge.RW_closetabs_k61_rows_as_values
set_option Elab.async false
set_option linter.all false
set_option maxRecDepth 100000
set_option maxHeartbeats 4000000
namespace HX
open PySem PySem.Spec PyProof.Rows L2 HotX L2H
abbrev St := L2.St
section
variable {prog : Program} {w : World} {A : Around} {E : Value → Shared → Prop} {s : Shared}
theorem nextOf_list_end_hot {it l x1 : Addr} {i : Nat} {items} {Q : Value → Shared → Prop} (hot : HotAt A x1 s.heap) (hne : x1 ≠ it)
    (hit : s.heap.IsListIter it l i) (hl : s.heap.IsList l items) (hx : items[i]? = none)
    (hE : ∀ h' e, Heap.ExtBut it s.heap h' → (∃ o, h'.get? e = some o ∧ o.cls = .type "StopIteration") → E (.ref e) { s with heap := h' }) :
    wpAny (model prog w) A (Builtin.SmallTypes.nextOf (.ref it)) Q E s := by
  obtain ⟨hh, o1, vs1, g1, d1, c1⟩ := hot
  obtain ⟨o, ho, hc, hd⟩ := id hit
  obtain ⟨ol, hol, _, nl, hdl⟩ := hl
  unfold Builtin.SmallTypes.nextOf
  refine wpAny_bind (wpAny_callSpecial?_slot (name := Str.ofString "__next__") hit.typeIs slot_listiter_next
    (wpAny_call_entry slot_listiter_next hit.typeIs entry_listiter_next ?_ (args_listiter_next _)))
  show wpAny _ _ (field (.ref it) 0 >>= _) _ _ s
  refine wpAny_bind (wpAny_field ho hd (x := .ref l) rfl ?_)
  show wpAny _ _ (if (Value.ref l == Value.none) = true then _ else _) _ _ s
  rw [if_neg (show ¬ ((Value.ref l == Value.none) = true) from Bool.false_ne_true)]
  show wpAny _ _ (field (.ref it) 1 >>= _) _ _ s
  refine wpAny_bind (wpAny_field ho hd (x := .int i 0) rfl ?_)
  show wpAny _ _ (seqItems? (.ref l) >>= _) _ _ s
  refine wpAny_bind (wpAny_seqItems hol hdl ?_)
  simp only [Int.toNat_natCast, hx]
  refine wpAny_bind (wpAny_rule (wpAny_bind (wpAny_setField ho hd (by simp) ?_)))
  have g2 := (Heap.get?_update_other (h := s.heap) (a := it) (b := x1) (Obj.mapFields (·.setIfInBounds 0 Value.none)) (Ne.symm hne)).trans g1
  show wpAny _ _ (newExc (.type "StopIteration") [] >>= _) _ _ _
  refine wpAny_bind ?_
  simp only [newExc, newTuple]
  refine wpAny_bind (wpAny_newObj_type ?_ (by size_fits))
  refine wpAny_bind (m := firstArgMember _ _) (wpAny_of_eq (a := Value.none) (by first | rfl | (simp only [firstArgMember]; rfl)) ?_)
  refine wpAny_newObj_type ?_ (by size_fits)
  refine raiseNew_hot ⟨hh, o1, vs1, Heap.get?_push_of_some _ (Heap.get?_push_of_some _ g2), d1, c1⟩ (Nat.ne_of_lt (Heap.lt_size (Heap.get?_push_of_some _ g2))) (Heap.get?_push_size _ rfl) rfl (by first | (simp; done) | (simp; omega)) ?_
  refine hE _ _ (fun b o hb e => ?_) ⟨_, Heap.get?_update_self _ (Heap.get?_push_size _ rfl) rfl, rfl⟩
  have e2 := (Heap.SameBut.update (h := s.heap) (a := it) (f := Obj.mapFields (·.setIfInBounds 0 Value.none))).extBut b o hb e
  rw [Heap.get?_update_other _ _ (Nat.ne_of_gt (Heap.lt_size (Heap.get?_push_of_some _ e2)))]
  exact Heap.get?_push_of_some _ (Heap.get?_push_of_some _ e2)
theorem next_tuple_end_hot {it t x1 : Addr} {i : Nat} {items} {Q : Option Value → Shared → Prop} (hot : HotAt A x1 s.heap) (hne : x1 ≠ it)
    (hit : IsTupIter s.heap it t i) (ht : IsTup s.heap t items) (hx : items[i]? = none)
    (hQ : ∀ h', Heap.ExtBut it s.heap h' → Q none { s with heap := h' }) : wpAny (model prog w) A (pyNext (.ref it)) Q E s := by
  obtain ⟨hh, o1, vs1, g1, d1, c1⟩ := hot
  obtain ⟨o, ho, hc, hd⟩ := id hit
  obtain ⟨ol, hol, _, nl, hdl⟩ := ht
  unfold pyNext
  refine wpAny_bind (wpAny_attempt (wpAny_callSpecial?_slot (name := Str.ofString "__next__") hit.typeIs slot_tupleiter_next
    (wpAny_call_entry slot_tupleiter_next hit.typeIs entry_tupleiter_next ?_ (args_tupleiter_next _))))
  show wpAny _ _ (field (.ref it) 0 >>= _) _ _ s
  refine wpAny_bind (wpAny_field ho hd (x := .ref t) rfl ?_)
  show wpAny _ _ (if (Value.ref t == Value.none) = true then _ else _) _ _ s
  rw [if_neg (show ¬ ((Value.ref t == Value.none) = true) from Bool.false_ne_true)]
  show wpAny _ _ (field (.ref it) 1 >>= _) _ _ s
  refine wpAny_bind (wpAny_field ho hd (x := .int i 0) rfl ?_)
  show wpAny _ _ (seqItems? (.ref t) >>= _) _ _ s
  refine wpAny_bind (wpAny_seqItems hol hdl ?_)
  simp only [Int.toNat_natCast, hx]
  refine wpAny_bind (wpAny_rule (wpAny_bind (wpAny_setField ho hd (by simp) ?_)))
  have g2 := (Heap.get?_update_other (h := s.heap) (a := it) (b := x1) (Obj.mapFields (·.setIfInBounds 0 Value.none)) (Ne.symm hne)).trans g1
  show wpAny _ _ (newExc (.type "StopIteration") [] >>= _) _ _ _
  refine wpAny_bind ?_
  simp only [newExc, newTuple]
  refine wpAny_bind (wpAny_newObj_type ?_ (by size_fits))
  refine wpAny_bind (m := firstArgMember _ _) (wpAny_of_eq (a := Value.none) (by first | rfl | (simp only [firstArgMember]; rfl)) ?_)
  refine wpAny_newObj_type ?_ (by size_fits)
  refine raiseNew_hot ⟨hh, o1, vs1, Heap.get?_push_of_some _ (Heap.get?_push_of_some _ g2), d1, c1⟩ (Nat.ne_of_lt (Heap.lt_size (Heap.get?_push_of_some _ g2))) (Heap.get?_push_size _ rfl) rfl (by first | (simp; done) | (simp; omega)) ?_
  refine wpAny_bind (wpAny_isInstance (T := "StopIteration") (b := true) ⟨_, Heap.get?_update_self _ (Heap.get?_push_size _ rfl) rfl, rfl⟩ isSubtype_stop ?_)
  refine wpAny_pure (hQ _ fun b o hb e => ?_)
  have e2 := (Heap.SameBut.update (h := s.heap) (a := it) (f := Obj.mapFields (·.setIfInBounds 0 Value.none))).extBut b o hb e
  rw [Heap.get?_update_other _ _ (Nat.ne_of_gt (Heap.lt_size (Heap.get?_push_of_some _ e2)))]
  exact Heap.get?_push_of_some _ (Heap.get?_push_of_some _ e2)
theorem hotTo {x1 : Addr} {h h' : Heap} (hot : HotAt A x1 h) (k : ∀ o, h.get? x1 = some o → h'.get? x1 = some o) : HotAt A x1 h' := by
  obtain ⟨hh, o1, vs1, g1, d1, c1⟩ := hot
  exact ⟨hh, o1, vs1, k _ g1, d1, c1⟩
theorem hotLt {x1 : Addr} {h : Heap} (hot : HotAt A x1 h) : x1 < h.objs.size := by
  obtain ⟨hh, o1, vs1, g1, d1, c1⟩ := hot
  exact Heap.lt_size g1
theorem unpackItems_tuple_hot {t x1 : Addr} {items : Array Value} {Q : List Value → Shared → Prop} (hot : HotAt A x1 s.heap) (ht : IsTup s.heap t items)
    (hQ : ∀ h', Heap.ExtBut s.heap.objs.size s.heap h' → Q items.toList { s with heap := h' }) : wpAny (model prog w) A (unpackItems (.ref t) items.size none) Q E s := by
  have hlt : t ≠ s.heap.objs.size := by obtain ⟨o, ho, _⟩ := ht; exact Nat.ne_of_lt (Heap.lt_size ho)
  have hx : x1 ≠ s.heap.objs.size := Nat.ne_of_lt (hotLt hot)
  unfold unpackItems
  refine wpAny_bind ?_
  · unfold notIterableAtAll
    refine wpAny_bind (wpAny_specialOf ht.typeIs slot_tuple_iter.lookup ?_)
    refine wpAny_pure ?_
    simp only [Bool.false_eq_true, if_false]
    refine wpAny_bind (wpAny_holding (iter_tuple ht ?_))
    refine wpAny_bind (wpAny_holding (draw_tuple hlt items.size 0 _ _ ⟨_, Heap.get?_push_size _ rfl, rfl, rfl⟩ (ht.push _) (by omega) fun h₁ hit₁ hs₁ => ?_))
    have hall : List.take items.size (List.drop 0 items.toList) = items.toList := by
      rw [List.drop_zero]; exact List.take_of_length_le (by simp)
    rw [hall]
    rw [if_neg (by simp)]
    have ht₁ : IsTup h₁ t items := (ht.push _).extBut hs₁.extBut hlt
    refine wpAny_bind (wpAny_holding (next_tuple_end_hot (hotTo hot fun o e => hs₁.extBut _ _ hx (Heap.get?_push_of_some _ e)) hx hit₁ ht₁ (by simp) fun h₂ he₂ => ?_))
    simp only [Option.isSome_none, Bool.false_eq_true, if_false]
    refine wpAny_pure (hQ h₂ fun b o hb e => he₂ b o hb (hs₁.extBut b o hb (Heap.get?_push_of_some _ e)))
theorem assign_Tuple_tuple_hot {env : Env} {elts : List Expr} {x0} {pos : Pos} {t x1 : Addr} {items : Array Value} {Q : Unit → Shared → Prop} (hot : HotAt A x1 s.heap) (ht : IsTup s.heap t items)
    (hn : (assignEach elts env).length = items.size) (hstar : (assignEach elts env).findIdx? (·.1) = none)
    (h : ∀ h', Heap.ExtBut s.heap.objs.size s.heap h' → wpAny (model prog w) A (assignInOrder ((assignEach elts env).map (·.2)) items.toList) Q E { s with heap := h' }) :
    wpAny (model prog w) A (assign (.Tuple elts x0 pos) env (.ref t)) Q E s := by
  rw [assign_Tuple]
  refine wpAny_bind (wpAny_standAt ?_)
  unfold unpack
  rw [hn, hstar]
  exact wpAny_bind (wpAny_holding (unpackItems_tuple_hot hot ht h))
theorem zip_next_end_hot {z TI TO i1 i2 l1 l2 x1 : Addr} {k1 k2 : Nat} {xs ys : Array Value} {a b : Value} {Q : Fin → Shared → Prop} (hot : HotAt A x1 s.heap) (nz : x1 ≠ z) (nT : x1 ≠ TO) (n1 : x1 ≠ i1) (n2 : x1 ≠ i2) (D : ZipApart z TI TO i1 i2 l1 l2)
    (hz : IsZip s.heap z TI TO .none) (hTI : IsPair s.heap TI (.ref i1) (.ref i2)) (hTO : IsPair s.heap TO a b)
    (h1 : s.heap.IsListIter i1 l1 k1) (h2 : s.heap.IsListIter i2 l2 k2) (hl1 : s.heap.IsList l1 xs) (hl2 : s.heap.IsList l2 ys) (hend : xs[k1]? = none ∨ ys[k2]? = none)
    (hE : ∀ h' e, (∀ c o, c ≠ z → c ≠ TO → c ≠ i1 → c ≠ i2 → s.heap.get? c = some o → h'.get? c = some o) → (∃ o, h'.get? e = some o ∧ o.cls = .type "StopIteration") → E (.ref e) { s with heap := h' }) :
    wpAny (model prog w) A (Builtin.«zip.__next__» ⟨[.ref z], []⟩) Q E s := by
  show wpAny _ _ (field (.ref z) 2 >>= _) _ _ _
  refine wpAny_bind (wpAny_field hz rfl (x := .bool false) rfl ?_)
  show wpAny _ _ (field (.ref z) 3 >>= _) _ _ _
  refine wpAny_bind (wpAny_field hz rfl (x := .ref TI) rfl ?_)
  refine wpAny_bind (wpAny_seqItems hTI rfl ?_)
  show wpAny _ _ (Builtin.SmallTypes.ownedTupleIsFree (.ref z) >>= _) _ _ _
  refine wpAny_bind ?_
  unfold Builtin.SmallTypes.ownedTupleIsFree
  refine wpAny_bind (wpAny_field hz rfl (x := .none) rfl (wpAny_pure ?_))
  simp only [if_true]
  refine wpAny_bind (wpAny_rule ?_)
  refine wpAny_bind (wpAny_field hz rfl (x := .ref TO) rfl ?_)
  refine wpAny_bind (wpAny_setField_rec hz (by simp) fun h₁ hz₁ hs₁ => ?_)
  replace hz₁ : IsZip h₁ z TI TO .ellipsis := hz₁
  have hot₁ : HotAt A x1 h₁ := hotTo hot fun o e => hs₁.extBut _ _ nz e
  refine wpAny_bind ?_
  simp only [List.zipIdx_cons, List.zipIdx_nil, List.forIn_cons, List.forIn_nil]
  refine wpAny_bind (wpAny_bind (wpAny_onRaise ?_))
  show wpAny _ _ (Builtin.SmallTypes.nextOf (.ref i1) >>= _) _ _ _
  cases hx : xs[k1]? with
  | none =>
    refine wpAny_bind (nextOf_list_end_hot hot₁ n1 (h1.extBut hs₁.extBut D.i1z) (hl1.extBut hs₁.extBut D.l1z) hx fun h₂ e hs₂ he => ?_)
    obtain ⟨oe, hoe, hce⟩ := he
    have hz₂ : IsZip h₂ z TI TO .ellipsis := hs₂ _ _ D.i1z.symm hz₁
    have hez : e ≠ z := fun x => by subst x; rw [hz₂] at hoe; cases hoe; simp at hce
    refine wpAny_setField_rec hz₂ (by simp) fun h₃ _ hs₃ => hE h₃ e (fun c o c1 _ c3 _ x => hs₃.extBut _ _ c1 (hs₂ _ _ c3 (hs₁.extBut _ _ c1 x))) ⟨oe, hs₃.extBut _ _ hez hoe, hce⟩
  | some x =>
    have hy : ys[k2]? = none := by rcases hend with h | h; rw [hx] at h; cases h; exact h
    refine wpAny_bind (wpAny_nextOf_list_item (h1.extBut hs₁.extBut D.i1z) (hl1.extBut hs₁.extBut D.l1z) hx fun h₂ h1₂ hs₂ => wpAny_pure ?_)
    have hTO₂ : IsPair h₂ TO a b := hs₂.extBut _ _ D.TOi1 (hs₁.extBut _ _ D.TOz hTO)
    refine wpAny_bind (wpAny_seqItems hTO₂ rfl ?_)
    refine wpAny_bind (wpAny_updateSeq_pair hTO₂ fun h₃ hTO₃ hs₃ => ?_)
    refine wpAny_bind (wpAny_letGo (wpAny_pure ?_))
    refine wpAny_bind (wpAny_bind (wpAny_onRaise ?_))
    have hot₃ : HotAt A x1 h₃ := hotTo hot₁ fun o e => hs₃.extBut _ _ nT (hs₂.extBut _ _ n1 e)
    show wpAny _ _ (Builtin.SmallTypes.nextOf (.ref i2) >>= _) _ _ _
    refine wpAny_bind (nextOf_list_end_hot hot₃ n2 (((h2.extBut hs₁.extBut D.i2z).extBut hs₂.extBut D.i12.symm).extBut hs₃.extBut D.TOi2.symm)
      (((hl2.extBut hs₁.extBut D.l2z).extBut hs₂.extBut D.l2i1).extBut hs₃.extBut D.l2TO) hy fun h₄ e hs₄ he => ?_)
    obtain ⟨oe, hoe, hce⟩ := he
    have hz₄ : IsZip h₄ z TI TO .ellipsis := hs₄ _ _ D.i2z.symm (hs₃.extBut _ _ D.TOz.symm (hs₂.extBut _ _ D.i1z.symm hz₁))
    have hez : e ≠ z := fun x => by subst x; rw [hz₄] at hoe; cases hoe; simp at hce
    refine wpAny_setField_rec hz₄ (by simp) fun h₅ _ hs₅ => hE h₅ e (fun c o c1 c2 c3 c4 x => hs₅.extBut _ _ c1 (hs₄ _ _ c4 (hs₃.extBut _ _ c2 (hs₂.extBut _ _ c3 (hs₁.extBut _ _ c1 x))))) ⟨oe, hs₅.extBut _ _ hez hoe, hce⟩
theorem pyNext_zip_end_hot {z TI TO i1 i2 l1 l2 x1 : Addr} {k1 k2 : Nat} {xs ys : Array Value} {a b : Value} {Q : Option Value → Shared → Prop} (hot : HotAt A x1 s.heap) (nz : x1 ≠ z) (nT : x1 ≠ TO) (n1 : x1 ≠ i1) (n2 : x1 ≠ i2) (D : ZipApart z TI TO i1 i2 l1 l2)
    (hz : IsZip s.heap z TI TO .none) (hTI : IsPair s.heap TI (.ref i1) (.ref i2)) (hTO : IsPair s.heap TO a b)
    (h1 : s.heap.IsListIter i1 l1 k1) (h2 : s.heap.IsListIter i2 l2 k2) (hl1 : s.heap.IsList l1 xs) (hl2 : s.heap.IsList l2 ys) (hend : xs[k1]? = none ∨ ys[k2]? = none)
    (hQ : ∀ h', (∀ c o, c ≠ z → c ≠ TO → c ≠ i1 → c ≠ i2 → s.heap.get? c = some o → h'.get? c = some o) → Q none { s with heap := h' }) : wpAny (model prog w) A (pyNext (.ref z)) Q E s := by
  have hT : s.TypeIs (.ref z) "zip" := ⟨_, hz, rfl⟩
  unfold pyNext
  refine wpAny_bind (wpAny_attempt (wpAny_callSpecial?_slot (name := Str.ofString "__next__") hT F.slot_zip_next
    (wpAny_call_entry F.slot_zip_next hT F.entry_zip_next (zip_next_end_hot hot nz nT n1 n2 D hz hTI hTO h1 h2 hl1 hl2 hend fun h' e hk he => ?_) (F.args_zip_next_1 _))))
  obtain ⟨o, ho, hc⟩ := he
  refine wpAny_bind (wpAny_isInstance (T := "StopIteration") (b := true) ⟨o, ho, hc⟩ isSubtype_stop ?_)
  exact wpAny_pure (hQ _ hk)
end
/-! ## over the hand layer -/
section
variable {X : Cx}
theorem pg_tupH {es : List Expr} {k : Nat} {t : TGs} {n : Nat} {pos : Pos} (hc : HotC X) (h : PGs X es t)
    (hn : (assignEach es X.env).length = n := by rfl) (hst : (assignEach es X.env).findIdx? (·.1) = none := by rfl) : PG X (.Tuple es k pos) (gTup X.K n t) := by
  refine ⟨fun pins s σ H v u Q I r hw => ?_⟩
  obtain ⟨a, xs, e1, hq, hl, hw⟩ := hw
  subst e1
  cases r
  obtain ⟨its, rv, ht, hz⟩ := I.tuple hq
  obtain ⟨x1, hot⟩ := hc.at I
  refine assign_Tuple_tuple_hot hot ht (by simp [hn, ← hl, rv.length]) hst fun h' hx => ?_
  have I1 : Inv X pins σ H { s with heap := h' } := I.kept (t' := s.toks) fun b o e => hx b o (Nat.ne_of_lt (Heap.lt_size e)) e
  exact h.run pins _ σ H xs _ Q I1 (by simpa using rv) hw
theorem turn_zipH {P : Program} {w : World} {K : PySem.W.Frag} {elts : List Expr} {kk : Nat} {tpos : Pos} {a b z TI TO i1 i2 : Addr} (D : ZipApart z TI TO i1 i2 a b) (T : Turn P w K (.Tuple elts kk tpos) (Itz K a b) [z, TI, TO, i1, i2] z (fun i h => IsZip h z TI TO .none ∧ IsPair h TI (.ref i1) (.ref i2) ∧ (∃ x y, IsPair h TO x y) ∧ h.IsListIter i1 a i ∧ h.IsListIter i2 b i)) :
    TurnH P w K (.Tuple elts kk tpos) (Itz K a b) [z, TI, TO, i1, i2] z (fun i h => IsZip h z TI TO .none ∧ IsPair h TI (.ref i1) (.ref i2) ∧ (∃ x y, IsPair h TO x y) ∧ h.IsListIter i1 a i ∧ h.IsListIter i2 b i) where
  mem := T.mem
  obj := T.obj
  keep := T.keep
  item := by
    intro X hP hw hK hc i pins s σ H E I hf st hg
    subst hP hw hK
    obtain ⟨hz, hTI, ⟨x0, y0, hTO⟩, h1, h2⟩ := st
    obtain ⟨xs, ys, x, y, hqx, hqy, hx, hy⟩ := hg
    obtain ⟨its, rv, p, _⟩ := I.list hqx
    obtain ⟨its2, rv2, p2, _⟩ := I.list hqy
    obtain ⟨u, hu, ru⟩ := rv.get hx
    obtain ⟨u2, hu2, ru2⟩ := rv2.get hy
    have hzl : z < s.heap.objs.size := Heap.lt_size hz
    refine wpAny_pyNext_zip_item D hz hTI hTO h1 h2 p.isList p2.isList (x := u) (y := u2) (by simpa using hu) (by simpa using hu2) fun h' z' TO' h1' h2' hT hsz hk => ?_
    refine ⟨_, rfl, wpAny_letOwnedTupleGo_zip (s := { s with heap := h' }) z' fun h'' z'' sb => ?_⟩
    have hT2 : h''.get? s.heap.objs.size = some { cls := .type "tuple", data := .seq #[u, u2] } := (sb.2 _ (Nat.ne_of_gt hzl)).trans hT
    have new : ObjOk X.prog X.w (upd H s.heap.objs.size (.tup [x, y])) h'' s.heap.objs.size (.tup [x, y]) :=
      ⟨by show 2 ≤ sizeLine; decide, [u, u2], .cons ru (.cons ru2 .nil), ⟨_, hT2, rfl, _, rfl⟩⟩
    have I1 : Inv X pins σ (upd H s.heap.objs.size (.tup [x, y])) { s with heap := h'' } :=
      I.turnedNew (t' := s.toks) (ch := [z, TI, TO, i1, i2]) (fun c o hb q => (sb.2 c (fun q' => hb (by simp [q']))).trans (hk c o (fun q' => hb (by simp [q'])) (fun q' => hb (by simp [q'])) (fun q' => hb (by simp [q'])) (fun q' => hb (by simp [q'])) q)) hf (Nat.le_refl _) new
    refine ⟨.ref s.heap.objs.size, _, I1, rfl, ⟨_, x, y, rfl, I.hok.fresh (Nat.le_refl _), rfl, fun l hl => by rw [I.list_inj hl hqx]; exact hx, fun l hl => by rw [I.list_inj hl hqy]; exact hy⟩, ⟨z'', ?_, ⟨u, u2, ?_⟩, ?_, ?_⟩, fun c hcm => ?_⟩
    · exact (sb.2 _ D.TIz).trans (hk _ _ D.TIz D.TITO D.TIi1 D.TIi2 hTI)
    · exact (sb.2 _ D.TOz).trans TO'
    · exact h1'.at fun o q => (sb.2 _ D.i1z).trans q
    · exact h2'.at fun o q => (sb.2 _ D.i2z).trans q
    · have hlt : c < s.heap.objs.size := by
        have e' : c = z ∨ c = TI ∨ c = TO ∨ c = i1 ∨ c = i2 := by simpa using hcm
        rcases e' with q | q | q | q | q
        · rw [q]; exact hzl
        · rw [q]; exact Heap.lt_size hTI
        · rw [q]; exact Heap.lt_size hTO
        · rw [q]; obtain ⟨_, e1, _⟩ := h1; exact Heap.lt_size e1
        · rw [q]; obtain ⟨_, e2, _⟩ := h2; exact Heap.lt_size e2
      rw [upd_ne (Nat.ne_of_lt hlt)]
      exact (hf c hcm).1
  done := by
    intro X hP hw hK hc i pins s σ H E I hf st hg
    subst hP hw hK
    obtain ⟨hz, hTI, ⟨x0, y0, hTO⟩, h1, h2⟩ := st
    obtain ⟨xs, ys, hqx, hqy, hend⟩ := hg
    obtain ⟨its, rv, p, _⟩ := I.list hqx
    obtain ⟨its2, rv2, p2, _⟩ := I.list hqy
    have l1 := rv.length
    have l2 := rv2.length
    have he : its.toArray[i]? = none ∨ its2.toArray[i]? = none := by
      rcases hend with q | q
      · exact .inl (by simp; omega)
      · exact .inr (by simp; omega)
    obtain ⟨p0, ⟨hh, v1, e1, c1⟩, hp⟩ := hc
    have hot : HotAt X.A p0.1 s.heap := ⟨hh, p0.2, v1, (I.pin p0 (List.mem_append_left _ hp)).1, e1, c1⟩
    have nb : ∀ c ∈ [z, TI, TO, i1, i2], p0.1 ≠ c := fun c hc => (hf c hc).2.2.2.2.2 p0 (List.mem_append_left _ hp)
    exact pyNext_zip_end_hot hot (nb z (by simp)) (nb TO (by simp)) (nb i1 (by simp)) (nb i2 (by simp)) D hz hTI hTO h1 h2 p.isList p2.isList he fun h' hk => ⟨rfl, I.turnedL (t' := s.toks) (ch := [z, TI, TO, i1, i2]) (fun c o hb q =>
      hk c o (fun q' => hb (by simp [q'])) (fun q' => hb (by simp [q'])) (fun q' => hb (by simp [q'])) (fun q' => hb (by simp [q'])) q) hf⟩
  self := T.self
theorem pi_zipH {e e2 : Expr} {ta : TA} {p pos tpos : Pos} {elts : List Expr} {kk : Nat} (hg : Gl X "zip") (hm : X.mg "zip" = none) (ha : PA X [e, e2] ta)
    (hs : starEach [e, e2] X.env = (false, eval e X.env) :: starEach [e2] X.env := by rfl) (hpl : (backTo pos (starEach [e2] X.env)).any (·.1) = false := by rfl) :
    PIH X (.Tuple elts kk tpos) (.Call (.Name "zip" p) [e, e2] [] pos) (iZip X.K ta) := by
  refine ⟨fun pins s σ H R I h => ?_⟩
  refine Call_ (ld_blt I hg hm PyProof.Rows.boot_zip (PyProof.Rows.callWith_type1 (thn (ha.run pos pins s σ H _ I h) fun us s1 ⟨vs, H1, I1, r1, q1⟩ => ?_) hs hpl))
  obtain ⟨a, b, xs, ys, ex, hqx, hqy, q⟩ := q1
  subst ex
  cases r1 with
  | cons r rr =>
    cases rr with
    | cons r' rr =>
      cases rr
      cases r
      cases r'
      obtain ⟨its, rv, p1, _⟩ := I1.list hqx
      obtain ⟨its2, rv2, p2, _⟩ := I1.list hqy
      have la : a < s1.heap.objs.size := p1.lt
      have lb : b < s1.heap.objs.size := p2.lt
      refine call_zip_2 p1.isList p2.isList fun h' hz hTI hTO h1 h2 hsz hk => wpAny_pyIter_zip hz ?_
      have I2 : Inv X pins σ H1 { s1 with heap := h' } := I1.kept (t' := s1.toks) hk
      refine ⟨s1.heap.objs.size + 4, [s1.heap.objs.size + 4, s1.heap.objs.size + 2, s1.heap.objs.size + 3, s1.heap.objs.size, s1.heap.objs.size + 1], _, _, H1, rfl, I2, turn_zipH (PySem.W.ktu_apart s1.heap.objs.size a b la lb) (turn_zip (PySem.W.ktu_apart s1.heap.objs.size a b la lb)), ⟨hz, hTI, ⟨_, _, hTO⟩, h1, h2⟩, fun c hcm => ?_, q⟩
      have e' : c = s1.heap.objs.size + 4 ∨ c = s1.heap.objs.size + 2 ∨ c = s1.heap.objs.size + 3 ∨ c = s1.heap.objs.size ∨ c = s1.heap.objs.size + 1 := by simpa using hcm
      have hle : s1.heap.objs.size ≤ c := by
        rcases e' with z | z | z | z | z
        · rw [z]; exact Nat.le_add_right _ _
        · rw [z]; exact Nat.le_add_right _ _
        · rw [z]; exact Nat.le_add_right _ _
        · rw [z]; exact Nat.le_refl _
        · rw [z]; exact Nat.le_add_right _ _
      exact I1.fpOk hle (I1.hok.fresh hle)
end
end HX

namespace HX
open PySem PySem.Spec PyProof.Rows L2 HotX L2H
abbrev blkH (X : Cx) (s : Shared) (H : Hp) (scope : Scope) (cenv : Env) (fp : List Addr) : Cx := { X.blk s H scope cenv fp with pn := X.pn }
section
variable {X : Cx} {pins : List (Addr × Obj)} {σ : L2.St} {H : Hp} {s : Shared}
theorem blkH_of {s0 : Shared} {H0 : Hp} {scope : Scope} {ce : Env} {fp : List Addr} (I : Inv (X.blk s0 H0 scope ce fp) [] σ H s) (hp : ∀ p ∈ X.pn, s.heap.get? p.1 = some p.2 ∧ H p.1 = none ∧ p.1 ≠ ce.locals ∧ p.1 ∉ frs X.stack ∧ ∀ v, p.2.data ≠ .cell v) :
    Inv (blkH X s0 H0 scope ce fp) [] σ H s :=
  ⟨⟨I.ok.mod, I.ok.kind, I.ok.glob, I.ok.blt, I.ok.above, I.ok.inj, I.ok.has, I.ok.cab, I.ok.hd, I.ok.frames, I.ok.stk, I.ok.exf, I.ok.bs, I.ok.bsz, I.ok.noex, I.ok.exfs, I.ok.funs, I.ok.frf⟩, I.os, I.bare, I.base, I.loc, I.cell, I.free, I.freeC, (fun p h => (List.mem_append.mp h).elim (hp p) fun z => absurd z (by simp)), I.hok, I.len⟩
end
section
variable {X : Cx}
theorem lc_coreH {pins : List (Addr × Obj)} {s : Shared} {σ : L2.St} {H : Hp} {Q : VK} {elt tg iter : Expr} {ifs : List Expr} {scope : Scope} {own : List (Str × Nat)} {pos pos' : Pos} {wi : TI} {g : TG} {tt : TT} {te : TE} {use : Option (Value → Sem Unit)} {Qf : Value → Shared → Prop}
    (hc : HotC X) (hN : X.N.Nodup) (I : Inv X pins σ H s) (hi : PIH X tg iter wi) (ok : BlkOk X.N X.env.scope scope own)
    (hg : ∀ (s : Shared) (H : Hp) (C : Addr) (cl : List (Str × Addr)) (fp : List Addr), PG (blkH X s H scope (compEnvC scope cl C X.env) fp) tg g) (ht : ∀ (s : Shared) (H : Hp) (C : Addr) (cl : List (Str × Addr)) (fp : List Addr), PTs (blkH X s H scope (compEnvC scope cl C X.env) fp) ifs tt)
    (he : ∀ (s : Shared) (H : Hp) (C : Addr) (cl : List (Str × Addr)) (fp : List Addr), PE (blkH X s H scope (compEnvC scope cl C X.env) fp) elt te) (hs : ∀ x, foldedSetIterable iter X.env x = pure x)
    (h : tLc wi g tt te (own.map (·.2)) σ H Q)
    (hRR : ∀ D C s' m H', Inv X pins σ H' s' → Q (.ref D) H' → s'.heap.Ns C m → FpOk X pins H' C → compPost (model X.prog X.w) X.A X.xe use Qf (.ref D) C (.ok .next) s') :
    wpAny (model X.prog X.w) X.A (comprehension (.ListComp elt [⟨tg, iter, ifs, 0⟩] scope pos) scope X.env pos' (newList []) false (eval iter X.env) use) Qf X.xe s := by
  have hfree : ∀ y ∈ scope.names, y.2 = .free → ∃ c, X.env.cells.lookup y.1 = some c := fun y hy e => by
    rcases ok.free y hy e with k | k
    · exact I.ok.has _ (.inl k)
    · exact I.ok.has _ (.inr k)
  refine wpAny_comprehension_free (use := use) rfl hs (closure_ok hfree) ok.kind (fun y hy e => by rw [ok.uniq y hy, e])
    (thn (hi.run pins s σ H _ I h) fun xv s1 hx => thn hx fun itv s2 h2 => ?_)
  obtain ⟨it, fp, tn, J, H2, e, I2, T, st2, f2, q⟩ := h2
  subst e
  refine wpAny_newObj_type (newEnv_comp ?_) (by show 0 ≤ sizeLine; decide)
  generalize hD : s2.heap.objs.size = D
  have hDn : H2 D = none := I2.hok.fresh (Nat.le_of_eq hD)
  obtain ⟨W, ⟨m0, w0⟩, turn⟩ := q D hDn
  -- the new list
  generalize hs3 : ({ s2 with heap := s2.heap.push { cls := .type "list", data := .seq ([] : List Value).toArray } } : Shared) = s3
  have I3 : Inv X pins σ (upd H2 D (.lst [])) s3 := by
    rw [← hs3]
    refine I2.laid (t' := s2.toks) (fun b o e => Heap.get?_push_of_some _ e) (Nat.le_of_eq hD) ⟨Nat.zero_le _, [], 0, .nil, ?_⟩
    rw [← hD]
    exact Heap.get?_push_size _ rfl
  have h3 : s3.heap = s2.heap.push { cls := .type "list", data := .seq ([] : List Value).toArray } := by rw [← hs3]
  have sz : ∀ b ∈ fp, b < s2.heap.objs.size := fun b hb => by
    obtain ⟨o, e, _⟩ := T.obj _ _ st2 b hb
    exact Heap.lt_size e
  have f3 : ∀ b ∈ fp, FpOk X pins (upd H2 D (.lst [])) b ∧ b < s3.heap.objs.size := fun b hb => by
    have hlt := sz b hb
    refine ⟨⟨?_, (f2 b hb).2⟩, by rw [h3, Heap.size_push]; exact Nat.lt_succ_of_lt hlt⟩
    rw [upd_ne (by rw [← hD]; exact Nat.ne_of_lt hlt)]
    exact (f2 b hb).1
  have st3 : tn 0 s3.heap := T.keep _ _ _ st2 fun b _ o e => by rw [h3]; exact Heap.get?_push_of_some _ e
  have hP3 : ∀ p ∈ X.pn, s3.heap.get? p.1 = some p.2 ∧ (upd H2 D (.lst [])) p.1 = none ∧ p.1 ≠ s3.heap.objs.size ∧ p.1 ∉ frs X.stack ∧ ∀ v, p.2.data ≠ .cell v := fun p hp => by
    have P1 := I3.pin p (List.mem_append_left _ hp)
    exact ⟨P1.1, P1.2.1, Nat.ne_of_lt (Heap.lt_size P1.1), fun hm => (List.mem_cons.mp (I3.stkSub p.1 hm)).elim P1.2.2.1 P1.2.2.2.1, P1.2.2.2.2⟩
  have I4 := blkH_of (block_start I3 ok hN f3) fun p hp => by
    have P1 := hP3 p hp
    exact ⟨pushCells_keeps _ _ _ _ (Heap.get?_push_of_some _ P1.1), P1.2.1, P1.2.2.1, P1.2.2.2.1, P1.2.2.2.2⟩
  have pg := hg s3 (upd H2 D (.lst [])) s3.heap.objs.size (cellsFrom (s3.heap.objs.size + 1) scope.names (cloFrom X.env.cells scope.names [])) fp
  have pt := ht s3 (upd H2 D (.lst [])) s3.heap.objs.size (cellsFrom (s3.heap.objs.size + 1) scope.names (cloFrom X.env.cells scope.names [])) fp
  have pe := he s3 (upd H2 D (.lst [])) s3.heap.objs.size (cellsFrom (s3.heap.objs.size + 1) scope.names (cloFrom X.env.cells scope.names [])) fp
  show codeAny _ _ (.compStart (.ListComp elt [⟨tg, iter, ifs, 0⟩] scope pos) 0 (.ref it) (.ref D) (compEnvC scope (cellsFrom (s3.heap.objs.size + 1) scope.names (cloFrom X.env.cells scope.names [])) s3.heap.objs.size X.env)) (compPost (model X.prog X.w) X.A X.xe use Qf (.ref D) s3.heap.objs.size) { s3 with heap := pushCells (s3.heap.push { cls := .type "dict", data := .dict #[] }) scope.names }
  have nfp : ∀ b ∈ fp, (upd H2 D (.lst [])) b = none := fun b hb => (f3 b hb).1.1
  generalize hce : compEnvC scope (cellsFrom (s3.heap.objs.size + 1) scope.names (cloFrom X.env.cells scope.names [])) s3.heap.objs.size X.env = ce at I4 pg pt pe ⊢
  have cL : ce.locals = s3.heap.objs.size := by subst hce; rfl
  generalize hH3 : upd H2 D (.lst []) = H3 at I3 I4 pg pt pe w0 nfp f3
  generalize hs4 : ({ s3 with heap := pushCells (s3.heap.push { cls := .type "dict", data := .dict #[] }) scope.names } : Shared) = s4 at I4 ⊢
  have st4 : tn 0 s4.heap := T.keep _ _ _ st3 fun b _ o e => by rw [← hs4]; exact pushCells_keeps _ _ _ _ (Heap.get?_push_of_some _ e)
  have stat : ∀ {σ' : St} {H' : Hp} {s' : Shared}, Inv (blkH X s3 H3 scope ce fp) [] σ' H' s' → (∀ b ∈ fp, H' b = none) → ∀ b ∈ fp, FpOk (blkH X s3 H3 scope ce fp) [] H' b := fun {σ' H' s'} I' hn b hb =>
    ⟨hn b hb, (I'.ok.exf b hb).1, I'.ok.exfs b hb, .inl hb, fun x c e => (I'.ok.exf b hb).2 x c e, fun p hp => by
    rcases List.mem_append.mp hp with hp | hp
    · exact (f3 b hb).1.2.2.2.2.2 p (List.mem_append_left _ (show p ∈ X.pn from hp))
    · cases hp⟩
  have loop : codeAny (model X.prog X.w) X.A (.compLoop (.ListComp elt [⟨tg, iter, ifs, 0⟩] scope pos) 0 (.ref it) (.ref D) ce) (compPost (model X.prog X.w) X.A X.xe use Qf (.ref D) s3.heap.objs.size) s4 := by
    refine compLoop_any (fun n s' => ∃ i H', Inv (blkH X s3 H3 scope ce fp) [] (wipe σ (own.map (·.2))) H' s' ∧ tn i s'.heap ∧ (∀ b ∈ fp, H' b = none) ∧ W i n H') ?_ m0 ⟨0, H3, I4, st4, nfp, w0⟩
    rintro n s5 ⟨i, H5, I5, st5, n5, w5⟩
    rcases turn i n H5 w5 with ⟨stop, qq⟩ | ⟨go, Nx, hNx, step⟩
    · have td := T.done (blkH X s3 H3 scope ce fp) rfl rfl rfl (show HotC (blkH X s3 H3 scope ce fp) from hc) i [] s5 _ H5 (fun _ _ => False) I5 (stat I5 n5) st5 stop
      refine thnF td fun r s6 ⟨hr, I6⟩ => ?_
      subst hr
      -- back in the def's context
      have I7 : Inv X pins σ H5 s6 := I3.call' (ch := fp) I6.os I6.base I6.hok I6.bare fun b hb => ⟨(f3 b hb).1.2.2.2.1, (f3 b hb).1.2.1, (f3 b hb).1.2.2.2.2.1, (f3 b hb).1.2.2.2.2.2⟩
      have nC : H5 s3.heap.objs.size = none := by
        have z : H5 ce.locals = none := I6.free
        rw [cL] at z
        exact z
      obtain ⟨m, hn, _⟩ := I6.loc
      have hn : s6.heap.Ns ce.locals m := hn
      rw [cL] at hn
      exact hRR D s3.heap.objs.size s6 m H5 I7 qq hn (I3.fpOk (Nat.le_refl _) nC)
    · have ti := T.item (blkH X s3 H3 scope ce fp) rfl rfl rfl (show HotC (blkH X s3 H3 scope ce fp) from hc) i [] s5 _ H5 (fun _ _ => False) I5 (stat I5 n5) st5 go
      refine thnF ti fun r s6 ⟨u, hr, h6⟩ => ?_
      subst hr
      refine thnF h6 fun _ s7 ⟨x, H7, I7, r7, y7, st7, n7⟩ => ?_
      have I7' := I7.pinned (stat I7 n7) (T.obj _ _ st7)
      refine thnF (pg.run _ s7 _ H7 x u _ I7' r7 (step x H7 y7)) fun _ s8 ⟨σ8, H8, I8, hw8, q8⟩ => ?_
      refine thnF (pt.run _ s8 σ8 H8 _ I8 q8) fun b s9 ⟨H9, I9, q9⟩ => ?_
      -- the turn's end
      have fin : ∀ {s' : Shared} {H' : Hp}, Inv (blkH X s3 H3 scope ce fp) ([] ++ pinsAt fp s7.heap) σ8 H' s' → Nx H' → ∃ m, m < n ∧ ∃ i H', Inv (blkH X s3 H3 scope ce fp) [] (wipe σ (own.map (·.2))) H' s' ∧ tn i s'.heap ∧ (∀ b ∈ fp, H' b = none) ∧ W i m H' := fun {s' H'} I' nx => by
        obtain ⟨m', hm, w'⟩ := hNx H' nx
        have pin' : ∀ b ∈ fp, ∀ o, s7.heap.get? b = some o → s'.heap.get? b = some o ∧ H' b = none := fun b hb o e =>
          let z := I'.pin (b, o) (List.mem_append_right _ (List.mem_append_right _ (mem_pinsAt hb e)))
          ⟨z.1, z.2.1⟩
        have hl : (wipe σ (own.map (·.2))).length = σ8.length := by rw [← hw8, wipe_length]
        refine ⟨m', hm, i + 1, H', (I'.unpinned (pins := [])).weak hl (fun j v e => ?_), T.keep _ _ _ st7 fun b hb o e => (pin' b hb o e).1, fun b hb => ?_, w'⟩
        · rw [← hw8] at e
          exact (wipe_some e).1
        · obtain ⟨o, e, _⟩ := T.obj _ _ st7 b hb
          exact (pin' b hb o e).2
      cases b with
      | false =>
        simp only [Bool.false_eq_true, if_false] at q9 ⊢
        exact fin I9 q9
      | true =>
        simp only [if_true] at q9 ⊢
        refine thnF (pe.run _ s9 σ8 H9 _ I9 q9) fun z s10 ⟨yv, H10, I10, r10, acc, hD10, hz10, nx⟩ => ?_
        exact app_ok (X := blkH X s3 H3 scope ce fp) I10 hD10 hz10 r10 fun s11 I11 => fin I11 nx
  exact codeAny_compStart_list loop (T.self X.A 0 _ _ _ st4 loop)
/-- as a value -/
theorem pe_lcH {elt tg iter : Expr} {ifs : List Expr} {scope : Scope} {own : List (Str × Nat)} {pos : Pos} {wi : TI} {g : TG} {tt : TT} {te : TE} (hc : HotC X) (hN : X.N.Nodup) (hi : PIH X tg iter wi) (ok : BlkOk X.N X.env.scope scope own)
    (hg : ∀ (s : Shared) (H : Hp) (C : Addr) (cl : List (Str × Addr)) (fp : List Addr), PG (blkH X s H scope (compEnvC scope cl C X.env) fp) tg g) (ht : ∀ (s : Shared) (H : Hp) (C : Addr) (cl : List (Str × Addr)) (fp : List Addr), PTs (blkH X s H scope (compEnvC scope cl C X.env) fp) ifs tt)
    (he : ∀ (s : Shared) (H : Hp) (C : Addr) (cl : List (Str × Addr)) (fp : List Addr), PE (blkH X s H scope (compEnvC scope cl C X.env) fp) elt te) (hs : ∀ x, foldedSetIterable iter X.env x = pure x := by intro _; rfl) :
    PE X (.ListComp elt [⟨tg, iter, ifs, 0⟩] scope pos) (tLc wi g tt te (own.map (·.2))) := by
  refine ⟨fun pins s σ H Q I h => ?_⟩
  rw [eval_ListComp]
  refine lc_coreH hc hN I hi ok hg ht he hs h fun D C s' m H' I' q hn f => ⟨m, hn, fun h'' sb => ?_⟩
  obtain ⟨f0, f1, f2, f3, f4, f5⟩ := f
  exact ⟨.ref D, H', I'.turned (t' := s'.toks) (fun b o hb e => (sb.2 b hb).trans e) f0 f1 f3 f4 f5, rfl, q⟩
/-- name = [..] on one line, the name a local -/
theorem ps_setLcH {i : Nat} {y : Str} {py : Pos} {elt tg iter : Expr} {ifs : List Expr} {scope : Scope} {own : List (Str × Nat)} {pos spos : Pos} {wi : TI} {g : TG} {tt : TT} {te : TE} (hc : HotC X) (hN : X.N.Nodup) (hy : X.N[i]? = some y) (hyl : X.env.scope.names.lookup y = some .local)
    (hsw : swapsWith (.ListComp elt [⟨tg, iter, ifs, 0⟩] scope pos) (some (.Name y py)) spos.line X.env = pure true) (hi : PIH X tg iter wi) (ok : BlkOk X.N X.env.scope scope own)
    (hg : ∀ (s : Shared) (H : Hp) (C : Addr) (cl : List (Str × Addr)) (fp : List Addr), PG (blkH X s H scope (compEnvC scope cl C X.env) fp) tg g) (ht : ∀ (s : Shared) (H : Hp) (C : Addr) (cl : List (Str × Addr)) (fp : List Addr), PTs (blkH X s H scope (compEnvC scope cl C X.env) fp) ifs tt)
    (he : ∀ (s : Shared) (H : Hp) (C : Addr) (cl : List (Str × Addr)) (fp : List Addr), PE (blkH X s H scope (compEnvC scope cl C X.env) fp) elt te) (hs : ∀ x, foldedSetIterable iter X.env x = pure x := by intro _; rfl) :
    PS X (.Assign [.Name y py] (.ListComp elt [⟨tg, iter, ifs, 0⟩] scope pos) spos) (tAsg (tLc wi g tt te (own.map (·.2))) (gName i)) := by
  refine ⟨fun pins s σ H D I h => ?_⟩
  rw [exec_Assign_Name_used _ _ _ _ hsw]
  refine wpAny_bind (wpAny_standAt (wpAny_bind ?_))
  show wpAny _ X.A (do let _ ← comprehension (.ListComp elt [⟨tg, iter, ifs, 0⟩] scope pos) scope X.env (firstIterPos [⟨tg, iter, ifs, 0⟩] pos) (newList []) false (eval iter X.env) (some (assign (.Name y py) X.env))) _ _ s
  have h : tLc wi g tt te (own.map (·.2)) σ H (fun x H1 => gName i x σ H1 D.nx) := h
  refine wpAny_bind (thn (lc_coreH (Qf := fun _ s' => SP X pins D .next s') hc hN I hi ok hg ht he hs h fun L C s' m H' I' q hn f => ?_) fun _ s' hq => wpAny_pure (wpAny_pure hq))
  show wpAny _ _ (assign (.Name y py) X.env (.ref L)) _ _ _
  refine wpAny_assign_Name (store_ok2 (v := V.ref L) I' hN hy (.inl hyl) rfl (fun s2 I2 ⟨a, sb, ha⟩ => ?_) (.inr hyl))
  obtain ⟨f0, f1, f2, f3, f4, f5⟩ := f
  have haC : C ≠ a := by
    rcases ha with z | z
    · rw [z]; exact f1
    · exact fun e => f4 y a z e.symm
  refine ⟨m, hn.sameBut sb haC, fun h3 sb3 => ?_⟩
  exact ⟨_, H', I2.turned (t' := s2.toks) (fun b o hb e => (sb3.2 b hb).trans e) f0 f1 f3 f4 f5, q⟩
theorem hotB {s : Shared} {H : Hp} {scope : Scope} {ce : Env} {fp : List Addr} (h : HotC X) : HotC (blkH X s H scope ce fp) := h
end
end HX

namespace HX
open PySem PySem.Spec PyProof.Rows L2 HotX L2H
/-! ## a def that takes the exception that is handled -/
structure FnE (P : Program) (w : World) (K : PySem.W.Frag) (mg : Str → Option Value) (base : Heap) (CX : CXT) (k : Nat) (f : Addr) (fd : FuncData) (ps : List Str) (sp : Addr × Obj → Sp) : Prop where
  len : ∀ p vs H Q E, sp p vs H Q E → vs.length = ps.length
  run : ∀ (A : Around) (outer : List Env) (s : Shared) (H : Hp) (args : Args) (us : List Value) (vs : List V) (Q : VK) (E : XK) (p : Addr × Obj), RoomH k A → Hot1 A p → PinOk outer H s p → Env0 P w K mg base A outer s H → BindsTo s fd args (ps.zip us) → Vals vs us → sp p vs H Q E →
    codeAny (model P w) A (.call (.ref f) args) (CR CX outer P w H s Q E) s
theorem FnE.mono {P : Program} {w : World} {K : PySem.W.Frag} {mg : Str → Option Value} {base : Heap} {CX : CXT} {j k : Nat} {f : Addr} {fd : FuncData} {ps : List Str} {sp : Addr × Obj → Sp} (F : FnE P w K mg base CX j f fd ps sp) (h : j ≤ k) : FnE P w K mg base CX k f fd ps sp :=
  ⟨F.len, fun A outer s H args us vs Q E p hr => F.run A outer s H args us vs Q E p (hr.mono h)⟩
theorem fn_ofE {CX : CXT} {P : Program} {w : World} {K : PySem.W.Frag} {mg : Str → Option Value} {base : Heap} {k : Nat} {f : Addr} {name qual : Str} {params : Arguments} {body : List Stmt} {scope : Scope} {dV kV doc pm cdv ct oc : Value} {an od : Option Addr}
    {osl : Array (Option Value)} {N ps : List Str} {sp : Addr × Obj → Sp} (lk : K.lookup f = some ⟨oc, od, .func (PySem.W.fnOf name qual params body scope dV kV doc pm an cdv ct), osl⟩) (hcd : PySem.W.codeIn K cdv qual = true) (S : FnScope N ps scope)
    (len : ∀ p vs H Q E, sp p vs H Q E → vs.length = ps.length)
    (hbody : ∀ (A : Around) (outer : List Env) (s : Shared) (H : Hp) (vs : List V) (Q : VK) (E : XK) (p : Addr × Obj), Hot1 A p → RoomH k (A.deeper (envOfC qual scope s.heap.objs.size f cdv)) → sp p vs H Q E →
      ∃ t, PSs (cxH CX P w K mg base N qual scope f cdv A outer s H E p) body t ∧ t { nx := fun _ H' => Q .non H', rt := Q } (L2.start N vs) H) :
    FnE P w K mg base CX (k + 1) f (PySem.W.fnOf name qual params body scope dV kV doc pm an cdv ct) ps sp := by
  refine ⟨len, fun A outer s H args us vs Q E p hr hot hpin e0 hb r hsp => ?_⟩
  have hl := len _ _ _ _ _ hsp
  have KX : K.In s.heap := e0.mod.kin.keeps fun b o e => (e0.bs b o e).1
  have lim : s.heap.NoLimit := e0.mod.nolimit.keeps fun b o e => (e0.bs b o e).1
  have hkind : ∀ y ∈ ps.zip us, scope.names.lookup y.1 = some .local ∨ (scope.names.lookup y.1 = some .cell ∧ ((cellsFrom (s.heap.objs.size + 1) scope.names []).lookup y.1).isSome = true) := fun ⟨n, v⟩ hy => by
    rcases S.par n (List.of_mem_zip hy).1 with q | q
    · exact .inl q
    · exact .inr ⟨q, PySem.W.cellsFrom_some _ _ _ (.inl q)⟩
  refine codeAny_call_function hr.depth (KX _ _ lk) rfl S.co S.gen rfl (PySem.W.codeRec_of KX hcd) (hb _ _ _ _ ?_)
  refine wpAny_newFunctionEnv_cells S.kind hkind fun env he s1 x => ?_
  subst he
  refine ⟨lim.keeps x.toInCall.keep, codeAny_func ?_⟩
  obtain ⟨t, ht, hq⟩ := hbody A outer s H vs Q E p hot (hr.deeper _) hsp
  have I : Inv (cxH CX P w K mg base N qual scope f cdv A outer s H E p) [] (L2.start N vs) H s1 := inv_startH S hpin e0 hl r x
  refine wpAny_mono (ht.run [] s1 (L2.start N vs) H _ I hq) (fun fl s' hs => ?_) fun e s' hs => hs
  have fin : ∀ {σ' : St} {H' : Hp} {v : V} {u : Value}, Inv (cxH CX P w K mg base N qual scope f cdv A outer s H E p) [] σ' H' s' → RelV v u → Q v H' → CE outer P w H s Q u s' :=
    fun {σ' H' v u} J rv q => ⟨v, H', J.os, J.bare, J.base, J.hok, rv, q⟩
  cases fl with
  | ret u =>
    obtain ⟨v, σ', H', J, rv, q⟩ := hs
    exact fin J rv q
  | next =>
    obtain ⟨σ', H', J, q⟩ := hs
    exact fin (v := V.non) (u := Value.none) J rfl q
  | brk =>
    obtain ⟨_, _, _, q⟩ := hs
    exact False.elim q
  | cont =>
    obtain ⟨_, _, _, q⟩ := hs
    exact False.elim q


section
variable {X : Cx} {CX : CXT} {k : Nat} {f C : Addr} {fd : FuncData} {ps : List Str} {sp : Addr × Obj → Sp} {E : L2.St → XK} {x m : Str} {q pos apos : Pos} {e o : Expr} {es : List Expr} {ta : TE} {t : TA} {q0 : Addr × Obj}
theorem run_fnE {pins : List (Addr × Obj)} {σ : L2.St} {H : Hp} {s : Shared} {Q : VK} {us : List Value} {vs : List V} (F : FnE X.prog X.w X.K X.mg X.base CX k f fd ps sp) (hr : RoomH k X.A) (hot : Hot1 X.A q0) (hp : q0 ∈ X.pn) (hb : Binds X.K fd ps []) (hx : PassesAt CX X σ (E σ))
    (I : Inv X pins σ H s) (r : Vals vs us) (h : sp q0 vs H Q (E σ)) : wpAny (model X.prog X.w) X.A (call (.ref f) us) (EP X pins σ Q) X.xe s := by
  have hl : us.length = ps.length := by rw [← r.length]; exact F.len _ _ _ _ _ h
  have b := hb s us I.kIn (by rw [List.append_nil]; exact hl)
  rw [List.append_nil] at b
  have P1 := I.pin q0 (List.mem_append_left _ hp)
  have hpin : PinOk X.stack H s q0 := ⟨P1.1, P1.2.1, fun hm => (List.mem_cons.mp (I.stkSub q0.1 hm)).elim P1.2.2.1 P1.2.2.2.1, P1.2.2.2.2⟩
  refine wpAny_call (codeAny_mono (F.run X.A X.stack s H ⟨us, []⟩ us vs Q (E σ) q0 hr hot hpin I.env0 b r h) fun r s' hq => ?_)
  cases r with
  | error e => exact hx pins H s e s' I hq
  | ok fl =>
    cases fl with
    | ret u => exact I.after hq
    | next => exact False.elim hq
    | brk => exact False.elim hq
    | cont => exact False.elim hq
theorem pe_callE (F : FnE X.prog X.w X.K X.mg X.base CX k f fd ps sp) (hr : RoomH k X.A) (hot : Hot1 X.A q0) (hp : q0 ∈ X.pn) (hg : Gl X x) (hm : X.mg x = some (.ref f)) (hk : PySem.W.keepIn X.K (.ref f) = true) (hb : Binds X.K fd ps []) (hx : ∀ σ, PassesAt CX X σ (E σ))
    (ha : PA X (e :: es) t) (hdb : (x == ("__debug__" : Str)) = false := by decide) (he : starEach (e :: es) X.env = (false, eval e X.env) :: starEach es X.env := by rfl) (hpl : (backTo pos (starEach es X.env)).any (·.1) = false := by rfl) :
    PE X (.Call (.Name x q) (e :: es) [] pos) (tCallS (sp q0) E t) := by
  refine ⟨fun pins s σ H Q I h => ?_⟩
  refine wpAny_Call_Name_kw (ld_glob I hg hm ?_ hdb)
  refine PySem.W.callWith_K (h₀ := X.base) I.ok.mod.kin hk (thn (ha.run pos pins s σ H _ I h) fun us s1 ⟨vs, H1, I1, r, q⟩ => ⟨I1.kIn, ?_⟩) he hpl
  exact run_fnE F hr hot hp hb (hx σ) I1 r q

/-- isinstance(e, c), e a pinned exception -/
theorem call_isP {a D : Addr} {oe : Obj} (hp : (a, oe) ∈ X.pn) (C : ExcC X.K D) (hz : Zc (.ref D) none oe) (hf : ∃ vs, oe.data = .fields vs) : CallR X (.builtin "isinstance") (rIsE X.K D a) := by
  intro pins s σ H xs us Q I r h
  obtain ⟨c, cv, b, rfl, hcv, e, q⟩ := h
  cases r with
  | cons rx rr =>
    cases rr with
    | cons rt rr =>
      cases rr
      cases rx
      have ec := hcv _ rt
      subst ec
      obtain ⟨hget, _⟩ := I.pin (a, oe) (List.mem_append.mpr (.inl hp))
      obtain ⟨vs, hv⟩ := hf
      have J : PySem.W.InstAt s.heap a oe D none := by
        obtain ⟨oc, od, oda, osl⟩ := oe
        obtain ⟨h1, h2⟩ := hz
        dsimp only at h1 h2 hv
        subst h1 h2 hv
        exact ⟨hget, rfl, rfl, trivial⟩
      exact PySem.W.kia_one (PySem.W.handS_kitx_exc C.hg C.hk C.hs C.hd C.ha C.hn C.ht C.hm) I.kIn J e (fun z => nomatch z) fun tk => ⟨.bl b, H, I.kept (t' := tk) fun _ _ z => z, rfl, q⟩
end
end HX

namespace DL
open PySem L2
/-- the world in which texts are hashed -/
class WW where
  w : World
variable [WW]

/-! data without addresses -/
inductive D where
  | non | bl (b : Bool) | int (i : Int) | str (l : List Nat) | tup (ds : List D) | lst (ds : List D) | ob (ds : List D)

/-- the second ways of SqL, SqT: a list, a tuple of the written part -/
def KL (K : PySem.W.Frag) (a : Addr) (xs : List V) : Prop :=
  ∃ (o : Obj) (its : Array Value) (n : Nat), K.lookup a = some o ∧ o.cls = .type "list" ∧ o.dict = none ∧ o.data = .seq its n ∧ its.size ≤ sizeLine ∧ Vals xs its.toList
def KT (K : PySem.W.Frag) (a : Addr) (xs : List V) : Prop :=
  ∃ (o : Obj) (its : Array Value) (n : Nat), K.lookup a = some o ∧ o.cls = .type "tuple" ∧ o.data = .seq its n ∧ its.size ≤ sizeLine ∧ Vals xs its.toList
def LL (K : PySem.W.Frag) (O : Addr → Prop) (H : Hp) (a : Addr) (xs : List V) : Prop := (Rd H a (.lst xs) ∧ ¬ O a) ∨ KL K a xs
/-- an instance of the program's class of values -/
def obN : List Str := ["own", "commands", "pair"]
/-- what is known of that class -/
structure OCl (K : PySem.W.Frag) (C : Addr) : Prop where
  nm : PySem.W.nsIn K mainGlobals "Presses" = some (some (.ref C))
  ic : C8.InsC K C
  kit : ∀ T ∈ ["int", "bool", "str", "tuple", "list"], PySem.W.kitOne K (.ref C) (.type T) = some false
  sf : PySem.W.selfFirst K C = true
  ns : PySem.W.noSeq K C = true
  na : ∀ f ∈ obN, NoAttr K C f
  rm : PySem.W.findIn K (.ref C) "__rmul__" = some none
  bt : ∀ T ∈ ["NoneType", "int", "bool", "str"], (∃ fo, PySem.W.findIn K (.type T) "__mul__" = some fo) ∧ (∃ ro, PySem.W.findIn K (.type T) "__rmul__" = some ro) ∧ PySem.W.subIn K (.type T) (.ref C) = some false
def LO (K : PySem.W.Frag) (O : Addr → Prop) (H : Hp) (a : Addr) (xs : List V) : Prop := ∃ C dx, OCl K C ∧ H a = some (.ins C dx (obN.zip xs)) ∧ ¬ O a ∧ xs.length = 3
def LT (K : PySem.W.Frag) (O : Addr → Prop) (H : Hp) (a : Addr) (xs : List V) : Prop := (Rd H a (.tup xs) ∧ ¬ O a) ∨ KT K a xs
section
variable {K : PySem.W.Frag} {O O' : Addr → Prop} {H H' : Hp} {a : Addr} {xs : List V}
theorem LL.sq (h : LL K O H a xs) : SqL K H a xs := h.elim (fun z => .inl z.1) .inr
theorem LT.sq (h : LT K O H a xs) : SqT K H a xs := h.elim (fun z => .inl z.1) .inr

mutual
def Dq (K : PySem.W.Frag) (O : Addr → Prop) (H : Hp) : D → V → Prop
  | .non, v => v = .non
  | .bl b, v => v = .bl b
  | .int i, v => v = .int i
  | .str l, v => v = .str ⟨l.toArray⟩
  | .tup ds, v => ∃ a xs, v = .ref a ∧ LT K O H a xs ∧ Dqs K O H ds xs
  | .lst ds, v => ∃ a xs, v = .ref a ∧ LL K O H a xs ∧ Dqs K O H ds xs
  | .ob ds, v => ∃ a xs, v = .ref a ∧ LO K O H a xs ∧ Dqs K O H ds xs
def Dqs (K : PySem.W.Frag) (O : Addr → Prop) (H : Hp) : List D → List V → Prop
  | [], vs => vs = []
  | d :: ds, vs => ∃ v r, vs = v :: r ∧ Dq K O H d v ∧ Dqs K O H ds r
end

/-- from (O, H) to (O', H'): what is not owned is kept -/
structure Mo (O O' : Addr → Prop) (H H' : Hp) : Prop where
  keep : ∀ a o, ¬ O a → H a = some o → H' a = some o
  new : ∀ a, O' a → O a ∨ H a = none
theorem Mo.rd {u : HO} (m : Mo O O' H H') (h : Rd H a u) (n : ¬ O a) : Rd H' a u ∧ ¬ O' a := by
  rcases h with h | ⟨o, h⟩
  · refine ⟨.inl (m.keep a _ n h), fun z => ?_⟩
    rcases m.new a z with q | q
    · exact n q
    · rw [h] at q; cases q
  · refine ⟨.inr ⟨o, m.keep a _ n h⟩, fun z => ?_⟩
    rcases m.new a z with q | q
    · exact n q
    · rw [h] at q; cases q
theorem Mo.ll (m : Mo O O' H H') (h : LL K O H a xs) : LL K O' H' a xs := h.elim (fun z => .inl (m.rd z.1 z.2)) .inr
theorem Mo.lo (m : Mo O O' H H') (h : LO K O H a xs) : LO K O' H' a xs := by
  obtain ⟨C, dx, h1, h2, h3, h4⟩ := h
  refine ⟨C, dx, h1, m.keep a _ h3 h2, fun z => ?_, h4⟩
  rcases m.new a z with q | q
  · exact h3 q
  · rw [h2] at q; cases q
theorem Mo.lt (m : Mo O O' H H') (h : LT K O H a xs) : LT K O' H' a xs := h.elim (fun z => .inl (m.rd z.1 z.2)) .inr
mutual
theorem Mo.dq (m : Mo O O' H H') : ∀ (d : D) (v : V), Dq K O H d v → Dq K O' H' d v
  | .non, _, h => by simpa only [Dq] using h
  | .bl _, _, h => by simpa only [Dq] using h
  | .int _, _, h => by simpa only [Dq] using h
  | .str _, _, h => by simpa only [Dq] using h
  | .tup ds, v, h => by
    simp only [Dq] at h ⊢
    obtain ⟨a, xs, e, h1, h2⟩ := h
    exact ⟨a, xs, e, m.lt h1, Mo.dqs m ds xs h2⟩
  | .lst ds, v, h => by
    simp only [Dq] at h ⊢
    obtain ⟨a, xs, e, h1, h2⟩ := h
    exact ⟨a, xs, e, m.ll h1, Mo.dqs m ds xs h2⟩
  | .ob ds, v, h => by
    simp only [Dq] at h ⊢
    obtain ⟨a, xs, e, h1, h2⟩ := h
    exact ⟨a, xs, e, m.lo h1, Mo.dqs m ds xs h2⟩
theorem Mo.dqs (m : Mo O O' H H') : ∀ (ds : List D) (vs : List V), Dqs K O H ds vs → Dqs K O' H' ds vs
  | [], _, h => by simpa only [Dqs] using h
  | d :: ds, vs, h => by
    simp only [Dqs] at h ⊢
    obtain ⟨v, r, e, h1, h2⟩ := h
    exact ⟨v, r, e, Mo.dq m d v h1, Mo.dqs m ds r h2⟩
end
theorem Mo.refl : Mo O O H H := ⟨fun _ _ _ h => h, fun _ h => .inl h⟩

/-! lists of data, by place -/
theorem dqs_len : ∀ {ds : List D} {vs : List V}, Dqs K O H ds vs → ds.length = vs.length
  | [], _, h => by simp only [Dqs] at h; subst h; rfl
  | d :: ds, vs, h => by
    simp only [Dqs] at h
    obtain ⟨v, r, e, _, h2⟩ := h
    subst e
    simp only [List.length_cons, dqs_len h2]
theorem dqs_nil : Dqs K O H [] [] := by simp only [Dqs]
theorem dqs_cons {d : D} {v : V} {ds : List D} {vs : List V} (h : Dq K O H d v) (t : Dqs K O H ds vs) : Dqs K O H (d :: ds) (v :: vs) := by
  simp only [Dqs]; exact ⟨v, vs, rfl, h, t⟩
theorem dqs_get : ∀ {ds : List D} {vs : List V} {i : Nat} {d : D}, Dqs K O H ds vs → ds[i]? = some d → ∃ v, vs[i]? = some v ∧ Dq K O H d v
  | [], _, i, d, _, e => by simp at e
  | x :: ds, vs, i, d, h, e => by
    simp only [Dqs] at h
    obtain ⟨v, r, rfl, h1, h2⟩ := h
    cases i with
    | zero => simp at e; subst e; exact ⟨v, rfl, h1⟩
    | succ i => simp at e; obtain ⟨w, q1, q2⟩ := dqs_get h2 e; exact ⟨w, by simpa using q1, q2⟩
theorem dqs_getV : ∀ {ds : List D} {vs : List V} {i : Nat} {v : V}, Dqs K O H ds vs → vs[i]? = some v → ∃ d, ds[i]? = some d ∧ Dq K O H d v
  | [], _, i, d, h, e => by simp only [Dqs] at h; subst h; simp at e
  | x :: ds, vs, i, d, h, e => by
    simp only [Dqs] at h
    obtain ⟨v, r, rfl, h1, h2⟩ := h
    cases i with
    | zero => simp at e; subst e; exact ⟨x, rfl, h1⟩
    | succ i => simp at e; obtain ⟨w, q1, q2⟩ := dqs_getV h2 e; exact ⟨w, by simpa using q1, q2⟩
theorem dqs_app : ∀ {ds es : List D} {vs ws : List V}, Dqs K O H ds vs → Dqs K O H es ws → Dqs K O H (ds ++ es) (vs ++ ws)
  | [], es, vs, ws, h, g => by simp only [Dqs] at h; subst h; exact g
  | d :: ds, es, vs, ws, h, g => by
    simp only [Dqs] at h
    obtain ⟨v, r, rfl, h1, h2⟩ := h
    exact dqs_cons h1 (dqs_app h2 g)
theorem dqs_set : ∀ {ds : List D} {vs : List V} {i : Nat} {d : D} {v : V}, Dqs K O H ds vs → Dq K O H d v → Dqs K O H (ds.set i d) (vs.set i v)
  | [], vs, i, d, v, h, g => by simp only [Dqs] at h; subst h; exact dqs_nil
  | x :: ds, vs, i, d, v, h, g => by
    simp only [Dqs] at h
    obtain ⟨w, r, rfl, h1, h2⟩ := h
    cases i with
    | zero => exact dqs_cons g h2
    | succ i => exact dqs_cons h1 (dqs_set h2 g)
theorem dqs_take : ∀ {ds : List D} {vs : List V} (n : Nat), Dqs K O H ds vs → Dqs K O H (ds.take n) (vs.take n)
  | [], vs, n, h => by simp only [Dqs] at h; subst h; simp [dqs_nil]
  | x :: ds, vs, n, h => by
    simp only [Dqs] at h
    obtain ⟨w, r, rfl, h1, h2⟩ := h
    cases n with
    | zero => exact dqs_nil
    | succ n => exact dqs_cons h1 (dqs_take n h2)
theorem dqs_drop : ∀ {ds : List D} {vs : List V} (n : Nat), Dqs K O H ds vs → Dqs K O H (ds.drop n) (vs.drop n)
  | [], vs, n, h => by simp only [Dqs] at h; subst h; simp [dqs_nil]
  | x :: ds, vs, n, h => by
    simp only [Dqs] at h
    obtain ⟨w, r, rfl, h1, h2⟩ := h
    cases n with
    | zero => exact dqs_cons h1 h2
    | succ n => exact dqs_drop n h2
theorem dqs_erase : ∀ {ds : List D} {vs : List V} (n : Nat), Dqs K O H ds vs → Dqs K O H (ds.eraseIdx n) (vs.eraseIdx n)
  | [], vs, n, h => by simp only [Dqs] at h; subst h; simp [dqs_nil]
  | x :: ds, vs, n, h => by
    simp only [Dqs] at h
    obtain ⟨w, r, rfl, h1, h2⟩ := h
    cases n with
    | zero => exact h2
    | succ n => exact dqs_cons h1 (dqs_erase n h2)
theorem dqs_rev : ∀ {ds : List D} {vs : List V}, Dqs K O H ds vs → Dqs K O H ds.reverse vs.reverse
  | [], vs, h => by simp only [Dqs] at h; subst h; exact dqs_nil
  | x :: ds, vs, h => by
    simp only [Dqs] at h
    obtain ⟨w, r, rfl, h1, h2⟩ := h
    simp only [List.reverse_cons]
    exact dqs_app (dqs_rev h2) (dqs_cons h1 dqs_nil)
/-- flat data are their values -/
def sv : D → V
  | .non => .non
  | .bl b => .bl b
  | .int i => .int i
  | .str l => .str ⟨l.toArray⟩
  | _ => .non
def flat : D → Bool
  | .tup _ => false
  | .lst _ => false
  | .ob _ => false
  | _ => true
theorem dq_flat {d : D} {v : V} (f : flat d = true) : Dq K O H d v ↔ v = sv d := by
  cases d <;> first | (simp [flat] at f; done) | simp only [Dq, sv]
theorem dqs_flat : ∀ {ds : List D} {vs : List V}, ds.all flat = true → (Dqs K O H ds vs ↔ vs = ds.map sv)
  | [], vs, _ => by simp only [Dqs, List.map_nil]
  | d :: ds, vs, f => by
    simp only [List.all_cons, Bool.and_eq_true] at f
    simp only [Dqs, List.map_cons]
    constructor
    · rintro ⟨v, r, rfl, h1, h2⟩
      rw [(dq_flat f.1).mp h1, (dqs_flat f.2).mp h2]
    · rintro rfl
      exact ⟨_, _, rfl, (dq_flat f.1).mpr rfl, (dqs_flat f.2).mpr rfl⟩
end

/-! keys of dicts: nested tuples of ints, texts and None; a dict by its entries -/
/-! the key of a datum -/
mutual
def nk0 : D → Option NestedKey
  | .non => some .none
  | .int i => some (.num i)
  | .str l => some (.text ⟨l.toArray⟩)
  | .tup ds => (nks0 ds).map .tup
  | _ => none
def nks0 : List D → Option (List NestedKey)
  | [] => some []
  | d :: ds => (nk0 d).bind fun k => (nks0 ds).map fun ks => k :: ks
end
def nk : D → Option NestedKey
  | .tup ds => (nks0 ds).bind fun ks => if NestedKey.depthAll ks + 1 ≤ 8 then some (.tup ks) else none
  | _ => none
abbrev Ent := NestedKey × Addr × V
def EntOk (e : Ent) (de : DictEntry) : Prop := de.hash = e.1.hash WW.w ∧ de.key = .ref e.2.1 ∧ RelV e.2.2 de.val
def dictO (a : Addr) (ep : Nat) (es : List Ent) : HO := .ext fun h => ∃ o des, h.get? a = some o ∧ o.ExactDict ∧ o.data = .dict des ep ∧ Paired EntOk es des.toList ∧ es.length ≤ sizeLine ∧ (a == sysModules) = false
def Dks (K : PySem.W.Frag) (O : Addr → Prop) (H : Hp) : List (D × D) → List Ent → Prop
  | [], [] => True
  | kv :: kvs, e :: es => (nk kv.1 = some e.1 ∧ Dq K O H kv.1 (.ref e.2.1) ∧ Dq K O H kv.2 e.2.2) ∧ Dks K O H kvs es
  | _, _ => False
theorem Mo.dks {K : PySem.W.Frag} {O O' : Addr → Prop} {H H' : Hp} (m : Mo O O' H H') : ∀ {kvs : List (D × D)} {es : List Ent}, Dks K O H kvs es → Dks K O' H' kvs es
  | [], [], _ => trivial
  | [], _ :: _, h => h.elim
  | _ :: _, [], h => h.elim
  | _ :: _, _ :: _, h => ⟨⟨h.1.1, m.dq _ _ h.1.2.1, m.dq _ _ h.1.2.2⟩, Mo.dks m h.2⟩
/-- what stands at a dict's address -/
def DicAt (K : PySem.W.Frag) (O : Addr → Prop) (H : Hp) (a : Addr) (ep : Nat) (kvs : List (D × D)) : Prop := ∃ es, H a = some (dictO a ep es) ∧ Dks K O H kvs es ∧ (es.map (·.1)).Nodup
theorem DicAt.to {K : PySem.W.Frag} {O O' : Addr → Prop} {H H' : Hp} (m : Mo O O' H H') {a : Addr} {ep : Nat} {kvs : List (D × D)} (h : DicAt K O H a ep kvs) (e : H' a = H a) : DicAt K O' H' a ep kvs := by
  obtain ⟨es, q1, q2, q3⟩ := h
  exact ⟨es, e.trans q1, m.dks q2, q3⟩

/-- what such an instance's class must have -/
def OCls (K : PySem.W.Frag) (C : Addr) (kd : List Nat) : Prop := Cls K C ∧ NoAttr K C "states" ∧ (∃ u, Con K C "KIND" (.str ⟨kd.toArray⟩) u) ∧
  ∃ nm : Str, (nm, kd) ∈ [(("Bar" : Str), [114, 105, 103, 104, 116]), ("LeftBar", [108, 101, 102, 116]), ("RecentBar", [114, 101, 99, 101, 110, 116])] ∧ PySem.W.nsIn K mainGlobals nm = some (some (.ref C))
/-- an instance whose one attribute `states` is a list of its own -/
def BarAt (K : PySem.W.Frag) (O : Addr → Prop) (H : Hp) (kd : List Nat) (C dx x a : Addr) (ds : List D) : Prop := ((H x = some (.ins C dx [("states", .ref a)]) ∧ ¬ O x) ∧ OCls K C kd) ∧ ∃ xs, H a = some (.lst xs) ∧ Dqs K O H ds xs
theorem BarAt.to {K : PySem.W.Frag} {O O' : Addr → Prop} {H H' : Hp} (m : Mo O O' H H') {kd : List Nat} {C dx x a : Addr} {ds : List D} (h : BarAt K O H kd C dx x a ds) (e : H' a = H a) : BarAt K O' H' kd C dx x a ds := by
  obtain ⟨⟨⟨q1, q2⟩, qc⟩, xs, q3, q4⟩ := h
  refine ⟨⟨⟨m.keep x _ q2 q1, fun z => ?_⟩, qc⟩, xs, e.trans q3, m.dqs ds xs q4⟩
  rcases m.new x z with z | z
  · exact q2 z
  · rw [q1] at z; cases z

/-! the slots of a def, and what an expression yields -/
inductive Sl where
  | no | v (d : D) | l (a : Addr) (ds : List D) | d (a : Addr) (ep : Nat) (kvs : List (D × D)) | o (kd : List Nat) (C dx x a : Addr) (ds : List D)
abbrev DEnv := List Sl
def adr : Sl → Option Addr
  | .l a _ => some a
  | .d a _ _ => some a
  | .o _ _ _ _ a _ => some a
  | _ => none
def adrs (ρ : DEnv) : List Addr := ρ.filterMap adr
def Ow (U : Addr → Prop) (ρ : DEnv) : Addr → Prop := fun a => U a ∨ a ∈ adrs ρ
def SlOk (K : PySem.W.Frag) (O : Addr → Prop) (H : Hp) : Sl → Option V → Prop
  | .no, _ => True
  | .v d, o => ∃ v, o = some v ∧ Dq K O H d v
  | .l a ds, o => o = some (.ref a) ∧ ∃ xs, H a = some (.lst xs) ∧ Dqs K O H ds xs
  | .d a ep kvs, o => o = some (.ref a) ∧ DicAt K O H a ep kvs
  | .o kd C dx x a ds, o => o = some (.ref x) ∧ BarAt K O H kd C dx x a ds
def Slots (K : PySem.W.Frag) (O : Addr → Prop) (H : Hp) : DEnv → St → Prop
  | [], [] => True
  | s :: ρ, o :: σ => SlOk K O H s o ∧ Slots K O H ρ σ
  | _, _ => False
structure Rep (K : PySem.W.Frag) (U : Addr → Prop) (H : Hp) (σ : St) (ρ : DEnv) : Prop where
  slots : Slots K (Ow U ρ) H ρ σ
  nd : (adrs ρ).Nodup
  uth : ∀ a, U a → ∃ o, H a = some o
  dis : ∀ a, a ∈ adrs ρ → ¬ U a
inductive Rs where
  | v (d : D) | f (a : Addr) (ds : List D) | b (i : Nat)
/-- U and one address more -/
abbrev Ua (U : Addr → Prop) (a : Addr) : Addr → Prop := fun b => U b ∨ b = a
def RepR (K : PySem.W.Frag) (U : Addr → Prop) (H : Hp) (ρ : DEnv) : Rs → V → Prop
  | .v d, x => Dq K (Ow U ρ) H d x
  | .f a ds, x => x = .ref a ∧ ¬ Ow U ρ a ∧ ∃ xs, H a = some (.lst xs) ∧ Dqs K (Ow (Ua U a) ρ) H ds xs
  | .b i, x => ∃ a ds, ρ[i]? = some (.l a ds) ∧ x = .ref a
def er : Sl → Sl
  | .l a _ => .l a []
  | .d a _ _ => .d a 0 []
  | .o kd C dx x a _ => .o kd C dx x a []
  | s => s
/-- all that is not owned is kept; what is new is fresh; nothing goes away -/
structure Xt (ρ ρ' : DEnv) (H H' : Hp) : Prop where
  keep : ∀ a o, a ∉ adrs ρ → H a = some o → H' a = some o
  new : ∀ a, a ∈ adrs ρ' → a ∈ adrs ρ ∨ H a = none
  there : ∀ a o, H a = some o → ∃ o', H' a = some o'
/-- behind a statement -/
structure AftS (K : PySem.W.Frag) (U : Addr → Prop) (ρ : DEnv) (H : Hp) (ρ' : DEnv) (σ' : St) (H' : Hp) : Prop where
  rep : Rep K U H' σ' ρ'
  xt : Xt ρ ρ' H H'
/-- behind an expression -/
structure Aft (K : PySem.W.Frag) (U : Addr → Prop) (ρ : DEnv) (H : Hp) (σ : St) (ρ' : DEnv) (H' : Hp) : Prop extends AftS K U ρ H ρ' σ H' where
  er : ρ'.map er = ρ.map er

section
variable {K : PySem.W.Frag} {U : Addr → Prop} {O O' : Addr → Prop} {H H' H1 H2 : Hp} {ρ ρ' ρ1 ρ2 : DEnv} {σ σ' σ1 σ2 : St}
theorem adrs_cons (s : Sl) (ρ : DEnv) : adrs (s :: ρ) = (adr s).toList ++ adrs ρ := by
  unfold adrs
  cases h : adr s with
  | none => simp [List.filterMap_cons, h]
  | some a => simp [List.filterMap_cons, h]
theorem adr_er (s : Sl) : adr (er s) = adr s := by cases s <;> rfl
theorem adrs_er : ∀ {ρ ρ' : DEnv}, ρ'.map er = ρ.map er → adrs ρ' = adrs ρ
  | [], [], _ => rfl
  | [], _ :: _, h => by simp at h
  | _ :: _, [], h => by simp at h
  | s :: ρ, s' :: ρ', h => by
    simp only [List.map_cons, List.cons.injEq] at h
    rw [adrs_cons, adrs_cons, adrs_er h.2, ← adr_er s', h.1, adr_er]
theorem mem_adrs {i : Nat} {a : Addr} {ds : List D} (h : ρ[i]? = some (.l a ds)) : a ∈ adrs ρ := List.mem_filterMap.mpr ⟨_, List.mem_of_getElem? h, rfl⟩
theorem mem_adrsA {i : Nat} {a : Addr} {s : Sl} (h : ρ[i]? = some s) (e : adr s = some a) : a ∈ adrs ρ := List.mem_filterMap.mpr ⟨_, List.mem_of_getElem? h, e⟩
theorem Xt.refl : Xt ρ ρ H H := ⟨fun _ _ _ h => h, fun _ h => .inl h, fun _ o h => ⟨o, h⟩⟩
theorem Xt.trans (x : Xt ρ ρ1 H H1) (y : Xt ρ1 ρ2 H1 H2) : Xt ρ ρ2 H H2 := by
  have back : ∀ a, H1 a = none → H a = none := fun a h => by
    cases q : H a with
    | none => rfl
    | some o => obtain ⟨o', e⟩ := x.there a o q; rw [h] at e; cases e
  refine ⟨fun a o n h => y.keep a o (fun z => ?_) (x.keep a o n h), fun a h => ?_, fun a o h => ?_⟩
  · rcases x.new a z with q | q
    · exact n q
    · rw [h] at q; cases q
  · rcases y.new a h with q | q
    · exact x.new a q
    · exact .inr (back a q)
  · obtain ⟨o', e⟩ := x.there a o h
    exact y.there a o' e
theorem Xt.mo (x : Xt ρ ρ' H H') : Mo (Ow U ρ) (Ow U ρ') H H' :=
  ⟨fun a o n h => x.keep a o (fun z => n (.inr z)) h, fun a h => h.elim (fun z => .inl (.inl z)) fun z => (x.new a z).imp (fun q => .inr q) id⟩
theorem AftS.trans (x : AftS K U ρ H ρ1 σ1 H1) (y : AftS K U ρ1 H1 ρ2 σ2 H2) : AftS K U ρ H ρ2 σ2 H2 := ⟨y.rep, x.xt.trans y.xt⟩
theorem Aft.trans (x : Aft K U ρ H σ ρ1 H1) (y : Aft K U ρ1 H1 σ ρ2 H2) : Aft K U ρ H σ ρ2 H2 := ⟨⟨y.rep, x.xt.trans y.xt⟩, y.er.trans x.er⟩
theorem Rep.refl (R : Rep K U H σ ρ) : Aft K U ρ H σ ρ H := ⟨⟨R, Xt.refl⟩, rfl⟩
theorem Rep.reflS (R : Rep K U H σ ρ) : AftS K U ρ H ρ σ H := ⟨R, Xt.refl⟩
theorem Aft.mo (x : Aft K U ρ H σ ρ' H') (R : Rep K U H σ ρ) : Mo (Ow U ρ) (Ow U ρ') H H' := x.xt.mo
theorem Aft.adr (x : Aft K U ρ H σ ρ' H') : adrs ρ' = adrs ρ := adrs_er x.er
/-- a result stays behind a further expression -/
theorem Aft.keepR (x : Aft K U ρ H σ ρ' H') (R : Rep K U H σ ρ) : ∀ {r : Rs} {v : V}, RepR K U H ρ r v → RepR K U H' ρ' r v
  | .v d, v, h => (x.mo R).dq d v h
  | .f a ds, v, h => by
    obtain ⟨e, n, xs, q1, q2⟩ := h
    refine ⟨e, fun z => ?_, xs, x.xt.keep a _ (fun z => n (.inr z)) q1, x.xt.mo.dqs ds xs q2⟩
    rcases z with z | z
    · exact n (.inl z)
    · rw [x.adr] at z; exact n (.inr z)
  | .b i, v, h => by
    obtain ⟨a, ds, e, ev⟩ := h
    have q : (ρ'.map DL.er)[i]? = (ρ.map DL.er)[i]? := by rw [x.er]
    rw [List.getElem?_map, List.getElem?_map, e] at q
    cases z : ρ'[i]? with
    | none => rw [z] at q; simp at q
    | some s =>
      rw [z] at q
      simp only [Option.map_some, Option.some.injEq] at q
      cases s with
      | l a' ds' => simp only [DL.er, Sl.l.injEq] at q; obtain ⟨q, _⟩ := q; subst q; exact ⟨a', ds', z, ev⟩
      | no => simp [DL.er] at q
      | v d => simp [DL.er] at q
      | d a ep kvs => simp [DL.er] at q
      | o kd C dx x a ds => simp [DL.er] at q
/-! slots by place -/
theorem Slots.len : ∀ {ρ : DEnv} {σ : St}, Slots K O H ρ σ → ρ.length = σ.length
  | [], [], _ => rfl
  | [], _ :: _, h => h.elim
  | _ :: _, [], h => h.elim
  | _ :: ρ, _ :: σ, h => by simp only [List.length_cons, Slots.len h.2]
theorem Slots.get : ∀ {ρ : DEnv} {σ : St} {i : Nat} {s : Sl}, Slots K O H ρ σ → ρ[i]? = some s → ∃ o, σ[i]? = some o ∧ SlOk K O H s o
  | [], [], i, s, _, e => by simp at e
  | [], _ :: _, _, _, h, _ => h.elim
  | _ :: _, [], _, _, h, _ => h.elim
  | t :: ρ, o :: σ, 0, s, h, e => by simp at e; subst e; exact ⟨o, rfl, h.1⟩
  | t :: ρ, o :: σ, i + 1, s, h, e => by simp at e; obtain ⟨o', q1, q2⟩ := Slots.get h.2 e; exact ⟨o', by simpa using q1, q2⟩
theorem Slots.set : ∀ {ρ : DEnv} {σ : St} (i : Nat) {s : Sl} {o : Option V}, Slots K O H ρ σ → SlOk K O H s o → Slots K O H (ρ.set i s) (σ.set i o)
  | [], [], _, _, _, h, _ => h
  | [], _ :: _, _, _, _, h, _ => h.elim
  | _ :: _, [], _, _, _, h, _ => h.elim
  | t :: ρ, u :: σ, 0, s, o, h, g => ⟨g, h.2⟩
  | t :: ρ, u :: σ, i + 1, s, o, h, g => ⟨h.1, Slots.set i h.2 g⟩
/-- the slots stay, if the lists' own objects do -/
theorem Slots.mono (m : Mo O O' H H') : ∀ {ρ : DEnv} {σ : St}, (∀ a, a ∈ adrs ρ → H' a = H a) → Slots K O H ρ σ → Slots K O' H' ρ σ
  | [], [], _, _ => trivial
  | [], _ :: _, _, h => h.elim
  | _ :: _, [], _, h => h.elim
  | t :: ρ, u :: σ, k, h => by
    have kr : ∀ a, a ∈ adrs ρ → H' a = H a := fun a z => k a (by rw [adrs_cons]; exact List.mem_append_right _ z)
    refine ⟨?_, Slots.mono m kr h.2⟩
    have h1 := h.1
    cases t with
    | no => trivial
    | v d => obtain ⟨v, e, q⟩ := h1; exact ⟨v, e, m.dq d v q⟩
    | l a ds =>
      obtain ⟨e, xs, q1, q2⟩ := h1
      exact ⟨e, xs, by rw [k a (by rw [adrs_cons]; exact List.mem_append_left _ (by simp [adr]))]; exact q1, m.dqs ds xs q2⟩
    | d a ep kvs => exact ⟨h1.1, h1.2.to m (k a (by rw [adrs_cons]; exact List.mem_append_left _ (by simp [adr])))⟩
    | o kd C dx x a ds => exact ⟨h1.1, h1.2.to m (k a (by rw [adrs_cons]; exact List.mem_append_left _ (by simp [adr])))⟩
end
end DL

namespace DL
open PySem L2
variable [WW]
/-- a new list is new to the heap at the start -/
def Fr (H : Hp) : Rs → Prop
  | .f a _ => H a = none
  | _ => True
structure RepF (K : PySem.W.Frag) (U : Addr → Prop) (H0 H : Hp) (σ : St) (ρ : DEnv) (r : Rs) (v : V) : Prop where
  val : RepR K U H ρ r v
  fre : Fr H0 r
  sep : ∀ a ds, r = .f a ds → Rep K (Ua U a) H σ ρ
theorem Xt.back {ρ ρ' : DEnv} {H H1 : Hp} (x : Xt ρ ρ' H H1) {a : Addr} (h : H1 a = none) : H a = none := by
  cases q : H a with
  | none => rfl
  | some o => obtain ⟨o', e⟩ := x.there a o q; rw [h] at e; cases e
theorem Xt.fr {ρ ρ' : DEnv} {H H1 : Hp} (x : Xt ρ ρ' H H1) {r : Rs} (h : Fr H1 r) : Fr H r := by
  cases r with
  | f a ds => exact x.back h
  | v d => trivial
  | b i => trivial
theorem RepF.bk {K : PySem.W.Frag} {U : Addr → Prop} {ρ ρ1 ρ' : DEnv} {H H1 H' : Hp} {σ : St} {r : Rs} {v : V} (q : RepF K U H1 H' σ ρ' r v) (x : Xt ρ ρ1 H H1) : RepF K U H H' σ ρ' r v := ⟨q.val, x.fr q.fre, q.sep⟩
section
variable {K : PySem.W.Frag} {U : Addr → Prop} {O O' : Addr → Prop} {H H' H1 H2 : Hp} {ρ ρ' ρ1 ρ2 : DEnv} {σ σ' σ1 σ2 : St}
theorem Slots.sm : ∀ {ρ : DEnv} {σ : St} {a : Addr}, Slots K O H ρ σ → a ∈ adrs ρ → ∃ xs, H a = some xs
  | [], [], a, _, e => by simp [adrs] at e
  | [], _ :: _, _, h, _ => h.elim
  | _ :: _, [], _, h, _ => h.elim
  | t :: ρ, o :: σ, a, h, e => by
    rw [adrs_cons] at e
    rcases List.mem_append.mp e with e | e
    · cases t with
      | no => simp [adr] at e
      | v d => simp [adr] at e
      | l b ds =>
        simp [adr] at e
        subst e
        obtain ⟨_, xs, q, _⟩ := h.1
        exact ⟨_, q⟩
      | d b ep kvs =>
        simp [adr] at e
        subst e
        obtain ⟨_, es, q, _⟩ := h.1
        exact ⟨_, q⟩
      | o kd C dx x b ds =>
        simp [adr] at e
        subst e
        obtain ⟨_, _, es, q, _⟩ := h.1
        exact ⟨_, q⟩
    · exact Slots.sm h.2 e
theorem Rep.sm (R : Rep K U H σ ρ) {a : Addr} (h : Ow U ρ a) : ∃ o, H a = some o := by
  rcases h with h | h
  · exact R.uth a h
  · obtain ⟨xs, e⟩ := R.slots.sm h; exact ⟨_, e⟩
theorem upd_there {p : Addr} {o : HO} : ∀ a u, H a = some u → ∃ u', upd H p o a = some u' := fun a u h => by
  by_cases e : a = p
  · subst e; exact ⟨o, upd_same⟩
  · exact ⟨u, by rw [upd_ne e]; exact h⟩
/-- a new object -/
theorem Rep.new (R : Rep K U H σ ρ) {p : Addr} {o : HO} (h : H p = none) : Aft K U ρ H σ ρ (upd H p o) := by
  have x : Xt ρ ρ H (upd H p o) := ⟨fun a u _ e => by rw [upd_ne (ne_of_none e h)]; exact e, fun _ z => .inl z, upd_there⟩
  refine ⟨⟨⟨R.slots.mono (x.mo) fun a ha => ?_, R.nd, fun a ha => ?_, R.dis⟩, x⟩, rfl⟩
  · obtain ⟨xs, e⟩ := R.slots.sm ha
    rw [upd_ne (ne_of_none e h)]
  · obtain ⟨u, e⟩ := R.uth a ha
    exact x.there a u e
theorem Rep.out (R : Rep K U H σ ρ) {p : Addr} (h : H p = none) : ¬ Ow U ρ p := fun z => by
  obtain ⟨o, e⟩ := R.sm z
  rw [h] at e; cases e
theorem Rep.newTup (R : Rep K U H σ ρ) {p : Addr} {ds : List D} {vs : List V} (h : H p = none) (q : Dqs K (Ow U ρ) H ds vs) :
    Aft K U ρ H σ ρ (upd H p (.tup vs)) ∧ RepR K U (upd H p (.tup vs)) ρ (.v (.tup ds)) (.ref p) := by
  have A := R.new (o := .tup vs) h
  refine ⟨A, ?_⟩
  simp only [RepR, Dq]
  exact ⟨p, vs, rfl, .inl ⟨.inl upd_same, R.out h⟩, (A.mo R).dqs ds vs q⟩
theorem Rep.newLst (R : Rep K U H σ ρ) {p : Addr} {ds : List D} {vs : List V} (h : H p = none) (q : Dqs K (Ow U ρ) H ds vs) :
    Aft K U ρ H σ ρ (upd H p (.lst vs)) ∧ RepF K U H (upd H p (.lst vs)) σ ρ (.f p ds) (.ref p) := by
  have A := R.new (o := .lst vs) h
  have m : Mo (Ow U ρ) (Ow (Ua U p) ρ) H (upd H p (.lst vs)) := ⟨fun a o n e => A.xt.keep a o (fun z => n (.inr z)) e, fun a z => by
    rcases z with (z | z) | z
    · exact .inl (.inl z)
    · exact .inr (by rw [z]; exact h)
    · exact .inl (.inr z)⟩
  refine ⟨A, ⟨rfl, R.out h, vs, upd_same, m.dqs ds vs q⟩, h, fun a es e => ?_⟩
  cases e
  refine ⟨R.slots.mono m fun a ha => ?_, R.nd, fun a ha => ?_, fun a ha z => ?_⟩
  · obtain ⟨xs, e⟩ := R.slots.sm ha
    exact upd_ne (ne_of_none e h)
  · rcases ha with z | z
    · exact A.rep.uth a z
    · exact ⟨_, by rw [z]; exact upd_same⟩
  · rcases z with z | z
    · exact R.dis a ha z
    · obtain ⟨xs, e⟩ := R.slots.sm ha
      rw [z, h] at e; cases e
theorem er_set {i : Nat} {a : Addr} {ds ds' : List D} (h : ρ[i]? = some (.l a ds)) : (ρ.set i (.l a ds')).map er = ρ.map er := by
  rw [List.map_set]
  have e : (ρ.map er)[i]? = some (.l a []) := by rw [List.getElem?_map, h]; rfl
  obtain ⟨hi, e⟩ := List.getElem?_eq_some_iff.mp e
  show (ρ.map er).set i (.l a []) = _
  rw [← e, List.set_getElem_self]
/-- each other slot's list lies elsewhere -/
theorem Slots.upd {p : Addr} {xs' : List V} {ds' : List D} (m : Mo O O' H (upd H p (.lst xs'))) (q : Dqs K O' (upd H p (.lst xs')) ds' xs') : ∀ {ρ : DEnv} {σ : St} {i : Nat} {ds : List D}, (adrs ρ).Nodup → ρ[i]? = some (.l p ds) → Slots K O H ρ σ →
    Slots K O' (L2.upd H p (.lst xs')) (ρ.set i (.l p ds')) σ
  | [], _, i, _, _, e, _ => by simp at e
  | _ :: _, [], _, _, _, _, h => h.elim
  | t :: ρ, o :: σ, 0, ds, nd, e, h => by
    simp at e
    subst e
    rw [adrs_cons] at nd
    have nn : p ∉ adrs ρ := fun z => by
      have := List.nodup_append.mp nd
      exact this.2.2 p (by simp [adr]) p z rfl
    refine ⟨⟨h.1.1, xs', upd_same, q⟩, h.2.mono m fun a ha => upd_ne fun z => nn (z ▸ ha)⟩
  | t :: ρ, o :: σ, i + 1, ds, nd, e, h => by
    simp at e
    rw [adrs_cons] at nd
    have nd' := List.nodup_append.mp nd
    refine ⟨?_, Slots.upd m q nd'.2.1 e h.2⟩
    have h1 := h.1
    cases t with
    | no => trivial
    | v d => obtain ⟨v, e', q'⟩ := h1; exact ⟨v, e', m.dq d v q'⟩
    | l a es =>
      obtain ⟨e', xs, q1, q2⟩ := h1
      have ne : a ≠ p := nd'.2.2 a (by simp [adr]) p (mem_adrs e)
      exact ⟨e', xs, by rw [upd_ne ne]; exact q1, m.dqs es xs q2⟩
    | d a ep kvs =>
      have ne : a ≠ p := nd'.2.2 a (by simp [adr]) p (mem_adrs e)
      exact ⟨h1.1, h1.2.to m (upd_ne ne)⟩
    | o kd C dx x a ds =>
      have ne : a ≠ p := nd'.2.2 a (by simp [adr]) p (mem_adrs e)
      exact ⟨h1.1, h1.2.to m (upd_ne ne)⟩
theorem Rep.mut (R : Rep K U H σ ρ) {i : Nat} {a : Addr} {ds ds' : List D} {xs' : List V} (e : ρ[i]? = some (.l a ds)) (q : Dqs K (Ow U ρ) H ds' xs') : Aft K U ρ H σ (ρ.set i (.l a ds')) (upd H a (.lst xs')) := by
  have ee := er_set (ds' := ds') e
  have ea : adrs (ρ.set i (.l a ds')) = adrs ρ := adrs_er ee
  have ha := mem_adrs e
  have x : Xt ρ (ρ.set i (.l a ds')) H (upd H a (.lst xs')) := ⟨fun b o n h => by rw [upd_ne (fun z => n (by rw [z]; exact ha))]; exact h, fun b h => .inl (by rw [ea] at h; exact h), upd_there⟩
  have m := x.mo (U := U)
  refine ⟨⟨⟨R.slots.upd m (m.dqs ds' xs' q) R.nd e, by rw [ea]; exact R.nd, fun b hb => ?_, fun b hb => ?_⟩, x⟩, ee⟩
  · obtain ⟨u, z⟩ := R.uth b hb
    exact x.there b u z
  · rw [ea] at hb; exact R.dis b hb
end

/-! the judgements -/
abbrev EX := Addr → DEnv → Prop
abbrev TD := DEnv → (Rs → DEnv → Prop) → EX → Prop
abbrev TTd := DEnv → (Bool → DEnv → Prop) → EX → Prop
abbrev TAd := DEnv → (List Rs → DEnv → Prop) → EX → Prop
structure DEnds where
  nx : DEnv → Prop
  rt : Rs → DEnv → Prop
  ex : EX
  bk : DEnv → Prop
  ct : DEnv → Prop
abbrev TSd := DEnds → DEnv → Prop
/-- further results lie apart from a new list -/
def ext (U : Addr → Prop) : Rs → Addr → Prop
  | .f a _ => Ua U a
  | _ => U
def exts (U : Addr → Prop) : List Rs → Addr → Prop
  | [] => U
  | r :: rs => exts (ext U r) rs
def RepRs (K : PySem.W.Frag) (U : Addr → Prop) (H0 H : Hp) (σ : St) (ρ : DEnv) : List Rs → List V → Prop
  | [], [] => Rep K U H σ ρ
  | r :: rs, v :: vs => RepR K (exts U rs) H ρ r v ∧ Fr H0 r ∧ RepRs K (ext U r) H0 H σ ρ rs vs
  | _, _ => False
theorem ext_of {U : Addr → Prop} {r : Rs} {a : Addr} (h : U a) : ext U r a := by
  cases r with
  | f b ds => exact .inl h
  | v d => exact h
  | b i => exact h
theorem exts_of {a : Addr} : ∀ {U : Addr → Prop} {rs : List Rs}, U a → exts U rs a
  | _, [], h => h
  | _, r :: rs, h => exts_of (rs := rs) (ext_of h)
theorem exts_fr {H0 : Hp} {a : Addr} : ∀ {U : Addr → Prop} {rs : List Rs}, (∀ r ∈ rs, Fr H0 r) → exts U rs a → U a ∨ H0 a = none
  | _, [], _, h => .inl h
  | U, r :: rs, f, h => by
    rcases exts_fr (fun q hq => f q (List.mem_cons_of_mem _ hq)) (show exts (ext U r) rs a from h) with z | z
    · cases r with
      | f b ds =>
        rcases z with z | z
        · exact .inl z
        · exact .inr (by rw [z]; exact f _ List.mem_cons_self)
      | v d => exact .inl z
      | b i => exact .inl z
    · exact .inr z
theorem RepR.to {K : PySem.W.Frag} {U U' : Addr → Prop} {H H' : Hp} {ρ ρ' : DEnv} (x : Xt ρ ρ' H H') (e : ρ'.map er = ρ.map er) (h : ∀ a, U' a → U a ∨ H a = none) : ∀ {r : Rs} {v : V}, RepR K U H ρ r v → RepR K U' H' ρ' r v
  | .v d, v, q => Mo.dq (⟨fun a o n z => x.keep a o (fun w => n (.inr w)) z, fun a z => by
      rcases z with z | z
      · exact (h a z).imp .inl id
      · rw [adrs_er e] at z; exact .inl (.inr z)⟩ : Mo (Ow U ρ) (Ow U' ρ') H H') d v q
  | .f a ds, v, q => by
    obtain ⟨ev, n, xs, q1, q2⟩ := q
    refine ⟨ev, fun z => ?_, xs, x.keep a _ (fun z => n (.inr z)) q1, Mo.dqs (⟨fun a o n z => x.keep a o (fun w => n (.inr w)) z, fun b z => ?_⟩ : Mo (Ow (Ua U a) ρ) (Ow (Ua U' a) ρ') H H') ds xs q2⟩
    · rcases z with z | z
      · rcases h a z with z | z
        · exact n (.inl z)
        · rw [q1] at z; cases z
      · rw [adrs_er e] at z; exact n (.inr z)
    · rcases z with (z | z) | z
      · exact (h b z).imp (fun z => .inl (.inl z)) id
      · exact .inl (.inl (.inr z))
      · rw [adrs_er e] at z; exact .inl (.inr z)
  | .b i, v, q => by
    obtain ⟨a, ds, e1, ev⟩ := q
    have q : (ρ'.map DL.er)[i]? = (ρ.map DL.er)[i]? := by rw [e]
    rw [List.getElem?_map, List.getElem?_map, e1] at q
    cases z : ρ'[i]? with
    | none => rw [z] at q; simp at q
    | some s =>
      rw [z] at q
      simp only [Option.map_some, Option.some.injEq] at q
      cases s with
      | l a' ds' => simp only [DL.er, Sl.l.injEq] at q; obtain ⟨q, _⟩ := q; subst q; exact ⟨a', ds', z, ev⟩
      | no => simp [DL.er] at q
      | v d => simp [DL.er] at q
      | d a ep kvs => simp [DL.er] at q
      | o kd C dx x a ds => simp [DL.er] at q
theorem RepR.less {K : PySem.W.Frag} {U U' : Addr → Prop} {H : Hp} {ρ : DEnv} {r : Rs} {v : V} (q : RepR K U' H ρ r v) (h : ∀ a, U a → U' a) : RepR K U H ρ r v := RepR.to Xt.refl rfl (fun a z => .inl (h a z)) q
theorem RepRs.frs {K : PySem.W.Frag} {H0 H : Hp} {σ : St} {ρ : DEnv} : ∀ {U : Addr → Prop} {rs : List Rs} {vs : List V}, RepRs K U H0 H σ ρ rs vs → ∀ r ∈ rs, Fr H0 r
  | _, [], [], _, r, h => by simp at h
  | _, [], _ :: _, q, _, _ => q.elim
  | _, _ :: _, [], q, _, _ => q.elim
  | _, r :: rs, v :: vs, q, x, h => by
    rcases List.mem_cons.mp h with e | h
    · rw [e]; exact q.2.1
    · exact RepRs.frs q.2.2 x h
theorem Rep.less {K : PySem.W.Frag} {U U' : Addr → Prop} {H : Hp} {σ : St} {ρ : DEnv} (R : Rep K U' H σ ρ) (h : ∀ a, U a → U' a) : Rep K U H σ ρ :=
  ⟨R.slots.mono (⟨fun _ _ _ z => z, fun a z => .inl (z.imp (h a) id)⟩) fun _ _ => rfl, R.nd, fun a z => R.uth a (h a z), fun a z q => R.dis a z (h a q)⟩
theorem Aft.less {K : PySem.W.Frag} {U U' : Addr → Prop} {H H' : Hp} {σ : St} {ρ ρ' : DEnv} (A : Aft K U' ρ H σ ρ' H') (h : ∀ a, U a → U' a) : Aft K U ρ H σ ρ' H' := ⟨⟨A.rep.less h, A.xt⟩, A.er⟩
theorem RepRs.fr {K : PySem.W.Frag} {H0 H1 H : Hp} {σ : St} {ρ : DEnv} (h : ∀ a, H1 a = none → H0 a = none) : ∀ {U : Addr → Prop} {rs : List Rs} {vs : List V}, RepRs K U H1 H σ ρ rs vs → RepRs K U H0 H σ ρ rs vs
  | _, [], [], q => q
  | _, [], _ :: _, q => q.elim
  | _, _ :: _, [], q => q.elim
  | _, r :: rs, v :: vs, q => ⟨q.1, by
    have z := q.2.1
    cases r with
    | f a ds => exact h a z
    | v d => trivial
    | b i => trivial, RepRs.fr h q.2.2⟩
/-- the program's own errors, by number -/
def errNames : List Str := ["InvalidKind", "InvalidState", "InvalidRow", "InvalidNumber", "InvalidEffect", "InvalidWished", "InvalidGoal", "InvalidTabs", "InvalidTab", "NotPossible", "OtherKind", "TooMany", "NothingToUndo"]
def IsCls (K : PySem.W.Frag) (C : Nat) (A : Addr) : Prop := ∃ x, errNames[C]? = some x ∧ PySem.W.nsIn K mainGlobals x = some (some (.ref A))
abbrev XP (K : PySem.W.Frag) (U : Addr → Prop) (W : WX) (ρ : DEnv) (H : Hp) (σ : St) (E : EX) : Prop := ∀ C ρ' H', E C ρ' → Aft K U ρ H σ ρ' H' → ∀ A, IsCls K C A → W (.ref A) none σ H'
def Rf (K : PySem.W.Frag) (W : WX) (te : TE) (t : TD) : Prop := ∀ (U : Addr → Prop) σ ρ H P E (Q : VK), Rep K U H σ ρ → t ρ P E →
  (∀ r ρ' v H', P r ρ' → Aft K U ρ H σ ρ' H' → RepF K U H H' σ ρ' r v → Q v H') → XP K U W ρ H σ E → te σ H Q
def Rft (K : PySem.W.Frag) (W : WX) (tt : TT) (t : TTd) : Prop := ∀ (U : Addr → Prop) σ ρ H P E (Q : Bool → Hp → Prop), Rep K U H σ ρ → t ρ P E →
  (∀ b ρ' H', P b ρ' → Aft K U ρ H σ ρ' H' → Q b H') → XP K U W ρ H σ E → tt σ H Q
def Rfa (K : PySem.W.Frag) (W : WX) (ta : TA) (t : TAd) : Prop := ∀ (U : Addr → Prop) σ ρ H P E (Q : List V → Hp → Prop), Rep K U H σ ρ → t ρ P E →
  (∀ rs ρ' vs H', P rs ρ' → Aft K U ρ H σ ρ' H' → RepRs K U H H' σ ρ' rs vs → Q vs H') → XP K U W ρ H σ E → ta σ H Q
structure Beh (K : PySem.W.Frag) (U : Addr → Prop) (W : WX) (ρ : DEnv) (H : Hp) (D : DEnds) (E : Ends) : Prop where
  nx : ∀ ρ' σ' H', D.nx ρ' → AftS K U ρ H ρ' σ' H' → E.nx σ' H'
  rt : ∀ r ρ' v σ' H', D.rt r ρ' → AftS K U ρ H ρ' σ' H' → RepF K U H H' σ' ρ' r v → E.rt v H'
  ex : ∀ C ρ' σ' H', D.ex C ρ' → AftS K U ρ H ρ' σ' H' → ∀ A, IsCls K C A → W (.ref A) none σ' H'
  bk : ∀ ρ' σ' H', D.bk ρ' → AftS K U ρ H ρ' σ' H' → E.bk σ' H'
  ct : ∀ ρ' σ' H', D.ct ρ' → AftS K U ρ H ρ' σ' H' → E.ct σ' H'
def Rfs (K : PySem.W.Frag) (W : WX) (ts : TS) (t : TSd) : Prop := ∀ (U : Addr → Prop) σ ρ H (D : DEnds) (E : Ends), Rep K U H σ ρ → t D ρ → Beh K U W ρ H D E → ts E σ H
def DE (X : Cx) (W : WX) (e : Expr) (t : TD) : Prop := ∃ te, PE X e te ∧ Rf X.K W te t
def DT (X : Cx) (W : WX) (e : Expr) (t : TTd) : Prop := ∃ te, PT X e te ∧ Rft X.K W te t
def DW (X : Cx) (W : WX) (e : Expr) (t : TTd) : Prop := ∃ te, PW X e te ∧ Rft X.K W te t
def DA (X : Cx) (W : WX) (es : List Expr) (t : TAd) : Prop := ∃ te, PA X es te ∧ Rfa X.K W te t
def DS (X : Cx) (W : WX) (st : Stmt) (t : TSd) : Prop := ∃ te, PS X st te ∧ Rfs X.K W te t
def DSs (X : Cx) (W : WX) (st : List Stmt) (t : TSd) : Prop := ∃ te, PSs X st te ∧ Rfs X.K W te t

section
variable {K : PySem.W.Frag} {U : Addr → Prop} {O O' : Addr → Prop} {H H' H1 H2 : Hp} {ρ ρ' ρ1 ρ2 : DEnv} {σ σ' σ1 σ2 : St} {W : WX} {D : DEnds} {E : Ends}
theorem XP.step {F : EX} (x : XP K U W ρ H σ F) (a : Aft K U ρ H σ ρ1 H1) : XP K U W ρ1 H1 σ F := fun C ρ' H' e b => x C ρ' H' e (a.trans b)
theorem Beh.step (B : Beh K U W ρ H D E) (a : AftS K U ρ H ρ1 σ1 H1) : Beh K U W ρ1 H1 D E :=
  ⟨fun ρ' σ' H' e b => B.nx ρ' σ' H' e (a.trans b), fun r ρ' v σ' H' e b q => B.rt r ρ' v σ' H' e (a.trans b) (q.bk a.xt), fun C ρ' σ' H' e b => B.ex C ρ' σ' H' e (a.trans b), fun ρ' σ' H' e b => B.bk ρ' σ' H' e (a.trans b), fun ρ' σ' H' e b => B.ct ρ' σ' H' e (a.trans b)⟩
theorem Beh.xp (B : Beh K U W ρ H D E) : XP K U W ρ H σ D.ex := fun C ρ' H' e a => B.ex C ρ' σ H' e a.toAftS
end

/-! data behind results -/
def dat (ρ : DEnv) : Rs → D
  | .v d => d
  | .f _ ds => .lst ds
  | .b i => match ρ[i]? with
    | some (.l _ ds) => .lst ds
    | _ => .non
def Dw (K : PySem.W.Frag) (O : Addr → Prop) (H : Hp) : D → V → Prop
  | .tup ds, v => ∃ a xs, v = .ref a ∧ SqT K H a xs ∧ Dqs K O H ds xs
  | .lst ds, v => ∃ a xs, v = .ref a ∧ SqL K H a xs ∧ Dqs K O H ds xs
  | .ob ds, v => ∃ a xs, v = .ref a ∧ LO K O H a xs ∧ Dqs K O H ds xs
  | d, v => v = sv d
theorem dw_of {K : PySem.W.Frag} {O : Addr → Prop} {H : Hp} {d : D} {v : V} (h : Dq K O H d v) : Dw K O H d v := by
  cases d <;> simp only [Dq, Dw, sv] at h ⊢ <;> first
    | exact h
    | exact h
    | (obtain ⟨a, xs, e, h1, h2⟩ := h; exact ⟨a, xs, e, h1.sq, h2⟩)
theorem Rep.dw {K : PySem.W.Frag} {U : Addr → Prop} {H : Hp} {ρ : DEnv} {σ : St} (R : Rep K U H σ ρ) : ∀ {r : Rs} {v : V}, RepR K U H ρ r v → Dw K (Ow U ρ) H (dat ρ r) v
  | .v d, v, h => dw_of h
  | .f a ds, v, h => by
    obtain ⟨e, n, xs, q1, q2⟩ := h
    exact ⟨a, xs, e, SqL.of q1, Mo.dqs (⟨fun _ _ _ h => h, fun a z => .inl (z.imp (fun z => .inl z) id)⟩ : Mo (Ow (Ua U a) ρ) (Ow U ρ) H H) ds xs q2⟩
  | .b i, v, h => by
    obtain ⟨a, ds, e, ev⟩ := h
    obtain ⟨o, _, q⟩ := R.slots.get e
    obtain ⟨_, xs, q1, q2⟩ := q
    simp only [dat, e]
    exact ⟨a, xs, ev, SqL.of q1, q2⟩

/-! names, constants, blocks -/
section
variable {X : Cx} {W : WX} {e a b : Expr} {t ta tb : TD} {pos : Pos}
def slotR (i : Nat) : Option Sl → Option Rs
  | some (.v d) => some (.v d)
  | some (.l _ _) => some (.b i)
  | _ => none
def dVar (i : Nat) : TD := fun ρ P _ => ∃ r, slotR i ρ[i]? = some r ∧ P r ρ
theorem de_var (i : Nat) {x : Str} (hN : X.N[i]? = some x := by rfl) (hv : Vis X.env.scope x := by first | exact Or.inl rfl | exact Or.inr (Or.inl rfl) | exact Or.inr (Or.inr rfl)) (hd : (x == ("__debug__" : Str)) = false := by decide) (hcd : (x == ("__classdict__" : Str)) = false := by decide) : DE X W (.Name x pos) (dVar i) := by
  refine ⟨_, pe_var hN hv hd hcd, fun U σ ρ H P E Q R h k _ => ?_⟩
  obtain ⟨r, e, p⟩ := h
  cases q : ρ[i]? with
  | none => rw [q] at e; simp [slotR] at e
  | some s =>
    rw [q] at e
    obtain ⟨o, e1, ok⟩ := R.slots.get q
    cases s with
    | no => simp [slotR] at e
    | d a ep kvs => simp [slotR] at e
    | o kd C dx x a ds => simp [slotR] at e
    | v d =>
      simp only [slotR, Option.some.injEq] at e
      subst e
      obtain ⟨v, e2, dq⟩ := ok
      subst e2
      exact ⟨v, e1, k _ _ _ _ p R.refl ⟨dq, trivial, fun _ _ e => nomatch e⟩⟩
    | l a ds =>
      simp only [slotR, Option.some.injEq] at e
      subst e
      obtain ⟨e2, _⟩ := ok
      subst e2
      exact ⟨.ref a, e1, k _ _ _ _ p R.refl ⟨⟨a, ds, q, rfl⟩, trivial, fun _ _ e => nomatch e⟩⟩
def dC (d : D) : TD := fun ρ P _ => P (.v d) ρ
theorem de_c {v : V} {d : D} (h : PE X e (tC v)) (f : flat d = true) (hv : v = sv d) : DE X W e (dC d) := by
  refine ⟨_, h, fun U σ ρ H P E Q R h k _ => ?_⟩
  exact k _ _ _ _ h R.refl ⟨(dq_flat f).mpr hv, trivial, fun _ _ e => nomatch e⟩
theorem de_int {i : Int} {j : Nat} : DE X W (.Constant (.int i) j pos) (dC (.int i)) := de_c pe_int rfl rfl
theorem de_bl {i : Bool} {j : Nat} : DE X W (.Constant (.bool i) j pos) (dC (.bl i)) := de_c pe_bl rfl rfl
theorem de_non {j : Nat} : DE X W (.Constant .none j pos) (dC .non) := de_c pe_non rfl rfl
theorem de_str {x : Str} {j : Nat} (l : List Nat) (h : x = ⟨l.toArray⟩ := by rfl) : DE X W (.Constant (.str x) j pos) (dC (.str l)) := de_c pe_str rfl (by rw [h]; rfl)
/-- a written tuple of the module, a module's constant -/
theorem de_glob {x : Str} {v : V} {u : Value} {d : D} (hg : Gl X x) (hm : X.mg x = some u) (r : RelV v u) (hq : ∀ O H, Dq X.K O H d v) (hd : (x == ("__debug__" : Str)) = false := by decide) : DE X W (.Name x pos) (dC d) :=
  ⟨_, pe_glob hg hm r hd, fun _ _ _ _ _ _ _ R h k _ => k _ _ _ _ h R.refl ⟨hq _ _, trivial, fun _ _ e => nomatch e⟩⟩
/-! operators -/
abbrev R2d := Rs → Rs → DEnv → (Rs → DEnv → Prop) → Prop
def dOp (r : R2d) (ta tb : TD) : TD := fun ρ P E => ta ρ (fun x ρ1 => tb ρ1 (fun y ρ2 => r x y ρ2 P) E) E
def OpD (K : PySem.W.Frag) (r2 : R2) (r : R2d) : Prop := ∀ (U : Addr → Prop) σ ρ H P (Q : VK) x y v w, Rep K U H σ ρ → RepR K U H ρ x v → RepR K U H ρ y w → r x y ρ P →
  (∀ z ρ' u H', P z ρ' → Aft K U ρ H σ ρ' H' → RepF K U H H' σ ρ' z u → Q u H') → r2 v w H Q
theorem rf_op {K : PySem.W.Frag} {sa sb : TE} {r2 : R2} {r : R2d} (hr : OpD K r2 r) (ha : Rf K W sa ta) (hb : Rf K W sb tb) : Rf K W (tOp r2 sa sb) (dOp r ta tb) := by
  intro U σ ρ H P E Q R h k x
  refine ha U σ ρ H _ E _ R h (fun r1 ρ1 v1 H1 h1 a1 q1 => ?_) x
  refine hb U σ ρ1 H1 _ E _ a1.rep h1 (fun r2' ρ2 v2 H2 h2 a2 q2 => ?_) (x.step a1)
  exact hr U σ ρ2 H2 P _ _ _ _ _ a2.rep (a2.keepR a1.rep q1.val) q2.val h2 fun z ρ' u H' p a q => k z ρ' u H' p ((a1.trans a2).trans a) (q.bk (a1.trans a2).xt)
theorem de_op {op : Operator} {r2 : R2} {r : R2d} (ho : OpR X (binaryOp op) r2) (hr : OpD X.K r2 r) (ha : DE X W a ta) (hb : DE X W b tb) : DE X W (.BinOp a op b pos) (dOp r ta tb) := by
  obtain ⟨sa, pa, ra⟩ := ha
  obtain ⟨sb, pb, rb⟩ := hb
  exact ⟨_, pe_op ho pa pb, rf_op hr ra rb⟩
theorem de_ix {r2 : R2} {r : R2d} (ho : IxR X r2) (hr : OpD X.K r2 r) (ha : DE X W a ta) (hb : DE X W b tb) (hs : PlainIx b := by intro _ _; rfl) : DE X W (.Subscript a b pos) (dOp r ta tb) := by
  obtain ⟨sa, pa, ra⟩ := ha
  obtain ⟨sb, pb, rb⟩ := hb
  exact ⟨_, pe_ix ho pa pb hs, rf_op hr ra rb⟩
theorem de_cmp {op : CmpOp} {r2 : R2} {r : R2d} (ho : OpR X (compareOp op) r2) (hr : OpD X.K r2 r) (ha : DE X W a ta) (hb : DE X W b tb) (hm : behindInMarks op b = false := by first | rfl | exact nomark _) : DE X W (.Compare a [op] [b] pos) (dOp r ta tb) := by
  obtain ⟨sa, pa, ra⟩ := ha
  obtain ⟨sb, pb, rb⟩ := hb
  exact ⟨_, pe_cmpR ho pa pb hm, rf_op hr ra rb⟩
/-- an expression as a test -/
def dTest (t : TD) : TTd := fun ρ P E => t ρ (fun r ρ1 => ∃ k, r = .v (.bl k) ∧ P k ρ1) E
theorem rft_test {K : PySem.W.Frag} {sa : TE} (ha : Rf K W sa ta) : Rft K W (tTest sa) (dTest ta) := by
  intro U σ ρ H P E Q R h k x
  refine ha U σ ρ H _ E _ R h (fun r1 ρ1 v1 H1 h1 a1 q1 => ?_) x
  obtain ⟨c, e, p⟩ := h1
  subst e
  have q1 := q1.val
  simp only [RepR, Dq] at q1
  exact ⟨c, q1, k _ _ _ p a1⟩
theorem dt_cmp {op : CmpOp} {r2 : R2} {r : R2d} (ho : OpR X (compareOp op) r2) (hr : OpD X.K r2 r) (ha : DE X W a ta) (hb : DE X W b tb) (hm : behindInMarks op b = false := by first | rfl | exact nomark _) : DT X W (.Compare a [op] [b] pos) (dTest (dOp r ta tb)) := by
  obtain ⟨sa, pa, ra⟩ := ha
  obtain ⟨sb, pb, rb⟩ := hb
  exact ⟨_, pt_cmpR ho pa pb hm, rft_test (rf_op hr ra rb)⟩
/-- an expression that gives a bool, as a test -/
theorem dt_val (ha : DE X W a ta) (he : ∀ whole, isTrue a X.env whole = (do let v ← whole; standAt a.pos; holding [v] (truthy v)) := by intro _; rfl) : DT X W a (dTest ta) := by
  obtain ⟨sa, pa, ra⟩ := ha
  refine ⟨_, pt_val pa he, fun U σ ρ H P E Q R h k x => ?_⟩
  exact rft_test ra U σ ρ H P E Q R h k x
def dAnd (t u : TTd) : TTd := fun ρ P E => t ρ (fun c ρ1 => if c = true then u ρ1 P E else P false ρ1) E
def dOr (t u : TTd) : TTd := fun ρ P E => t ρ (fun c ρ1 => if c = true then P true ρ1 else u ρ1 P E) E
def dNot (t : TTd) : TTd := fun ρ P E => t ρ (fun c ρ1 => P (!c) ρ1) E
variable {tt uu : TTd} {rest : List Expr}
theorem dw_and1 (ha : DT X W a tt) : DW X W (.BoolOp .And [a] pos) tt := by
  obtain ⟨sa, pa, ra⟩ := ha
  exact ⟨_, pw_and1 pa, ra⟩
theorem dw_or1 (ha : DT X W a tt) : DW X W (.BoolOp .Or [a] pos) tt := by
  obtain ⟨sa, pa, ra⟩ := ha
  exact ⟨_, pw_or1 pa, ra⟩
theorem dw_and (ha : DT X W a tt) (hb : DW X W (.BoolOp .And (b :: rest) pos) uu) : DW X W (.BoolOp .And (a :: b :: rest) pos) (dAnd tt uu) := by
  obtain ⟨sa, pa, ra⟩ := ha
  obtain ⟨sb, pb, rb⟩ := hb
  refine ⟨_, pw_and pa pb, fun U σ ρ H P E Q R h k x => ?_⟩
  refine ra U σ ρ H _ E _ R h (fun c ρ1 H1 h1 a1 => ?_) x
  cases c with
  | true => exact rb U σ ρ1 H1 P E Q a1.rep h1 (fun b ρ' H' p a => k b ρ' H' p (a1.trans a)) (x.step a1)
  | false => exact k _ _ _ h1 a1
theorem dw_or (ha : DT X W a tt) (hb : DW X W (.BoolOp .Or (b :: rest) pos) uu) : DW X W (.BoolOp .Or (a :: b :: rest) pos) (dOr tt uu) := by
  obtain ⟨sa, pa, ra⟩ := ha
  obtain ⟨sb, pb, rb⟩ := hb
  refine ⟨_, pw_or pa pb, fun U σ ρ H P E Q R h k x => ?_⟩
  refine ra U σ ρ H _ E _ R h (fun c ρ1 H1 h1 a1 => ?_) x
  cases c with
  | true => exact k _ _ _ h1 a1
  | false => exact rb U σ ρ1 H1 P E Q a1.rep h1 (fun b ρ' H' p a => k b ρ' H' p (a1.trans a)) (x.step a1)
theorem dt_w (h : DW X W a tt) : DT X W a tt := by
  obtain ⟨sa, pa, ra⟩ := h
  exact ⟨_, pa.pt, ra⟩
theorem dt_not (ha : DT X W a tt) : DT X W (.UnaryOp .Not a pos) (dNot tt) := by
  obtain ⟨sa, pa, ra⟩ := ha
  exact ⟨_, pt_not pa, fun U σ ρ H P E Q R h k x => ra U σ ρ H _ E _ R h (fun c ρ1 H1 h1 a1 => k _ _ _ h1 a1) x⟩
/-- and, or, not as values (bools) -/
def dAndV (ta tb : TD) : TD := fun ρ P E => ta ρ (fun x ρ1 => ∃ c, x = .v (.bl c) ∧ if c = true then tb ρ1 P E else P (.v (.bl false)) ρ1) E
def dOrV (ta tb : TD) : TD := fun ρ P E => ta ρ (fun x ρ1 => ∃ c, x = .v (.bl c) ∧ if c = true then P (.v (.bl true)) ρ1 else tb ρ1 P E) E
def dNotV (ta : TD) : TD := fun ρ P E => ta ρ (fun x ρ1 => ∃ c, x = .v (.bl c) ∧ P (.v (.bl (!c))) ρ1) E
theorem de_one {op : BoolOp} (h : DE X W a ta) : DE X W (.BoolOp op [a] pos) ta := by
  obtain ⟨sa, pa, ra⟩ := h
  exact ⟨_, pe_one pa, ra⟩
theorem de_and (ha : DE X W a ta) (hb : DE X W (.BoolOp .And (b :: rest) pos) tb) : DE X W (.BoolOp .And (a :: b :: rest) pos) (dAndV ta tb) := by
  obtain ⟨sa, pa, ra⟩ := ha
  obtain ⟨sb, pb, rb⟩ := hb
  refine ⟨_, pe_and pa pb, fun U σ ρ H P E Q R h k x => ?_⟩
  refine ra U σ ρ H _ E _ R h (fun r ρ1 v1 H1 h1 a1 q1 => ?_) x
  obtain ⟨c, e, p⟩ := h1
  subst e
  have q1 := q1.val
  simp only [RepR, Dq] at q1
  refine ⟨c, q1, ?_⟩
  cases c with
  | true => exact rb U σ ρ1 H1 P E Q a1.rep p (fun r ρ' v H' p a q => k r ρ' v H' p (a1.trans a) (q.bk a1.xt)) (x.step a1)
  | false => exact k _ _ _ _ p a1 ⟨by simp only [RepR, Dq], trivial, fun _ _ e => nomatch e⟩
theorem de_or (ha : DE X W a ta) (hb : DE X W (.BoolOp .Or (b :: rest) pos) tb) : DE X W (.BoolOp .Or (a :: b :: rest) pos) (dOrV ta tb) := by
  obtain ⟨sa, pa, ra⟩ := ha
  obtain ⟨sb, pb, rb⟩ := hb
  refine ⟨_, pe_or pa pb, fun U σ ρ H P E Q R h k x => ?_⟩
  refine ra U σ ρ H _ E _ R h (fun r ρ1 v1 H1 h1 a1 q1 => ?_) x
  obtain ⟨c, e, p⟩ := h1
  subst e
  have q1 := q1.val
  simp only [RepR, Dq] at q1
  refine ⟨c, q1, ?_⟩
  cases c with
  | true => exact k _ _ _ _ p a1 ⟨by simp only [RepR, Dq], trivial, fun _ _ e => nomatch e⟩
  | false => exact rb U σ ρ1 H1 P E Q a1.rep p (fun r ρ' v H' p a q => k r ρ' v H' p (a1.trans a) (q.bk a1.xt)) (x.step a1)
theorem de_not (ha : DE X W a ta) : DE X W (.UnaryOp .Not a pos) (dNotV ta) := by
  obtain ⟨sa, pa, ra⟩ := ha
  refine ⟨_, pe_not pa, fun U σ ρ H P E Q R h k x => ?_⟩
  refine ra U σ ρ H _ E _ R h (fun r ρ1 v1 H1 h1 a1 q1 => ?_) x
  obtain ⟨c, e, p⟩ := h1
  subst e
  have q1 := q1.val
  simp only [RepR, Dq] at q1
  exact ⟨c, q1, k _ _ _ _ p a1 ⟨by simp only [RepR, Dq], trivial, fun _ _ e => nomatch e⟩⟩
def dIf (t : TTd) (ta tb : TD) : TD := fun ρ P E => t ρ (fun c ρ1 => if c = true then ta ρ1 P E else tb ρ1 P E) E
theorem de_if {c : Expr} (hc : DT X W c tt) (ha : DE X W a ta) (hb : DE X W b tb) : DE X W (.IfExp c a b pos) (dIf tt ta tb) := by
  obtain ⟨sc, pc, rc⟩ := hc
  obtain ⟨sa, pa, ra⟩ := ha
  obtain ⟨sb, pb, rb⟩ := hb
  refine ⟨_, pe_ifExp pc pa pb, fun U σ ρ H P E Q R h k x => ?_⟩
  refine rc U σ ρ H _ E _ R h (fun c ρ1 H1 h1 a1 => ?_) x
  cases c with
  | true => exact ra U σ ρ1 H1 P E Q a1.rep h1 (fun r ρ' v H' p a q => k r ρ' v H' p (a1.trans a) (q.bk a1.xt)) (x.step a1)
  | false => exact rb U σ ρ1 H1 P E Q a1.rep h1 (fun r ρ' v H' p a q => k r ρ' v H' p (a1.trans a) (q.bk a1.xt)) (x.step a1)
/-- a < b < c -/
def dChain (r r' : R2d) (ta tb tc : TD) : TD := fun ρ P E => ta ρ (fun x ρ1 => tb ρ1 (fun y ρ2 => r x y ρ2 fun z ρ3 => ∃ k, z = .v (.bl k) ∧ if k = true then tc ρ3 (fun w ρ4 => r' y w ρ4 P) E else P (.v (.bl false)) ρ3) E) E

/-! arguments, displays -/
def dNil : TAd := fun ρ P _ => P [] ρ
def dCons (ta : TD) (tr : TAd) : TAd := fun ρ P E => ta ρ (fun x ρ1 => tr ρ1 (fun xs ρ2 => P (x :: xs) ρ2) E) E
variable {es : List Expr} {tr : TAd}
theorem da_nil : DA X W [] dNil := ⟨_, pa_nil, fun U σ ρ H P E Q R h k _ => k [] ρ [] H h R.refl R⟩
theorem da_cons (ha : DE X W e ta) (hr : DA X W es tr) (hs : starEach (e :: es) X.env = (false, eval e X.env) :: starEach es X.env := by rfl) : DA X W (e :: es) (dCons ta tr) := by
  obtain ⟨sa, pa, ra⟩ := ha
  obtain ⟨sb, pb, rb⟩ := hr
  refine ⟨_, pa_cons pa pb hs, fun U σ ρ H P E Q R h k x => ?_⟩
  refine ra U σ ρ H _ E _ R h (fun r ρ1 v1 H1 h1 a1 q1 => ?_) x
  have R1 : Rep X.K (ext U r) H1 σ ρ1 := by
    cases r with
    | f a ds => exact q1.sep a ds rfl
    | v d => exact a1.rep
    | b i => exact a1.rep
  refine rb (ext U r) σ ρ1 H1 _ E _ R1 h1 (fun rs ρ' vs H' p a q => ?_) (fun C ρ' H' p a => x C ρ' H' p (a1.trans (a.less fun _ => ext_of)))
  have a' := a.less (U := U) fun _ => ext_of
  exact k (r :: rs) ρ' (v1 :: vs) H' p (a1.trans a') ⟨RepR.to a'.xt a'.er (fun a z => exts_fr q.frs z) q1.val, q1.fre, q.fr fun _ z => a1.xt.back z⟩
/-- frozen data of results -/
theorem Rep.fz {K : PySem.W.Frag} {U : Addr → Prop} {H : Hp} {ρ : DEnv} {σ : St} (R : Rep K U H σ ρ) {r : Rs} {v : V} {d : D} (h : RepR K U H ρ r v) (e : (match r with | .v d => some d | .f _ ds => some (.lst ds) | .b _ => none) = some d) : Dq K (Ow U ρ) H d v := by
  cases r with
  | v d' => simp only [Option.some.injEq] at e; subst e; exact h
  | f a ds =>
    simp only [Option.some.injEq] at e
    subst e
    obtain ⟨ev, n, xs, q1, q2⟩ := h
    simp only [Dq]
    exact ⟨a, xs, ev, .inl ⟨.inl q1, n⟩, Mo.dqs (⟨fun _ _ _ h => h, fun a z => .inl (z.imp (fun z => .inl z) id)⟩ : Mo (Ow (Ua U a) ρ) (Ow U ρ) H H) ds xs q2⟩
  | b i => simp at e
def frz : Rs → Option D
  | .v d => some d
  | .f _ ds => some (.lst ds)
  | .b _ => none
def frzs : List Rs → Option (List D)
  | [] => some []
  | r :: rs => (frz r).bind fun d => (frzs rs).map fun ds => d :: ds
theorem RepRs.rep {K : PySem.W.Frag} {H0 H : Hp} {ρ : DEnv} {σ : St} : ∀ {U : Addr → Prop} {rs : List Rs} {vs : List V}, RepRs K U H0 H σ ρ rs vs → Rep K U H σ ρ
  | _, [], [], h => h
  | _, [], _ :: _, h => h.elim
  | _, _ :: _, [], h => h.elim
  | U, r :: rs, v :: vs, h => (RepRs.rep h.2.2).less fun _ => ext_of
theorem fzs {K : PySem.W.Frag} {H0 H : Hp} {ρ : DEnv} {σ : St} : ∀ {U : Addr → Prop} {rs : List Rs} {vs : List V} {ds : List D}, Rep K U H σ ρ → RepRs K U H0 H σ ρ rs vs → frzs rs = some ds → Dqs K (Ow U ρ) H ds vs
  | _, [], [], ds, _, _, e => by simp [DL.frzs] at e; subst e; exact dqs_nil
  | _, [], _ :: _, _, _, h, _ => h.elim
  | _, _ :: _, [], _, _, h, _ => h.elim
  | U, r :: rs, v :: vs, ds, R, h, e => by
    simp only [DL.frzs] at e
    cases q : frz r with
    | none => rw [q] at e; simp at e
    | some d =>
      cases q2 : DL.frzs rs with
      | none => rw [q, q2] at e; simp at e
      | some ds' =>
        rw [q, q2] at e
        simp only [Option.bind_some, Option.map_some, Option.some.injEq] at e
        subst e
        have R' := h.2.2.rep
        have m : Mo (Ow (ext U r) ρ) (Ow U ρ) H H := ⟨fun _ _ _ z => z, fun a z => .inl (z.imp ext_of id)⟩
        refine dqs_cons (R.fz (h.1.less fun _ => exts_of) (by cases r <;> simp_all [frz])) (m.dqs _ _ (fzs R' h.2.2 q2))
theorem RepRs.len {K : PySem.W.Frag} {H0 H : Hp} {ρ : DEnv} {σ : St} : ∀ {U : Addr → Prop} {rs : List Rs} {vs : List V}, RepRs K U H0 H σ ρ rs vs → vs.length = rs.length
  | _, [], [], _ => rfl
  | _, [], _ :: _, h => h.elim
  | _, _ :: _, [], h => h.elim
  | _, r :: rs, v :: vs, h => by simp only [List.length_cons, RepRs.len h.2.2]
def dTup (t : TAd) : TD := fun ρ P E => t ρ (fun rs ρ1 => ∃ ds, frzs rs = some ds ∧ rs.length ≤ 1000 ∧ P (.v (.tup ds)) ρ1) E
def dLst (t : TAd) : TD := fun ρ P E => t ρ (fun rs ρ1 => ∃ ds, frzs rs = some ds ∧ rs.length ≤ 1000 ∧ ∀ a, P (.f a ds) ρ1) E
theorem sz1000 {n : Nat} (h : n ≤ 1000) : n ≤ sizeLine := Nat.le_trans h (by rw [sizeLine_eq]; decide)
theorem de_tup {k : Nat} (h : DA X W es tr) : DE X W (.Tuple es k pos) (dTup tr) := by
  obtain ⟨sa, pa, ra⟩ := h
  refine ⟨_, pe_tup pa, fun U σ ρ H P E Q R h k x => ?_⟩
  refine ra U σ ρ H _ E _ R h (fun rs ρ1 vs H1 h1 a1 q1 => ?_) x
  obtain ⟨ds, e, hl, p⟩ := h1
  refine ⟨by rw [q1.len]; exact sz1000 hl, fun p' hp => ?_⟩
  obtain ⟨A, q⟩ := a1.rep.newTup hp (fzs a1.rep q1 e)
  exact k _ _ _ _ p (a1.trans A) ⟨q, trivial, fun _ _ e => nomatch e⟩
theorem de_lst (h : DA X W es tr) : DE X W (.List es pos) (dLst tr) := by
  obtain ⟨sa, pa, ra⟩ := h
  refine ⟨_, pe_lst pa, fun U σ ρ H P E Q R h k x => ?_⟩
  refine ra U σ ρ H _ E _ R h (fun rs ρ1 vs H1 h1 a1 q1 => ?_) x
  obtain ⟨ds, e, hl, p⟩ := h1
  refine ⟨by rw [q1.len]; exact sz1000 hl, fun p' hp => ?_⟩
  obtain ⟨A, q⟩ := a1.rep.newLst hp (fzs a1.rep q1 e)
  exact k _ _ _ _ (p p') (a1.trans A) (q.bk a1.xt)
end
end DL

namespace DL
open PySem L2
variable [WW]
section
variable {K : PySem.W.Frag} {U U' : Addr → Prop} {O O' : Addr → Prop} {H H' H1 H2 : Hp} {ρ ρ' ρ1 ρ2 : DEnv} {σ σ' σ1 σ2 : St}
/-! more on slots -/
theorem Slots.mk : ∀ {ρ : DEnv} {σ : St}, ρ.length = σ.length → (∀ (i : Nat) (s : Sl) (o : Option V), ρ[i]? = some s → σ[i]? = some o → SlOk K O H s o) → Slots K O H ρ σ
  | [], [], _, _ => trivial
  | [], _ :: _, h, _ => by simp at h
  | _ :: _, [], h, _ => by simp at h
  | s :: ρ, o :: σ, h, k => ⟨k 0 s o rfl rfl, Slots.mk (by simpa using h) fun i s' o' h1 h2 => k (i + 1) s' o' (by simpa using h1) (by simpa using h2)⟩
theorem Slots.append : ∀ {ρ ρ' : DEnv} {σ σ' : St}, Slots K O H ρ σ → Slots K O H ρ' σ' → Slots K O H (ρ ++ ρ') (σ ++ σ')
  | [], _, [], _, _, h => h
  | [], _, _ :: _, _, h, _ => h.elim
  | _ :: _, _, [], _, h, _ => h.elim
  | _ :: _, _, _ :: _, _, h, g => ⟨h.1, Slots.append h.2 g⟩
theorem Slots.nos : ∀ n : Nat, Slots K O H (List.replicate n .no) (List.replicate n none)
  | 0 => trivial
  | n + 1 => ⟨trivial, Slots.nos n⟩
theorem adrs_app : adrs (ρ ++ ρ') = adrs ρ ++ adrs ρ' := by unfold adrs; rw [List.filterMap_append]
theorem adrs_nos : ∀ n : Nat, adrs (List.replicate n Sl.no) = []
  | 0 => rfl
  | n + 1 => by rw [List.replicate_succ, adrs_cons, adrs_nos n]; rfl
theorem adrs_at {a : Addr} (h : a ∈ adrs ρ) : ∃ (i : Nat) (s : Sl), ρ[i]? = some s ∧ adr s = some a := by
  obtain ⟨s, hs, e⟩ := List.mem_filterMap.mp h
  obtain ⟨i, hi⟩ := List.mem_iff_getElem?.mp hs
  exact ⟨i, s, hi, e⟩
theorem adrs_inj : ∀ {ρ : DEnv} {i j : Nat} {a : Addr} {s t : Sl}, (adrs ρ).Nodup → ρ[i]? = some s → ρ[j]? = some t → adr s = some a → adr t = some a → i = j
  | [], i, j, a, s, t, _, h, _, _, _ => by simp at h
  | u :: ρ, 0, 0, a, s, t, _, _, _, _, _ => rfl
  | u :: ρ, 0, j + 1, a, s, t, nd, h, g, hs, ht => by
    simp at h g
    subst h
    rw [adrs_cons] at nd
    exact absurd rfl ((List.nodup_append.mp nd).2.2 a (by simp [hs]) a (mem_adrsA g ht))
  | u :: ρ, i + 1, 0, a, s, t, nd, h, g, hs, ht => by
    simp at h g
    subst g
    rw [adrs_cons] at nd
    exact absurd rfl ((List.nodup_append.mp nd).2.2 a (by simp [ht]) a (mem_adrsA h hs))
  | u :: ρ, i + 1, j + 1, a, s, t, nd, h, g, hs, ht => by
    simp at h g
    rw [adrs_cons] at nd
    rw [adrs_inj (List.nodup_append.mp nd).2.1 h g hs ht]
/-- a slot is stored: the addresses -/
theorem adrs_set_no : ∀ (ρ : DEnv) (i : Nat) {s : Sl}, adr s = none → (adrs (ρ.set i s)).Sublist (adrs ρ)
  | [], i, s, _ => by simp
  | t :: ρ, 0, s, h => by
    rw [List.set_cons_zero, adrs_cons, adrs_cons, h]
    exact List.sublist_append_right _ _
  | t :: ρ, i + 1, s, h => by
    rw [List.set_cons_succ, adrs_cons, adrs_cons]
    exact List.Sublist.append (List.Sublist.refl _) (adrs_set_no ρ i h)
theorem adrs_set_l : ∀ (ρ : DEnv) (i : Nat) {a : Addr} {ds : List D}, a ∉ adrs ρ → (adrs ρ).Nodup → (adrs (ρ.set i (.l a ds))).Nodup ∧ ∀ b, b ∈ adrs (ρ.set i (.l a ds)) → b = a ∨ b ∈ adrs ρ
  | [], i, a, ds, n, nd => by simp [adrs]
  | t :: ρ, 0, a, ds, n, nd => by
    rw [List.set_cons_zero, adrs_cons]
    rw [adrs_cons] at n nd
    refine ⟨?_, fun b hb => ?_⟩
    · show (a :: adrs ρ).Nodup
      exact List.nodup_cons.mpr ⟨fun z => n (List.mem_append_right _ z), (List.nodup_append.mp nd).2.1⟩
    · have hb : b ∈ a :: adrs ρ := hb
      rcases List.mem_cons.mp hb with z | z
      · exact .inl z
      · exact .inr (by rw [adrs_cons]; exact List.mem_append_right _ z)
  | t :: ρ, i + 1, a, ds, n, nd => by
    rw [List.set_cons_succ, adrs_cons]
    rw [adrs_cons] at n nd
    have nd' := List.nodup_append.mp nd
    obtain ⟨q1, q2⟩ := adrs_set_l ρ i (ds := ds) (fun z => n (List.mem_append_right _ z)) nd'.2.1
    refine ⟨List.nodup_append.mpr ⟨nd'.1, q1, fun x hx y hy => ?_⟩, fun b hb => ?_⟩
    · rcases q2 y hy with z | z
      · intro e; subst e; subst z; exact n (List.mem_append_left _ hx)
      · exact nd'.2.2 x hx y z
    · rw [adrs_cons]
      rcases List.mem_append.mp hb with z | z
      · exact .inr (List.mem_append_left _ z)
      · exact (q2 b z).imp id fun z => List.mem_append_right _ z
theorem Rep.mono (R : Rep K U H σ ρ) (h : ∀ a, Ow U' ρ' a → Ow U ρ a) : Mo (Ow U ρ) (Ow U' ρ') H H := ⟨fun _ _ _ h => h, fun a z => .inl (h a z)⟩
theorem Xt.same (h : ∀ a, a ∈ adrs ρ' → a ∈ adrs ρ) : Xt ρ ρ' H H := ⟨fun _ _ _ h => h, fun a z => .inl (h a z), fun _ o h => ⟨o, h⟩⟩
/-- a flat store: data, or nothing, into slot i -/
theorem Rep.setN (R : Rep K U H σ ρ) (i : Nat) {s : Sl} {o : Option V} (hs : adr s = none) (h : SlOk K (Ow U ρ) H s o) : AftS K U ρ H (ρ.set i s) (σ.set i o) H := by
  have sub := adrs_set_no ρ i hs
  have m : Mo (Ow U ρ) (Ow U (ρ.set i s)) H H := R.mono fun a z => z.imp id fun z => sub.subset z
  refine ⟨⟨?_, R.nd.sublist sub, R.uth, fun a ha => R.dis a (sub.subset ha)⟩, Xt.same fun a z => sub.subset z⟩
  exact (R.slots.set i h).mono m fun _ _ => rfl
/-- a new list into slot i -/
theorem Rep.setF (R : Rep K U H1 σ ρ1) (x : Xt ρ ρ1 H H1) (i : Nat) {a : Addr} {ds : List D} {v : V} (h : RepF K U H H1 σ ρ1 (.f a ds) v) : AftS K U ρ H (ρ1.set i (.l a ds)) (σ.set i (some v)) H1 := by
  obtain ⟨ev, n, xs, q1, q2⟩ := h.val
  have fr : H a = none := h.fre
  have S := h.sep a ds rfl
  have na : a ∉ adrs ρ1 := fun z => n (.inr z)
  obtain ⟨nd, mem⟩ := adrs_set_l ρ1 i (ds := ds) na R.nd
  have m : Mo (Ow (Ua U a) ρ1) (Ow U (ρ1.set i (.l a ds))) H1 H1 := S.mono fun b z => by
    rcases z with z | z
    · exact .inl (.inl z)
    · rcases mem b z with z | z
      · exact .inl (.inr z)
      · exact .inr z
  refine ⟨⟨?_, nd, R.uth, fun b hb => ?_⟩, ⟨fun b o n h => x.keep b o n h, fun b hb => ?_, x.there⟩⟩
  · exact (S.slots.set (s := .l a ds) (o := some v) i ⟨by rw [ev], xs, q1, q2⟩).mono m fun _ _ => rfl
  · rcases mem b hb with z | z
    · subst z; exact fun z => n (.inl z)
    · exact R.dis b z
  · rcases mem b hb with z | z
    · subst z; exact .inr fr
    · exact x.new b z
/-- a result is stored -/
def asg (i : Nat) : Rs → DEnv → DEnv
  | .v d, ρ => ρ.set i (.v d)
  | .f a ds, ρ => ρ.set i (.l a ds)
  | .b j, ρ => (ρ.set j .no).set i (ρ[j]?.getD .no)
theorem Rep.asg (R : Rep K U H1 σ ρ1) (x : Xt ρ ρ1 H H1) (i : Nat) : ∀ {r : Rs} {v : V}, RepF K U H H1 σ ρ1 r v → AftS K U ρ H (DL.asg i r ρ1) (σ.set i (some v)) H1
  | .v d, v, h => (⟨R, x⟩ : AftS K U ρ H ρ1 σ H1).trans (R.setN i rfl ⟨v, rfl, h.val⟩)
  | .f a ds, v, h => R.setF x i h
  | .b j, v, h => by
    obtain ⟨a, ds, e, ev⟩ := h.val
    subst ev
    have A0 : AftS K U ρ H ρ1 σ H1 := ⟨R, x⟩
    show AftS K U ρ H ((ρ1.set j .no).set i (ρ1[j]?.getD .no)) _ H1
    rw [e]
    show AftS K U ρ H ((ρ1.set j .no).set i (.l a ds)) _ H1
    have ha := mem_adrs e
    obtain ⟨o, _, q⟩ := R.slots.get e
    obtain ⟨_, xs, q1, q2⟩ := q
    have S1 : Slots K (Ow U ρ1) H1 (ρ1.set j .no) σ := by
      refine Slots.mk (by rw [List.length_set]; exact R.slots.len) fun k s o h1 h2 => ?_
      by_cases ejk : j = k
      · subst ejk
        rw [List.getElem?_set_self (by exact (List.getElem?_eq_some_iff.mp e).1)] at h1
        cases h1
        trivial
      · rw [List.getElem?_set_ne ejk] at h1
        obtain ⟨o', e', ok⟩ := R.slots.get h1
        rw [h2] at e'; cases e'
        exact ok
    have sub := adrs_set_no ρ1 j (s := .no) rfl
    have na : a ∉ adrs (ρ1.set j .no) := fun z => by
      obtain ⟨k, es, ek, ea⟩ := adrs_at z
      by_cases ejk : j = k
      · subst ejk
        rw [List.getElem?_set_self (by exact (List.getElem?_eq_some_iff.mp e).1)] at ek
        cases ek
        cases ea
      · rw [List.getElem?_set_ne ejk] at ek
        exact ejk (adrs_inj R.nd e ek rfl ea)
    obtain ⟨nd, mem⟩ := adrs_set_l (ρ1.set j .no) i (ds := ds) na (R.nd.sublist sub)
    have mem' : ∀ b, b ∈ adrs ((ρ1.set j .no).set i (.l a ds)) → b ∈ adrs ρ1 := fun b hb => by
      rcases mem b hb with z | z
      · rw [z]; exact ha
      · exact sub.subset z
    have m : Mo (Ow U ρ1) (Ow U ((ρ1.set j .no).set i (.l a ds))) H1 H1 := R.mono fun b z => z.imp id (mem' b)
    refine A0.trans ⟨⟨?_, nd, R.uth, fun b hb => R.dis b (mem' b hb)⟩, Xt.same mem'⟩
    exact (S1.set (s := .l a ds) (o := some (.ref a)) i ⟨rfl, xs, q1, q2⟩).mono m fun _ _ => rfl
end

/-! statements -/
section
variable {X : Cx} {W : WX} {st : Stmt} {rest body : List Stmt} {e a b : Expr} {t ta tb : TD} {tt : TTd} {ts tu : TSd} {pos : Pos}
def dNext : TSd := fun D ρ => D.nx ρ
def dSeq (t u : TSd) : TSd := fun D ρ => t { D with nx := u D } ρ
def dNever : TSd := fun _ _ => False
theorem dss_nil : DSs X W [] dNext := ⟨_, pss_nil, fun U σ ρ H D E R h B => B.nx ρ σ H h R.reflS⟩
theorem dss_one (h : DS X W st ts) : DSs X W [st] ts := by
  obtain ⟨s, p, r⟩ := h
  exact ⟨_, pss_one p, r⟩
theorem dss_cons (h : DS X W st ts) (g : DSs X W rest tu) : DSs X W (st :: rest) (dSeq ts tu) := by
  obtain ⟨s, p, r⟩ := h
  obtain ⟨s', p', r'⟩ := g
  refine ⟨_, pss_cons p p', fun U σ ρ H D E R h B => ?_⟩
  exact r U σ ρ H { D with nx := tu D } { E with nx := s' E } R h ⟨fun ρ' σ' H' q A => r' U σ' ρ' H' D E A.rep q (B.step A), B.rt, B.ex, B.bk, B.ct⟩
theorem ds_never : DS X W st dNever := ⟨_, ps_never, fun U σ ρ H D E R h B => h.elim⟩
theorem dss_never : DSs X W rest dNever := ⟨_, pss_never, fun U σ ρ H D E R h B => h.elim⟩
theorem ds_pass : DS X W (.Pass pos) dNext := ⟨_, ps_pass, fun U σ ρ H D E R h B => B.nx ρ σ H h R.reflS⟩
def dBreak : TSd := fun D ρ => D.bk ρ
theorem ds_break : DS X W (.Break pos) dBreak := ⟨_, ps_break, fun U σ ρ H D E R h B => B.bk ρ σ H h R.reflS⟩
def dDrop (t : TD) : TSd := fun D ρ => t ρ (fun _ ρ1 => D.nx ρ1) D.ex
theorem ds_expr (h : DE X W e t) (hs : swapsWith e none pos.line X.env = pure false := by rfl) : DS X W (.Expr e pos) (dDrop t) := by
  obtain ⟨s, p, r⟩ := h
  refine ⟨_, ps_expr p hs, fun U σ ρ H D E R h B => ?_⟩
  exact r U σ ρ H _ D.ex _ R h (fun r ρ1 v H1 q A _ => B.nx ρ1 σ H1 q A.toAftS) B.xp
def dRet (t : TD) : TSd := fun D ρ => t ρ D.rt D.ex
theorem ds_ret (h : DE X W e t) : DS X W (.Return (some e) pos) (dRet t) := by
  obtain ⟨s, p, r⟩ := h
  refine ⟨_, ps_ret p, fun U σ ρ H D E R h B => ?_⟩
  exact r U σ ρ H _ D.ex _ R h (fun r ρ1 v H1 q A z => B.rt r ρ1 v σ H1 q A.toAftS z) B.xp
def dIfS (t : TTd) (ts tu : TSd) : TSd := fun D ρ => t ρ (fun b ρ1 => if b = true then ts D ρ1 else tu D ρ1) D.ex
theorem ds_if {c : Expr} {sa sb : List Stmt} (h : DT X W c tt) (ha : DSs X W sa ts) (hb : DSs X W sb tu) : DS X W (.If c sa sb pos) (dIfS tt ts tu) := by
  obtain ⟨s, p, r⟩ := h
  obtain ⟨s1, p1, r1⟩ := ha
  obtain ⟨s2, p2, r2⟩ := hb
  refine ⟨_, ps_if p p1 p2, fun U σ ρ H D E R h B => ?_⟩
  refine r U σ ρ H _ D.ex _ R h (fun c ρ1 H1 q A => ?_) B.xp
  cases c with
  | true => exact r1 U σ ρ1 H1 D E A.rep q (B.step A.toAftS)
  | false => exact r2 U σ ρ1 H1 D E A.rep q (B.step A.toAftS)
def dSet (i : Nat) (t : TD) : TSd := fun D ρ => t ρ (fun r ρ1 => D.nx (asg i r ρ1)) D.ex
theorem rfs_set {K : PySem.W.Frag} {te : TE} {i : Nat} (r : Rf K W te t) : Rfs K W (tAsg te (gName i)) (dSet i t) := by
  intro U σ ρ H D E R h B
  exact r U σ ρ H _ D.ex _ R h (fun r ρ1 v H1 q A z => B.nx _ _ H1 q (A.rep.asg A.xt i z)) B.xp
theorem ds_set (i : Nat) {x : Str} {pos' : Pos} (hN : X.N.Nodup) (hi : X.N[i]? = some x) (hx : Loc X.env.scope x) (he : DE X W e t) (hs : swapsWith e (some (.Name x pos')) pos.line X.env = pure false := by rfl) (hf : X.fn x = true ∨ X.env.scope.names.lookup x = some .local := by first | exact .inl rfl | exact .inr rfl | assumption) :
    DS X W (.Assign [.Name x pos'] e pos) (dSet i t) := by
  obtain ⟨s, p, r⟩ := he
  exact ⟨_, ps_set hN hi hx p hs hf, rfs_set r⟩
/-- a, b = e1, e2 -/
def fst2 : List Rs → Option (Rs × Rs)
  | [r, s] => some (r, s)
  | _ => none
/-- the second result still stands when the first is stored: data, or two lists that lie apart -/
def apart : Rs → Rs → Prop
  | .v _, .v _ => True
  | .f _ _, .v _ => True
  | .v _, .f _ _ => True
  | _, _ => False
def dPar (i j : Nat) (t : TAd) : TSd := fun D ρ => t ρ (fun rs ρ1 => ∃ r s, rs = [r, s] ∧ apart r s ∧ D.nx (asg j s (asg i r ρ1))) D.ex
end
end DL

namespace DL
open PySem L2
variable [WW]
section
variable {X : Cx} {W : WX} {st : Stmt} {rest body : List Stmt} {e a b : Expr} {es : List Expr} {t ta tb : TD} {tr : TAd} {tt : TTd} {ts tu : TSd} {pos : Pos}
/-- the second result still stands behind the first store -/
theorem Rep.asg2 {K : PySem.W.Frag} {U : Addr → Prop} {ρ ρ1 : DEnv} {H H1 : Hp} {σ : St} (x : Xt ρ ρ1 H H1) (i j : Nat) {r s : Rs} {v w : V} (ap : apart r s) (h : RepRs K U H H1 σ ρ1 [r, s] [v, w]) :
    AftS K U ρ H (DL.asg j s (DL.asg i r ρ1)) ((σ.set i (some v)).set j (some w)) H1 := by
  have R := h.rep
  obtain ⟨q1, f1, q2, f2, R2⟩ := h
  cases r with
  | b k => exact ap.elim
  | v d =>
    cases s with
    | b k => exact ap.elim
    | v d' =>
      have A2 := R.setN i (s := .v d) (o := some v) rfl ⟨v, rfl, q1⟩
      have A1 := (⟨R, x⟩ : AftS K U ρ H ρ1 σ H1).trans A2
      exact A1.trans (A1.rep.setN j (s := .v d') (o := some w) rfl ⟨w, rfl, A2.xt.mo.dq _ _ q2⟩)
    | f a ds =>
      have S2 : Rep K (Ua U a) H1 σ ρ1 := R2
      have A2 := R.setN i (s := .v d) (o := some v) rfl ⟨v, rfl, (q1.less fun _ => .inl : RepR K U H1 ρ1 (.v d) v)⟩
      have A3 := S2.setN i (s := .v d) (o := some v) rfl ⟨v, rfl, q1⟩
      refine A2.rep.setF (x.trans A2.xt) j ⟨?_, f2, fun a' ds' e => by cases e; exact A3.rep⟩
      have q2' : RepR K U H1 ρ1 (.f a ds) w := q2
      obtain ⟨ev, n, xs, z1, z2⟩ := q2'
      refine ⟨ev, fun z => n (z.imp id fun z => (adrs_set_no ρ1 i rfl).subset z), xs, z1, ?_⟩
      exact Mo.dqs (⟨fun _ _ _ h => h, fun b z => .inl (z.imp id fun z => (adrs_set_no ρ1 i rfl).subset z)⟩ : Mo (Ow (Ua U a) ρ1) (Ow (Ua U a) (ρ1.set i (.v d))) H1 H1) ds xs z2
  | f a ds =>
    cases s with
    | b k => exact ap.elim
    | f b es => exact ap.elim
    | v d' =>
      have S2 : Rep K (Ua U a) H1 σ ρ1 := R2
      have A1 := R.setF x i ⟨q1, f1, fun a' ds' e => by cases e; exact S2⟩
      refine A1.trans (A1.rep.setN j (s := .v d') (o := some w) rfl ⟨w, rfl, ?_⟩)
      have q2' : Dq K (Ow (Ua U a) ρ1) H1 d' w := q2
      refine Mo.dq (⟨fun _ _ _ h => h, fun b z => .inl ?_⟩ : Mo (Ow (Ua U a) ρ1) (Ow U (ρ1.set i (.l a ds))) H1 H1) d' w q2'
      rcases z with z | z
      · exact .inl (.inl z)
      · obtain ⟨ev, n, xs, z1, z2⟩ := q1
        rcases (adrs_set_l ρ1 i (ds := ds) (fun z => n (.inr z)) R.nd).2 b z with z | z
        · exact .inl (.inr z)
        · exact .inr z
theorem ds_par (i j : Nat) {x y : Str} {a b : Expr} {px py pt : Pos} {kt k2 pt2} (hc : X.calm = true) (hN : X.N.Nodup) (hi : X.N[i]? = some x) (hj : X.N[j]? = some y) (hij : i ≠ j)
    (hx : X.env.scope.names.lookup x = some .local) (hy : X.env.scope.names.lookup y = some .local) (ha : DA X W [a, b] tr)
    (hw : swappedStores [.Tuple [.Name x px, .Name y py] kt pt] (.Tuple [a, b] k2 pt2) X.env = pure (some [x, y]) := by rfl)
    (hs : swapsWithSole [.Tuple [.Name x px, .Name y py] kt pt] (.Tuple [a, b] k2 pt2) pos.line X.env = pure false := by rfl) :
    DS X W (.Assign [.Tuple [.Name x px, .Name y py] kt pt] (.Tuple [a, b] k2 pt2) pos) (dPar i j tr) := by
  obtain ⟨s, p, r⟩ := ha
  refine ⟨_, ps_par hc hN hi hj hij hx hy p hw hs, fun U σ ρ H D E R h B => ?_⟩
  refine r U σ ρ H _ D.ex _ R h (fun rs ρ1 vs H1 q A z => ?_) B.xp
  obtain ⟨r1, r2, e, ap, q⟩ := q
  subst e
  match vs, z with
  | [v, w], z => exact ⟨v, w, rfl, B.nx _ _ H1 q (Rep.asg2 A.xt i j ap z)⟩

/-! calls of defs -/
def lOnly : Sl → Sl
  | .d _ _ _ => .no
  | .o _ _ _ _ _ _ => .no
  | s => s
def argE (ρ : DEnv) : Rs → Sl
  | .v d => .v d
  | .f _ ds => .v (.lst ds)
  | .b i => lOnly (ρ[i]?.getD .no)
def bis : List Rs → List Nat
  | [] => []
  | .b i :: rs => i :: bis rs
  | _ :: rs => bis rs
/-- what the callee did to lent lists -/
def wb : List Rs → DEnv → DEnv → DEnv
  | .b i :: rs, s :: as, ρ => wb rs as (ρ.set i s)
  | _ :: rs, _ :: as, ρ => wb rs as ρ
  | _, _, ρ => ρ
def dCall (n : Nat) (S : TD) (ta : TAd) : TD := fun ρ P E => ta ρ (fun rs ρ1 => rs.length = n ∧ (bis rs).Nodup ∧ S (rs.map (argE ρ1)) (fun r as => P r (wb rs as ρ1)) (fun C as => E C (wb rs as ρ1))) E
def toSp (K : PySem.W.Frag) (n : Nat) (S : TD) : Sp := fun vs H Q E => vs.length = n ∧ ∃ (U : Addr → Prop) (ρ : DEnv) (P : Rs → DEnv → Prop) (F : EX), Rep K U H (vs.map some) ρ ∧ S ρ P F ∧
  (∀ r ρ' v H', P r ρ' → Aft K U ρ H (vs.map some) ρ' H' → RepF K U H H' (vs.map some) ρ' r v → (∀ i, r ≠ .b i) → Q v H') ∧ (∀ C ρ' H', F C ρ' → Aft K U ρ H (vs.map some) ρ' H' → ∀ A, IsCls K C A → E (.ref A) none H')
section
variable {K : PySem.W.Frag} {U U' : Addr → Prop} {H H0 H' H1 H2 : Hp} {ρ ρ' ρ1 ρ2 : DEnv} {σ : St}
theorem wb_len : ∀ (rs : List Rs) (as ρ : DEnv), (wb rs as ρ).length = ρ.length
  | [], _, _ => rfl
  | .v _ :: rs, [], _ => rfl
  | .f _ _ :: rs, [], _ => rfl
  | .b _ :: rs, [], _ => rfl
  | .v _ :: rs, _ :: as, ρ => wb_len rs as ρ
  | .f _ _ :: rs, _ :: as, ρ => wb_len rs as ρ
  | .b i :: rs, s :: as, ρ => by show (wb rs as (ρ.set i s)).length = _; rw [wb_len rs as, List.length_set]
theorem wb_out : ∀ (rs : List Rs) (as ρ : DEnv) {i : Nat}, i ∉ bis rs → (wb rs as ρ)[i]? = ρ[i]?
  | [], _, _, _, _ => rfl
  | .v _ :: rs, [], _, _, _ => rfl
  | .f _ _ :: rs, [], _, _, _ => rfl
  | .b _ :: rs, [], _, _, _ => rfl
  | .v _ :: rs, _ :: as, ρ, i, h => wb_out rs as ρ h
  | .f _ _ :: rs, _ :: as, ρ, i, h => wb_out rs as ρ h
  | .b j :: rs, s :: as, ρ, i, h => by
    simp only [bis, List.mem_cons, not_or] at h
    show (wb rs as (ρ.set j s))[i]? = _
    rw [wb_out rs as _ h.2, List.getElem?_set_ne (Ne.symm h.1)]
theorem wb_in : ∀ (rs : List Rs) (as ρ : DEnv) {i j : Nat} {s : Sl}, (bis rs).Nodup → rs[j]? = some (.b i) → as[j]? = some s → i < ρ.length → (wb rs as ρ)[i]? = some s
  | [], _, _, _, j, _, _, h, _, _ => by simp at h
  | _ :: _, [], _, _, j, _, _, _, h, _ => by simp at h
  | r :: rs, s' :: as, ρ, i, 0, s, nd, h, g, l => by
    simp at h g
    subst h; subst g
    simp only [bis, List.nodup_cons] at nd
    show (wb rs as (ρ.set i s'))[i]? = _
    rw [wb_out rs as _ nd.1, List.getElem?_set_self l]
  | .v _ :: rs, s' :: as, ρ, i, j + 1, s, nd, h, g, l => wb_in rs as ρ nd (by simpa using h) (by simpa using g) l
  | .f _ _ :: rs, s' :: as, ρ, i, j + 1, s, nd, h, g, l => wb_in rs as ρ nd (by simpa using h) (by simpa using g) l
  | .b k :: rs, s' :: as, ρ, i, j + 1, s, nd, h, g, l => by
    simp only [bis, List.nodup_cons] at nd
    exact wb_in rs as (ρ.set k s') nd.2 (by simpa using h) (by simpa using g) (by rw [List.length_set]; exact l)
theorem bis_mem : ∀ {rs : List Rs} {i : Nat}, i ∈ bis rs → ∃ j : Nat, rs[j]? = some (Rs.b i)
  | [], i, h => by simp [bis] at h
  | .v _ :: rs, i, h => by obtain ⟨j, e⟩ := bis_mem (show i ∈ bis rs from h); exact ⟨j + 1, by simpa using e⟩
  | .f _ _ :: rs, i, h => by obtain ⟨j, e⟩ := bis_mem (show i ∈ bis rs from h); exact ⟨j + 1, by simpa using e⟩
  | .b k :: rs, i, h => by
    simp only [bis, List.mem_cons] at h
    rcases h with h | h
    · subst h; exact ⟨0, rfl⟩
    · obtain ⟨j, e⟩ := bis_mem h; exact ⟨j + 1, by simpa using e⟩
/-- an address of the lent lists -/
theorem argE_adr : ∀ {rs : List Rs} {a : Addr}, a ∈ adrs (rs.map (argE ρ)) → ∃ (i : Nat) (ds : List D), i ∈ bis rs ∧ ρ[i]? = some (Sl.l a ds)
  | [], a, h => by simp [adrs] at h
  | r :: rs, a, h => by
    rw [List.map_cons, adrs_cons] at h
    rcases List.mem_append.mp h with h | h
    · cases r with
      | v d => simp [argE, adr] at h
      | f b ds => simp [argE, adr] at h
      | b i =>
        simp only [argE] at h
        cases q : ρ[i]? with
        | none => rw [q] at h; simp [adr, lOnly] at h
        | some s =>
          rw [q] at h
          cases s with
          | l b ds => simp [adr, lOnly] at h; subst h; exact ⟨i, ds, by simp [bis], q⟩
          | no => simp [adr, lOnly] at h
          | v d => simp [adr, lOnly] at h
          | d b ep kvs => simp [adr, lOnly] at h
          | o kd C dx x a ds => simp [adr, lOnly] at h
    · obtain ⟨i, ds, h1, h2⟩ := argE_adr h
      refine ⟨i, ds, ?_, h2⟩
      cases r <;> simp [bis, h1]
theorem argE_nd (nd : (adrs ρ).Nodup) : ∀ {rs : List Rs}, (bis rs).Nodup → (adrs (rs.map (argE ρ))).Nodup
  | [], _ => by simp [adrs]
  | .v d :: rs, h => by rw [List.map_cons, adrs_cons]; exact argE_nd nd (rs := rs) h
  | .f a ds :: rs, h => by rw [List.map_cons, adrs_cons]; exact argE_nd nd (rs := rs) h
  | .b i :: rs, h => by
    simp only [bis, List.nodup_cons] at h
    rw [List.map_cons, adrs_cons]
    refine List.nodup_append.mpr ⟨by cases adr (argE ρ (.b i)) <;> simp, argE_nd nd h.2, fun x hx y hy e => ?_⟩
    subst e
    obtain ⟨k, es, h1, h2⟩ := argE_adr hy
    simp only [argE] at hx
    cases q : ρ[i]? with
    | none => rw [q] at hx; simp [adr, lOnly] at hx
    | some s =>
      rw [q] at hx
      cases s with
      | l b ds => simp [adr, lOnly] at hx; subst hx; exact h.1 (by rw [adrs_inj nd q h2 rfl rfl]; exact h1)
      | no => simp [adr, lOnly] at hx
      | v d => simp [adr, lOnly] at hx
      | d b ep kvs => simp [adr, lOnly] at hx
      | o kd C dx x a ds => simp [adr, lOnly] at hx
theorem argE_slots {Us : Addr → Prop} (hU : ∀ a, Us a → Ow U ρ a) : ∀ {U0 : Addr → Prop} {rs : List Rs} {vs : List V}, (∀ a, Us a → Ow U0 ρ a) → Rep K U H σ ρ → RepRs K U0 H0 H σ ρ rs vs → Slots K Us H (rs.map (argE ρ)) (vs.map some)
  | _, [], [], _, _, _ => trivial
  | _, [], _ :: _, _, _, q => q.elim
  | _, _ :: _, [], _, _, q => q.elim
  | U0, r :: rs, v :: vs, h0, R, q => by
    have R0 := (q.2.2).rep
    refine ⟨?_, argE_slots (U0 := ext U0 r) hU (fun a z => (h0 a z).imp ext_of id) R q.2.2⟩
    have q1 := q.1
    have m : Mo (Ow (exts U0 rs) ρ) Us H H := ⟨fun _ _ _ z => z, fun a z => .inl ((h0 a z).imp exts_of id)⟩
    cases r with
    | v d => exact ⟨v, rfl, m.dq d v q1⟩
    | f a ds =>
      obtain ⟨ev, n, xs, z1, z2⟩ := q1
      refine ⟨v, rfl, ?_⟩
      simp only [Dq]
      refine ⟨a, xs, ev, .inl ⟨.inl z1, fun z => n ((h0 a z).imp exts_of id)⟩, Mo.dqs (⟨fun _ _ _ z => z, fun b z => .inl ?_⟩ : Mo (Ow (Ua (exts U0 rs) a) ρ) Us H H) ds xs z2⟩
      exact (h0 b z).imp (fun z => .inl (exts_of z)) id
    | b i =>
      obtain ⟨a, ds, e, ev⟩ := q1
      obtain ⟨o, _, ok⟩ := R.slots.get e
      obtain ⟨_, xs, z1, z2⟩ := ok
      show SlOk K Us H (lOnly (ρ[i]?.getD .no)) (some v)
      rw [e]
      exact ⟨by rw [ev], xs, z1, Mo.dqs (⟨fun _ _ _ z => z, fun b z => .inl (hU b z)⟩ : Mo (Ow U ρ) Us H H) ds xs z2⟩
end
theorem er_at {ρ ρ' : DEnv} (e : ρ'.map er = ρ.map er) {i : Nat} {a : Addr} {ds : List D} (h : ρ[i]? = some (.l a ds)) : ∃ ds', ρ'[i]? = some (.l a ds') := by
  have q : (ρ'.map er)[i]? = (ρ.map er)[i]? := by rw [e]
  rw [List.getElem?_map, List.getElem?_map, h] at q
  cases z : ρ'[i]? with
  | none => rw [z] at q; simp at q
  | some s =>
    rw [z] at q
    simp only [Option.map_some, Option.some.injEq] at q
    cases s with
    | l a' ds' => simp only [er, Sl.l.injEq] at q; obtain ⟨q, _⟩ := q; subst q; exact ⟨ds', rfl⟩
    | no => simp [er] at q
    | v d => simp [er] at q
    | d a ep kvs => simp [er] at q
    | o kd C dx x a ds => simp [er] at q
theorem RepRs.at {K : PySem.W.Frag} {H0 H : Hp} {σ : St} {ρ : DEnv} : ∀ {U : Addr → Prop} {rs : List Rs} {vs : List V} {j : Nat} {r : Rs}, RepRs K U H0 H σ ρ rs vs → rs[j]? = some r → ∃ v, vs[j]? = some v ∧ RepR K U H ρ r v
  | _, [], _, j, r, _, h => by simp at h
  | _, _ :: _, [], j, r, q, _ => q.elim
  | U, x :: rs, v :: vs, 0, r, q, h => by simp at h; subst h; exact ⟨v, rfl, q.1.less fun _ => exts_of⟩
  | U, x :: rs, v :: vs, j + 1, r, q, h => by
    simp at h
    obtain ⟨w, e, z⟩ := RepRs.at q.2.2 h
    exact ⟨w, by simpa using e, z.less fun _ => ext_of⟩
section
variable {K : PySem.W.Frag} {U U' Uc : Addr → Prop} {H H0 H1 H2 : Hp} {ρ1 as : DEnv} {σ : St} {rs : List Rs} {vs : List V}
theorem back_at (z : RepRs K U H0 H1 σ ρ1 rs vs) (nd : (bis rs).Nodup) (e : as.map er = (rs.map (argE ρ1)).map er) {i : Nat} (hi : i ∈ bis rs) :
    ∃ (j : Nat) (a : Addr) (ds ds' : List D), ρ1[i]? = some (.l a ds) ∧ rs[j]? = some (.b i) ∧ as[j]? = some (.l a ds') ∧ (wb rs as ρ1)[i]? = some (.l a ds') ∧ vs[j]? = some (.ref a) := by
  obtain ⟨j, hj⟩ := bis_mem hi
  obtain ⟨v, hv, a, ds, e1, ev⟩ := z.at hj
  have ea : (rs.map (argE ρ1))[j]? = some (.l a ds) := by
    rw [List.getElem?_map, hj]
    show some (argE ρ1 (.b i)) = _
    simp only [argE, e1, Option.getD_some, lOnly]
  obtain ⟨ds', e2⟩ := er_at e ea
  exact ⟨j, a, ds, ds', e1, hj, e2, wb_in rs as ρ1 nd hj e2 (List.getElem?_eq_some_iff.mp e1).1, by rw [hv, ev]⟩
theorem back_er (z : RepRs K U H0 H1 σ ρ1 rs vs) (nd : (bis rs).Nodup) (e : as.map er = (rs.map (argE ρ1)).map er) : (wb rs as ρ1).map er = ρ1.map er := by
  refine List.ext_getElem? fun i => ?_
  rw [List.getElem?_map, List.getElem?_map]
  by_cases hi : i ∈ bis rs
  · obtain ⟨j, a, ds, ds', e1, _, _, e4, _⟩ := back_at z nd e hi
    rw [e1, e4]; rfl
  · rw [wb_out rs as ρ1 hi]
theorem back_slots (R1 : Rep K U H1 σ ρ1) (z : RepRs K U H0 H1 σ ρ1 rs vs) (nd : (bis rs).Nodup) (e : as.map er = (rs.map (argE ρ1)).map er) (x : Xt (rs.map (argE ρ1)) as H1 H2)
    (hA : ∀ b, U' b → U b ∨ H1 b = none) (Sc : Slots K (Ow Uc as) H2 as (vs.map some)) (hB : ∀ b, Ow U' ρ1 b → Ow Uc as b) : Slots K (Ow U' (wb rs as ρ1)) H2 (wb rs as ρ1) σ := by
  have ee := back_er z nd e
  have ea := adrs_er ee
  have m1 : Mo (Ow U ρ1) (Ow U' (wb rs as ρ1)) H1 H2 := ⟨fun a o n h => x.keep a o (fun q => by
      obtain ⟨i, ds, _, e⟩ := argE_adr q
      exact n (.inr (mem_adrs e))) h, fun a h => by
    rcases h with h | h
    · exact (hA a h).imp .inl id
    · rw [ea] at h; exact .inl (.inr h)⟩
  have m2 : Mo (Ow Uc as) (Ow U' (wb rs as ρ1)) H2 H2 := ⟨fun _ _ _ h => h, fun a h => .inl (hB a (by
    rcases h with h | h
    · exact .inl h
    · rw [ea] at h; exact .inr h))⟩
  refine Slots.mk (by rw [wb_len]; exact R1.slots.len) fun i s o h1 h2 => ?_
  by_cases hi : i ∈ bis rs
  · obtain ⟨j, a, ds, ds', e1, _, e3, e4, e5⟩ := back_at z nd e hi
    rw [e4] at h1; cases h1
    obtain ⟨o1, q1, ok1⟩ := R1.slots.get e1
    rw [h2] at q1; cases q1
    obtain ⟨o2, q2, ok2⟩ := Sc.get e3
    obtain ⟨ev, xs, z1, z2⟩ := ok2
    exact ⟨ok1.1, xs, z1, m2.dqs _ _ z2⟩
  · rw [wb_out rs as ρ1 hi] at h1
    obtain ⟨o1, q1, ok1⟩ := R1.slots.get h1
    rw [h2] at q1; cases q1
    cases s with
    | no => trivial
    | v d => obtain ⟨v, ev, q⟩ := ok1; exact ⟨v, ev, m1.dq _ _ q⟩
    | l a ds =>
      obtain ⟨ev, xs, z1, z2⟩ := ok1
      refine ⟨ev, xs, x.keep a _ (fun q => ?_) z1, m1.dqs _ _ z2⟩
      obtain ⟨k, es, hk, e1⟩ := argE_adr q
      exact hi (by rw [adrs_inj R1.nd h1 e1 rfl rfl]; exact hk)
    | d a ep kvs =>
      refine ⟨ok1.1, ok1.2.to m1 ?_⟩
      obtain ⟨es, z1, _⟩ := ok1.2
      exact (x.keep a _ (fun q => by
        obtain ⟨k, es, hk, e1⟩ := argE_adr q
        have hik := adrs_inj R1.nd h1 e1 rfl rfl
        rw [hik, e1] at h1; cases h1) z1).trans z1.symm
    | o kd C dx y a ds =>
      refine ⟨ok1.1, ok1.2.to m1 ?_⟩
      obtain ⟨_, es, z1, _⟩ := ok1.2
      exact (x.keep a _ (fun q => by
        obtain ⟨k, es, hk, e1⟩ := argE_adr q
        have hik := adrs_inj R1.nd h1 e1 rfl rfl
        rw [hik, e1] at h1; cases h1) z1).trans z1.symm
end
variable {x : Str} {p : Pos} {f : Addr} {fd : FuncData} {ps : List Str} {k n : Nat} {S : TD}
/-- a call of a def: its spec on the arguments' slots -/
theorem takes0N {X : Cx} : L2N.Takes X (fun _ _ _ _ => False) := fun _ _ x => by
  obtain ⟨_, _, _, _, _, _, _, _, _, _, _, _, _, _, _, _, z⟩ := x
  exact z.elim
theorem rf_call {X : Cx} {W : WX} {n : Nat} {S : TD} {t : TA} {tr : TAd} (ra : Rfa X.K W t tr) : Rf X.K W (tCallS (toSp X.K n S) (fun σ => WE W σ) t) (dCall n S tr) := by
  intro U σ ρ H P E Q R h k x
  refine ra U σ ρ H _ E _ R h (fun rs ρ1 vs H1 q A z => ?_) x
  obtain ⟨hlen, nd, q⟩ := q
  have R1 := A.rep
  have hvl : vs.length = rs.length := z.len
  have sub : ∀ a, a ∈ adrs (rs.map (argE ρ1)) → a ∈ adrs ρ1 := fun a ha => by
    obtain ⟨i, ds, _, e⟩ := argE_adr ha
    exact mem_adrs e
  have sl : ∀ a, Ow (fun a => U a ∨ (a ∈ adrs ρ1 ∧ a ∉ adrs (rs.map (argE ρ1)))) (rs.map (argE ρ1)) a → Ow U ρ1 a := fun a ha => by
    rcases ha with (ha | ha) | ha
    · exact .inl ha
    · exact .inr ha.1
    · exact .inr (sub a ha)
  have ls : ∀ a, Ow U ρ1 a → Ow (fun a => U a ∨ (a ∈ adrs ρ1 ∧ a ∉ adrs (rs.map (argE ρ1)))) (rs.map (argE ρ1)) a := fun a ha => by
    by_cases hm : a ∈ adrs (rs.map (argE ρ1))
    · exact .inr hm
    · rcases ha with ha | ha
      · exact .inl (.inl ha)
      · exact .inl (.inr ⟨ha, hm⟩)
  have back : ∀ as H2, Aft X.K (fun a => U a ∨ (a ∈ adrs ρ1 ∧ a ∉ adrs (rs.map (argE ρ1)))) (rs.map (argE ρ1)) H1 (vs.map some) as H2 → Aft X.K U ρ1 H1 σ (wb rs as ρ1) H2 := fun as H2 Ac => by
    have ee := back_er z nd Ac.er
    have ea := adrs_er ee
    refine ⟨⟨⟨back_slots R1 z nd Ac.er Ac.xt (fun b h => .inl h) Ac.rep.slots (fun b h => ?_), by rw [ea]; exact R1.nd, fun a ha => ?_, fun a ha => R1.dis a (by rw [ea] at ha; exact ha)⟩, ⟨fun a o hn h => Ac.xt.keep a o (fun z => hn (sub a z)) h, fun a ha => .inl (by rw [ea] at ha; exact ha), Ac.xt.there⟩⟩, ee⟩
    · exact (ls b h).imp id (fun z => by rw [Ac.adr]; exact z)
    · obtain ⟨o, e⟩ := R1.uth a ha
      exact Ac.xt.there a o e
  refine ⟨by rw [hvl]; exact hlen, fun a => U a ∨ (a ∈ adrs ρ1 ∧ a ∉ adrs (rs.map (argE ρ1))), rs.map (argE ρ1), _, _, ?_, q, fun r as v H2 hp Ac qr nb => ?_, fun C as H2 hp Ac => ?_⟩
  · refine ⟨argE_slots sl sl R1 z, argE_nd R1.nd nd, fun a ha => ?_, fun a ha hu => ?_⟩
    · rcases ha with ha | ha
      · exact R1.uth a ha
      · exact R1.sm (.inr ha.1)
    · rcases hu with hu | hu
      · exact R1.dis a (sub a ha) hu
      · exact hu.2 ha
  · have A2 := back as H2 Ac
    have ea := adrs_er (back_er z nd Ac.er)
    have inc : ∀ a, Ow U (wb rs as ρ1) a → Ow (fun a => U a ∨ (a ∈ adrs ρ1 ∧ a ∉ adrs (rs.map (argE ρ1)))) as a := fun a h => by
      refine (ls a (h.imp id fun h => by rw [ea] at h; exact h)).imp id fun h => by rw [Ac.adr]; exact h
    refine k r _ v H2 hp (A.trans A2) ⟨?_, A.xt.fr qr.fre, fun a ds e => ?_⟩
    · have qv := qr.val
      cases r with
      | b i => exact absurd rfl (nb i)
      | v d => exact Mo.dq (⟨fun _ _ _ h => h, fun a h => .inl (inc a h)⟩ : Mo (Ow _ as) (Ow U (wb rs as ρ1)) H2 H2) d v qv
      | f a ds =>
        obtain ⟨ev, hn, xs, z1, z2⟩ := qv
        refine ⟨ev, fun h => hn (inc a h), xs, z1, Mo.dqs (⟨fun _ _ _ h => h, fun b h => .inl ?_⟩ : Mo (Ow (Ua _ a) as) (Ow (Ua U a) (wb rs as ρ1)) H2 H2) ds xs z2⟩
        rcases h with (h | h) | h
        · exact (inc b (.inl h)).imp .inl id
        · exact .inl (.inr h)
        · exact (inc b (.inr h)).imp .inl id
    · subst e
      have fr : H1 a = none := qr.fre
      have S := qr.sep a ds rfl
      obtain ⟨ev, hn, xs, z1, z2⟩ := qr.val
      refine ⟨back_slots (U' := Ua U a) R1 z nd Ac.er Ac.xt (fun b h => h.imp id fun h => by rw [h]; exact fr) S.slots (fun b h => ?_), A2.rep.nd, fun b hb => ?_, fun b hb hu => ?_⟩
      · rcases h with (h | h) | h
        · exact (inc b (.inl h)).imp .inl id
        · exact .inl (.inr h)
        · exact (inc b (.inr (by rw [ea]; exact h))).imp .inl id
      · rcases hb with hb | hb
        · exact A2.rep.uth b hb
        · exact ⟨_, by rw [hb]; exact z1⟩
      · rcases hu with hu | hu
        · exact A2.rep.dis b hb hu
        · rw [ea, hu] at hb
          obtain ⟨o, e⟩ := R1.sm (.inr hb)
          rw [fr] at e; cases e
  · exact x C _ H2 hp (A.trans (back as H2 Ac))

theorem de_call (F : FnOk X.prog X.w X.K X.mg X.base (L2N.CX X.prog X.w) k f fd ps (toSp X.K n S)) (tk : L2N.Takes X W) (hr : Room k X.A) (hm : X.mg x = some (.ref f)) (hk : PySem.W.keepIn X.K (.ref f) = true) (hb : Binds X.K fd ps [])
    (ha : DA X W (e :: es) tr) (hg : Gl X x := by rfl) (hdb : (x == ("__debug__" : Str)) = false := by decide) (he : starEach (e :: es) X.env = (false, eval e X.env) :: starEach es X.env := by rfl) (hpl : (backTo pos (starEach es X.env)).any (·.1) = false := by rfl) :
    DE X W (.Call (.Name x p) (e :: es) [] pos) (dCall n S tr) := by
  obtain ⟨s, pa, ra⟩ := ha
  exact ⟨_, pe_callS F hr hg hm hk hb (fun σ => L2N.passAt tk σ) pa hdb he hpl, rf_call ra⟩

/-! a def by its body -/
/-- what a def hands back: fr says whether a list is handed back as data -/
def retR (fr : Bool) (n : Nat) (ρ : DEnv) : Rs → Option Rs
  | .v d => some (.v d)
  | .f a ds => some (if fr then .v (.lst ds) else .f a ds)
  | .b i => match ρ[i]? with
    | some (.l a ds) => if n ≤ i then some (if fr then .v (.lst ds) else .f a ds) else none
    | _ => none
/-- the lent lists at the end -/
def mg : DEnv → DEnv → DEnv
  | .l a ds :: ρ, .l _ ds' :: ρ' => .l a ds' :: mg ρ ρ'
  | .o kd C dx x a ds :: ρ, .o _ _ _ _ _ ds' :: ρ' => .o kd C dx x a ds' :: mg ρ ρ'
  | .d _ _ _ :: ρ, _ :: ρ' => .no :: mg ρ ρ'
  | s :: ρ, _ :: ρ' => s :: mg ρ ρ'
  | ρ, [] => ρ
  | [], _ => []
def MgOk : DEnv → DEnv → Prop
  | .l a _ :: ρ, .l a' _ :: ρ' => a' = a ∧ MgOk ρ ρ'
  | .l _ _ :: _, _ => False
  | .o kd C dx x a _ :: ρ, .o kd' C' dx' x' a' _ :: ρ' => (kd' = kd ∧ C' = C ∧ dx' = dx ∧ x' = x ∧ a' = a) ∧ MgOk ρ ρ'
  | .o _ _ _ _ _ _ :: _, _ => False
  | .d _ _ _ :: _, _ => False
  | _ :: ρ, _ :: ρ' => MgOk ρ ρ'
  | [], _ => True
  | _, _ => False
def bodyEnds (fr : Bool) (n : Nat) (ρ : DEnv) (P : Rs → DEnv → Prop) (F : EX) : DEnds where
  nx := fun ρ' => MgOk ρ ρ' ∧ P (.v .non) (mg ρ ρ')
  rt := fun r ρ' => MgOk ρ ρ' ∧ ∃ r', retR fr n ρ' r = some r' ∧ P r' (mg ρ ρ')
  ex := fun C ρ' => MgOk ρ ρ' ∧ F C (mg ρ ρ')
  bk := fun _ => False
  ct := fun _ => False
end
end DL

namespace DL
open PySem L2
variable [WW]
theorem mg_at : ∀ {ρ ρ' : DEnv}, MgOk ρ ρ' → ∀ (i : Nat) (s : Sl), ρ[i]? = some s → (adr s = none ∧ (mg ρ ρ')[i]? = some s) ∨ (∃ a ds ds', s = .l a ds ∧ ρ'[i]? = some (.l a ds') ∧ (mg ρ ρ')[i]? = some (.l a ds')) ∨ ∃ kd C dx x a ds ds', s = .o kd C dx x a ds ∧ ρ'[i]? = some (.o kd C dx x a ds') ∧ (mg ρ ρ')[i]? = some (.o kd C dx x a ds')
  | [], ρ', _, i, s, e => by simp at e
  | .l a ds :: ρ, [], h, _, _, _ => h.elim
  | .o _ _ _ _ _ _ :: ρ, [], h, _, _, _ => h.elim
  | .v d :: ρ, [], h, _, _, _ => h.elim
  | .no :: ρ, [], h, _, _, _ => h.elim
  | .d _ _ _ :: ρ, [], h, _, _, _ => h.elim
  | .d _ _ _ :: ρ, _ :: _, h, _, _, _ => h.elim
  | .l a ds :: ρ, .d _ _ _ :: ρ', h, _, _, _ => h.elim
  | .l a ds :: ρ, .o _ _ _ _ _ _ :: ρ', h, _, _, _ => h.elim
  | .l a ds :: ρ, .no :: ρ', h, _, _, _ => h.elim
  | .l a ds :: ρ, .v d :: ρ', h, _, _, _ => h.elim
  | .o _ _ _ _ _ _ :: ρ, .d _ _ _ :: ρ', h, _, _, _ => h.elim
  | .o _ _ _ _ _ _ :: ρ, .l _ _ :: ρ', h, _, _, _ => h.elim
  | .o _ _ _ _ _ _ :: ρ, .no :: ρ', h, _, _, _ => h.elim
  | .o _ _ _ _ _ _ :: ρ, .v d :: ρ', h, _, _, _ => h.elim
  | .l a ds :: ρ, .l a' ds' :: ρ', h, 0, s, e => by
    simp at e; subst e
    obtain ⟨h1, _⟩ := h
    subst h1
    exact .inr (.inl ⟨_, _, _, rfl, rfl, rfl⟩)
  | .l a ds :: ρ, .l a' ds' :: ρ', h, i + 1, s, e => by
    simp at e
    have q := mg_at h.2 i s e
    simpa [mg] using q
  | .o kd C dx x a ds :: ρ, .o kd' C' dx' x' a' ds' :: ρ', h, 0, s, e => by
    simp at e; subst e
    obtain ⟨⟨h0, h1, h2, h3, h4⟩, _⟩ := h
    subst h0 h1 h2 h3 h4
    exact .inr (.inr ⟨_, _, _, _, _, _, _, rfl, rfl, rfl⟩)
  | .o kd C dx x a ds :: ρ, .o kd' C' dx' x' a' ds' :: ρ', h, i + 1, s, e => by
    simp at e
    have q := mg_at h.2 i s e
    simpa [mg] using q
  | .v d :: ρ, s' :: ρ', h, 0, s, e => by simp at e; subst e; exact .inl ⟨rfl, by cases s' <;> rfl⟩
  | .no :: ρ, s' :: ρ', h, 0, s, e => by simp at e; subst e; exact .inl ⟨rfl, by cases s' <;> rfl⟩
  | .v d :: ρ, s' :: ρ', h, i + 1, s, e => by
    simp at e
    have q := mg_at (show MgOk ρ ρ' from by cases s' <;> exact h) i s e
    cases s' <;> simpa [mg] using q
  | .no :: ρ, s' :: ρ', h, i + 1, s, e => by
    simp at e
    have q := mg_at (show MgOk ρ ρ' from by cases s' <;> exact h) i s e
    cases s' <;> simpa [mg] using q
theorem mg_len : ∀ {ρ ρ' : DEnv}, MgOk ρ ρ' → (mg ρ ρ').length = ρ.length
  | [], [], _ => rfl
  | [], _ :: _, _ => rfl
  | .l a ds :: ρ, [], h => h.elim
  | .o _ _ _ _ _ _ :: ρ, [], h => h.elim
  | .v d :: ρ, [], h => h.elim
  | .no :: ρ, [], h => h.elim
  | .d _ _ _ :: ρ, [], h => h.elim
  | .d _ _ _ :: ρ, _ :: _, h => h.elim
  | .l a ds :: ρ, .d _ _ _ :: ρ', h => h.elim
  | .l a ds :: ρ, .o _ _ _ _ _ _ :: ρ', h => h.elim
  | .l a ds :: ρ, .no :: ρ', h => h.elim
  | .l a ds :: ρ, .v d :: ρ', h => h.elim
  | .o _ _ _ _ _ _ :: ρ, .d _ _ _ :: ρ', h => h.elim
  | .o _ _ _ _ _ _ :: ρ, .l _ _ :: ρ', h => h.elim
  | .o _ _ _ _ _ _ :: ρ, .no :: ρ', h => h.elim
  | .o _ _ _ _ _ _ :: ρ, .v d :: ρ', h => h.elim
  | .l a ds :: ρ, .l a' ds' :: ρ', h => by simp [mg, mg_len h.2]
  | .o kd C dx x a ds :: ρ, .o kd' C' dx' x' a' ds' :: ρ', h => by simp [mg, mg_len h.2]
  | .v d :: ρ, s' :: ρ', h => by
    have q := mg_len (show MgOk ρ ρ' from by cases s' <;> exact h)
    cases s' <;> simp [mg, q]
  | .no :: ρ, s' :: ρ', h => by
    have q := mg_len (show MgOk ρ ρ' from by cases s' <;> exact h)
    cases s' <;> simp [mg, q]
theorem mg_er {ρ ρ' : DEnv} (h : MgOk ρ ρ') : (mg ρ ρ').map er = ρ.map er := by
  refine List.ext_getElem? fun i => ?_
  rw [List.getElem?_map, List.getElem?_map]
  cases e : ρ[i]? with
  | none =>
    have hl := mg_len h
    have : (mg ρ ρ')[i]? = none := List.getElem?_eq_none_iff.mpr (by rw [hl]; exact List.getElem?_eq_none_iff.mp e)
    rw [this]
  | some s =>
    rcases mg_at h i s e with ⟨_, q⟩ | ⟨a, ds, ds', q, _, q2⟩ | ⟨kd, C, dx, x, a, ds, ds', q, _, q2⟩
    · rw [q]
    · rw [q2, q]; rfl
    · rw [q2, q]; rfl
section
variable {P : Program} {w : World} {K : PySem.W.Frag} {mgl : Str → Option Value} {base : Heap}
variable {U : Addr → Prop} {H H' : Hp} {ρ ρ' : DEnv} {σ' : St} {vs : List V} {m : Nat}
/-- from a body's end to the call's end -/
theorem body_end (R : Rep K U H (vs.map some) ρ) (A : AftS K U (ρ ++ List.replicate m .no) H ρ' σ' H') (ok : MgOk ρ ρ') : Aft K U ρ H (vs.map some) (mg ρ ρ') H' := by
  have ee := mg_er ok
  have ea := adrs_er ee
  have e0 : adrs (ρ ++ List.replicate m .no) = adrs ρ := by rw [adrs_app, adrs_nos, List.append_nil]
  have sub : ∀ a, a ∈ adrs ρ → a ∈ adrs ρ' := fun a ha => by
    obtain ⟨i, ds, e, eda⟩ := adrs_at ha
    rcases mg_at ok i _ e with ⟨q, _⟩ | ⟨b, es, es', q, q1, _⟩ | ⟨kd, C, dx, y, b, es, es', q, q1, _⟩
    · rw [q] at eda; cases eda
    · subst q; cases eda; exact mem_adrs q1
    · subst q; cases eda; exact mem_adrsA q1 rfl
  have x : Xt ρ (mg ρ ρ') H H' := ⟨fun a o n h => A.xt.keep a o (by rw [e0]; exact n) h, fun a h => .inl (by rw [ea] at h; exact h), A.xt.there⟩
  have m1 : Mo (Ow U ρ) (Ow U (mg ρ ρ')) H H' := x.mo
  have m2 : Mo (Ow U ρ') (Ow U (mg ρ ρ')) H' H' := A.rep.mono fun a h => h.imp id fun h => sub a (by rw [ea] at h; exact h)
  refine ⟨⟨⟨Slots.mk (by rw [mg_len ok]; exact R.slots.len) fun i s o h1 h2 => ?_, by rw [ea]; exact R.nd, fun a h => A.rep.uth a h, fun a h => R.dis a (by rw [ea] at h; exact h)⟩, x⟩, ee⟩
  have hi : i < ρ.length := by rw [← mg_len ok]; exact (List.getElem?_eq_some_iff.mp h1).1
  obtain ⟨s0, e⟩ : ∃ s0, ρ[i]? = some s0 := ⟨ρ[i], List.getElem?_eq_getElem hi⟩
  obtain ⟨o0, q0, ok0⟩ := R.slots.get e
  rw [h2] at q0; cases q0
  rcases mg_at ok i s0 e with ⟨q, q2⟩ | ⟨a, ds, ds', q, q1, q2⟩ | ⟨kd, C, dx, y, a, ds, ds', q, q1, q2⟩
  · rw [h1] at q2; cases q2
    cases s with
    | no => trivial
    | v d => obtain ⟨v, ev, z⟩ := ok0; exact ⟨v, ev, m1.dq _ _ z⟩
    | l a ds => cases q
    | d a ep kvs => cases q
    | o kd C dx x a ds => cases q
  · rw [h1] at q2; cases q2
    subst q
    obtain ⟨o1, z0, z1⟩ := A.rep.slots.get q1
    obtain ⟨_, xs, z2, z3⟩ := z1
    exact ⟨ok0.1, xs, z2, m2.dqs _ _ z3⟩
  · rw [h1] at q2; cases q2
    subst q
    obtain ⟨o1, z0, z1⟩ := A.rep.slots.get q1
    exact ⟨ok0.1, z1.2.to m2 rfl⟩
theorem body_res (R : Rep K U H (vs.map some) ρ) (A : AftS K U (ρ ++ List.replicate m .no) H ρ' σ' H') (ok : MgOk ρ ρ') {fr : Bool} {r r' : Rs} {v : V} (q : RepF K U H H' σ' ρ' r v) (e : retR fr ρ.length ρ' r = some r') :
    RepF K U H H' (vs.map some) (mg ρ ρ') r' v ∧ ∀ i, r' ≠ .b i := by
  have A2 := body_end R A ok
  have ea := adrs_er A2.er
  have e0 : adrs (ρ ++ List.replicate m .no) = adrs ρ := by rw [adrs_app, adrs_nos, List.append_nil]
  have sub : ∀ a, a ∈ adrs ρ → a ∈ adrs ρ' := fun a ha => by
    obtain ⟨i, ds, e, eda⟩ := adrs_at ha
    rcases mg_at ok i _ e with ⟨q, _⟩ | ⟨b, es, es', q, q1, _⟩ | ⟨kd, C, dx, y, b, es, es', q, q1, _⟩
    · rw [q] at eda; cases eda
    · subst q; cases eda; exact mem_adrs q1
    · subst q; cases eda; exact mem_adrsA q1 rfl
  have inc : ∀ a, Ow U (mg ρ ρ') a → Ow U ρ' a := fun a h => h.imp id fun h => sub a (by rw [ea] at h; exact h)
  -- a new list, as such or as data
  have fin : ∀ a ds, ¬ Ow U (mg ρ ρ') a → (∃ xs, H' a = some (.lst xs) ∧ Dqs K (Ow (Ua U a) (mg ρ ρ')) H' ds xs) → H a = none → v = .ref a → Slots K (fun b => Ow U ρ' b ∨ b = a) H' ρ' σ' →
      RepF K U H H' (vs.map some) (mg ρ ρ') (if fr then .v (.lst ds) else .f a ds) v ∧ ∀ i, (if fr then Rs.v (.lst ds) else .f a ds) ≠ .b i := by
    rintro a ds hn ⟨xs, z1, z2⟩ hf rfl hc
    cases fr with
    | true =>
      refine ⟨⟨?_, trivial, fun _ _ e => nomatch e⟩, fun i e => nomatch e⟩
      show Dq K (Ow U (mg ρ ρ')) H' (.lst ds) (.ref a)
      simp only [Dq]
      exact ⟨a, xs, rfl, .inl ⟨.inl z1, hn⟩, Mo.dqs (⟨fun _ _ _ h => h, fun b h => .inl (h.imp (fun h => .inl h) id)⟩ : Mo (Ow (Ua U a) (mg ρ ρ')) (Ow U (mg ρ ρ')) H' H') ds xs z2⟩
    | false =>
      refine ⟨⟨⟨rfl, hn, xs, z1, z2⟩, hf, fun a' ds' e => ?_⟩, fun i e => nomatch e⟩
      cases e
      have m : Mo (Ow U ρ) (Ow (Ua U a) (mg ρ ρ')) H H' := ⟨fun b o n h => A2.xt.keep b o (fun z => n (.inr z)) h, fun b h => by
        rcases h with (h | h) | h
        · exact .inl (.inl h)
        · exact .inr (by rw [h]; exact hf)
        · rw [ea] at h; exact .inl (.inr h)⟩
      refine ⟨Slots.mk (by rw [mg_len ok]; exact R.slots.len) fun i s o h1 h2 => ?_, A2.rep.nd, fun b h => ?_, fun b h hu => ?_⟩
      · have hi : i < ρ.length := by rw [← mg_len ok]; exact (List.getElem?_eq_some_iff.mp h1).1
        obtain ⟨s0, e⟩ : ∃ s0, ρ[i]? = some s0 := ⟨ρ[i], List.getElem?_eq_getElem hi⟩
        obtain ⟨o0, q0, ok0⟩ := R.slots.get e
        rw [h2] at q0; cases q0
        rcases mg_at ok i s0 e with ⟨q, q2⟩ | ⟨b, es, es', q, q1, q2⟩ | ⟨kd, C, dx, y, b, es, es', q, q1, q2⟩
        · rw [h1] at q2; cases q2
          cases s with
          | no => trivial
          | v d => obtain ⟨v, ev, z⟩ := ok0; exact ⟨v, ev, m.dq _ _ z⟩
          | l a ds => cases q
          | d a ep kvs => cases q
          | o kd C dx x a ds => cases q
        · rw [h1] at q2; cases q2
          subst q
          obtain ⟨o1, _, y⟩ := hc.get q1
          obtain ⟨_, ys, y2, y3⟩ := y
          refine ⟨ok0.1, ys, y2, Mo.dqs (⟨fun _ _ _ h => h, fun c h => .inl ?_⟩ : Mo (fun b => Ow U ρ' b ∨ b = a) (Ow (Ua U a) (mg ρ ρ')) H' H') _ _ y3⟩
          rcases h with (h | h) | h
          · exact .inl (.inl h)
          · exact .inr h
          · exact .inl (inc c (.inr h))
        · rw [h1] at q2; cases q2
          subst q
          obtain ⟨o1, _, y1⟩ := hc.get q1
          refine ⟨ok0.1, y1.2.to (⟨fun _ _ _ h => h, fun c h => .inl ?_⟩ : Mo (fun b => Ow U ρ' b ∨ b = a) (Ow (Ua U a) (mg ρ ρ')) H' H') rfl⟩
          rcases h with (h | h) | h
          · exact .inl (.inl h)
          · exact .inr h
          · exact .inl (inc c (.inr h))
      · rcases h with h | h
        · exact A2.rep.uth b h
        · exact ⟨_, by rw [h]; exact z1⟩
      · rcases hu with hu | hu
        · exact A2.rep.dis b h hu
        · exact hn (.inr (hu ▸ h))
  cases r with
  | v d =>
    simp only [retR, Option.some.injEq] at e
    subst e
    refine ⟨⟨?_, trivial, fun _ _ e => nomatch e⟩, fun i e => nomatch e⟩
    exact Mo.dq (⟨fun _ _ _ h => h, fun b h => .inl (inc b h)⟩ : Mo (Ow U ρ') (Ow U (mg ρ ρ')) H' H') d v q.val
  | f a ds =>
    simp only [retR, Option.some.injEq] at e
    subst e
    obtain ⟨ev, hn, xs, z1, z2⟩ := q.val
    have S := q.sep a ds rfl
    refine fin a ds (fun h => hn (inc a h)) ⟨xs, z1, Mo.dqs (⟨fun _ _ _ h => h, fun b h => .inl ?_⟩ : Mo (Ow (Ua U a) ρ') (Ow (Ua U a) (mg ρ ρ')) H' H') _ _ z2⟩ q.fre ev (S.slots.mono (⟨fun _ _ _ h => h, fun b h => .inl ?_⟩) fun _ _ => rfl)
    · rcases h with (h | h) | h
      · exact .inl (.inl h)
      · exact .inl (.inr h)
      · exact (inc b (.inr h)).imp .inl id
    · rcases h with (h | h) | h
      · exact .inl (.inl h)
      · exact .inr h
      · exact .inl (.inr h)
  | b i =>
    simp only [retR] at e
    obtain ⟨a, ds, e1, ev⟩ := q.val
    rw [e1] at e
    simp only at e
    by_cases hi : ρ.length ≤ i
    · rw [if_pos hi] at e
      simp only [Option.some.injEq] at e
      subst e
      have ha := mem_adrs e1
      have na : a ∉ adrs ρ := fun h => by
        obtain ⟨j, es, ej, eda⟩ := adrs_at h
        rcases mg_at ok j _ ej with ⟨z, _⟩ | ⟨b, fs, fs', z, z1, _⟩ | ⟨kd, C, dx, y, b, fs, fs', z, z1, _⟩
        · rw [z] at eda; cases eda
        · subst z
          cases eda
          have := adrs_inj A.rep.nd e1 z1 rfl rfl
          have hj := (List.getElem?_eq_some_iff.mp ej).1
          omega
        · subst z
          cases eda
          have := adrs_inj A.rep.nd e1 z1 rfl rfl
          have hj := (List.getElem?_eq_some_iff.mp ej).1
          omega
      have hf : H a = none := by
        rcases A.xt.new a ha with z | z
        · rw [e0] at z; exact absurd z na
        · exact z
      obtain ⟨o1, _, y⟩ := A.rep.slots.get e1
      obtain ⟨_, ys, y2, y3⟩ := y
      refine fin a ds (fun h => ?_) ⟨ys, y2, Mo.dqs (⟨fun _ _ _ h => h, fun c h => .inl ?_⟩ : Mo (Ow U ρ') (Ow (Ua U a) (mg ρ ρ')) H' H') _ _ y3⟩ hf ev (A.rep.slots.mono (⟨fun _ _ _ h => h, fun b h => .inl ?_⟩) fun _ _ => rfl)
      · rcases h with h | h
        · exact A.rep.dis a ha h
        · rw [ea] at h; exact na h
      · rcases h with (h | h) | h
        · exact .inl h
        · exact .inr (by rw [h]; exact ha)
        · exact inc c (.inr h)
      · rcases h with h | h
        · exact h
        · exact .inr (by rw [h]; exact ha)
    · rw [if_neg hi] at e; cases e

open PyProof.Rows (envOfC) in
theorem fnd {x qual : Str} {st : Stmt} {f : Addr} {fd : FuncData} {N ps : List Str} {k n : Nat} {sp : TD} {t : TSd} (F : Fun K x qual st f fd) (S : FnScope N ps (defScope st)) (hn : ps.length = n) (fr : Bool)
    (hd : ∀ (cdv : Value) (A : Around) (outer : List Env) (s : Shared) (H : Hp) (E : XK), Room k (A.deeper (envOfC qual (defScope st) s.heap.objs.size f cdv)) →
      L2N.Takes (cxOf (L2N.CX P w) P w K mgl base N qual (defScope st) f cdv A outer s H E) (fun cls d _ H => E cls d H) →
      DSs (cxOf (L2N.CX P w) P w K mgl base N qual (defScope st) f cdv A outer s H E) (fun cls d _ H => E cls d H) (defBody st) t)
    (hs : ∀ ρ Q G, ρ.length = n → sp ρ Q G → t (bodyEnds fr n ρ Q G) (ρ ++ List.replicate (N.length - n) .no)) : FnOk P w K mgl base (L2N.CX P w) (k + 1) f fd ps (toSp K n sp) := by
  obtain ⟨oc, od, kV, doc, pm, an, cdv, ct, osl, rfl, lk, hcd⟩ := F.ex
  refine fn_of lk hcd S (fun vs H Q E h => by rw [hn]; exact h.1) fun A outer s H vs Q E hr h => ?_
  obtain ⟨hl, U, ρ, P', G, R, hsp, kr, kx⟩ := h
  have hρ : ρ.length = n := by rw [R.slots.len, List.length_map]; exact hl
  obtain ⟨ts, pt, rt⟩ := hd cdv A outer s H E hr (L2N.takes_of rfl rfl rfl rfl)
  refine ⟨ts, pt, ?_⟩
  have e0 : adrs (ρ ++ List.replicate (N.length - n) .no) = adrs ρ := by rw [adrs_app, adrs_nos, List.append_nil]
  have R0 : Rep K U H (start N vs) (ρ ++ List.replicate (N.length - n) .no) := by
    refine ⟨?_, by rw [e0]; exact R.nd, R.uth, fun a h => R.dis a (by rw [e0] at h; exact h)⟩
    show Slots K _ H _ (vs.map some ++ List.replicate (N.length - vs.length) none)
    rw [hl]
    have m : Mo (Ow U ρ) (Ow U (ρ ++ List.replicate (N.length - n) .no)) H H := R.mono fun a h => h.imp id fun h => by rw [e0] at h; exact h
    exact (R.slots.mono m fun _ _ => rfl).append (Slots.nos _)
  refine rt U _ _ H (bodyEnds fr n ρ P' G) _ R0 (hs ρ P' G hρ hsp) ⟨fun ρ' σ' H' q A => ?_, fun r ρ' v σ' H' q A z => ?_, fun C ρ' σ' H' q A => ?_, fun _ _ _ q _ => q.elim, fun _ _ _ q _ => q.elim⟩
  · exact kr _ _ _ _ q.2 (body_end R A q.1) ⟨by simp only [RepR, Dq], trivial, fun _ _ e => nomatch e⟩ (fun i e => nomatch e)
  · obtain ⟨ok, r', e, q⟩ := q
    rw [← hρ] at e
    obtain ⟨z1, z2⟩ := body_res R A ok z e
    exact kr _ _ _ _ q (body_end R A ok) z1 z2
  · exact kx _ _ _ q.2 (body_end R A q.1)
end
end DL

namespace DL
open PySem L2
variable [WW]
/-! what is walked -/
abbrev TId := DEnv → (List D → (DEnv → Prop) → DEnv → Prop) → EX → Prop
structure ItD (K : PySem.W.Frag) (U : Addr → Prop) (J : It) (ds : List D) (st : DEnv → Prop) (ρ0 : DEnv) (H0 : Hp) : Prop where
  go : ∀ ρ σ H i, AftS K U ρ0 H0 ρ σ H → st ρ → i < ds.length → J.go i H
  yld : ∀ ρ σ H i x H', AftS K U ρ0 H0 ρ σ H → st ρ → i < ds.length → J.yld i H x H' → ∃ d, ds[i]? = some d ∧ AftS K U ρ H ρ σ H' ∧ Dq K (Ow U ρ) H' d x
  stop : ∀ ρ σ H i, AftS K U ρ0 H0 ρ σ H → st ρ → ds.length ≤ i → J.stop i H
def Rfi (K : PySem.W.Frag) (W : WX) (wi : TI) (t : TId) : Prop := ∀ (U : Addr → Prop) σ ρ H P E (R : It → Hp → Prop), Rep K U H σ ρ → t ρ P E →
  (∀ ds st ρ' H' J, P ds st ρ' → Aft K U ρ H σ ρ' H' → (∀ U', (∀ a, U' a → U a ∨ H' a = none) → ItD K U' J ds st ρ' H') → R J H') → XP K U W ρ H σ E → wi σ H R
def DI (X : Cx) (W : WX) (tg e : Expr) (t : TId) : Prop := ∃ wi, PI X tg e wi ∧ Rfi X.K W wi t
/-- a borrowed list stands still -/
def stR (ρ : DEnv) : Rs → DEnv → Prop
  | .b i, ρ' => ρ'[i]? = ρ[i]?
  | _, _ => True
section
variable {X : Cx} {W : WX} {tg e a b : Expr} {t ta tb : TD} {tr : TAd} {pos p : Pos}
variable {K : PySem.W.Frag} {U : Addr → Prop} {O : Addr → Prop} {H H0 H' : Hp} {ρ ρ0 ρ' : DEnv} {σ : St}
/-- where the items of a list-like result stand, now and later -/
theorem list_at {U' : Addr → Prop} (hU : ∀ a, U' a → U a ∨ H0 a = none) {r : Rs} {v : V} {ds : List D} (q : RepR K U H0 ρ0 r v) (e : dat ρ0 r = .lst ds) :
    ∃ a, v = .ref a ∧ ∀ ρ σ' H, AftS K U' ρ0 H0 ρ σ' H → stR ρ0 r ρ → ∃ xs, SqL K H a xs ∧ Dqs K (Ow U' ρ) H ds xs := by
  have mo : ∀ {ρ : DEnv} {σ' : St} {H : Hp}, AftS K U' ρ0 H0 ρ σ' H → Mo (Ow U ρ0) (Ow U' ρ) H0 H := fun A => ⟨fun b o nb h => A.xt.keep b o (fun z => nb (.inr z)) h, fun b h => by
    rcases h with h | h
    · exact (hU b h).imp .inl id
    · exact (A.xt.new b h).imp .inr id⟩
  cases r with
  | v d =>
    simp only [dat] at e
    subst e
    simp only [RepR, Dq] at q
    obtain ⟨a, xs, ev, z1, z2⟩ := q
    exact ⟨a, ev, fun ρ σ' H A _ => ⟨xs, ((mo A).ll z1).sq, (mo A).dqs _ _ z2⟩⟩
  | f a es =>
    simp only [dat, D.lst.injEq] at e
    subst e
    obtain ⟨ev, n, xs, z1, z2⟩ := q
    refine ⟨a, ev, fun ρ σ' H A _ => ⟨xs, SqL.of (A.xt.keep a _ (fun z => n (.inr z)) z1), Mo.dqs (⟨fun b o nb h => A.xt.keep b o (fun z => nb (.inr z)) h, fun b h => ?_⟩ : Mo (Ow (Ua U a) ρ0) (Ow U' ρ) H0 H) _ _ z2⟩⟩
    rcases h with h | h
    · exact (hU b h).imp (fun h => .inl (.inl h)) id
    · exact (A.xt.new b h).imp .inr id
  | b i =>
    obtain ⟨a, es, e1, ev⟩ := q
    simp only [dat, e1, D.lst.injEq] at e
    subst e
    refine ⟨a, ev, fun ρ σ' H A s => ?_⟩
    have s' : ρ[i]? = ρ0[i]? := s
    rw [e1] at s'
    obtain ⟨o, _, y⟩ := A.rep.slots.get s'
    obtain ⟨_, xs, y1, y2⟩ := y
    exact ⟨xs, SqL.of y1, y2⟩
theorem RepR.ua {K : PySem.W.Frag} (R : Rep K U H0 σ ρ0) {r : Rs} {v : V} (q : RepR K U H0 ρ0 r v) {p : Addr} {o : HO} (hp : H0 p = none) : Rep K (Ua U p) (upd H0 p o) σ ρ0 ∧ RepR K (Ua U p) (upd H0 p o) ρ0 r v := by
  have A := R.new (o := o) hp
  have m : Mo (Ow U ρ0) (Ow (Ua U p) ρ0) H0 (upd H0 p o) := ⟨fun a u n e => A.xt.keep a u (fun z => n (.inr z)) e, fun a z => by
    rcases z with (z | z) | z
    · exact .inl (.inl z)
    · exact .inr (by rw [z]; exact hp)
    · exact .inl (.inr z)⟩
  refine ⟨⟨R.slots.mono m fun a ha => ?_, R.nd, fun a ha => ?_, fun a ha z => ?_⟩, RepR.to A.xt rfl (fun a h => h.imp id fun h => by rw [h]; exact hp) q⟩
  · obtain ⟨xs, e⟩ := R.slots.sm ha
    exact upd_ne (ne_of_none e hp)
  · rcases ha with z | z
    · exact A.rep.uth a z
    · exact ⟨_, by rw [z]; exact upd_same⟩
  · rcases z with z | z
    · exact R.dis a ha z
    · obtain ⟨xs, e⟩ := R.slots.sm ha
      rw [z, hp] at e; cases e
theorem itl {U' : Addr → Prop} (hU : ∀ a, U' a → U a ∨ H0 a = none) {r : Rs} {a : Addr} {ds : List D} (q : RepR K U H0 ρ0 r (.ref a)) (e : dat ρ0 r = .lst ds) : ItD K U' (Itl K a) ds (stR ρ0 r) ρ0 H0 := by
  obtain ⟨a', ev, h⟩ := list_at hU q e
  cases ev
  refine ⟨fun ρ σ' H i A s hi => ?_, fun ρ σ' H i x H' A s hi y => ?_, fun ρ σ' H i A s hi => ?_⟩
  · obtain ⟨xs, z1, z2⟩ := h ρ σ' H A s
    obtain ⟨v, ev, _⟩ := dqs_get z2 (List.getElem?_eq_getElem hi)
    exact ⟨xs, v, z1, ev⟩
  · obtain ⟨xs, z1, z2⟩ := h ρ σ' H A s
    obtain ⟨ey, y⟩ := y
    subst ey
    obtain ⟨d, e1, e2⟩ := dqs_getV z2 (y xs z1)
    exact ⟨d, e1, A.rep.reflS, e2⟩
  · obtain ⟨xs, z1, z2⟩ := h ρ σ' H A s
    exact ⟨xs, z1, by rw [← dqs_len z2]; exact hi⟩
def diL (t : TD) : TId := fun ρ P E => t ρ (fun r ρ1 => ∃ ds, dat ρ1 r = .lst ds ∧ P ds (stR ρ1 r) ρ1) E
theorem di_list (h : DE X W e t) : DI X W tg e (diL t) := by
  obtain ⟨s, pe, re⟩ := h
  refine ⟨_, pi_list pe, fun U σ ρ H P E R Rp h k x => ?_⟩
  refine re U σ ρ H _ E _ Rp h (fun r ρ1 v H1 q A z => ?_) x
  obtain ⟨ds, ed, q⟩ := q
  obtain ⟨a, ev, hl⟩ := list_at (U' := U) (fun _ h => .inl h) z.val ed
  subst ev
  obtain ⟨xs, z1, _⟩ := hl ρ1 σ H1 A.rep.reflS (by cases r <;> first | trivial | rfl)
  refine ⟨a, rfl, ⟨xs, z1⟩, k _ _ _ _ _ q A fun U' hU => itl hU z.val ed⟩
def diT (t : TD) : TId := fun ρ P E => t ρ (fun r ρ1 => ∃ ds, r = .v (.tup ds) ∧ P ds (fun _ => True) ρ1) E
theorem itt {U' : Addr → Prop} (hU : ∀ a, U' a → U a ∨ H0 a = none) {a : Addr} {ds : List D} (q : RepR K U H0 ρ0 (.v (.tup ds)) (.ref a)) : ItD K U' (Itt K a) ds (fun _ => True) ρ0 H0 := by
  simp only [RepR, Dq] at q
  obtain ⟨a', xs, ev, z1, z2⟩ := q
  cases ev
  have mo : ∀ {ρ : DEnv} {σ' : St} {H : Hp}, AftS K U' ρ0 H0 ρ σ' H → Mo (Ow U ρ0) (Ow U' ρ) H0 H := fun A => ⟨fun b o nb h => A.xt.keep b o (fun z => nb (.inr z)) h, fun b h => by
    rcases h with h | h
    · exact (hU b h).imp .inl id
    · exact (A.xt.new b h).imp .inr id⟩
  refine ⟨fun ρ σ' H i A s hi => ?_, fun ρ σ' H i x H' A s hi y => ?_, fun ρ σ' H i A s hi => ?_⟩
  · obtain ⟨v, ev, _⟩ := dqs_get z2 (List.getElem?_eq_getElem hi)
    exact ⟨xs, v, ((mo A).lt z1).sq, ev⟩
  · obtain ⟨ey, y⟩ := y
    subst ey
    obtain ⟨d, e1, e2⟩ := dqs_getV ((mo A).dqs _ _ z2) (y xs ((mo A).lt z1).sq)
    exact ⟨d, e1, A.rep.reflS, e2⟩
  · exact ⟨xs, ((mo A).lt z1).sq, by rw [← dqs_len z2]; exact hi⟩
theorem di_tup (h : DE X W e t) : DI X W tg e (diT t) := by
  obtain ⟨s, pe, re⟩ := h
  refine ⟨_, pi_tup pe, fun U σ ρ H P E R Rp h k x => ?_⟩
  refine re U σ ρ H _ E _ Rp h (fun r ρ1 v H1 q A z => ?_) x
  obtain ⟨ds, er, q⟩ := q
  subst er
  have z' := z.val
  simp only [RepR, Dq] at z'
  obtain ⟨a, xs, ev, z1, z2⟩ := z'
  subst ev
  refine ⟨a, rfl, ⟨xs, z1.sq⟩, k _ _ _ _ _ q A fun U' hU => itt hU z.val⟩
/-- ints from lo on -/
def rgD (lo : Int) (n : Nat) : List D := (List.range n).map fun k => .int (lo + (k : Nat))
theorem rgD_get {lo : Int} {n i : Nat} {d : D} : (rgD lo n)[i]? = some d ↔ i < n ∧ d = .int (lo + (i : Nat)) := by
  unfold rgD
  rw [List.getElem?_map]
  by_cases h : i < n
  · rw [List.getElem?_range h]; simp [h, eq_comm]
  · rw [List.getElem?_eq_none (by simpa using h)]; simp [h]
theorem rgD_len (lo : Int) (n : Nat) : (rgD lo n).length = n := by simp [rgD]
theorem itr {lo : Int} {n : Nat} : ItD K U (Itr lo n) (rgD lo n) (fun _ => True) ρ0 H0 := by
  refine ⟨fun ρ σ' H i A s hi => ?_, fun ρ σ' H i x H' A s hi y => ?_, fun ρ σ' H i A s hi => ?_⟩
  · rw [rgD_len] at hi; exact hi
  · obtain ⟨ey, ex⟩ := y
    subst ey; subst ex
    rw [rgD_len] at hi
    exact ⟨_, rgD_get.mpr ⟨hi, rfl⟩, A.rep.reflS, by simp only [Dq]⟩
  · rw [rgD_len] at hi; exact hi
def diR1 (t : TAd) : TId := fun ρ P E => t ρ (fun rs ρ1 => ∃ j : Int, rs = [.v (.int j)] ∧ (-(2 ^ 62) ≤ j ∧ j < 2 ^ 62) ∧ P (rgD 0 j.toNat) (fun _ => True) ρ1) E
def diR2 (t : TAd) : TId := fun ρ P E => t ρ (fun rs ρ1 => ∃ i j : Int, rs = [.v (.int i), .v (.int j)] ∧ (-(2 ^ 62) ≤ i ∧ i < 2 ^ 62 ∧ -(2 ^ 62) ≤ j ∧ j < 2 ^ 62) ∧ P (rgD i (j - i).toNat) (fun _ => True) ρ1) E
theorem di_range1 (hm : X.mg "range" = none) (h : DA X W [a] tr) (hg : Gl X "range" := by rfl) (hs : starEach [a] X.env = [(false, eval a X.env)] := by rfl) : DI X W tg (.Call (.Name "range" p) [a] [] pos) (diR1 tr) := by
  obtain ⟨s, pe, re⟩ := h
  refine ⟨_, pi_range1 hg hm pe hs, fun U σ ρ H P E R Rp h k x => ?_⟩
  refine re U σ ρ H _ E _ Rp h (fun rs ρ1 vs H1 q A z => ?_) x
  obtain ⟨j, er, ⟨b1, b2⟩, q⟩ := q
  subst er
  match vs, z with
  | [v], z =>
    have z1 := z.1
    simp only [exts, ext, RepR, Dq] at z1
    subst z1
    exact ⟨j, rfl, b1, b2, k _ _ _ _ _ q A fun U' hU => itr⟩
theorem di_range2 (hm : X.mg "range" = none) (h : DA X W [a, b] tr) (hg : Gl X "range" := by rfl) (hs : starEach [a, b] X.env = [(false, eval a X.env), (false, eval b X.env)] := by rfl) (hs2 : starEach [b] X.env = [(false, eval b X.env)] := by rfl) : DI X W tg (.Call (.Name "range" p) [a, b] [] pos) (diR2 tr) := by
  obtain ⟨s, pe, re⟩ := h
  refine ⟨_, pi_range2 hg hm pe hs hs2, fun U σ ρ H P E R Rp h k x => ?_⟩
  refine re U σ ρ H _ E _ Rp h (fun rs ρ1 vs H1 q A z => ?_) x
  obtain ⟨i, j, er, bb, q⟩ := q
  subst er
  match vs, z with
  | [v, w], z =>
    obtain ⟨z1, _, z2, _⟩ := z
    simp only [exts, ext, RepR, Dq] at z1 z2
    subst z1; subst z2
    exact ⟨i, j, rfl, bb, k _ _ _ _ _ q A fun U' hU => itr⟩
/-- a text, sign by sign -/
def chs (l : List Nat) : List D := l.map fun c => .str [c]
theorem its {l : List Nat} : ItD K U (Its ⟨l.toArray⟩) (chs l) (fun _ => True) ρ0 H0 := by
  have hz : (Str.cps ⟨l.toArray⟩).size = l.length := by simp
  have hl : (chs l).length = l.length := by simp [chs]
  refine ⟨fun ρ σ' H i A s hi => ?_, fun ρ σ' H i x H' A s hi y => ?_, fun ρ σ' H i A s hi => ?_⟩
  · show i < (Str.cps ⟨l.toArray⟩).size
    rw [hz]; rw [hl] at hi; exact hi
  · obtain ⟨ey, c, ec, ex⟩ := y
    subst ey; subst ex
    refine ⟨.str [c], ?_, A.rep.reflS, by simp only [Dq]⟩
    have e2 : l[i]? = some c := by simpa using ec
    unfold chs
    rw [List.getElem?_map, e2]; rfl
  · show (Str.cps ⟨l.toArray⟩).size ≤ i
    rw [hz]; rw [hl] at hi; exact hi
def diS (t : TD) : TId := fun ρ P E => t ρ (fun r ρ1 => ∃ l, r = .v (.str l) ∧ P (chs l) (fun _ => True) ρ1) E
theorem di_str (h : DE X W e t) : DI X W tg e (diS t) := by
  obtain ⟨s, pe, re⟩ := h
  refine ⟨_, pi_str pe, fun U σ ρ H P E R Rp h k x => ?_⟩
  refine re U σ ρ H _ E _ Rp h (fun r ρ1 v H1 q A z => ?_) x
  obtain ⟨l, er, q⟩ := q
  subst er
  have z' := z.val
  simp only [RepR, Dq] at z'
  exact ⟨_, z', k _ _ _ _ _ q A fun U' hU => its⟩
/-- enumerate(list) -/
def enD : Nat → List D → List D
  | _, [] => []
  | i, d :: ds => .tup [.int (i : Int), d] :: enD (i + 1) ds
theorem enD_len : ∀ (i : Nat) (ds : List D), (enD i ds).length = ds.length
  | _, [] => rfl
  | i, d :: ds => by simp [enD, enD_len (i + 1) ds]
theorem enD_get : ∀ (i : Nat) (ds : List D) (j : Nat), (enD i ds)[j]? = (ds[j]?).map fun d => .tup [.int ((i + j : Nat) : Int), d]
  | _, [], j => by simp [enD]
  | i, d :: ds, 0 => by simp [enD]
  | i, d :: ds, j + 1 => by
    simp only [enD, List.getElem?_cons_succ]
    rw [enD_get (i + 1) ds j]
    have : i + 1 + j = i + (j + 1) := by omega
    rw [this]
def diE (t : TAd) : TId := fun ρ P E => t ρ (fun rs ρ1 => ∃ r ds, rs = [r] ∧ dat ρ1 r = .lst ds ∧ P (enD 0 ds) (stR ρ1 r) ρ1) E
theorem ite {U' : Addr → Prop} (hU : ∀ a, U' a → U a ∨ H0 a = none) {r : Rs} {a : Addr} {ds : List D} (q : RepR K U H0 ρ0 r (.ref a)) (e : dat ρ0 r = .lst ds) : ItD K U' (Ite K a) (enD 0 ds) (stR ρ0 r) ρ0 H0 := by
  obtain ⟨a', ev, h⟩ := list_at hU q e
  cases ev
  refine ⟨fun ρ σ' H i A s hi => ?_, fun ρ σ' H i x H' A s hi y => ?_, fun ρ σ' H i A s hi => ?_⟩
  · obtain ⟨xs, z1, z2⟩ := h ρ σ' H A s
    rw [enD_len] at hi
    obtain ⟨v, ev, _⟩ := dqs_get z2 (List.getElem?_eq_getElem hi)
    exact ⟨xs, v, z1, ev⟩
  · obtain ⟨xs, z1, z2⟩ := h ρ σ' H A s
    obtain ⟨T, x0, ex, hT, eH, hx⟩ := y
    subst ex; subst eH
    obtain ⟨d, e1, e2⟩ := dqs_getV z2 (hx xs z1)
    have q2 : Dqs K (Ow U' ρ) H [.int (i : Nat), d] [.int (i : Nat), x0] := dqs_cons (by simp only [Dq]) (dqs_cons e2 dqs_nil)
    obtain ⟨A2, q3⟩ := A.rep.newTup hT q2
    refine ⟨_, by rw [enD_get, e1]; rfl, A2.toAftS, ?_⟩
    have e0 : ((0 + i : Nat) : Int) = (i : Int) := by omega
    rw [e0]
    exact q3
  · obtain ⟨xs, z1, z2⟩ := h ρ σ' H A s
    rw [enD_len] at hi
    exact ⟨xs, z1, by rw [← dqs_len z2]; exact hi⟩
theorem di_enum {tpos : Pos} {elts : List Expr} {kk : Nat} (hm : X.mg "enumerate" = none) (h : DA X W [a] tr) (hg : Gl X "enumerate" := by rfl) (hs : starEach [a] X.env = [(false, eval a X.env)] := by rfl) : DI X W (.Tuple elts kk tpos) (.Call (.Name "enumerate" p) [a] [] pos) (diE tr) := by
  obtain ⟨s, pe, re⟩ := h
  refine ⟨_, pi_enum hg hm pe hs, fun U σ ρ H P E R Rp h k x => ?_⟩
  refine re U σ ρ H _ E _ Rp h (fun rs ρ1 vs H1 q A z => ?_) x
  obtain ⟨r, ds, er, ed, q⟩ := q
  subst er
  match vs, z with
  | [v], z =>
    have z1 : RepR X.K U H1 ρ1 r v := z.1
    obtain ⟨a', ev, hl⟩ := list_at (U' := U) (fun _ h => .inl h) z1 ed
    subst ev
    obtain ⟨xs, y1, _⟩ := hl ρ1 σ H1 A.rep.reflS (by cases r <;> first | trivial | rfl)
    refine ⟨a', xs, rfl, y1, k _ _ _ _ _ q A fun U' hU => ite hU z1 ed⟩
end

/-! targets -/
abbrev TGd := D → DEnv → (DEnv → Prop) → Prop
def Rfg (K : PySem.W.Frag) (g : TG) (gd : TGd) : Prop := ∀ (U : Addr → Prop) σ ρ H x d P Q, Rep K U H σ ρ → Dq K (Ow U ρ) H d x → gd d ρ P → (∀ ρ' σ' H', P ρ' → AftS K U ρ H ρ' σ' H' → Q σ' H') → g x σ H Q
def DG (X : Cx) (tg : Expr) (gd : TGd) : Prop := ∃ g, PG X tg g ∧ Rfg X.K g gd
def hName (i : Nat) : TGd := fun d ρ P => P (ρ.set i (.v d))
abbrev TGsd := List D → DEnv → (DEnv → Prop) → Prop
def Rfgs (K : PySem.W.Frag) (g : TGs) (gd : TGsd) : Prop := ∀ (U : Addr → Prop) σ ρ H xs ds P Q, Rep K U H σ ρ → Dqs K (Ow U ρ) H ds xs → gd ds ρ P → (∀ ρ' σ' H', P ρ' → AftS K U ρ H ρ' σ' H' → Q σ' H') → g xs σ H Q
def DGs (X : Cx) (ts : List Expr) (gd : TGsd) : Prop := ∃ g, PGs X ts g ∧ Rfgs X.K g gd
def hNil : TGsd := fun ds ρ P => ds = [] ∧ P ρ
def hCons (t : TGd) (u : TGsd) : TGsd := fun ds ρ P => ∃ d r, ds = d :: r ∧ t d ρ fun ρ' => u r ρ' P
def hTup (n : Nat) (t : TGsd) : TGd := fun d ρ P => ∃ ds, d = .tup ds ∧ ds.length = n ∧ t ds ρ P
section
variable {X : Cx} {W : WX} {e iter c : Expr} {es body : List Expr} {t : TD} {gd : TGd} {gs : TGsd} {pos : Pos}
theorem dg_name (i : Nat) {x : Str} (hN : X.N.Nodup) (hi : X.N[i]? = some x) (hx : Loc X.env.scope x) (hf : X.fn x = true ∨ X.env.scope.names.lookup x = some .local := by first | exact .inl rfl | exact .inr rfl | assumption) : DG X (.Name x pos) (hName i) :=
  ⟨_, pg_name hN hi hx hf, fun U σ ρ H x d P Q R q h k => k _ _ _ h (R.setN i (s := .v d) (o := some x) rfl ⟨x, rfl, q⟩)⟩
theorem dgs_nil : DGs X [] hNil := ⟨_, pgs_nil, fun U σ ρ H xs ds P Q R q h k => by
  obtain ⟨e, h⟩ := h
  subst e
  simp only [Dqs] at q
  exact ⟨q, k _ _ _ h R.reflS⟩⟩
theorem dgs_cons (h1 : DG X e gd) (h2 : DGs X es gs) (hs : (assignEach (e :: es) X.env).map (·.2) = assign e X.env :: (assignEach es X.env).map (·.2) := by rfl) : DGs X (e :: es) (hCons gd gs) := by
  obtain ⟨g, pg, rg⟩ := h1
  obtain ⟨u, pu, ru⟩ := h2
  refine ⟨_, pgs_cons pg pu hs, fun U σ ρ H xs ds P Q R q h k => ?_⟩
  obtain ⟨d, r, e, h⟩ := h
  subst e
  simp only [Dqs] at q
  obtain ⟨v, vr, ev, q1, q2⟩ := q
  subst ev
  refine ⟨v, vr, rfl, rg U σ ρ H v d _ _ R q1 h fun ρ' σ' H' h' A => ?_⟩
  exact ru U σ' ρ' H' vr r _ _ A.rep (A.xt.mo.dqs _ _ q2) h' fun ρ2 σ2 H2 p A2 => k _ _ _ p (A.trans A2)
theorem dg_tup {k n : Nat} (hc : X.calm = true) (h : DGs X es gs) (hn : (assignEach es X.env).length = n := by rfl) (hst : (assignEach es X.env).findIdx? (·.1) = none := by rfl) : DG X (.Tuple es k pos) (hTup n gs) := by
  obtain ⟨g, pg, rg⟩ := h
  refine ⟨_, pg_tup hc pg hn hst, fun U σ ρ H x d P Q R q h k => ?_⟩
  obtain ⟨ds, e, hl, h⟩ := h
  subst e
  simp only [Dq] at q
  obtain ⟨a, xs, ev, q1, q2⟩ := q
  exact ⟨a, xs, ev, q1.sq, by rw [← dqs_len q2]; exact hl, rg U σ ρ H xs ds _ _ R q2 h k⟩
/-- target = data -/
def dAsg (t : TD) (g : TGd) : TSd := fun D ρ => t ρ (fun r ρ1 => ∃ d, r = .v d ∧ g d ρ1 D.nx) D.ex
theorem ds_asg {tg : Expr} (he : DE X W e t) (hg : DG X tg gd) (hs : swapsWithSole [tg] e pos.line X.env = pure false := by rfl) (hw : swappedStores [tg] e X.env = pure none := by rfl)
    (h1 : (assignEach [tg] X.env).map (·.2) = [assign tg X.env] := by rfl) : DS X W (.Assign [tg] e pos) (dAsg t gd) := by
  obtain ⟨s, p, r⟩ := he
  obtain ⟨g, pg, rg⟩ := hg
  refine ⟨_, ps_asg p pg hs hw h1, fun U σ ρ H D E R h B => ?_⟩
  refine r U σ ρ H _ D.ex _ R h (fun r ρ1 v H1 q A z => ?_) B.xp
  obtain ⟨d, e, q⟩ := q
  subst e
  exact rg U σ ρ1 H1 v d _ _ A.rep z.val q fun ρ' σ' H' p A2 => B.nx _ _ _ p (A.toAftS.trans A2)
variable {tg : Expr} {wi : TId} {ts : TSd} {tt : TTd} {bd : List Stmt}
def dFor (wi : TId) (g : TGd) (tb : TSd) : TSd := fun D ρ => wi ρ (fun ds st ρ1 => ∃ I : Nat → DEnv → Prop, I 0 ρ1 ∧
  (∀ (i : Nat) d ρ', ds[i]? = some d → I i ρ' → st ρ' ∧ g d ρ' (fun ρ2 => tb { D with nx := I (i + 1), ct := I (i + 1), bk := D.nx } ρ2)) ∧ (∀ ρ', I ds.length ρ' → st ρ' ∧ D.nx ρ')) D.ex
theorem ds_for (hp : PassesOwn (model X.prog X.w) X.A X.env X.xe) (hc : X.calm = true) (hi : DI X W tg iter wi) (hg : DG X tg gd) (hb : DSs X W bd ts)
    (hs : ∀ x, foldedSetIterable iter X.env x = pure x := by intro _; rfl) : DS X W (.For tg iter bd [] pos) (dFor wi gd ts) := by
  obtain ⟨s, p, r⟩ := hi
  obtain ⟨g, pg, rg⟩ := hg
  obtain ⟨s', p', r'⟩ := hb
  refine ⟨_, ps_for hp hc p pg p' hs, fun U σ ρ H D E R h B => ?_⟩
  refine r U σ ρ H _ D.ex _ R h (fun ds st ρ1 H1 J q A itU => ?_) B.xp
  have it := itU U fun _ h => .inl h
  obtain ⟨I, i0, turn, done⟩ := q
  have B1 := B.step A.toAftS
  refine ⟨fun i m σ' H' => m = ds.length - i ∧ i ≤ ds.length ∧ ∃ ρ', I i ρ' ∧ AftS X.K U ρ1 H1 ρ' σ' H', ⟨ds.length, by simp, Nat.zero_le _, ρ1, i0, A.rep.reflS⟩, ?_⟩
  rintro i m σ' H' ⟨rfl, hi, ρ', hI, A1⟩
  by_cases hlt : i < ds.length
  · have e0 := List.getElem?_eq_getElem hlt
    obtain ⟨hst, _⟩ := turn i _ ρ' e0 hI
    refine .inr ⟨it.go _ _ _ _ A1 hst hlt, fun σ2 H2 => ∃ ρ2, I (i + 1) ρ2 ∧ AftS X.K U ρ1 H1 ρ2 σ2 H2, ?_, fun x H2 y => ?_⟩
    · rintro σ2 H2 ⟨ρ2, h2, A2⟩
      exact ⟨ds.length - (i + 1), by omega, rfl, hlt, ρ2, h2, A2⟩
    · obtain ⟨d, ed, A2, qd⟩ := it.yld _ _ _ _ _ _ A1 hst hlt y
      obtain ⟨_, ht⟩ := turn i d ρ' ed hI
      refine rg U σ' ρ' H2 x d _ _ A2.rep qd ht fun ρ3 σ3 H3 h3 A3 => ?_
      have A123 := A1.trans (A2.trans A3)
      exact r' U σ3 ρ3 H3 _ _ A3.rep h3 ⟨fun ρ4 σ4 H4 q A4 => ⟨ρ4, q, A123.trans A4⟩, (B1.step A123).rt, (B1.step A123).ex, (B1.step A123).nx, fun ρ4 σ4 H4 q A4 => ⟨ρ4, q, A123.trans A4⟩⟩
  · have e : i = ds.length := by omega
    subst e
    obtain ⟨hst, hn⟩ := done ρ' hI
    exact .inl ⟨it.stop _ _ _ _ A1 hst (Nat.le_refl _), B1.nx _ _ _ hn A1⟩
/-- while, by a word and a measure -/
def dWhile (c : TTd) (tb : TSd) : TSd := fun D ρ => ∃ I : Nat → DEnv → Prop, (∃ m, I m ρ) ∧ ∀ m ρ', I m ρ' →
  c ρ' (fun b ρ1 => if b = true then tb { D with nx := fun ρ2 => ∃ m', m' < m ∧ I m' ρ2, ct := fun ρ2 => ∃ m', m' < m ∧ I m' ρ2, bk := D.nx } ρ1 else D.nx ρ1) D.ex
theorem ds_while (hp : PassesOwn (model X.prog X.w) X.A X.env X.xe) (hc : DT X W c tt) (hb : DSs X W bd ts) : DS X W (.While c bd [] pos) (dWhile tt ts) := by
  obtain ⟨s, p, r⟩ := hc
  obtain ⟨s', p', r'⟩ := hb
  refine ⟨_, ps_while hp p p', fun U σ ρ H D E R h B => ?_⟩
  obtain ⟨I, ⟨m0, i0⟩, turn⟩ := h
  refine ⟨fun m σ' H' => ∃ ρ', I m ρ' ∧ AftS X.K U ρ H ρ' σ' H', ⟨m0, ρ, i0, R.reflS⟩, ?_⟩
  rintro m σ' H' ⟨ρ', hI, A1⟩
  have B1 := B.step A1
  refine r U σ' ρ' H' _ D.ex _ A1.rep (turn m ρ' hI) (fun b ρ1 H1 q A => ?_) B1.xp
  have A2 := A1.trans A.toAftS
  cases b with
  | true =>
    refine ⟨fun σ2 H2 => ∃ m', m' < m ∧ ∃ ρ2, I m' ρ2 ∧ AftS X.K U ρ H ρ2 σ2 H2, fun σ2 H2 h => h, ?_⟩
    exact r' U σ' ρ1 H1 _ _ A.rep q ⟨fun ρ4 σ4 H4 ⟨m', hm, q⟩ A4 => ⟨m', hm, ρ4, q, A2.trans A4⟩, (B.step A2).rt, (B.step A2).ex, (B.step A2).nx, fun ρ4 σ4 H4 ⟨m', hm, q⟩ A4 => ⟨m', hm, ρ4, q, A2.trans A4⟩⟩
  | false => exact B1.nx _ _ _ q A.toAftS
end
end DL

namespace DL
open PySem L2
variable [WW]
/-! comprehensions -/
inductive NT where
  | one (j : Nat) | many (js : List Nat)
def NT.sl : NT → List Nat
  | .one j => [j]
  | .many js => js
def gNs : List Nat → TGs
  | [] => gNil
  | j :: js => gCons (gName j) (gNs js)
def ntG (K : PySem.W.Frag) : NT → TG
  | .one j => gName j
  | .many js => gTup K js.length (gNs js)
def setAll : List Nat → List D → DEnv → Option DEnv
  | [], [], ρ => some ρ
  | j :: js, d :: ds, ρ => setAll js ds (ρ.set j (.v d))
  | _, _, _ => none
def ntD : NT → D → DEnv → Option DEnv
  | .one j, d, ρ => some (ρ.set j (.v d))
  | .many js, .tup ds, ρ => setAll js ds ρ
  | _, _, _ => none
def wipeD (ρ : DEnv) : List Nat → DEnv
  | [] => ρ
  | v :: vs => (wipeD ρ vs).set v .no
def rst (ρ ρ4 : DEnv) : List Nat → DEnv
  | [] => ρ4
  | v :: vs => (rst ρ ρ4 vs).set v (ρ[v]?.getD .no)
section
variable {K : PySem.W.Frag} {U : Addr → Prop} {O : Addr → Prop} {H H0 H' H4 : Hp} {ρ ρ' ρb ρc ρ4 : DEnv} {σ σb σc : St}
theorem wipeD_len : ∀ vs : List Nat, (wipeD ρ vs).length = ρ.length
  | [] => rfl
  | v :: vs => by simp [wipeD, wipeD_len vs]
theorem rst_len : ∀ vs : List Nat, (rst ρ ρ4 vs).length = ρ4.length
  | [] => rfl
  | v :: vs => by simp [rst, rst_len vs]
theorem wipeD_out : ∀ {vs : List Nat} {i : Nat}, i ∉ vs → (wipeD ρ vs)[i]? = ρ[i]?
  | [], i, _ => rfl
  | v :: vs, i, h => by
    simp only [List.mem_cons, not_or] at h
    unfold wipeD
    rw [List.getElem?_set_ne (Ne.symm h.1), wipeD_out h.2]
theorem wipeD_in : ∀ {vs : List Nat} {i : Nat}, i ∈ vs → i < ρ.length → (wipeD ρ vs)[i]? = some .no
  | [], i, h, _ => by simp at h
  | v :: vs, i, h, l => by
    unfold wipeD
    by_cases e : v = i
    · subst e; rw [List.getElem?_set_self (by rw [wipeD_len]; exact l)]
    · rw [List.getElem?_set_ne e]
      rcases List.mem_cons.mp h with h | h
      · exact absurd h.symm e
      · exact wipeD_in h l
theorem wipe_out' : ∀ {vs : List Nat} {i : Nat}, i ∉ vs → (wipe σ vs)[i]? = σ[i]?
  | [], i, _ => rfl
  | v :: vs, i, h => by
    simp only [List.mem_cons, not_or] at h
    unfold wipe
    rw [List.getElem?_set_ne (Ne.symm h.1), wipe_out' h.2]
theorem wipe_in : ∀ {vs : List Nat} {i : Nat}, i ∈ vs → i < σ.length → (wipe σ vs)[i]? = some none
  | [], i, h, _ => by simp at h
  | v :: vs, i, h, l => by
    unfold wipe
    by_cases e : v = i
    · subst e; rw [List.getElem?_set_self (by rw [wipe_length]; exact l)]
    · rw [List.getElem?_set_ne e]
      rcases List.mem_cons.mp h with h | h
      · exact absurd h.symm e
      · exact wipe_in h l
theorem rst_out : ∀ {vs : List Nat} {i : Nat}, i ∉ vs → (rst ρ ρ4 vs)[i]? = ρ4[i]?
  | [], i, _ => rfl
  | v :: vs, i, h => by
    simp only [List.mem_cons, not_or] at h
    unfold rst
    rw [List.getElem?_set_ne (Ne.symm h.1), rst_out h.2]
theorem rst_in : ∀ {vs : List Nat} {i : Nat}, i ∈ vs → i < ρ4.length → (rst ρ ρ4 vs)[i]? = some (ρ[i]?.getD .no)
  | [], i, h, _ => by simp at h
  | v :: vs, i, h, l => by
    unfold rst
    by_cases e : v = i
    · subst e; rw [List.getElem?_set_self (by rw [rst_len]; exact l)]
    · rw [List.getElem?_set_ne e]
      rcases List.mem_cons.mp h with h | h
      · exact absurd h.symm e
      · exact rst_in h l
theorem wipe_eq {vs : List Nat} (hl : σc.length = σ.length) (h : ∀ i, i ∉ vs → σc[i]? = σ[i]?) : wipe σc vs = wipe σ vs := by
  refine List.ext_getElem? fun i => ?_
  by_cases hi : i ∈ vs
  · by_cases l : i < σ.length
    · rw [wipe_in hi (by rw [hl]; exact l), wipe_in hi l]
    · rw [List.getElem?_eq_none (by rw [wipe_length, hl]; omega), List.getElem?_eq_none (by rw [wipe_length]; omega)]
  · rw [wipe_out' hi, wipe_out' hi, h i hi]
/-- the block's slots against the def's -/
structure Blk (vs : List Nat) (ρ : DEnv) (σ : St) (ρc : DEnv) (σc : St) : Prop where
  l1 : ρc.length = ρ.length
  l2 : σc.length = σ.length
  out : ∀ i, i ∉ vs → ρc[i]? = ρ[i]? ∧ σc[i]? = σ[i]?
  inn : ∀ i, i ∈ vs → ∀ s, ρc[i]? = some s → adr s = none
  own : ∀ i, i ∈ vs → ∀ s, ρ[i]? = some s → adr s = none
theorem adrs_idx {ρ ρ' : DEnv} (h : ∀ i : Nat, (ρ[i]?).bind adr = (ρ'[i]?).bind adr) (hl : ρ.length = ρ'.length) : adrs ρ = adrs ρ' := by
  have e : ρ.map adr = ρ'.map adr := by
    refine List.ext_getElem? fun i => ?_
    rw [List.getElem?_map, List.getElem?_map]
    have q := h i
    cases e1 : ρ[i]? with
    | none =>
      have : ρ'[i]? = none := by rw [List.getElem?_eq_none_iff] at e1 ⊢; omega
      rw [this]
    | some s =>
      cases e2 : ρ'[i]? with
      | none => rw [List.getElem?_eq_none_iff] at e2; have := (List.getElem?_eq_some_iff.mp e1).1; omega
      | some s' => rw [e1, e2] at q; simp only [Option.bind_some] at q; simp only [Option.map_some, q]
  have f : ∀ l : DEnv, adrs l = (l.map adr).filterMap id := fun l => by unfold adrs; rw [List.filterMap_map]; rfl
  rw [f, f, e]
theorem Blk.adr {vs : List Nat} (B : Blk vs ρ σ ρc σc) : adrs ρc = adrs ρ := by
  refine adrs_idx (fun i => ?_) B.l1
  by_cases hi : i ∈ vs
  · have h1 : (ρc[i]?).bind DL.adr = none := by
      cases e : ρc[i]? with
      | none => rfl
      | some s => exact B.inn i hi s e
    have h2 : (ρ[i]?).bind DL.adr = none := by
      cases e : ρ[i]? with
      | none => rfl
      | some s => exact B.own i hi s e
    rw [h1, h2]
  · rw [(B.out i hi).1]
theorem blk_wipe {vs : List Nat} (R : Rep K U H σ ρ) (own : ∀ i, i ∈ vs → ∀ s, ρ[i]? = some s → adr s = none) : Blk vs ρ σ (wipeD ρ vs) (wipe σ vs) ∧ Rep K U H (wipe σ vs) (wipeD ρ vs) := by
  have hl := R.slots.len
  have B : Blk vs ρ σ (wipeD ρ vs) (wipe σ vs) := ⟨wipeD_len vs, wipe_length σ vs, fun i hi => ⟨wipeD_out hi, wipe_out' hi⟩, fun i hi s e => by
    rw [wipeD_in hi (by have := (List.getElem?_eq_some_iff.mp e).1; rw [wipeD_len] at this; exact this)] at e
    cases e; rfl, own⟩
  have ea := B.adr
  refine ⟨B, ⟨Slots.mk (by rw [wipeD_len, wipe_length, hl]) fun i s o h1 h2 => ?_, by rw [ea]; exact R.nd, R.uth, fun a h => R.dis a (by rw [ea] at h; exact h)⟩⟩
  by_cases hi : i ∈ vs
  · rw [wipeD_in hi (by have := (List.getElem?_eq_some_iff.mp h1).1; rw [wipeD_len] at this; exact this)] at h1
    cases h1; trivial
  · rw [wipeD_out hi] at h1
    rw [wipe_out' hi] at h2
    obtain ⟨o', e', ok⟩ := R.slots.get h1
    rw [h2] at e'; cases e'
    have m : Mo (Ow U ρ) (Ow U (wipeD ρ vs)) H H := R.mono fun a h => h.imp id fun h => by rw [ea] at h; exact h
    cases s with
    | no => trivial
    | d a ep kvs => exact ⟨ok.1, ok.2.to m rfl⟩
    | o kd C dx x a ds => exact ⟨ok.1, ok.2.to m rfl⟩
    | v d => obtain ⟨v, ev, q⟩ := ok; exact ⟨v, ev, m.dq _ _ q⟩
    | l a ds => obtain ⟨ev, xs, q1, q2⟩ := ok; exact ⟨ev, xs, q1, m.dqs _ _ q2⟩
theorem Blk.set {vs : List Nat} (B : Blk vs ρ σ ρc σc) {j : Nat} (hj : j ∈ vs) (d : D) (x : V) : Blk vs ρ σ (ρc.set j (.v d)) (σc.set j (some x)) := by
  refine ⟨by rw [List.length_set]; exact B.l1, by rw [List.length_set]; exact B.l2, fun i hi => ?_, fun i hi s e => ?_, B.own⟩
  · have ne : j ≠ i := fun e => hi (e ▸ hj)
    rw [List.getElem?_set_ne ne, List.getElem?_set_ne ne]
    exact B.out i hi
  · by_cases e' : j = i
    · subst e'
      have hlt : j < ρc.length := by have := (List.getElem?_eq_some_iff.mp e).1; rw [List.length_set] at this; exact this
      rw [List.getElem?_set_self hlt] at e
      cases e; rfl
    · rw [List.getElem?_set_ne e'] at e
      exact B.inn i hi s e
theorem gNs_ok {vs : List Nat} : ∀ {js : List Nat} {ds : List D} {xs : List V} {ρc ρe : DEnv} {σc : St} {Q : St → Hp → Prop}, (∀ j ∈ js, j ∈ vs) → Blk vs ρ σ ρc σc → Rep K U H σc ρc → Dqs K (Ow U ρc) H ds xs → setAll js ds ρc = some ρe →
    (∀ σe, Blk vs ρ σ ρe σe → Rep K U H σe ρe → Q σe H) → gNs js xs σc H Q
  | [], [], xs, ρc, ρe, σc, Q, _, B, R, q, e, k => by
    simp only [setAll, Option.some.injEq] at e
    subst e
    simp only [Dqs] at q
    exact ⟨q, k _ B R⟩
  | [], _ :: _, _, _, _, _, _, _, _, _, _, e, _ => by simp [setAll] at e
  | _ :: _, [], _, _, _, _, _, _, _, _, _, e, _ => by simp [setAll] at e
  | j :: js, d :: ds, xs, ρc, ρe, σc, Q, hj, B, R, q, e, k => by
    simp only [Dqs] at q
    obtain ⟨v, r, ev, q1, q2⟩ := q
    subst ev
    have A := R.setN j (s := .v d) (o := some v) rfl ⟨v, rfl, q1⟩
    exact ⟨v, r, rfl, gNs_ok (fun j' h => hj j' (List.mem_cons_of_mem _ h)) (B.set (hj j List.mem_cons_self) d v) A.rep (A.xt.mo.dqs _ _ q2) e k⟩
theorem nt_ok {vs : List Nat} {nt : NT} {d : D} {x : V} {ρe : DEnv} {Q : St → Hp → Prop} (hj : ∀ j ∈ nt.sl, j ∈ vs) (B : Blk vs ρ σ ρc σc) (R : Rep K U H σc ρc) (q : Dq K (Ow U ρc) H d x) (e : ntD nt d ρc = some ρe)
    (k : ∀ σe, Blk vs ρ σ ρe σe → Rep K U H σe ρe → Q σe H) : ntG K nt x σc H Q := by
  cases nt with
  | one j =>
    simp only [ntD, Option.some.injEq] at e
    subst e
    exact k _ (B.set (hj j (by simp [NT.sl])) d x) (R.setN j (s := .v d) (o := some x) rfl ⟨x, rfl, q⟩).rep
  | many js =>
    cases d with
    | tup ds =>
      simp only [ntD] at e
      simp only [Dq] at q
      obtain ⟨a, xs, ev, q1, q2⟩ := q
      have hl : ∀ (js : List Nat) (ds : List D) (ρ : DEnv), setAll js ds ρ = some ρe → js.length = ds.length := by
        intro js
        induction js with
        | nil => intro ds ρ h; cases ds with
          | nil => rfl
          | cons _ _ => simp [setAll] at h
        | cons j js ih => intro ds ρ h; cases ds with
          | nil => simp [setAll] at h
          | cons d ds => simp only [List.length_cons, ih ds _ h]
      exact ⟨a, xs, ev, q1.sq, by rw [← dqs_len q2, hl js ds _ e], gNs_ok hj B R q2 e k⟩
    | non => simp [ntD] at e
    | bl b => simp [ntD] at e
    | int i => simp [ntD] at e
    | str l => simp [ntD] at e
    | lst ds => simp [ntD] at e
    | ob ds => simp [ntD] at e
/-- from the block back to the def -/
theorem unblock {vs : List Nat} (R : Rep K U H σ ρ) (B : Blk vs ρ σ ρc σc) (A : Aft K U ρc H σc ρ4 H4) : Aft K U ρ H σ (rst ρ ρ4 vs) H4 := by
  have l4 : ρ4.length = ρc.length := by have := congrArg List.length A.er; simpa using this
  have e4 := A.adr
  have ec := B.adr
  have ee : (rst ρ ρ4 vs).map er = ρ.map er := by
    refine List.ext_getElem? fun i => ?_
    rw [List.getElem?_map, List.getElem?_map]
    by_cases hi : i ∈ vs
    · by_cases l : i < ρ.length
      · rw [rst_in hi (by rw [l4, B.l1]; exact l), List.getElem?_eq_getElem l]
        rfl
      · rw [List.getElem?_eq_none (by rw [rst_len, l4, B.l1]; omega), List.getElem?_eq_none (by omega)]
    · rw [rst_out hi]
      have q : (ρ4.map er)[i]? = (ρc.map er)[i]? := by rw [A.er]
      rw [List.getElem?_map, List.getElem?_map, (B.out i hi).1] at q
      exact q
  have ea := adrs_er ee
  have x : Xt ρ (rst ρ ρ4 vs) H H4 := ⟨fun a o n h => A.xt.keep a o (by rw [ec]; exact n) h, fun a h => .inl (by rw [ea] at h; exact h), A.xt.there⟩
  refine ⟨⟨⟨Slots.mk (by rw [rst_len, l4, B.l1]; exact R.slots.len) fun i s o h1 h2 => ?_, by rw [ea]; exact R.nd, A.rep.uth, fun a h => R.dis a (by rw [ea] at h; exact h)⟩, x⟩, ee⟩
  by_cases hi : i ∈ vs
  · have l : i < ρ4.length := by have := (List.getElem?_eq_some_iff.mp h1).1; rw [rst_len] at this; exact this
    rw [rst_in hi l] at h1
    have l' : i < ρ.length := by rw [← B.l1, ← l4]; exact l
    rw [List.getElem?_eq_getElem l'] at h1
    simp only [Option.getD_some, Option.some.injEq] at h1
    have e0 : ρ[i]? = some s := by rw [List.getElem?_eq_getElem l', h1]
    obtain ⟨o', e', ok⟩ := R.slots.get e0
    rw [h2] at e'; cases e'
    have hn := B.own i hi s e0
    cases s with
    | no => trivial
    | d a ep kvs => cases hn
    | o kd C dx x a ds => cases hn
    | v d => obtain ⟨v, ev, q⟩ := ok; exact ⟨v, ev, x.mo.dq _ _ q⟩
    | l a ds => cases hn
  · rw [rst_out hi] at h1
    obtain ⟨o', e', ok⟩ := A.rep.slots.get h1
    rw [(B.out i hi).2, h2] at e'; cases e'
    have m : Mo (Ow U ρ4) (Ow U (rst ρ ρ4 vs)) H4 H4 := A.rep.mono fun a h => h.imp id fun h => by rw [e4, ec, ← ea]; exact h
    cases s with
    | no => trivial
    | d a ep kvs => exact ⟨ok.1, ok.2.to m rfl⟩
    | o kd C dx x a ds => exact ⟨ok.1, ok.2.to m rfl⟩
    | v d => obtain ⟨v, ev, q⟩ := ok; exact ⟨v, ev, m.dq _ _ q⟩
    | l a ds => obtain ⟨ev, xs, q1, q2⟩ := ok; exact ⟨ev, xs, q1, m.dqs _ _ q2⟩
end
abbrev WF : WX := fun _ _ _ _ => False
abbrev EF : EX := fun _ _ => False
def noLs (vs : List Nat) (ρ : DEnv) : Prop := ∀ i, i ∈ vs → ∀ s, ρ[i]? = some s → adr s = none
def dLc (wi : TId) (nt : NT) (vs : List Nat) (tt : TTd) (te : TD) : TD := fun ρ P E => wi ρ (fun ds st ρ1 => noLs vs ρ1 ∧ ds.length ≤ 1000000 ∧ ∃ I : Nat → List D → DEnv → Prop, I 0 [] ρ1 ∧
  (∀ (i : Nat) d acc ρ', ds[i]? = some d → I i acc ρ' → acc.length ≤ i → st ρ' ∧ ∃ ρc, ntD nt d (wipeD ρ' vs) = some ρc ∧ tt ρc (fun b ρ3 => if b = true then te ρ3 (fun r ρ4 => ∃ d', frz r = some d' ∧ I (i + 1) (acc ++ [d']) (rst ρ' ρ4 vs)) EF else I (i + 1) acc (rst ρ' ρ3 vs)) EF) ∧
  ∀ acc ρ', I ds.length acc ρ' → st ρ' ∧ ∀ a, P (.f a acc) ρ') E
def DTs (X : Cx) (W : WX) (ifs : List Expr) (t : TTd) : Prop := ∃ te, PTs X ifs te ∧ Rft X.K W te t
def dYes : TTd := fun ρ P _ => P true ρ
section
variable {X : Cx} {W : WX} {e iter tg c : Expr} {ifs : List Expr} {te : TD} {tt : TTd} {wi : TId} {pos : Pos}
theorem dts_nil : DTs X W [] dYes := ⟨_, pts_nil, fun U σ ρ H P E Q R h k _ => k _ _ _ h R.refl⟩
theorem dts_one (h : DT X W c tt) : DTs X W [c] tt := by
  obtain ⟨s, p, r⟩ := h
  exact ⟨_, pts_one p, r⟩
theorem rf_lc {K : PySem.W.Frag} {swi : TI} {nt : NT} {vs : List Nat} {stt : TT} {ste : TE} (hj : ∀ j ∈ nt.sl, j ∈ vs) (ri : Rfi K W swi wi) (rt : Rft K WF stt tt) (re : Rf K WF ste te) : Rf K W (tLc swi (ntG K nt) stt ste vs) (dLc wi nt vs tt te) := by
  intro U σ ρ H P E Q R h k x
  refine ri U σ ρ H _ E _ R h (fun ds st ρ1 H1 J q A itU Dl hD => ?_) x
  obtain ⟨nol, hlen, I, i0, turn, done⟩ := q
  have it := itU (Ua U Dl) fun a h => h.imp id fun h => by rw [h]; exact hD
  obtain ⟨R1, _⟩ := RepR.ua (r := .v .non) (v := .non) A.rep (by simp only [RepR, Dq]) (o := .lst []) hD
  refine ⟨fun i m H' => m = ds.length - i ∧ i ≤ ds.length ∧ ∃ acc ρ' xs, I i acc ρ' ∧ acc.length ≤ i ∧ Aft K (Ua U Dl) ρ1 H1 σ ρ' H' ∧ H' Dl = some (.lst xs) ∧ Dqs K (Ow (Ua U Dl) ρ') H' acc xs,
    ⟨ds.length, by simp, Nat.zero_le _, [], ρ1, [], i0, Nat.le_refl _, ⟨⟨R1, (A.rep.new hD).xt⟩, rfl⟩, upd_same, dqs_nil⟩, ?_⟩
  rintro i m H' ⟨rfl, hi, acc, ρ', xs, hI, hal, A1, hDl, hacc⟩
  have nol' : noLs vs ρ' := fun j hj s e => by
    have q : (ρ'.map er)[j]? = (ρ1.map er)[j]? := by rw [A1.er]
    rw [List.getElem?_map, List.getElem?_map, e] at q
    cases z : ρ1[j]? with
    | none => rw [z] at q; simp at q
    | some s1 =>
      rw [z] at q
      simp only [Option.map_some, Option.some.injEq] at q
      rw [← adr_er, q, adr_er]
      exact nol j hj s1 z
  have hDn : ∀ {ρ : DEnv}, Dl ∉ adrs ρ → True := fun _ => trivial
  by_cases hlt : i < ds.length
  · have e0 := List.getElem?_eq_getElem hlt
    obtain ⟨hst, _⟩ := turn i _ acc ρ' e0 hI hal
    refine .inr ⟨it.go _ _ _ _ A1.toAftS hst hlt, fun H2 => ∃ acc ρ2 xs, I (i + 1) acc ρ2 ∧ acc.length ≤ i + 1 ∧ Aft K (Ua U Dl) ρ1 H1 σ ρ2 H2 ∧ H2 Dl = some (.lst xs) ∧ Dqs K (Ow (Ua U Dl) ρ2) H2 acc xs, ?_, fun x' H2 y => ?_⟩
    · rintro H2 ⟨acc, ρ2, xs, q⟩
      exact ⟨ds.length - (i + 1), by omega, rfl, hlt, acc, ρ2, xs, q⟩
    · obtain ⟨d, ed, A2, qd⟩ := it.yld _ _ _ _ _ _ A1.toAftS hst hlt y
      obtain ⟨_, ρc, ec, ht⟩ := turn i d acc ρ' ed hI hal
      obtain ⟨B0, Rb⟩ := blk_wipe A2.rep nol'
      have A2' : Aft K (Ua U Dl) ρ' H' σ ρ' H2 := ⟨A2, rfl⟩
      have nDl : ¬ (Dl ∈ adrs ρ') := fun z => A1.rep.dis _ z (.inr rfl)
      have hDl2 : H2 Dl = some (.lst xs) := A2.xt.keep _ _ nDl hDl
      have hacc2 := A2.xt.mo.dqs _ _ hacc
      have mb : Mo (Ow (Ua U Dl) ρ') (Ow (Ua U Dl) (wipeD ρ' vs)) H2 H2 := A2.rep.mono fun a h => h.imp id fun h => by rw [B0.adr] at h; exact h
      refine nt_ok hj B0 Rb (mb.dq _ _ qd) ec fun σe Be Re => ⟨wipe_eq Be.l2 fun i hi => (Be.out i hi).2, ?_⟩
      refine rt (Ua U Dl) σe ρc H2 _ EF _ Re ht (fun b ρ3 H3 q3 A3 => ?_) (fun _ _ _ z _ => z.elim)
      cases b with
      | false =>
        have A4 := unblock A2.rep Be A3
        exact ⟨acc, _, xs, q3, by omega, A1.trans (A2'.trans A4), A4.xt.keep _ _ nDl hDl2, A4.xt.mo.dqs _ _ hacc2⟩
      | true =>
        refine re (Ua U Dl) σe ρ3 H3 _ EF _ A3.rep q3 (fun r ρ4 y4 H4 q4 A4 z4 => ?_) (fun _ _ _ z _ => z.elim)
        obtain ⟨d', ef, q4⟩ := q4
        have A5 := unblock A2.rep Be (A3.trans A4)
        have hDl4 : H4 Dl = some (.lst xs) := A5.xt.keep _ _ nDl hDl2
        have hl4 : xs.length = acc.length := (dqs_len hacc).symm
        have dq4 : Dq K (Ow (Ua U Dl) ρ4) H4 d' y4 := A4.rep.fz z4.val (by cases r <;> simp_all [frz])
        have e45 : adrs (rst ρ' ρ4 vs) = adrs ρ4 := by rw [A5.adr, (A3.trans A4).adr, Be.adr]
        have m45 : Mo (Ow (Ua U Dl) ρ4) (Ow (Ua U Dl) (rst ρ' ρ4 vs)) H4 H4 := A4.rep.mono fun a h => h.imp id fun h => by rw [← e45]; exact h
        have acc4 : Dqs K (Ow (Ua U Dl) (rst ρ' ρ4 vs)) H4 (acc ++ [d']) (xs ++ [y4]) := dqs_app (A5.xt.mo.dqs _ _ hacc2) (dqs_cons (m45.dq _ _ dq4) dqs_nil)
        -- the new list grows: nobody speaks of it
        have nDl5 : Dl ∉ adrs (rst ρ' ρ4 vs) := fun z => nDl (by rw [A5.adr] at z; exact z)
        have x6 : Xt (rst ρ' ρ4 vs) (rst ρ' ρ4 vs) H4 (upd H4 Dl (.lst (xs ++ [y4]))) → True := fun _ => trivial
        have m6 : Mo (Ow (Ua U Dl) (rst ρ' ρ4 vs)) (Ow (Ua U Dl) (rst ρ' ρ4 vs)) H4 (upd H4 Dl (.lst (xs ++ [y4]))) := ⟨fun a o n h => by rw [upd_ne (fun z => n (.inl (.inr z)))]; exact h, fun a h => .inl h⟩
        refine ⟨xs, hDl4, by rw [hl4, sizeLine_eq]; omega, acc ++ [d'], _, xs ++ [y4], q4, by simp; omega, ?_, upd_same, m6.dqs _ _ acc4⟩
        have A6 := A1.trans (A2'.trans A5)
        refine ⟨⟨⟨A6.rep.slots.mono m6 fun a ha => upd_ne (fun z => nDl5 (z ▸ ha)), A6.rep.nd, fun a h => ?_, A6.rep.dis⟩, ⟨fun a o n h => ?_, A6.xt.new, fun a o h => ?_⟩⟩, A6.er⟩
        · obtain ⟨o, e⟩ := A6.rep.uth a h
          exact upd_there a o e
        · rw [upd_ne (ne_of_none h hD)]; exact A6.xt.keep a o n h
        · obtain ⟨o', e⟩ := A6.xt.there a o h
          exact upd_there a o' e
  · have e : i = ds.length := by omega
    subst e
    obtain ⟨hst, hn⟩ := done acc ρ' hI
    refine .inl ⟨it.stop _ _ _ _ A1.toAftS hst (Nat.le_refl _), ?_⟩
    have nDl : ¬ (Dl ∈ adrs ρ') := fun z => A1.rep.dis _ z (.inr rfl)
    have A7 : Aft K U ρ1 H1 σ ρ' H' := A1.less fun _ h => .inl h
    refine k _ ρ' _ H' (hn Dl) (A.trans A7) ⟨⟨rfl, fun z => ?_, xs, hDl, hacc⟩, A.xt.back hD, fun a es e => ?_⟩
    · rcases z with z | z
      · obtain ⟨o, e⟩ := A.rep.uth _ z
        rw [hD] at e; cases e
      · exact nDl z
    · cases e; exact A1.rep
/-- one reading for every start of the block -/
theorem uni_e {ι : Type} {Y : ι → Cx} {K : PySem.W.Frag} (hK : ∀ i, (Y i).K = K) (h : ∀ i, DE (Y i) WF e te) : ∃ s, (∀ i, PE (Y i) e s) ∧ Rf K WF s te := by
  refine ⟨fun σ H Q => ∀ i, ∃ s', PE (Y i) e s' ∧ s' σ H Q, fun i => ⟨fun pins s σ H Q I hq => ?_⟩, fun U σ ρ H P E Q R h' k x i => ?_⟩
  · obtain ⟨s', p, q⟩ := hq i
    exact p.run pins s σ H Q I q
  · obtain ⟨s', p, r⟩ := h i
    rw [hK i] at r
    exact ⟨s', p, r U σ ρ H P E Q R h' k x⟩
theorem uni_t {ι : Type} {Y : ι → Cx} {K : PySem.W.Frag} (hK : ∀ i, (Y i).K = K) (h : ∀ i, DTs (Y i) WF ifs tt) : ∃ s, (∀ i, PTs (Y i) ifs s) ∧ Rft K WF s tt := by
  refine ⟨fun σ H Q => ∀ i, ∃ s', PTs (Y i) ifs s' ∧ s' σ H Q, fun i => ⟨fun pins s σ H Q I hq => ?_⟩, fun U σ ρ H P E Q R h' k x i => ?_⟩
  · obtain ⟨s', p, q⟩ := hq i
    exact p.run pins s σ H Q I q
  · obtain ⟨s', p, r⟩ := h i
    rw [hK i] at r
    exact ⟨s', p, r U σ ρ H P E Q R h' k x⟩
theorem de_lc {scope : Scope} {own : List (Str × Nat)} {nt : NT} (hc : X.calm = true) (hN : X.N.Nodup) (hi : DI X W tg iter wi) (ok : BlkOk X.N X.env.scope scope own)
    (hj : ∀ j ∈ nt.sl, j ∈ own.map (·.2)) (hg : ∀ (s : Shared) (H : Hp) (C : Addr) (cl : List (Str × Addr)) (fp : List Addr), PG (X.blk s H scope (compEnvC scope cl C X.env) fp) tg (ntG X.K nt))
    (ht : ∀ (s : Shared) (H : Hp) (C : Addr) (cl : List (Str × Addr)) (fp : List Addr), DTs (X.blk s H scope (compEnvC scope cl C X.env) fp) WF ifs tt)
    (he : ∀ (s : Shared) (H : Hp) (C : Addr) (cl : List (Str × Addr)) (fp : List Addr), DE (X.blk s H scope (compEnvC scope cl C X.env) fp) WF e te)
    (hs : ∀ x, foldedSetIterable iter X.env x = pure x := by intro _; rfl) :
    DE X W (.ListComp e [⟨tg, iter, ifs, 0⟩] scope pos) (dLc wi nt (own.map (·.2)) tt te) := by
  obtain ⟨swi, pwi, rwi⟩ := hi
  obtain ⟨st, pt, rt⟩ := uni_t (ι := Shared × Hp × Addr × List (Str × Addr) × List Addr) (Y := fun i => X.blk i.1 i.2.1 scope (compEnvC scope i.2.2.2.1 i.2.2.1 X.env) i.2.2.2.2) (K := X.K) (fun _ => rfl) fun i => ht i.1 i.2.1 i.2.2.1 i.2.2.2.1 i.2.2.2.2
  obtain ⟨se, pe, re⟩ := uni_e (ι := Shared × Hp × Addr × List (Str × Addr) × List Addr) (Y := fun i => X.blk i.1 i.2.1 scope (compEnvC scope i.2.2.2.1 i.2.2.1 X.env) i.2.2.2.2) (K := X.K) (fun _ => rfl) fun i => he i.1 i.2.1 i.2.2.1 i.2.2.2.1 i.2.2.2.2
  exact ⟨_, pe_lc hc hN pwi ok hg (fun s H C cl fp => pt (s, H, C, cl, fp)) (fun s H C cl fp => pe (s, H, C, cl, fp)) hs, rf_lc hj rwi rt re⟩
theorem ds_setLc (i : Nat) {y : Str} {py spos : Pos} {scope : Scope} {own : List (Str × Nat)} {nt : NT} (hc : X.calm = true) (hN : X.N.Nodup) (hy : X.N[i]? = some y) (hyl : X.env.scope.names.lookup y = some .local)
    (hsw : swapsWith (.ListComp e [⟨tg, iter, ifs, 0⟩] scope pos) (some (.Name y py)) spos.line X.env = pure true) (hi : DI X W tg iter wi) (ok : BlkOk X.N X.env.scope scope own)
    (hj : ∀ j ∈ nt.sl, j ∈ own.map (·.2)) (hg : ∀ (s : Shared) (H : Hp) (C : Addr) (cl : List (Str × Addr)) (fp : List Addr), PG (X.blk s H scope (compEnvC scope cl C X.env) fp) tg (ntG X.K nt))
    (ht : ∀ (s : Shared) (H : Hp) (C : Addr) (cl : List (Str × Addr)) (fp : List Addr), DTs (X.blk s H scope (compEnvC scope cl C X.env) fp) WF ifs tt)
    (he : ∀ (s : Shared) (H : Hp) (C : Addr) (cl : List (Str × Addr)) (fp : List Addr), DE (X.blk s H scope (compEnvC scope cl C X.env) fp) WF e te)
    (hs : ∀ x, foldedSetIterable iter X.env x = pure x := by intro _; rfl) :
    DS X W (.Assign [.Name y py] (.ListComp e [⟨tg, iter, ifs, 0⟩] scope pos) spos) (dSet i (dLc wi nt (own.map (·.2)) tt te)) := by
  obtain ⟨swi, pwi, rwi⟩ := hi
  obtain ⟨st, pt, rt⟩ := uni_t (ι := Shared × Hp × Addr × List (Str × Addr) × List Addr) (Y := fun i => X.blk i.1 i.2.1 scope (compEnvC scope i.2.2.2.1 i.2.2.1 X.env) i.2.2.2.2) (K := X.K) (fun _ => rfl) fun i => ht i.1 i.2.1 i.2.2.1 i.2.2.2.1 i.2.2.2.2
  obtain ⟨se, pe, re⟩ := uni_e (ι := Shared × Hp × Addr × List (Str × Addr) × List Addr) (Y := fun i => X.blk i.1 i.2.1 scope (compEnvC scope i.2.2.2.1 i.2.2.1 X.env) i.2.2.2.2) (K := X.K) (fun _ => rfl) fun i => he i.1 i.2.1 i.2.2.1 i.2.2.2.1 i.2.2.2.2
  exact ⟨_, ps_setLc hc hN hy hyl hsw pwi ok hg (fun s H C cl fp => pt (s, H, C, cl, fp)) (fun s H C cl fp => pe (s, H, C, cl, fp)) hs, rfs_set (rf_lc hj rwi rt re)⟩
end
end DL

namespace DL
open PySem L2
variable [WW]
/-! operators on data -/
section
variable {K : PySem.W.Frag} {U : Addr → Prop} {O : Addr → Prop} {H H0 H' : Hp} {ρ ρ' : DEnv} {σ : St}
theorem RepF.flat (d : D) (f : flat d = true) : RepF K U H0 H σ ρ (.v d) (sv d) := ⟨(dq_flat f).mpr rfl, trivial, fun _ _ e => nomatch e⟩
theorem RepR.vflat {d : D} {v : V} (f : flat d = true) (h : RepR K U H ρ (.v d) v) : v = sv d := (dq_flat f).mp h
def oI (C : Int → Int → Prop) (g : Int → Int → D) : R2d := fun x y ρ P => ∃ i j, x = .v (.int i) ∧ y = .v (.int j) ∧ C i j ∧ P (.v (g i j)) ρ
def oI0 (g : Int → Int → D) : R2d := fun x y ρ P => ∃ i j, x = .v (.int i) ∧ y = .v (.int j) ∧ P (.v (g i j)) ρ
theorem od_I {C : Int → Int → Prop} {g : Int → Int → D} {g' : Int → Int → V} (f : ∀ i j, flat (g i j) = true := by intro _ _; rfl) (e : ∀ i j, g' i j = sv (g i j) := by intro _ _; rfl) : OpD K (rI C g') (oI C g) := by
  intro U σ ρ H P Q x y v w R qx qy h k
  obtain ⟨i, j, rfl, rfl, c, p⟩ := h
  exact ⟨i, j, qx.vflat rfl, qy.vflat rfl, c, by rw [e]; exact k _ _ _ _ p R.refl (RepF.flat _ (f i j))⟩
theorem od_I0 {g : Int → Int → D} {g' : Int → Int → V} (f : ∀ i j, flat (g i j) = true := by intro _ _; rfl) (e : ∀ i j, g' i j = sv (g i j) := by intro _ _; rfl) : OpD K (rI0 g') (oI0 g) := by
  intro U σ ρ H P Q x y v w R qx qy h k
  obtain ⟨i, j, rfl, rfl, p⟩ := h
  exact ⟨i, j, qx.vflat rfl, qy.vflat rfl, by rw [e]; exact k _ _ _ _ p R.refl (RepF.flat _ (f i j))⟩
abbrev oAdd : R2d := oI0 fun i j => .int (i + j)
abbrev oSub : R2d := oI0 fun i j => .int (i - j)
abbrev oMul : R2d := oI CMul fun i j => .int (i * j)
abbrev oMulW : R2d := oI CMulW fun i j => .int (i * j)
abbrev oFdivW : R2d := oI CDivW fun i j => .int (i / j)
abbrev oFdiv : R2d := oI CDiv fun i j => .int (i / j)
abbrev oMod : R2d := oI (fun _ j => 0 < j) fun i j => .int (i % j)
abbrev oLt : R2d := oI0 fun i j => .bl (decide (i < j))
abbrev oLe : R2d := oI0 fun i j => .bl (decide (i ≤ j))
abbrev oGt : R2d := oI0 fun i j => .bl (decide (j < i))
abbrev oGe : R2d := oI0 fun i j => .bl (decide (j ≤ i))
/-- == of scalars -/
def eqF : D → D → Bool
  | .int i, .int j => decide (i = j)
  | .str a, .str b => decide (a = b)
  | .bl a, .bl b => decide (a = b)
  | .non, .non => true
  | _, _ => false
def scD (d e : D) : Bool := flat d && flat e && scal (sv d) (sv e)
theorem str_inj {a b : List Nat} : (V.str ⟨a.toArray⟩ = V.str ⟨b.toArray⟩) ↔ a = b := by
  constructor
  · intro h; injection h with h; injection h with h; simpa using congrArg Array.toList h
  · rintro rfl; rfl
theorem eqF_ok {d e : D} (h : scD d e = true) : decide (sv d = sv e) = eqF d e := by
  cases d <;> cases e <;> simp [scD, flat, scal, sv, eqF] at h ⊢
def oEq : R2d := fun x y ρ P => ∃ d e, x = .v d ∧ y = .v e ∧ scD d e = true ∧ P (.v (.bl (eqF d e))) ρ
def oNe : R2d := fun x y ρ P => ∃ d e, x = .v d ∧ y = .v e ∧ scD d e = true ∧ P (.v (.bl (!eqF d e))) ρ
theorem scD_fl {d e : D} (h : scD d e = true) : flat d = true ∧ flat e = true ∧ scal (sv d) (sv e) = true := by
  simp only [scD, Bool.and_eq_true] at h
  exact ⟨h.1.1, h.1.2, h.2⟩
theorem od_eq : OpD K rEq oEq := by
  intro U σ ρ H P Q x y v w R qx qy h k
  obtain ⟨d, e, rfl, rfl, c, p⟩ := h
  obtain ⟨f1, f2, sc⟩ := scD_fl c
  rw [qx.vflat f1, qy.vflat f2]
  refine ⟨sc, ?_⟩
  rw [eqF_ok c]
  exact k _ _ _ _ p R.refl (RepF.flat (.bl _) rfl)
theorem od_ne : OpD K rNe oNe := by
  intro U σ ρ H P Q x y v w R qx qy h k
  obtain ⟨d, e, rfl, rfl, c, p⟩ := h
  obtain ⟨f1, f2, sc⟩ := scD_fl c
  rw [qx.vflat f1, qy.vflat f2]
  refine ⟨sc, ?_⟩
  rw [eqF_ok c]
  exact k _ _ _ _ p R.refl (RepF.flat (.bl _) rfl)
/-! == of data at any depth -/
mutual
def okD : D → Bool
  | .str l => l.all (· < 0x110000)
  | .tup ds => okDs ds
  | .lst ds => okDs ds
  | .ob _ => false
  | _ => true
def okDs : List D → Bool
  | [] => true
  | d :: ds => okD d && okDs ds
end
mutual
def toPy : D → PyData
  | .non => .none
  | .bl b => .bool b
  | .int i => .int i
  | .str l => .str ⟨l.toArray⟩
  | .tup ds => .tuple (toPys ds)
  | .lst ds => .list (toPys ds)
  | .ob _ => .dict []
def toPys : List D → List PyData
  | [] => []
  | d :: ds => toPy d :: toPys ds
end
mutual
theorem dp_of : ∀ (d : D) (v : V), okD d = true → Dq K O H d v → Dp K H v (toPy d)
  | .non, v, _, h => by simp only [Dq] at h; subst h; simp only [toPy]; exact .non
  | .bl _, v, _, h => by simp only [Dq] at h; subst h; simp only [toPy]; exact .bl _
  | .int _, v, _, h => by simp only [Dq] at h; subst h; simp only [toPy]; exact .int _
  | .str _, v, _, h => by simp only [Dq] at h; subst h; simp only [toPy]; exact .str _
  | .tup ds, v, g, h => by
    simp only [Dq] at h
    simp only [okD] at g
    obtain ⟨a, xs, e, h1, h2⟩ := h
    subst e
    simp only [toPy]
    exact .tup h1.sq (dps_of ds xs g h2)
  | .lst ds, v, g, h => by
    simp only [Dq] at h
    simp only [okD] at g
    obtain ⟨a, xs, e, h1, h2⟩ := h
    subst e
    simp only [toPy]
    exact .lst h1.sq (dps_of ds xs g h2)
  | .ob _, v, g, h => by simp [okD] at g
theorem dps_of : ∀ (ds : List D) (vs : List V), okDs ds = true → Dqs K O H ds vs → DpAll K H vs (toPys ds)
  | [], vs, _, h => by simp only [Dqs] at h; subst h; simp only [toPys]; exact .nil
  | d :: ds, vs, g, h => by
    simp only [Dqs] at h
    simp only [okDs, Bool.and_eq_true] at g
    obtain ⟨v, r, e, h1, h2⟩ := h
    subst e
    simp only [toPys]
    exact .cons (dp_of d v g.1 h1) (dps_of ds r g.2 h2)
end
theorem dp_dw {d : D} {v : V} (g : okD d = true) (h : Dw K O H d v) : Dp K H v (toPy d) := by
  cases d with
  | tup ds => simp only [okD] at g; obtain ⟨a, xs, e, h1, h2⟩ := h; subst e; simp only [toPy]; exact .tup h1 (dps_of ds xs g h2)
  | lst ds => simp only [okD] at g; obtain ⟨a, xs, e, h1, h2⟩ := h; subst e; simp only [toPy]; exact .lst h1 (dps_of ds xs g h2)
  | ob ds => simp [okD] at g
  | non => exact dp_of (O := O) _ _ g (by simpa only [Dq, Dw, sv] using h)
  | bl b => exact dp_of (O := O) _ _ g (by simpa only [Dq, Dw, sv] using h)
  | int b => exact dp_of (O := O) _ _ g (by simpa only [Dq, Dw, sv] using h)
  | str b => exact dp_of (O := O) _ _ g (by simpa only [Dq, Dw, sv] using h)

mutual
def eqv : D → D → Bool
  | .non, .non => true
  | .bl a, .bl b => decide (a = b)
  | .bl a, .int j => decide ((if a then 1 else 0 : Int) = j)
  | .int i, .bl b => decide (i = (if b then 1 else 0 : Int))
  | .int i, .int j => decide (i = j)
  | .str a, .str b => decide (a = b)
  | .tup xs, .tup ys => eqvs xs ys
  | .lst xs, .lst ys => eqvs xs ys
  | _, _ => false
def eqvs : List D → List D → Bool
  | [], [] => true
  | x :: xs, y :: ys => eqv x y && eqvs xs ys
  | _, _ => false
end
mutual
theorem eqv_ok : ∀ d e : D, PyData.eqv (toPy d) (toPy e) = eqv d e
  | .non, e => by cases e <;> simp [toPy, PyData.eqv, eqv]
  | .bl a, e => by cases e <;> simp [toPy, PyData.eqv, eqv, Bool.beq_eq_decide_eq]
  | .int a, e => by cases e <;> simp [toPy, PyData.eqv, eqv, Bool.beq_eq_decide_eq]
  | .str a, e => by
    cases e <;> simp [toPy, PyData.eqv, eqv]
    rename_i b
    by_cases h : a = b
    · subst h; simp
    · simp [h]
  | .tup xs, e => by
    cases e <;> simp [toPy, PyData.eqv, eqv]
    exact eqvs_ok _ _
  | .lst xs, e => by
    cases e <;> simp [toPy, PyData.eqv, eqv]
    exact eqvs_ok _ _
  | .ob xs, e => by
    cases e <;> simp [toPy, PyData.eqv, eqv]
theorem eqvs_ok : ∀ ds es : List D, PyData.eqvAll (toPys ds) (toPys es) = eqvs ds es
  | [], [] => by simp [toPys, PyData.eqvAll, eqvs]
  | [], _ :: _ => by simp [toPys, PyData.eqvAll, eqvs]
  | _ :: _, [] => by simp [toPys, PyData.eqvAll, eqvs]
  | d :: ds, e :: es => by simp only [toPys, PyData.eqvAll, eqvs, eqv_ok d e, eqvs_ok ds es]
end

mutual
def dep : D → Nat
  | .tup ds => deps ds + 1
  | .lst ds => deps ds + 1
  | .ob _ => 1
  | _ => 0
def deps : List D → Nat
  | [] => 0
  | d :: ds => max (dep d) (deps ds)
end
mutual
theorem okD_lay : ∀ d : D, okD d = true → (toPy d).canLay0 = true
  | .non, _ => by simp [toPy, PyData.canLay0]
  | .bl _, _ => by simp [toPy, PyData.canLay0]
  | .int _, _ => by simp [toPy, PyData.canLay0]
  | .str l, h => by
    simp only [okD] at h
    simp only [toPy, PyData.canLay0, PyData.strOk]
    simpa using h
  | .tup ds, h => by simp only [okD] at h; simp only [toPy, PyData.canLay0]; exact okDs_lay ds h
  | .lst ds, h => by simp only [okD] at h; simp only [toPy, PyData.canLay0]; exact okDs_lay ds h
  | .ob _, h => by simp [okD] at h
theorem okDs_lay : ∀ ds : List D, okDs ds = true → PyData.canLayAll0 (toPys ds) = true
  | [], _ => by simp [toPys, PyData.canLayAll0]
  | d :: ds, h => by
    simp only [okDs, Bool.and_eq_true] at h
    simp only [toPys, PyData.canLayAll0, okD_lay d h.1, okDs_lay ds h.2, Bool.and_self]
theorem dep_ok : ∀ d : D, (toPy d).depth = dep d
  | .non => by simp [toPy, PyData.depth, dep]
  | .bl _ => by simp [toPy, PyData.depth, dep]
  | .int _ => by simp [toPy, PyData.depth, dep]
  | .str l => by simp [toPy, PyData.depth, dep]
  | .tup ds => by simp only [toPy, PyData.depth, dep, deps_ok ds]
  | .lst ds => by simp only [toPy, PyData.depth, dep, deps_ok ds]
  | .ob _ => by simp [toPy, PyData.depth, PyData.depthKv, dep]
theorem deps_ok : ∀ ds : List D, PyData.depthAll (toPys ds) = deps ds
  | [] => by simp [toPys, PyData.depthAll, deps]
  | d :: ds => by simp only [toPys, PyData.depthAll, deps, dep_ok d, deps_ok ds]
end
def gd (d : D) : Prop := okD d = true ∧ dep d ≤ 64
theorem shaped_of {d : D} (h : gd d) : SeqAt.shaped (toPy d) = true := by
  unfold SeqAt.shaped
  rw [okD_lay d h.1, dep_ok d]
  simpa using h.2
def oEqD : R2d := fun x y ρ P => gd (dat ρ x) ∧ gd (dat ρ y) ∧ P (.v (.bl (eqv (dat ρ x) (dat ρ y)))) ρ
def oNeD : R2d := fun x y ρ P => gd (dat ρ x) ∧ gd (dat ρ y) ∧ P (.v (.bl (!eqv (dat ρ x) (dat ρ y)))) ρ
theorem od_eqD : OpD K (rEqD K) oEqD := by
  intro U σ ρ H P Q x y v w R qx qy h k
  obtain ⟨g1, g2, p⟩ := h
  refine ⟨toPy (dat ρ x), toPy (dat ρ y), dp_dw g1.1 (R.dw qx), dp_dw g2.1 (R.dw qy), shaped_of g1, shaped_of g2, ?_⟩
  rw [eqv_ok]
  exact k _ _ _ _ p R.refl (RepF.flat (.bl _) rfl)
theorem od_neD : OpD K (rNeD K) oNeD := by
  intro U σ ρ H P Q x y v w R qx qy h k
  obtain ⟨g1, g2, p⟩ := h
  refine ⟨toPy (dat ρ x), toPy (dat ρ y), dp_dw g1.1 (R.dw qx), dp_dw g2.1 (R.dw qy), shaped_of g1, shaped_of g2, ?_⟩
  rw [eqv_ok]
  exact k _ _ _ _ p R.refl (RepF.flat (.bl _) rfl)
/-! is None -/
def isNon : D → Bool
  | .non => true
  | _ => false
theorem isNon_ok {d : D} {v : V} (h : Dw K O H d v) : decide (v = .non) = isNon d := by
  cases d with
  | tup ds => obtain ⟨a, xs, e, _⟩ := h; subst e; rfl
  | lst ds => obtain ⟨a, xs, e, _⟩ := h; subst e; rfl
  | ob ds => obtain ⟨a, xs, e, _⟩ := h; subst e; rfl
  | non => simp only [Dw, sv] at h; subst h; rfl
  | bl b => simp only [Dw, sv] at h; subst h; rfl
  | int b => simp only [Dw, sv] at h; subst h; rfl
  | str b => simp only [Dw, sv] at h; subst h; rfl
abbrev rIsN : R2 := fun x y H Q => y = .non ∧ Q (.bl (decide (x = .non))) H
abbrev rNotN : R2 := fun x y H Q => y = .non ∧ Q (.bl (!decide (x = .non))) H
def oIsN : R2d := fun x y ρ P => y = .v .non ∧ P (.v (.bl (isNon (dat ρ x)))) ρ
def oNotN : R2d := fun x y ρ P => y = .v .non ∧ P (.v (.bl (!isNon (dat ρ x)))) ρ
theorem od_isN : OpD K rIsN oIsN := by
  intro U σ ρ H P Q x y v w R qx qy h k
  obtain ⟨e, p⟩ := h
  subst e
  refine ⟨qy.vflat rfl, ?_⟩
  rw [isNon_ok (R.dw qx)]
  exact k _ _ _ _ p R.refl (RepF.flat (.bl _) rfl)
theorem od_notN : OpD K rNotN oNotN := by
  intro U σ ρ H P Q x y v w R qx qy h k
  obtain ⟨e, p⟩ := h
  subst e
  refine ⟨qy.vflat rfl, ?_⟩
  rw [isNon_ok (R.dw qx)]
  exact k _ _ _ _ p R.refl (RepF.flat (.bl _) rfl)
end
end DL

namespace DL
open PySem L2
variable [WW]
section
variable {K : PySem.W.Frag} {U : Addr → Prop} {O : Addr → Prop} {H H0 H' : Hp} {ρ ρ' : DEnv} {σ : St}
/-! items, slices -/
theorem RepF.part {d : D} {v : V} (h : Dq K (Ow U ρ) H d v) : RepF K U H0 H σ ρ (.v d) v := ⟨h, trivial, fun _ _ e => nomatch e⟩
theorem atI_dq {ds : List D} {xs : List V} {i : Int} {d : D} (q : Dqs K O H ds xs) (e : atI ds i = some d) : ∃ v, atI xs i = some v ∧ Dq K O H d v := by
  unfold atI at e ⊢
  rw [dqs_len q] at e
  cases z : ixN xs.length i with
  | none => rw [z] at e; simp at e
  | some j =>
    rw [z] at e
    simp only [Option.bind_some] at e ⊢
    exact dqs_get q e
def oIxL : R2d := fun x y ρ P => ∃ ds i d, dat ρ x = .lst ds ∧ y = .v (.int i) ∧ atI ds i = some d ∧ P (.v d) ρ
def oIxT : R2d := fun x y ρ P => ∃ ds i d, dat ρ x = .tup ds ∧ y = .v (.int i) ∧ atI ds i = some d ∧ P (.v d) ρ
def oIxS : R2d := fun x y ρ P => ∃ l i c, x = .v (.str l) ∧ y = .v (.int i) ∧ l.length ≤ 1000000 ∧ atI l i = some c ∧ P (.v (.str [c])) ρ
theorem szM {n : Nat} (h : n ≤ 1000000) : n ≤ sizeLine := Nat.le_trans h (by rw [sizeLine_eq]; decide)
theorem od_ixL : OpD K (rIxL K) oIxL := by
  intro U σ ρ H P Q x y v w R qx qy h k
  obtain ⟨ds, i, d, e, rfl, ea, p⟩ := h
  have z := R.dw qx
  rw [e] at z
  obtain ⟨a, xs, ev, z1, z2⟩ := z
  obtain ⟨u, eu, qu⟩ := atI_dq z2 ea
  exact ⟨a, xs, i, u, ev, qy.vflat rfl, z1, eu, k _ _ _ _ p R.refl (RepF.part qu)⟩
theorem od_ixT : OpD K (rIxT K) oIxT := by
  intro U σ ρ H P Q x y v w R qx qy h k
  obtain ⟨ds, i, d, e, rfl, ea, p⟩ := h
  have z := R.dw qx
  rw [e] at z
  obtain ⟨a, xs, ev, z1, z2⟩ := z
  obtain ⟨u, eu, qu⟩ := atI_dq z2 ea
  exact ⟨a, xs, i, u, ev, qy.vflat rfl, z1, eu, k _ _ _ _ p R.refl (RepF.part qu)⟩
theorem od_ixS : OpD K rIxS oIxS := by
  intro U σ ρ H P Q x y v w R qx qy h k
  obtain ⟨l, i, c, rfl, rfl, hl, ea, p⟩ := h
  refine ⟨⟨l.toArray⟩, i, c, qx.vflat rfl, qy.vflat rfl, szM (by simpa [Str.length] using hl), by simpa using ea, ?_⟩
  exact k _ _ _ _ p R.refl (RepF.flat (.str [c]) rfl)
/-- a cut -/
def cut {α : Type} (xs : List α) (lo hi : Option Int) : List α := (xs.drop (HT.sIx xs.length 0 lo)).take (HT.sIx xs.length xs.length hi - HT.sIx xs.length 0 lo)
theorem cut_dqs {ds : List D} {xs : List V} (q : Dqs K O H ds xs) (lo hi : Option Int) : Dqs K O H (cut ds lo hi) (cutV xs lo hi) := by
  unfold cut cutV
  rw [dqs_len q]
  exact dqs_take _ (dqs_drop _ q)
abbrev TOd := DEnv → (Option Int → DEnv → Prop) → EX → Prop
def Rfo (K : PySem.W.Frag) (W : WX) (to : TO) (t : TOd) : Prop := ∀ (U : Addr → Prop) σ ρ H P E (Q : Option Int → Hp → Prop), Rep K U H σ ρ → t ρ P E →
  (∀ o ρ' H', P o ρ' → Aft K U ρ H σ ρ' H' → Q o H') → XP K U W ρ H σ E → to σ H Q
def DO (X : Cx) (W : WX) (e : Option Expr) (t : TOd) : Prop := ∃ to, PO X e to ∧ Rfo X.K W to t
def dNo : TOd := fun ρ P _ => P none ρ
def dSome (t : TD) : TOd := fun ρ P E => t ρ (fun r ρ1 => ∃ i, r = .v (.int i) ∧ P (some i) ρ1) E
abbrev RSd := Rs → Option Int → Option Int → DEnv → (Rs → DEnv → Prop) → Prop
def dSl (r : RSd) (te : TD) (tl th : TOd) : TD := fun ρ P E => te ρ (fun x ρ1 => tl ρ1 (fun l ρ2 => th ρ2 (fun u ρ3 => r x l u ρ3 P) E) E) E
def SlD (K : PySem.W.Frag) (r2 : V → Option Int → Option Int → Hp → VK → Prop) (r : RSd) : Prop := ∀ (U : Addr → Prop) σ ρ H P (Q : VK) x lo hi v, Rep K U H σ ρ → RepR K U H ρ x v → r x lo hi ρ P →
  (∀ z ρ' u H', P z ρ' → Aft K U ρ H σ ρ' H' → RepF K U H H' σ ρ' z u → Q u H') → r2 v lo hi H Q
section
variable {X : Cx} {W : WX} {e : Expr} {lo hi : Option Expr} {t : TD} {tl th : TOd} {pos p2 : Pos}
theorem do_no : DO X W none dNo := ⟨_, po_none, fun U σ ρ H P E Q R h k _ => k _ _ _ h R.refl⟩
theorem do_some (h : DE X W e t) : DO X W (some e) (dSome t) := by
  obtain ⟨s, p, r⟩ := h
  refine ⟨_, po_some p, fun U σ ρ H P E Q R h k x => ?_⟩
  refine r U σ ρ H _ E _ R h (fun r1 ρ1 v1 H1 h1 a1 q1 => ?_) x
  obtain ⟨i, e, p⟩ := h1
  subst e
  exact ⟨i, q1.val.vflat rfl, k _ _ _ p a1⟩
theorem de_slice {r2 : V → Option Int → Option Int → Hp → VK → Prop} {r : RSd} (hr : SlR X r2) (hd : SlD X.K r2 r) (he : DE X W e t) (hl : DO X W lo tl) (hh : DO X W hi th) : DE X W (.Subscript e (.Slice lo hi none p2) pos) (dSl r t tl th) := by
  obtain ⟨s, p, re⟩ := he
  obtain ⟨s1, p1, r1⟩ := hl
  obtain ⟨s2, p2, r2⟩ := hh
  refine ⟨_, pe_slice hr p p1 p2, fun U σ ρ H P E Q R h k x => ?_⟩
  refine re U σ ρ H _ E _ R h (fun q1 ρ1 v1 H1 h1 a1 z1 => ?_) x
  refine r1 U σ ρ1 H1 _ E _ a1.rep h1 (fun o2 ρ2 H2 h2 a2 => ?_) (x.step a1)
  refine r2 U σ ρ2 H2 _ E _ a2.rep h2 (fun o3 ρ3 H3 h3 a3 => ?_) ((x.step a1).step a2)
  have a23 := a2.trans a3
  exact hd U σ ρ3 H3 P _ _ _ _ _ a3.rep (a23.keepR a1.rep z1.val) h3 fun z ρ' u H' p a q => k z ρ' u H' p ((a1.trans a23).trans a) (q.bk (a1.trans a23).xt)
end
def sS : RSd := fun x lo hi ρ P => ∃ l, x = .v (.str l) ∧ l.length ≤ 1000000 ∧ P (.v (.str (cut l lo hi))) ρ
def sL : RSd := fun x lo hi ρ P => ∃ ds, dat ρ x = .lst ds ∧ ∀ a, P (.f a (cut ds lo hi)) ρ
def sT : RSd := fun x lo hi ρ P => ∃ ds, dat ρ x = .tup ds ∧ P (.v (.tup (cut ds lo hi))) ρ
theorem sd_S : SlD K rSlS sS := by
  intro U σ ρ H P Q x lo hi v R qx h k
  obtain ⟨l, rfl, hl, p⟩ := h
  refine ⟨⟨l.toArray⟩, qx.vflat rfl, szM (by simpa [Str.length] using hl), ?_⟩
  have e : V.str (cutS ⟨l.toArray⟩ lo hi) = sv (.str (cut l lo hi)) := by
    simp only [sv, cutS, cut, Str.length, List.size_toArray]
  rw [e]
  exact k _ _ _ _ p R.refl (RepF.flat (.str _) rfl)
theorem sd_L : SlD K (rSlL K) sL := by
  intro U σ ρ H P Q x lo hi v R qx h k
  obtain ⟨ds, e, p⟩ := h
  have z := R.dw qx
  rw [e] at z
  obtain ⟨a, xs, ev, z1, z2⟩ := z
  refine ⟨a, xs, ev, z1, fun p' hp => ?_⟩
  obtain ⟨A, q⟩ := R.newLst hp (cut_dqs z2 lo hi)
  exact k _ _ _ _ (p p') A q
theorem sd_T : SlD K (rSlA K) sT := by
  intro U σ ρ H P Q x lo hi v R qx h k
  obtain ⟨ds, e, p⟩ := h
  have z := R.dw qx
  rw [e] at z
  obtain ⟨a, xs, ev, z1, z2⟩ := z
  subst ev
  refine ⟨a, xs, rfl, z1, fun hw => ?_, fun _ p' hp => ?_⟩
  · -- the whole tuple: the same object
    have ec : cut ds lo hi = ds := by
      unfold cut
      rw [dqs_len z2, hw.1, hw.2, ← dqs_len z2]
      simp
    rw [ec] at p
    have qx' : RepR K U H ρ (.v (.tup ds)) (.ref a) := by
      cases x with
      | v d => simp only [dat] at e; subst e; exact qx
      | f b es => simp [dat] at e
      | b i =>
        simp only [dat] at e
        split at e <;> cases e
    exact k _ _ _ _ p R.refl ⟨qx', trivial, fun _ _ e => nomatch e⟩
  · obtain ⟨A, q⟩ := R.newTup hp (cut_dqs z2 lo hi)
    exact k _ _ _ _ p A ⟨q, trivial, fun _ _ e => nomatch e⟩
/-! texts -/
theorem str_app (a b : List Nat) : ((⟨a.toArray⟩ : Str) ++ (⟨b.toArray⟩ : Str)) = ⟨(a ++ b).toArray⟩ := by
  show (⟨a.toArray ++ b.toArray⟩ : Str) = _
  simp
abbrev rAddS : R2 := fun x y H Q => ∃ i j, x = .str i ∧ y = .str j ∧ i.length + j.length ≤ sizeLine ∧ Q (.str (i ++ j)) H
def oAddS : R2d := fun x y ρ P => ∃ a b, x = .v (.str a) ∧ y = .v (.str b) ∧ a.length + b.length ≤ 1000000 ∧ P (.v (.str (a ++ b))) ρ
theorem od_addS : OpD K rAddS oAddS := by
  intro U σ ρ H P Q x y v w R qx qy h k
  obtain ⟨a, b, rfl, rfl, hl, p⟩ := h
  refine ⟨⟨a.toArray⟩, ⟨b.toArray⟩, qx.vflat rfl, qy.vflat rfl, szM (by simpa [Str.length] using hl), ?_⟩
  rw [str_app]
  exact k _ _ _ _ p R.refl (RepF.flat (.str _) rfl)
/-- s * n -/
def rMulS : R2 := fun x y H Q => ∃ (i : Str) (n : Int), x = .str i ∧ y = .int n ∧ n ≤ 100000 ∧ 0 ≤ n ∧ i.length * n.toNat ≤ 1000000 ∧ Q (.str ⟨(List.replicate n.toNat i.cps.toList).flatten.toArray⟩) H
theorem notLongS {n : Nat} (h : n ≤ sizeLine) : PySem.Builtin.Str.tooLong n = false := by
  unfold PySem.Builtin.Str.tooLong
  simpa using h
theorem rep_fold (x : Array Nat) : ∀ (n : Nat) (acc : Array Nat), ((List.replicate n x).foldl (· ++ ·) acc).toList = acc.toList ++ (List.replicate n x.toList).flatten
  | 0, acc => by simp
  | n + 1, acc => by
    rw [List.replicate_succ, List.foldl_cons, rep_fold x n, List.replicate_succ, List.flatten_cons]
    simp
theorem op_mulS {X : Cx} : OpR X (binaryOp .Mult) rMulS := by
  intro pins s σ H x y v u Q I rx ry h
  obtain ⟨i, n, rfl, rfl, hn, h0, hl, q⟩ := h
  obtain ⟨t, rfl⟩ := rx
  obtain ⟨t', rfl⟩ := ry
  have hlen : i.length ≤ 1000000 ∨ n = 0 := by
    by_cases e : n = 0
    · exact .inr e
    · refine .inl (Nat.le_trans ?_ hl)
      exact Nat.le_mul_of_pos_right _ (by omega)
  have fin : ∀ (z : Str), z = ⟨(List.replicate n.toNat i.cps.toList).flatten.toArray⟩ → ∀ t k, EP X pins σ Q (.str z t) { s with toks := k } := fun z e t k => ⟨.str z, H, I.tok k, ⟨t, rfl⟩, by rw [e]; exact q⟩
  refine SB.mul ⟨by simp; omega, fun h1 h2 => ?_, fun h1 h2 => ?_⟩ fun t k => fin _ ?_ t k
  · have hd : (0 : Int) < n := by omega
    have b1 : (i.length : Int) ≤ 1000000 := by
      rcases hlen with h | h
      · omega
      · omega
    have : (1000000 : Int) ≤ (2 ^ 63 - 1) / n := by
      rw [Int.le_ediv_iff_mul_le hd]
      have : (1000000 : Int) * n ≤ 1000000 * 100000 := Int.mul_le_mul_of_nonneg_left hn (by decide)
      omega
    omega
  · have : i.length * n.toNat ≤ sizeLine := szM hl
    exact notLongS this
  · unfold Txt.mul
    by_cases h1 : n < 1
    · have e0 : n = 0 := by omega
      subst e0
      rfl
    · rw [if_neg h1]
      by_cases h2 : (n == 1 || i.length == 0) = true
      · rw [if_pos h2]
        simp only [Bool.or_eq_true, beq_iff_eq] at h2
        rcases h2 with h2 | h2
        · subst h2
          have : ((1 : Int).toNat) = 1 := rfl
          rw [this]
          simp
        · have ei : i.cps.toList = [] := by
            have : i.cps.toList.length = 0 := by simpa [Str.length] using h2
            exact List.eq_nil_of_length_eq_zero this
          rw [ei]
          have er : ∀ k : Nat, (List.replicate k ([] : List Nat)).flatten = [] := fun k => by induction k with
            | zero => rfl
            | succ k ih => rw [List.replicate_succ, List.flatten_cons, ih]; rfl
          rw [er]
          obtain ⟨⟨l⟩⟩ := i
          simp only at ei
          subst ei
          rfl
      · rw [if_neg h2]
        have e := rep_fold i.cps n.toNat #[]
        simp only [List.nil_append] at e
        have e2 : (List.replicate n.toNat i.cps).foldl (· ++ ·) #[] = (List.replicate n.toNat i.cps.toList).flatten.toArray := by
          apply Array.toList_inj.mp
          rw [e]
        rw [e2]
def oMulS : R2d := fun x y ρ P => ∃ l n, x = .v (.str l) ∧ y = .v (.int n) ∧ n ≤ 100000 ∧ 0 ≤ n ∧ l.length * n.toNat ≤ 1000000 ∧ P (.v (.str (List.replicate n.toNat l).flatten)) ρ
theorem od_mulS : OpD K rMulS oMulS := by
  intro U σ ρ H P Q x y v w R qx qy h k
  obtain ⟨l, n, rfl, rfl, h1, h2, h3, p⟩ := h
  refine ⟨⟨l.toArray⟩, n, qx.vflat rfl, qy.vflat rfl, h1, h2, by simpa [Str.length] using h3, ?_⟩
  exact k _ _ _ _ p R.refl (RepF.flat (.str _) rfl)
abbrev rInC (neg : Bool) : R2 := fun x y H Q => ∃ (c : Nat) (z : Str), x = .str ⟨#[c]⟩ ∧ y = .str z ∧ Q (.bl (if neg then !decide (c ∈ z.cps.toList) else decide (c ∈ z.cps.toList))) H
def oInC (neg : Bool) : R2d := fun x y ρ P => ∃ c l, x = .v (.str [c]) ∧ y = .v (.str l) ∧ P (.v (.bl (if neg then !decide (c ∈ l) else decide (c ∈ l)))) ρ
theorem od_inC {neg : Bool} : OpD K (rInC neg) (oInC neg) := by
  intro U σ ρ H P Q x y v w R qx qy h k
  obtain ⟨c, l, rfl, rfl, p⟩ := h
  refine ⟨c, ⟨l.toArray⟩, qx.vflat rfl, qy.vflat rfl, ?_⟩
  exact k _ _ _ _ p R.refl (RepF.flat (.bl _) rfl)
/-! in, of flat data -/
theorem flatV_sv (d : D) : flatV (sv d) = true := by cases d <;> rfl
def eqW : D → D → Bool
  | .non, .non => true
  | .bl a, .bl b => decide (a = b)
  | .bl a, .int j => decide ((if a then 1 else 0 : Int) = j)
  | .int i, .bl b => decide (i = (if b then 1 else 0 : Int))
  | .int i, .int j => decide (i = j)
  | .str a, .str b => decide (a = b)
  | _, _ => false
theorem eqW_ok {d e : D} (f : flat d = true) (g : flat e = true) : eqV (sv d) (sv e) = eqW d e := by
  cases d <;> cases e <;> simp [flat] at f g <;> simp [eqV, sv, eqW, Bool.beq_eq_decide_eq]
def inD (d : D) (ds : List D) : Bool := ds.any fun e => eqW e d
theorem inD_ok {d : D} {ds : List D} (f : flat d = true) (g : ds.all flat = true) : inV (sv d) (ds.map sv) = inD d ds := by
  unfold inV inD
  rw [List.any_map]
  induction ds with
  | nil => rfl
  | cons e ds ih =>
    simp only [List.all_cons, Bool.and_eq_true] at g
    simp only [List.any_cons, Function.comp, eqW_ok g.1 f]
    rw [show ds.any ((fun y => eqV y (sv d)) ∘ sv) = ds.any fun e => eqW e d from ih g.2]
def oIn (neg : Bool) : R2d := fun x y ρ P => ∃ d ds, x = .v d ∧ (dat ρ y = .lst ds ∨ dat ρ y = .tup ds) ∧ flat d = true ∧ ds.all flat = true ∧ P (.v (.bl (if neg then !inD d ds else inD d ds))) ρ
theorem od_in {neg : Bool} : OpD K (rIn K neg) (oIn neg) := by
  intro U σ ρ H P Q x y v w R qx qy h k
  obtain ⟨d, ds, rfl, hy, f, g, p⟩ := h
  have z := R.dw qy
  have ev := qx.vflat f
  subst ev
  rcases hy with hy | hy
  · rw [hy] at z
    obtain ⟨a, xs, ew, z1, z2⟩ := z
    have e := (dqs_flat g).mp z2
    subst e
    refine ⟨a, _, ew, .inl z1, flatV_sv d, by rw [List.all_map]; exact List.all_eq_true.mpr fun x _ => flatV_sv x, ?_⟩
    rw [inD_ok f g]
    exact k _ _ _ _ p R.refl (RepF.flat (.bl _) rfl)
  · rw [hy] at z
    obtain ⟨a, xs, ew, z1, z2⟩ := z
    have e := (dqs_flat g).mp z2
    subst e
    refine ⟨a, _, ew, .inr z1, flatV_sv d, by rw [List.all_map]; exact List.all_eq_true.mpr fun x _ => flatV_sv x, ?_⟩
    rw [inD_ok f g]
    exact k _ _ _ _ p R.refl (RepF.flat (.bl _) rfl)
/-! lists and tuples put together -/
/-- a list of the def's own -/
def ownL (ρ : DEnv) : Rs → Option (List D)
  | .f _ ds => some ds
  | .b i => match ρ[i]? with
    | some (.l _ ds) => some ds
    | _ => none
  | .v _ => none
theorem Rep.ownL (R : Rep K U H σ ρ) {r : Rs} {v : V} {ds : List D} (q : RepR K U H ρ r v) (e : DL.ownL ρ r = some ds) : ∃ a xs, v = .ref a ∧ H a = some (.lst xs) ∧ Dqs K (Ow U ρ) H ds xs := by
  cases r with
  | v d => simp [DL.ownL] at e
  | f a es =>
    simp only [DL.ownL, Option.some.injEq] at e
    subst e
    obtain ⟨ev, n, xs, q1, q2⟩ := q
    exact ⟨a, xs, ev, q1, Mo.dqs (⟨fun _ _ _ h => h, fun a z => .inl (z.imp (fun z => .inl z) id)⟩ : Mo (Ow (Ua U a) ρ) (Ow U ρ) H H) _ xs q2⟩
  | b i =>
    obtain ⟨a, es, e1, ev⟩ := q
    simp only [DL.ownL, e1, Option.some.injEq] at e
    subst e
    obtain ⟨o, _, y⟩ := R.slots.get e1
    obtain ⟨_, xs, y1, y2⟩ := y
    exact ⟨a, xs, ev, y1, y2⟩
def oCat : R2d := fun x y ρ P => ∃ a b, ownL ρ x = some a ∧ ownL ρ y = some b ∧ a.length + b.length ≤ 1000000 ∧ ∀ p, P (.f p (a ++ b)) ρ
theorem od_cat : OpD K rCat oCat := by
  intro U σ ρ H P Q x y v w R qx qy h k
  obtain ⟨a, b, ea, eb, hl, p⟩ := h
  obtain ⟨p1, xs, e1, h1, q1⟩ := R.ownL qx ea
  obtain ⟨p2, ys, e2, h2, q2⟩ := R.ownL qy eb
  refine ⟨p1, p2, xs, ys, e1, e2, h1, h2, szM (by rw [← dqs_len q1, ← dqs_len q2]; exact hl), fun q hq => ?_⟩
  obtain ⟨A, z⟩ := R.newLst hq (dqs_app q1 q2)
  exact k _ _ _ _ (p q) A z
def oRep : R2d := fun x y ρ P => ∃ a n, ownL ρ x = some a ∧ y = .v (.int n) ∧ 0 ≤ n ∧ n ≤ 100000 ∧ a.length * n.toNat ≤ 1000000 ∧ ∀ p, P (.f p (List.replicate n.toNat a).flatten) ρ
theorem dqs_rep {ds : List D} {xs : List V} (q : Dqs K O H ds xs) : ∀ n : Nat, Dqs K O H (List.replicate n ds).flatten (List.replicate n xs).flatten
  | 0 => dqs_nil
  | n + 1 => by rw [List.replicate_succ, List.replicate_succ, List.flatten_cons, List.flatten_cons]; exact dqs_app q (dqs_rep q n)
theorem od_rep : OpD K rRep oRep := by
  intro U σ ρ H P Q x y v w R qx qy h k
  obtain ⟨a, n, ea, rfl, h0, h1, hl, p⟩ := h
  obtain ⟨p1, xs, e1, hh, q1⟩ := R.ownL qx ea
  refine ⟨p1, n, xs, e1, qy.vflat rfl, hh, by omega, by omega, szM (by rw [← dqs_len q1]; exact hl), fun q hq => ?_⟩
  obtain ⟨A, z⟩ := R.newLst hq (dqs_rep q1 n.toNat)
  exact k _ _ _ _ (p q) A z
def oCatT : R2d := fun x y ρ P => ∃ a b, x = .v (.tup a) ∧ y = .v (.tup b) ∧ a.length + b.length ≤ 1000000 ∧ P (.v (.tup (a ++ b))) ρ
theorem od_catT : OpD K (rCatA K) oCatT := by
  intro U σ ρ H P Q x y v w R qx qy h k
  obtain ⟨a, b, rfl, rfl, hl, p⟩ := h
  have zx := qx
  have zy := qy
  simp only [RepR, Dq] at zx zy
  obtain ⟨p1, xs, rfl, h1, q1⟩ := zx
  obtain ⟨p2, ys, rfl, h2, q2⟩ := zy
  refine ⟨p1, p2, xs, ys, rfl, rfl, h1.sq, h2.sq, szM (by rw [← dqs_len q1, ← dqs_len q2]; exact hl), fun e => ?_, fun _ e => ?_, fun _ _ q hq => ?_⟩
  · have : a = [] := by
      have := dqs_len q1; rw [e] at this; simpa using this
    subst this
    exact k _ _ _ _ p R.refl ⟨qy, trivial, fun _ _ e => nomatch e⟩
  · have : b = [] := by
      have := dqs_len q2; rw [e] at this; simpa using this
    subst this
    rw [List.append_nil] at p
    exact k _ _ _ _ p R.refl ⟨qx, trivial, fun _ _ e => nomatch e⟩
  · obtain ⟨A, z⟩ := R.newTup hq (dqs_app q1 q2)
    exact k _ _ _ _ p A ⟨z, trivial, fun _ _ e => nomatch e⟩
end
end DL

namespace DL
open PySem L2
variable [WW]
/-! calls of built-ins -/
abbrev RCd := List Rs → DEnv → (Rs → DEnv → Prop) → Prop
def CallD (K : PySem.W.Frag) (r : List V → Hp → VK → Prop) (rd : RCd) : Prop := ∀ (U : Addr → Prop) σ ρ H0 H P (Q : VK) rs vs, RepRs K U H0 H σ ρ rs vs → rd rs ρ P →
  (∀ z ρ' u H', P z ρ' → Aft K U ρ H σ ρ' H' → RepF K U H H' σ ρ' z u → Q u H') → r vs H Q
def dCB (rd : RCd) (ta : TAd) : TD := fun ρ P E => ta ρ (fun rs ρ1 => rd rs ρ1 P) E
section
variable {X : Cx} {W : WX} {x : Str} {p pos : Pos} {e : Expr} {es : List Expr} {tr : TAd} {id T : String} {r : List V → Hp → VK → Prop} {rd : RCd}
theorem rf_cb {K : PySem.W.Frag} {ta : TA} (hd : CallD K r rd) (ra : Rfa K W ta tr) : Rf K W (tCB r ta) (dCB rd tr) := by
  intro U σ ρ H P E Q R h k x
  refine ra U σ ρ H _ E _ R h (fun rs ρ1 vs H1 q A z => ?_) x
  exact hd U σ ρ1 H H1 P _ _ _ z q fun z ρ' u H' p a q => k z ρ' u H' p (A.trans a) (q.bk A.xt)
theorem de_cb (hc : CallR X (.builtin id) r) (hd : CallD X.K r rd) (hm : X.mg x = none) (hv : bootBuiltins x = some (.builtin id)) (ha : DA X W (e :: es) tr) (hg : Gl X x := by rfl) (hn : x ≠ "__name__" := by decide) (hdb : (x == ("__debug__" : Str)) = false := by decide)
    (he : starEach (e :: es) X.env = (false, eval e X.env) :: starEach es X.env := by rfl) (hpl : (backTo pos (starEach es X.env)).any (·.1) = false := by rfl) : DE X W (.Call (.Name x p) (e :: es) [] pos) (dCB rd tr) := by
  obtain ⟨s, pa, ra⟩ := ha
  exact ⟨_, pe_callB hc hg hm hv pa hn hdb he hpl, rf_cb hd ra⟩
theorem de_ct (hc : CallR X (.type T) r) (hd : CallD X.K r rd) (hm : X.mg x = none) (hv : bootBuiltins x = some (.type T)) (ha : DA X W (e :: es) tr) (hg : Gl X x := by rfl) (hn : x ≠ "__name__" := by decide) (hdb : (x == ("__debug__" : Str)) = false := by decide)
    (he : starEach (e :: es) X.env = (false, eval e X.env) :: starEach es X.env := by rfl) (hpl : (backTo pos (starEach es X.env)).any (·.1) = false := by rfl) : DE X W (.Call (.Name x p) (e :: es) [] pos) (dCB rd tr) := by
  obtain ⟨s, pa, ra⟩ := ha
  exact ⟨_, pe_callTy hc hg hm hv pa hn hdb he hpl, rf_cb hd ra⟩
end
section
variable {K : PySem.W.Frag} {U : Addr → Prop} {O : Addr → Prop} {H H0 H' : Hp} {ρ ρ' : DEnv} {σ : St}
theorem rs1 {rs : List Rs} {vs : List V} {r : Rs} (z : RepRs K U H0 H σ ρ rs vs) (e : rs = [r]) : ∃ v, vs = [v] ∧ RepR K U H ρ r v := by
  subst e
  match vs, z with
  | [v], z => exact ⟨v, rfl, z.1⟩
theorem rs2 {rs : List Rs} {vs : List V} {r s : Rs} (z : RepRs K U H0 H σ ρ rs vs) (e : rs = [r, s]) : ∃ v w, vs = [v, w] ∧ RepR K U H ρ r v ∧ RepR K U H ρ s w := by
  subst e
  match vs, z with
  | [v, w], z => exact ⟨v, w, rfl, z.1.less fun _ => exts_of (rs := [s]), z.2.2.1.less fun _ => ext_of⟩
/-- len -/
def lenD : D → Option Nat
  | .str l => if l.length ≤ 1000000 then some l.length else none
  | .lst ds => some ds.length
  | .tup ds => some ds.length
  | _ => none
abbrev rLen2 (K : PySem.W.Frag) : List V → Hp → VK → Prop := fun xs H Q => ∃ x n, xs = [x] ∧ LenV K x H n ∧ Q (.int n) H
def cLen : RCd := fun rs ρ P => ∃ r n, rs = [r] ∧ lenD (dat ρ r) = some n ∧ P (.v (.int (n : Int))) ρ
theorem cd_len : CallD K (rLen2 K) cLen := by
  intro U σ ρ H0 H P Q rs vs z h k
  obtain ⟨r, n, e, hn, p⟩ := h
  obtain ⟨v, ev, q⟩ := rs1 z e
  subst ev
  have w := z.rep.dw q
  refine ⟨v, n, rfl, ?_, k _ _ _ _ p z.rep.refl (RepF.flat (.int _) rfl)⟩
  cases hd : dat ρ r with
  | str l =>
    rw [hd] at hn w
    simp only [lenD] at hn
    simp only [Dw, sv] at w
    subst w
    split at hn
    · cases hn
      rename_i hl
      refine ⟨szM (by simpa [Str.length] using hl), by simp [Str.length]⟩
    · cases hn
  | lst ds =>
    rw [hd] at hn w
    obtain ⟨a, xs, ev, z1, z2⟩ := w
    subst ev
    simp only [lenD, Option.some.injEq] at hn
    exact .inl ⟨xs, z1, by rw [← hn, dqs_len z2]⟩
  | tup ds =>
    rw [hd] at hn w
    obtain ⟨a, xs, ev, z1, z2⟩ := w
    subst ev
    simp only [lenD, Option.some.injEq] at hn
    exact .inr ⟨xs, z1, by rw [← hn, dqs_len z2]⟩
  | non => rw [hd] at hn; simp [lenD] at hn
  | bl b => rw [hd] at hn; simp [lenD] at hn
  | int b => rw [hd] at hn; simp [lenD] at hn
  | ob b => rw [hd] at hn; simp [lenD] at hn
/-- max, min of two ints -/
abbrev rMax2' : List V → Hp → VK → Prop := fun xs H Q => ∃ i j, xs = [.int i, .int j] ∧ Q (.int (if j > i then j else i)) H
abbrev rMin2' : List V → Hp → VK → Prop := fun xs H Q => ∃ i j, xs = [.int i, .int j] ∧ Q (.int (if j < i then j else i)) H
def cMax2 : RCd := fun rs ρ P => ∃ i j, rs = [.v (.int i), .v (.int j)] ∧ P (.v (.int (max i j))) ρ
def cMin2 : RCd := fun rs ρ P => ∃ i j, rs = [.v (.int i), .v (.int j)] ∧ P (.v (.int (min i j))) ρ
theorem cd_max2 : CallD K rMax2' cMax2 := by
  intro U σ ρ H0 H P Q rs vs z h k
  obtain ⟨i, j, e, p⟩ := h
  obtain ⟨v, w, ev, q1, q2⟩ := rs2 z e
  subst ev
  refine ⟨i, j, by rw [q1.vflat rfl, q2.vflat rfl]; rfl, ?_⟩
  have e : (if j > i then j else i) = max i j := by omega
  rw [e]
  exact k _ _ _ _ p z.rep.refl (RepF.flat (.int _) rfl)
theorem cd_min2 : CallD K rMin2' cMin2 := by
  intro U σ ρ H0 H P Q rs vs z h k
  obtain ⟨i, j, e, p⟩ := h
  obtain ⟨v, w, ev, q1, q2⟩ := rs2 z e
  subst ev
  refine ⟨i, j, by rw [q1.vflat rfl, q2.vflat rfl]; rfl, ?_⟩
  have e : (if j < i then j else i) = min i j := by omega
  rw [e]
  exact k _ _ _ _ p z.rep.refl (RepF.flat (.int _) rfl)
/-- all of a list of bools -/
theorem bls_map : ∀ {ds : List D} {bs : List Bool}, ds = bs.map D.bl → ds.map sv = bs.map V.bl ∧ ds.all flat = true := by
  intro ds bs h
  subst h
  refine ⟨by rw [List.map_map]; rfl, ?_⟩
  rw [List.all_map]; exact List.all_eq_true.mpr fun _ _ => rfl
def cAll : RCd := fun rs ρ P => ∃ (r : Rs) (bs : List Bool), rs = [r] ∧ dat ρ r = .lst (bs.map D.bl) ∧ P (.v (.bl (bs.all id))) ρ
theorem cd_all : CallD K (rAll K) cAll := by
  intro U σ ρ H0 H P Q rs vs z h k
  obtain ⟨r, bs, e, hd, p⟩ := h
  obtain ⟨v, ev, q⟩ := rs1 z e
  subst ev
  have w := z.rep.dw q
  rw [hd] at w
  obtain ⟨a, xs, ev, z1, z2⟩ := w
  subst ev
  obtain ⟨m1, m2⟩ := bls_map (ds := bs.map D.bl) rfl
  rw [(dqs_flat m2).mp z2, m1] at z1
  exact ⟨a, bs, rfl, z1, k _ _ _ _ p z.rep.refl (RepF.flat (.bl _) rfl)⟩
/-- sorted of ints (fewer than 64), of texts -/
def cSortI : RCd := fun rs ρ P => ∃ (r : Rs) (ns : List Int), rs = [r] ∧ dat ρ r = .lst (ns.map D.int) ∧ ns.length < 64 ∧ ∀ ns' : List Int, ns'.Perm ns → ns'.Pairwise (· ≤ ·) → ∀ a, P (.f a (ns'.map D.int)) ρ
theorem ints_map {ns : List Int} : (ns.map D.int).map sv = ns.map V.int ∧ (ns.map D.int).all flat = true := by
  refine ⟨by rw [List.map_map]; rfl, ?_⟩
  rw [List.all_map]; exact List.all_eq_true.mpr fun _ _ => rfl
theorem cd_sortI : CallD K (rSorted K) cSortI := by
  intro U σ ρ H0 H P Q rs vs z h k
  obtain ⟨r, ns, e, hd, hl, p⟩ := h
  obtain ⟨v, ev, q⟩ := rs1 z e
  subst ev
  have w := z.rep.dw q
  rw [hd] at w
  obtain ⟨a, xs, ev, z1, z2⟩ := w
  subst ev
  rw [(dqs_flat ints_map.2).mp z2, ints_map.1] at z1
  refine ⟨a, ns, rfl, z1, hl, fun ns' p' h1 h2 hp => ?_⟩
  obtain ⟨A, q'⟩ := z.rep.newLst (ds := ns'.map D.int) (vs := ns'.map V.int) hp ((dqs_flat ints_map.2).mpr ints_map.1.symm)
  exact k _ _ _ _ (p ns' h1 h2 p') A q'
abbrev rLstO (K : PySem.W.Frag) : List V → Hp → VK → Prop := fun xs H Q => ∃ p ys, xs = [.ref p] ∧ (SqL K H p ys ∨ SqT K H p ys) ∧ ∀ l, H l = none → Q (.ref l) (upd H l (.lst ys))
/-- list(list | tuple) -/
def cListOf : RCd := fun rs ρ P => ∃ r ds, rs = [r] ∧ (dat ρ r = .lst ds ∨ dat ρ r = .tup ds) ∧ ∀ a, P (.f a ds) ρ
theorem cd_listOf : CallD K (rLstO K) cListOf := by
  intro U σ ρ H0 H P Q rs vs z h k
  obtain ⟨r, ds, e, hd, p⟩ := h
  obtain ⟨v, ev, q⟩ := rs1 z e
  subst ev
  have w := z.rep.dw q
  rcases hd with hd | hd
  · rw [hd] at w
    obtain ⟨a, xs, ev, z1, z2⟩ := w
    subst ev
    refine ⟨a, xs, rfl, .inl z1, fun l hl => ?_⟩
    obtain ⟨A, q'⟩ := z.rep.newLst hl z2
    exact k _ _ _ _ (p l) A q'
  · rw [hd] at w
    obtain ⟨a, xs, ev, z1, z2⟩ := w
    subst ev
    refine ⟨a, xs, rfl, .inr z1, fun l hl => ?_⟩
    obtain ⟨A, q'⟩ := z.rep.newLst hl z2
    exact k _ _ _ _ (p l) A q'
abbrev rTupO (K : PySem.W.Frag) : List V → Hp → VK → Prop := fun xs H Q => ∃ p ys, xs = [.ref p] ∧ ((SqL K H p ys ∧ ∀ l, H l = none → Q (.ref l) (upd H l (.tup ys))) ∨ (SqT K H p ys ∧ Q (.ref p) H))
/-- tuple(list) -/
def cTupOf : RCd := fun rs ρ P => ∃ r ds, rs = [r] ∧ dat ρ r = .lst ds ∧ P (.v (.tup ds)) ρ
theorem cd_tupOf : CallD K (rTupO K) cTupOf := by
  intro U σ ρ H0 H P Q rs vs z h k
  obtain ⟨r, ds, e, hd, p⟩ := h
  obtain ⟨v, ev, q⟩ := rs1 z e
  subst ev
  have w := z.rep.dw q
  rw [hd] at w
  obtain ⟨a, xs, ev, z1, z2⟩ := w
  subst ev
  refine ⟨a, xs, rfl, .inl ⟨z1, fun l hl => ?_⟩⟩
  obtain ⟨A, q'⟩ := z.rep.newTup hl z2
  exact k _ _ _ _ p A ⟨q', trivial, fun _ _ e => nomatch e⟩
/-- isinstance(x, T) -/
def tyN : D → String
  | .non => "NoneType"
  | .bl _ => "bool"
  | .int _ => "int"
  | .str _ => "str"
  | .tup _ => "tuple"
  | .lst _ => "list"
  | .ob _ => "NoneType"
def isOb : D → Bool
  | .ob _ => true
  | _ => false
theorem tyx {d : D} {v : V} (w : Dw K O H d v) (no : isOb d = false) : TyX K H v (.type (tyN d)) := by
  cases d with
  | non => simp only [Dw, sv] at w; subst w; exact .base .non
  | bl b => simp only [Dw, sv] at w; subst w; exact .base (.bl _)
  | int b => simp only [Dw, sv] at w; subst w; exact .base (.int _)
  | str b => simp only [Dw, sv] at w; subst w; exact .base (.str _)
  | tup ds =>
    obtain ⟨a, xs, ev, z1, z2⟩ := w
    subst ev
    rcases z1 with (z1 | ⟨o, z1⟩) | ⟨o, its, n, z1, z3, _⟩
    · exact .base (.tup z1)
    · exact .fTuple z1
    · exact .kTuple z1 z3
  | lst ds =>
    obtain ⟨a, xs, ev, z1, z2⟩ := w
    subst ev
    rcases z1 with (z1 | ⟨o, z1⟩) | ⟨o, its, n, z1, z3, _⟩
    · exact .base (.lst z1)
    · exact .base (.frz z1)
    · exact .kList z1 z3
  | ob ds => cases no
def dIsi (g : D → Bool) (t : TD) : TD := fun ρ P E => t ρ (fun r ρ1 => P (.v (.bl (g (dat ρ1 r)))) ρ1) E
def isInt : D → Bool
  | .int _ => true
  | .bl _ => true
  | _ => false
def isBl : D → Bool
  | .bl _ => true
  | _ => false
def isStr : D → Bool
  | .str _ => true
  | _ => false
def isTup : D → Bool
  | .tup _ => true
  | _ => false
def isLst : D → Bool
  | .lst _ => true
  | _ => false
theorem kInt (d : D) : kitB (tyN d) "int" = some (isInt d) := by
  cases d with
  | non => exact (by decide +kernel : kitB "NoneType" "int" = some false)
  | bl _ => exact (by decide +kernel : kitB "bool" "int" = some true)
  | int _ => exact (by decide +kernel : kitB "int" "int" = some true)
  | str _ => exact (by decide +kernel : kitB "str" "int" = some false)
  | tup _ => exact (by decide +kernel : kitB "tuple" "int" = some false)
  | lst _ => exact (by decide +kernel : kitB "list" "int" = some false)
  | ob _ => exact (by decide +kernel : kitB "NoneType" "int" = some false)
theorem kBl (d : D) : kitB (tyN d) "bool" = some (isBl d) := by
  cases d with
  | non => exact (by decide +kernel : kitB "NoneType" "bool" = some false)
  | bl _ => exact (by decide +kernel : kitB "bool" "bool" = some true)
  | int _ => exact (by decide +kernel : kitB "int" "bool" = some false)
  | str _ => exact (by decide +kernel : kitB "str" "bool" = some false)
  | tup _ => exact (by decide +kernel : kitB "tuple" "bool" = some false)
  | lst _ => exact (by decide +kernel : kitB "list" "bool" = some false)
  | ob _ => exact (by decide +kernel : kitB "NoneType" "bool" = some false)
theorem kStr (d : D) : kitB (tyN d) "str" = some (isStr d) := by
  cases d with
  | non => exact (by decide +kernel : kitB "NoneType" "str" = some false)
  | bl _ => exact (by decide +kernel : kitB "bool" "str" = some false)
  | int _ => exact (by decide +kernel : kitB "int" "str" = some false)
  | str _ => exact (by decide +kernel : kitB "str" "str" = some true)
  | tup _ => exact (by decide +kernel : kitB "tuple" "str" = some false)
  | lst _ => exact (by decide +kernel : kitB "list" "str" = some false)
  | ob _ => exact (by decide +kernel : kitB "NoneType" "str" = some false)
theorem kTup (d : D) : kitB (tyN d) "tuple" = some (isTup d) := by
  cases d with
  | non => exact (by decide +kernel : kitB "NoneType" "tuple" = some false)
  | bl _ => exact (by decide +kernel : kitB "bool" "tuple" = some false)
  | int _ => exact (by decide +kernel : kitB "int" "tuple" = some false)
  | str _ => exact (by decide +kernel : kitB "str" "tuple" = some false)
  | tup _ => exact (by decide +kernel : kitB "tuple" "tuple" = some true)
  | lst _ => exact (by decide +kernel : kitB "list" "tuple" = some false)
  | ob _ => exact (by decide +kernel : kitB "NoneType" "tuple" = some false)
theorem kLst (d : D) : kitB (tyN d) "list" = some (isLst d) := by
  cases d with
  | non => exact (by decide +kernel : kitB "NoneType" "list" = some false)
  | bl _ => exact (by decide +kernel : kitB "bool" "list" = some false)
  | int _ => exact (by decide +kernel : kitB "int" "list" = some false)
  | str _ => exact (by decide +kernel : kitB "str" "list" = some false)
  | tup _ => exact (by decide +kernel : kitB "tuple" "list" = some false)
  | lst _ => exact (by decide +kernel : kitB "list" "list" = some true)
  | ob _ => exact (by decide +kernel : kitB "NoneType" "list" = some false)
section
variable {X : Cx} {W : WX} {x T : Str} {p p2 pos : Pos} {e : Expr} {t : TD} {nm : String}
theorem de_isi {g : D → Bool} (hk : ∀ d, kitB (tyN d) nm = some (g d)) (hm : X.mg "isinstance" = none) (hmT : X.mg T = none) (hT : bootBuiltins T = some (.type nm)) (he : DE X W e t)
    (hv : bootBuiltins "isinstance" = some (.builtin "isinstance") := by decide +kernel) (hg : Gl X "isinstance" := by rfl) (hgT : Gl X T := by rfl) (hnT : T ≠ "__name__" := by decide) (hdT : (T == ("__debug__" : Str)) = false := by decide)
    (h1 : starEach [e, .Name T p2] X.env = (false, eval e X.env) :: starEach [.Name T p2] X.env := by rfl) (h2 : starEach [.Name T p2] X.env = (false, eval (.Name T p2) X.env) :: starEach [] X.env := by rfl) (hpl : (backTo pos (starEach [.Name T p2] X.env)).any (·.1) = false := by rfl) (hob : nm ∈ ["int", "bool", "str", "tuple", "list"] := by decide) :
    DE X W (.Call (.Name "isinstance" p) [e, .Name T p2] [] pos) (dIsi g t) := by
  obtain ⟨s, pe, re⟩ := he
  refine ⟨_, pe_callB call_isi hg hm hv (pa_cons pe (pa_cons (pe_bltn (v := .ty nm) hgT hmT hT rfl hnT hdT) pa_nil h2) h1) (by decide) (by decide) h1 hpl, fun U σ ρ H P E Q R h k x => ?_⟩
  refine re U σ ρ H _ E _ R h (fun r ρ1 v H1 q A z => ?_) x
  have fin := k _ _ _ _ q A (RepF.flat (.bl _) rfl)
  have w := A.rep.dw z.val
  cases no : isOb (dat ρ1 r) with
  | false => exact ⟨v, .ty nm, .type (tyN (dat ρ1 r)), .type nm, g (dat ρ1 r), rfl, .ty nm, tyx w no, kit_ty (hk _), fin⟩
  | true =>
    generalize dat ρ1 r = d at w fin no
    cases d with
    | ob ds =>
      obtain ⟨a, xs, rfl, ⟨C, dx, oc, ha, _⟩, _⟩ := w
      have e0 : kitB "NoneType" nm = some false := by
        clear oc ha hT hk fin
        simp only [List.mem_cons, List.not_mem_nil, or_false] at hob
        rcases hob with rfl | rfl | rfl | rfl | rfl <;> decide +kernel
      have e1 : g (.ob ds) = false := Option.some.inj ((hk (.ob ds)).symm.trans e0)
      rw [e1] at fin
      exact ⟨_, .ty nm, .ref C, .type nm, false, rfl, .ty nm, .base (TyOf.ins ha oc.ic.cl oc.ic.ha oc.ic.hn oc.ic.htk oc.ic.hm), oc.kit nm hob, fin⟩
    | _ => cases no
/-- list(range(..)) -/
def dLstRg1 (t : TD) : TD := fun ρ P E => t ρ (fun r ρ1 => ∃ n, r = .v (.int n) ∧ RgOk 0 n ∧ ∀ a, P (.f a (rgD 0 n.toNat)) ρ1) E
def dLstRg2 (ta tb : TD) : TD := fun ρ P E => ta ρ (fun r ρ1 => tb ρ1 (fun s ρ2 => ∃ i j, r = .v (.int i) ∧ s = .v (.int j) ∧ RgOk i j ∧ ∀ a, P (.f a (rgD i (j - i).toNat)) ρ2) E) E
theorem rgD_sv (i : Int) (n : Nat) : (rgD i n).map sv = (List.range n).map (fun k => V.int (i + (k : Nat))) ∧ (rgD i n).all flat = true := by
  unfold rgD
  refine ⟨by rw [List.map_map]; rfl, ?_⟩
  rw [List.all_map]; exact List.all_eq_true.mpr fun _ _ => rfl
theorem de_listRg1 {a : Expr} {p3 q : Pos} (hc : X.calm = true) (hm : X.mg "list" = none) (hm2 : X.mg "range" = none) (ha : DE X W a t) (hg : Gl X "list" := by rfl) (hg2 : Gl X "range" := by rfl) (na : starEach [a] X.env = (false, eval a X.env) :: starEach [] X.env := by rfl)
    (nb : starEach [.Call (.Name "range" p2) [a] [] q] X.env = (false, eval (.Call (.Name "range" p2) [a] [] q) X.env) :: starEach [] X.env := by rfl) : DE X W (.Call (.Name "list" p) [.Call (.Name "range" p2) [a] [] q] [] pos) (dLstRg1 t) := by
  obtain ⟨s, pe, re⟩ := ha
  refine ⟨_, pe_listRg hc hg hm (prg_1 hg2 hm2 pe na) nb, fun U σ ρ H P E Q R h k x => ?_⟩
  refine re U σ ρ H _ E _ R h (fun r ρ1 v H1 h1 A z => ?_) x
  obtain ⟨n, e, ok, p⟩ := h1
  subst e
  refine ⟨n, z.val.vflat rfl, ok, fun q hq => ?_⟩
  obtain ⟨m1, m2⟩ := rgD_sv 0 n.toNat
  have ev : rgV 0 n = (rgD 0 n.toNat).map sv := by rw [m1]; unfold rgV; rw [Int.sub_zero]
  obtain ⟨A2, q'⟩ := A.rep.newLst hq ((dqs_flat m2).mpr ev)
  exact k _ _ _ _ (p q) (A.trans A2) (q'.bk A.xt)
theorem de_listRg2 {a b : Expr} {ta tb : TD} {p3 q : Pos} (hc : X.calm = true) (hm : X.mg "list" = none) (hm2 : X.mg "range" = none) (ha : DE X W a ta) (hb : DE X W b tb) (hg : Gl X "list" := by rfl) (hg2 : Gl X "range" := by rfl) (na : starEach [a, b] X.env = (false, eval a X.env) :: starEach [b] X.env := by rfl)
    (nb : starEach [b] X.env = (false, eval b X.env) :: starEach [] X.env := by rfl) (hp : (backTo q (starEach [b] X.env)).any (·.1) = false := by rfl)
    (nc : starEach [.Call (.Name "range" p2) [a, b] [] q] X.env = (false, eval (.Call (.Name "range" p2) [a, b] [] q) X.env) :: starEach [] X.env := by rfl) : DE X W (.Call (.Name "list" p) [.Call (.Name "range" p2) [a, b] [] q] [] pos) (dLstRg2 ta tb) := by
  obtain ⟨s, pe, re⟩ := ha
  obtain ⟨s', pe', re'⟩ := hb
  refine ⟨_, pe_listRg hc hg hm (prg_2 hg2 hm2 pe pe' na nb hp) nc, fun U σ ρ H P E Q R h k x => ?_⟩
  refine re U σ ρ H _ E _ R h (fun r ρ1 v H1 h1 A z => ?_) x
  refine re' U σ ρ1 H1 _ E _ A.rep h1 (fun r2 ρ2 v2 H2 h2 A2 z2 => ?_) (x.step A)
  obtain ⟨i, j, e, e', ok, p⟩ := h2
  subst e; subst e'
  refine ⟨i, j, z.val.vflat rfl, z2.val.vflat rfl, ok, fun q hq => ?_⟩
  obtain ⟨m1, m2⟩ := rgD_sv i (j - i).toNat
  have ev : rgV i j = (rgD i (j - i).toNat).map sv := by rw [m1]; rfl
  have A12 := A.trans A2
  obtain ⟨A3, q'⟩ := A12.rep.newLst hq ((dqs_flat m2).mpr ev)
  exact k _ _ _ _ (p q) (A12.trans A3) (q'.bk A12.xt)
end
end
end DL

namespace DL
open PySem L2
variable [WW]
/-! methods of built-in types -/
abbrev RMd := Rs → List Rs → DEnv → (Rs → DEnv → Prop) → Prop
def MtD (K : PySem.W.Frag) (r : V → List V → Hp → VK → Prop) (rd : RMd) : Prop := ∀ (U : Addr → Prop) σ ρ H0 H P (Q : VK) x v rs vs, RepR K U H ρ x v → RepRs K U H0 H σ ρ rs vs → rd x rs ρ P →
  (∀ z ρ' u H', P z ρ' → Aft K U ρ H σ ρ' H' → RepF K U H H' σ ρ' z u → Q u H') → r v vs H Q
/-- the receiver's type -/
def tyD (T : String) (d : D) : Prop := match d with
  | .str _ => T = "str"
  | .lst _ => T = "list"
  | _ => False
theorem tyD_ok {K : PySem.W.Frag} {O : Addr → Prop} {H : Hp} {T : String} {d : D} {v : V} (w : Dw K O H d v) (h : tyD T d) : tyV K T v H := by
  cases d with
  | str l => simp only [Dw, sv] at w; subst w; exact h
  | lst ds => obtain ⟨a, xs, ev, z1, _⟩ := w; subst ev; exact .inl ⟨h, xs, z1⟩
  | non => exact h.elim
  | bl b => exact h.elim
  | int b => exact h.elim
  | tup b => exact h.elim
  | ob b => exact h.elim
def dBM (T : String) (rd : RMd) (to : TD) (ta : TAd) : TD := fun ρ P E => to ρ (fun x ρ1 => tyD T (dat ρ1 x) ∧ ta ρ1 (fun rs ρ2 => rd x rs ρ2 P) E) E
def dBM0 (T : String) (rd : RMd) (to : TD) : TD := fun ρ P E => to ρ (fun x ρ1 => tyD T (dat ρ1 x) ∧ rd x [] ρ1 P) E
section
variable {X : Cx} {W : WX} {o e : Expr} {es : List Expr} {to : TD} {tr : TAd} {name : Str} {apos cpos : Pos} {T id : String} {r : V → List V → Hp → VK → Prop} {rd : RMd}
theorem de_bm (pa : PlainAttrs T) (slot : Slot T name id) (hty : typeOf (.builtin id) = pure (.type "method_descriptor")) (hm : MtR X id r) (hd : MtD X.K r rd) (ho : DE X W o to) (ha : DA X W (e :: es) tr)
    (hbase : attributeBase o name X.env (eval o X.env) = eval o X.env := by rfl)
    (hfew : ((backTo cpos (starEach (e :: es) X.env)).all (fun x => !x.1) && (backToKw cpos (keywordEach [] X.env)).all (fun x => x.1.isSome)
      && decide ((e :: es).length + ([] : List Keyword).length + (if ([] : List Keyword).isEmpty then 0 else 1) < 30)) = true := by rfl)
    (hline : (apos.endLine == cpos.line) = true := by rfl) (hs : starEach (e :: es) X.env = (false, eval e X.env) :: starEach es X.env := by rfl) (hplain : (backTo cpos (starEach es X.env)).any (·.1) = false := by rfl) :
    DE X W (.Call (.Attribute o name apos) (e :: es) [] cpos) (dBM T rd to tr) := by
  obtain ⟨s, po, ro⟩ := ho
  obtain ⟨s', pa', ra⟩ := ha
  refine ⟨_, pe_bm pa slot hty hm po pa' hbase hfew hline hs hplain, fun U σ ρ H P E Q R h k x => ?_⟩
  refine ro U σ ρ H _ E _ R h (fun r1 ρ1 v H1 q A z => ?_) x
  obtain ⟨ty, q⟩ := q
  refine ⟨tyD_ok (A.rep.dw z.val) ty, ?_⟩
  refine ra U σ ρ1 H1 _ E _ A.rep q (fun rs ρ2 vs H2 q2 A2 z2 => ?_) (x.step A)
  exact hd U σ ρ2 H1 H2 P _ _ _ _ _ (A2.keepR A.rep z.val) z2 q2 fun z ρ' u H' p a q => k z ρ' u H' p ((A.trans A2).trans a) (q.bk (A.trans A2).xt)
theorem de_bm0 (pa : PlainAttrs T) (slot : Slot T name id) (hty : typeOf (.builtin id) = pure (.type "method_descriptor")) (hm : MtR X id r) (hd : MtD X.K r rd) (ho : DE X W o to)
    (hbase : attributeBase o name X.env (eval o X.env) = eval o X.env := by rfl) (hline : (apos.endLine == cpos.line) = true := by rfl) :
    DE X W (.Call (.Attribute o name apos) [] [] cpos) (dBM0 T rd to) := by
  obtain ⟨s, po, ro⟩ := ho
  refine ⟨_, pe_bm0 pa slot hty hm po hbase hline, fun U σ ρ H P E Q R h k x => ?_⟩
  refine ro U σ ρ H _ E _ R h (fun r1 ρ1 v H1 q A z => ?_) x
  obtain ⟨ty, q⟩ := q
  refine ⟨tyD_ok (A.rep.dw z.val) ty, ?_⟩
  exact hd U σ ρ1 H1 H1 P _ _ _ [] [] z.val A.rep q fun z ρ' u H' p a q => k z ρ' u H' p (A.trans a) (q.bk A.xt)
end
section
variable {K : PySem.W.Frag} {U : Addr → Prop} {O : Addr → Prop} {H H0 H' : Hp} {ρ ρ' : DEnv} {σ : St}
def mApp : RMd := fun x rs ρ P => ∃ i a ds r d, x = .b i ∧ ρ[i]? = some (.l a ds) ∧ rs = [r] ∧ frz r = some d ∧ ds.length ≤ 1000000 ∧ P (.v .non) (ρ.set i (.l a (ds ++ [d])))
theorem Rep.fz' (R : Rep K U H σ ρ) {r : Rs} {v : V} {d : D} (h : RepR K U H ρ r v) (e : frz r = some d) : Dq K (Ow U ρ) H d v := R.fz h (by cases r <;> simp_all [frz])
theorem Rep.ownAt (R : Rep K U H σ ρ) {i : Nat} {a : Addr} {ds : List D} {v : V} (q : RepR K U H ρ (.b i) v) (e : ρ[i]? = some (.l a ds)) : v = .ref a ∧ ∃ xs, H a = some (.lst xs) ∧ Dqs K (Ow U ρ) H ds xs := by
  obtain ⟨a', ds', e1, ev⟩ := q
  rw [e] at e1; cases e1
  obtain ⟨o, _, y⟩ := R.slots.get e
  obtain ⟨_, xs, y1, y2⟩ := y
  exact ⟨ev, xs, y1, y2⟩
theorem md_app : MtD K rAppend mApp := by
  intro U σ ρ H0 H P Q x v rs vs qx z h k
  obtain ⟨i, a, ds, r, d, rfl, e, er, ef, hl, p⟩ := h
  obtain ⟨w, ew, q⟩ := rs1 z er
  subst ew
  obtain ⟨ev, xs, h1, h2⟩ := z.rep.ownAt qx e
  subst ev
  have A := z.rep.mut e (dqs_app h2 (dqs_cons (z.rep.fz' q ef) dqs_nil))
  exact ⟨a, xs, w, rfl, rfl, h1, by rw [← dqs_len h2, sizeLine_eq]; omega, k _ _ _ _ p A (RepF.flat .non rfl)⟩
def mPopAt : RMd := fun x rs ρ P => ∃ i a ds n k d, x = .b i ∧ ρ[i]? = some (.l a ds) ∧ rs = [.v (.int n)] ∧ (-(2 ^ 63) ≤ n ∧ n < 2 ^ 63) ∧ seqIndex? n ds.length = some k ∧ ds[k]? = some d ∧ P (.v d) (ρ.set i (.l a (ds.eraseIdx k)))
theorem md_popAt : MtD K rPopAt mPopAt := by
  intro U σ ρ H0 H P Q x v rs vs qx z h k
  obtain ⟨i, a, ds, n, j, d, rfl, e, er, ⟨b1, b2⟩, es, ed, p⟩ := h
  obtain ⟨w, ew, q⟩ := rs1 z er
  subst ew
  have q' := q.vflat rfl
  subst q'
  obtain ⟨ev, xs, h1, h2⟩ := z.rep.ownAt qx e
  subst ev
  obtain ⟨y, ey, qy⟩ := dqs_get h2 ed
  have A := z.rep.mut e (dqs_erase j h2)
  exact ⟨a, xs, n, j, y, rfl, rfl, h1, b1, b2, by rw [← dqs_len h2]; exact es, ey, k _ _ _ _ p A (RepF.part ((A.mo z.rep).dq _ _ qy))⟩
def mPop : RMd := fun x rs ρ P => ∃ i a ds d, x = .b i ∧ ρ[i]? = some (.l a ds) ∧ rs = [] ∧ ds[ds.length - 1]? = some d ∧ P (.v d) (ρ.set i (.l a ds.dropLast))
theorem md_pop : MtD K rPop mPop := by
  intro U σ ρ H0 H P Q x v rs vs qx z h k
  obtain ⟨i, a, ds, d, rfl, e, er, ed, p⟩ := h
  subst er
  match vs, z with
  | [], z =>
    obtain ⟨ev, xs, h1, h2⟩ := z.rep.ownAt qx e
    subst ev
    obtain ⟨y, ey, qy⟩ := dqs_get h2 ed
    have h3 : Dqs K (Ow U ρ) H ds.dropLast xs.dropLast := by
      rw [List.dropLast_eq_take, List.dropLast_eq_take, dqs_len h2]
      exact dqs_take _ h2
    have A := z.rep.mut e h3
    exact ⟨a, xs, y, rfl, rfl, h1, by rw [← dqs_len h2]; exact ey, k _ _ _ _ p A (RepF.part ((A.mo z.rep).dq _ _ qy))⟩
/-- sep.join(texts) -/
def joinD (sep : List Nat) : List (List Nat) → List Nat
  | [] => []
  | [a] => a
  | a :: b :: r => a ++ sep ++ joinD sep (b :: r)
abbrev rJoin (K : PySem.W.Frag) : V → List V → Hp → VK → Prop := fun x xs H Q => ∃ a p, ∃ ys : List Str, x = .str a ∧ xs = [.ref p] ∧ (SqL K H p (ys.map V.str) ∨ SqT K H p (ys.map V.str)) ∧
    (ys.map (·.length)).sum + ys.length * a.length ≤ 16777216 ∧ Q (.str (Txt.join a ys)) H
def mJoin : RMd := fun x rs ρ P => ∃ (sep : List Nat) (r : Rs) (ls : List (List Nat)), x = .v (.str sep) ∧ rs = [r] ∧ dat ρ r = .lst (ls.map D.str) ∧ (ls.map (·.length)).sum + ls.length * sep.length ≤ 1000000 ∧ P (.v (.str (joinD sep ls))) ρ
theorem joinL_D (sep : List Nat) : ∀ ls : List (List Nat), TL.joinL sep ls = joinD sep ls
  | [] => by unfold TL.joinL joinD; rfl
  | [a] => by unfold TL.joinL joinD; rfl
  | a :: b :: r => by
    unfold TL.joinL joinD
    rw [joinL_D sep (b :: r), List.append_assoc]
theorem md_join : MtD K (rJoin K) mJoin := by
  intro U σ ρ H0 H P Q x v rs vs qx z h k
  obtain ⟨sep, r, ls, rfl, er, ed, hl, p⟩ := h
  obtain ⟨w, ew, q⟩ := rs1 z er
  subst ew
  have qx' := qx.vflat rfl
  subst qx'
  have dw := z.rep.dw q
  rw [ed] at dw
  obtain ⟨a, xs, ev, z1, z2⟩ := dw
  subst ev
  have fl : (ls.map D.str).all flat = true := by rw [List.all_map]; exact List.all_eq_true.mpr fun _ _ => rfl
  have em : (ls.map D.str).map sv = (ls.map fun l => (⟨l.toArray⟩ : Str)).map V.str := by rw [List.map_map, List.map_map]; rfl
  rw [(dqs_flat fl).mp z2, em] at z1
  have e2 : Txt.join ⟨sep.toArray⟩ (ls.map fun l => (⟨l.toArray⟩ : Str)) = ⟨(joinD sep ls).toArray⟩ := by
    apply TL.ext_tl
    rw [TL.join_eq, TL.tl_join, List.map_map]
    show TL.joinL sep (ls.map (TL.tl ∘ fun l => (⟨l.toArray⟩ : Str))) = joinD sep ls
    have : (TL.tl ∘ fun l => (⟨l.toArray⟩ : Str)) = (id : List Nat → List Nat) := by funext l; rfl
    rw [this, List.map_id, joinL_D]
  refine ⟨⟨sep.toArray⟩, a, ls.map fun l => (⟨l.toArray⟩ : Str), rfl, rfl, .inl z1, ?_, ?_⟩
  · rw [List.map_map, List.length_map]
    have : ((fun x : Str => x.length) ∘ fun l : List Nat => (⟨l.toArray⟩ : Str)) = fun l : List Nat => l.length := by funext l; simp [Str.length]
    rw [this]
    have : (⟨sep.toArray⟩ : Str).length = sep.length := by simp [Str.length]
    rw [this]
    omega
  · rw [e2]
    exact k _ _ _ _ p z.rep.refl (RepF.flat (.str _) rfl)
end
/-! a < b < c -/
section
variable {X : Cx} {W : WX} {a b c : Expr} {ta tb tc : TD} {pos : Pos}
theorem rf_chain {K : PySem.W.Frag} {sa sb sc : TE} {r2 r2' : R2} {r r' : R2d} (hr : OpD K r2 r) (hr' : OpD K r2' r') (ra : Rf K W sa ta) (rb : Rf K W sb tb) (rc : Rf K W sc tc) : Rf K W (tChain r2 r2' sa sb sc) (dChain r r' ta tb tc) := by
  intro U σ ρ H P E Q R h k x
  refine ra U σ ρ H _ E _ R h (fun x1 ρ1 v1 H1 h1 a1 q1 => ?_) x
  refine rb U σ ρ1 H1 _ E _ a1.rep h1 (fun x2 ρ2 v2 H2 h2 a2 q2 => ?_) (x.step a1)
  refine hr U σ ρ2 H2 _ _ _ _ _ _ a2.rep (a2.keepR a1.rep q1.val) q2.val h2 fun z ρ3 u H3 h3 a3 q3 => ?_
  obtain ⟨c, ez, h3⟩ := h3
  subst ez
  have q3 := q3.val.vflat rfl
  refine ⟨c, q3, ?_⟩
  have a13 := (a1.trans a2).trans a3
  cases c with
  | false => exact k _ _ _ _ h3 a13 (RepF.flat (.bl false) rfl)
  | true =>
    refine rc U σ ρ3 H3 _ E _ a3.rep h3 (fun x4 ρ4 v4 H4 h4 a4 q4 => ?_) (x.step a13)
    exact hr' U σ ρ4 H4 P _ _ _ _ _ a4.rep (a4.keepR a3.rep (a3.keepR a2.rep q2.val)) q4.val h4 fun z ρ' u H' p a q => k z ρ' u H' p ((a13.trans a4).trans a) (q.bk (a13.trans a4).xt)
theorem de_chain {op op' : CmpOp} {r2 r2' : R2} {r r' : R2d} (ho : OpR X (compareOp op) r2) (ho' : OpR X (compareOp op') r2') (hr : OpD X.K r2 r) (hr' : OpD X.K r2' r') (ha : DE X W a ta) (hb : DE X W b tb) (hc : DE X W c tc) (hm : lastMarks [op, op'] [b, c] = false := by with_unfolding_all rfl) : DE X W (.Compare a [op, op'] [b, c] pos) (dChain r r' ta tb tc) := by
  obtain ⟨sa, pa, ra⟩ := ha
  obtain ⟨sb, pb, rb⟩ := hb
  obtain ⟨sc, pc, rc⟩ := hc
  exact ⟨_, pe_chain ho ho' pa pb pc hm, rf_chain hr hr' ra rb rc⟩
theorem dt_chain {op op' : CmpOp} {r2 r2' : R2} {r r' : R2d} (ho : OpR X (compareOp op) r2) (ho' : OpR X (compareOp op') r2') (hr : OpD X.K r2 r) (hr' : OpD X.K r2' r') (ha : DE X W a ta) (hb : DE X W b tb) (hc : DE X W c tc) (hm : lastMarks [op, op'] [b, c] = false := by with_unfolding_all rfl) : DT X W (.Compare a [op, op'] [b, c] pos) (dTest (dChain r r' ta tb tc)) := by
  obtain ⟨sa, pa, ra⟩ := ha
  obtain ⟨sb, pb, rb⟩ := hb
  obtain ⟨sc, pc, rc⟩ := hc
  exact ⟨_, pt_chain ho ho' pa pb pc hm, rft_test (rf_chain hr hr' ra rb rc)⟩
end
end DL

namespace DL
open PySem L2
variable [WW]
/-! a, b, .. = e1, e2, .. through a tuple -/
def asgs : List Nat → List Rs → DEnv → DEnv
  | j :: js, r :: rs, ρ => asgs js rs (asg j r ρ)
  | _, _, ρ => ρ
def noB : List Rs → Prop
  | [] => True
  | .b _ :: _ => False
  | _ :: rs => noB rs
section
variable {K : PySem.W.Frag} {U : Addr → Prop} {O : Addr → Prop} {H H0 H' : Hp} {ρ ρ' ρ0 : DEnv} {σ σ' : St}
theorem exts_mono : ∀ {rs : List Rs} {U1 U2 : Addr → Prop}, (∀ b, U1 b → U2 b) → ∀ b, exts U1 rs b → exts U2 rs b
  | [], _, _, h, b, z => h b z
  | q :: rs, U1, U2, h, b, z => exts_mono (rs := rs) (U1 := ext U1 q) (U2 := ext U2 q) (fun b z => by cases q <;> simp only [ext, Ua] at z ⊢ <;> first | exact h b z | exact z.imp (h b) id) b z
theorem exts_ext {a : Addr} : ∀ {U : Addr → Prop} {r : Rs} {rs : List Rs}, exts (ext U r) rs a → ext (exts U rs) r a
  | U, r, [], h => h
  | U, r, q :: rs, h => by
    have h' : exts (ext (ext U r) q) rs a := h
    have sw : ∀ b, ext (ext U r) q b → ext (ext U q) r b := fun b z => by
      cases r <;> cases q <;> simp only [ext, Ua] at z ⊢ <;> first
        | exact z
        | (rcases z with (z | z) | z
           · exact .inl (.inl z)
           · exact .inr z
           · exact .inl (.inr z))
    exact exts_ext (U := ext U q) (r := r) (rs := rs) (exts_mono sw a h')
theorem RepRs.all : ∀ {U : Addr → Prop} {rs : List Rs} {vs : List V}, RepRs K U H0 H σ ρ rs vs → Rep K (exts U rs) H σ ρ
  | _, [], [], h => h
  | _, [], _ :: _, h => h.elim
  | _, _ :: _, [], h => h.elim
  | U, r :: rs, v :: vs, h => RepRs.all (U := ext U r) h.2.2
/-- the further results after a store -/
theorem RepRs.move {r0 : Rs} (hO : ∀ a, a ∈ adrs ρ' → a ∈ adrs ρ ∨ ext (fun _ => False) r0 a) : ∀ {U : Addr → Prop} {rs : List Rs} {vs : List V}, noB rs → Rep K (exts U rs) H σ' ρ' → RepRs K (ext U r0) H0 H σ ρ rs vs → RepRs K U H0 H σ' ρ' rs vs
  | U, [], [], _, R, _ => R
  | _, [], _ :: _, _, _, h => h.elim
  | _, _ :: _, [], _, _, h => h.elim
  | U, r :: rs, v :: vs, nb, R, h => by
    have hin : ∀ {U : Addr → Prop} a, ext (fun _ => False) r0 a → ext U r0 a := fun {U} a z => by
      cases r0 <;> simp only [ext, Ua] at z ⊢ <;> first | exact z.elim | exact z.imp False.elim id
    have sw : ∀ b, ext (ext U r0) r b → ext (ext U r) r0 b := fun b z => by
      cases r0 <;> cases r <;> simp only [ext, Ua] at z ⊢ <;> first
        | exact z
        | (rcases z with (z | z) | z
           · exact .inl (.inl z)
           · exact .inr z
           · exact .inl (.inr z))
    have ow : ∀ (t : List Rs) a, Ow (exts U t) ρ' a → Ow (exts (ext U r0) t) ρ a := fun t a z => by
      rcases z with z | z
      · exact .inl (exts_mono (fun b => ext_of) a z)
      · exact (hO a z).elim .inr fun z => .inl (exts_of (hin a z))
    have tail : RepRs K (ext (ext U r) r0) H0 H σ ρ rs vs := by
      have := h.2.2
      -- the same addresses, in another order
      have eqv : ext (ext U r0) r = ext (ext U r) r0 := by
        funext b
        refine propext ⟨sw b, fun z => ?_⟩
        cases r0 <;> cases r <;> simp only [ext, Ua] at z ⊢ <;> first
          | exact z
          | (rcases z with (z | z) | z
             · exact .inl (.inl z)
             · exact .inr z
             · exact .inl (.inr z))
      rw [← eqv]; exact this
    have nb' : noB rs := by cases r <;> first | exact nb | exact nb.elim
    refine ⟨?_, h.2.1, RepRs.move hO nb' R tail⟩
    have h1 := h.1
    cases r with
    | b i => exact nb.elim
    | v d => exact Mo.dq (⟨fun _ _ _ h => h, fun a z => .inl (ow rs a z)⟩ : Mo (Ow (exts (ext U r0) rs) ρ) (Ow (exts U rs) ρ') H H) d v h1
    | f a ds =>
      obtain ⟨ev, n, xs, z1, z2⟩ := h1
      refine ⟨ev, fun z => n (ow rs a z), xs, z1, Mo.dqs (⟨fun _ _ _ h => h, fun b z => .inl ?_⟩ : Mo (Ow (Ua (exts (ext U r0) rs) a) ρ) (Ow (Ua (exts U rs) a) ρ') H H) ds xs z2⟩
      rcases z with (z | z) | z
      · exact (ow rs b (.inl z)).imp .inl id
      · exact .inl (.inr z)
      · exact (ow rs b (.inr z)).imp .inl id
theorem asg_adrs {j : Nat} {r : Rs} (nd : (adrs ρ).Nodup) (hn : ∀ a ds, r = .f a ds → a ∉ adrs ρ) (nb : ∀ i, r ≠ .b i) : ∀ a, a ∈ adrs (asg j r ρ) → a ∈ adrs ρ ∨ ext (fun _ => False) r a := fun a h => by
  cases r with
  | v d => exact .inl ((adrs_set_no ρ j rfl).subset h)
  | f b ds =>
    rcases (adrs_set_l ρ j (ds := ds) (hn b ds rfl) nd).2 a h with z | z
    · exact .inr (.inr z)
    · exact .inl z
  | b i => exact absurd rfl (nb i)
theorem asgs_ok : ∀ {U : Addr → Prop} {js : List Nat} {rs : List Rs} {vs : List V} {ρ : DEnv} {σ : St} {Q : St → Hp → Prop}, js.length = rs.length → noB rs → Xt ρ0 ρ H0 H → RepRs K U H0 H σ ρ rs vs →
    (∀ σ', AftS K U ρ0 H0 (asgs js rs ρ) σ' H → Q σ' H) → gNs js vs σ H Q
  | U, [], [], [], ρ, σ, Q, _, _, x, h, k => ⟨rfl, k σ ⟨h, x⟩⟩
  | _, [], [], _ :: _, _, _, _, _, _, _, h, _ => h.elim
  | _, [], _ :: _, _, _, _, _, h, _, _, _, _ => by simp at h
  | _, _ :: _, [], _, _, _, _, h, _, _, _, _ => by simp at h
  | _, _ :: _, _ :: _, [], _, _, _, _, _, _, h, _ => h.elim
  | U, j :: js, r :: rs, v :: vs, ρ, σ, Q, hl, nb, x, h, k => by
    have nbr : ∀ i, r ≠ .b i := fun i e => by subst e; exact nb.elim
    have nb' : noB rs := by cases r <;> first | exact nb | exact nb.elim
    have Rall : Rep K (exts (ext U r) rs) H σ ρ := RepRs.all h.2.2
    have R1 : Rep K (exts U rs) H σ ρ := Rall.less fun a z => exts_mono (fun b => ext_of) a z
    have rf : RepF K (exts U rs) H0 H σ ρ r v := ⟨h.1, h.2.1, fun a ds e => by
      subst e
      have e2 : ∀ b, Ua (exts U rs) a b → exts (ext U (.f a ds)) rs b := fun b z => by
        rcases z with z | z
        · have mono : ∀ {rs : List Rs} {U1 U2 : Addr → Prop}, (∀ b, U1 b → U2 b) → ∀ b, exts U1 rs b → exts U2 rs b := by
            intro rs
            induction rs with
            | nil => intro U1 U2 h b z; exact h b z
            | cons q rs ih => intro U1 U2 h b z; exact ih (U1 := ext U1 q) (U2 := ext U2 q) (fun b z => by cases q <;> simp only [ext, Ua] at z ⊢ <;> first | exact h b z | exact z.imp (h b) id) b z
          exact exts_mono (fun b => ext_of) b z
        · exact exts_of (.inr z)
      exact Rall.less e2⟩
    have A := R1.asg x j rf
    have hn : ∀ a ds, r = .f a ds → a ∉ adrs ρ := fun a ds e z => by
      subst e
      exact h.1.2.1 (.inr z)
    have T := RepRs.move (r0 := r) (asg_adrs (j := j) R1.nd hn nbr) nb' A.rep h.2.2
    exact ⟨v, vs, rfl, asgs_ok (by simpa using hl) nb' A.xt T k⟩
/-- the results stand when a tuple is made -/
theorem RepRs.alloc {p : Addr} {o : HO} (hp : H p = none) : ∀ {U : Addr → Prop} {rs : List Rs} {vs : List V}, Rep K U H σ ρ → RepRs K U H0 H σ ρ rs vs → RepRs K U H0 (upd H p o) σ ρ rs vs
  | U, [], [], R, h => (R.new hp).rep
  | _, [], _ :: _, _, h => h.elim
  | _, _ :: _, [], _, h => h.elim
  | U, r :: rs, v :: vs, R, h => ⟨RepR.to (R.new (o := o) hp).xt rfl (fun a z => .inl z) h.1, h.2.1, RepRs.alloc hp h.2.2.rep h.2.2⟩
end
def dParT (js : List Nat) (t : TAd) : TSd := fun D ρ => t ρ (fun rs ρ1 => js.length = rs.length ∧ rs.length ≤ 1000 ∧ noB rs ∧ D.nx (asgs js rs ρ1)) D.ex
section
variable {X : Cx} {W : WX} {ts es : List Expr} {tr : TAd} {pos pt pt2 : Pos}
/-- the names of a target -/
def NGs (X : Cx) (ts : List Expr) (js : List Nat) : Prop := PGs X ts (gNs js)
theorem ng_nil : NGs X [] [] := pgs_nil
theorem ng_cons {x : Str} {p : Pos} {i : Nat} {js : List Nat} (hN : X.N.Nodup) (hi : X.N[i]? = some x) (h2 : NGs X ts js) (hx : Loc X.env.scope x := by first | exact Or.inl rfl | exact Or.inr rfl) (hf : X.fn x = true ∨ X.env.scope.names.lookup x = some .local := by first | exact .inl rfl | exact .inr rfl | assumption)
    (hs : (assignEach (.Name x p :: ts) X.env).map (·.2) = assign (.Name x p) X.env :: (assignEach ts X.env).map (·.2) := by rfl) : NGs X (.Name x p :: ts) (i :: js) := pgs_cons (pg_name hN hi hx hf) h2 hs
theorem ds_parT {js : List Nat} {k k2 : Nat} (hc : X.calm = true) (ht : NGs X ts js) (ha : DA X W es tr)
    (hn : (assignEach ts X.env).length = js.length := by rfl) (hst : (assignEach ts X.env).findIdx? (·.1) = none := by rfl)
    (hs : swapsWithSole [.Tuple ts k pt] (.Tuple es k2 pt2) pos.line X.env = pure false := by rfl) (hw : swappedStores [.Tuple ts k pt] (.Tuple es k2 pt2) X.env = pure none := by rfl)
    (h1 : (assignEach [.Tuple ts k pt] X.env).map (·.2) = [assign (.Tuple ts k pt) X.env] := by rfl) : DS X W (.Assign [.Tuple ts k pt] (.Tuple es k2 pt2) pos) (dParT js tr) := by
  obtain ⟨s, p, r⟩ := ha
  refine ⟨_, ps_asg (pe_tup p) (pg_tup hc ht hn hst) hs hw h1, fun U σ ρ H D E R h B => ?_⟩
  refine r U σ ρ H _ D.ex _ R h (fun rs ρ1 vs H1 q A z => ?_) B.xp
  obtain ⟨hl, h1000, nb, q⟩ := q
  refine ⟨by rw [z.len]; exact sz1000 h1000, fun p' hp => ?_⟩
  refine ⟨p', vs, rfl, SqT.of upd_same, by rw [z.len, hl], ?_⟩
  have A2 : Aft X.K U ρ H σ ρ1 (upd H1 p' (.tup vs)) := A.trans (A.rep.new hp)
  exact asgs_ok hl nb A2.xt (RepRs.alloc hp z.rep z) fun σ' A3 => B.nx _ _ _ q A3
end
/-! defs by their names -/
/-- a def of the text that keeps its spec -/
def Cal (P : Program) (w : World) (K : PySem.W.Frag) (mgl : Str → Option Value) (base : Heap) (k n : Nat) (x : Str) (S : TD) : Prop :=
  ∃ f fd ps, FnOk P w K mgl base (L2N.CX P w) k f fd ps (toSp K n S) ∧ mgl x = some (.ref f) ∧ PySem.W.keepIn K (.ref f) = true ∧ Binds K fd ps []
structure DefAt (K : PySem.W.Frag) (mgl : Str → Option Value) (x : Str) (st : Stmt) (ps : List Str) : Prop where
  ex : ∃ f fd, Fun K x x st f fd ∧ mgl x = some (.ref f) ∧ Binds K fd ps []
section
variable {P : Program} {w : World} {K : PySem.W.Frag} {mgl : Str → Option Value} {base : Heap} {k n : Nat} {x : Str} {S : TD}
theorem Cal.mono {j : Nat} (c : Cal P w K mgl base j n x S) (h : j ≤ k) : Cal P w K mgl base k n x S := by
  obtain ⟨f, fd, ps, F, a, b, c⟩ := c
  exact ⟨f, fd, ps, F.mono h, a, b, c⟩
theorem cal_of {st : Stmt} {ps : List Str} (d : DefAt K mgl x st ps) (h : ∀ f fd, Fun K x x st f fd → FnOk P w K mgl base (L2N.CX P w) k f fd ps (toSp K n S)) : Cal P w K mgl base k n x S := by
  obtain ⟨f, fd, F, hm, hb⟩ := d.ex
  exact ⟨f, fd, ps, h f fd F, hm, F.kp, hb⟩
end
section
variable {X : Cx} {W : WX} {e : Expr} {es : List Expr} {tr : TAd} {x : Str} {p pos : Pos} {k n : Nat} {S : TD}
theorem de_cal (c : Cal X.prog X.w X.K X.mg X.base k n x S) (tk : L2N.Takes X W) (hr : Room k X.A) (ha : DA X W (e :: es) tr) (hg : Gl X x := by rfl) (hdb : (x == ("__debug__" : Str)) = false := by decide) (he : starEach (e :: es) X.env = (false, eval e X.env) :: starEach es X.env := by rfl) (hpl : (backTo pos (starEach es X.env)).any (·.1) = false := by rfl) :
    DE X W (.Call (.Name x p) (e :: es) [] pos) (dCall n S tr) := by
  obtain ⟨f, fd, ps, F, hm, hk, hb⟩ := c
  exact de_call F tk hr hm hk hb ha hg hdb he hpl
end
/-- the law's own spec -/
def sLawD : TD := fun ρ P _ => ∃ ns : List Int, ρ = [.v (.lst (ns.map D.int))] ∧ ns.length ≤ 63 ∧ P (.v (.bl true)) ρ
theorem law_sp {K : PySem.W.Frag} {H : Hp} {a : Addr} {ns : List Int} (hl : ns.length ≤ 63) (hS : SqL K H a (ns.map V.int)) : toSp K 1 sLawD [.ref a] H (fun v _ => v = .bl true) fun _ _ _ => False := by
  refine ⟨rfl, fun _ => False, [.v (.lst (ns.map D.int))], fun r _ => r = .v (.bl true), fun _ _ => False, ?_, ⟨ns, rfl, hl, rfl⟩, fun r ρ' v H' e A q _ => ?_, fun _ _ _ z _ => z.elim⟩
  · refine ⟨⟨⟨.ref a, rfl, ?_⟩, trivial⟩, List.nodup_nil, fun _ z => z.elim, fun _ _ z => z⟩
    simp only [Dq]
    refine ⟨a, ns.map V.int, rfl, ?_, (dqs_flat ints_map.2).mpr ints_map.1.symm⟩
    rcases hS with h | h
    · refine .inl ⟨h, fun z => ?_⟩
      rcases z with z | z
      · exact z
      · cases (show a ∈ ([] : List Addr) from z)
    · exact .inr h
  · subst e
    exact q.val.vflat rfl
theorem law_cx {P : Program} {w : World} (H : Hp) (s : Shared) (e : Value) (s' : Shared) (h : L2N.CX P w [] H s (fun _ _ _ => False) e s') : False := by
  obtain ⟨_, _, _, _, _, _, _, _, _, _, _, _, z⟩ := h
  exact z.elim
end DL

namespace DL
open PySem L2
variable [WW]
section
variable {X : Cx} {W : WX} {e a b o i : Expr} {t te to ti : TD} {pos pos' : Pos}
def dNeg (t : TD) : TD := fun ρ P E => t ρ (fun r ρ1 => ∃ i, r = .v (.int i) ∧ P (.v (.int (-i))) ρ1) E
theorem de_neg (h : DE X W e t) : DE X W (.UnaryOp .USub e pos) (dNeg t) := by
  obtain ⟨s, p, r⟩ := h
  refine ⟨_, pe_un un_neg p, fun U σ ρ H P E Q R h k x => ?_⟩
  refine r U σ ρ H _ E _ R h (fun r ρ1 v H1 q A z => ?_) x
  obtain ⟨i, e, q⟩ := q
  subst e
  exact ⟨i, z.val.vflat rfl, k _ _ _ _ q A (RepF.flat (.int _) rfl)⟩
/-- xs[i] = e -/
def dSetIx (to ti te : TD) : TSd := fun D ρ => te ρ (fun r ρ1 => ∃ d, frz r = some d ∧ to ρ1 (fun x ρ2 => ti ρ2 (fun y ρ3 => ∃ k a ds n j, x = .b k ∧ ρ3[k]? = some (.l a ds) ∧ y = .v (.int n) ∧ ixN ds.length n = some j ∧ D.nx (ρ3.set k (.l a (ds.set j d)))) D.ex) D.ex) D.ex
theorem ds_setix (he : DE X W e te) (ho : DE X W o to) (hi : DE X W i ti)
    (ha : ∀ v, assign (.Subscript o i pos') X.env v = (do
      let ov ← holding [v] (eval o X.env)
      let iv ← holding [v, ov] (eval i X.env)
      standAt pos'
      holding [v, ov, iv] (setItem ov iv v)
      release [v, ov, iv] []) := by intro _; rfl)
    (hs : swapsWithSole [.Subscript o i pos'] e pos.line X.env = pure false := by rfl) (hw : swappedStores [.Subscript o i pos'] e X.env = pure none := by rfl)
    (h1 : (assignEach [.Subscript o i pos'] X.env).map (·.2) = [assign (.Subscript o i pos') X.env] := by rfl) : DS X W (.Assign [.Subscript o i pos'] e pos) (dSetIx to ti te) := by
  obtain ⟨s, p, r⟩ := he
  obtain ⟨so, po, ro⟩ := ho
  obtain ⟨si, pi, ri⟩ := hi
  refine ⟨_, ps_asg p (pg_sub po pi set_list ha) hs hw h1, fun U σ ρ H D E R h B => ?_⟩
  refine r U σ ρ H _ D.ex _ R h (fun r ρ1 v H1 q A z => ?_) B.xp
  obtain ⟨d, ef, q⟩ := q
  refine ro U σ ρ1 H1 _ D.ex _ A.rep q (fun x ρ2 xv H2 q2 A2 z2 => ?_) (B.step A.toAftS).xp
  have A12 := A.trans A2
  refine ri U σ ρ2 H2 _ D.ex _ A2.rep q2 (fun y ρ3 yv H3 q3 A3 z3 => ?_) (B.step A12.toAftS).xp
  have A13 := A12.trans A3
  obtain ⟨k, a, ds, n, j, e1, e2, e3, e4, q3⟩ := q3
  subst e1; subst e3
  obtain ⟨ev, xs, y1, y2⟩ := A3.rep.ownAt (A3.keepR A2.rep z2.val) e2
  have A23 := A2.trans A3
  have dq := A3.rep.fz' (A23.keepR A.rep z.val) ef
  have A4 := A3.rep.mut e2 (dqs_set (i := j) y2 dq)
  exact ⟨a, xs, n, j, ev, z3.val.vflat rfl, y1, by rw [← dqs_len y2]; exact e4, B.nx _ _ _ q3 (A13.trans A4).toAftS⟩
/-- a module's constant -/
def GC (K : PySem.W.Frag) (mgl : Str → Option Value) (x : Str) (d : D) : Prop := ∃ u v, mgl x = some u ∧ RelV v u ∧ ∀ O H, Dq K O H d v
theorem de_gc {x : Str} {d : D} (c : GC X.K X.mg x d) (hg : Gl X x := by rfl) (hd : (x == ("__debug__" : Str)) = false := by decide) : DE X W (.Name x pos) (dC d) := by
  obtain ⟨u, v, hm, r, q⟩ := c
  exact de_glob hg hm r q hd
theorem gc_int {K : PySem.W.Frag} {mgl : Str → Option Value} {x : Str} {i : Int} {t : Tok} (h : mgl x = some (.int i t)) : GC K mgl x (.int i) := ⟨_, .int i, h, ⟨_, rfl⟩, fun _ _ => by simp only [Dq]⟩
theorem gc_str {K : PySem.W.Frag} {mgl : Str → Option Value} {x : Str} {l : List Nat} {z : Str} {t : Tok} (h : mgl x = some (.str z t)) (e : z = ⟨l.toArray⟩) : GC K mgl x (.str l) := ⟨_, .str z, h, ⟨_, rfl⟩, fun _ _ => by simp only [Dq]; rw [e]⟩
/-- a written tuple of texts -/
theorem gc_tup {K : PySem.W.Frag} {mgl : Str → Option Value} {x : Str} {ds : List D} {a : Addr} {o : Obj} {its : Array Value} {n : Nat} (h : mgl x = some (.ref a)) (hk : K.lookup a = some o) (hc : o.cls = .type "tuple") (hd : o.data = .seq its n) (hz : its.size ≤ sizeLine)
    (hv : Vals (ds.map sv) its.toList) (f : ds.all flat = true) : GC K mgl x (.tup ds) := ⟨_, .ref a, h, rfl, fun O H => by
  simp only [Dq]
  exact ⟨a, ds.map sv, rfl, .inr ⟨o, its, n, hk, hc, hd, hz, hv⟩, (dqs_flat f).mpr rfl⟩⟩
end
/-- what hides no built-in -/
structure Bi (mgl : Str → Option Value) : Prop where
  len : mgl "len" = none
  range : mgl "range" = none
  list : mgl "list" = none
  tuple : mgl "tuple" = none
  isinstance : mgl "isinstance" = none
  int : mgl "int" = none
  bool : mgl "bool" = none
  str : mgl "str" = none
  sorted : mgl "sorted" = none
  all : mgl "all" = none
  min : mgl "min" = none
  max : mgl "max" = none
  set : mgl "set" = none
  zip : mgl "zip" = none
  enumerate : mgl "enumerate" = none
  sum : mgl "sum" = none
  abs : mgl "abs" = none
end DL

namespace DL
open PySem L2
variable [WW]
/-! how readings are run -/
section
variable {ρ ρ' : DEnv} {P : Rs → DEnv → Prop} {E : EX} {t ta tb tc : TD} {tr : TAd}
theorem dVar_eq {i : Nat} : dVar i ρ P E = (match ρ[i]? with | some (.v d) => P (.v d) ρ | some (.l _ _) => P (.b i) ρ | _ => False) := by
  unfold dVar
  cases h : ρ[i]? with
  | none => simp [slotR]
  | some s => cases s <;> simp [slotR]
theorem oI0_v {g : Int → Int → D} {i j : Int} : oI0 g (.v (.int i)) (.v (.int j)) ρ P = P (.v (g i j)) ρ := by simp [oI0]
theorem oI_v {C : Int → Int → Prop} {g : Int → Int → D} {i j : Int} : oI C g (.v (.int i)) (.v (.int j)) ρ P = (C i j ∧ P (.v (g i j)) ρ) := by simp [oI]
theorem oEq_v {d e : D} : oEq (.v d) (.v e) ρ P = (scD d e = true ∧ P (.v (.bl (eqF d e))) ρ) := by simp [oEq]
theorem oNe_v {d e : D} : oNe (.v d) (.v e) ρ P = (scD d e = true ∧ P (.v (.bl (!eqF d e))) ρ) := by simp [oNe]
theorem scD_ii {i j : Int} : scD (.int i) (.int j) = true := rfl
theorem scD_ss {i j : List Nat} : scD (.str i) (.str j) = true := rfl
theorem scD_bb {i j : Bool} : scD (.bl i) (.bl j) = true := rfl
theorem scD_nn : scD .non .non = true := rfl
theorem scD_ns {j : List Nat} : scD .non (.str j) = true := rfl
theorem scD_sn {j : List Nat} : scD (.str j) .non = true := rfl
theorem eqF_ii {i j : Int} : eqF (.int i) (.int j) = decide (i = j) := rfl
theorem eqF_ss {i j : List Nat} : eqF (.str i) (.str j) = decide (i = j) := rfl
theorem eqF_bb {i j : Bool} : eqF (.bl i) (.bl j) = decide (i = j) := rfl
theorem eqF_nn : eqF .non .non = true := rfl
theorem eqF_ns {j : List Nat} : eqF .non (.str j) = false := rfl
theorem eqF_sn {j : List Nat} : eqF (.str j) .non = false := rfl
theorem dTest_eq {Q : Bool → DEnv → Prop} : dTest t ρ Q E = t ρ (fun r ρ1 => match r with | .v (.bl k) => Q k ρ1 | _ => False) E := by
  unfold dTest
  congr 1
  funext r ρ1
  apply propext
  cases r with
  | v d => cases d <;> simp
  | f a ds => simp
  | b i => simp
theorem dAndV_eq : dAndV ta tb ρ P E = ta ρ (fun r ρ1 => match r with | .v (.bl c) => if c = true then tb ρ1 P E else P (.v (.bl false)) ρ1 | _ => False) E := by
  unfold dAndV
  congr 1
  funext r ρ1
  apply propext
  cases r with
  | v d => cases d <;> simp
  | f a ds => simp
  | b i => simp
theorem dOrV_eq : dOrV ta tb ρ P E = ta ρ (fun r ρ1 => match r with | .v (.bl c) => if c = true then P (.v (.bl true)) ρ1 else tb ρ1 P E | _ => False) E := by
  unfold dOrV
  congr 1
  funext r ρ1
  apply propext
  cases r with
  | v d => cases d <;> simp
  | f a ds => simp
  | b i => simp
theorem dNotV_eq : dNotV ta ρ P E = ta ρ (fun r ρ1 => match r with | .v (.bl c) => P (.v (.bl (!c))) ρ1 | _ => False) E := by
  unfold dNotV
  congr 1
  funext r ρ1
  apply propext
  cases r with
  | v d => cases d <;> simp
  | f a ds => simp
  | b i => simp
theorem dNeg_eq : dNeg t ρ P E = t ρ (fun r ρ1 => match r with | .v (.int i) => P (.v (.int (-i))) ρ1 | _ => False) E := by
  unfold dNeg
  congr 1
  funext r ρ1
  apply propext
  cases r with
  | v d => cases d <;> simp
  | f a ds => simp
  | b i => simp
theorem oIxL_eq {x : Rs} {i : Int} : oIxL x (.v (.int i)) ρ P = (match dat ρ x with | .lst ds => (match atI ds i with | some d => P (.v d) ρ | none => False) | _ => False) := by
  unfold oIxL
  apply propext
  cases h : dat ρ x <;> simp
  rename_i ds
  cases atI ds i <;> simp
theorem oIxT_eq {x : Rs} {i : Int} : oIxT x (.v (.int i)) ρ P = (match dat ρ x with | .tup ds => (match atI ds i with | some d => P (.v d) ρ | none => False) | _ => False) := by
  unfold oIxT
  apply propext
  cases h : dat ρ x <;> simp
  rename_i ds
  cases atI ds i <;> simp
theorem oIxS_v {l : List Nat} {i : Int} : oIxS (.v (.str l)) (.v (.int i)) ρ P = (l.length ≤ 1000000 ∧ (match atI l i with | some c => P (.v (.str [c])) ρ | none => False)) := by
  unfold oIxS
  apply propext
  cases h : atI l i <;> simp [h]
theorem atI_0 {α : Type} {a : α} {l : List α} : atI (a :: l) 0 = some a := atI_nat (j := 0) rfl
theorem atI_1 {α : Type} {a b : α} {l : List α} : atI (a :: b :: l) 1 = some b := atI_nat (j := 1) rfl
theorem atI_2 {α : Type} {a b c : α} {l : List α} : atI (a :: b :: c :: l) 2 = some c := atI_nat (j := 2) rfl
theorem atI_3 {α : Type} {a b c d : α} {l : List α} : atI (a :: b :: c :: d :: l) 3 = some d := atI_nat (j := 3) rfl
theorem atI_at {α : Type} {l : List α} {i : Int} {j : Nat} (e : i = (j : Int)) (h : j < l.length) : atI l i = some l[j] := by
  rw [e]; exact atI_nat (List.getElem?_eq_getElem h)
theorem oAddS_v {a b : List Nat} : oAddS (.v (.str a)) (.v (.str b)) ρ P = (a.length + b.length ≤ 1000000 ∧ P (.v (.str (a ++ b))) ρ) := by simp [oAddS]
theorem oMulS_v {l : List Nat} {n : Int} : oMulS (.v (.str l)) (.v (.int n)) ρ P = (n ≤ 100000 ∧ 0 ≤ n ∧ l.length * n.toNat ≤ 1000000 ∧ P (.v (.str (List.replicate n.toNat l).flatten)) ρ) := by simp [oMulS]
theorem oInC_v {neg : Bool} {c : Nat} {l : List Nat} : oInC neg (.v (.str [c])) (.v (.str l)) ρ P = P (.v (.bl (if neg then !decide (c ∈ l) else decide (c ∈ l)))) ρ := by simp [oInC]
theorem oIn_v {neg : Bool} {d : D} {y : Rs} : oIn neg (.v d) y ρ P = (flat d = true ∧ (match dat ρ y with | .lst ds => ds.all flat = true ∧ P (.v (.bl (if neg then !inD d ds else inD d ds))) ρ | .tup ds => ds.all flat = true ∧ P (.v (.bl (if neg then !inD d ds else inD d ds))) ρ | _ => False)) := by
  unfold oIn
  apply propext
  cases h : dat ρ y <;> simp
theorem oCatT_v {a b : List D} : oCatT (.v (.tup a)) (.v (.tup b)) ρ P = (a.length + b.length ≤ 1000000 ∧ P (.v (.tup (a ++ b))) ρ) := by simp [oCatT]
theorem oIsN_v {x : Rs} : oIsN x (.v .non) ρ P = P (.v (.bl (isNon (dat ρ x)))) ρ := by simp [oIsN]
theorem oNotN_v {x : Rs} : oNotN x (.v .non) ρ P = P (.v (.bl (!isNon (dat ρ x)))) ρ := by simp [oNotN]
theorem sS_v {l : List Nat} {lo hi : Option Int} : sS (.v (.str l)) lo hi ρ P = (l.length ≤ 1000000 ∧ P (.v (.str (cut l lo hi))) ρ) := by simp [sS]
theorem sT_v {ds : List D} {lo hi : Option Int} : sT (.v (.tup ds)) lo hi ρ P = P (.v (.tup (cut ds lo hi))) ρ := by simp [sT, dat]
theorem sL_eq {x : Rs} {lo hi : Option Int} : sL x lo hi ρ P = (match dat ρ x with | .lst ds => ∀ a, P (.f a (cut ds lo hi)) ρ | _ => False) := by
  unfold sL
  apply propext
  cases h : dat ρ x <;> simp
theorem dSome_eq {Q : Option Int → DEnv → Prop} : dSome t ρ Q E = t ρ (fun r ρ1 => match r with | .v (.int i) => Q (some i) ρ1 | _ => False) E := by
  unfold dSome
  congr 1
  funext r ρ1
  apply propext
  cases r with
  | v d => cases d <;> simp
  | f a ds => simp
  | b i => simp
theorem dTup_eq : dTup tr ρ P E = tr ρ (fun rs ρ1 => match frzs rs with | some ds => rs.length ≤ 1000 ∧ P (.v (.tup ds)) ρ1 | none => False) E := by
  unfold dTup
  congr 1
  funext rs ρ1
  apply propext
  cases h : frzs rs <;> simp
theorem dLst_eq : dLst tr ρ P E = tr ρ (fun rs ρ1 => match frzs rs with | some ds => rs.length ≤ 1000 ∧ ∀ a, P (.f a ds) ρ1 | none => False) E := by
  unfold dLst
  congr 1
  funext rs ρ1
  apply propext
  cases h : frzs rs <;> simp
theorem frzs_nil : frzs [] = some [] := rfl
theorem frzs_v {d : D} {rs : List Rs} : frzs (.v d :: rs) = (frzs rs).map fun ds => d :: ds := rfl
theorem frzs_f {a : Addr} {es : List D} {rs : List Rs} : frzs (.f a es :: rs) = (frzs rs).map fun ds => .lst es :: ds := rfl
theorem cLen_v {r : Rs} : cLen [r] ρ P = (match lenD (dat ρ r) with | some n => P (.v (.int (n : Int))) ρ | none => False) := by
  unfold cLen
  apply propext
  cases h : lenD (dat ρ r) <;> simp [h]
theorem lenD_l {ds : List D} : lenD (.lst ds) = some ds.length := rfl
theorem lenD_t {ds : List D} : lenD (.tup ds) = some ds.length := rfl
theorem lenD_s {l : List Nat} (h : l.length ≤ 1000000) : lenD (.str l) = some l.length := by simp [lenD, h]
theorem cMax2_v {i j : Int} : cMax2 [.v (.int i), .v (.int j)] ρ P = P (.v (.int (max i j))) ρ := by simp [cMax2, and_assoc]
theorem cMin2_v {i j : Int} : cMin2 [.v (.int i), .v (.int j)] ρ P = P (.v (.int (min i j))) ρ := by simp [cMin2, and_assoc]
theorem cTupOf_eq {r : Rs} : cTupOf [r] ρ P = (match dat ρ r with | .lst ds => P (.v (.tup ds)) ρ | _ => False) := by
  unfold cTupOf
  apply propext
  cases h : dat ρ r <;> simp [h]
theorem cListOf_eq {r : Rs} : cListOf [r] ρ P = (match dat ρ r with | .lst ds => ∀ a, P (.f a ds) ρ | .tup ds => ∀ a, P (.f a ds) ρ | _ => False) := by
  unfold cListOf
  apply propext
  cases h : dat ρ r <;> simp [h]
theorem mApp_b {i : Nat} {r : Rs} : mApp (.b i) [r] ρ P = (match ρ[i]? with | some (.l a ds) => (match frz r with | some d => ds.length ≤ 1000000 ∧ P (.v .non) (ρ.set i (.l a (ds ++ [d]))) | none => False) | _ => False) := by
  unfold mApp
  apply propext
  cases h : ρ[i]? with
  | none => simp [h]
  | some s =>
    cases s with
    | l a ds => cases h2 : frz r <;> simp [h, h2, and_assoc]
    | no => simp [h]
    | d a ep kvs => simp [h]
    | o kd C dx x a ds => simp [h]
    | v d => simp [h]
theorem mPopAt_b {i : Nat} {n : Int} : mPopAt (.b i) [.v (.int n)] ρ P = (match ρ[i]? with | some (.l a ds) => (-(2 ^ 63) ≤ n ∧ n < 2 ^ 63) ∧ ∃ k d, seqIndex? n ds.length = some k ∧ ds[k]? = some d ∧ P (.v d) (ρ.set i (.l a (ds.eraseIdx k))) | _ => False) := by
  unfold mPopAt
  apply propext
  cases h : ρ[i]? with
  | none => simp [h]
  | some s =>
    cases s with
    | l a ds => simp [h, and_assoc]
    | no => simp [h]
    | d a ep kvs => simp [h]
    | o kd C dx x a ds => simp [h]
    | v d => simp [h]
theorem dSetIx_eq {to ti te : TD} {D' : DEnds} : dSetIx to ti te D' ρ = te ρ (fun r ρ1 => match frz r with | some d => to ρ1 (fun x ρ2 => ti ρ2 (fun y ρ3 => match x, y with | .b k, .v (.int n) => (match ρ3[k]? with | some (.l a ds) => (match ixN ds.length n with | some j => D'.nx (ρ3.set k (.l a (ds.set j d))) | none => False) | _ => False) | _, _ => False) D'.ex) D'.ex | none => False) D'.ex := by
  unfold dSetIx
  congr 1
  funext r ρ1
  apply propext
  cases h : frz r with
  | none => simp
  | some d =>
    simp only [Option.some.injEq, exists_eq_left']
    have e : (fun (x : Rs) (ρ2 : DEnv) => ti ρ2 (fun y ρ3 => ∃ k a ds n j, x = Rs.b k ∧ ρ3[k]? = some (Sl.l a ds) ∧ y = Rs.v (D.int n) ∧ ixN ds.length n = some j ∧ D'.nx (ρ3.set k (Sl.l a (ds.set j d)))) D'.ex)
        = (fun (x : Rs) (ρ2 : DEnv) => ti ρ2 (fun y ρ3 => match x, y with | .b k, .v (.int n) => (match ρ3[k]? with | some (.l a ds) => (match ixN ds.length n with | some j => D'.nx (ρ3.set k (.l a (ds.set j d))) | none => False) | _ => False) | _, _ => False) D'.ex) := by
      funext x ρ2
      congr 1
      funext y ρ3
      apply propext
      cases x with
      | v d => simp
      | f a ds => simp
      | b k =>
        cases y with
        | f a ds => simp
        | b k => simp
        | v d =>
          cases d <;> simp
          rename_i n
          cases h2 : ρ3[k]? with
          | none => simp
          | some s =>
            cases s with
            | no => simp
            | d a ep kvs => simp
            | o kd C dx x a ds => simp
            | v d => simp
            | l a ds => cases h3 : ixN ds.length n <;> simp [h3, and_assoc]
    rw [e]
theorem diR1_eq {Q : List D → (DEnv → Prop) → DEnv → Prop} : diR1 tr ρ Q E = tr ρ (fun rs ρ1 => match rs with | [.v (.int j)] => (-(2 ^ 62) ≤ j ∧ j < 2 ^ 62) ∧ Q (rgD 0 j.toNat) (fun _ => True) ρ1 | _ => False) E := by
  unfold diR1
  congr 1
  funext rs ρ1
  apply propext
  match rs with
  | [] => simp
  | [.v d] => cases d <;> simp
  | [.f a ds] => simp
  | [.b i] => simp
  | _ :: _ :: _ => simp
theorem diR2_eq {Q : List D → (DEnv → Prop) → DEnv → Prop} : diR2 tr ρ Q E = tr ρ (fun rs ρ1 => match rs with | [.v (.int i), .v (.int j)] => (-(2 ^ 62) ≤ i ∧ i < 2 ^ 62 ∧ -(2 ^ 62) ≤ j ∧ j < 2 ^ 62) ∧ Q (rgD i (j - i).toNat) (fun _ => True) ρ1 | _ => False) E := by
  unfold diR2
  congr 1
  funext rs ρ1
  apply propext
  match rs with
  | [] => simp
  | [.v d] => simp
  | [.f a ds] => simp
  | [.b i] => simp
  | [.v d, .v e] => cases d <;> cases e <;> simp [and_assoc]
  | [.v d, .f a ds] => simp
  | [.v d, .b i] => simp
  | [.f a ds, _] => simp
  | [.b i, _] => simp
  | _ :: _ :: _ :: _ => simp
theorem diS_eq {Q : List D → (DEnv → Prop) → DEnv → Prop} : diS t ρ Q E = t ρ (fun r ρ1 => match r with | .v (.str l) => Q (chs l) (fun _ => True) ρ1 | _ => False) E := by
  unfold diS
  congr 1
  funext r ρ1
  apply propext
  cases r with
  | v d => cases d <;> simp
  | f a ds => simp
  | b i => simp
theorem diT_eq {Q : List D → (DEnv → Prop) → DEnv → Prop} : diT t ρ Q E = t ρ (fun r ρ1 => match r with | .v (.tup ds) => Q ds (fun _ => True) ρ1 | _ => False) E := by
  unfold diT
  congr 1
  funext r ρ1
  apply propext
  cases r with
  | v d => cases d <;> simp
  | f a ds => simp
  | b i => simp
theorem diL_eq {Q : List D → (DEnv → Prop) → DEnv → Prop} : diL t ρ Q E = t ρ (fun r ρ1 => match dat ρ1 r with | .lst ds => Q ds (stR ρ1 r) ρ1 | _ => False) E := by
  unfold diL
  congr 1
  funext r ρ1
  apply propext
  cases h : dat ρ1 r <;> simp
theorem dLstRg2_eq : dLstRg2 ta tb ρ P E = ta ρ (fun r ρ1 => tb ρ1 (fun s ρ2 => match r, s with | .v (.int i), .v (.int j) => RgOk i j ∧ ∀ a, P (.f a (rgD i (j - i).toNat)) ρ2 | _, _ => False) E) E := by
  unfold dLstRg2
  congr 1
  funext r ρ1
  congr 1
  funext s ρ2
  apply propext
  cases r with
  | v d =>
    cases s with
    | v e => cases d <;> cases e <;> simp
    | f a ds => simp
    | b i => simp
  | f a ds => simp
  | b i => simp
theorem dLstRg1_eq : dLstRg1 ta ρ P E = ta ρ (fun r ρ1 => match r with | .v (.int j) => RgOk 0 j ∧ ∀ a, P (.f a (rgD 0 j.toNat)) ρ1 | _ => False) E := by
  unfold dLstRg1
  congr 1
  funext r ρ1
  apply propext
  cases r with
  | v d => cases d <;> simp
  | f a ds => simp
  | b i => simp
theorem dAsg_eq {g : TGd} {D' : DEnds} : dAsg t g D' ρ = t ρ (fun r ρ1 => match r with | .v d => g d ρ1 D'.nx | _ => False) D'.ex := by
  unfold dAsg
  congr 1
  funext r ρ1
  apply propext
  cases r <;> simp
theorem hCons_c {g : TGd} {u : TGsd} {d : D} {ds : List D} {Q : DEnv → Prop} : hCons g u (d :: ds) ρ Q = g d ρ fun ρ' => u ds ρ' Q := by simp [hCons, and_assoc]
theorem hNil_n {Q : DEnv → Prop} : hNil [] ρ Q = Q ρ := by simp [hNil]
theorem hTup_t {n : Nat} {u : TGsd} {ds : List D} {Q : DEnv → Prop} : hTup n u (.tup ds) ρ Q = (ds.length = n ∧ u ds ρ Q) := by simp [hTup]
theorem dPar_eq {i j : Nat} {D' : DEnds} : dPar i j tr D' ρ = tr ρ (fun rs ρ1 => match rs with | [r, s] => apart r s ∧ D'.nx (asg j s (asg i r ρ1)) | _ => False) D'.ex := by
  unfold dPar
  congr 1
  funext rs ρ1
  apply propext
  match rs with
  | [] => simp
  | [_] => simp
  | [r, s] => simp [and_assoc]
  | _ :: _ :: _ :: _ => simp
theorem dChain_eq {r r' : R2d} : dChain r r' ta tb tc ρ P E = ta ρ (fun x ρ1 => tb ρ1 (fun y ρ2 => r x y ρ2 fun z ρ3 => match z with | .v (.bl k) => if k = true then tc ρ3 (fun w ρ4 => r' y w ρ4 P) E else P (.v (.bl false)) ρ3 | _ => False) E) E := by
  have h : ∀ (y : Rs), (fun (z : Rs) (ρ3 : DEnv) => ∃ k, z = Rs.v (D.bl k) ∧ if k = true then tc ρ3 (fun w ρ4 => r' y w ρ4 P) E else P (.v (.bl false)) ρ3) = (fun z ρ3 => match z with | .v (.bl k) => if k = true then tc ρ3 (fun w ρ4 => r' y w ρ4 P) E else P (.v (.bl false)) ρ3 | _ => False) := by
    intro y
    funext z ρ3
    apply propext
    cases z with
    | v d => cases d <;> simp
    | f a ds => simp
    | b i => simp
  unfold dChain
  simp only [h]
theorem retR_v {fr : Bool} {n : Nat} {d : D} : retR fr n ρ (.v d) = some (.v d) := rfl
end
/-- the def's slots in full -/
theorem fnd' {Pg : Program} {w : World} {K : PySem.W.Frag} {mgl : Str → Option Value} {base : Heap} {x qual : Str} {st : Stmt} {f : Addr} {fd : FuncData} {N ps : List Str} {k n : Nat} {sp : TD} {t : TSd} (F : Fun K x qual st f fd) (S : FnScope N ps (defScope st)) (hn : ps.length = n) (fr : Bool) (nos : DEnv) (hnos : List.replicate (N.length - n) Sl.no = nos)
    (hd : ∀ (cdv : Value) (A : Around) (outer : List Env) (s : Shared) (H : Hp) (E : XK), Room k (A.deeper (PyProof.Rows.envOfC qual (defScope st) s.heap.objs.size f cdv)) →
      L2N.Takes (cxOf (L2N.CX Pg w) Pg w K mgl base N qual (defScope st) f cdv A outer s H E) (fun cls d _ H => E cls d H) →
      DSs (cxOf (L2N.CX Pg w) Pg w K mgl base N qual (defScope st) f cdv A outer s H E) (fun cls d _ H => E cls d H) (defBody st) t)
    (hs : ∀ ρ Q G, sp ρ Q G → ρ.length = n → t (bodyEnds fr n ρ Q G) (ρ ++ nos)) : FnOk Pg w K mgl base (L2N.CX Pg w) (k + 1) f fd ps (toSp K n sp) :=
  fnd F S hn fr hd fun ρ Q G h1 h2 => by rw [hnos]; exact hs ρ Q G h2 h1
end DL

namespace DL
open PySem L2
variable [WW]
/-! loops and comprehensions in use -/
theorem take_step {α β : Type} {f : α → Option β} {ds : List α} {i : Nat} {d : α} (h : ds[i]? = some d) : (ds.take (i + 1)).filterMap f = (ds.take i).filterMap f ++ (f d).toList := by
  rw [List.take_add_one, h, List.filterMap_append]
  simp [List.filterMap_cons]
  cases f d <;> simp
/-- a comprehension that leaves all as it is: f tells what becomes of an item -/
theorem lc_pure {ds : List D} {st : DEnv → Prop} {ρ1 : DEnv} {nt : NT} {vs : List Nat} {tt : TTd} {te : TD} {P : Rs → DEnv → Prop} (f : D → Option D) (hst : st ρ1)
    (h : ∀ (i : Nat) d (A : List D), ds[i]? = some d → ∃ ρc, ntD nt d (wipeD ρ1 vs) = some ρc ∧ tt ρc (fun b ρ3 => if b = true then te ρ3 (fun r ρ4 => ∃ d', frz r = some d' ∧ rst ρ1 ρ4 vs = ρ1 ∧ A ++ [d'] = A ++ (f d).toList) EF else rst ρ1 ρ3 vs = ρ1 ∧ A = A ++ (f d).toList) EF)
    (k : ∀ a, P (.f a (ds.filterMap f)) ρ1) :
    ∃ I : Nat → List D → DEnv → Prop, I 0 [] ρ1 ∧
      (∀ (i : Nat) d acc ρ', ds[i]? = some d → I i acc ρ' → acc.length ≤ i → st ρ' ∧ ∃ ρc, ntD nt d (wipeD ρ' vs) = some ρc ∧ tt ρc (fun b ρ3 => if b = true then te ρ3 (fun r ρ4 => ∃ d', frz r = some d' ∧ I (i + 1) (acc ++ [d']) (rst ρ' ρ4 vs)) EF else I (i + 1) acc (rst ρ' ρ3 vs)) EF) ∧
      ∀ acc ρ', I ds.length acc ρ' → st ρ' ∧ ∀ a, P (.f a acc) ρ' := by
  let I : Nat → List D → DEnv → Prop := fun i acc ρ' => match i with
    | 0 => ρ' = ρ1 ∧ acc = []
    | j + 1 => ρ' = ρ1 ∧ ∃ d, ds[j]? = some d ∧ acc = (ds.take j).filterMap f ++ (f d).toList
  have hI : ∀ i acc ρ', I i acc ρ' → ρ' = ρ1 ∧ acc = (ds.take i).filterMap f := fun i acc ρ' q => by
    cases i with
    | zero => exact ⟨q.1, by rw [q.2]; simp⟩
    | succ j => obtain ⟨q1, d, q2, q3⟩ := q; exact ⟨q1, by rw [q3, take_step q2]⟩
  refine ⟨I, ⟨rfl, rfl⟩, fun i d acc ρ' hd q _ => ?_, fun acc ρ' q => ?_⟩
  · obtain ⟨e1, e2⟩ := hI i acc ρ' q
    subst e1; subst e2
    refine ⟨hst, ?_⟩
    obtain ⟨ρc, c1, c2⟩ := h i d ((ds.take i).filterMap f) hd
    refine ⟨ρc, c1, ?_⟩
    have e : (fun (b : Bool) (ρ3 : DEnv) => if b = true then te ρ3 (fun r ρ4 => ∃ d', frz r = some d' ∧ I (i + 1) ((ds.take i).filterMap f ++ [d']) (rst ρ' ρ4 vs)) EF else I (i + 1) ((ds.take i).filterMap f) (rst ρ' ρ3 vs))
        = (fun b ρ3 => if b = true then te ρ3 (fun r ρ4 => ∃ d', frz r = some d' ∧ rst ρ' ρ4 vs = ρ' ∧ (ds.take i).filterMap f ++ [d'] = (ds.take i).filterMap f ++ (f d).toList) EF else rst ρ' ρ3 vs = ρ' ∧ (ds.take i).filterMap f = (ds.take i).filterMap f ++ (f d).toList) := by
      have hs : ∀ acc ρ4, I (i + 1) acc (rst ρ' ρ4 vs) = (rst ρ' ρ4 vs = ρ' ∧ acc = (ds.take i).filterMap f ++ (f d).toList) := fun acc ρ4 => by
        show (_ ∧ _) = _
        apply propext
        constructor
        · rintro ⟨q1, d', q2, q3⟩
          rw [hd] at q2; cases q2
          exact ⟨q1, q3⟩
        · rintro ⟨q1, q3⟩
          exact ⟨q1, d, hd, q3⟩
      simp only [hs]
    rw [e]
    exact c2
  · obtain ⟨e1, e2⟩ := hI _ acc ρ' q
    subst e1; subst e2
    rw [List.take_length]
    exact ⟨hst, k⟩
theorem chs_get {l : List Nat} {i : Nat} {d : D} : (chs l)[i]? = some d ↔ ∃ c, l[i]? = some c ∧ d = .str [c] := by
  unfold chs
  rw [List.getElem?_map]
  cases h : l[i]? <;> simp [eq_comm]
theorem chs_len (l : List Nat) : (chs l).length = l.length := by simp [chs]
theorem ints_get {l : List Int} {i : Nat} {d : D} : (l.map D.int)[i]? = some d ↔ ∃ c, l[i]? = some c ∧ d = .int c := by
  rw [List.getElem?_map]
  cases h : l[i]? <;> simp [eq_comm]
theorem inD_int {p : Int} {l : List Int} : inD (.int p) (l.map D.int) = decide (p ∈ l) := by
  unfold inD
  rw [List.any_map]
  induction l with
  | nil => rfl
  | cons a l ih =>
    simp only [List.any_cons, Function.comp, eqW] at ih ⊢
    rw [ih]
    by_cases e : a = p
    · subst e; simp
    · have : ¬ p = a := fun z => e z.symm
      simp [e, this]
theorem inD_str {s : List Nat} {l : List (List Nat)} : inD (.str s) (l.map D.str) = decide (s ∈ l) := by
  unfold inD
  rw [List.any_map]
  induction l with
  | nil => rfl
  | cons a l ih =>
    simp only [List.any_cons, Function.comp, eqW] at ih ⊢
    rw [ih]
    by_cases e : a = s
    · subst e; simp
    · have : ¬ s = a := fun z => e z.symm
      simp [e, this]
theorem all_flat_int {l : List Int} : (l.map D.int).all flat = true := ints_map.2
theorem all_flat_str {l : List (List Nat)} : (l.map D.str).all flat = true := by rw [List.all_map]; exact List.all_eq_true.mpr fun _ _ => rfl
theorem fm_bl {ds : List D} {f : D → Option D} {g : D → Bool} (h : ∀ d ∈ ds, f d = some (.bl (g d))) : ds.filterMap f = (ds.map g).map D.bl := by
  induction ds with
  | nil => rfl
  | cons d ds ih =>
    rw [List.filterMap_cons, h d List.mem_cons_self]
    simp only [List.map_cons]
    rw [ih fun x hx => h x (List.mem_cons_of_mem _ hx)]
theorem noLs_of {vs : List Nat} {ρ : DEnv} (h : vs.all (fun i => match ρ[i]? with | some s => (adr s).isNone | none => true) = true) : noLs vs ρ := fun i hi s e => by
  have q := List.all_eq_true.mp h i hi
  rw [e] at q
  simpa using q
theorem eqvs_ints : ∀ {a b : List Int}, eqvs (a.map D.int) (b.map D.int) = decide (a = b)
  | [], [] => by simp [eqvs]
  | [], _ :: _ => by simp [eqvs]
  | _ :: _, [] => by simp [eqvs]
  | x :: a, y :: b => by
    simp only [List.map_cons, eqvs, eqv, eqvs_ints (a := a) (b := b)]
    by_cases e : x = y
    · subst e; simp
    · simp [e]
theorem okDs_ints : ∀ {a : List Int}, okDs (a.map D.int) = true
  | [] => rfl
  | x :: a => by simp only [List.map_cons, okDs, okD, okDs_ints (a := a), Bool.and_self]
theorem deps_ints : ∀ {a : List Int}, deps (a.map D.int) = 0
  | [] => rfl
  | x :: a => by simp only [List.map_cons, deps, dep, deps_ints (a := a), Nat.max_self]
theorem ixN_30 : ixN 3 0 = some 0 := rfl
theorem ixN_31 : ixN 3 1 = some 1 := rfl
end DL

namespace DL
open PySem L2
variable [WW]
/-! the runs, with named rests: nothing is run before its turn -/
abbrev CtR := Rs → DEnv → Prop
abbrev CtB := Bool → DEnv → Prop
abbrev CtL := List Rs → DEnv → Prop
abbrev CtO := Option Int → DEnv → Prop
abbrev CtI := List D → (DEnv → Prop) → DEnv → Prop
section
variable {ρ ρ' : DEnv} {P : CtR} {PB : CtB} {PL : CtL} {PO : CtO} {PI : CtI} {E : EX} {t ta tb tc to ti te : TD} {tr : TAd} {tt tu : TTd} {tl th : TOd} {r r' : R2d} {x y : Rs} {rs : List Rs} {ts us : TSd} {F : DEnds} {d e : D} {ds es : List D} {i j : Int} {c k : Bool} {l : List Nat} {a : Addr} {n m : Nat} {g : TGd} {gs : TGsd} {wi : TId} {rd : RCd} {md : RMd} {sl : RSd} {S : TD} {lo hi : Option Int}
def qSl (i : Nat) (P : CtR) : Option Sl → DEnv → Prop
  | some (.v d), ρ => P (.v d) ρ
  | some (.l _ _), ρ => P (.b i) ρ
  | _, _ => False
theorem w_var : dVar n ρ P E = qSl n P ρ[n]? ρ := by
  rw [dVar_eq]
  rcases h : ρ[n]? with _ | s
  · rfl
  · cases s <;> rfl
theorem w_sl_v : qSl n P (some (.v d)) ρ = P (.v d) ρ := rfl
theorem w_sl_l : qSl n P (some (.l a ds)) ρ = P (.b n) ρ := rfl
theorem w_c : dC d ρ P E = P (.v d) ρ := rfl
def qOp2 (r : R2d) (P : CtR) (x : Rs) : CtR := fun y ρ => r x y ρ P
def qOp (r : R2d) (tb : TD) (P : CtR) (E : EX) : CtR := fun x ρ => tb ρ (qOp2 r P x) E
theorem w_op : dOp r ta tb ρ P E = ta ρ (qOp r tb P E) E := rfl
theorem w_qOp : qOp r tb P E x ρ = tb ρ (qOp2 r P x) E := rfl
theorem w_qOp2 : qOp2 r P x y ρ = r x y ρ P := rfl
def qB (P : CtB) : CtR := fun r ρ => match r with | .v (.bl k) => P k ρ | _ => False
theorem w_qB : qB PB (.v (.bl k)) ρ = PB k ρ := rfl
theorem w_test : dTest t ρ PB E = t ρ (qB PB) E := dTest_eq
def qAnd (u : TTd) (P : CtB) (E : EX) : CtB := fun c ρ => if c = true then u ρ P E else P false ρ
def qOr (u : TTd) (P : CtB) (E : EX) : CtB := fun c ρ => if c = true then P true ρ else u ρ P E
def qNot (P : CtB) : CtB := fun c ρ => P (!c) ρ
theorem w_and : dAnd tt tu ρ PB E = tt ρ (qAnd tu PB E) E := rfl
theorem w_or : dOr tt tu ρ PB E = tt ρ (qOr tu PB E) E := rfl
theorem w_not : dNot tt ρ PB E = tt ρ (qNot PB) E := rfl
theorem w_qAnd : qAnd tu PB E c ρ = if c = true then tu ρ PB E else PB false ρ := rfl
theorem w_qOr : qOr tu PB E c ρ = if c = true then PB true ρ else tu ρ PB E := rfl
theorem w_qNot : qNot PB c ρ = PB (!c) ρ := rfl
def qAndV (tb : TD) (P : CtR) (E : EX) : CtB := fun c ρ => if c = true then tb ρ P E else P (.v (.bl false)) ρ
def qOrV (tb : TD) (P : CtR) (E : EX) : CtB := fun c ρ => if c = true then P (.v (.bl true)) ρ else tb ρ P E
def qNotV (P : CtR) : CtB := fun c ρ => P (.v (.bl (!c))) ρ
theorem w_andV : dAndV ta tb ρ P E = ta ρ (qB (qAndV tb P E)) E := dAndV_eq
theorem w_orV : dOrV ta tb ρ P E = ta ρ (qB (qOrV tb P E)) E := dOrV_eq
theorem w_notV : dNotV ta ρ P E = ta ρ (qB (qNotV P)) E := dNotV_eq
theorem w_qAndV : qAndV tb P E c ρ = if c = true then tb ρ P E else P (.v (.bl false)) ρ := rfl
theorem w_qOrV : qOrV tb P E c ρ = if c = true then P (.v (.bl true)) ρ else tb ρ P E := rfl
theorem w_qNotV : qNotV P c ρ = P (.v (.bl (!c))) ρ := rfl
def qI (P : Int → DEnv → Prop) : CtR := fun r ρ => match r with | .v (.int i) => P i ρ | _ => False
theorem w_qI {P : Int → DEnv → Prop} : qI P (.v (.int i)) ρ = P i ρ := rfl
def qNeg (P : CtR) : Int → DEnv → Prop := fun i ρ => P (.v (.int (-i))) ρ
theorem w_neg : dNeg t ρ P E = t ρ (qI (qNeg P)) E := dNeg_eq
theorem w_qNeg : qNeg P i ρ = P (.v (.int (-i))) ρ := rfl
def qIf (ta tb : TD) (P : CtR) (E : EX) : CtB := fun c ρ => if c = true then ta ρ P E else tb ρ P E
theorem w_if : dIf tt ta tb ρ P E = tt ρ (qIf ta tb P E) E := rfl
theorem w_qIf : qIf ta tb P E c ρ = if c = true then ta ρ P E else tb ρ P E := rfl
def qCh4 (r' : R2d) (tc : TD) (P : CtR) (E : EX) (y : Rs) : CtB := fun k ρ => if k = true then tc ρ (qOp2 r' P y) E else P (.v (.bl false)) ρ
def qCh2 (r r' : R2d) (tc : TD) (P : CtR) (E : EX) (x : Rs) : CtR := fun y ρ => r x y ρ (qB (qCh4 r' tc P E y))
def qCh (r r' : R2d) (tb tc : TD) (P : CtR) (E : EX) : CtR := fun x ρ => tb ρ (qCh2 r r' tc P E x) E
theorem w_chain : dChain r r' ta tb tc ρ P E = ta ρ (qCh r r' tb tc P E) E := dChain_eq
theorem w_qCh : qCh r r' tb tc P E x ρ = tb ρ (qCh2 r r' tc P E x) E := rfl
theorem w_qCh2 : qCh2 r r' tc P E x y ρ = r x y ρ (qB (qCh4 r' tc P E y)) := rfl
theorem w_qCh4 : qCh4 r' tc P E y k ρ = if k = true then tc ρ (qOp2 r' P y) E else P (.v (.bl false)) ρ := rfl
theorem w_nil : dNil ρ PL E = PL [] ρ := rfl
def qCons2 (P : CtL) (x : Rs) : CtL := fun xs ρ => P (x :: xs) ρ
def qCons (tr : TAd) (P : CtL) (E : EX) : CtR := fun x ρ => tr ρ (qCons2 P x) E
theorem w_cons : dCons ta tr ρ PL E = ta ρ (qCons tr PL E) E := rfl
theorem w_qCons : qCons tr PL E x ρ = tr ρ (qCons2 PL x) E := rfl
theorem w_qCons2 : qCons2 PL x rs ρ = PL (x :: rs) ρ := rfl
def fzL : List Rs → List D
  | [] => []
  | .v d :: rs => d :: fzL rs
  | .f _ ds :: rs => .lst ds :: fzL rs
  | .b _ :: rs => fzL rs
theorem fzL_nil : fzL [] = [] := rfl
theorem fzL_v : fzL (.v d :: rs) = d :: fzL rs := rfl
theorem fzL_f : fzL (.f a ds :: rs) = .lst ds :: fzL rs := rfl
theorem noB_nil : noB [] = True := rfl
theorem noB_v : noB (.v d :: rs) = noB rs := rfl
theorem noB_f : noB (.f a ds :: rs) = noB rs := rfl
theorem frzs_fzL : ∀ {rs : List Rs}, noB rs → frzs rs = some (fzL rs)
  | [], _ => rfl
  | .v d :: rs, h => by show (some d).bind _ = _; simp only [Option.bind_some]; rw [frzs_fzL (rs := rs) h]; rfl
  | .f a ds :: rs, h => by show (some (D.lst ds)).bind _ = _; simp only [Option.bind_some]; rw [frzs_fzL (rs := rs) h]; rfl
  | .b _ :: rs, h => h.elim
theorem frzs_noB : ∀ {rs : List Rs} {ds : List D}, frzs rs = some ds → noB rs
  | [], _, _ => trivial
  | .v d :: rs, ds, h => by
    have h : (some d).bind (fun d => (frzs rs).map fun ds => d :: ds) = some ds := h
    simp only [Option.bind_some] at h
    cases q : frzs rs with
    | none => rw [q] at h; cases h
    | some es => exact frzs_noB (rs := rs) q
  | .f a xs :: rs, ds, h => by
    have h : (some (D.lst xs)).bind (fun d => (frzs rs).map fun ds => d :: ds) = some ds := h
    simp only [Option.bind_some] at h
    cases q : frzs rs with
    | none => rw [q] at h; cases h
    | some es => exact frzs_noB (rs := rs) q
  | .b _ :: rs, ds, h => by cases h
def qTup (P : CtR) : CtL := fun rs ρ => noB rs ∧ rs.length ≤ 1000 ∧ P (.v (.tup (fzL rs))) ρ
def qLst (P : CtR) : CtL := fun rs ρ => noB rs ∧ rs.length ≤ 1000 ∧ ∀ a, P (.f a (fzL rs)) ρ
theorem w_tup : dTup tr ρ P E = tr ρ (qTup P) E := by
  unfold dTup
  congr 1
  funext rs ρ1
  apply propext
  constructor
  · rintro ⟨ds, e, h1, h2⟩
    have nb := frzs_noB e
    rw [frzs_fzL nb] at e
    cases e
    exact ⟨nb, h1, h2⟩
  · rintro ⟨nb, h1, h2⟩
    exact ⟨_, frzs_fzL nb, h1, h2⟩
theorem w_lst : dLst tr ρ P E = tr ρ (qLst P) E := by
  unfold dLst
  congr 1
  funext rs ρ1
  apply propext
  constructor
  · rintro ⟨ds, e, h1, h2⟩
    have nb := frzs_noB e
    rw [frzs_fzL nb] at e
    cases e
    exact ⟨nb, h1, h2⟩
  · rintro ⟨nb, h1, h2⟩
    exact ⟨_, frzs_fzL nb, h1, h2⟩
theorem w_qTup : qTup P rs ρ = (noB rs ∧ rs.length ≤ 1000 ∧ P (.v (.tup (fzL rs))) ρ) := rfl
theorem w_qLst : qLst P rs ρ = (noB rs ∧ rs.length ≤ 1000 ∧ ∀ a, P (.f a (fzL rs)) ρ) := rfl
/-! statements -/
theorem w_next : dNext F ρ = F.nx ρ := rfl
theorem w_seq : dSeq ts us F ρ = ts ⟨us F, F.rt, F.ex, F.bk, F.ct⟩ ρ := rfl
theorem w_break : dBreak F ρ = F.bk ρ := rfl
def qDrop (Q : DEnv → Prop) : CtR := fun _ ρ => Q ρ
theorem w_drop : dDrop t F ρ = t ρ (qDrop F.nx) F.ex := rfl
theorem w_qDrop {Q : DEnv → Prop} : qDrop Q x ρ = Q ρ := rfl
theorem w_ret : dRet t F ρ = t ρ F.rt F.ex := rfl
def qIfS (ts us : TSd) (F : DEnds) : CtB := fun b ρ => if b = true then ts F ρ else us F ρ
theorem w_ifS : dIfS tt ts us F ρ = tt ρ (qIfS ts us F) F.ex := rfl
theorem w_qIfS : qIfS ts us F c ρ = if c = true then ts F ρ else us F ρ := rfl
def qSet (i : Nat) (Q : DEnv → Prop) : CtR := fun r ρ => Q (asg i r ρ)
theorem w_set : dSet n t F ρ = t ρ (qSet n F.nx) F.ex := rfl
theorem w_qSet {Q : DEnv → Prop} : qSet n Q x ρ = Q (asg n x ρ) := rfl
theorem asg_v : asg n (.v d) ρ = ρ.set n (.v d) := rfl
theorem asg_f : asg n (.f a ds) ρ = ρ.set n (.l a ds) := rfl
theorem asg_b : asg n (.b m) ρ = (ρ.set m .no).set n (ρ[m]?.getD .no) := rfl
def qPar (i j : Nat) (Q : DEnv → Prop) : CtL := fun rs ρ => match rs with | [r, s] => apart r s ∧ Q (asg j s (asg i r ρ)) | _ => False
theorem w_par : dPar n m tr F ρ = tr ρ (qPar n m F.nx) F.ex := dPar_eq
theorem w_qPar {Q : DEnv → Prop} : qPar n m Q [x, y] ρ = (apart x y ∧ Q (asg m y (asg n x ρ))) := rfl
def qParT (js : List Nat) (Q : DEnv → Prop) : CtL := fun rs ρ => js.length = rs.length ∧ rs.length ≤ 1000 ∧ noB rs ∧ Q (asgs js rs ρ)
theorem w_parT {js : List Nat} : dParT js tr F ρ = tr ρ (qParT js F.nx) F.ex := rfl
theorem w_qParT {js : List Nat} {Q : DEnv → Prop} : qParT js Q rs ρ = (js.length = rs.length ∧ rs.length ≤ 1000 ∧ noB rs ∧ Q (asgs js rs ρ)) := rfl
theorem asgs_c {js : List Nat} : asgs (n :: js) (x :: rs) ρ = asgs js rs (asg n x ρ) := rfl
theorem asgs_n : asgs [] [] ρ = ρ := rfl
def qAsg (g : TGd) (Q : DEnv → Prop) : CtR := fun r ρ => match r with | .v d => g d ρ Q | _ => False
theorem w_asg : dAsg t g F ρ = t ρ (qAsg g F.nx) F.ex := dAsg_eq
theorem w_qAsg {Q : DEnv → Prop} : qAsg g Q (.v d) ρ = g d ρ Q := rfl
theorem w_hName {Q : DEnv → Prop} : hName n d ρ Q = Q (ρ.set n (.v d)) := rfl
def qH (u : TGsd) (ds : List D) (Q : DEnv → Prop) : DEnv → Prop := fun ρ => u ds ρ Q
theorem w_hCons {Q : DEnv → Prop} : hCons g gs (d :: ds) ρ Q = g d ρ (qH gs ds Q) := hCons_c
theorem w_qH {Q : DEnv → Prop} : qH gs ds Q ρ = gs ds ρ Q := rfl
/-! ends of a body -/
def qRet (fr : Bool) (n : Nat) (ρ' : DEnv) (P : CtR) (ρ2 : DEnv) : Rs → Prop
  | .v d => P (.v d) ρ2
  | .f a ds => P (if fr then .v (.lst ds) else .f a ds) ρ2
  | .b i => match ρ'[i]? with
    | some (.l a ds) => n ≤ i ∧ P (if fr then .v (.lst ds) else .f a ds) ρ2
    | _ => False
def qRt (fr : Bool) (n : Nat) (ρ : DEnv) (P : CtR) : CtR := fun r ρ' => MgOk ρ ρ' ∧ qRet fr n ρ' P (mg ρ ρ') r
def qNx (ρ : DEnv) (P : CtR) : DEnv → Prop := fun ρ' => MgOk ρ ρ' ∧ P (.v .non) (mg ρ ρ')
def qEx (ρ : DEnv) (E : EX) : EX := fun C ρ' => MgOk ρ ρ' ∧ E C (mg ρ ρ')
def nowh : DEnv → Prop := fun _ => False
theorem w_be {fr : Bool} : bodyEnds fr n ρ P E = ⟨qNx ρ P, qRt fr n ρ P, qEx ρ E, nowh, nowh⟩ := by
  unfold bodyEnds
  congr 1
  funext r ρ'
  apply propext
  unfold qRt
  refine and_congr Iff.rfl ?_
  cases r with
  | v d => simp [retR, qRet]
  | f a ds => simp [retR, qRet]
  | b i =>
    simp only [retR, qRet]
    cases h : ρ'[i]? with
    | none => simp
    | some s =>
      cases s with
      | no => simp
      | d a ep kvs => simp
      | o kd C dx x a ds => simp
      | v d => simp
      | l a ds =>
        by_cases q : n ≤ i
        · simp [q]
        · simp [q]
theorem w_qRt {fr : Bool} : qRt fr n ρ P x ρ' = (MgOk ρ ρ' ∧ qRet fr n ρ' P (mg ρ ρ') x) := rfl
theorem w_qNx : qNx ρ P ρ' = (MgOk ρ ρ' ∧ P (.v .non) (mg ρ ρ')) := rfl
theorem w_qEx {C : Addr} : qEx ρ E C ρ' = (MgOk ρ ρ' ∧ E C (mg ρ ρ')) := rfl
theorem w_nowh : nowh ρ = False := rfl
variable {ρ2 : DEnv}
theorem ret_v {fr : Bool} : qRet fr n ρ' P ρ2 (.v d) = P (.v d) ρ2 := rfl
theorem ret_f : qRet false n ρ' P ρ2 (.f a ds) = P (.f a ds) ρ2 := rfl
theorem ret_ft : qRet true n ρ' P ρ2 (.f a ds) = P (.v (.lst ds)) ρ2 := rfl
def qRetB (fr : Bool) (n i : Nat) (P : CtR) (ρ2 : DEnv) : Option Sl → Prop
  | some (.l a ds) => n ≤ i ∧ P (if fr then .v (.lst ds) else .f a ds) ρ2
  | _ => False
theorem ret_b {fr : Bool} : qRet fr n ρ' P ρ2 (.b m) = qRetB fr n m P ρ2 ρ'[m]? := by
  simp only [qRet, qRetB]
theorem retB_l : qRetB false n m P ρ2 (some (.l a ds)) = (n ≤ m ∧ P (.f a ds) ρ2) := rfl
theorem retB_lt : qRetB true n m P ρ2 (some (.l a ds)) = (n ≤ m ∧ P (.v (.lst ds)) ρ2) := rfl
theorem mg_l {ρ ρ' : DEnv} {b : Addr} {es : List D} : mg (.l a ds :: ρ) (.l b es :: ρ') = .l a es :: mg ρ ρ' := rfl
theorem mg_v {ρ ρ' : DEnv} {s : Sl} : mg (.v d :: ρ) (s :: ρ') = .v d :: mg ρ ρ' := rfl
theorem mg_n {ρ' : DEnv} : mg [] ρ' = [] := by cases ρ' <;> rfl
theorem mgOk_l {ρ ρ' : DEnv} {b : Addr} {es : List D} : MgOk (.l a ds :: ρ) (.l b es :: ρ') = (b = a ∧ MgOk ρ ρ') := rfl
theorem mgOk_v {ρ ρ' : DEnv} {s : Sl} : MgOk (.v d :: ρ) (s :: ρ') = MgOk ρ ρ' := by cases s <;> rfl
theorem mgOk_n {ρ' : DEnv} : MgOk [] ρ' = True := by cases ρ' <;> rfl
/-! calls -/
def qWb (P : CtR) (rs : List Rs) (ρ : DEnv) : CtR := fun r as => P r (wb rs as ρ)
def qWe (E : EX) (rs : List Rs) (ρ : DEnv) : EX := fun C as => E C (wb rs as ρ)
def qCall (n : Nat) (S : TD) (P : CtR) (E : EX) : CtL := fun rs ρ => rs.length = n ∧ (bis rs).Nodup ∧ S (rs.map (argE ρ)) (qWb P rs ρ) (qWe E rs ρ)
theorem w_call : dCall n S tr ρ P E = tr ρ (qCall n S P E) E := rfl
theorem w_qCall : qCall n S P E rs ρ = (rs.length = n ∧ (bis rs).Nodup ∧ S (rs.map (argE ρ)) (qWb P rs ρ) (qWe E rs ρ)) := rfl
theorem w_qWb {as : DEnv} : qWb P rs ρ x as = P x (wb rs as ρ) := rfl
theorem w_qWe {C : Addr} {as : DEnv} : qWe E rs ρ C as = E C (wb rs as ρ) := rfl
theorem argE_v : argE ρ (.v d) = .v d := rfl
theorem argE_f : argE ρ (.f a ds) = .v (.lst ds) := rfl
theorem argE_b : argE ρ (.b m) = lOnly (ρ[m]?.getD .no) := rfl
theorem lOnly_l : lOnly (.l a ds) = .l a ds := rfl
theorem bis_n : bis [] = [] := rfl
theorem bis_b : bis (.b m :: rs) = m :: bis rs := rfl
theorem bis_v : bis (.v d :: rs) = bis rs := rfl
theorem bis_f : bis (.f a ds :: rs) = bis rs := rfl
theorem wb_b {s : Sl} {as : DEnv} : wb (.b m :: rs) (s :: as) ρ = wb rs as (ρ.set m s) := rfl
theorem wb_v {s : Sl} {as : DEnv} : wb (.v d :: rs) (s :: as) ρ = wb rs as ρ := rfl
theorem wb_f {s : Sl} {as : DEnv} : wb (.f a ds :: rs) (s :: as) ρ = wb rs as ρ := rfl
theorem wb_n {as : DEnv} : wb [] as ρ = ρ := by cases as <;> rfl
/-! data of a result -/
def datS : Option Sl → D
  | some (.l _ ds) => .lst ds
  | _ => .non
theorem dat_v : dat ρ (.v d) = d := rfl
theorem dat_f : dat ρ (.f a ds) = .lst ds := rfl
theorem dat_b : dat ρ (.b m) = datS ρ[m]? := by
  show (match ρ[m]? with | some (.l _ ds) => D.lst ds | _ => D.non) = _
  unfold datS
  rcases ρ[m]? with _ | s
  · rfl
  · cases s <;> rfl
theorem datS_l : datS (some (.l a ds)) = .lst ds := rfl
def qLs (d : D) (Q : List D → Prop) : Prop := match d with | .lst ds => Q ds | _ => False
def qTs (d : D) (Q : List D → Prop) : Prop := match d with | .tup ds => Q ds | _ => False
def qSeq (d : D) (Q : List D → Prop) : Prop := match d with | .lst ds => Q ds | .tup ds => Q ds | _ => False
theorem ls_l {Q : List D → Prop} : qLs (.lst ds) Q = Q ds := rfl
theorem ts_t {Q : List D → Prop} : qTs (.tup ds) Q = Q ds := rfl
theorem seq_l {Q : List D → Prop} : qSeq (.lst ds) Q = Q ds := rfl
theorem seq_t {Q : List D → Prop} : qSeq (.tup ds) Q = Q ds := rfl
def qAt (i : Int) (P : CtR) (ρ : DEnv) : List D → Prop := fun ds => ∃ d, atI ds i = some d ∧ P (.v d) ρ
theorem w_ixL : oIxL x (.v (.int i)) ρ P = qLs (dat ρ x) (qAt i P ρ) := by
  rw [oIxL_eq]
  unfold qLs
  cases dat ρ x <;> simp only [qAt]
  rename_i ds
  cases atI ds i <;> simp
theorem w_ixT : oIxT x (.v (.int i)) ρ P = qTs (dat ρ x) (qAt i P ρ) := by
  rw [oIxT_eq]
  unfold qTs
  cases dat ρ x <;> simp only [qAt]
  rename_i ds
  cases atI ds i <;> simp
theorem at_0 : qAt 0 P ρ (d :: ds) = P (.v d) ρ := by simp [qAt, atI_0]
theorem at_1 {d0 : D} : qAt 1 P ρ (d0 :: d :: ds) = P (.v d) ρ := by simp [qAt, atI_1]
theorem at_2 {d0 d1 : D} : qAt 2 P ρ (d0 :: d1 :: d :: ds) = P (.v d) ρ := by simp [qAt, atI_2]
theorem at_3 {d0 d1 d2 : D} : qAt 3 P ρ (d0 :: d1 :: d2 :: d :: ds) = P (.v d) ρ := by simp [qAt, atI_3]
theorem at_i (h : atI ds i = some d) : qAt i P ρ ds = P (.v d) ρ := by simp [qAt, h]
theorem at_ii (h : atI ds i = some d) (p : P (.v d) ρ) : qAt i P ρ ds := ⟨d, h, p⟩
def qAtS (i : Int) (P : CtR) (ρ : DEnv) (l : List Nat) : Prop := ∃ c, atI l i = some c ∧ P (.v (.str [c])) ρ
theorem w_ixS : oIxS (.v (.str l)) (.v (.int i)) ρ P = (l.length ≤ 1000000 ∧ qAtS i P ρ l) := by
  rw [oIxS_v]
  unfold qAtS
  cases atI l i <;> simp
theorem atS_i {c : Nat} (h : atI l i = some c) (p : P (.v (.str [c])) ρ) : qAtS i P ρ l := ⟨c, h, p⟩
/-! changes of own lists -/
def qOwn (Q : Addr → List D → Prop) : Option Sl → Prop
  | some (.l a ds) => Q a ds
  | _ => False
theorem own_l {Q : Addr → List D → Prop} : qOwn Q (some (.l a ds)) = Q a ds := rfl
def qUp (m : Nat) (n : Int) (d : D) (ρ : DEnv) (Q : DEnv → Prop) : Addr → List D → Prop := fun a ds => ∃ j, ixN ds.length n = some j ∧ Q (ρ.set m (.l a (ds.set j d)))
theorem up_0 {e : D} {Q : DEnv → Prop} : qUp m 0 e ρ Q a (d :: ds) = Q (ρ.set m (.l a (e :: ds))) := by
  have : ixN (d :: ds).length 0 = some 0 := by unfold ixN; simp [seqIndex?]; try omega
  unfold qUp
  rw [this]
  simp
theorem up_1 {e d0 : D} {Q : DEnv → Prop} : qUp m 1 e ρ Q a (d0 :: d :: ds) = Q (ρ.set m (.l a (d0 :: e :: ds))) := by
  have : ixN (d0 :: d :: ds).length 1 = some 1 := by unfold ixN; simp [seqIndex?]; try omega
  unfold qUp
  rw [this]
  simp
def qSx3 (n : Nat) (Q : DEnv → Prop) (d : D) (x : Rs) : CtR := fun y ρ => match x, y with
  | .b k, .v (.int i) => qOwn (qUp k i d ρ Q) ρ[k]?
  | _, _ => False
def qSx2 (ti : TD) (Q : DEnv → Prop) (E : EX) (d : D) : CtR := fun x ρ => ti ρ (qSx3 0 Q d x) E
def qSx (to ti : TD) (Q : DEnv → Prop) (E : EX) : CtR := fun r ρ => match r with
  | .v d => to ρ (qSx2 ti Q E d) E
  | .f _ ds => to ρ (qSx2 ti Q E (.lst ds)) E
  | _ => False
theorem w_setIx : dSetIx to ti te F ρ = te ρ (qSx to ti F.nx F.ex) F.ex := by
  have h3 : ∀ d x, (fun (y : Rs) (ρ3 : DEnv) => match x, y with | .b k, .v (.int n) => (match ρ3[k]? with | some (.l a ds) => (match ixN ds.length n with | some j => F.nx (ρ3.set k (.l a (ds.set j d))) | none => False) | _ => False) | _, _ => False) = qSx3 0 F.nx d x := by
    intro d x
    funext y ρ3
    cases x with
    | v d => rfl
    | f a ds => rfl
    | b k =>
      cases y with
      | f a ds => rfl
      | b k => rfl
      | v d =>
        cases d <;> try rfl
        simp only [qSx3]
        rcases ρ3[k]? with _ | s
        · rfl
        · cases s with
          | no => rfl
          | d a ep kvs => rfl
          | o kd C dx x a ds => rfl
          | v d => rfl
          | l a ds =>
            rename_i n
            simp only [qOwn, qUp]
            cases ixN ds.length n <;> simp
  rw [dSetIx_eq]
  congr 1
  funext r ρ1
  cases r with
  | v d => simp only [frz]; exact congrArg (fun k => to ρ1 k F.ex) (by funext x ρ2; exact congrArg (fun k => ti ρ2 k F.ex) (h3 d x))
  | f a ds => simp only [frz]; exact congrArg (fun k => to ρ1 k F.ex) (by funext x ρ2; exact congrArg (fun k => ti ρ2 k F.ex) (h3 (.lst ds) x))
  | b i => rfl
theorem w_qSx_v {Q : DEnv → Prop} : qSx to ti Q E (.v d) ρ = to ρ (qSx2 ti Q E d) E := rfl
theorem w_qSx_f {Q : DEnv → Prop} : qSx to ti Q E (.f a ds) ρ = to ρ (qSx2 ti Q E (.lst ds)) E := rfl
theorem w_qSx2 {Q : DEnv → Prop} : qSx2 ti Q E d x ρ = ti ρ (qSx3 0 Q d x) E := rfl
theorem w_qSx3 {Q : DEnv → Prop} : qSx3 0 Q d (.b m) (.v (.int i)) ρ = qOwn (qUp m i d ρ Q) ρ[m]? := rfl
def qApp (m : Nat) (d : D) (ρ : DEnv) (P : CtR) : Addr → List D → Prop := fun a ds => ds.length ≤ 1000000 ∧ P (.v .non) (ρ.set m (.l a (ds ++ [d])))
theorem w_app_v : mApp (.b m) [.v d] ρ P = qOwn (qApp m d ρ P) ρ[m]? := by
  rw [mApp_b]
  rcases ρ[m]? with _ | s
  · rfl
  · cases s <;> rfl
theorem w_app_f : mApp (.b m) [.f a ds] ρ P = qOwn (qApp m (.lst ds) ρ P) ρ[m]? := by
  rw [mApp_b]
  rcases ρ[m]? with _ | s
  · rfl
  · cases s <;> rfl
theorem w_qApp : qApp m d ρ P a ds = (ds.length ≤ 1000000 ∧ P (.v .non) (ρ.set m (.l a (ds ++ [d])))) := rfl
def qPop (m : Nat) (i : Int) (ρ : DEnv) (P : CtR) : Addr → List D → Prop := fun a ds => (-(2 ^ 63) ≤ i ∧ i < 2 ^ 63) ∧ ∃ k d, seqIndex? i ds.length = some k ∧ ds[k]? = some d ∧ P (.v d) (ρ.set m (.l a (ds.eraseIdx k)))
theorem w_popAt : mPopAt (.b m) [.v (.int i)] ρ P = qOwn (qPop m i ρ P) ρ[m]? := by
  rw [mPopAt_b]
  rcases ρ[m]? with _ | s
  · rfl
  · cases s <;> rfl
def qPop0 (m : Nat) (ρ : DEnv) (P : CtR) : Addr → List D → Prop := fun a ds => ∃ d, ds[ds.length - 1]? = some d ∧ P (.v d) (ρ.set m (.l a ds.dropLast))
theorem w_pop : mPop (.b m) [] ρ P = qOwn (qPop0 m ρ P) ρ[m]? := by
  unfold mPop
  apply propext
  cases h : ρ[m]? with
  | none => simp [qOwn, h]
  | some s =>
    cases s with
    | no => simp [qOwn, h]
    | d a ep kvs => simp [qOwn, h]
    | o kd C dx x a ds => simp [qOwn, h]
    | v d => simp [qOwn, h]
    | l a ds =>
      simp only [qOwn, qPop0]
      constructor
      · rintro ⟨i, a', ds', d, e1, e2, _, e3, p⟩
        cases e1
        rw [h] at e2
        cases e2
        exact ⟨d, e3, p⟩
      · rintro ⟨d, e3, p⟩
        exact ⟨_, _, _, d, rfl, h, trivial, e3, p⟩
theorem w_bm {T : String} : dBM T md to tr ρ P E = to ρ (fun x ρ1 => tyD T (dat ρ1 x) ∧ tr ρ1 (fun rs ρ2 => md x rs ρ2 P) E) E := rfl
def qBm2 (md : RMd) (P : CtR) (x : Rs) : CtL := fun rs ρ => md x rs ρ P
def qBm (T : String) (md : RMd) (tr : TAd) (P : CtR) (E : EX) : CtR := fun x ρ => tyD T (dat ρ x) ∧ tr ρ (qBm2 md P x) E
theorem w_bm' {T : String} : dBM T md to tr ρ P E = to ρ (qBm T md tr P E) E := rfl
theorem w_qBm {T : String} : qBm T md tr P E x ρ = (tyD T (dat ρ x) ∧ tr ρ (qBm2 md P x) E) := rfl
theorem w_qBm2 : qBm2 md P x rs ρ = md x rs ρ P := rfl
def qBm0 (T : String) (md : RMd) (P : CtR) : CtR := fun x ρ => tyD T (dat ρ x) ∧ md x [] ρ P
theorem w_bm0 {T : String} : dBM0 T md to ρ P E = to ρ (qBm0 T md P) E := rfl
theorem w_qBm0 {T : String} : qBm0 T md P x ρ = (tyD T (dat ρ x) ∧ md x [] ρ P) := rfl
theorem ty_s : tyD "str" (.str l) = True := by simp [tyD]
theorem ty_l : tyD "list" (.lst ds) = True := by simp [tyD]
/-! slices -/
def qSome (P : CtO) : Int → DEnv → Prop := fun i ρ => P (some i) ρ
theorem w_some : dSome t ρ PO E = t ρ (qI (qSome PO)) E := dSome_eq
theorem w_qSome : qSome PO i ρ = PO (some i) ρ := rfl
theorem w_no : dNo ρ PO E = PO none ρ := rfl
def qSl3 (sl : RSd) (P : CtR) (x : Rs) (lo : Option Int) : CtO := fun hi ρ => sl x lo hi ρ P
def qSl2 (sl : RSd) (th : TOd) (P : CtR) (E : EX) (x : Rs) : CtO := fun lo ρ => th ρ (qSl3 sl P x lo) E
def qSlc (sl : RSd) (tl th : TOd) (P : CtR) (E : EX) : CtR := fun x ρ => tl ρ (qSl2 sl th P E x) E
theorem w_slc : dSl sl te tl th ρ P E = te ρ (qSlc sl tl th P E) E := rfl
theorem w_qSlc : qSlc sl tl th P E x ρ = tl ρ (qSl2 sl th P E x) E := rfl
theorem w_qSl2 : qSl2 sl th P E x lo ρ = th ρ (qSl3 sl P x lo) E := rfl
theorem w_qSl3 : qSl3 sl P x lo hi ρ = sl x lo hi ρ P := rfl
def qCut (lo hi : Option Int) (P : CtR) (ρ : DEnv) : List D → Prop := fun ds => ∀ a, P (.f a (cut ds lo hi)) ρ
theorem w_sL : sL x lo hi ρ P = qLs (dat ρ x) (qCut lo hi P ρ) := by
  rw [sL_eq]; rfl
theorem w_qCut : qCut lo hi P ρ ds = ∀ a, P (.f a (cut ds lo hi)) ρ := rfl
/-! calls of built-ins -/
def qCB (rd : RCd) (P : CtR) : CtL := fun rs ρ => rd rs ρ P
theorem w_cb : dCB rd tr ρ P E = tr ρ (qCB rd P) E := rfl
theorem w_qCB : qCB rd P rs ρ = rd rs ρ P := rfl
def qLen (d : D) (P : CtR) (ρ : DEnv) : Prop := match lenD d with | some n => P (.v (.int (n : Int))) ρ | none => False
theorem w_len : cLen [x] ρ P = qLen (dat ρ x) P ρ := cLen_v
theorem len_l : qLen (.lst ds) P ρ = P (.v (.int (ds.length : Int))) ρ := rfl
theorem len_t : qLen (.tup ds) P ρ = P (.v (.int (ds.length : Int))) ρ := rfl
theorem len_s : qLen (.str l) P ρ = (l.length ≤ 1000000 ∧ P (.v (.int (l.length : Int))) ρ) := by
  unfold qLen
  simp only [lenD]
  split
  · rename_i h
    split at h
    · cases h; rename_i hl; simp [hl]
    · cases h
  · rename_i h
    split at h
    · cases h
    · rename_i hl; simp [hl]
def qTo (P : CtR) (ρ : DEnv) : List D → Prop := fun ds => P (.v (.tup ds)) ρ
def qLo (P : CtR) (ρ : DEnv) : List D → Prop := fun ds => ∀ a, P (.f a ds) ρ
theorem w_tupOf : cTupOf [x] ρ P = qLs (dat ρ x) (qTo P ρ) := by rw [cTupOf_eq]; rfl
theorem w_listOf : cListOf [x] ρ P = qSeq (dat ρ x) (qLo P ρ) := by rw [cListOf_eq]; rfl
theorem w_qTo : qTo P ρ ds = P (.v (.tup ds)) ρ := rfl
theorem w_qLo : qLo P ρ ds = ∀ a, P (.f a ds) ρ := rfl
def qAll (P : CtR) (ρ : DEnv) : List D → Prop := fun ds => ∃ bs : List Bool, ds = bs.map D.bl ∧ P (.v (.bl (bs.all id))) ρ
theorem w_all : cAll [x] ρ P = qLs (dat ρ x) (qAll P ρ) := by
  unfold cAll qLs
  apply propext
  cases h : dat ρ x <;> simp [qAll, h]
theorem all_i {bs : List Bool} (e : ds = bs.map D.bl) (p : P (.v (.bl (bs.all id))) ρ) : qAll P ρ ds := ⟨bs, e, p⟩
def qSort (P : CtR) (ρ : DEnv) : List D → Prop := fun ds => ∃ ns : List Int, ds = ns.map D.int ∧ ns.length < 64 ∧ ∀ ns' : List Int, ns'.Perm ns → ns'.Pairwise (· ≤ ·) → ∀ a, P (.f a (ns'.map D.int)) ρ
def qIsi (g : D → Bool) (P : CtR) : CtR := fun r ρ => P (.v (.bl (g (dat ρ r)))) ρ
theorem w_isi {g : D → Bool} : dIsi g t ρ P E = t ρ (qIsi g P) E := rfl
theorem w_qIsi {g : D → Bool} : qIsi g P x ρ = P (.v (.bl (g (dat ρ x)))) ρ := rfl
end
end DL

/-! sorted(a tuple of ints) -/
namespace SrtO
open PySem PyProof.Rows Srt
section
variable {prog : Program} {w : World} {A : Around} {E : Value → Shared → Prop} {s : Shared}
theorem collectT {l : Addr} {vs : List Value} {Q : List Value → Shared → Prop} (hl : s.heap.IsTuple l vs.toArray)
    (h : Q vs { s with heap := (s.heap.push (seqObj "list" #[] 0)).update s.heap.objs.size (Obj.mapSeq (· ++ vs.toArray)) }) (hsz : vs.length ≤ sizeLine) :
    wpAny (model prog w) A (collect (.ref l)) Q E s := by
  obtain ⟨o, ho, hc, n, hd⟩ := id hl
  unfold collect
  refine wpAny_bind (wpAny_runValue (codeAny_builtin entry_proto_collect' ?_))
  show wpAny _ _ (do again (.builtin "list.__iadd__" ⟨[← newList [], .ref l], []⟩)) _ _ s
  refine wpAny_bind (wpAny_newList (wpAny_pure ⟨Code.quiet_builtin _ (by decide +kernel), codeAny_builtin entry_list_iadd' ?_⟩))
  show wpAny _ _ (Builtin.List.listExtendWith (.ref s.heap.objs.size) (.ref l) (.ref s.heap.objs.size)) _ _ { s with heap := s.heap.push (seqObj "list" #[] 0) }
  unfold Builtin.List.listExtendWith
  have ho' : (s.heap.push (seqObj "list" #[] 0)).get? l = some o := Heap.get?_push_of_some _ ho
  refine wpAny_bind (wpAny_typeOf (T := "tuple") ⟨o, ho', hc⟩ ?_)
  have ht : (Value.type "tuple" == Value.type "tuple") = true := by rfl
  rw [if_pos (by rw [ht]; simp)]
  refine wpAny_bind (listItems_at ho' hd ?_)
  refine wpAny_bind (listItems_at (xs := #[]) (n := 0) (Heap.get?_push_size _ rfl) rfl ?_)
  rw [if_neg (by simp)]
  refine wpAny_bind (listUpdate_at (xs := #[]) (n := 0) (Heap.get?_push_size _ rfl) rfl ?_ (Nat.zero_le _) (by show (#[] ++ vs.toArray).size ≤ sizeLine + 1; simp only [Array.size_append, List.size_toArray, List.length_nil]; omega))
  refine wpAny_pure ?_
  show wpAny (model prog w) A (do
      let o ← load s.heap.objs.size
      match o.data with
      | .seq xs _ => pure xs.toList
      | _ => unsupported "internal:collect") Q E { s with heap := (s.heap.push (seqObj "list" #[] 0)).update s.heap.objs.size (Obj.mapSeq (· ++ vs.toArray)) }
  refine wpAny_bind (wpAny_load (get?_update_seq (Heap.get?_push_size _ rfl) _) ?_)
  show wpAny _ _ (pure ((#[] : Array Value) ++ vs.toArray).toList) Q E _
  rw [show ((#[] : Array Value) ++ vs.toArray).toList = vs by simp]
  exact wpAny_pure h
theorem sorted_ordT {l : Addr} {vs : List Value} {ltv : Value → Value → Bool} {Q : Value → Shared → Prop} (O : Swo ltv) (hl : s.heap.IsTuple l vs.toArray) (hz : vs.length ≤ sizeLine)
    (hS : 2 ≤ vs.length → ∀ (h₁ : Heap) (a : Addr), h₁.get? a = some (seqObj "list" vs.toArray 0) → (∀ b o, s.heap.get? b = some o → b ≠ a ∧ h₁.get? b = some o) → SortableO prog w A.in1.in1 { s with heap := h₁ } a vs ltv)
    (h : ∀ out : List Value, Srtd ltv out → Stb ltv out vs → Q (.ref (s.heap.objs.size + 1)) { s with heap := sortedAll s.heap vs out.toArray }) :
    wpAny (model prog w) A (call (.builtin "sorted") [.ref l]) Q E s := by
  refine Calls.call_function_entry kind_sorted plain_sorted entry_sorted (args_sorted1 _) ?_
  unfold Builtin.«sorted»
  refine wpAny_bind (m := checkCount "sorted" 1 1 _) (wpAny_pure ?_)
  refine wpAny_bind (collectT hl ?_ hz)
  refine wpAny_bind (wpAny_newList ?_ hz)
  have hsz : ((s.heap.push (seqObj "list" #[] 0)).update s.heap.objs.size (Obj.mapSeq (· ++ vs.toArray))).objs.size = s.heap.objs.size + 1 := by
    rw [Heap.size_update, size_push']
  have hoL : (((s.heap.push (seqObj "list" #[] 0)).update s.heap.objs.size (Obj.mapSeq (· ++ vs.toArray))).push (seqObj "list" vs.toArray 0)).get? (s.heap.objs.size + 1) = some (seqObj "list" vs.toArray 0) := by
    rw [← hsz]; exact Heap.get?_push_size _ rfl
  have keep : ∀ b o, s.heap.get? b = some o → b ≠ s.heap.objs.size + 1 ∧ (((s.heap.push (seqObj "list" #[] 0)).update s.heap.objs.size (Obj.mapSeq (· ++ vs.toArray))).push (seqObj "list" vs.toArray 0)).get? b = some o := fun b o q => by
    have hlt : b < s.heap.objs.size := Heap.lt_size q
    refine ⟨Nat.ne_of_lt (Nat.lt_succ_of_lt hlt), Heap.get?_push_of_some _ ?_⟩
    rw [Heap.get?_update_ne _ _ _ _ (Nat.ne_of_lt hlt)]
    exact Heap.get?_push_of_some _ q
  show wpAny _ _ _ _ _ { s with heap := ((s.heap.push (seqObj "list" #[] 0)).update s.heap.objs.size (Obj.mapSeq (· ++ vs.toArray))).push (seqObj "list" vs.toArray 0) }
  rw [hsz]
  refine wpAny_bind (wpAny_holding (wpAny_call_entry slot_list_sort ⟨_, hoL, rfl⟩ entry_list_sort (list_sort_ord O hoL hz (fun h2 => hS h2 _ _ hoL keep) fun out hs hb => ⟨_, rfl, ?_⟩) (args_list_sort _)))
  exact wpAny_pure ⟨_, rfl, h out hs hb⟩
end
end SrtO
namespace DL
open PySem L2
variable [WW]
open PySem.Spec PyProof.Rows in
theorem cr_sortedSq {X : Cx} : CallR X (.builtin "sorted") (fun vs H Q => ∃ (a : Addr) (ns : List Int), vs = [V.ref a] ∧ (SqL X.K H a (ns.map V.int) ∨ SqT X.K H a (ns.map V.int)) ∧
    ∀ (ns' : List Int) (p : Addr), ns'.Perm ns → ns'.Pairwise (· ≤ ·) → H p = none → Q (.ref p) (upd H p (.lst (ns'.map V.int)))) := by
  intro pins s σ H vs us Q I r h
  obtain ⟨a, ns, rfl, hs, q⟩ := h
  rcases hs with hs | hs
  · exact cr_sortedI pins s σ H _ us Q I r ⟨a, ns, rfl, hs, q⟩
  obtain ⟨its, rv, hl, hz⟩ := I.tuple hs
  rw [Vals.ref1 r]
  have hi := rv.ints
  refine SrtO.sorted_ordT SrtO.swo_int hl (by rw [← rv.length]; exact hz) (fun h2 h₁ a' _ _ => SrtO.ints_sortable hi h2) fun out h1 h2 => ?_
  obtain ⟨k1, k2, k3⟩ := SrtO.ints_out hi h1 h2
  obtain ⟨ep, he'⟩ := PyProof.Rows.sortedAll_at s.heap its out.toArray
  have hlen : ((out.map SrtO.iv).map V.int).length ≤ sizeLine := by
    rw [List.length_map, k2.length_eq]
    rw [List.length_map] at hz
    exact hz
  exact ⟨.ref _, upd H (s.heap.objs.size + 1) (.lst ((out.map SrtO.iv).map V.int)), I.laid (t' := s.toks) (fun _ _ => PyProof.Rows.sortedAll_old) (Nat.le_succ _) ⟨hlen, out, ep, vals_of_ints k1, he'⟩, rfl, q _ _ k2 k3 (I.hok.fresh (Nat.le_succ _))⟩
/-- sorted of ints -/
def cSortQ : RCd := fun rs ρ P => ∃ (r : Rs) (ns : List Int), rs = [r] ∧ (dat ρ r = .lst (ns.map D.int) ∨ dat ρ r = .tup (ns.map D.int)) ∧ ∀ ns' : List Int, ns'.Perm ns → ns'.Pairwise (· ≤ ·) → ∀ a, P (.f a (ns'.map D.int)) ρ
theorem cd_sortQ {K : PySem.W.Frag} : CallD K (fun vs H Q => ∃ (a : Addr) (ns : List Int), vs = [V.ref a] ∧ (SqL K H a (ns.map V.int) ∨ SqT K H a (ns.map V.int)) ∧
    ∀ (ns' : List Int) (p : Addr), ns'.Perm ns → ns'.Pairwise (· ≤ ·) → H p = none → Q (.ref p) (upd H p (.lst (ns'.map V.int)))) cSortQ := by
  intro U σ ρ H0 H P Q rs vs z h k
  obtain ⟨r, ns, e, hd, p⟩ := h
  obtain ⟨v, ev, q⟩ := rs1 z e
  subst ev
  have w := z.rep.dw q
  have fin : ∀ (ns' : List Int) (p : Addr), ns'.Perm ns → ns'.Pairwise (· ≤ ·) → H p = none → Q (.ref p) (upd H p (.lst (ns'.map V.int))) := fun ns' p' h1 h2 hp => by
    obtain ⟨A, q'⟩ := z.rep.newLst (ds := ns'.map D.int) (vs := ns'.map V.int) hp ((dqs_flat ints_map.2).mpr ints_map.1.symm)
    exact k _ _ _ _ (p ns' h1 h2 p') A q'
  rcases hd with hd | hd
  · rw [hd] at w
    obtain ⟨a, xs, ev, z1, z2⟩ := w
    subst ev
    rw [(dqs_flat ints_map.2).mp z2, ints_map.1] at z1
    exact ⟨a, ns, rfl, .inl z1, fin⟩
  · rw [hd] at w
    obtain ⟨a, xs, ev, z1, z2⟩ := w
    subst ev
    rw [(dqs_flat ints_map.2).mp z2, ints_map.1] at z1
    exact ⟨a, ns, rfl, .inr z1, fin⟩
section
variable {ρ : DEnv} {P : CtR} {x : Rs} {ds : List D} {l : List Nat} {c : Nat} {i : Int} {E : EX} {F : DEnds} {Q : DEnv → Prop}
def qSort' (P : CtR) (ρ : DEnv) : List D → Prop := fun ds => ∃ ns : List Int, ds = ns.map D.int ∧ ∀ ns' : List Int, ns'.Perm ns → ns'.Pairwise (· ≤ ·) → ∀ a, P (.f a (ns'.map D.int)) ρ
theorem w_sort : cSortQ [x] ρ P = qSeq (dat ρ x) (qSort' P ρ) := by
  unfold cSortQ qSeq
  apply propext
  cases h : dat ρ x <;> simp [qSort', h]
theorem sort_i {ns : List Int} (e : ds = ns.map D.int) (p : ∀ ns' : List Int, ns'.Perm ns → ns'.Pairwise (· ≤ ·) → ∀ a, P (.f a (ns'.map D.int)) ρ) : qSort' P ρ ds := ⟨ns, e, p⟩
/-! text.count(sign) -/
abbrev rCount : V → List V → Hp → VK → Prop := fun x xs H Q => ∃ a b, x = .str a ∧ xs = [.str b] ∧ Q (.int (Txt.count a b)) H
def mCount : RMd := fun x rs ρ P => ∃ l c, x = .v (.str l) ∧ rs = [.v (.str [c])] ∧ P (.v (.int (l.count c))) ρ
theorem count_sign (l : List Nat) (c : Nat) : Txt.count ⟨l.toArray⟩ ⟨#[c]⟩ = (l.count c : Int) := by
  rw [PyProof.Rows.count_cnt]
  show PyProof.Rows.cnt c l.toArray.toList = _
  rw [List.toList_toArray]
  induction l with
  | nil => rfl
  | cons a l ih =>
    rw [PyProof.Rows.cnt_cons, ih, List.count_cons]
    by_cases e : a = c
    · subst e; simp; omega
    · simp [e]
theorem md_count {K : PySem.W.Frag} : MtD K rCount mCount := by
  intro U σ ρ H0 H P Q x v rs vs qx z h k
  obtain ⟨l, c, rfl, er, p⟩ := h
  obtain ⟨w, ew, q⟩ := rs1 z er
  subst ew
  have q' := q.vflat rfl
  have qx' := qx.vflat rfl
  subst q'; subst qx'
  refine ⟨⟨l.toArray⟩, ⟨#[c]⟩, rfl, rfl, ?_⟩
  rw [count_sign]
  exact k _ _ _ _ p z.rep.refl (RepF.flat (.int _) rfl)
theorem w_count : mCount (.v (.str l)) [.v (.str [c])] ρ P = P (.v (.int (l.count c))) ρ := by
  unfold mCount
  apply propext
  constructor
  · rintro ⟨_, _, e1, e2, p⟩
    cases e1; cases e2
    exact p
  · exact fun p => ⟨_, _, rfl, rfl, p⟩
/-! iterations -/
def qIt (P : CtI) (ds : List D) : DEnv → Prop := fun ρ => P ds (fun _ => True) ρ
def qIS (P : CtI) : CtR := fun r ρ => match r with | .v (.str l) => P (chs l) (fun _ => True) ρ | _ => False
def qIT (P : CtI) : CtR := fun r ρ => match r with | .v (.tup ds) => P ds (fun _ => True) ρ | _ => False
def qILd (P : CtI) (st : DEnv → Prop) (ρ : DEnv) : List D → Prop := fun ds => P ds st ρ
def qIL (P : CtI) : CtR := fun r ρ => qLs (dat ρ r) (qILd P (stR ρ r) ρ)
variable {PI : CtI} {t : TD} {tr : TAd} {st : DEnv → Prop}
theorem w_diS : diS t ρ PI E = t ρ (qIS PI) E := diS_eq
theorem w_diT : diT t ρ PI E = t ρ (qIT PI) E := diT_eq
theorem w_diL : diL t ρ PI E = t ρ (qIL PI) E := by
  rw [diL_eq]
  congr 1
theorem w_qIS : qIS PI (.v (.str l)) ρ = PI (chs l) (fun _ => True) ρ := rfl
theorem w_qIT : qIT PI (.v (.tup ds)) ρ = PI ds (fun _ => True) ρ := rfl
theorem w_qIL : qIL PI x ρ = qLs (dat ρ x) (qILd PI (stR ρ x) ρ) := rfl
theorem w_qILd : qILd PI st ρ ds = PI ds st ρ := rfl
def qR1 (P : CtI) : CtL := fun rs ρ => match rs with | [.v (.int j)] => (-(2 ^ 62) ≤ j ∧ j < 2 ^ 62) ∧ P (rgD 0 j.toNat) (fun _ => True) ρ | _ => False
def qR2 (P : CtI) : CtL := fun rs ρ => match rs with | [.v (.int i), .v (.int j)] => (-(2 ^ 62) ≤ i ∧ i < 2 ^ 62 ∧ -(2 ^ 62) ≤ j ∧ j < 2 ^ 62) ∧ P (rgD i (j - i).toNat) (fun _ => True) ρ | _ => False
theorem w_diR1 : diR1 tr ρ PI E = tr ρ (qR1 PI) E := diR1_eq
theorem w_diR2 : diR2 tr ρ PI E = tr ρ (qR2 PI) E := diR2_eq
theorem w_qR1 {j : Int} : qR1 PI [.v (.int j)] ρ = ((-(2 ^ 62) ≤ j ∧ j < 2 ^ 62) ∧ PI (rgD 0 j.toNat) (fun _ => True) ρ) := rfl
theorem w_qR2 {i j : Int} : qR2 PI [.v (.int i), .v (.int j)] ρ = ((-(2 ^ 62) ≤ i ∧ i < 2 ^ 62 ∧ -(2 ^ 62) ≤ j ∧ j < 2 ^ 62) ∧ PI (rgD i (j - i).toNat) (fun _ => True) ρ) := rfl
/-- a for loop at its place -/
def forB (g : TGd) (tb : TSd) (F : DEnds) : CtI := fun ds st ρ => ∃ I : Nat → DEnv → Prop, I 0 ρ ∧
  (∀ (i : Nat) d ρ', ds[i]? = some d → I i ρ' → st ρ' ∧ g d ρ' (fun ρ2 => tb { F with nx := I (i + 1), ct := I (i + 1), bk := F.nx } ρ2)) ∧ (∀ ρ', I ds.length ρ' → st ρ' ∧ F.nx ρ')
variable {wi : TId} {g : TGd} {tb : TSd} {te : TD} {tt : TTd} {nt : NT} {vs : List Nat}
theorem w_for : dFor wi g tb F ρ = wi ρ (forB g tb F) F.ex := rfl
def qTurn (tb : TSd) (F : DEnds) : DEnv → Prop := fun ρ => tb F ρ
theorem w_qTurn : qTurn tb F ρ = tb F ρ := rfl
theorem for_i (I : Nat → DEnv → Prop) (h0 : I 0 ρ) (turn : ∀ (i : Nat) d ρ', ds[i]? = some d → I i ρ' → st ρ' ∧ g d ρ' (qTurn tb ⟨I (i + 1), F.rt, F.ex, F.nx, I (i + 1)⟩)) (done : ∀ ρ', I ds.length ρ' → st ρ' ∧ F.nx ρ') : forB g tb F ds st ρ := ⟨I, h0, turn, done⟩
def qWhile (tb : TSd) (F : DEnds) (I : Nat → DEnv → Prop) (m : Nat) : CtB := fun b ρ => if b = true then tb ⟨fun ρ2 => ∃ m', m' < m ∧ I m' ρ2, F.rt, F.ex, F.nx, fun ρ2 => ∃ m', m' < m ∧ I m' ρ2⟩ ρ else F.nx ρ
def lessI (I : Nat → DEnv → Prop) (m : Nat) : DEnv → Prop := fun ρ2 => ∃ m', m' < m ∧ I m' ρ2
theorem w_lessI {I : Nat → DEnv → Prop} {m : Nat} : lessI I m ρ = ∃ m', m' < m ∧ I m' ρ := rfl
theorem w_qWhile {I : Nat → DEnv → Prop} {m : Nat} {b : Bool} : qWhile tb F I m b ρ = if b = true then tb ⟨lessI I m, F.rt, F.ex, F.nx, lessI I m⟩ ρ else F.nx ρ := rfl
theorem while_i (I : Nat → DEnv → Prop) (m : Nat) (h0 : I m ρ) (turn : ∀ m ρ', I m ρ' → tt ρ' (qWhile tb F I m) F.ex) : dWhile tt tb F ρ := ⟨I, ⟨m, h0⟩, turn⟩
/-- a comprehension at its place -/
def lcB (nt : NT) (vs : List Nat) (tt : TTd) (te : TD) (P : CtR) : CtI := fun ds st ρ1 => noLs vs ρ1 ∧ ds.length ≤ 1000000 ∧ ∃ I : Nat → List D → DEnv → Prop, I 0 [] ρ1 ∧
  (∀ (i : Nat) d acc ρ', ds[i]? = some d → I i acc ρ' → acc.length ≤ i → st ρ' ∧ ∃ ρc, ntD nt d (wipeD ρ' vs) = some ρc ∧ tt ρc (fun b ρ3 => if b = true then te ρ3 (fun r ρ4 => ∃ d', frz r = some d' ∧ I (i + 1) (acc ++ [d']) (rst ρ' ρ4 vs)) EF else I (i + 1) acc (rst ρ' ρ3 vs)) EF) ∧
  ∀ acc ρ', I ds.length acc ρ' → st ρ' ∧ ∀ a, P (.f a acc) ρ'
theorem w_lc : dLc wi nt vs tt te ρ P E = wi ρ (lcB nt vs tt te P) E := rfl
def lcT2 (ρ1 : DEnv) (vs : List Nat) (o : Option D) : CtR := fun r ρ4 => ∃ d', frz r = some d' ∧ rst ρ1 ρ4 vs = ρ1 ∧ some d' = o
def lcT (te : TD) (ρ1 : DEnv) (vs : List Nat) (o : Option D) : CtB := fun b ρ3 => if b = true then te ρ3 (lcT2 ρ1 vs o) EF else rst ρ1 ρ3 vs = ρ1 ∧ o = none
theorem w_lcT2_v {ρ1 ρ4 : DEnv} {d : D} {o : Option D} : lcT2 ρ1 vs o (.v d) ρ4 = (rst ρ1 ρ4 vs = ρ1 ∧ some d = o) := by simp [lcT2, frz]
theorem w_lcT {ρ1 ρ3 : DEnv} {b : Bool} {o : Option D} : lcT te ρ1 vs o b ρ3 = if b = true then te ρ3 (lcT2 ρ1 vs o) EF else rst ρ1 ρ3 vs = ρ1 ∧ o = none := rfl
theorem lcT_eq {ρ1 : DEnv} {A : List D} {o : Option D} : (fun (b : Bool) (ρ3 : DEnv) => if b = true then te ρ3 (fun r ρ4 => ∃ d', frz r = some d' ∧ rst ρ1 ρ4 vs = ρ1 ∧ A ++ [d'] = A ++ o.toList) EF else rst ρ1 ρ3 vs = ρ1 ∧ A = A ++ o.toList) = lcT te ρ1 vs o := by
  funext b ρ3
  have e1 : (fun (r : Rs) (ρ4 : DEnv) => ∃ d', frz r = some d' ∧ rst ρ1 ρ4 vs = ρ1 ∧ A ++ [d'] = A ++ o.toList) = lcT2 ρ1 vs o := by
    funext r ρ4
    unfold lcT2
    apply propext
    have : ∀ d', (A ++ [d'] = A ++ o.toList) = (some d' = o) := fun d' => by cases o <;> simp
    simp only [this]
  rw [e1]
  unfold lcT
  have : (A = A ++ o.toList) = (o = none) := by cases o <;> simp
  rw [this]
/-- a comprehension that leaves the slots as they are: f tells what becomes of an item -/
theorem lc_i {ρ1 : DEnv} {P : CtR} (f : D → Option D) (hno : noLs vs ρ1) (hlen : ds.length ≤ 1000000) (hst : st ρ1) (h : ∀ (i : Nat) d, ds[i]? = some d → ∃ ρc, ntD nt d (wipeD ρ1 vs) = some ρc ∧ tt ρc (lcT te ρ1 vs (f d)) EF) (k : ∀ a, P (.f a (ds.filterMap f)) ρ1) : lcB nt vs tt te P ds st ρ1 := by
  refine ⟨hno, hlen, lc_pure f hst (fun i d A e => ?_) k⟩
  rw [lcT_eq]
  exact h i d e
end
end DL

namespace DL
open PySem L2
variable [WW]
theorem divW_i {i n : Int} (h : 0 < n) (h' : n < 18446744073709551616) : CDivW i n := wide_div (b := 64) h (by
  have : (2 : Nat) ^ 64 = 18446744073709551616 := by decide
  rw [this]; omega) (by decide) (by decide)
theorem mul_r {i j : Int} (h : -18446744073709551616 < j) (h' : j < 18446744073709551616) : CMul i j := .inr (by
  have : (2 : Int) ^ 64 = 18446744073709551616 := by decide
  rw [this]; exact ⟨h, h'⟩)
theorem mul_l {i j : Int} (h : -18446744073709551616 < i) (h' : i < 18446744073709551616) : CMul i j := .inl (by
  have : (2 : Int) ^ 64 = 18446744073709551616 := by decide
  rw [this]; exact ⟨h, h'⟩)
theorem inD_nil {d : D} : inD d [] = false := rfl
theorem inD_s_cons {l a : List Nat} {ds : List D} : inD (.str l) (.str a :: ds) = (decide (l = a) || inD (.str l) ds) := by
  show (decide (a = l) || inD (.str l) ds) = _
  by_cases e : a = l
  · subst e; simp
  · have : ¬ l = a := fun z => e z.symm
    simp [e, this]
theorem inD_i_cons {l a : Int} {ds : List D} : inD (.int l) (.int a :: ds) = (decide (l = a) || inD (.int l) ds) := by
  show (decide (a = l) || inD (.int l) ds) = _
  by_cases e : a = l
  · subst e; simp
  · have : ¬ l = a := fun z => e z.symm
    simp [e, this]
theorem all_f_nil : ([] : List D).all flat = true := rfl
theorem all_f_s {a : List Nat} {ds : List D} : (D.str a :: ds).all flat = ds.all flat := rfl
theorem all_f_i {a : Int} {ds : List D} : (D.int a :: ds).all flat = ds.all flat := rfl
section
variable {P : CtR} {ρ : DEnv} {ds : List D} {i : Int} {l : List Nat}
/-- an item in reach -/
theorem at_all (h0 : 0 ≤ i) (h1 : i < ds.length) (h : ∀ d ∈ ds, P (.v d) ρ) : qAt i P ρ ds := by
  have e : i = ((i.toNat : Nat) : Int) := by omega
  have hl : i.toNat < ds.length := by omega
  exact ⟨ds[i.toNat], atI_at e hl, h _ (List.getElem_mem hl)⟩
theorem at_map {α : Type} {g : α → D} {xs : List α} (h0 : 0 ≤ i) (h1 : i < xs.length) (h : ∀ x ∈ xs, P (.v (g x)) ρ) : qAt i P ρ (xs.map g) := by
  refine at_all h0 (by rw [List.length_map]; exact h1) fun d hd => ?_
  obtain ⟨x, hx, e⟩ := List.mem_map.mp hd
  subst e
  exact h x hx
theorem at_nth {α : Type} {g : α → D} {xs : List α} {n : Nat} {x : α} (hn : i = (n : Int)) (hx : xs[n]? = some x) (h : P (.v (g x)) ρ) : qAt i P ρ (xs.map g) := by
  refine ⟨g x, ?_, h⟩
  rw [hn]
  exact atI_nat (by rw [List.getElem?_map, hx]; rfl)
theorem atS_all (h0 : 0 ≤ i) (h1 : i < l.length) (h : ∀ c ∈ l, P (.v (.str [c])) ρ) : qAtS i P ρ l := by
  have e : i = ((i.toNat : Nat) : Int) := by omega
  have hl : i.toNat < l.length := by omega
  exact ⟨l[i.toNat], atI_at e hl, h _ (List.getElem_mem hl)⟩
theorem atS_nth {n c : Nat} (hn : i = (n : Int)) (hx : l[n]? = some c) (h : P (.v (.str [c])) ρ) : qAtS i P ρ l := ⟨c, by rw [hn]; exact atI_nat hx, h⟩
end
theorem rep2 {a : List Nat} : (List.replicate (Int.toNat 2) a).flatten = a ++ a := by
  show (List.replicate 2 a).flatten = _
  simp [List.replicate]
theorem rep3 {a : List Nat} : (List.replicate (Int.toNat 3) a).flatten = a ++ a ++ a := by
  show (List.replicate 3 a).flatten = _
  simp [List.replicate]
theorem seqIndex_nat {n len : Nat} (h : n < len) : seqIndex? (n : Int) len = some n := by
  unfold seqIndex?
  simp
  try omega
theorem erase_map {α : Type} {g : α → D} : ∀ {xs : List α} {n : Nat}, (xs.map g).eraseIdx n = (xs.eraseIdx n).map g
  | [], _ => rfl
  | _ :: _, 0 => rfl
  | x :: xs, n + 1 => by
    show g x :: (xs.map g).eraseIdx n = g x :: (xs.eraseIdx n).map g
    rw [erase_map]
theorem pop_nth {α : Type} {g : α → D} {xs : List α} {n m : Nat} {x : α} {i : Int} {P : CtR} {ρ : DEnv} {a : Addr} (hi : i = (n : Int)) (hx : xs[n]? = some x) (hl : n < 1000000) (h : P (.v (g x)) (ρ.set m (.l a ((xs.eraseIdx n).map g)))) : qPop m i ρ P a (xs.map g) := by
  obtain ⟨hn, _⟩ := List.getElem?_eq_some_iff.mp hx
  refine ⟨⟨by omega, by omega⟩, n, g x, ?_, by rw [List.getElem?_map, hx]; rfl, ?_⟩
  · rw [hi, List.length_map]; exact seqIndex_nat hn
  · rw [erase_map]; exact h
/-! slices within the ends -/
theorem sIx_in {n d : Nat} {i : Int} (h0 : 0 ≤ i) (h1 : i ≤ n) : HT.sIx n d (some i) = i.toNat := by
  show (if i < 0 then (i + (n : Int)).toNat else min i.toNat n) = _
  rw [if_neg (by omega)]
  omega
theorem cut_to {α : Type} {xs : List α} {i : Int} (h0 : 0 ≤ i) (h1 : i ≤ xs.length) : cut xs none (some i) = xs.take i.toNat := by
  unfold cut
  rw [sIx_in h0 h1]
  show (xs.drop 0).take (i.toNat - 0) = _
  rw [List.drop_zero, Nat.sub_zero]
theorem cut_from {α : Type} {xs : List α} {i : Int} (h0 : 0 ≤ i) (h1 : i ≤ xs.length) : cut xs (some i) none = xs.drop i.toNat := by
  unfold cut
  rw [sIx_in h0 h1]
  show (xs.drop i.toNat).take (xs.length - i.toNat) = _
  rw [List.take_of_length_le (by simp)]
theorem cut_btw {α : Type} {xs : List α} {i j : Int} (h0 : 0 ≤ i) (h1 : i ≤ xs.length) (h2 : 0 ≤ j) (h3 : j ≤ xs.length) : cut xs (some i) (some j) = (xs.drop i.toNat).take (j.toNat - i.toNat) := by
  unfold cut
  rw [sIx_in h0 h1, sIx_in h2 h3]
end DL

namespace DL
open PySem L2
variable [WW]
/-! a list that is given away: from now on it is only read -/
def frzD (i : Nat) (ρ : DEnv) : DEnv := match ρ[i]? with
  | some (.l _ ds) => ρ.set i (.v (.lst ds))
  | _ => ρ
def dFrz (i : Nat) (t : TSd) : TSd := fun D ρ => t D (frzD i ρ)
section
variable {K : PySem.W.Frag} {U : Addr → Prop} {H : Hp} {σ : St} {ρ : DEnv}
theorem Rep.frz (R : Rep K U H σ ρ) {i : Nat} {a : Addr} {ds : List D} (e : ρ[i]? = some (.l a ds)) : AftS K U ρ H (ρ.set i (.v (.lst ds))) σ H := by
  have hlt := (List.getElem?_eq_some_iff.mp e).1
  have sub := adrs_set_no ρ i (s := .v (.lst ds)) rfl
  have na : a ∉ adrs (ρ.set i (.v (.lst ds))) := fun z => by
    obtain ⟨k, es, ek, ea⟩ := adrs_at z
    by_cases q : i = k
    · subst q
      rw [List.getElem?_set_self hlt] at ek
      cases ek
      cases ea
    · rw [List.getElem?_set_ne q] at ek
      exact q (adrs_inj R.nd e ek rfl ea)
  have ha := mem_adrs e
  have m : Mo (Ow U ρ) (Ow U (ρ.set i (.v (.lst ds)))) H H := ⟨fun _ _ _ h => h, fun b z => .inl (z.imp id fun z => sub.subset z)⟩
  refine ⟨⟨Slots.mk (by rw [List.length_set]; exact R.slots.len) fun k s o h1 h2 => ?_, R.nd.sublist sub, R.uth, fun b z => R.dis b (sub.subset z)⟩, ⟨fun _ _ _ h => h, fun b z => .inl (sub.subset z), fun _ o h => ⟨o, h⟩⟩⟩
  by_cases q : i = k
  · subst q
    rw [List.getElem?_set_self hlt] at h1
    cases h1
    obtain ⟨o', e', ok⟩ := R.slots.get e
    rw [h2] at e'; cases e'
    obtain ⟨eo, xs, q1, q2⟩ := ok
    refine ⟨.ref a, eo, ?_⟩
    simp only [Dq]
    refine ⟨a, xs, rfl, .inl ⟨.inl q1, fun z => ?_⟩, m.dqs ds xs q2⟩
    rcases z with z | z
    · exact R.dis a ha z
    · exact na z
  · rw [List.getElem?_set_ne q] at h1
    obtain ⟨o', e', ok⟩ := R.slots.get h1
    rw [h2] at e'; cases e'
    cases s with
    | no => trivial
    | d a ep kvs => exact ⟨ok.1, ok.2.to m rfl⟩
    | o kd C dx x a ds => exact ⟨ok.1, ok.2.to m rfl⟩
    | v d => obtain ⟨v, ev, qv⟩ := ok; exact ⟨v, ev, m.dq d v qv⟩
    | l b es =>
      obtain ⟨eo, xs, q1, q2⟩ := ok
      exact ⟨eo, xs, q1, m.dqs es xs q2⟩
end
theorem ds_frz {X : Cx} {W : WX} {st : Stmt} {ts : TSd} (i : Nat) (h : DS X W st ts) : DS X W st (dFrz i ts) := by
  obtain ⟨s, p, r⟩ := h
  refine ⟨s, p, fun U σ ρ H D E R h B => ?_⟩
  have h : ts D (frzD i ρ) := h
  unfold frzD at h
  cases e : ρ[i]? with
  | none => rw [e] at h; exact r U σ ρ H D E R h B
  | some sl =>
    cases sl with
    | no => rw [e] at h; exact r U σ ρ H D E R h B
    | d a ep kvs => rw [e] at h; exact r U σ ρ H D E R h B
    | o kd C dx x a ds => rw [e] at h; exact r U σ ρ H D E R h B
    | v d => rw [e] at h; exact r U σ ρ H D E R h B
    | l a ds =>
      rw [e] at h
      have A := R.frz e
      exact r U σ _ H D E A.rep h (B.step A)
section
variable {ρ : DEnv} {P : CtR} {E : EX} {F : DEnds} {ts : TSd} {n : Nat} {a : Addr} {ds : List D} {d : D} {ti : TD} {l : List Nat} {x : Rs}
def qFrz (i : Nat) (ts : TSd) (F : DEnds) (ρ : DEnv) : Option Sl → Prop
  | some (.l _ ds) => ts F (ρ.set i (.v (.lst ds)))
  | _ => ts F ρ
theorem w_frz : dFrz n ts F ρ = qFrz n ts F ρ ρ[n]? := by
  unfold dFrz frzD
  rcases ρ[n]? with _ | s
  · rfl
  · cases s <;> rfl
theorem frz_l : qFrz n ts F ρ (some (.l a ds)) = ts F (ρ.set n (.v (.lst ds))) := rfl
theorem frz_v : qFrz n ts F ρ (some (.v d)) = ts F ρ := rfl
/-! sep.join(texts) -/
def qJoin (sep : List Nat) (P : CtR) (ρ : DEnv) : List D → Prop := fun ds => ∃ ls : List (List Nat), ds = ls.map D.str ∧ (ls.map (·.length)).sum + ls.length * sep.length ≤ 1000000 ∧ P (.v (.str (joinD sep ls))) ρ
theorem w_join : mJoin (.v (.str l)) [x] ρ P = qLs (dat ρ x) (qJoin l P ρ) := by
  unfold mJoin qLs
  apply propext
  constructor
  · rintro ⟨sep, r, ls, e1, e2, e3, e4, p⟩
    cases e1; cases e2
    rw [e3]
    exact ⟨ls, rfl, e4, p⟩
  · intro h
    cases e : dat ρ x with
    | lst ds =>
      rw [e] at h
      obtain ⟨ls, e1, e4, p⟩ := h
      subst e1
      exact ⟨l, x, ls, rfl, rfl, e, e4, p⟩
    | tup ds => rw [e] at h; exact h.elim
    | non => rw [e] at h; exact h.elim
    | bl b => rw [e] at h; exact h.elim
    | int b => rw [e] at h; exact h.elim
    | str b => rw [e] at h; exact h.elim
    | ob b => rw [e] at h; exact h.elim
theorem join_i {sep : List Nat} {ls : List (List Nat)} (e : ds = ls.map D.str) (hl : (ls.map (·.length)).sum + ls.length * sep.length ≤ 1000000) (p : P (.v (.str (joinD sep ls))) ρ) : qJoin sep P ρ ds := ⟨ls, e, hl, p⟩
theorem joinD_nil : ∀ ls : List (List Nat), joinD [] ls = ls.flatten
  | [] => rfl
  | [a] => by simp [joinD]
  | a :: b :: r => by rw [joinD, joinD_nil (b :: r)]; simp
/-! {sign: text, ..}[sign] -/
def kS (l : List Nat) : Str := ⟨l.toArray⟩
def kvT (p : List Nat × List Nat) : TE × TE := (tC (.str (kS p.1)), tC (.str (kS p.2)))
def kvK (p : List Nat × List Nat) : Key × V := (.inr (kS p.1), .str (kS p.2))
def dixV (kvs : List (List Nat × List Nat)) (l v : List Nat) : Prop := valV (mergeK [] (kvs.map kvK)) (.inr (kS l)) = some (.str (kS v))
def dDix (kvs : List (List Nat × List Nat)) (ti : TD) : TD := fun ρ P E => ti ρ (fun r ρ1 => ∃ l v, r = .v (.str l) ∧ dixV kvs l v ∧ P (.v (.str v)) ρ1) E
theorem pairs_c {σ : St} {H : Hp} : ∀ {kvs : List (List Nat × List Nat)} {Q : List (V × V) → Hp → Prop}, Q (kvs.map fun p => (V.str (kS p.1), V.str (kS p.2))) H → tPairs (kvs.map kvT) σ H Q
  | [], _, h => h
  | p :: kvs, Q, h => pairs_c (kvs := kvs) (Q := fun ps H3 => Q ((V.str (kS p.1), V.str (kS p.2)) :: ps) H3) h
theorem upd_upd {H : Hp} {p : Addr} {o u : HO} : upd (upd H p o) p u = upd H p u := by
  funext b
  by_cases e : b = p
  · subst e; rw [upd_same, upd_same]
  · rw [upd_ne e, upd_ne e, upd_ne e]
theorem de_dix {X : Cx} {W : WX} {keys : List (Option Expr)} {values : List Expr} {i : Expr} {pd pos : Pos} (kvs : List (List Nat × List Nat)) (hu : X.A.units + 1 < cLine) (h : PPs X pd keys values (kvs.map kvT)) (hi : DE X W i ti)
    (hall : keys.all (·.isSome) = true := by rfl) (hl : keys.length = values.length := by rfl) (h0 : keys ≠ [] := by intro q; cases q) (h15 : keys.length ≤ 15 := by exact (by decide)) (hk : kvs.length ≤ 15 := by decide) (hs : NoSl i := by intro _ _; rfl) : DE X W (.Subscript (.Dict keys values pd) i pos) (dDix kvs ti) := by
  obtain ⟨si, pi, ri⟩ := hi
  refine ⟨_, pe_dget hu (pe_disp h hall hl h0 h15) pi hs, fun U σ ρ H P E Q R q k x => ?_⟩
  intro p hp
  refine pairs_c ?_
  refine ⟨upd_same, kvs.map kvK, by rw [List.map_map]; rfl, by rw [List.length_map]; exact hk, ?_⟩
  rw [upd_upd]
  have A := R.new (o := .dK (mergeK [] (kvs.map kvK))) hp
  have np : p ∉ adrs ρ := fun z => by
    obtain ⟨o, e⟩ := R.sm (.inr z)
    rw [hp] at e; cases e
  refine ri U σ ρ _ _ E _ A.rep q (fun r ρ1 v H1 q1 A1 z => ?_) (x.step A)
  obtain ⟨l, w, er, hv, q1⟩ := q1
  subst er
  have ev := z.val.vflat rfl
  have there := A1.xt.keep p _ np (upd_same (H := H) (a := p) (o := .dK (mergeK [] (kvs.map kvK))))
  refine ⟨p, .str (kS w), rfl, .inl ⟨_, .inr (kS l), .inl there, ev, hv.symm⟩, ?_⟩
  exact k _ _ _ _ q1 (A.trans A1) (RepF.flat (.str _) rfl)
def qDix (kvs : List (List Nat × List Nat)) (P : CtR) : CtR := fun r ρ => match r with | .v (.str l) => ∃ v, dixV kvs l v ∧ P (.v (.str v)) ρ | _ => False
theorem w_dix {kvs : List (List Nat × List Nat)} : dDix kvs ti ρ P E = ti ρ (qDix kvs P) E := by
  unfold dDix
  congr 1
  funext r ρ1
  apply propext
  unfold qDix
  cases r with
  | v d => cases d <;> simp
  | f a ds => simp
  | b i => simp
theorem w_qDix {kvs : List (List Nat × List Nat)} : qDix kvs P (.v (.str l)) ρ = ∃ v, dixV kvs l v ∧ P (.v (.str v)) ρ := rfl
end
/-! three plain names at once -/
theorem ds_par3 {X : Cx} {W : WX} {tr : TAd} (i j l : Nat) {x y z : Str} {a b c : Expr} {px py pz pt pos : Pos} {kt k2 pt2} (hc : X.calm = true) (hN : X.N.Nodup) (hi : X.N[i]? = some x) (hj : X.N[j]? = some y) (hl : X.N[l]? = some z) (hij : i ≠ j) (hil : i ≠ l) (hjl : j ≠ l)
    (hx : X.env.scope.names.lookup x = some .local) (hy : X.env.scope.names.lookup y = some .local) (hz : X.env.scope.names.lookup z = some .local) (ha : DA X W [a, b, c] tr)
    (hw : swappedStores [.Tuple [.Name x px, .Name y py, .Name z pz] kt pt] (.Tuple [a, b, c] k2 pt2) X.env = pure (some [x, y, z]) := by rfl)
    (hs : swapsWithSole [.Tuple [.Name x px, .Name y py, .Name z pz] kt pt] (.Tuple [a, b, c] k2 pt2) pos.line X.env = pure false := by rfl) :
    DS X W (.Assign [.Tuple [.Name x px, .Name y py, .Name z pz] kt pt] (.Tuple [a, b, c] k2 pt2) pos) (dParT [i, j, l] tr) := by
  obtain ⟨s, p, r⟩ := ha
  refine ⟨_, ps_par3 hc hN hi hj hl hij hil hjl hx hy hz p hw hs, fun U σ ρ H D E R h B => ?_⟩
  refine r U σ ρ H _ D.ex _ R h (fun rs ρ1 vs H1 q A zz => ?_) B.xp
  obtain ⟨hl, h1000, nb, q⟩ := q
  have g : gNs [i, j, l] vs σ H1 (fun σ' H' => AftS X.K U ρ H (asgs [i, j, l] rs ρ1) σ' H') := asgs_ok hl nb A.xt zz fun σ' A3 => A3
  obtain ⟨v1, vs1, e1, v2, vs2, e2, v3, vs3, e3, e4, A3⟩ := g
  subst e1; subst e2; subst e3; subst e4
  exact ⟨v1, v2, v3, rfl, B.nx _ _ _ q A3⟩
end DL

namespace DL
open PySem L2
variable [WW]
/-! int(an int) -/
def cInt : RCd := fun rs ρ P => ∃ i, rs = [.v (.int i)] ∧ P (.v (.int i)) ρ
theorem cd_int {K : PySem.W.Frag} : CallD K (fun xs H Q => (∃ i, xs = [V.int i] ∧ Q (.int i) H) ∨ ∃ k, xs = [V.bl k] ∧ Q (.int (if k then 1 else 0)) H) cInt := by
  intro U σ ρ H0 H P Q rs vs z h k
  obtain ⟨i, e, p⟩ := h
  obtain ⟨v, ev, q⟩ := rs1 z e
  subst ev
  exact .inl ⟨i, by rw [q.vflat rfl]; rfl, k _ _ _ _ p z.rep.refl (RepF.flat (.int _) rfl)⟩
theorem w_int {i : Int} {ρ : DEnv} {P : CtR} : cInt [.v (.int i)] ρ P = P (.v (.int i)) ρ := by simp [cInt]
/-! is, is not, of bools -/
def oIsB : R2d := fun x y ρ P => ∃ a b, x = .v (.bl a) ∧ y = .v (.bl b) ∧ P (.v (.bl (decide (a = b)))) ρ
def oNotB : R2d := fun x y ρ P => ∃ a b, x = .v (.bl a) ∧ y = .v (.bl b) ∧ P (.v (.bl (!decide (a = b)))) ρ
theorem od_isB {K : PySem.W.Frag} : OpD K rIsB oIsB := by
  intro U σ ρ H P Q x y v w R qx qy h k
  obtain ⟨a, b, rfl, rfl, p⟩ := h
  exact ⟨a, b, qx.vflat rfl, qy.vflat rfl, k _ _ _ _ p R.refl (RepF.flat (.bl _) rfl)⟩
theorem od_notB {K : PySem.W.Frag} : OpD K rNotB oNotB := by
  intro U σ ρ H P Q x y v w R qx qy h k
  obtain ⟨a, b, rfl, rfl, p⟩ := h
  exact ⟨a, b, qx.vflat rfl, qy.vflat rfl, k _ _ _ _ p R.refl (RepF.flat (.bl _) rfl)⟩
theorem oIsB_v {a b : Bool} {ρ : DEnv} {P : CtR} : oIsB (.v (.bl a)) (.v (.bl b)) ρ P = P (.v (.bl (decide (a = b)))) ρ := by simp [oIsB]
theorem oNotB_v {a b : Bool} {ρ : DEnv} {P : CtR} : oNotB (.v (.bl a)) (.v (.bl b)) ρ P = P (.v (.bl (!decide (a = b)))) ρ := by simp [oNotB]
end DL

namespace HX
open PySem PySem.Spec PyProof.Rows L2 HotX L2H
/-! ## the program's errors -/
def veT : List Value := [.type "ValueError", .type "Exception", .type "BaseException", .type "object"]
def excOk (K : PySem.W.Frag) (A : Addr) : Bool :=
  PySem.W.excIn K A veT "ValueError.__new__" && PySem.W.keepIn K (.ref A) && (PySem.W.subIn K (.ref A) (.type "BaseException") == some true) && (PySem.W.typeIn K (.ref A) == some (.type "type")) &&
  (PySem.W.findIn K (.ref A) "__getattribute__" == some (some (.builtin "BaseException.__getattribute__"))) && (PySem.W.findIn K (.ref A) "__getattr__" == some none) && PySem.W.hasDictIn K A &&
  (PySem.W.findIn K (.ref A) "__class__" == some (some (.builtin "object.__class__"))) && (PySem.W.mroIn K A (.type "object") == some true)
def errChk (K : PySem.W.Frag) (B : Addr) (As : List Addr) : Bool :=
  (PySem.W.specialIn K (.builtin "object.__class__") "__get__" == some (some (.builtin "getset_descriptor.__get__"))) && (PySem.W.takesIn K (.builtin "object.__class__") == some true) &&
  As.zipIdx.all fun x => excOk K x.1 && (PySem.W.kitOne K (.ref x.1) (.ref B) == some true) && (PySem.W.kitOne K (.ref x.1) (.type "ValueError") == some true) && (PySem.W.exmOne K (.ref x.1) (.ref B) == some true) &&
    As.zipIdx.all fun y => PySem.W.kitOne K (.ref x.1) (.ref y.1) == some (x.2 == y.2)
structure ErrM (K : PySem.W.Frag) (mgl : Str → Option Value) (B : Addr) (As : List Addr) : Prop where
  len : As.length = 13
  cls : ∀ (i : Nat) (x : Str), DL.errNames[i]? = some x → ∃ A, As[i]? = some A ∧ PySem.W.nsIn K mainGlobals x = some (some (.ref A)) ∧ mgl x = some (.ref A)
  bar : mgl "BarError" = some (.ref B)
  ve : mgl "ValueError" = none
  isi : mgl "isinstance" = none
  zip : mgl "zip" = none
  chk : errChk K B As = true
theorem ErrM.at {K : PySem.W.Frag} {mgl : Str → Option Value} {B : Addr} {As : List Addr} (M : ErrM K mgl B As) {C : Nat} {A : Addr} (h : DL.IsCls K C A) : As[C]? = some A ∧ C < 13 := by
  obtain ⟨x, h1, h2⟩ := h
  obtain ⟨A', g1, g2, _⟩ := M.cls C x h1
  rw [g2] at h2
  cases h2
  refine ⟨g1, ?_⟩
  have := (List.getElem?_eq_some_iff.mp g1).1
  rw [M.len] at this
  exact this
structure Facts (K : PySem.W.Frag) (B : Addr) (As : List Addr) (C : Nat) (A : Addr) : Prop where
  exc : PySem.W.excIn K A veT "ValueError.__new__" = true
  keep : PySem.W.keepIn K (.ref A) = true
  sub : PySem.W.subIn K (.ref A) (.type "BaseException") = some true
  typ : PySem.W.typeIn K (.ref A) = some (.type "type")
  is : ExcC K A
  bar : PySem.W.kitOne K (.ref A) (.ref B) = some true
  ve : PySem.W.kitOne K (.ref A) (.type "ValueError") = some true
  exm : PySem.W.exmOne K (.ref A) (.ref B) = some true
  kit : ∀ j A', As[j]? = some A' → PySem.W.kitOne K (.ref A) (.ref A') = some (C == j)
theorem ErrM.facts {K : PySem.W.Frag} {mgl : Str → Option Value} {B : Addr} {As : List Addr} (M : ErrM K mgl B As) {C : Nat} {A : Addr} (h : As[C]? = some A) : Facts K B As C A := by
  have k := M.chk
  unfold errChk at k
  simp only [Bool.and_eq_true, beq_iff_eq, List.all_eq_true] at k
  obtain ⟨⟨k1, k2⟩, k3⟩ := k
  have mem : ∀ {j : Nat} {A' : Addr}, As[j]? = some A' → (A', j) ∈ As.zipIdx := fun {j A'} e => List.mem_zipIdx_iff_getElem?.mpr e
  obtain ⟨⟨⟨⟨x, b1⟩, b2⟩, b3⟩, b4⟩ := k3 _ (mem h)
  unfold excOk at x
  simp only [Bool.and_eq_true, beq_iff_eq] at x
  obtain ⟨⟨⟨⟨⟨⟨⟨⟨x1, x2⟩, x3⟩, x4⟩, x5⟩, x6⟩, x7⟩, x8⟩, x9⟩ := x
  exact ⟨x1, x2, x3, x4, ⟨x5, x6, x3, x7, x8, k1, k2, x9⟩, b1, b2, b3, fun j A' e => b4 _ (mem e)⟩
/-! ## isinstance of the handled error -/
section
variable {X : Cx} {a A B : Addr} {oe : Obj} {cv : Value} {b : Bool} {v : V} {x y : Str} {p p1 p2 pos : Pos} {As : List Addr} {C : Nat}
def tIs (a : Addr) (b : Bool) : TE := fun σ H Q => σ[0]? = some (some (.ref a)) ∧ Q (.bl b) H
theorem pe_imp {e : Expr} {t t' : TE} (h : PE X e t) (i : ∀ σ H Q, t' σ H Q → t σ H Q) : PE X e t' := ⟨fun pins s σ H Q I q => h.run pins s σ H Q I (i _ _ _ q)⟩
theorem pe_isX (hp : (a, oe) ∈ X.pn) (Ec : ExcC X.K A) (hz : Zc (.ref A) none oe) (hf : ∃ vs, oe.data = .fields vs) (hk : PySem.W.kitOne X.K (.ref A) cv = some b) (hcv : ∀ u, RelV v u → u = cv) (hm : X.mg "isinstance" = none) (hg : Gl X "isinstance") (he : PE X (.Name y p2) (tC v))
    (hv : PE X (.Name x p1) (tVar 0)) (h1 : starEach [.Name x p1, .Name y p2] X.env = (false, eval (.Name x p1) X.env) :: starEach [.Name y p2] X.env := by rfl) (h2 : starEach [.Name y p2] X.env = (false, eval (.Name y p2) X.env) :: starEach [] X.env := by rfl)
    (hpl : (backTo pos (starEach [.Name y p2] X.env)).any (·.1) = false := by rfl) :
    PE X (.Call (.Name "isinstance" p) [.Name x p1, .Name y p2] [] pos) (tIs a b) := by
  refine pe_imp (pe_callB (call_isP hp Ec hz hf) hg hm rfl (pa_cons hv (pa_cons he pa_nil h2) h1) (by decide) (by decide) h1 hpl) fun σ H Q h => ?_
  exact ⟨_, h.1, _, cv, b, rfl, hcv, hk, h.2⟩
end
/-! ## what the first statements leave -/
def Ex (H H' : Hp) : Prop := ∀ a o, H a = some o → H' a = some o
theorem Ex.refl (H : Hp) : Ex H H := fun _ _ h => h
theorem Ex.trans {H H1 H2 : Hp} (x : Ex H H1) (y : Ex H1 H2) : Ex H H2 := fun a o h => y a o (x a o h)
theorem Ex.new {H : Hp} {p : Addr} {o : HO} (h : H p = none) : Ex H (upd H p o) := fun a o' e => by
  rw [upd_ne fun z => by rw [z, h] at e; cases e]; exact e
theorem Ex.rd {H H' : Hp} {a : Addr} {u : HO} (x : Ex H H') (r : Rd H a u) : Rd H' a u := r.elim (fun r => .inl (x _ _ r)) fun ⟨o, r⟩ => .inr ⟨o, x _ _ r⟩
theorem Ex.sql {K : PySem.W.Frag} {H H' : Hp} {a : Addr} {xs : List V} (x : Ex H H') (r : SqL K H a xs) : SqL K H' a xs := r.elim (fun r => .inl (x.rd r)) .inr
def t3 (a : Addr) (b c d : Bool) : TE := tLst (tCons (tIs a b) (tCons (tIs a c) (tCons (tIs a d) tNil)))
section
variable {a : Addr} {b c d : Bool} {D : Ends} {σ : L2.St} {H : Hp}
theorem first3 (h : σ[0]? = some (some (.ref a))) (k : ∀ q H', Ex H H' → H' q = some (.lst [.bl b, .bl c, .bl d]) → D.nx (σ.set 1 (some (.ref q))) H') : tAsg (t3 a b c d) (gName 1) D σ H := by
  refine ⟨h, h, h, by show 3 ≤ sizeLine; rw [sizeLine_eq]; omega, fun p hp => k p _ (Ex.new hp) upd_same⟩
theorem next3 {xs : List V} {l : Addr} (h : σ[0]? = some (some (.ref a))) (h1 : σ[1]? = some (some (.ref l))) (hl : H l = some (.lst xs)) (hs : xs.length ≤ 100) (k : ∀ q H', Ex H H' → H' q = some (.lst (xs ++ [.bl b, .bl c, .bl d])) → D.nx (σ.set 1 (some (.ref q))) H') :
    tAsg (tOp rCat (tVar 1) (t3 a b c d)) (gName 1) D σ H := by
  refine ⟨_, h1, h, h, h, by show 3 ≤ sizeLine; rw [sizeLine_eq]; omega, fun p hp => ?_⟩
  have hlp : l ≠ p := fun z => by rw [z, hp] at hl; cases hl
  refine ⟨l, p, xs, _, rfl, rfl, by rw [upd_ne hlp]; exact hl, upd_same, by rw [sizeLine_eq]; simp; omega, fun q hq => ?_⟩
  exact k q _ ((Ex.new hp).trans (Ex.new hq)) upd_same
end
/-! ## the comprehension -/
abbrev rSpl : V → List V → Hp → VK → Prop := fun x xs H Q => ∃ a b, x = .str a ∧ xs = [.str b] ∧ (b.length == 0) = false ∧ a.length + 2 ≤ sizeLine ∧ rNewStrs (Txt.split a b) H Q
def keepT : List Str → List Bool → List V
  | n :: ns, true :: bs => .str n :: keepT ns bs
  | _ :: ns, false :: bs => keepT ns bs
  | _, _ => []
theorem keep_take : ∀ (ns : List Str) (bs : List Bool) (i : Nat) (n : Str) (b : Bool), ns[i]? = some n → bs[i]? = some b → keepT (ns.take (i + 1)) (bs.take (i + 1)) = keepT (ns.take i) (bs.take i) ++ (if b = true then [.str n] else [])
  | [], _, _, _, _, h, _ => by simp at h
  | _ :: _, [], _, _, _, _, h => by simp at h
  | n' :: ns, b' :: bs, 0, n, b, h1, h2 => by
    simp at h1 h2
    subst h1 h2
    cases b' <;> simp [keepT]
  | n' :: ns, b' :: bs, i + 1, n, b, h1, h2 => by
    have ih := keep_take ns bs i n b (by simpa using h1) (by simpa using h2)
    cases b' with
    | true => simp only [List.take_succ_cons, keepT, List.cons_append]; rw [ih]
    | false => simp only [List.take_succ_cons, keepT]; rw [ih]
theorem keep_len : ∀ (ns : List Str) (bs : List Bool), (keepT ns bs).length ≤ ns.length
  | [], bs => by cases bs <;> simp [keepT]
  | n :: ns, [] => by simp [keepT]
  | n :: ns, true :: bs => by simp only [keepT, List.length_cons]; have := keep_len ns bs; omega
  | n :: ns, false :: bs => by simp only [keepT, List.length_cons]; have := keep_len ns bs; omega
theorem lc_names {K : PySem.W.Frag} {σ : L2.St} {H : Hp} {Q : VK} {a b : Str} {ns : List Str} {bs : List Bool} {l : Addr} (h2 : σ[2]? = some (some (.str a))) (h1 : σ[1]? = some (some (.ref l))) (hl : H l = some (.lst (bs.map V.bl))) (hb : (b.length == 0) = false) (ha : a.length + 2 ≤ sizeLine) (hs : Txt.split a b = ns)
    (hn : ns.length = bs.length) (hz : ns.length ≤ 100) (hσ : σ.length = 6) (k : ∀ q H', H q = none → Ex H H' → H' q = some (.lst (keepT ns bs)) → Q (.ref q) H') :
    tLc (iZip K (tCons (tBM K "str" rSpl (tVar 2) (tCons (tC (.str b)) tNil)) (tCons (tVar 1) tNil))) (gTup K 2 (gCons (gName 4) (gCons (gName 5) gNil))) (tB (tVar 5)) (tVar 4) [4, 5] σ H Q := by
  obtain ⟨s0, s1, s2, s3, s4, s5, rfl⟩ : ∃ s0 s1 s2 s3 s4 s5, σ = [s0, s1, s2, s3, s4, s5] := by
    match σ, hσ with
    | [s0, s1, s2, s3, s4, s5], _ => exact ⟨s0, s1, s2, s3, s4, s5, rfl⟩
  refine ⟨_, h2, rfl, a, b, rfl, rfl, hb, ha, fun p hp => ⟨_, h1, p, l, ns.map V.str, bs.map V.bl, rfl, .inl (.inl (by rw [hs]; exact upd_same)), .inl (.inl ((Ex.new hp) _ _ hl)), ?_⟩⟩
  generalize hH1 : upd H p (.lst ((Txt.split a b).map V.str)) = H1
  have x1 : Ex H H1 := by rw [← hH1]; exact Ex.new hp
  have e1 : H1 p = some (.lst (ns.map V.str)) := by rw [← hH1, hs]; exact upd_same
  have e2 : H1 l = some (.lst (bs.map V.bl)) := x1 _ _ hl
  intro D hD
  refine ⟨fun i m H' => m = ns.length - i ∧ i ≤ ns.length ∧ Ex H1 H' ∧ H' D = some (.lst (keepT (ns.take i) (bs.take i))), ⟨ns.length, rfl, Nat.zero_le _, Ex.new hD, by rw [upd_same]; simp [keepT]⟩, fun i m H' ⟨em, hi, x, hd⟩ => ?_⟩
  by_cases hlt : i < ns.length
  · refine .inr ⟨?_, ?_⟩
    · exact ⟨_, _, .str ns[i], .bl (bs[i]'(by omega)), .inl (.inl (x _ _ e1)), .inl (.inl (x _ _ e2)), by simp [hlt], by simp⟩
    · refine ⟨fun H2 => Ex H1 H2 ∧ H2 D = some (.lst (keepT (ns.take (i + 1)) (bs.take (i + 1)))), fun H2 ⟨y, z⟩ => ⟨ns.length - (i + 1), by omega, rfl, by omega, y, z⟩, fun v H2 hy => ?_⟩
      obtain ⟨T, vx, vy, rfl, hT, rfl, gx, gy⟩ := hy
      have gx := gx _ (.inl (.inl (x _ _ e1)))
      have gy := gy _ (.inl (.inl (x _ _ e2)))
      obtain ⟨n, hn', rfl⟩ : ∃ n, ns[i]? = some n ∧ vx = .str n := by
        rw [List.getElem?_map, List.getElem?_eq_getElem hlt] at gx
        exact ⟨_, List.getElem?_eq_getElem hlt, by simpa using gx.symm⟩
      obtain ⟨bb, hb', rfl⟩ : ∃ bb, bs[i]? = some bb ∧ vy = .bl bb := by
        rw [List.getElem?_map, List.getElem?_eq_getElem (by omega : i < bs.length)] at gy
        exact ⟨_, List.getElem?_eq_getElem (by omega), by simpa using gy.symm⟩
      have nDT : D ≠ T := fun z => by rw [← z, hd] at hT; cases hT
      refine ⟨T, [.str n, .bl bb], rfl, .inl (.inl upd_same), rfl, .str n, [.bl bb], rfl, .bl bb, [], rfl, rfl, ?_, ?_⟩
      · rfl
      · refine ⟨.bl bb, rfl, bb, rfl, ?_⟩
        · dsimp only
          have kt := keep_take ns bs i n bb hn' hb'
          have xT : Ex H1 (upd H' T (.tup [.str n, .bl bb])) := x.trans (Ex.new hT)
          cases bb with
          | true =>
            rw [if_pos rfl] at kt ⊢
            refine ⟨.str n, rfl, _, by rw [upd_ne nDT]; exact hd, ?_, ?_, ?_⟩
            · have := keep_len (ns.take i) (bs.take i)
              rw [sizeLine_eq]; simp at this; omega
            · intro c o hc
              have := xT c o hc
              by_cases z : c = D
              · rw [z, hD] at hc; cases hc
              · rw [upd_ne z]; exact this
            · rw [upd_same, kt]
          | false =>
            rw [if_neg (by decide)] at kt ⊢
            rw [List.append_nil] at kt
            exact ⟨xT, by rw [upd_ne nDT, kt]; exact hd⟩
  · refine .inl ⟨⟨_, _, .inl (.inl (x _ _ e1)), .inl (.inl (x _ _ e2)), .inl (by simp; omega)⟩, ?_⟩
    have : i = ns.length := by omega
    subst this
    rw [List.take_length, hn, List.take_length] at hd
    exact k D _ (by
      cases z : H D with
      | none => rfl
      | some o => rw [x1 _ _ z] at hD; cases hD) (x1.trans x) hd
end HX

namespace HX
open PySem PySem.Spec PyProof.Rows L2 HotX L2H DL
variable [WW]
def errWords : List (List Nat) := [[107, 105, 110, 100], [115, 116, 97, 116, 101], [114, 111, 119], [110, 117, 109, 98, 101, 114], [101, 102, 102, 101, 99, 116], [119, 105, 115, 104, 101, 100], [103, 111, 97, 108], [116, 97, 98, 115], [116, 97, 98], [110, 111, 116], [111, 116, 104, 101, 114], [109, 97, 110, 121], [117, 110, 100, 111]]
def errWord (C : Nat) : List Nat := (errWords[C]?).getD []
/-- _law_error_name's promise: p is the error that is handled -/
def spE (As : List Addr) : Addr × Obj → Sp := fun p vs H Q _ => ∃ C A, As[C]? = some A ∧ vs = [.ref p.1] ∧ L2N.Zn (.ref A) none p.2 ∧ (∃ fs, p.2.data = .fields fs) ∧ ∀ H', Ex H H' → Q (.str ⟨(errWord C).toArray⟩) H'
/-! ## raise -/
def dRaise (i : Nat) : TSd := fun D ρ => D.ex i ρ
theorem ds_raise {X : Cx} {W : WX} {B : Addr} {As : List Addr} {x m : Str} {j : Nat} {p p2 pos pos' : Pos} (Er : ErrM X.K X.mg B As) (hc : X.calm = true) (tk : L2N.Takes X W) (i : Nat) (hx : errNames[i]? = some x) (hg : Gl X x) (hdb : (x == ("__debug__" : Str)) = false := by decide) :
    DS X W (.Raise (some (.Call (.Name x p) [.Constant (.str m) j p2] [] pos)) none pos') (dRaise i) := by
  obtain ⟨A, hA, hn, hm⟩ := Er.cls i x hx
  have F := Er.facts hA
  refine ⟨_, L2N.ps_raise hc tk (L2N.pmk_own PySem.F.excBase_ValueError F.exc hm F.keep (raises_own F.sub F.typ) hg hdb), fun U σ ρ H D E R h B => ?_⟩
  exact B.ex i ρ σ H h R.reflS A ⟨x, hx, hn⟩
/-! ## try: body, except BarError as e: return _law_error_name(e) -/
theorem Rep.ext {K : PySem.W.Frag} {U : Addr → Prop} {ρ : DEnv} {H H' : Hp} {σ : L2.St} (R : Rep K U H σ ρ) (x : Ex H H') : AftS K U ρ H ρ σ H' := by
  have xt : Xt ρ ρ H H' := ⟨fun a u _ e => x a u e, fun _ z => .inl z, fun a u e => ⟨u, x a u e⟩⟩
  refine ⟨⟨R.slots.mono (xt.mo) fun a ha => ?_, R.nd, fun a ha => ?_, R.dis⟩, xt⟩
  · obtain ⟨xs, e⟩ := R.slots.sm ha
    rw [e]; exact x _ _ e
  · obtain ⟨u, e⟩ := R.uth a ha
    exact ⟨u, x a u e⟩
def canonS (K : PySem.W.Frag) (W : WX) (t : TSd) : TS := fun E σ H => ∃ (U : Addr → Prop) (ρ : DEnv) (D : DEnds), Rep K U H σ ρ ∧ t D ρ ∧ Beh K U W ρ H D E
theorem pss_canon {X : Cx} {W : WX} {b : List Stmt} {t : TSd} (h : DSs X W b t) : PSs X b (canonS X.K W t) := by
  obtain ⟨ts, p, r⟩ := h
  exact ⟨fun pins s σ H E I ⟨U, ρ, D, R, q, B⟩ => p.run pins s σ H E I (r U σ ρ H D E R q B)⟩
def dTry (tb : TSd) : TSd := fun D ρ => tb { D with ex := fun C ρ' => C < 13 ∧ D.rt (.v (.str (errWord C))) ρ' } ρ
def tSuite (As : List Addr) (i : Nat) : Addr → Value → Option Addr → TS := fun a cls d E σ H => (∃ σ0 : L2.St, σ = σ0.set i (some (.ref a))) ∧ ∃ C A, As[C]? = some A ∧ cls = .ref A ∧ d = none ∧ ∀ H', Ex H H' → E.rt (.str ⟨(errWord C).toArray⟩) H'
/-- the name that tells an error's word -/
def ErrF (P : Program) (w : World) (K : PySem.W.Frag) (mgl : Str → Option Value) (base : Heap) (k : Nat) (As : List Addr) : Prop :=
  ∃ f fd ps, FnE P w K mgl base CX0 k f fd ps (spE As) ∧ mgl "_law_error_name" = some (.ref f) ∧ PySem.W.keepIn K (.ref f) = true ∧ Binds K fd ps []
theorem ErrF.mono {P : Program} {w : World} {K : PySem.W.Frag} {mgl : Str → Option Value} {base : Heap} {j k : Nat} {As : List Addr} (c : ErrF P w K mgl base j As) (h : j ≤ k) : ErrF P w K mgl base k As := by
  obtain ⟨f, fd, ps, F, a, b, c⟩ := c
  exact ⟨f, fd, ps, F.mono h, a, b, c⟩
theorem ds_try {X : Cx} {W : WX} {B : Addr} {As : List Addr} {body : List Stmt} {tb : TSd} {np pos pos' rp cp fp ap : Pos} {k i : Nat} {n : Str} (Er : ErrM X.K X.mg B As) (Ef : ErrF X.prog X.w X.K X.mg X.base k As) (hr : Room k X.A) (tk : L2N.Takes X W)
    (hs : X.stack = X.env :: X.outer) (hf : X.env.frame = some X.env.locals) (hN : X.N.Nodup) (hi : X.N[i]? = some n) (hln : X.env.kindOf n = some .local) (hg : Gl X "BarError") (hge : ∀ a pn, Gl (X.suite a pn) "_law_error_name")
    (hv : ∀ a pn, PE (X.suite a pn) (.Name n ap) (tVar i)) (hst : ∀ a pn, starEach [.Name n ap] (X.suite a pn).env = (false, eval (.Name n ap) (X.suite a pn).env) :: starEach [] (X.suite a pn).env)
    (hb : ∀ (W' : WX) (pn : List (Addr × Obj)) (xe : Value → Shared → Prop), L2N.Takes (X.tr pn xe) W' → PassesOwn (model X.prog X.w) X.A X.env xe → DSs (X.tr pn xe) W' body tb) :
    DS X W (.Try body [.ExceptHandler (some (.Name "BarError" np)) (some n) [.Return (some (.Call (.Name "_law_error_name" fp) [.Name n ap] [] cp)) rp] pos'] [] [] pos) (dTry tb) := by
  obtain ⟨f, fd, ps, F, hm, hk, hbi⟩ := Ef
  refine ⟨_, L2N.ps_try_as (c := .ref B) (i := i) (ts := tSuite As i) (tb := fun W' => canonS X.K W' tb) hs hf hN hi hln ⟨hg, by decide, .inl Er.bar⟩ tk (fun W' pn xe t po => pss_canon (hb W' pn xe t po)) (fun a oe cls d pn hz hd => ?_), fun U σ ρ H D E R h Bh => ?_⟩
  · refine ⟨fun pins s σ H E I ⟨⟨σ0, e0⟩, C, A, hA, e1, e2, q⟩ => ?_⟩
    have hl : i < σ.length := by
      rw [I.len]; exact (List.getElem?_eq_some_iff.mp hi).1
    have h1 : σ[i]? = some (some (.ref a)) := by
      rw [e0] at hl ⊢
      exact List.getElem?_set_self (by simpa using hl)
    subst e1 e2
    obtain ⟨vs, hv'⟩ := hd
    have hot : Hot1 (X.suite a ((a, oe) :: pn)).A (a, oe) := ⟨rfl, vs, hv', hz.2.2 vs hv'⟩
    have pc : PE (X.suite a ((a, oe) :: pn)) (.Call (.Name "_law_error_name" fp) [.Name n ap] [] cp) (tCallS (spE As (a, oe)) (fun _ => E0) (tCons (tVar i) tNil)) :=
      pe_callE F ⟨hr.dp, hr.un⟩ hot List.mem_cons_self (hge _ _) hm hk hbi (fun _ _ _ _ _ _ _ z => z.elim) (pa_cons (hv _ _) pa_nil (hst _ _)) (by decide) (hst _ _)
    exact (pss_one (ps_ret pc)).run pins s σ H E I ⟨_, h1, C, A, hA, rfl, hz, ⟨vs, hv'⟩, fun H' x => q H' x⟩
  · refine ⟨U, ρ, _, R, h, ⟨Bh.nx, Bh.rt, fun C ρ' σ' H' q Af A hA => ?_, Bh.bk, Bh.ct⟩⟩
    obtain ⟨hA', _⟩ := Er.at hA
    have Fc := Er.facts hA'
    refine ⟨true, Fc.exm, fun _ a ha => ⟨⟨σ', rfl⟩, C, A, hA', rfl, rfl, fun H'' x => ?_⟩, fun z => nomatch z⟩
    exact Bh.rt _ ρ' _ σ' H'' q.2 (Af.trans (Rep.ext Af.rep x)) (RepF.flat (.str _) rfl)
end HX

namespace DL
open PySem L2 HX
variable [WW]
section
variable {ρ ρ' : DEnv} {F : DEnds} {ts : TSd} {n C : Nat} {P : CtR}
def qTry (P : CtR) : EX := fun C ρ' => C < 13 ∧ P (.v (.str (errWord C))) ρ'
theorem w_raise : dRaise n F ρ = F.ex n ρ := rfl
theorem w_try : dTry ts F ρ = ts ⟨F.nx, F.rt, qTry F.rt, F.bk, F.ct⟩ ρ := rfl
theorem w_qTry : qTry P C ρ = (C < 13 ∧ P (.v (.str (errWord C))) ρ) := rfl
end
theorem ew0 : errWord 0 = [107, 105, 110, 100] := rfl
theorem ew1 : errWord 1 = [115, 116, 97, 116, 101] := rfl
theorem ew2 : errWord 2 = [114, 111, 119] := rfl
theorem ew3 : errWord 3 = [110, 117, 109, 98, 101, 114] := rfl
theorem ew4 : errWord 4 = [101, 102, 102, 101, 99, 116] := rfl
theorem ew5 : errWord 5 = [119, 105, 115, 104, 101, 100] := rfl
theorem ew6 : errWord 6 = [103, 111, 97, 108] := rfl
theorem ew7 : errWord 7 = [116, 97, 98, 115] := rfl
theorem ew8 : errWord 8 = [116, 97, 98] := rfl
theorem ew9 : errWord 9 = [110, 111, 116] := rfl
theorem ew10 : errWord 10 = [111, 116, 104, 101, 114] := rfl
theorem ew11 : errWord 11 = [109, 97, 110, 121] := rfl
theorem ew12 : errWord 12 = [117, 110, 100, 111] := rfl
/-- the walk's frame for _law_error_name -/
theorem fnE_mk {P : Program} {w : World} {K : PySem.W.Frag} {mgl : Str → Option Value} {base : Heap} {x qual : Str} {st : Stmt} {f : Addr} {fd : FuncData} {N ps : List Str} {k : Nat} {As : List Addr} {CX : CXT} (F : Fun K x qual st f fd) (S : FnScope N ps (defScope st)) (hn : ps.length = 1)
    (hbody : ∀ (cdv : Value) (A : Around) (outer : List Env) (s : Shared) (H : Hp) (vs : List V) (Q : VK) (E : XK) (p : Addr × Obj), L2H.Hot1 A p → L2H.RoomH k (A.deeper (PyProof.Rows.envOfC qual (defScope st) s.heap.objs.size f cdv)) → spE As p vs H Q E →
      ∃ t, PSs (L2H.cxH CX P w K mgl base N qual (defScope st) f cdv A outer s H E p) (defBody st) t ∧ t { nx := fun _ H' => Q .non H', rt := Q } (L2.start N vs) H) :
    HX.FnE P w K mgl base CX (k + 1) f fd ps (spE As) := by
  obtain ⟨oc, od, kV, doc, pm, an, cdv, ct, osl, rfl, lk, hcd⟩ := F.ex
  exact HX.fn_ofE lk hcd S (fun p vs H Q E h => by obtain ⟨_, _, _, e, _⟩ := h; rw [e, hn]; rfl) fun A outer s H vs Q E p hot hr h => hbody cdv A outer s H vs Q E p hot hr h
theorem errF_of {P : Program} {w : World} {K : PySem.W.Frag} {mgl : Str → Option Value} {base : Heap} {k : Nat} {As : List Addr} {st : Stmt} {ps : List Str} (d : DefAt K mgl "_law_error_name" st ps) (h : ∀ f fd, Fun K "_law_error_name" "_law_error_name" st f fd → HX.FnE P w K mgl base CX0 k f fd ps (spE As)) : ErrF P w K mgl base k As := by
  obtain ⟨f, fd, F, hm, hb⟩ := d.ex
  exact ⟨f, fd, ps, h f fd F, hm, F.kp, hb⟩
def errNs : List Str := [⟨#[107, 105, 110, 100]⟩, ⟨#[115, 116, 97, 116, 101]⟩, ⟨#[114, 111, 119]⟩, ⟨#[110, 117, 109, 98, 101, 114]⟩, ⟨#[101, 102, 102, 101, 99, 116]⟩, ⟨#[119, 105, 115, 104, 101, 100]⟩, ⟨#[103, 111, 97, 108]⟩, ⟨#[116, 97, 98, 115]⟩, ⟨#[116, 97, 98]⟩, ⟨#[110, 111, 116]⟩, ⟨#[111, 116, 104, 101, 114]⟩, ⟨#[109, 97, 110, 121]⟩, ⟨#[117, 110, 100, 111]⟩, ⟨#[98, 97, 115, 101]⟩, ⟨#[118, 97, 108, 117, 101]⟩]
def errBs (C : Nat) : List Bool := [C == 0, C == 1, C == 2, C == 3, C == 4, C == 5, C == 6, C == 7, C == 8, C == 9, C == 10, C == 11, C == 12, true, true]
theorem errKeep : ∀ C < 13, HX.keepT errNs (errBs C) = [.str ⟨(errWord C).toArray⟩, .str ⟨#[98, 97, 115, 101]⟩, .str ⟨#[118, 97, 108, 117, 101]⟩] := by decide +kernel
theorem err_tail {LC : TE} {tr : TS} {a : Str} {Ed : Ends} {σ : L2.St} {H : Hp} (h : LC (σ.set 2 (some (.str a))) H fun x H1 => tr Ed ((σ.set 2 (some (.str a))).set 3 (some x)) H1) : tSeq (tAsg (tC (.str a)) (gName 2)) (tSeq (tAsg LC (gName 3)) tr) Ed σ H := h
theorem err_end {K : PySem.W.Frag} {H0 H : Hp} {σ : L2.St} {Q : VK} {tr : TS} {q : Addr} {w : List Nat} {W : WX} (hw : (H0 q = none)) (x : HX.Ex H0 H) (e : H q = some (.lst [.str ⟨w.toArray⟩, .str ⟨#[98, 97, 115, 101]⟩, .str ⟨#[118, 97, 108, 117, 101]⟩])) (h3 : σ[3]? = some (some (.ref q))) (hl : σ.length = 6) {Ed : Ends} (hD : Ed.rt = Q)
    (rr : Rfs K W tr (dRet (dIf (dTest (dOp oEqD (dSl sL (dVar 3) (dSome (dC (D.int 1))) dNo) (dLst (dCons (dC (D.str [98, 97, 115, 101])) (dCons (dC (D.str [118, 97, 108, 117, 101])) dNil))))) (dOp oIxL (dVar 3) (dC (D.int 0))) (dC (D.str [101, 108, 115, 101])))))
    (kq : ∀ H', HX.Ex H0 H' → Q (.str ⟨w.toArray⟩) H') : tr Ed σ H := by
  obtain ⟨s0, s1, s2, s3, s4, s5, rfl⟩ : ∃ s0 s1 s2 s3 s4 s5, σ = [s0, s1, s2, s3, s4, s5] := by
    match σ, hl with
    | [s0, s1, s2, s3, s4, s5], _ => exact ⟨s0, s1, s2, s3, s4, s5, rfl⟩
  have h3 : s3 = some (.ref q) := by simpa using h3
  subst h3
  refine rr (fun _ => False) _ [.no, .no, .no, .l q [.str w, .str [98, 97, 115, 101], .str [118, 97, 108, 117, 101]], .no, .no] H ⟨fun _ => False, fun r _ => r = .v (.str w), fun _ _ => False, fun _ => False, fun _ => False⟩ Ed ⟨⟨trivial, trivial, trivial, ⟨rfl, _, e, ?_⟩, trivial, trivial, trivial⟩, by simp [adrs, adr, List.filterMap], fun _ z => z.elim, fun _ _ z => z⟩ ?_ ⟨fun _ _ _ z => z.elim, ?_, fun _ _ _ _ z => z.elim, fun _ _ _ z => z.elim, fun _ _ _ z => z.elim⟩
  · simp [Dqs, Dq]
  · simp (config := { maxSteps := 10000000 }) only [w_var, w_sl_v, w_sl_l, w_c, w_op, w_qOp, w_qOp2, w_qB, w_test, w_and, w_or, w_not, w_qAnd, w_qOr, w_qNot, w_andV, w_orV, w_notV, w_qAndV, w_qOrV, w_qNotV, w_qI, w_neg, w_qNeg, w_if, w_qIf, w_chain, w_qCh, w_qCh2, w_qCh4, w_nil, w_cons, w_qCons, w_qCons2, fzL_nil, fzL_v, fzL_f, noB_nil, noB_v, noB_f, w_tup, w_lst, w_qTup, w_qLst, w_next, w_seq, w_break, w_drop, w_qDrop, w_ret, w_ifS, w_qIfS, w_set, w_qSet, asg_v, asg_f, asg_b, w_par, w_qPar, w_parT, w_qParT, asgs_c, asgs_n, w_asg, w_qAsg, w_hName, w_hCons, w_qH, hNil_n, hTup_t, w_be, w_qRt, w_qNx, w_qEx, w_nowh, ret_v, ret_f, ret_ft, ret_b, retB_l, retB_lt, mg_l, mg_v, mg_n, mgOk_l, mgOk_v, mgOk_n, w_call, w_qCall, w_qWb, w_qWe, argE_v, argE_f, argE_b, lOnly_l, bis_n, bis_b, bis_v, bis_f, wb_b, wb_v, wb_f, wb_n, dat_v, dat_f, dat_b, datS_l, ls_l, ts_t, seq_l, seq_t, w_ixL, w_ixT, w_ixS, at_0, at_1, at_2, at_3, own_l, up_0, up_1, w_setIx, w_qSx_v, w_qSx_f, w_qSx2, w_qSx3, w_app_v, w_app_f, w_qApp, w_popAt, w_pop, w_bm', w_qBm, w_qBm2, w_bm0, w_qBm0, ty_s, ty_l, w_some, w_qSome, w_no, w_slc, w_qSlc, w_qSl2, w_qSl3, w_sL, w_qCut, sS_v, sT_v, w_cb, w_qCB, w_len, len_l, len_t, len_s, w_tupOf, w_listOf, w_qTo, w_qLo, w_all, w_isi, w_qIsi, w_sort, w_count, w_frz, frz_l, frz_v, w_join, w_dix, w_qDix, w_int, oIsB_v, oNotB_v, w_diS, w_diT, w_diL, w_qIS, w_qIT, w_qIL, w_qILd, w_diR1, w_diR2, w_qR1, w_qR2, w_for, w_qTurn, w_lessI, w_qWhile, w_lc, w_lcT2_v, w_lcT, dNever, dYes, oI0_v, oI_v, oEq_v, oNe_v, scD_ii, scD_ss, scD_bb, scD_nn, scD_ns, scD_sn, eqF_ii, eqF_ss, eqF_bb, eqF_nn, eqF_ns, eqF_sn, oAddS_v, oMulS_v, oInC_v, oIn_v, oCatT_v, oIsN_v, oNotN_v, isNon, cMax2_v, cMin2_v, isStr, isInt, isBl, isTup, isLst, apart, flat, stR, dLstRg1_eq, dLstRg2_eq, oEqD, oNeD, List.cons_append, List.nil_append, List.map_cons, List.map_nil, List.getElem?_cons_zero, List.getElem?_cons_succ, List.set_cons_zero, List.set_cons_succ, List.length_cons, List.length_nil, List.nodup_cons, List.nodup_nil, List.mem_singleton, List.not_mem_nil, rst, wipeD, or_false, false_or, or_self, reduceCtorEq, Nat.reduceEqDiff, Nat.reduceAdd, Nat.reduceLeDiff, Nat.zero_le, Nat.succ_ne_self, Option.getD_some, Option.some.injEq, exists_eq_left', true_and, and_true, and_self, true_implies, implies_true, not_false_eq_true, not_true_eq_false, decide_eq_true_eq, if_true, if_false, ↓reduceIte, Bool.false_eq_true, Bool.not_true, Bool.not_false, decide_true, decide_false, Bool.true_eq_false, eq_self]
    intro a1 a2
    have hc : cut [D.str w, D.str [98, 97, 115, 101], D.str [118, 97, 108, 117, 101]] (some 1) none = [D.str [98, 97, 115, 101], D.str [118, 97, 108, 117, 101]] := cut_from (by omega) (by simp)
    rw [hc]
    have g1 : gd (D.lst [D.str [98, 97, 115, 101], D.str [118, 97, 108, 117, 101]]) := ⟨rfl, by simp [dep, deps]⟩
    exact ⟨g1, g1, by rw [if_pos (by simp [eqv, eqvs])]; trivial⟩
  · intro r ρ' v σ' H' er A z
    subst er
    rw [hD, z.val.vflat rfl]
    refine kq H' fun a o ha => A.xt.keep a o ?_ (x a o ha)
    intro m
    simp [adrs, adr, List.filterMap] at m
    rw [m, hw] at ha; cases ha
end DL
namespace HX
open PySem DL
variable [WW]
theorem cls13 {K : PySem.W.Frag} {A0 A1 A2 A3 A4 A5 A6 A7 A8 A9 A10 A11 A12 : Addr}
    (e0 : PySem.W.nsIn K mainGlobals "InvalidKind" = some (some (.ref A0))) (e1 : PySem.W.nsIn K mainGlobals "InvalidState" = some (some (.ref A1))) (e2 : PySem.W.nsIn K mainGlobals "InvalidRow" = some (some (.ref A2)))
    (e3 : PySem.W.nsIn K mainGlobals "InvalidNumber" = some (some (.ref A3))) (e4 : PySem.W.nsIn K mainGlobals "InvalidEffect" = some (some (.ref A4))) (e5 : PySem.W.nsIn K mainGlobals "InvalidWished" = some (some (.ref A5)))
    (e6 : PySem.W.nsIn K mainGlobals "InvalidGoal" = some (some (.ref A6))) (e7 : PySem.W.nsIn K mainGlobals "InvalidTabs" = some (some (.ref A7))) (e8 : PySem.W.nsIn K mainGlobals "InvalidTab" = some (some (.ref A8)))
    (e9 : PySem.W.nsIn K mainGlobals "NotPossible" = some (some (.ref A9))) (e10 : PySem.W.nsIn K mainGlobals "OtherKind" = some (some (.ref A10))) (e11 : PySem.W.nsIn K mainGlobals "TooMany" = some (some (.ref A11)))
    (e12 : PySem.W.nsIn K mainGlobals "NothingToUndo" = some (some (.ref A12))) (i : Nat) (hi : i < 13) :
    ∃ x A, errNames[i]? = some x ∧ [A0, A1, A2, A3, A4, A5, A6, A7, A8, A9, A10, A11, A12][i]? = some A ∧ PySem.W.nsIn K mainGlobals x = some (some (.ref A)) := by
  rcases i with _ | _ | _ | _ | _ | _ | _ | _ | _ | _ | _ | _ | _ | i
  · exact ⟨_, _, rfl, rfl, e0⟩
  · exact ⟨_, _, rfl, rfl, e1⟩
  · exact ⟨_, _, rfl, rfl, e2⟩
  · exact ⟨_, _, rfl, rfl, e3⟩
  · exact ⟨_, _, rfl, rfl, e4⟩
  · exact ⟨_, _, rfl, rfl, e5⟩
  · exact ⟨_, _, rfl, rfl, e6⟩
  · exact ⟨_, _, rfl, rfl, e7⟩
  · exact ⟨_, _, rfl, rfl, e8⟩
  · exact ⟨_, _, rfl, rfl, e9⟩
  · exact ⟨_, _, rfl, rfl, e10⟩
  · exact ⟨_, _, rfl, rfl, e11⟩
  · exact ⟨_, _, rfl, rfl, e12⟩
  · omega
theorem cls_of {K : PySem.W.Frag} {mg : Str → Option Value} {As : List Addr} (g : ∀ {x : Str} {v : Value}, PySem.W.nsIn K mainGlobals x = some (some v) → mg x = some v)
    (h : ∀ i, i < 13 → ∃ x A, errNames[i]? = some x ∧ As[i]? = some A ∧ PySem.W.nsIn K mainGlobals x = some (some (.ref A))) (i : Nat) (x : Str) (e : errNames[i]? = some x) : ∃ A, As[i]? = some A ∧ PySem.W.nsIn K mainGlobals x = some (some (.ref A)) ∧ mg x = some (.ref A) := by
  have hi : i < 13 := (List.getElem?_eq_some_iff.mp e).1
  obtain ⟨x', A, e1, e2, e3⟩ := h i hi
  rw [e] at e1
  cases e1
  exact ⟨A, e2, e3, g e3⟩
end HX

namespace HX
open PySem PySem.Spec PyProof.Rows L2
def signV (x : Str) : List V := x.cps.toList.map fun c => V.str ⟨#[c]⟩
/-- list(a text) -/
def rListS : List V → Hp → VK → Prop := fun xs H Q => ∃ x, xs = [.str x] ∧ x.cps.size ≤ sizeLine ∧ ∀ l, H l = none → Q (.ref l) (upd H l (.lst (signV x)))
theorem vals_signs {x : Str} : ∀ (acc : List Value), acc.length = x.cps.size → (∀ (j : Nat) (v : Value), acc[j]? = some v → SignAt x j v) → Vals (signV x) acc := by
  intro acc hl h
  have key : ∀ (cs : List Nat) (vs : List Value), vs.length = cs.length → (∀ (j : Nat) (v : Value), vs[j]? = some v → ∃ c u, cs[j]? = some c ∧ v = Value.str ⟨#[c]⟩ u) → Vals (cs.map fun c => V.str ⟨#[c]⟩) vs := by
    intro cs
    induction cs with
    | nil => intro vs e _; cases vs with
      | nil => exact .nil
      | cons _ _ => simp at e
    | cons c cs ih => intro vs e g; cases vs with
      | nil => simp at e
      | cons v vs =>
        obtain ⟨c', u, e1, e2⟩ := g 0 v rfl
        simp at e1
        subst e1 e2
        exact .cons ⟨u, rfl⟩ (ih vs (by simpa using e) fun j v hj => g (j + 1) v (by simpa using hj))
  refine key x.cps.toList acc (by rw [hl]; simp) fun j v hj => ?_
  obtain ⟨c, u, e1, e2⟩ := h j v hj
  exact ⟨c, u, by rw [← e1, Array.getElem?_toList], e2⟩
theorem nextOf_str_end {prog : Program} {w : World} {A : Around} {E : Value → Shared → Prop} {s : Shared} {it : Addr} {x : Str} {t : Tok} {i : Nat} {Q : Value → Shared → Prop} (hh : A.handled = none) (hit : s.heap.IsStrIter it (strIterType x) x t i) (hx : x.cps[i]? = none)
    (hE : ∀ h' e, Heap.ExtBut it s.heap h' → (∃ o, h'.get? e = some o ∧ o.cls = .type "StopIteration") → E (.ref e) { s with heap := h' }) : wpAny (model prog w) A (Builtin.SmallTypes.nextOf (.ref it)) Q E s := by
  unfold strIterType at hit
  split at hit
  · exact wpAny_nextOf_ascii_end hh hit hx hE
  · exact wpAny_nextOf_wide_end hh hit hx hE
section
variable {X : Cx}
theorem call_listS (hc : X.calm = true) : CallR X (.type "list") rListS := by
  intro pins s σ H xs us Q I r h
  obtain ⟨x, rfl, hz, q⟩ := h
  obtain ⟨u, rfl, rx⟩ := vals1 r
  obtain ⟨t, rfl⟩ := rx
  refine call_list_str (I.ok.hd hc) x t (fun h' tk acc' c' k e a => ?_) hz
  refine ⟨.ref s.heap.objs.size, _, I.laid (t' := tk) k (Nat.le_refl _) (show ObjOk X.prog X.w _ h' _ (.lst (signV x)) from ⟨by unfold signV; simpa using hz, acc'.toList, c', ?_, by simpa using e⟩), rfl, q _ (I.hok.fresh (Nat.le_refl _))⟩
  exact vals_signs _ (by simpa using a.1) fun j v hj => a.2 j v (by simpa using hj)
/-- enumerate(a text) -/
def ItEs (x : Str) : It :=
  ⟨fun i _ => i < x.cps.size, fun i H v H' => ∃ T c, v = .ref T ∧ H T = none ∧ x.cps[i]? = some c ∧ H' = upd H T (.tup [.int (i : Nat), .str ⟨#[c]⟩]), fun i _ => x.cps.size ≤ i⟩
theorem turn_enumS {P : Program} {w : World} {K : PySem.W.Frag} {elts : List Expr} {kk : Nat} {tpos : Pos} (e it : Addr) (x : Str) (t : Tok) :
    Turn P w K (.Tuple elts kk tpos) (ItEs x) [e, it] e (fun i h => (∃ old, IsEnum h e it ((i : Nat) : Int) old) ∧ h.IsStrIter it (strIterType x) x t i ∧ e ≠ it) where
  mem := by simp
  obj := fun i h st b hb => by
    obtain ⟨⟨old, he⟩, ⟨o, ho, hc, hd⟩, _⟩ := st
    have e' : b = e ∨ b = it := by simpa using hb
    rcases e' with z | z
    · rw [z]; exact ⟨_, he, fun v q => nomatch q⟩
    · rw [z]; exact ⟨o, ho, fun v q => by rw [hd] at q; cases q⟩
  keep := fun i h h' st k => let ⟨⟨old, he⟩, ⟨o, ho, r⟩, hne⟩ := st; ⟨⟨old, k e (by simp) _ he⟩, ⟨o, k it (by simp) o ho, r⟩, hne⟩
  item := by
    intro X hP hw hK hc i pins s σ H E I hf st hg
    subst hP hw hK
    obtain ⟨⟨old, he⟩, hit, hne⟩ := st
    have hlt : i < x.cps.size := hg
    have hel : e < s.heap.objs.size := Heap.lt_size he
    have hil : it < s.heap.objs.size := by obtain ⟨_, q, _⟩ := hit; exact Heap.lt_size q
    have D : Draws X.prog X.w X.A.in1 it [it] x.cps.size (fun i v => ∃ c u, x.cps[i]? = some c ∧ v = Value.str ⟨#[c]⟩ u) (fun i h => h.IsStrIter it (strIterType x) x t i) := by
      unfold strIterType
      split
      · exact Draws.strAscii (A := X.A.in1) (show X.A.in1.handled = none from I.ok.hd hc) it x t
      · exact Draws.strWide (A := X.A.in1) (show X.A.in1.handled = none from I.ok.hd hc) it x t
    refine wpAny_pyNext_enum_itemD D he hit hlt hne (by simpa using hne) fun v h' tk hv ho hit' hT hsz hk => ?_
    obtain ⟨c, u, hcx, rfl⟩ := hv
    refine ⟨_, rfl, wpAny_letOwnedTupleGo_enum (s := { s with heap := h', toks := tk + 1 }) ho fun h'' he' sb => ?_⟩
    have hT2 : h''.get? s.heap.objs.size = some { cls := .type "tuple", data := .seq #[.int i tk, .str ⟨#[c]⟩ u] } := (sb.2 _ (Nat.ne_of_gt hel)).trans hT
    have new : ObjOk X.prog X.w (upd H s.heap.objs.size (.tup [.int (i : Nat), .str ⟨#[c]⟩])) h'' s.heap.objs.size (.tup [.int (i : Nat), .str ⟨#[c]⟩]) :=
      ⟨by show 2 ≤ sizeLine; decide, [.int i tk, .str ⟨#[c]⟩ u], .cons ⟨_, rfl⟩ (.cons ⟨_, rfl⟩ .nil), ⟨_, hT2, rfl, _, rfl⟩⟩
    have I1 : Inv X pins σ (upd H s.heap.objs.size (.tup [.int (i : Nat), .str ⟨#[c]⟩])) { s with heap := h'', toks := tk + 1 } :=
      I.turnedNew (ch := [e, it]) (fun b ob hb q => (sb.2 b (fun z => hb (by simp [z]))).trans (hk b ob (fun z => hb (by simp [z])) (fun z => hb (by simp [z])) q)) hf (Nat.le_refl _) new
    refine ⟨.ref s.heap.objs.size, _, I1, rfl, ⟨_, c, rfl, I.hok.fresh (Nat.le_refl _), hcx, rfl⟩, ⟨⟨.str ⟨#[c]⟩ u, ?_⟩, ?_, hne⟩, fun b hb => ?_⟩
    · have e1 : ((i + 1 : Nat) : Int) = (i : Int) + 1 := by omega
      rw [e1]; exact he'
    · obtain ⟨o, q, r⟩ := hit'
      exact ⟨o, (sb.2 it (Ne.symm hne)).trans q, r⟩
    · have hb' : b < s.heap.objs.size := by
        have e' : b = e ∨ b = it := by simpa using hb
        rcases e' with z | z
        · rw [z]; exact hel
        · rw [z]; exact hil
      rw [upd_ne (Nat.ne_of_lt hb')]
      exact (hf b hb).1
  done := by
    intro X hP hw hK hc i pins s σ H E I hf st hg
    subst hP hw hK
    obtain ⟨⟨old, he⟩, hit, hne⟩ := st
    have hge : x.cps.size ≤ i := hg
    obtain ⟨f0, f1, f2, f3, f4, f5⟩ := hf it (by simp)
    have hx : x.cps[i]? = none := Array.getElem?_eq_none hge
    have hT : s.TypeIs (.ref e) "enumerate" := ⟨_, he, rfl⟩
    unfold pyNext
    refine wpAny_bind (wpAny_attempt (wpAny_callSpecial?_slot (name := Str.ofString "__next__") hT F.slot_enumerate_next
      (wpAny_call_entry F.slot_enumerate_next hT F.entry_enumerate_next ?_ (F.args_enumerate_next_1 _))))
    show wpAny _ _ (field (.ref e) 2 >>= _) _ _ _
    refine wpAny_bind (wpAny_field he rfl (x := .ref it) rfl ?_)
    refine wpAny_bind (nextOf_str_end (A := X.A.in1) (show X.A.in1.handled = none from I.ok.hd hc) hit hx fun h' y he' hx' => ?_)
    obtain ⟨o, ho, hc'⟩ := hx'
    refine wpAny_bind (wpAny_isInstance (T := "StopIteration") (b := true) ⟨o, ho, hc'⟩ isSubtype_stop ?_)
    exact wpAny_pure ⟨rfl, I.turned (t' := s.toks) (fun b o hb q => he' b o hb q) f0 f1 f3 f4 f5⟩
  self := fun A i s Q E st h => let ⟨⟨_, he⟩, _⟩ := st; wpAny_pyIter_enum he h
def iEnumS (ta : TA) : TI := fun σ H R => ta σ H fun vs H1 => ∃ x, vs = [.str x] ∧ R (ItEs x) H1
theorem pi_enumS {e : Expr} {ta : TA} {p pos tpos : Pos} {elts : List Expr} {kk : Nat} (hg : Gl X "enumerate") (hm : X.mg "enumerate" = none) (ha : PA X [e] ta) (hs : starEach [e] X.env = [(false, eval e X.env)] := by rfl) :
    PI X (.Tuple elts kk tpos) (.Call (.Name "enumerate" p) [e] [] pos) (iEnumS ta) := by
  refine ⟨fun pins s σ H R I h => ?_⟩
  refine Call_ (ld_blt I hg hm boot_enumerate (PyProof.Rows.callWith_type1 (thn (ha.run pos pins s σ H _ I h) fun us s1 ⟨vs, H1, I1, r1, q1⟩ => ?_) hs rfl))
  obtain ⟨x, ex, q⟩ := q1
  subst ex
  cases r1 with
  | cons r rr =>
    cases rr
    obtain ⟨t, rfl⟩ := r
    refine call_enumerate_str fun h' he hit hsz hk => wpAny_pyIter_enum he ?_
    have I2 : Inv X pins σ H1 { s1 with heap := h' } := I1.kept (t' := s1.toks) hk
    refine ⟨s1.heap.objs.size + 1, [s1.heap.objs.size + 1, s1.heap.objs.size], _, _, H1, rfl, I2, turn_enumS (s1.heap.objs.size + 1) s1.heap.objs.size x t, ⟨⟨.none, he⟩, hit, Nat.succ_ne_self _⟩, fun b hb => ?_, q⟩
    have e' : b = s1.heap.objs.size + 1 ∨ b = s1.heap.objs.size := by simpa using hb
    have hle : s1.heap.objs.size ≤ b := by
      rcases e' with z | z
      · rw [z]; exact Nat.le_add_right _ _
      · rw [z]; exact Nat.le_refl _
    exact I1.fpOk hle (I1.hok.fresh hle)
end
end HX

namespace DL
open PySem L2 HX
variable [WW]
/-! list(text) -/
def cListS : RCd := fun rs ρ P => ∃ l, rs = [.v (.str l)] ∧ l.length ≤ 1000000 ∧ ∀ a, P (.f a (chs l)) ρ
theorem sign_dqs {K : PySem.W.Frag} {O : Addr → Prop} {H : Hp} : ∀ {l : List Nat}, Dqs K O H (chs l) (signV ⟨l.toArray⟩)
  | [] => by simp [chs, signV, Dqs]
  | c :: l => by
    have e : signV ⟨(c :: l).toArray⟩ = .str ⟨#[c]⟩ :: signV ⟨l.toArray⟩ := by simp [signV]
    rw [e]
    exact dqs_cons (by simp only [Dq]) sign_dqs
theorem cd_listS {K : PySem.W.Frag} : CallD K rListS cListS := by
  intro U σ ρ H0 H P Q rs vs z h k
  obtain ⟨l, e, hl, p⟩ := h
  obtain ⟨v, ev, q⟩ := rs1 z e
  subst ev
  have q' := q.vflat rfl
  subst q'
  refine ⟨⟨l.toArray⟩, rfl, by rw [sizeLine_eq]; simp; omega, fun a ha => ?_⟩
  obtain ⟨A, q'⟩ := z.rep.newLst ha (sign_dqs (l := l))
  exact k _ _ _ _ (p a) A q'
def qListS (P : CtR) (ρ : DEnv) (l : List Nat) : Prop := l.length ≤ 1000000 ∧ ∀ a, P (.f a (chs l)) ρ
theorem w_listS {l : List Nat} {ρ : DEnv} {P : CtR} : cListS [.v (.str l)] ρ P = (l.length ≤ 1000000 ∧ ∀ a, P (.f a (chs l)) ρ) := by
  unfold cListS
  apply propext
  constructor
  · rintro ⟨l', e, h⟩
    cases e; exact h
  · intro h; exact ⟨l, rfl, h⟩
/-! enumerate(text) -/
def diES (tr : TAd) : TId := fun ρ P E => tr ρ (fun rs ρ1 => ∃ l, rs = [.v (.str l)] ∧ P (enD 0 (chs l)) (fun _ => True) ρ1) E
theorem ites {K : PySem.W.Frag} {U : Addr → Prop} {ρ0 : DEnv} {H0 : Hp} {l : List Nat} : ItD K U (ItEs ⟨l.toArray⟩) (enD 0 (chs l)) (fun _ => True) ρ0 H0 := by
  have hz : (Str.cps ⟨l.toArray⟩).size = l.length := by simp
  have hl : (enD 0 (chs l)).length = l.length := by rw [enD_len]; simp [chs]
  refine ⟨fun ρ σ' H i A s hi => ?_, fun ρ σ' H i x H' A s hi y => ?_, fun ρ σ' H i A s hi => ?_⟩
  · show i < (Str.cps ⟨l.toArray⟩).size
    rw [hz]; rw [hl] at hi; exact hi
  · obtain ⟨T, c, rfl, hT, ec, rfl⟩ := y
    have e2 : l[i]? = some c := by simpa using ec
    have q2 : Dqs K (Ow U ρ) H [.int (i : Nat), .str [c]] [.int (i : Nat), .str ⟨#[c]⟩] := dqs_cons (by simp only [Dq]) (dqs_cons (by simp only [Dq]) dqs_nil)
    obtain ⟨A2, q3⟩ := A.rep.newTup hT q2
    refine ⟨.tup [.int (i : Nat), .str [c]], ?_, A2.toAftS, q3⟩
    rw [enD_get]
    unfold chs
    rw [List.getElem?_map, e2]
    simp
  · show (Str.cps ⟨l.toArray⟩).size ≤ i
    rw [hz]; rw [hl] at hi; exact hi
theorem di_enumS {X : Cx} {W : WX} {a : Expr} {tr : TAd} {p pos tpos : Pos} {elts : List Expr} {kk : Nat} (hm : X.mg "enumerate" = none) (h : DA X W [a] tr) (hg : Gl X "enumerate" := by rfl) (hs : starEach [a] X.env = [(false, eval a X.env)] := by rfl) : DI X W (.Tuple elts kk tpos) (.Call (.Name "enumerate" p) [a] [] pos) (diES tr) := by
  obtain ⟨s, pe, re⟩ := h
  refine ⟨_, pi_enumS hg hm pe hs, fun U σ ρ H P E R Rp h k x => ?_⟩
  refine re U σ ρ H _ E _ Rp h (fun rs ρ1 vs H1 q A z => ?_) x
  obtain ⟨l, er, q⟩ := q
  obtain ⟨v, ev, qv⟩ := rs1 z er
  subst ev
  have q' := qv.vflat rfl
  subst q'
  exact ⟨⟨l.toArray⟩, rfl, k _ _ _ _ _ q A fun U' hU => ites⟩
/-! text.index(sign) -/
def firstAt (l : List Nat) (c i : Nat) : Prop := l[i]? = some c ∧ ∀ j, j < i → l[j]? ≠ some c
open PySem.StrLaws in
theorem occ_stay (s sub : Str) (hi : Nat) : ∀ (l : List Nat) (st : Array Nat × Nat), 1 ≤ st.fst.size → (forIn l st (occBody s sub hi 1)).run.fst = st.fst
  | [], st, h => rfl
  | a :: l, st, h => by
    rw [List.forIn_cons]
    unfold occBody
    rw [if_neg (by rintro ⟨⟨⟨z, _⟩, _⟩, _⟩; omega)]
    exact occ_stay s sub hi l _ h
open PySem.StrLaws in
theorem occ_at (x : Str) (c i : Nat) (h : x.cps.toList[i]? = some c) (hn : ∀ j, j < i → x.cps.toList[j]? ≠ some c) : ∀ (n k free : Nat), free ≤ k → k ≤ i → i < k + n →
    (forIn (List.range' k n) ((#[] : Array Nat), free) (occBody x ⟨#[c]⟩ x.length 1)).run.fst = #[i]
  | 0, k, _, _, _, _ => by omega
  | n + 1, k, free, hf, hk, hl => by
    rw [List.range'_succ, List.forIn_cons]
    unfold occBody
    by_cases e : k = i
    · subst e
      obtain ⟨h1, h2⟩ := (subAt_one x c k).mpr h
      rw [if_pos ⟨⟨⟨by simp, hf⟩, h1⟩, h2⟩]
      exact occ_stay _ _ _ _ _ (by simp)
    · rw [if_neg (fun z => hn k (by omega) ((subAt_one x c k).mp ⟨z.1.2, z.2⟩))]
      exact occ_at x c i h hn n (k + 1) free (by omega) (by omega) (by omega)
open PySem.StrLaws in
theorem occ_first {l : List Nat} {c i : Nat} (h : firstAt l c i) : Builtin.Str.occurrences ⟨l.toArray⟩ ⟨#[c]⟩ 0 (Str.length ⟨l.toArray⟩) 1 = [i] := by
  rw [occ_eq]
  have hi : i < l.length := (List.getElem?_eq_some_iff.mp h.1).1
  rw [occ_at ⟨l.toArray⟩ c i (by simpa using h.1) (fun j hj => by simpa using h.2 j hj) _ 0 0 (Nat.le_refl _) (Nat.zero_le _) (by show i < 0 + (l.toArray.size + 1 - 0); simp; omega)]
abbrev rSIdx : V → List V → Hp → VK → Prop := fun x xs H Q => ∃ a b i rest, x = .str a ∧ xs = [.str b] ∧ Builtin.Str.occurrences a b 0 a.length 1 = i :: rest ∧ Q (.int (i : Nat)) H
def mIndex : RMd := fun x rs ρ P => ∃ l c i, x = .v (.str l) ∧ rs = [.v (.str [c])] ∧ firstAt l c i ∧ P (.v (.int (i : Nat))) ρ
theorem md_sindex {K : PySem.W.Frag} : MtD K rSIdx mIndex := by
  intro U σ ρ H0 H P Q x v rs vs qx z h k
  obtain ⟨l, c, i, rfl, er, hf, p⟩ := h
  obtain ⟨w, ew, q⟩ := rs1 z er
  subst ew
  have q' := q.vflat rfl
  have qx' := qx.vflat rfl
  subst q'; subst qx'
  exact ⟨⟨l.toArray⟩, ⟨#[c]⟩, i, [], rfl, rfl, occ_first hf, k _ _ _ _ p z.rep.refl (RepF.flat (.int _) rfl)⟩
def qIdx (P : CtR) (ρ : DEnv) (l c : List Nat) : Prop := ∃ ch i, c = [ch] ∧ firstAt l ch i ∧ P (.v (.int (i : Nat))) ρ
theorem w_sindex {l c : List Nat} {ρ : DEnv} {P : CtR} : mIndex (.v (.str l)) [.v (.str c)] ρ P = qIdx P ρ l c := by
  unfold mIndex qIdx
  apply propext
  constructor
  · rintro ⟨l', c', i, e1, e2, h⟩
    cases e1; cases e2
    exact ⟨_, _, rfl, h⟩
  · rintro ⟨ch, i, rfl, h⟩
    exact ⟨l, ch, i, rfl, rfl, h⟩
theorem idx_i {l : List Nat} {ch i : Nat} {ρ : DEnv} {P : CtR} (h : firstAt l ch i) (p : P (.v (.int (i : Nat))) ρ) : qIdx P ρ l [ch] := ⟨ch, i, rfl, h, p⟩
theorem first_nodup {l : List Nat} (nd : l.Nodup) {c i : Nat} (h : l[i]? = some c) : firstAt l c i := ⟨h, fun j hj e => by
  obtain ⟨h1, e1⟩ := List.getElem?_eq_some_iff.mp h
  obtain ⟨h2, e2⟩ := List.getElem?_eq_some_iff.mp e
  exact List.pairwise_iff_getElem.mp nd j i h2 h1 hj (e2.trans e1.symm)⟩
/-! the last one, and the slices of one -/
theorem atI_last {α : Type} {l : List α} {c : α} {n : Nat} (hn : l.length = n + 1) (h : l[n]? = some c) : atI l (-1) = some c := by
  unfold atI ixN
  rw [if_neg (by omega), if_pos (by omega)]
  have e : ((-1 : Int) + (l.length : Int)).toNat = n := by omega
  first
    | (rw [e]; exact h)
    | (show l[((-1 : Int) + (l.length : Int)).toNat]? = some c; rw [e]; exact h)
    | (show l[((l.length : Int) + (-1)).toNat]? = some c; rw [show ((l.length : Int) + (-1)).toNat = n by omega]; exact h)
theorem at_last {α : Type} {g : α → D} {xs : List α} {n : Nat} {x : α} {P : CtR} {ρ : DEnv} (hn : xs.length = n + 1) (hx : xs[n]? = some x) (h : P (.v (g x)) ρ) : qAt (-1) P ρ (xs.map g) :=
  ⟨g x, atI_last (n := n) (by simpa using hn) (by rw [List.getElem?_map, hx]; rfl), h⟩
theorem atS_last {l : List Nat} {n c : Nat} {P : CtR} {ρ : DEnv} (hn : l.length = n + 1) (hx : l[n]? = some c) (h : P (.v (.str [c])) ρ) : qAtS (-1) P ρ l := ⟨c, atI_last hn hx, h⟩
theorem cut_one {α : Type} {xs : List α} : cut xs none (some 1) = xs.take 1 := by
  unfold cut
  have e : HT.sIx xs.length xs.length (some 1) = min 1 xs.length := by
    show (if (1 : Int) < 0 then ((1 : Int) + (xs.length : Int)).toNat else min (1 : Int).toNat xs.length) = _
    rw [if_neg (by omega)]; rfl
  rw [e]
  show (xs.drop 0).take (min 1 xs.length - 0) = _
  rw [List.drop_zero, Nat.sub_zero]
  by_cases h : 1 ≤ xs.length
  · rw [Nat.min_eq_left h]
  · rw [Nat.min_eq_right (by omega), List.take_of_length_le (by omega), List.take_of_length_le (by omega)]
theorem cut_last {α : Type} {xs : List α} : cut xs (some (-1)) none = xs.drop (xs.length - 1) := by
  unfold cut
  have e : HT.sIx xs.length 0 (some (-1)) = xs.length - 1 := by
    show (if (-1 : Int) < 0 then ((-1 : Int) + (xs.length : Int)).toNat else min (-1 : Int).toNat xs.length) = _
    rw [if_pos (by omega)]; omega
  rw [e]
  show (xs.drop (xs.length - 1)).take (xs.length - (xs.length - 1)) = _
  rw [List.take_of_length_le (by simp)]
end DL
namespace DL
open PySem L2 HX
variable [WW]
def qEnX (P : CtI) : CtL := fun rs ρ1 => ∃ l, rs = [.v (.str l)] ∧ P (enD 0 (chs l)) (fun _ => True) ρ1
theorem w_enS {tr : TAd} {ρ : DEnv} {P : CtI} {E : EX} : diES tr ρ P E = tr ρ (qEnX P) E := rfl
theorem w_qEnX {ρ : DEnv} {P : CtI} {l : List Nat} : qEnX P [.v (.str l)] ρ = P (enD 0 (chs l)) (fun _ => True) ρ := by
  unfold qEnX
  apply propext
  constructor
  · rintro ⟨l', e, h⟩
    cases e; exact h
  · intro h; exact ⟨l, rfl, h⟩
end DL

namespace MA
/-! a bar of tabs as a text: one command -/
section
variable {α : Type}
def tstep (k : Bool) (b : List α × Nat) (c : Nat) : Option (List α × Nat) :=
  if c = 110 then some (b.1, if b.2 + 1 = b.1.length then 0 else b.2 + 1)
  else if c = 112 then some (b.1, if b.2 = 0 then b.1.length - 1 else b.2 - 1)
  else if b.1.length = 1 then none
  else some (b.1.eraseIdx b.2, if k = true then min b.2 (b.1.length - 2) else b.2 - 1)
def cutT (t : List α) (lo hi : Nat) : List α := t.take lo ++ t.drop hi
theorem cutT_len {t : List α} {lo hi : Nat} (h : lo ≤ hi) (h2 : hi ≤ t.length) : (cutT t lo hi).length = t.length - (hi - lo) := by
  unfold cutT; simp only [List.length_append, List.length_take, List.length_drop]; omega
theorem cutT_hi {t : List α} {lo hi : Nat} (h : lo ≤ hi) (h2 : hi < t.length) : (cutT t lo hi)[lo]? = t[hi]? ∧ (cutT t lo hi).eraseIdx lo = cutT t lo (hi + 1) := by
  unfold cutT
  have l1 : (t.take lo).length = lo := by rw [List.length_take]; omega
  have d : t.drop hi = t[hi] :: t.drop (hi + 1) := List.drop_eq_getElem_cons h2
  constructor
  · rw [List.getElem?_append_right (by omega), l1, Nat.sub_self, d]
    simp [h2]
  · rw [List.eraseIdx_append_of_length_le (by omega), l1, Nat.sub_self, d, List.eraseIdx_cons_zero]
theorem cutT_lo {t : List α} {lo hi : Nat} (h : lo + 1 ≤ hi) (h2 : hi ≤ t.length) : (cutT t (lo + 1) hi)[lo]? = t[lo]? ∧ (cutT t (lo + 1) hi).eraseIdx lo = cutT t lo hi := by
  unfold cutT
  have hlo : lo < t.length := by omega
  have l1 : (t.take (lo + 1)).length = lo + 1 := by rw [List.length_take]; omega
  constructor
  · rw [List.getElem?_append_left (by omega), List.getElem?_take_of_lt (by omega)]
  · rw [List.eraseIdx_append_of_lt_length (by omega)]
    congr 1
    have e : t.take (lo + 1) = t.take lo ++ [t[lo]] := by rw [List.take_add_one, List.getElem?_eq_getElem hlo]; rfl
    rw [e, List.eraseIdx_append_of_length_le (by rw [List.length_take]; omega)]
    have : lo - (t.take lo).length = 0 := by rw [List.length_take]; omega
    rw [this]
    simp
/-- behind m closings: lo, hi, the active one (its index among all, and among those left) -/
def cLo (k : Bool) (n p m : Nat) : Nat := if m = 0 then p else if k = true then min p (n - m) else max (p + 1) m - m
def cHi (k : Bool) (n p m : Nat) : Nat := if m = 0 then p else if k = true then min p (n - m) + m else max (p + 1) m
/-- the index of the active one among those left -/
def cAt (k : Bool) (n p m : Nat) : Nat := if m = 0 then p else if k = true then (if cHi k n p m < n then cLo k n p m else cLo k n p m - 1) else (if 0 < cLo k n p m then cLo k n p m - 1 else 0)
/-- .. among all -/
def cAc (k : Bool) (n p m : Nat) : Nat := if m = 0 then p else if k = true then (if cHi k n p m < n then cHi k n p m else cLo k n p m - 1) else (if 0 < cLo k n p m then cLo k n p m - 1 else cHi k n p m)
theorem c_bd {k : Bool} {n p m : Nat} (hp : p < n) (hm : m < n) : cLo k n p m ≤ cHi k n p m ∧ cHi k n p m = cLo k n p m + m ∧ cHi k n p m ≤ n ∧ cAc k n p m < n ∧ cAt k n p m < n - m := by
  unfold cAc cAt cLo cHi
  by_cases h0 : m = 0
  · simp only [h0, ↓reduceIte]; omega
  · cases k with
    | true => simp only [h0, if_true, if_false]; refine ⟨?_, ?_, ?_, ?_, ?_⟩ <;> (repeat' split) <;> first | omega | trivial | (refine .inl ⟨trivial, ?_, ?_⟩ <;> omega)
    | false => simp only [h0, if_true, if_false, Bool.false_eq_true]; refine ⟨?_, ?_, ?_, ?_, ?_⟩ <;> (repeat' split) <;> first | omega | trivial | (refine .inl ⟨trivial, ?_, ?_⟩ <;> omega)
theorem c_num {k : Bool} {n p m : Nat} (hp : p < n) (hm : m + 1 < n) : ((cAt k n p m = cLo k n p m ∧ cHi k n p m < n ∧ cLo k n p (m + 1) = cLo k n p m) ∨ (cLo k n p m = cAt k n p m + 1 ∧ cAt k n p m + 1 ≤ cHi k n p m ∧ cLo k n p (m + 1) = cAt k n p m)) ∧
    (if k = true then min (cAt k n p m) (n - (cHi k n p m - cLo k n p m) - 2) else cAt k n p m - 1) = cAt k n p (m + 1) := by
  unfold cAt cLo cHi
  by_cases h0 : m = 0
  · subst h0
    cases k with
    | true => simp only [↓reduceIte, Nat.zero_add, Nat.one_ne_zero]; refine ⟨?_, ?_⟩ <;> (repeat' split) <;> first | omega | trivial | (refine .inl ⟨trivial, ?_, ?_⟩ <;> omega)
    | false => simp only [↓reduceIte, Nat.zero_add, Nat.one_ne_zero, Bool.false_eq_true]; refine ⟨?_, ?_⟩ <;> (repeat' split) <;> first | omega | trivial | (refine .inl ⟨trivial, ?_, ?_⟩ <;> omega)
  · cases k with
    | true => simp only [h0, if_true, if_false, Nat.succ_ne_zero]; refine ⟨?_, ?_⟩ <;> (repeat' split) <;> first | omega | trivial | (refine .inl ⟨trivial, ?_, ?_⟩ <;> omega)
    | false => simp only [h0, if_true, if_false, Nat.succ_ne_zero, Bool.false_eq_true]; refine ⟨?_, ?_⟩ <;> (repeat' split) <;> first | omega | trivial | (refine .inl ⟨trivial, ?_, ?_⟩ <;> omega)
theorem c_act {k : Bool} {t : List α} {p m : Nat} (hp : p < t.length) (hm : m < t.length) : (cutT t (cLo k t.length p m) (cHi k t.length p m))[cAt k t.length p m]? = t[cAc k t.length p m]? := by
  obtain ⟨b1, b2, b3, b4, b5⟩ := c_bd (k := k) hp hm
  by_cases h0 : m = 0
  · have e1 : cLo k t.length p m = p := by unfold cLo; rw [if_pos h0]
    have e2 : cHi k t.length p m = p := by unfold cHi; rw [if_pos h0]
    have e3 : cAt k t.length p m = p := by unfold cAt; rw [if_pos h0]
    have e4 : cAc k t.length p m = p := by unfold cAc; rw [if_pos h0]
    rw [e1, e2, e3, e4]
    unfold cutT
    rw [List.take_append_drop]
  · generalize eL : cLo k t.length p m = L at *
    generalize eH : cHi k t.length p m = Hh at *
    have lowC : ∀ {L : Nat}, 0 < L → L ≤ Hh → (cutT t L Hh)[L - 1]? = t[L - 1]? := fun {L} hL hle => by
      obtain ⟨x, rfl⟩ : ∃ x, L = x + 1 := ⟨L - 1, by omega⟩
      rw [Nat.add_sub_cancel]
      exact (cutT_lo (by omega) b3).1
    cases k with
    | true =>
      by_cases hh : Hh < t.length
      · have e3 : cAt true t.length p m = L := by unfold cAt; rw [if_neg h0, if_pos rfl, eL, eH, if_pos hh]
        have e4 : cAc true t.length p m = Hh := by unfold cAc; rw [if_neg h0, if_pos rfl, eH, if_pos hh]
        rw [e3, e4]; exact (cutT_hi b1 hh).1
      · have e3 : cAt true t.length p m = L - 1 := by unfold cAt; rw [if_neg h0, if_pos rfl, eL, eH, if_neg hh]
        have e4 : cAc true t.length p m = L - 1 := by unfold cAc; rw [if_neg h0, if_pos rfl, eL, eH, if_neg hh]
        rw [e3, e4]; exact lowC (by omega) b1
    | false =>
      by_cases hl : 0 < L
      · have e3 : cAt false t.length p m = L - 1 := by unfold cAt; rw [if_neg h0, if_neg (by decide), eL, if_pos hl]
        have e4 : cAc false t.length p m = L - 1 := by unfold cAc; rw [if_neg h0, if_neg (by decide), eL, if_pos hl]
        rw [e3, e4]; exact lowC hl b1
      · have e3 : cAt false t.length p m = 0 := by unfold cAt; rw [if_neg h0, if_neg (by decide), eL, if_neg hl]
        have e4 : cAc false t.length p m = Hh := by unfold cAc; rw [if_neg h0, if_neg (by decide), eL, eH, if_neg hl]
        rw [e3, e4]
        have : L = 0 := by omega
        subst this
        exact (cutT_hi b1 (by omega)).1
theorem c_next {k : Bool} {t : List α} {p m : Nat} (hp : p < t.length) (hm : m + 1 < t.length) :
    tstep k (cutT t (cLo k t.length p m) (cHi k t.length p m), cAt k t.length p m) 99 = some (cutT t (cLo k t.length p (m + 1)) (cHi k t.length p (m + 1)), cAt k t.length p (m + 1)) := by
  obtain ⟨b1, b2, b3, b4, b5⟩ := c_bd (k := k) hp (show m < t.length by omega)
  obtain ⟨d1, d2, d3, d4, d5⟩ := c_bd (k := k) hp hm
  have hl := cutT_len (t := t) b1 b3
  show (if (cutT t _ _).length = 1 then none else some ((cutT t _ _).eraseIdx _, if k = true then min _ ((cutT t _ _).length - 2) else _ - 1)) = _
  rw [if_neg (by omega), hl]
  have key : (cutT t (cLo k t.length p m) (cHi k t.length p m)).eraseIdx (cAt k t.length p m) = cutT t (cLo k t.length p (m + 1)) (cHi k t.length p (m + 1)) ∧ (if k = true then min (cAt k t.length p m) (t.length - (cHi k t.length p m - cLo k t.length p m) - 2) else cAt k t.length p m - 1) = cAt k t.length p (m + 1) := by
    have hiC : cAt k t.length p m = cLo k t.length p m → cHi k t.length p m < t.length → cLo k t.length p (m + 1) = cLo k t.length p m → (cutT t (cLo k t.length p m) (cHi k t.length p m)).eraseIdx (cAt k t.length p m) = cutT t (cLo k t.length p (m + 1)) (cHi k t.length p (m + 1)) := fun e1 e2 e3 => by
      rw [e1, (cutT_hi b1 e2).2, d2, e3, b2]; rfl
    obtain ⟨c, e⟩ := c_num (k := k) hp hm
    refine ⟨?_, e⟩
    rcases c with ⟨e1, e2, e3⟩ | ⟨e1, e2, e3⟩
    · exact hiC e1 e2 e3
    · have e5 : cHi k t.length p (m + 1) = cHi k t.length p m := by omega
      rw [e3, e5, e1]
      exact (cutT_lo e2 b3).2
  rw [key.1, key.2]
theorem cutT_nodup {t : List α} {lo hi : Nat} (h : lo ≤ hi) (nd : t.Nodup) : (cutT t lo hi).Nodup := by
  refine List.Nodup.sublist ?_ nd
  have e : t = t.take lo ++ t.drop lo := (List.take_append_drop lo t).symm
  have s : (t.drop hi).Sublist (t.drop lo) := List.drop_sublist_drop_left t h
  have := List.Sublist.append (List.Sublist.refl (t.take lo)) s
  rw [← e] at this
  exact this
theorem cutT_mem {t : List α} {lo hi i : Nat} {c : α} (nd : t.Nodup) (hl : lo ≤ hi) (h : t[i]? = some c) : c ∈ cutT t lo hi ↔ i < lo ∨ hi ≤ i := by
  obtain ⟨hi', e⟩ := List.getElem?_eq_some_iff.mp h
  have inj : ∀ {j : Nat}, t[j]? = some c → j = i := fun {j} hj => by
    obtain ⟨hj', ej⟩ := List.getElem?_eq_some_iff.mp hj
    rcases Nat.lt_trichotomy j i with q | q | q
    · exact absurd (ej.trans e.symm) (List.pairwise_iff_getElem.mp nd j i hj' hi' q)
    · exact q
    · exact absurd (e.trans ej.symm) (List.pairwise_iff_getElem.mp nd i j hi' hj' q)
  unfold cutT
  rw [List.mem_append]
  constructor
  · rintro (m | m)
    · obtain ⟨j, hj⟩ := List.mem_iff_getElem?.mp m
      have hlt : j < lo := by
        have := (List.getElem?_eq_some_iff.mp hj).1
        rw [List.length_take] at this; omega
      rw [List.getElem?_take_of_lt hlt] at hj
      have := inj hj
      exact .inl (by omega)
    · obtain ⟨j, hj⟩ := List.mem_iff_getElem?.mp m
      rw [List.getElem?_drop] at hj
      have := inj hj
      exact .inr (by omega)
  · rintro (q | q)
    · exact .inl (List.mem_iff_getElem?.mpr ⟨i, by rw [List.getElem?_take_of_lt q]; exact h⟩)
    · exact .inr (List.mem_iff_getElem?.mpr ⟨i - hi, by rw [List.getElem?_drop]; rw [show hi + (i - hi) = i by omega]; exact h⟩)
end
end MA

namespace MA
/-! the places on a long bar -/
def nx (C : List Int) (way : Int) : Nat → Int → Int
  | 0, p => p
  | f + 1, p => if p ∈ C then nx C way f (p + way) else p
def ms (C : List Int) (way p : Int) : Nat := (C.filter fun x => decide (0 ≤ (x - p) * way)).length
def nxt (C : List Int) (p way : Int) : Int := nx C way (ms C way (p + way)) (p + way)
def Way (w : Int) : Prop := w = 1 ∨ w = -1
theorem ms_lt {C : List Int} {way p : Int} (hw : Way way) (h : p ∈ C) : ms C way (p + way) < ms C way p := by
  have sub : ∀ l : List Int, (l.filter fun x => decide (0 ≤ (x - (p + way)) * way)).length ≤ (l.filter fun x => decide (0 ≤ (x - p) * way)).length := by
    intro l
    induction l with
    | nil => exact Nat.le_refl _
    | cons a l ih =>
      simp only [List.filter_cons]
      rcases hw with rfl | rfl <;> (split <;> split <;> simp_all <;> omega)
  have key : ∀ l : List Int, p ∈ l → (l.filter fun x => decide (0 ≤ (x - (p + way)) * way)).length < (l.filter fun x => decide (0 ≤ (x - p) * way)).length := by
    intro l
    induction l with
    | nil => intro h; simp at h
    | cons a l ih =>
      intro h
      simp only [List.filter_cons]
      rcases List.mem_cons.mp h with e | h
      · subst e
        have s := sub l
        rcases hw with rfl | rfl
        · rw [if_neg (by simp; omega), if_pos (by simp)]
          simp only [List.length_cons]
          omega
        · rw [if_neg (by simp; omega), if_pos (by simp)]
          simp only [List.length_cons]
          omega
      · have s := ih h
        rcases hw with rfl | rfl <;> (split <;> split <;> simp_all <;> omega)
  exact key C h
theorem nx_more {C : List Int} {way : Int} (hw : Way way) : ∀ (f : Nat) (p : Int), ms C way p ≤ f → nx C way (f + 1) p = nx C way f p
  | 0, p, h => by
    have : p ∉ C := fun m => by have := ms_lt hw m; omega
    simp [nx, this]
  | f + 1, p, h => by
    by_cases m : p ∈ C
    · have := ms_lt hw m
      have ih := nx_more (C := C) hw f (p + way) (by omega)
      show (if p ∈ C then nx C way (f + 1) (p + way) else p) = (if p ∈ C then nx C way f (p + way) else p)
      rw [if_pos m, if_pos m, ih]
    · simp [nx, m]
theorem nx_any {C : List Int} {way p : Int} (hw : Way way) : ∀ f, ms C way p ≤ f → nx C way f p = nx C way (ms C way p) p := by
  intro f h
  induction f with
  | zero => have : ms C way p = 0 := by omega
            rw [this]
  | succ f ih =>
    by_cases e : ms C way p = f + 1
    · rw [e]
    · rw [nx_more hw f p (by omega), ih (by omega)]
/-- the value of the loop at p -/
def at_ (C : List Int) (way p : Int) : Int := nx C way (ms C way p) p
theorem at_in {C : List Int} {way p : Int} (hw : Way way) (h : p ∈ C) : at_ C way p = at_ C way (p + way) := by
  have l := ms_lt hw h
  unfold at_
  obtain ⟨m, e⟩ : ∃ m, ms C way p = m + 1 := ⟨ms C way p - 1, by omega⟩
  rw [e]
  show (if p ∈ C then nx C way m (p + way) else p) = _
  rw [if_pos h, nx_any hw m (by omega)]
theorem at_out {C : List Int} {way p : Int} (h : p ∉ C) : at_ C way p = p := by
  unfold at_
  cases ms C way p with
  | zero => rfl
  | succ m => simp [nx, h]
theorem at_spec {C : List Int} {way : Int} (hw : Way way) : ∀ (n : Nat) (p : Int), ms C way p = n → at_ C way p ∉ C ∧ 0 ≤ (at_ C way p - p) * way ∧ ∀ x, 0 ≤ (x - p) * way → (x - p) * way < (at_ C way p - p) * way → x ∈ C := by
  intro n
  induction n using Nat.strongRecOn with
  | _ n ih =>
    intro p e
    by_cases h : p ∈ C
    · have l := ms_lt hw h
      obtain ⟨h1, h2, h3⟩ := ih _ (by omega) (p + way) rfl
      rw [at_in hw h]
      refine ⟨h1, ?_, fun x hx hl => ?_⟩
      · rcases hw with rfl | rfl <;> omega
      · by_cases ex : x = p
        · rw [ex]; exact h
        · refine h3 x ?_ ?_
          · rcases hw with rfl | rfl <;> omega
          · rcases hw with rfl | rfl <;> omega
    · rw [at_out h]
      refine ⟨h, by simp, fun x hx hl => ?_⟩
      rcases hw with rfl | rfl <;> omega
theorem nxt_at (C : List Int) (p way : Int) : nxt C p way = at_ C way (p + way) := rfl
/-- what the next open place is -/
structure Nxt (C : List Int) (p way q : Int) : Prop where
  out : q ∉ C
  pos : 0 < (q - p) * way
  btw : ∀ x, 0 < (x - p) * way → (x - p) * way < (q - p) * way → x ∈ C
theorem nxt_is {C : List Int} {p way : Int} (hw : Way way) : Nxt C p way (nxt C p way) := by
  obtain ⟨h1, h2, h3⟩ := at_spec hw _ (p + way) (rfl : ms C way (p + way) = ms C way (p + way))
  rw [← nxt_at] at h1 h2 h3
  refine ⟨h1, ?_, fun x hx hl => h3 x ?_ ?_⟩
  · rcases hw with rfl | rfl <;> omega
  · rcases hw with rfl | rfl <;> omega
  · rcases hw with rfl | rfl <;> omega
theorem Nxt.uniq {C : List Int} {p way q r : Int} (hw : Way way) (a : Nxt C p way q) (b : Nxt C p way r) : q = r := by
  have h1 : ¬ (q - p) * way < (r - p) * way := fun l => a.out (b.btw q a.pos l)
  have h2 : ¬ (r - p) * way < (q - p) * way := fun l => b.out (a.btw r b.pos l)
  rcases hw with rfl | rfl <;> omega
theorem Nxt.eq {C : List Int} {p way q : Int} (hw : Way way) (a : Nxt C p way q) : nxt C p way = q := (nxt_is hw).uniq hw a
/-- there and back -/
theorem nxt_back {C : List Int} {p way : Int} (hw : Way way) (h : p ∉ C) : nxt C (nxt C p way) (-way) = p := by
  have a := nxt_is (C := C) (p := p) hw
  refine Nxt.eq (by rcases hw with rfl | rfl <;> simp [Way]) ⟨h, ?_, fun x hx hl => a.btw x ?_ ?_⟩
  · have := a.pos; rcases hw with rfl | rfl <;> omega
  · rcases hw with rfl | rfl <;> omega
  · rcases hw with rfl | rfl <;> omega
theorem nxt_inj {C : List Int} {p q way : Int} (hw : Way way) (hp : p ∉ C) (hq : q ∉ C) (e : nxt C p way = nxt C q way) : p = q := by
  rw [← nxt_back hw hp, e, nxt_back hw hq]
/-- only what is closed matters -/
theorem nxt_congr {C D : List Int} {p way : Int} (hw : Way way) (h : ∀ x, x ∈ C ↔ x ∈ D) : nxt C p way = nxt D p way := by
  have a := nxt_is (C := D) (p := p) hw
  exact Nxt.eq hw ⟨fun z => a.out ((h _).mp z), a.pos, fun x h1 h2 => (h x).mpr (a.btw x h1 h2)⟩
/-! rows of commands: 99 close, 110 next, 112 previous -/
abbrev St := List Int × Int
def wayOf (k : Bool) (c : Nat) : Int := if c = 110 ∨ c = 99 ∧ k = true then 1 else -1
theorem wayOf_way (k : Bool) (c : Nat) : Way (wayOf k c) := by unfold wayOf Way; split <;> simp
def cmd (k : Bool) (s : St) (c : Nat) : St := (if c = 99 then s.1 ++ [s.2] else s.1, nxt (if c = 99 then s.1 ++ [s.2] else s.1) s.2 (wayOf k c))
def runS (k : Bool) (s : St) (r : List Nat) : St := r.foldl (cmd k) s
theorem runS_app (k : Bool) (s : St) (a b : List Nat) : runS k s (a ++ b) = runS k (runS k s a) b := List.foldl_append
/-- two states that tell the same -/
def Sim (s t : St) : Prop := s.2 = t.2 ∧ ∀ x, x ∈ s.1 ↔ x ∈ t.1
theorem Sim.cmd {k : Bool} {s t : St} (h : Sim s t) (c : Nat) : Sim (cmd k s c) (MA.cmd k t c) := by
  obtain ⟨h1, h2⟩ := h
  have hc : ∀ x, x ∈ (if c = 99 then s.1 ++ [s.2] else s.1) ↔ x ∈ (if c = 99 then t.1 ++ [t.2] else t.1) := by
    intro x
    split
    · simp [h2, h1]
    · exact h2 x
  refine ⟨?_, hc⟩
  show nxt _ s.2 _ = nxt _ t.2 _
  exact (nxt_congr (wayOf_way k c) hc).trans (congrArg (fun z => nxt _ z _) h1)
theorem Sim.run {k : Bool} : ∀ {r : List Nat} {s t : St}, Sim s t → Sim (runS k s r) (runS k t r)
  | [], _, _, h => h
  | c :: r, s, t, h => Sim.run (r := r) (h.cmd c)
theorem Sim.refl (s : St) : Sim s s := ⟨rfl, fun _ => Iff.rfl⟩
theorem Sim.trans {s t u : St} (a : Sim s t) (b : Sim t u) : Sim s u := ⟨a.1.trans b.1, fun x => (a.2 x).trans (b.2 x)⟩
theorem Sim.symm {s t : St} (a : Sim s t) : Sim t s := ⟨a.1.symm, fun x => (a.2 x).symm⟩
/-- the active one is open; each is closed once -/
structure Good (s : St) : Prop where
  out : s.2 ∉ s.1
  nd : s.1.Nodup
theorem Good.cmd {k : Bool} {s : St} (g : Good s) (c : Nat) : Good (cmd k s c) := by
  refine ⟨(nxt_is (wayOf_way k c)).out, ?_⟩
  show (if c = 99 then s.1 ++ [s.2] else s.1).Nodup
  split
  · exact List.nodup_append.mpr ⟨g.nd, by simp, fun a ha b hb e => by
      simp at hb; subst hb; subst e; exact g.out ha⟩
  · exact g.nd
theorem Good.run {k : Bool} : ∀ {r : List Nat} {s : St}, Good s → Good (runS k s r)
  | [], _, h => h
  | c :: r, s, h => Good.run (r := r) (h.cmd c)
theorem good0 : Good ([], 0) := ⟨by simp, by simp⟩
/-- steps there and back do nothing -/
theorem np_back {k : Bool} {s : St} (g : Good s) : runS k s [110, 112] = s ∧ runS k s [112, 110] = s := by
  have e1 : wayOf k 110 = 1 := by simp [wayOf]
  have e2 : wayOf k 112 = -1 := by simp [wayOf]
  constructor
  · show cmd k (cmd k s 110) 112 = s
    simp only [MA.cmd, e1, e2]
    simp only [show ¬ ((110 : Nat) = 99) from by decide, show ¬ ((112 : Nat) = 99) from by decide, if_false]
    rw [nxt_back (.inl rfl) g.out]
  · show cmd k (cmd k s 112) 110 = s
    simp only [MA.cmd, e1, e2]
    simp only [show ¬ ((110 : Nat) = 99) from by decide, show ¬ ((112 : Nat) = 99) from by decide, if_false]
    have := nxt_back (C := s.1) (p := s.2) (way := -1) (.inr rfl) g.out
    simp only [Int.neg_neg] at this
    rw [this]
/-! the open places, from one on -/
def phiN (C : List Int) (p way : Int) : Nat → Int
  | 0 => p
  | n + 1 => nxt C (phiN C p way n) way
def phi (C : List Int) (p : Int) (j : Int) : Int := if 0 ≤ j then phiN C p 1 j.toNat else phiN C p (-1) (-j).toNat
theorem phi_0 {C : List Int} {p : Int} : phi C p 0 = p := rfl
theorem phiN_out {C : List Int} {p way : Int} (hw : Way way) (h : p ∉ C) : ∀ n, phiN C p way n ∉ C
  | 0 => h
  | n + 1 => (nxt_is hw).out
theorem phi_out {C : List Int} {p : Int} (h : p ∉ C) (j : Int) : phi C p j ∉ C := by
  unfold phi; split
  · exact phiN_out (.inl rfl) h _
  · exact phiN_out (.inr rfl) h _
theorem phi_up {C : List Int} {p : Int} (h : p ∉ C) (j : Int) : phi C p (j + 1) = nxt C (phi C p j) 1 := by
  unfold phi
  by_cases h0 : 0 ≤ j
  · rw [if_pos (by omega), if_pos h0]
    have : (j + 1).toNat = j.toNat + 1 := by omega
    rw [this]; rfl
  · rw [if_neg h0]
    obtain ⟨n, e⟩ : ∃ n : Nat, (-j).toNat = n + 1 := ⟨(-j).toNat - 1, by omega⟩
    rw [e]
    have b := nxt_back (C := C) (p := phiN C p (-1) n) (way := -1) (.inr rfl) (phiN_out (.inr rfl) h n)
    simp only [Int.neg_neg] at b
    show _ = nxt C (nxt C (phiN C p (-1) n) (-1)) 1
    rw [b]
    by_cases h1 : 0 ≤ j + 1
    · rw [if_pos h1]
      have e1 : (j + 1).toNat = 0 := by omega
      have e2 : n = 0 := by omega
      rw [e1, e2]; rfl
    · rw [if_neg h1]
      have : (-(j + 1)).toNat = n := by omega
      rw [this]
theorem phi_down {C : List Int} {p : Int} (h : p ∉ C) (j : Int) : phi C p (j - 1) = nxt C (phi C p j) (-1) := by
  have e := phi_up h (j - 1)
  have : j - 1 + 1 = j := by omega
  rw [this] at e
  rw [e, nxt_back (.inl rfl) (phi_out h _)]
theorem phi_mono1 {C : List Int} {p : Int} (h : p ∉ C) (j : Int) : ∀ n : Nat, phi C p j + n ≤ phi C p (j + n)
  | 0 => by simp
  | n + 1 => by
    have ih := phi_mono1 h j n
    have e := phi_up h (j + n)
    have q := (nxt_is (C := C) (p := phi C p (j + n)) (way := 1) (.inl rfl)).pos
    have : j + ((n + 1 : Nat) : Int) = j + n + 1 := by omega
    rw [this, e]
    omega
theorem phi_mono {C : List Int} {p : Int} (h : p ∉ C) {i j : Int} (l : i < j) : phi C p i < phi C p j := by
  have q := phi_mono1 h i (j - i).toNat
  have : i + ((j - i).toNat : Int) = j := by omega
  rw [this] at q
  omega
theorem phi_inj {C : List Int} {p : Int} (h : p ∉ C) {i j : Int} (e : phi C p i = phi C p j) : i = j := by
  by_cases l : i < j
  · have := phi_mono h l; omega
  · by_cases l' : j < i
    · have := phi_mono h l'; omega
    · omega
/-- what lies between two of them and is open is one of them -/
theorem phi_onto {C : List Int} {p : Int} (h : p ∉ C) (i : Int) : ∀ (n : Nat) (x : Int), x ∉ C → phi C p i < x → x < phi C p (i + n) → ∃ j, i < j ∧ j < i + n ∧ phi C p j = x
  | 0, x, _, h1, h2 => by simp at h2; omega
  | n + 1, x, hx, h1, h2 => by
    have ei : i + ((n + 1 : Nat) : Int) = i + n + 1 := by omega
    rw [ei] at h2
    have q := nxt_is (C := C) (p := phi C p (i + n)) (way := 1) (.inl rfl)
    rw [← phi_up h] at q
    by_cases l : x < phi C p (i + n)
    · obtain ⟨j, a, b, c⟩ := phi_onto h i n x hx h1 l
      exact ⟨j, a, by omega, c⟩
    · by_cases e : x = phi C p (i + n)
      · subst e
        refine ⟨i + n, ?_, by omega, rfl⟩
        by_cases z : i < i + n
        · exact z
        · have : (n : Int) = 0 := by omega
          rw [this] at h1; simp at h1
      · exact absurd (q.btw x (by omega) (by omega)) hx
/-- a row behind a state: as from the start, over the open places -/
theorem phi_nxt {C S D : List Int} {p k way : Int} (hw : Way way) (h : p ∉ C) (hD : ∀ x, x ∈ D ↔ x ∈ C ∨ ∃ j ∈ S, phi C p j = x) (hk : True) : nxt D (phi C p k) way = phi C p (nxt S k way) := by
  have a := nxt_is (C := S) (p := k) hw
  have hpos := a.pos
  refine Nxt.eq hw ⟨fun z => ?_, ?_, fun x hx hl => ?_⟩
  · rcases (hD _).mp z with z | ⟨j, hj, e⟩
    · exact phi_out h _ z
    · exact a.out (by rw [← phi_inj h e]; exact hj)
  · rcases hw with rfl | rfl
    · have := phi_mono h (i := k) (j := nxt S k 1) (by omega); omega
    · have := phi_mono h (i := nxt S k (-1)) (j := k) (by omega); omega
  · rw [hD]
    by_cases hc : x ∈ C
    · exact .inl hc
    · refine .inr ?_
      rcases hw with rfl | rfl
      · obtain ⟨j, j1, j2, e⟩ := phi_onto h k (nxt S k 1 - k).toNat x hc (by omega) (by
          have : k + ((nxt S k 1 - k).toNat : Int) = nxt S k 1 := by omega
          rw [this]; omega)
        exact ⟨j, a.btw j (by omega) (by omega), e⟩
      · obtain ⟨j, j1, j2, e⟩ := phi_onto h (nxt S k (-1)) (k - nxt S k (-1)).toNat x hc (by omega) (by
          have : nxt S k (-1) + ((k - nxt S k (-1)).toNat : Int) = k := by omega
          rw [this]; omega)
        exact ⟨j, a.btw j (by omega) (by omega), e⟩
/-- s behind t, over the open places of t -/
structure Over (t s u : St) : Prop where
  pl : u.2 = phi t.1 t.2 s.2
  cl : ∀ x, x ∈ u.1 ↔ x ∈ t.1 ∨ ∃ j ∈ s.1, phi t.1 t.2 j = x
theorem Over.cmd {k : Bool} {t s u : St} (g : t.2 ∉ t.1) (o : Over t s u) (c : Nat) : Over t (cmd k s c) (MA.cmd k u c) := by
  have hc : ∀ x, x ∈ (if c = 99 then u.1 ++ [u.2] else u.1) ↔ x ∈ t.1 ∨ ∃ j ∈ (if c = 99 then s.1 ++ [s.2] else s.1), phi t.1 t.2 j = x := by
    intro x
    split
    · rw [List.mem_append, o.cl, o.pl]
      constructor
      · rintro ((h | ⟨j, hj, e⟩) | h)
        · exact .inl h
        · exact .inr ⟨j, List.mem_append_left _ hj, e⟩
        · simp at h; exact .inr ⟨s.2, by simp, h.symm⟩
      · rintro (h | ⟨j, hj, e⟩)
        · exact .inl (.inl h)
        · rcases List.mem_append.mp hj with hj | hj
          · exact .inl (.inr ⟨j, hj, e⟩)
          · simp at hj; subst hj; exact .inr (by simp [e])
    · exact o.cl x
  refine ⟨?_, hc⟩
  show nxt _ u.2 _ = phi t.1 t.2 (nxt _ s.2 _)
  exact (congrArg (fun z => nxt _ z _) o.pl).trans (phi_nxt (wayOf_way k c) g hc trivial)
theorem Over.run {k : Bool} {t : St} (g : t.2 ∉ t.1) : ∀ {r : List Nat} {s u : St}, Over t s u → Over t (runS k s r) (runS k u r)
  | [], _, _, h => h
  | c :: r, _, _, h => Over.run g (r := r) (h.cmd g c)
theorem over0 (t : St) : Over t ([], 0) t := ⟨phi_0.symm, fun x => by simp⟩
/-- rows with one effect have one effect behind any row -/
theorem Sim.behind {k : Bool} {t : St} (g : Good t) {a b : List Nat} (h : Sim (runS k ([], 0) a) (runS k ([], 0) b)) : Sim (runS k t a) (runS k t b) := by
  have o1 := Over.run (k := k) g.out (r := a) (over0 t)
  have o2 := Over.run (k := k) g.out (r := b) (over0 t)
  refine ⟨by rw [o1.pl, o2.pl, h.1], fun x => ?_⟩
  rw [o1.cl, o2.cl]
  constructor
  · rintro (z | ⟨j, hj, e⟩)
    · exact .inl z
    · exact .inr ⟨j, (h.2 j).mp hj, e⟩
  · rintro (z | ⟨j, hj, e⟩)
    · exact .inl z
    · exact .inr ⟨j, (h.2 j).mpr hj, e⟩
end MA

namespace MA
/-! bounds of a row's walk; the bar of 201 places -/
def Bd (i : Nat) (s : St) : Prop := (-(i : Int) ≤ s.2 ∧ s.2 ≤ i) ∧ ∀ x ∈ s.1, -(i : Int) ≤ x ∧ x ≤ i
theorem nxt_bd {C : List Int} {p way : Int} {i : Nat} (hw : Way way) (hp : -(i : Int) ≤ p ∧ p ≤ i) (hC : ∀ x ∈ C, -(i : Int) ≤ x ∧ x ≤ i) : -((i + 1 : Nat) : Int) ≤ nxt C p way ∧ nxt C p way ≤ ((i + 1 : Nat) : Int) := by
  have a := nxt_is (C := C) (p := p) hw
  have pos := a.pos
  by_cases h : (nxt C p way) * way ≤ (i + 1 : Nat)
  · rcases hw with rfl | rfl <;> omega
  · have m : ((i + 1 : Nat) : Int) * way ∈ C := a.btw _ (by rcases hw with rfl | rfl <;> omega) (by rcases hw with rfl | rfl <;> omega)
    have := hC _ m
    rcases hw with rfl | rfl <;> omega
theorem Bd.mono {i j : Nat} {s : St} (h : Bd i s) (l : i ≤ j) : Bd j s := ⟨by have := h.1; omega, fun x hx => by have := h.2 x hx; omega⟩
theorem Bd.cmd {k : Bool} {i : Nat} {s : St} (h : Bd i s) (c : Nat) : Bd (i + 1) (cmd k s c) := by
  have hC : ∀ x ∈ (if c = 99 then s.1 ++ [s.2] else s.1), -(i : Int) ≤ x ∧ x ≤ i := by
    intro x hx
    split at hx
    · rcases List.mem_append.mp hx with hx | hx
      · exact h.2 x hx
      · simp at hx; subst hx; exact h.1
    · exact h.2 x hx
  exact ⟨nxt_bd (wayOf_way k c) h.1 hC, fun x hx => by have := hC x hx; omega⟩
theorem Bd.run {k : Bool} : ∀ {r : List Nat} {i : Nat} {s : St}, Bd i s → Bd (i + r.length) (runS k s r)
  | [], _, _, h => h
  | c :: r, i, s, h => by
    have := Bd.run (k := k) (r := r) (h.cmd (k := k) c)
    exact this.mono (by simp only [List.length_cons]; omega)
theorem bd0 : Bd 0 ([], 0) := ⟨by simp, by simp⟩
theorem len_cmd {k : Bool} {s : St} (c : Nat) : (cmd k s c).1.length ≤ s.1.length + 1 := by
  show (if c = 99 then s.1 ++ [s.2] else s.1).length ≤ _
  split <;> simp
theorem len_run {k : Bool} : ∀ {r : List Nat} {s : St}, (runS k s r).1.length ≤ s.1.length + r.length
  | [], s => Nat.le_refl _
  | c :: r, s => by
    have := len_run (k := k) (r := r) (s := cmd k s c)
    have := len_cmd (k := k) (s := s) c
    show (runS k (cmd k s c) r).1.length ≤ _
    simp only [List.length_cons]
    omega
theorem run_take {k : Bool} {r : List Nat} {i c : Nat} (h : r[i]? = some c) : runS k ([], 0) (r.take (i + 1)) = cmd k (runS k ([], 0) (r.take i)) c := by
  rw [List.take_add_one, h, runS_app]
  rfl
/-! strictly sorted lists -/
theorem strict_ext : ∀ {l m : List Int}, l.Pairwise (· < ·) → m.Pairwise (· < ·) → (∀ x, x ∈ l ↔ x ∈ m) → l = m
  | [], [], _, _, _ => rfl
  | [], b :: m, _, _, h => absurd ((h b).mpr List.mem_cons_self) (by simp)
  | a :: l, [], _, _, h => absurd ((h a).mp List.mem_cons_self) (by simp)
  | a :: l, b :: m, h1, h2, h => by
    rw [List.pairwise_cons] at h1 h2
    have e : a = b := by
      rcases List.mem_cons.mp ((h a).mp List.mem_cons_self) with e | e
      · exact e
      · rcases List.mem_cons.mp ((h b).mpr List.mem_cons_self) with e' | e'
        · exact e'.symm
        · have := h2.1 _ e
          have := h1.1 _ e'
          omega
    subst e
    rw [strict_ext h1.2 h2.2 fun x => ?_]
    constructor
    · intro hx
      rcases List.mem_cons.mp ((h x).mp (List.mem_cons_of_mem _ hx)) with e | e
      · have := h1.1 _ hx; omega
      · exact e
    · intro hx
      rcases List.mem_cons.mp ((h x).mpr (List.mem_cons_of_mem _ hx)) with e | e
      · have := h2.1 _ hx; omega
      · exact e
theorem strict_of {l : List Int} (h : l.Pairwise (· ≤ ·)) (nd : l.Nodup) : l.Pairwise (· < ·) := by
  have := h.and nd
  exact this.imp fun {a b} q => by have := q.1; have := q.2; omega
def rg : List Int := (List.range 201).map fun k => (-100 : Int) + (k : Nat)
theorem rg_strict : rg.Pairwise (· < ·) := by decide +kernel
theorem rg_mem {x : Int} : x ∈ rg ↔ -100 ≤ x ∧ x ≤ 100 := by
  unfold rg
  rw [List.mem_map]
  constructor
  · rintro ⟨k, hk, e⟩
    have := List.mem_range.mp hk
    omega
  · intro h
    exact ⟨(x + 100).toNat, List.mem_range.mpr (by omega), by omega⟩
/-- the closed places in order -/
def cl (C : List Int) : List Int := rg.filter fun x => decide (x ∈ C)
theorem cl_strict {C : List Int} : (cl C).Pairwise (· < ·) := rg_strict.filter _
theorem cl_mem {C : List Int} {x : Int} (h : ∀ x ∈ C, -100 ≤ x ∧ x ≤ 100) : x ∈ cl C ↔ x ∈ C := by
  unfold cl
  rw [List.mem_filter, rg_mem]
  constructor
  · intro q; simpa using q.2
  · intro q; exact ⟨h x q, by simpa using q⟩
theorem cl_sorted {C ns : List Int} (h : ∀ x ∈ C, -100 ≤ x ∧ x ≤ 100) (nd : C.Nodup) (p : ns.Perm C) (s : ns.Pairwise (· ≤ ·)) : ns = cl C :=
  strict_ext (strict_of s (p.nodup_iff.mpr nd)) cl_strict fun x => by rw [cl_mem h]; exact p.mem_iff
theorem cl_eq {C E : List Int} (h : ∀ x ∈ C, -100 ≤ x ∧ x ≤ 100) (h' : ∀ x ∈ E, -100 ≤ x ∧ x ≤ 100) : cl C = cl E ↔ ∀ x, x ∈ C ↔ x ∈ E := by
  constructor
  · intro e x
    rw [← cl_mem h, ← cl_mem h', e]
  · intro q
    exact strict_ext cl_strict cl_strict fun x => by rw [cl_mem h, cl_mem h', q]
/-- the open places of the bar -/
def op (C : List Int) : List Int := rg.filter fun x => !decide (x ∈ C)
theorem op_strict {C : List Int} : (op C).Pairwise (· < ·) := rg_strict.filter _
theorem op_mem {C : List Int} {x : Int} : x ∈ op C ↔ (-100 ≤ x ∧ x ≤ 100) ∧ x ∉ C := by
  unfold op
  rw [List.mem_filter, rg_mem]
  simp
theorem strict_nodup {l : List Int} (h : l.Pairwise (· < ·)) : l.Nodup := h.imp fun {a b} q => by omega
theorem get_lt {l : List Int} (h : l.Pairwise (· < ·)) {i j : Nat} {x y : Int} (hi : l[i]? = some x) (hj : l[j]? = some y) (lt : i < j) : x < y := by
  obtain ⟨h1, e1⟩ := List.getElem?_eq_some_iff.mp hi
  obtain ⟨h2, e2⟩ := List.getElem?_eq_some_iff.mp hj
  have := List.pairwise_iff_getElem.mp h i j h1 h2 lt
  rw [e1, e2] at this
  exact this
theorem get_next {l : List Int} (h : l.Pairwise (· < ·)) {a : Nat} {x y : Int} (ha : l[a]? = some x) (hy : y ∈ l) (lt : x < y) (no : ∀ z ∈ l, x < z → ¬ z < y) : l[a + 1]? = some y := by
  obtain ⟨b, hb⟩ := List.getElem?_of_mem hy
  have hab : a < b := by
    rcases Nat.lt_trichotomy a b with q | q | q
    · exact q
    · subst q; rw [ha] at hb; cases hb; omega
    · have := get_lt h hb ha q; omega
  by_cases e : b = a + 1
  · rw [← e]; exact hb
  · have hlt : a + 1 < l.length := by
      obtain ⟨h2, _⟩ := List.getElem?_eq_some_iff.mp hb
      omega
    have hm := List.getElem?_eq_getElem hlt
    have q1 := get_lt h ha hm (by omega)
    have q2 := get_lt h hm hb (by omega)
    exact absurd q2 (no _ (List.getElem_mem hlt) q1)
theorem get_prev {l : List Int} (h : l.Pairwise (· < ·)) {a : Nat} {x y : Int} (ha : l[a]? = some x) (hy : y ∈ l) (lt : y < x) (no : ∀ z ∈ l, z < x → ¬ y < z) : ∃ b, a = b + 1 ∧ l[b]? = some y := by
  obtain ⟨b, hb⟩ := List.getElem?_of_mem hy
  have hab : b < a := by
    rcases Nat.lt_trichotomy b a with q | q | q
    · exact q
    · subst q; rw [ha] at hb; cases hb; omega
    · have := get_lt h ha hb q; omega
  by_cases e : a = b + 1
  · exact ⟨b, e, hb⟩
  · have hlt : b + 1 < l.length := by
      obtain ⟨h2, _⟩ := List.getElem?_eq_some_iff.mp ha
      omega
    have hm := List.getElem?_eq_getElem hlt
    have q1 := get_lt h hb hm (by omega)
    have q2 := get_lt h hm ha (by omega)
    exact absurd q1 (no _ (List.getElem_mem hlt) q2)
theorem erase_at : ∀ {l : List Int} {a : Nat} {p : Int}, l.Nodup → l[a]? = some p → l.eraseIdx a = l.erase p
  | [], _, _, _, h => by simp at h
  | b :: l, 0, p, _, h => by
    simp at h
    subst h
    simp
  | b :: l, a + 1, p, nd, h => by
    rw [List.nodup_cons] at nd
    have h : l[a]? = some p := by simpa using h
    have hb : b ≠ p := fun e => nd.1 (by subst e; exact List.mem_of_getElem? h)
    rw [List.eraseIdx_cons_succ, erase_at nd.2 h, List.erase_cons, if_neg (by simpa using hb)]
theorem op_erase {C : List Int} {a : Nat} {p : Int} (h : (op C)[a]? = some p) : (op C).eraseIdx a = op (C ++ [p]) := by
  have hn := strict_nodup (op_strict (C := C))
  refine strict_ext ((op_strict (C := C)).sublist (List.eraseIdx_sublist _ _)) op_strict fun x => ?_
  obtain ⟨hl, e⟩ := List.getElem?_eq_some_iff.mp h
  have he : (op C).eraseIdx a = (op C).erase p := erase_at hn h
  rw [he, hn.mem_erase_iff, op_mem, op_mem]
  simp only [List.mem_append, List.mem_singleton, not_or]
  exact ⟨fun q => ⟨q.2.1, q.2.2, q.1⟩, fun q => ⟨q.2.2, q.1, q.2.1⟩⟩
/-- the bar's index moves with the active one -/
theorem op_up {C : List Int} {a : Nat} {p q : Int} (h : (op C)[a]? = some p) (n : Nxt C p 1 q) (hq : q ≤ 100) : (op C)[a + 1]? = some q := by
  have hp := op_mem.mp (List.mem_of_getElem? h)
  refine get_next op_strict h (op_mem.mpr ⟨⟨by have := n.pos; omega, hq⟩, n.out⟩) (by have := n.pos; omega) fun z hz h1 h2 => ?_
  exact (op_mem.mp hz).2 (n.btw z (by omega) (by omega))
theorem op_down {C : List Int} {a : Nat} {p q : Int} (h : (op C)[a]? = some p) (n : Nxt C p (-1) q) (hq : -100 ≤ q) : ∃ b, a = b + 1 ∧ (op C)[b]? = some q := by
  have hp := op_mem.mp (List.mem_of_getElem? h)
  refine get_prev op_strict h (op_mem.mpr ⟨⟨hq, by have := n.pos; omega⟩, n.out⟩) (by have := n.pos; omega) fun z hz h1 h2 => ?_
  exact (op_mem.mp hz).2 (n.btw z (by omega) (by omega))
/-- closing leaves the way on as it was -/
theorem Nxt.less {C : List Int} {p way q : Int} (hw : Way way) (n : Nxt (C ++ [p]) p way q) : Nxt C p way q := by
  refine ⟨fun h => n.out (List.mem_append_left _ h), n.pos, fun x h1 h2 => ?_⟩
  rcases List.mem_append.mp (n.btw x h1 h2) with h | h
  · exact h
  · simp at h; subst h; rcases hw with rfl | rfl <;> omega
structure Bar (L : List Int) (a : Nat) (s : St) : Prop where
  line : L = op s.1
  act : L[a]? = some s.2
theorem bar0 : Bar rg 100 ([], 0) := ⟨by unfold op; exact (List.filter_eq_self.mpr (by simp)).symm, by decide +kernel⟩
theorem Bar.c_right {L : List Int} {a i : Nat} {s : St} (b : Bar L a s) (bd : Bd i s) (hi : i < 100) : Bar (L.eraseIdx a) a (cmd true s 99) := by
  obtain ⟨e, h⟩ := b
  subst e
  have e := op_erase h
  refine ⟨by rw [e]; rfl, ?_⟩
  have n := nxt_is (C := s.1 ++ [s.2]) (p := s.2) (way := 1) (.inl rfl)
  have hb := (bd.cmd (k := true) 99).1
  have ew : wayOf true 99 = 1 := by simp [wayOf]
  have e2 : (cmd true s 99).2 = nxt (s.1 ++ [s.2]) s.2 1 := by show nxt _ _ (wayOf true 99) = _; rw [ew]; rfl
  rw [e2] at hb ⊢
  rw [List.getElem?_eraseIdx_of_ge (Nat.le_refl a)]
  exact op_up h (n.less (.inl rfl)) (by omega)
theorem Bar.c_left {L : List Int} {a i : Nat} {s : St} (b : Bar L a s) (bd : Bd i s) (hi : i < 100) : ∃ a', a = a' + 1 ∧ Bar (L.eraseIdx a) a' (cmd false s 99) := by
  obtain ⟨e, h⟩ := b
  subst e
  have e := op_erase h
  have n := nxt_is (C := s.1 ++ [s.2]) (p := s.2) (way := -1) (.inr rfl)
  have hb := (bd.cmd (k := false) 99).1
  have ew : wayOf false 99 = -1 := by simp [wayOf]
  have e2 : (cmd false s 99).2 = nxt (s.1 ++ [s.2]) s.2 (-1) := by show nxt _ _ (wayOf false 99) = _; rw [ew]; rfl
  rw [e2] at hb
  obtain ⟨a', ea, h'⟩ := op_down h (n.less (.inr rfl)) (by omega)
  refine ⟨a', ea, by rw [e]; rfl, ?_⟩
  rw [e2, List.getElem?_eraseIdx_of_lt (by omega)]
  exact h'
theorem Bar.n {L : List Int} {a i : Nat} {k : Bool} {s : St} (b : Bar L a s) (bd : Bd i s) (hi : i < 100) : Bar L (a + 1) (cmd k s 110) := by
  obtain ⟨e, h⟩ := b
  subst e
  have n := nxt_is (C := s.1) (p := s.2) (way := 1) (.inl rfl)
  have hb := (bd.cmd (k := k) 110).1
  have ew : wayOf k 110 = 1 := by simp [wayOf]
  have e2 : (cmd k s 110).2 = nxt s.1 s.2 1 := by show nxt _ _ (wayOf k 110) = _; rw [ew]; rfl
  rw [e2] at hb
  exact ⟨rfl, by rw [e2]; exact op_up h n (by omega)⟩
theorem Bar.p {L : List Int} {a i c : Nat} {k : Bool} {s : St} (hc : c ≠ 110 ∧ c ≠ 99) (b : Bar L a s) (bd : Bd i s) (hi : i < 100) : ∃ a', a = a' + 1 ∧ Bar L a' (cmd k s c) := by
  obtain ⟨e, h⟩ := b
  subst e
  have n := nxt_is (C := s.1) (p := s.2) (way := -1) (.inr rfl)
  have hb := (bd.cmd (k := k) c).1
  have ew : wayOf k c = -1 := by simp [wayOf, hc.1, hc.2]
  have e1 : (cmd k s c).1 = s.1 := if_neg hc.2
  have e2 : (cmd k s c).2 = nxt s.1 s.2 (-1) := by show nxt (if c = 99 then _ else _) _ (wayOf k c) = _; rw [ew, if_neg hc.2]
  rw [e2] at hb
  obtain ⟨a', ea, h'⟩ := op_down h n (by omega)
  exact ⟨a', ea, by rw [e1], by rw [e2]; exact h'⟩
theorem Bar.closed {L : List Int} {a : Nat} {s : St} (b : Bar L a s) : (rg.filter fun x => !decide (x ∈ L)) = cl s.1 := by
  rw [b.line]
  unfold cl
  refine List.filter_congr fun x hx => ?_
  have := rg_mem.mp hx
  have q : x ∈ op s.1 ↔ x ∉ s.1 := by rw [op_mem]; exact ⟨fun z => z.2, fun z => ⟨this, z⟩⟩
  by_cases h : x ∈ s.1 <;> simp [q, h]
theorem Bar.short {L : List Int} {a : Nat} {s : St} (b : Bar L a s) : a < 201 := by
  obtain ⟨h, _⟩ := List.getElem?_eq_some_iff.mp b.act
  have : L.length ≤ rg.length := by rw [b.line]; exact List.length_filter_le _ _
  have e : rg.length = 201 := by unfold rg; simp
  omega
/-! what a row does -/
def eff (k : Bool) (r : List Nat) : List Int × Int := (cl (runS k ([], 0) r).1, (runS k ([], 0) r).2)
theorem run_bd {k : Bool} {r : List Nat} (h : r.length ≤ 100) : ∀ x ∈ (runS k ([], 0) r).1, -100 ≤ x ∧ x ≤ 100 := fun x hx => by
  have := (bd0.run (k := k) (r := r)).2 x hx
  omega
theorem eff_eq {k : Bool} {r s : List Nat} (h : r.length ≤ 100) (h' : s.length ≤ 100) : eff k r = eff k s ↔ Sim (runS k ([], 0) r) (runS k ([], 0) s) := by
  unfold eff
  rw [Prod.mk.injEq, cl_eq (run_bd h) (run_bd h')]
  exact ⟨fun q => ⟨q.2, q.1⟩, fun q => ⟨q.2, q.1⟩⟩
theorem eff_pair {k : Bool} {a b : List Nat} (h : a.length + b.length + 4 ≤ 100) : eff k (a ++ [110, 112, 112, 110] ++ b) = eff k (a ++ b) := by
  rw [eff_eq (by simp; omega) (by simp; omega), runS_app, runS_app, runS_app]
  have g := good0.run (k := k) (r := a)
  have e : runS k (runS k ([], 0) a) [110, 112, 112, 110] = runS k ([], 0) a := by
    have : ([110, 112, 112, 110] : List Nat) = [110, 112] ++ [112, 110] := rfl
    rw [this, runS_app, (np_back g).1, (np_back g).2]
  rw [e]
  exact Sim.refl _
theorem eff_behind {k : Bool} {a b m : List Nat} (h : a.length + m.length ≤ 100) (h' : b.length + m.length ≤ 100) (e : eff k a = eff k b) : eff k (a ++ m) = eff k (b ++ m) := by
  rw [eff_eq (by omega) (by omega)] at e
  rw [eff_eq (by simp; omega) (by simp; omega), runS_app, runS_app]
  exact e.run
theorem eff_ahead {k : Bool} {a b m : List Nat} (h : a.length + m.length ≤ 100) (h' : b.length + m.length ≤ 100) (e : eff k a = eff k b) : eff k (m ++ a) = eff k (m ++ b) := by
  rw [eff_eq (by omega) (by omega)] at e
  rw [eff_eq (by simp; omega) (by simp; omega), runS_app, runS_app]
  exact Sim.behind good0.run e
theorem eff_n {k : Bool} {a b : List Nat} (h : a.length < 100) (h' : b.length < 100) (e : eff k (a ++ [110]) = eff k (b ++ [110])) : eff k a = eff k b := by
  rw [eff_eq (by simp; omega) (by simp; omega), runS_app, runS_app] at e
  rw [eff_eq (by omega) (by omega)]
  have ga := good0.run (k := k) (r := a)
  have gb := good0.run (k := k) (r := b)
  have ew : wayOf k 110 = 1 := by simp [wayOf]
  obtain ⟨e1, e2⟩ := e
  have e2 : ∀ x, x ∈ (runS k ([], 0) a).1 ↔ x ∈ (runS k ([], 0) b).1 := e2
  refine ⟨?_, e2⟩
  have e1 : nxt (runS k ([], 0) a).1 (runS k ([], 0) a).2 (wayOf k 110) = nxt (runS k ([], 0) b).1 (runS k ([], 0) b).2 (wayOf k 110) := e1
  rw [ew, ← nxt_congr (.inl rfl) e2] at e1
  exact nxt_inj (.inl rfl) ga.out (fun z => gb.out ((e2 _).mp z)) e1
end MA

namespace MA
/-! a bar of n tabs, the place 0 at s -/
def rgN (n : Nat) : List Int := (List.range n).map fun k => (0 : Int) + (k : Nat)
theorem rgN_strict (n : Nat) : (rgN n).Pairwise (· < ·) := by
  unfold rgN
  rw [List.pairwise_map]
  exact List.pairwise_lt_range.imp fun h => by omega
theorem rgN_mem {n : Nat} {x : Int} : x ∈ rgN n ↔ 0 ≤ x ∧ x < n := by
  unfold rgN
  rw [List.mem_map]
  constructor
  · rintro ⟨k, hk, e⟩
    have := List.mem_range.mp hk
    omega
  · intro h
    exact ⟨x.toNat, List.mem_range.mpr (by omega), by omega⟩
theorem rgN_len (n : Nat) : (rgN n).length = n := by unfold rgN; simp
def opN (n : Nat) (s : Int) (C : List Int) : List Int := (rgN n).filter fun x => !decide (x - s ∈ C)
theorem opN_strict {n : Nat} {s : Int} {C : List Int} : (opN n s C).Pairwise (· < ·) := (rgN_strict n).filter _
theorem opN_mem {n : Nat} {s x : Int} {C : List Int} : x ∈ opN n s C ↔ (0 ≤ x ∧ x < n) ∧ x - s ∉ C := by
  unfold opN
  rw [List.mem_filter, rgN_mem]
  simp
theorem opN_len {n : Nat} {s : Int} {C : List Int} : (opN n s C).length ≤ n := by
  have := List.length_filter_le (fun x => !decide (x - s ∈ C)) (rgN n)
  rw [rgN_len] at this
  exact this
theorem opN_erase {n : Nat} {s p : Int} {C : List Int} {a : Nat} (h : (opN n s C)[a]? = some (p + s)) : (opN n s C).eraseIdx a = opN n s (C ++ [p]) := by
  have hn := strict_nodup (opN_strict (n := n) (s := s) (C := C))
  refine strict_ext ((opN_strict (n := n) (s := s) (C := C)).sublist (List.eraseIdx_sublist _ _)) opN_strict fun x => ?_
  rw [erase_at hn h, hn.mem_erase_iff, opN_mem, opN_mem]
  simp only [List.mem_append, List.mem_singleton, not_or]
  constructor
  · rintro ⟨a, b, c⟩; exact ⟨b, c, fun e => a (by omega)⟩
  · rintro ⟨b, c, d⟩; exact ⟨fun e => d (by omega), b, c⟩
theorem opN_up {n : Nat} {s p q : Int} {C : List Int} {a : Nat} (h : (opN n s C)[a]? = some (p + s)) (x : Nxt C p 1 q) (hq : q + s < n) : (opN n s C)[a + 1]? = some (q + s) := by
  have hp := opN_mem.mp (List.mem_of_getElem? h)
  have pos := x.pos
  refine get_next opN_strict h (opN_mem.mpr ⟨⟨by omega, hq⟩, by rw [Int.add_sub_cancel]; exact x.out⟩) (by omega) fun z hz h1 h2 => ?_
  exact (opN_mem.mp hz).2 (x.btw (z - s) (by omega) (by omega))
theorem opN_last {n : Nat} {s p q : Int} {C : List Int} {a : Nat} (h : (opN n s C)[a]? = some (p + s)) (x : Nxt C p 1 q) (hq : (n : Int) ≤ q + s) : a + 1 = (opN n s C).length := by
  obtain ⟨ha, e⟩ := List.getElem?_eq_some_iff.mp h
  by_cases l : a + 1 < (opN n s C).length
  · have hm := List.getElem?_eq_getElem l
    have h1 := get_lt opN_strict h hm (by omega)
    have hz := opN_mem.mp (List.getElem_mem l)
    exact absurd (x.btw ((opN n s C)[a + 1] - s) (by omega) (by omega)) hz.2
  · omega
theorem opN_down {n : Nat} {s p q : Int} {C : List Int} {a : Nat} (h : (opN n s C)[a]? = some (p + s)) (x : Nxt C p (-1) q) (hq : 0 ≤ q + s) : ∃ b, a = b + 1 ∧ (opN n s C)[b]? = some (q + s) := by
  have hp := opN_mem.mp (List.mem_of_getElem? h)
  have pos := x.pos
  refine get_prev opN_strict h (opN_mem.mpr ⟨⟨hq, by omega⟩, by rw [Int.add_sub_cancel]; exact x.out⟩) (by omega) fun z hz h1 h2 => ?_
  exact (opN_mem.mp hz).2 (x.btw (z - s) (by omega) (by omega))
theorem opN_first {n : Nat} {s p q : Int} {C : List Int} {a : Nat} (h : (opN n s C)[a]? = some (p + s)) (x : Nxt C p (-1) q) (hq : q + s < 0) : a = 0 := by
  obtain ⟨ha, e⟩ := List.getElem?_eq_some_iff.mp h
  rcases a with _ | b
  · rfl
  · have l : b < (opN n s C).length := by omega
    have hm := List.getElem?_eq_getElem l
    have h1 := get_lt opN_strict hm h (by omega)
    have hz := opN_mem.mp (List.getElem_mem l)
    exact absurd (x.btw ((opN n s C)[b] - s) (by omega) (by omega)) hz.2
/-! the places that a row comes by -/
def vis (k : Bool) (s : St) : List Nat → List Int
  | [] => []
  | c :: r => (cmd k s c).2 :: vis k (cmd k s c) r
theorem vis_app (k : Bool) : ∀ (s : St) (a b : List Nat), vis k s (a ++ b) = vis k s a ++ vis k (runS k s a) b
  | s, [], b => rfl
  | s, c :: a, b => by
    show _ :: vis k (cmd k s c) (a ++ b) = _
    rw [vis_app k (cmd k s c) a b]
    rfl
theorem vis_take {k : Bool} {r : List Nat} {i c : Nat} (h : r[i]? = some c) : vis k ([], 0) (r.take (i + 1)) = vis k ([], 0) (r.take i) ++ [(cmd k (runS k ([], 0) (r.take i)) c).2] := by
  rw [List.take_add_one, h, vis_app]
  rfl
theorem vis_sub {k : Bool} {r : List Nat} {i : Nat} {x : Int} (h : x ∈ vis k ([], 0) (r.take i)) : x ∈ vis k ([], 0) r := by
  have := vis_app k ([], 0) (r.take i) (r.drop i)
  rw [List.take_append_drop] at this
  rw [this]
  exact List.mem_append_left _ h
theorem vis_bd {k : Bool} {r : List Nat} {x : Int} (h : x ∈ vis k ([], 0) r) : -(r.length : Int) ≤ x ∧ x ≤ r.length := by
  have gen : ∀ (r : List Nat) (i : Nat) (s : St), Bd i s → ∀ x ∈ vis k s r, -((i + r.length : Nat) : Int) ≤ x ∧ x ≤ ((i + r.length : Nat) : Int) := by
    intro r
    induction r with
    | nil => intro i s _ x hx; simp [vis] at hx
    | cons c r ih =>
      intro i s b x hx
      have b' := b.cmd (k := k) c
      rcases List.mem_cons.mp hx with e | e
      · subst e
        have := b'.1
        simp only [List.length_cons]
        omega
      · have := ih (i + 1) _ b' x e
        simp only [List.length_cons]
        omega
  have := gen r 0 _ bd0 x h
  omega
def lo (k : Bool) (r : List Nat) : Int := (vis k ([], 0) r).foldl min 0
def hi (k : Bool) (r : List Nat) : Int := (vis k ([], 0) r).foldl max 0
theorem foldl_min : ∀ (l : List Int) (a : Int), l.foldl min a ≤ a ∧ (∀ x ∈ l, l.foldl min a ≤ x) ∧ (l.foldl min a = a ∨ l.foldl min a ∈ l)
  | [], a => by simp
  | b :: l, a => by
    obtain ⟨h1, h2, h3⟩ := foldl_min l (min a b)
    show l.foldl min (min a b) ≤ a ∧ (∀ x ∈ b :: l, l.foldl min (min a b) ≤ x) ∧ (l.foldl min (min a b) = a ∨ l.foldl min (min a b) ∈ b :: l)
    refine ⟨by omega, fun x hx => ?_, ?_⟩
    · rcases List.mem_cons.mp hx with e | e
      · subst e; omega
      · exact h2 x e
    · rcases h3 with e | e
      · by_cases q : a ≤ b
        · left; omega
        · right; rw [e]; have : min a b = b := by omega
          rw [this]; exact List.mem_cons_self
      · right; exact List.mem_cons_of_mem _ e
theorem foldl_max : ∀ (l : List Int) (a : Int), a ≤ l.foldl max a ∧ (∀ x ∈ l, x ≤ l.foldl max a) ∧ (l.foldl max a = a ∨ l.foldl max a ∈ l)
  | [], a => by simp
  | b :: l, a => by
    obtain ⟨h1, h2, h3⟩ := foldl_max l (max a b)
    show a ≤ l.foldl max (max a b) ∧ (∀ x ∈ b :: l, x ≤ l.foldl max (max a b)) ∧ (l.foldl max (max a b) = a ∨ l.foldl max (max a b) ∈ b :: l)
    refine ⟨by omega, fun x hx => ?_, ?_⟩
    · rcases List.mem_cons.mp hx with e | e
      · subst e; omega
      · exact h2 x e
    · rcases h3 with e | e
      · by_cases q : b ≤ a
        · left; omega
        · right; rw [e]; have : max a b = b := by omega
          rw [this]; exact List.mem_cons_self
      · right; exact List.mem_cons_of_mem _ e
theorem lo_take {k : Bool} {r : List Nat} {i c : Nat} (h : r[i]? = some c) : lo k (r.take (i + 1)) = min (lo k (r.take i)) (cmd k (runS k ([], 0) (r.take i)) c).2 := by
  unfold lo; rw [vis_take h, List.foldl_append]; rfl
theorem hi_take {k : Bool} {r : List Nat} {i c : Nat} (h : r[i]? = some c) : hi k (r.take (i + 1)) = max (hi k (r.take i)) (cmd k (runS k ([], 0) (r.take i)) c).2 := by
  unfold hi; rw [vis_take h, List.foldl_append]; rfl
theorem lo_bd {k : Bool} {r : List Nat} : -(r.length : Int) ≤ lo k r ∧ lo k r ≤ 0 := by
  obtain ⟨h1, h2, h3⟩ := foldl_min (vis k ([], 0) r) 0
  refine ⟨?_, h1⟩
  rcases h3 with e | e
  · unfold lo; omega
  · exact (vis_bd e).1
theorem hi_bd {k : Bool} {r : List Nat} : 0 ≤ hi k r ∧ hi k r ≤ r.length := by
  obtain ⟨h1, h2, h3⟩ := foldl_max (vis k ([], 0) r) 0
  refine ⟨h1, ?_⟩
  rcases h3 with e | e
  · unfold hi; omega
  · exact (vis_bd e).2
/-- all places of the row lie on the bar -/
def Fits (k : Bool) (r : List Nat) (n : Nat) (s : Int) : Prop := ∀ x ∈ vis k ([], 0) r, 0 ≤ x + s ∧ x + s < n
theorem fits_room {k : Bool} {r : List Nat} {n : Nat} {s : Int} (h1 : 0 ≤ lo k r + s) (h2 : hi k r + s < n) : Fits k r n s := fun x hx => by
  have a := (foldl_min (vis k ([], 0) r) 0).2.1 x hx
  have b := (foldl_max (vis k ([], 0) r) 0).2.1 x hx
  unfold lo at h1
  unfold hi at h2
  omega
theorem not_fits_lo {k : Bool} {r : List Nat} {n : Nat} {s : Int} (h0 : lo k r < 0) (h1 : lo k r + s < 0) : ¬ Fits k r n s := fun f => by
  rcases (foldl_min (vis k ([], 0) r) 0).2.2 with e | e
  · unfold lo at h0; omega
  · have := f _ e
    unfold lo at h1
    omega
theorem not_fits_hi {k : Bool} {r : List Nat} {n : Nat} {s : Int} (h0 : 0 < hi k r) (h1 : (n : Int) ≤ hi k r + s) : ¬ Fits k r n s := fun f => by
  rcases (foldl_max (vis k ([], 0) r) 0).2.2 with e | e
  · unfold hi at h0; omega
  · have := f _ e
    unfold hi at h1
    omega
structure BarN (n : Nat) (s : Int) (L : List Int) (a : Nat) (u : St) : Prop where
  line : L = opN n s u.1
  act : L[a]? = some (u.2 + s)
theorem barN0 {n : Nat} {s : Int} (h0 : 0 ≤ s) (h1 : s < n) : BarN n s (rgN n) s.toNat ([], 0) := by
  refine ⟨by unfold opN; exact (List.filter_eq_self.mpr (by simp)).symm, ?_⟩
  have hl : s.toNat < (rgN n).length := by rw [rgN_len]; omega
  rw [List.getElem?_eq_getElem hl]
  unfold rgN
  simp
  omega
/-- one command: on, or against an edge -/
theorem BarN.n {n : Nat} {s : Int} {L : List Int} {a : Nat} {k : Bool} {u : St} (b : BarN n s L a u) : ((cmd k u 110).2 + s < n ∧ a + 1 < L.length ∧ BarN n s L (a + 1) (cmd k u 110)) ∨ ((n : Int) ≤ (cmd k u 110).2 + s ∧ a + 1 = L.length) := by
  obtain ⟨e, h⟩ := b
  subst e
  have x := nxt_is (C := u.1) (p := u.2) (way := 1) (.inl rfl)
  have ew : wayOf k 110 = 1 := by simp [wayOf]
  have e2 : (cmd k u 110).2 = nxt u.1 u.2 1 := by show nxt _ _ (wayOf k 110) = _; rw [ew]; rfl
  by_cases q : (cmd k u 110).2 + s < n
  · rw [e2] at q
    have g := opN_up h x q
    exact .inl ⟨by rw [e2]; exact q, (List.getElem?_eq_some_iff.mp g).1, rfl, by rw [e2]; exact g⟩
  · exact .inr ⟨by omega, opN_last h x (by rw [← e2]; omega)⟩
theorem BarN.p {n c : Nat} {s : Int} {L : List Int} {a : Nat} {k : Bool} {u : St} (hc : c ≠ 110 ∧ c ≠ 99) (b : BarN n s L a u) : (0 ≤ (cmd k u c).2 + s ∧ ∃ a', a = a' + 1 ∧ BarN n s L a' (cmd k u c)) ∨ ((cmd k u c).2 + s < 0 ∧ a = 0) := by
  obtain ⟨e, h⟩ := b
  subst e
  have x := nxt_is (C := u.1) (p := u.2) (way := -1) (.inr rfl)
  have ew : wayOf k c = -1 := by simp [wayOf, hc.1, hc.2]
  have e1 : (cmd k u c).1 = u.1 := if_neg hc.2
  have e2 : (cmd k u c).2 = nxt u.1 u.2 (-1) := by show nxt (if c = 99 then _ else _) _ (wayOf k c) = _; rw [ew, if_neg hc.2]
  by_cases q : 0 ≤ (cmd k u c).2 + s
  · rw [e2] at q
    obtain ⟨a', ea, g⟩ := opN_down h x q
    exact .inl ⟨by rw [e2]; exact q, a', ea, by rw [e1], by rw [e2]; exact g⟩
  · exact .inr ⟨by omega, opN_first h x (by rw [← e2]; omega)⟩
theorem BarN.c_right {n : Nat} {s : Int} {L : List Int} {a : Nat} {u : St} (b : BarN n s L a u) : ((cmd true u 99).2 + s < n ∧ a + 1 < L.length ∧ BarN n s (L.eraseIdx a) a (cmd true u 99)) ∨ ((n : Int) ≤ (cmd true u 99).2 + s ∧ a + 1 = L.length) := by
  obtain ⟨e, h⟩ := b
  subst e
  have e := opN_erase h
  have x := (nxt_is (C := u.1 ++ [u.2]) (p := u.2) (way := 1) (.inl rfl)).less (.inl rfl)
  have ew : wayOf true 99 = 1 := by simp [wayOf]
  have e2 : (cmd true u 99).2 = nxt (u.1 ++ [u.2]) u.2 1 := by show nxt _ _ (wayOf true 99) = _; rw [ew]; rfl
  by_cases q : (cmd true u 99).2 + s < n
  · rw [e2] at q
    have g := opN_up h x q
    refine .inl ⟨by rw [e2]; exact q, (List.getElem?_eq_some_iff.mp g).1, by rw [e]; rfl, ?_⟩
    rw [e2, List.getElem?_eraseIdx_of_ge (Nat.le_refl a)]
    exact g
  · exact .inr ⟨by omega, opN_last h x (by rw [← e2]; omega)⟩
theorem BarN.c_left {n : Nat} {s : Int} {L : List Int} {a : Nat} {u : St} (b : BarN n s L a u) : (0 ≤ (cmd false u 99).2 + s ∧ ∃ a', a = a' + 1 ∧ BarN n s (L.eraseIdx a) a' (cmd false u 99)) ∨ ((cmd false u 99).2 + s < 0 ∧ a = 0) := by
  obtain ⟨e, h⟩ := b
  subst e
  have e := opN_erase h
  have x := (nxt_is (C := u.1 ++ [u.2]) (p := u.2) (way := -1) (.inr rfl)).less (.inr rfl)
  have ew : wayOf false 99 = -1 := by simp [wayOf]
  have e2 : (cmd false u 99).2 = nxt (u.1 ++ [u.2]) u.2 (-1) := by show nxt _ _ (wayOf false 99) = _; rw [ew]; rfl
  by_cases q : 0 ≤ (cmd false u 99).2 + s
  · rw [e2] at q
    obtain ⟨a', ea, g⟩ := opN_down h x q
    refine .inl ⟨by rw [e2]; exact q, a', ea, by rw [e]; rfl, ?_⟩
    rw [e2, List.getElem?_eraseIdx_of_lt (by omega)]
    exact g
  · exact .inr ⟨by omega, opN_first h x (by rw [← e2]; omega)⟩
/-- the way of a command -/
theorem way_n {k : Bool} {u : St} : u.2 < (cmd k u 110).2 := by
  have x := nxt_is (C := u.1) (p := u.2) (way := 1) (.inl rfl)
  have ew : wayOf k 110 = 1 := by simp [wayOf]
  have e2 : (cmd k u 110).2 = nxt u.1 u.2 1 := by show nxt _ _ (wayOf k 110) = _; rw [ew]; rfl
  have := x.pos
  omega
/-! the mirror -/
def sw (c : Nat) : Nat := if c = 110 then 112 else if c = 112 then 110 else c
theorem nxt_neg {C : List Int} {p way : Int} (hw : Way way) : nxt (C.map fun x => -x) (-p) (-way) = -nxt C p way := by
  have a := nxt_is (C := C) (p := p) hw
  refine Nxt.eq (by rcases hw with rfl | rfl <;> simp [Way]) ⟨fun h => ?_, ?_, fun x h1 h2 => ?_⟩
  · obtain ⟨y, hy, e⟩ := List.mem_map.mp h
    have : y = nxt C p way := by omega
    rw [this] at hy
    exact a.out hy
  · have := a.pos
    rcases hw with rfl | rfl <;> omega
  · exact List.mem_map.mpr ⟨-x, a.btw (-x) (by rcases hw with rfl | rfl <;> omega) (by rcases hw with rfl | rfl <;> omega), by omega⟩
def ngS (u : St) : St := (u.1.map (fun x => -x), -u.2)
theorem cmd_neg {k : Bool} {u : St} {c : Nat} (hc : c = 99 ∨ c = 110 ∨ c = 112) : cmd (!k) (ngS u) (sw c) = ngS (cmd k u c) := by
  have ew : wayOf (!k) (sw c) = - wayOf k c := by
    rcases hc with rfl | rfl | rfl <;> cases k <;> decide
  have e9 : (sw c = 99) ↔ (c = 99) := by
    rcases hc with rfl | rfl | rfl <;> simp [sw]
  have eC : (if sw c = 99 then (ngS u).1 ++ [(ngS u).2] else (ngS u).1) = (if c = 99 then u.1 ++ [u.2] else u.1).map fun x => -x := by
    by_cases h : c = 99
    · rw [if_pos (e9.mpr h), if_pos h]; simp [ngS]
    · rw [if_neg (fun z => h (e9.mp z)), if_neg h]; rfl
  show (_, nxt (if sw c = 99 then (ngS u).1 ++ [(ngS u).2] else (ngS u).1) (ngS u).2 (wayOf (!k) (sw c))) = ((if c = 99 then u.1 ++ [u.2] else u.1).map fun x => -x, -nxt _ u.2 (wayOf k c))
  rw [eC, ew]
  exact congrArg _ (nxt_neg (wayOf_way k c))
theorem vis_neg {k : Bool} : ∀ {r : List Nat} {u : St}, (∀ c ∈ r, c = 99 ∨ c = 110 ∨ c = 112) → vis (!k) (ngS u) (r.map sw) = (vis k u r).map fun x => -x
  | [], _, _ => rfl
  | c :: r, u, h => by
    show (cmd (!k) (ngS u) (sw c)).2 :: vis (!k) (cmd (!k) (ngS u) (sw c)) (r.map sw) = _
    rw [cmd_neg (h c List.mem_cons_self), vis_neg fun x hx => h x (List.mem_cons_of_mem _ hx)]
    rfl
theorem foldl_neg : ∀ (l : List Int) (a : Int), (l.map fun x => -x).foldl min (-a) = -(l.foldl max a)
  | [], a => rfl
  | b :: l, a => by
    show (l.map fun x => -x).foldl min (min (-a) (-b)) = -(l.foldl max (max a b))
    have : min (-a) (-b) = -(max a b) := by omega
    rw [this, foldl_neg l]
theorem foldl_neg' : ∀ (l : List Int) (a : Int), (l.map fun x => -x).foldl max (-a) = -(l.foldl min a)
  | [], a => rfl
  | b :: l, a => by
    show (l.map fun x => -x).foldl max (max (-a) (-b)) = -(l.foldl min (min a b))
    have : max (-a) (-b) = -(min a b) := by omega
    rw [this, foldl_neg' l]
theorem room_neg {k : Bool} {r : List Nat} (h : ∀ c ∈ r, c = 99 ∨ c = 110 ∨ c = 112) : lo (!k) (r.map sw) = -hi k r ∧ hi (!k) (r.map sw) = -lo k r := by
  have e := vis_neg (k := k) (u := ([], 0)) h
  have e0 : ngS ([], 0) = ([], 0) := rfl
  rw [e0] at e
  unfold lo hi
  rw [e]
  exact ⟨foldl_neg _ 0, foldl_neg' _ 0⟩
end MA

/-! set(text), len(set(text)) -/
namespace HT
open PySem PySem.Spec PyProof.Rows
def sg (c : Nat) : Str := ⟨#[c]⟩
def addS (l : List Nat) (c : Nat) : List Nat := if c ∈ l then l else l ++ [c]
def metS (x : List Nat) : List Nat := x.foldl addS []
theorem metS_app (x : List Nat) (c : Nat) : metS (x ++ [c]) = addS (metS x) c := by unfold metS; rw [List.foldl_append]; rfl
theorem addS_len (l : List Nat) (c : Nat) : (addS l c).length = if c ∈ l then l.length else l.length + 1 := by unfold addS; split <;> simp
theorem metS_le : ∀ x : List Nat, ∀ l : List Nat, (x.foldl addS l).length ≤ l.length + x.length
  | [], l => by simp
  | c :: x, l => by
    rw [List.foldl_cons]
    have := metS_le x (addS l c)
    rw [addS_len] at this
    simp only [List.length_cons]
    split at this <;> omega
def inS (l : List Nat) (k : Str) : Bool := (l.map sg).any (· == k)
theorem sg_inj {a b : Nat} (h : sg a = sg b) : a = b := by
  have : (sg a).cps = (sg b).cps := by rw [h]
  simpa [sg] using this
theorem inS_sg {l : List Nat} {c : Nat} : inS l (sg c) = decide (c ∈ l) := by
  unfold inS
  rw [List.any_map]
  by_cases h : c ∈ l
  · rw [decide_eq_true h, List.any_eq_true]
    exact ⟨c, h, by simp⟩
  · rw [decide_eq_false h, List.any_eq_false]
    intro d hd e
    have : sg d = sg c := by simpa using e
    exact h (sg_inj this ▸ hd)
theorem inS_add {l : List Nat} {c : Nat} (k : Str) : (inS l k || decide (k = sg c)) = inS (addS l c) k := by
  unfold addS
  by_cases h : c ∈ l
  · rw [if_pos h]
    by_cases e : k = sg c
    · subst e; rw [inS_sg, decide_eq_true h]; rfl
    · simp [e]
  · rw [if_neg h]
    unfold inS
    rw [List.map_append, List.any_append]
    by_cases e : k = sg c
    · subst e; simp
    · have hb : (sg c == k) = false := by simpa [beq_iff_eq] using (fun h' : sg c = k => e h'.symm)
      simp [hb, e]
/-- what the set at S holds once the first i signs are in it -/
abbrev Held (prog : Program) (w : World) (x : Str) (S : Addr) (i : Nat) (h : Heap) : Prop := h.SetOf (PySem.strKind prog w) S (inS (metS (x.cps.toList.take i))) (metS (x.cps.toList.take i)).length
theorem held_stay {prog : Program} {w : World} {x : Str} {S : Addr} {i : Nat} {h h' : Heap} (H : Held prog w x S i h) (k : ∀ o, h.get? S = some o → h'.get? S = some o) : Held prog w x S i h' :=
  let ⟨o, es, ep, t, ho, r⟩ := H
  ⟨o, es, ep, t, k o ho, r⟩
theorem met_room {x : Str} {i : Nat} : (metS (x.cps.toList.take i)).length ≤ i := by
  have h0 : (metS (x.cps.toList.take i)).length ≤ 0 + (x.cps.toList.take i).length := metS_le _ []
  have h1 : (x.cps.toList.take i).length ≤ i := by simp; omega
  omega
theorem met_next {x : Str} {i c : Nat} (hc : x.cps[i]? = some c) : metS (x.cps.toList.take (i + 1)) = addS (metS (x.cps.toList.take i)) c := by
  have e : x.cps.toList[i]? = some c := by rw [Array.getElem?_toList]; exact hc
  rw [List.take_add_one, e]
  exact metS_app _ c
section
variable {prog : Program} {w : World} {A : Around} {I S : Addr} {fp wr : List Addr} {G : Array GenState → Array GenState → Prop} {x : Str} {St : Nat → Shared → Prop}
/-- the signs of a text into a set, one turn after the other -/
theorem signsIn (W : WalksS prog w A.in1 I fp wr G x.cps.size (SignAt x) St) (hS : S ∉ fp) (hb : x.cps.size + 1 < scanBound) {R : Result → Shared → Prop} :
    ∀ (left i : Nat) (s : Shared), i + left = x.cps.size → St i s → Held prog w x S i s.heap → (∀ s', Moved (S :: wr) G s s' → Held prog w x S x.cps.size s'.heap → R (.ok (.ret .none)) s') →
      codeAny (model prog w) A (.builtin "set.update.loop" ⟨[.ref S, .ref I], []⟩) R s := by
  have out : S ∉ wr := fun z => hS (W.sub _ z)
  have more : ∀ b ∈ wr, b ∈ S :: wr := fun b z => List.mem_cons_of_mem _ z
  intro left
  induction left with
  | zero =>
    rintro i s rfl st held fin
    refine codeAny_builtin PyProof.Rows.F.entry_set_update_loop ?_
    rw [Around.under_plainId PyProof.Rows.F.plain_set_update_loop _]
    exact wpAny_bind (m := pyNext (.ref I)) (W.done s _ _ st fun s' mv => wpAny_pure (fin s' (mv.mono more) (held_stay held fun o e => mv.heap S o out e)))
  | succ left ih =>
    intro i s hi st held fin
    refine codeAny_builtin PyProof.Rows.F.entry_set_update_loop ?_
    rw [Around.under_plainId PyProof.Rows.F.plain_set_update_loop _]
    refine wpAny_bind (m := pyNext (.ref I)) (W.item i s _ _ (by omega) st fun v s' at' st' mv => ?_)
    obtain ⟨c, t, hc, rfl⟩ := at'
    have held' := held_stay held fun o e => mv.heap S o out e
    refine wpAny_bind (m := holding [Value.str (sg c) t] (setAdd S (.str (sg c) t))) (wpAny_holding ?_)
    unfold setAdd
    refine wpAny_holding (wpAny_bind ((PySem.strKind prog w).pyHash (k := sg c) (strKind_is _ _ _ _) ?_))
    have room : (metS (x.cps.toList.take i)).length + 1 < scanBound := by have := met_room (x := x) (i := i); omega
    refine wpAny_setAddHashed_of (knd := PySem.strKind prog w) (s := { s' with toks := s'.toks + 1 }) (strKind_is _ _ _ _) rfl held' room fun h' same got => ?_
    have stays : ∀ b o, b ≠ S → s'.heap.get? b = some o → h'.get? b = some o := fun b o nb e => by rw [same.2 b nb]; exact e
    have got' : Held prog w x S (i + 1) h' := SetOf_congr got (fun k' => by rw [met_next hc]; exact inS_add k') (by
      rw [met_next hc, addS_len, inS_sg]
      by_cases h : c ∈ metS (x.cps.toList.take i) <;> simp [h])
    refine wpAny_pure ⟨plainId_quiet PyProof.Rows.F.plain_set_update_loop _, ih (i + 1) _ (by omega) (W.frame _ s' _ _ st' (Nat.le_succ _) fun b z o e => stays b o (fun q => hS (q ▸ z)) e) got' fun s'' mv' held'' => fin s'' (Moved.trans W.gtrans ((mv.mono more).then_heap (Nat.le_succ _) fun b o z e => stays b o (fun q => z (q ▸ List.mem_cons_self)) e) mv') held''⟩
end
section
variable {prog : Program} {w : World} {A : Around} {E : Value → Shared → Prop} {s : Shared}
/-- set(text) -/
theorem call_set_str {x : Str} {t : Tok} {Q : Value → Shared → Prop} (hh : A.handled = none) (hb : x.cps.size + 1 < scanBound)
    (h : ∀ (h' : Heap) (tk : Nat), Held prog w x s.heap.objs.size x.cps.size h' → (∀ b o, b < s.heap.objs.size → s.heap.get? b = some o → h'.get? b = some o) → Q (.ref s.heap.objs.size) { s with heap := h', toks := tk }) :
    wpAny (model prog w) A (call (.type "set") [.str x t]) Q E s := by
  -- type.__call__: the class's own facts
  obtain ⟨_, _, hmro⟩ := PySem.F.called_set.mro
  have f1 := PySem.F.called_set.made
  have f2 := PySem.F.called_set.sub
  have f3 := PySem.F.called_set.notType
  have f4 := PySem.F.called_set.canCreate
  have f5 := PySem.F.typeCall_set_1 (.str x t)
  have f6 := PySem.F.called_set.init.lookup
  have f7 := PySem.F.called_set.init.bind (.ref s.heap.objs.size)
  refine wpAny_call (codeAny_of_tree ?_)
  change wpAny _ _ (callAny (.type "set") _) _ _ _
  refine wpAny_pure ⟨Code.quiet_builtin _ (by decide +kernel), codeAny_builtin PySem.F.entry_type_call ?_⟩
  rw [Around.under_plain (weight_type_call_type "set" [.str x t] []) rfl]
  repeat (any_goals (first | assumption | wp_step))
  -- set.__new__
  refine codeAny_mono (code_set_new_1 (.str x t) (E := E) (Q₁ := fun obj s₁ => ∃ led : Bool, obj = .ref s.heap.objs.size ∧ s₁ = { s with heap := s.heap.push { cls := .type "set", dict := none, data := .set #[] 0 (.fresh 0 0 led) } }) fun led => ⟨led, rfl, rfl⟩) fun r s₁ q => ?_
  cases r with
  | error e => exact q
  | ok fl =>
  cases fl <;> first | exact q.elim | skip
  obtain ⟨led, rfl, rfl⟩ := q
  have hn : (s.heap.push { cls := .type "set", dict := none, data := .set #[] 0 (.fresh 0 0 led) }).get? s.heap.objs.size = some { cls := .type "set", dict := none, data := .set #[] 0 (.fresh 0 0 led) } := Heap.get?_push_size _ rfl
  have hT : Shared.TypeIs { s with heap := s.heap.push { cls := .type "set", dict := none, data := .set #[] 0 (.fresh 0 0 led) } } (.ref s.heap.objs.size) "set" := ⟨_, hn, rfl⟩
  repeat (any_goals (first | assumption | wp_step))
  -- set.__init__
  refine codeAny_mono (codeAny_call_builtin (R := wants (fun r s₂ => r = .none ∧ Q (.ref s.heap.objs.size) s₂) E) PySem.F.called_set.init.plain PySem.F.entry_set_init (check_set_init_1 hT ?_)) fun r₂ s₂ q2 => ?_
  · have sub1 := PySem.F.sub_str_set
    have sub2 := PySem.F.sub_str_frozenset
    have nd : (Value.type "str" == Value.type "dict") = false := by decide
    unfold Builtin.«set.__init__» noKeywords Builtin.Frozenset.updateFrom
    generalize hPI : pyIter = PI
    wp_walk
    subst hPI
    refine wpAny_pyIter_str fun o St W st0 => ?_
    refine wpAny_bind (wpAny_runValue ?_)
    generalize hH : s.heap.push { cls := .type "set", dict := none, data := .set #[] 0 (.fresh 0 0 led) } = HH at W st0 hn ⊢
    have sz : HH.objs.size = s.heap.objs.size + 1 := by rw [← hH, Heap.size_push]
    have ne : s.heap.objs.size ≠ HH.objs.size := by omega
    have h0 : Held prog w x s.heap.objs.size 0 (HH.push o) := by
      exact SetOf_congr ((setObjOf_fresh (knd := PySem.strKind prog w) led).setOf (Heap.get?_push_of_some _ hn) (by unfold scanBound; omega)) (fun _ => rfl) rfl
    refine signsIn ((W _ (by simp [hh])).toS) (fun z => ne (List.mem_singleton.mp z)) hb x.cps.size 0 _ (Nat.zero_add _) st0 h0 fun s' mv held => ?_
    obtain ⟨h', g', d', tk', os'⟩ := s'
    obtain rfl : g' = s.gens := mv.gens
    obtain rfl : d' = s.drawn := mv.drawn
    obtain rfl : os' = s.os := mv.os
    refine wpAny_pure (wpAny_pure ⟨rfl, h h' tk' held fun b o' lt e => mv.heap b o' (fun z => ?_) (Heap.get?_push_of_some _ (hH ▸ Heap.get?_push_of_some _ e))⟩)
    rcases List.mem_cons.mp z with z | z
    · exact absurd lt (by rw [z]; exact Nat.lt_irrefl _)
    · rw [List.mem_singleton.mp z, sz] at lt
      exact absurd lt (Nat.not_lt.mpr (Nat.le_succ _))
  · cases r₂ with
    | error e => exact q2
    | ok fl =>
      cases fl with
      | ret u =>
        obtain ⟨rfl, q2⟩ := q2
        repeat (any_goals (first | assumption | wp_step))
      | _ => exact q2.elim
end
end HT
namespace L2
open PySem PySem.Spec PyProof.Rows
section
variable {X : Cx}
/-- len(set(text)) -/
def tLenSetT (ta : TE) : TE := fun σ H Q => ta σ H fun x H1 => ∃ z : Str, x = .str z ∧ z.cps.size ≤ 4000 ∧ Q (.int ((HT.metS z.cps.toList).length : Nat)) H1
theorem pe_lenSetT {a : Expr} {ta : TE} {p p2 q pos : Pos} (hc : X.calm = true) (hg : Gl X "len") (hm : X.mg "len" = none) (hg2 : Gl X "set") (hm2 : X.mg "set" = none) (ha : PE X a ta)
    (na : starEach [a] X.env = (false, eval a X.env) :: starEach [] X.env := by rfl) : PE X (.Call (.Name "len" p) [.Call (.Name "set" p2) [a] [] q] [] pos) (tLenSetT ta) := by
  refine ⟨fun pins s σ H Q I h => ?_⟩
  refine Call_ (ld_blt I hg hm boot_len ?_)
  refine PyProof.Rows.callWith_builtin1 (PyProof.Rows.args_cons ?_ rfl) rfl rfl
  refine Call_ (ld_blt I hg2 hm2 boot_set ?_)
  refine PyProof.Rows.callWith_type1 (PyProof.Rows.args_cons (thn (ha.run pins s σ H _ I h) fun v s1 ⟨x, H1, I1, r1, q1⟩ => PyProof.Rows.args_nil ?_) na) na rfl
  obtain ⟨z, rfl, hz, q1⟩ := q1
  obtain ⟨t, rfl⟩ := r1
  refine HT.call_set_str (I1.ok.hd hc) (by unfold scanBound; omega) fun h' tk hS hk => ?_
  refine PyProof.Rows.args_nil ?_
  have hall : z.cps.toList.take z.cps.size = z.cps.toList := List.take_of_length_le (by rw [Array.length_toList]; omega)
  unfold HT.Held at hS
  rw [hall] at hS
  obtain ⟨o, es, ep, t, ho, hex, hd, _, _, _, hf, hn⟩ := hS
  have I2 : Inv X pins σ H1 { s1 with heap := h', toks := tk } := I1.kept fun b o e => hk b o (Heap.lt_size e) e
  have hle : (HT.metS z.cps.toList).length ≤ z.cps.size := by
    have h0 : (HT.metS z.cps.toList).length ≤ 0 + z.cps.toList.length := HT.metS_le z.cps.toList []
    have h1 : z.cps.toList.length = z.cps.size := Array.length_toList
    omega
  exact call_len_set ho hex hd hf (by rw [hn] <;> omega) ⟨.int (HT.metS z.cps.toList).length, H1, I2.tok _, ⟨_, by rw [hn]⟩, q1⟩
end
end L2

namespace DL
open PySem L2
variable [WW]
section
variable {X : Cx} {W : WX} {a : Expr} {t : TD} {p p2 q pos : Pos}
def qLenSet (P : CtR) : CtR := fun r ρ => match r with
  | .v (.str l) => l.length ≤ 4000 ∧ P (.v (.int ((HT.metS l).length : Nat))) ρ
  | _ => False
def dLenSet (t : TD) : TD := fun ρ P E => t ρ (qLenSet P) E
theorem w_lenSet {ρ : DEnv} {P : CtR} {E : EX} : dLenSet t ρ P E = t ρ (qLenSet P) E := rfl
theorem w_qLenSet {ρ : DEnv} {P : CtR} {l : List Nat} : qLenSet P (.v (.str l)) ρ = (l.length ≤ 4000 ∧ P (.v (.int ((HT.metS l).length : Nat))) ρ) := rfl
theorem qLenSet_inv {ρ : DEnv} {P : CtR} {r : Rs} (h : qLenSet P r ρ) : ∃ l, r = .v (.str l) ∧ l.length ≤ 4000 ∧ P (.v (.int ((HT.metS l).length : Nat))) ρ := by
  unfold qLenSet at h
  split at h
  · exact ⟨_, rfl, h⟩
  · exact h.elim
theorem de_lenSet (hc : X.calm = true) (hm : X.mg "len" = none) (hm2 : X.mg "set" = none) (h : DE X W a t) (hg : Gl X "len" := by rfl) (hg2 : Gl X "set" := by rfl)
    (na : starEach [a] X.env = (false, eval a X.env) :: starEach [] X.env := by rfl) : DE X W (.Call (.Name "len" p) [.Call (.Name "set" p2) [a] [] q] [] pos) (dLenSet t) := by
  obtain ⟨s, pa, ra⟩ := h
  refine ⟨_, pe_lenSetT hc hg hm hg2 hm2 pa na, fun U σ ρ H P E Q R h k x => ?_⟩
  refine ra U σ ρ H _ E _ R h (fun r ρ1 v H1 q A z => ?_) x
  obtain ⟨l, rfl, hl, q⟩ := qLenSet_inv q
  have zv := z.val.vflat rfl
  subst zv
  exact ⟨_, rfl, by simpa using hl, k _ _ _ _ q A (RepF.flat (.int _) rfl)⟩
end
end DL
namespace HT
theorem addS_nodup {l : List Nat} {c : Nat} (h : l.Nodup) : (addS l c).Nodup := by
  unfold addS
  split
  · exact h
  · rename_i hc
    exact List.nodup_append.mpr ⟨h, by simp, fun x hx y hy e => by simp at hy; subst hy; subst e; exact hc hx⟩
theorem foldS_len : ∀ (x l : List Nat), (x.foldl addS l).length = l.length + x.length ↔ (x.Nodup ∧ ∀ c ∈ x, c ∉ l)
  | [], l => by simp
  | c :: x, l => by
    rw [List.foldl_cons]
    have ih := foldS_len x (addS l c)
    by_cases h : c ∈ l
    · have e : addS l c = l := by unfold addS; rw [if_pos h]
      rw [e]
      have := metS_le x l
      constructor
      · intro z; simp only [List.length_cons] at z; omega
      · intro z; exact (z.2 c List.mem_cons_self h).elim
    · have e : addS l c = l ++ [c] := by unfold addS; rw [if_neg h]
      rw [e] at ih ⊢
      rw [List.length_append, List.length_singleton] at ih
      rw [List.length_cons, show l.length + (x.length + 1) = l.length + 1 + x.length by omega, ih, List.nodup_cons]
      constructor
      · rintro ⟨h1, h2⟩
        refine ⟨⟨fun z => h2 c z (by simp), h1⟩, fun d hd => ?_⟩
        rcases List.mem_cons.mp hd with z | z
        · rw [z]; exact h
        · exact fun y => h2 d z (by simp [y])
      · rintro ⟨⟨h1, h2⟩, h3⟩
        refine ⟨h2, fun d hd z => ?_⟩
        rcases List.mem_append.mp z with y | y
        · exact h3 d (List.mem_cons_of_mem _ hd) y
        · simp at y; subst y; exact h1 hd
theorem metS_nodup {x : List Nat} : (metS x).length = x.length ↔ x.Nodup := by
  have := foldS_len x []
  simp only [List.length_nil, Nat.zero_add, List.not_mem_nil, not_false_eq_true, implies_true, and_true] at this
  exact this
end HT

namespace DL
open PySem L2
variable [WW]
/-! a dict with nested keys, by its entries -/
section
variable {X : Cx} {pins : List (Addr × Obj)} {σ : St} {H : Hp} {s : Shared} {O : Addr → Prop}
mutual
theorem nk0_is (I : Inv X pins σ H s) : ∀ (d : D) (v : V) (u : Value) (k : NestedKey), Dq X.K O H d v → RelV v u → nk0 d = some k → NestedIs s.heap k u
  | .non, v, u, k, h, r, e => by
    simp only [Dq] at h; subst h
    simp only [nk0, Option.some.injEq] at e; subst e
    obtain rfl : u = Value.none := r
    exact .none
  | .int i, v, u, k, h, r, e => by
    simp only [Dq] at h; subst h
    simp only [nk0, Option.some.injEq] at e; subst e
    obtain ⟨t, rfl⟩ : ∃ t, u = Value.int i t := r
    exact .int i t
  | .bl _, v, u, k, h, r, e => by simp [nk0] at e
  | .str l, v, u, k, h, r, e => by
    simp only [Dq] at h; subst h
    simp only [nk0, Option.some.injEq] at e; subst e
    obtain ⟨t, rfl⟩ : ∃ t, u = Value.str ⟨l.toArray⟩ t := r
    exact .text _ t
  | .lst _, v, u, k, h, r, e => by simp [nk0] at e
  | .ob _, v, u, k, h, r, e => by simp [nk0] at e
  | .tup ds, v, u, k, h, r, e => by
    simp only [Dq] at h
    obtain ⟨a, xs, rfl, h1, h2⟩ := h
    obtain rfl : u = Value.ref a := r
    simp only [nk0, Option.map_eq_some_iff] at e
    obtain ⟨ks, e, rfl⟩ := e
    obtain ⟨its, rv, ht, _⟩ := I.tuple h1.sq
    obtain ⟨o, ho, hc, n, hd⟩ := ht
    exact .tup ho hc hd (by simpa using nks0_are I ds xs its ks h2 rv e)
theorem nks0_are (I : Inv X pins σ H s) : ∀ (ds : List D) (vs : List V) (us : List Value) (ks : List NestedKey), Dqs X.K O H ds vs → Vals vs us → nks0 ds = some ks → NestedAll s.heap ks us
  | [], vs, us, ks, h, r, e => by
    simp only [Dqs] at h; subst h
    cases r
    simp only [nks0, Option.some.injEq] at e; subst e
    exact .nil
  | d :: ds, vs, us, ks, h, r, e => by
    simp only [Dqs] at h
    obtain ⟨v, vs', rfl, h1, h2⟩ := h
    cases r with
    | cons r1 r2 =>
      simp only [nks0] at e
      cases hh : nk0 d with
      | none => rw [hh] at e; simp at e
      | some k =>
        rw [hh] at e
        simp only [Option.bind_some, Option.map_eq_some_iff] at e
        obtain ⟨ks', e, rfl⟩ := e
        exact .cons (nk0_is I d v _ k h1 r1 hh) (nks0_are I ds vs' _ ks' h2 r2 e)
end
/-- the value y is the key k -/
def KyH (K : PySem.W.Frag) (H : Hp) (k : NestedKey) (y : V) : Prop := ∃ O d, Dq K O H d y ∧ nk d = some k
theorem nk_tup {d : D} {k : NestedKey} (e : nk d = some k) : nk0 d = some k ∧ k.depth ≤ 8 := by
  cases d with
  | tup ds =>
    simp only [nk] at e
    cases h : nks0 ds with
    | none => rw [h] at e; simp at e
    | some ks =>
      rw [h] at e
      simp only [Option.bind_some] at e
      by_cases q : NestedKey.depthAll ks + 1 ≤ 8
      · rw [if_pos q] at e
        cases e
        simp only [nk0, h, Option.map_some, NestedKey.depth]
        exact ⟨trivial, q⟩
      · rw [if_neg q] at e; cases e
  | non => simp [nk] at e
  | bl _ => simp [nk] at e
  | int _ => simp [nk] at e
  | str _ => simp [nk] at e
  | lst _ => simp [nk] at e
  | ob _ => simp [nk] at e
theorem ky_is (I : Inv X pins σ H s) {k : NestedKey} {y : V} {u : Value} (h : KyH X.K H k y) (r : RelV y u) : ∃ b, y = .ref b ∧ u = .ref b ∧ (nestedKind X.prog X.w).is s.heap k b := by
  obtain ⟨O, d, h, e⟩ := h
  obtain ⟨e0, hd⟩ := nk_tup e
  have q := nk0_is I d y u k h r e0
  cases d with
  | tup ds =>
    simp only [Dq] at h
    obtain ⟨a, xs, rfl, _, _⟩ := h
    obtain rfl : u = Value.ref a := r
    exact ⟨a, rfl, rfl, ⟨q, hd⟩⟩
  | non => simp [nk] at e
  | bl _ => simp [nk] at e
  | int _ => simp [nk] at e
  | str _ => simp [nk] at e
  | lst _ => simp [nk] at e
  | ob _ => simp [nk] at e
def EsOk (K : PySem.W.Frag) (H : Hp) (es : List Ent) : Prop := (∀ e ∈ es, KyH K H e.1 (.ref e.2.1)) ∧ (es.map (·.1)).Nodup
abbrev KTN : List Ent → List (NestedKey × Addr × Value) → Prop := Paired fun p q => p.1 = q.1 ∧ p.2.1 = q.2.1 ∧ RelV p.2.2 q.2.2
def getE (es : List Ent) (k : NestedKey) : Option V := (es.find? fun e => decide (e.1 = k)).map (·.2.2)
def putE (es : List Ent) (k : NestedKey) (b : Addr) (v : V) : List Ent := if (getE es k).isSome then es.map (fun e => if e.1 = k then (e.1, e.2.1, v) else e) else es ++ [(k, b, v)]
theorem KTN.val {es : List Ent} {xs : List (NestedKey × Addr × Value)} (r : KTN es xs) (k : NestedKey) : RelO (getE es k) ((atKey xs k).map (·.2)) := by
  induction r with
  | nil => exact True.intro
  | @cons p q ps qs h t ih =>
    obtain ⟨h1, _, h2⟩ := h
    by_cases e : p.1 = k
    · have e' : q.1 = k := h1.symm.trans e
      have b : atKey (q :: qs) k = some q.2 := by simp [atKey, List.find?_cons, e']
      have c : getE (p :: ps) k = some p.2.2 := by simp [getE, List.find?_cons, e]
      rw [c, b]; exact h2
    · have e' : ¬ q.1 = k := fun z => e (h1.trans z)
      have b : atKey (q :: qs) k = atKey qs k := by simp [atKey, List.find?_cons, e']
      have c : getE (p :: ps) k = getE ps k := by simp [getE, List.find?_cons, e]
      rw [c, b]; exact ih
theorem KTN.put {es : List Ent} {xs : List (NestedKey × Addr × Value)} (r : KTN es xs) (k : NestedKey) (b : Addr) {y : V} {u : Value} (ry : RelV y u) : KTN (putE es k b y) (storedH xs k b u) := by
  have e : (getE es k).isSome = (atKey xs k).isSome := by rw [(r.val k).isSome_eq, Option.isSome_map]
  unfold putE storedH
  rw [e]
  by_cases q : (atKey xs k).isSome = true
  · rw [if_pos q, if_pos q]
    clear q e
    induction r with
    | nil => exact .nil
    | @cons p q ps qs h t ih =>
      rw [List.map_cons, List.map_cons]
      refine .cons ?_ ih
      obtain ⟨h1, h2, h3⟩ := h
      unfold putAt
      by_cases e : p.1 = k
      · rw [if_pos e, if_pos (h1.symm.trans e)]; exact ⟨h1, h2, ry⟩
      · rw [if_neg e, if_neg (fun z => e (h1.trans z))]; exact ⟨h1, h2, h3⟩
  · rw [if_neg q, if_neg q]; exact Paired.snoc r ⟨rfl, rfl, ry⟩
theorem KTN.keys {es : List Ent} {xs : List (NestedKey × Addr × Value)} (r : KTN es xs) : es.map (·.1) = xs.map (·.1) := by
  induction r with
  | nil => rfl
  | cons h t ih => rw [List.map_cons, List.map_cons, ih, h.1]
variable {P : Program} {w : World}
theorem KTN.back {es : List Ent} {xs : List (NestedKey × Addr × Value)} (hw : w = WW.w) (r : KTN es xs) : Paired EntOk es (xs.map (entryOfKey (nestedKind P w))) := by
  induction r with
  | nil => exact .nil
  | @cons p q ps qs h t ih =>
    rw [List.map_cons]
    refine .cons ⟨?_, ?_, h.2.2⟩ ih
    · show NestedKey.hash w q.1 = NestedKey.hash WW.w p.1
      rw [← h.1, hw]
    · show Value.ref q.2.1 = Value.ref p.2.1
      rw [h.2.1]
theorem xs_of {es : List Ent} {des : List DictEntry} (hw : w = WW.w) (r : Paired EntOk es des) : ∃ xs, KTN es xs ∧ des = xs.map (entryOfKey (nestedKind P w)) := by
  induction r with
  | nil => exact ⟨[], .nil, rfl⟩
  | @cons p q ps qs h t ih =>
    obtain ⟨xs, r, e⟩ := ih
    refine ⟨(p.1, p.2.1, q.val) :: xs, .cons ⟨rfl, rfl, h.2.2⟩ r, ?_⟩
    rw [List.map_cons, ← e]
    obtain ⟨h1, h2, h3⟩ := h
    congr 1
    cases q with
    | mk qh qk qv =>
      simp only at h1 h2
      subst h1 h2
      show DictEntry.mk _ _ _ = DictEntry.mk (NestedKey.hash w p.1) _ _
      rw [hw]
variable {a : Addr} {ep : Nat} {es : List Ent}
theorem dic_at (I : Inv X pins σ H s) (e : H a = some (dictO a ep es)) : ∃ o des, s.heap.get? a = some o ∧ o.ExactDict ∧ o.data = .dict des ep ∧ Paired EntOk es des.toList ∧ es.length ≤ sizeLine ∧ (a == sysModules) = false :=
  (show ObjOk X.prog X.w H s.heap a (dictO a ep es) from I.hok a _ e).1
theorem frees_of (I : Inv X pins σ H s) (ok : EsOk X.K H es) : ∀ e ∈ es, (nestedKind X.prog X.w).is s.heap e.1 e.2.1 := fun e he => by
  obtain ⟨b, e1, _, h⟩ := ky_is I (ok.1 e he) rfl
  cases e1
  exact h
theorem KTN.isAll {es : List Ent} {xs : List (NestedKey × Addr × Value)} {h : Heap} (r : KTN es xs) (f : ∀ e ∈ es, (nestedKind P w).is h e.1 e.2.1) : ∀ x ∈ xs, (nestedKind P w).is h x.1 x.2.1 := by
  induction r with
  | nil => intro x hx; cases hx
  | @cons p q ps qs h t ih =>
    intro x hx
    rcases List.mem_cons.mp hx with z | z
    · subst z
      rw [← h.1, ← h.2.1]
      exact f p List.mem_cons_self
    · exact ih (fun e he => f e (List.mem_cons_of_mem _ he)) x z
theorem dic_of (hw : X.w = WW.w) (I : Inv X pins σ H s) (e : H a = some (dictO a ep es)) (ok : EsOk X.K H es) : (a == sysModules) = false ∧ es.length ≤ sizeLine ∧ ∃ xs, KTN es xs ∧ s.heap.DictOfH (nestedKind X.prog X.w) a xs := by
  obtain ⟨o, des, ho, hx, hd, pr, hl, hs⟩ := dic_at I e
  have fr := frees_of I ok
  obtain ⟨xs, r, ex⟩ := xs_of (P := X.prog) (w := X.w) hw pr
  exact ⟨hs, hl, xs, r, o, des, ep, ho, hx, hd, ex, r.isAll fr, by rw [← r.keys]; exact ok.2⟩
theorem dictO_ok {H' : Hp} {h' : Heap} {o : Obj} {des : Array DictEntry} (ho : h'.get? a = some o) (hx : o.ExactDict) (hd : o.data = .dict des ep) (pr : Paired EntOk es des.toList) (hl : es.length ≤ sizeLine) (hs : (a == sysModules) = false) : ObjOk P w H' h' a (dictO a ep es) := by
  refine ⟨⟨o, des, ho, hx, hd, pr, hl, hs⟩, ⟨o, ho⟩, ?_⟩
  rintro h1 h2 ⟨o, des, ho, r⟩ k
  exact ⟨o, des, k o ho, r⟩
theorem dic_new {H' : Hp} {h' : Heap} {xs : List (NestedKey × Addr × Value)} (hw : w = WW.w) (dd : h'.DictOfH (nestedKind P w) a xs) (r : KTN es xs) (hl : es.length ≤ sizeLine) (hs : (a == sysModules) = false) :
    ∃ ep', ObjOk P w H' h' a (dictO a ep' es) := by
  obtain ⟨o, des, ep', ho, hx, hd, ex, _⟩ := dd
  exact ⟨ep', dictO_ok ho hx hd (by rw [ex]; exact r.back hw) hl hs⟩
theorem putE_len {k : NestedKey} {b : Addr} {v : V} : (putE es k b v).length ≤ es.length + 1 := by
  unfold putE
  split
  · rw [List.length_map]; omega
  · simp
theorem putE_mem {k : NestedKey} {b : Addr} {v : V} {e : Ent} (h : e ∈ putE es k b v) : (∃ e' ∈ es, e.1 = e'.1 ∧ e.2.1 = e'.2.1) ∨ (e.1 = k ∧ e.2.1 = b) := by
  unfold putE at h
  split at h
  · obtain ⟨e', he, q⟩ := List.mem_map.mp h
    refine .inl ⟨e', he, ?_⟩
    by_cases z : e'.1 = k
    · rw [if_pos z] at q; subst q; exact ⟨rfl, rfl⟩
    · rw [if_neg z] at q; subst q; exact ⟨rfl, rfl⟩
  · rcases List.mem_append.mp h with h | h
    · exact .inl ⟨e, h, rfl, rfl⟩
    · simp at h; subst h; exact .inr ⟨rfl, rfl⟩
end
end DL

namespace DL
open PySem L2
variable [WW]
section
variable {X : Cx} {pins : List (Addr × Obj)} {σ : St} {H : Hp} {s : Shared} {a b : Addr} {ep : Nat} {es : List Ent} {k : NestedKey} {y v z : V} {u r q : Value} {A : Around} {E : Value → Shared → Prop}
theorem n_in (hw : X.w = WW.w) {Q : Value → Shared → Prop} (hu : A.units + 9 < cLine) (I : Inv X pins σ H s) (e : H a = some (dictO a ep es)) (ok : EsOk X.K H es) (ky : KyH X.K H k y) (ry : RelV y u)
    (h : ∀ s', Inv X pins σ H s' → Q (.bool (getE es k).isSome) s') : wpAny (model X.prog X.w) A (compareOp .In u (.ref a)) Q E s := by
  obtain ⟨b, _, rfl, hb⟩ := ky_is I ky ry
  obtain ⟨hd, hl, xs, r, dd⟩ := dic_of hw I e ok
  refine wpAny_in_heap (by show A.units + 1 + 8 < cLine; omega) hb hd dd ?_
  have q := (r.val k).isSome_eq
  rw [Option.isSome_map] at q
  rw [← q]
  exact h _ (I.tok _)
theorem n_notIn (hw : X.w = WW.w) {Q : Value → Shared → Prop} (hu : A.units + 9 < cLine) (I : Inv X pins σ H s) (e : H a = some (dictO a ep es)) (ok : EsOk X.K H es) (ky : KyH X.K H k y) (ry : RelV y u)
    (h : ∀ s', Inv X pins σ H s' → Q (.bool (!(getE es k).isSome)) s') : wpAny (model X.prog X.w) A (compareOp .NotIn u (.ref a)) Q E s := by
  obtain ⟨b, _, rfl, hb⟩ := ky_is I ky ry
  obtain ⟨hd, hl, xs, r, dd⟩ := dic_of hw I e ok
  refine PyProof.Rows.wpAny_notIn_heap (by show A.units + 1 + 8 < cLine; omega) hb hd dd ?_
  have q := (r.val k).isSome_eq
  rw [Option.isSome_map] at q
  rw [← q]
  exact h _ (I.tok _)
theorem n_getItem (hw : X.w = WW.w) {Q : Value → Shared → Prop} (hu : A.units + 9 < cLine) (I : Inv X pins σ H s) (e : H a = some (dictO a ep es)) (ok : EsOk X.K H es) (ky : KyH X.K H k y) (ry : RelV y u) (l : getE es k = some v)
    (h : ∀ w' s', Inv X pins σ H s' → RelV v w' → Q w' s') : wpAny (model X.prog X.w) A (getItem (.ref a) u) Q E s := by
  obtain ⟨b, _, rfl, hb⟩ := ky_is I ky ry
  obtain ⟨hd, hl, xs, r, dd⟩ := dic_of hw I e ok
  obtain ⟨w', hw, rw'⟩ := RelO.some_of (v := v) (o := (atKey xs k).map (·.2)) (by rw [← l]; exact r.val k)
  obtain ⟨p, hp, hp2⟩ := Option.map_eq_some_iff.mp hw
  refine wpAny_getItem_heap (by show A.units + 1 + 8 < cLine; omega) hb dd hp ?_
  rw [hp2]
  exact h w' _ (I.tok _) rw'
theorem n_get2 (hw : X.w = WW.w) {Q : Value → Shared → Prop} (hu : A.units + 9 < cLine) (I : Inv X pins σ H s) (e : H a = some (dictO a ep es)) (ok : EsOk X.K H es) (ky : KyH X.K H k y) (ry : RelV y u) (rz : RelV z r)
    (h : ∀ w' s', Inv X pins σ H s' → RelV ((getE es k).getD z) w' → Q w' s') : wpAny (model X.prog X.w) A (call (.builtin "dict.get") [.ref a, u, r]) Q E s := by
  obtain ⟨b, _, rfl, hb⟩ := ky_is I ky ry
  obtain ⟨hd, hl, xs, r, dd⟩ := dic_of hw I e ok
  refine call_meetsIn PySem.F.slot_dict_get dd.typeIs PySem.F.entry_dict_get (PySem.F.args_dict_get_3 _ _ _) (meetsH_dict_get_default (nestedKind X.prog X.w) a b hd _) ⟨by show A.units + 1 + 8 < cLine; omega, k, xs, hb, dd, h _ _ (I.tok _) ?_⟩
  exact (r.val k).getD rz
theorem ne_ext {c : Addr} {o : HO} (e : H a = some (dictO a ep es)) (h : H c = some o) (d : ∀ φ, o ≠ .ext φ) : c ≠ a := fun z => by
  rw [z, e] at h
  exact d _ (Option.some.inj h).symm
theorem n_setItem (hw : X.w = WW.w) {Q : Unit → Shared → Prop} (hu : A.units + 9 < cLine) (I : Inv X pins σ H s) (e : H a = some (dictO a ep es)) (ok : EsOk X.K H es) (ky : KyH X.K H k (.ref b)) (rv : RelV v r) (hl : es.length < sizeLine)
    (h : ∀ ep' s', Inv X pins σ (upd H a (dictO a ep' (putE es k b v))) s' → Q () s') : wpAny (model X.prog X.w) A (setItem (.ref a) (.ref b) r) Q E s := by
  obtain ⟨b', e1, e2, hb⟩ := ky_is I ky rfl
  cases e1
  obtain ⟨hd, _, xs, r, dd⟩ := dic_of hw I e ok
  have hz : xs.length ≤ sizeLine := by rw [← Paired.length r]; omega
  refine wpAny_setItem_heap (hsz := hz) (by show A.units + 1 + 8 < cLine; omega) hb dd fun h' dd' hs => ?_
  obtain ⟨ep', new⟩ := dic_new (H' := upd H a (.lst [])) hw dd' (r.put k b rv) (by have := putE_len (es := es) (k := k) (b := b) (v := v); omega) hd
  obtain ⟨ob, _, _, hq, _⟩ := dd'
  exact h ep' _ (d_write I (by rw [e]; exact True.intro) hs ⟨ob, hq⟩ new)
theorem n_len (hw : X.w = WW.w) {Q : Value → Shared → Prop} (I : Inv X pins σ H s) (e : H a = some (dictO a ep es)) (ok : EsOk X.K H es) (h : ∀ t s', Inv X pins σ H s' → Q (.int ((es.length : Nat) : Int) t) s') : wpAny (model X.prog X.w) A (call (.builtin "len") [.ref a]) Q E s := by
  obtain ⟨hd, hl, xs, r, dd⟩ := dic_of hw I e ok
  have hz : es.length = xs.length := Paired.length r
  refine call_len_dictH hd dd (by rw [← hz]; rw [sizeLine_eq] at hl; omega) ?_
  rw [← hz]
  exact h _ _ (I.tok _)
theorem n_ty (I : Inv X pins σ H s) (e : H a = some (dictO a ep es)) : s.TypeIs (.ref a) "dict" ∧ (∀ b, Value.ref a = .ref b → ∃ ob, s.heap.get? b = some ob ∧ ob.dict = none) ∧ (a == sysModules) = false := by
  obtain ⟨o, des, ho, hx, hd, pr, hl, hs⟩ := dic_at I e
  exact ⟨⟨o, ho, hx.1⟩, fun b q => by cases q; exact ⟨o, ho, hx.2.1⟩, hs⟩
end

/-! ### rules -/
def tNGet (K : PySem.W.Frag) (td ty : TE) : TE := fun σ H Q => td σ H fun x H1 => ty σ H1 fun y H2 => ∃ a ep es k v, x = .ref a ∧ H2 a = some (dictO a ep es) ∧ EsOk K H2 es ∧ KyH K H2 k y ∧ getE es k = some v ∧ Q v H2
def tNIn (K : PySem.W.Frag) (neg : Bool) (ty td : TE) : TE := fun σ H Q => ty σ H fun y H1 => td σ H1 fun x H2 => ∃ a ep es k, x = .ref a ∧ H2 a = some (dictO a ep es) ∧ EsOk K H2 es ∧ KyH K H2 k y ∧ Q (.bl (neg ^^ (getE es k).isSome)) H2
def sNPut (K : PySem.W.Frag) (td ty tv : TE) : TS := fun D σ H => tv σ H fun v H1 => td σ H1 fun x H2 => ty σ H2 fun y H3 => ∃ a ep es k b, x = .ref a ∧ y = .ref b ∧ H3 a = some (dictO a ep es) ∧ EsOk K H3 es ∧ KyH K H3 k y ∧ es.length < sizeLine ∧
  ∀ ep', D.nx σ (upd H3 a (dictO a ep' (putE es k b v)))
def tNGet2 (K : PySem.W.Frag) (td ty tx : TE) : TE := fun σ H Q => td σ H fun x H1 => ∃ a ep es, x = .ref a ∧ H1 a = some (dictO a ep es) ∧ ty σ H1 fun y H2 => tx σ H2 fun z H3 => ∃ ep es k, H3 a = some (dictO a ep es) ∧ EsOk K H3 es ∧ KyH K H3 k y ∧ Q ((getE es k).getD z) H3
section
variable {X : Cx} {o i e f value : Expr} {pos pos' tpos apos cpos : Pos} {td ty tv tx : TE}
theorem pe_nget (hw : X.w = WW.w) (hu : X.A.units + 9 < cLine) (ho : PE X o td) (hi : PE X i ty) (hs : NoSl i) : PE X (.Subscript o i pos) (tNGet X.K td ty) := by
  refine ⟨fun pins s σ H Q I h => ?_⟩
  refine subD_of PySem.F.slot_dict_getitem.lookup hs (thn (ho.run pins s σ H _ I h) fun u s1 ⟨x, H1, I1, rx, q1⟩ => thn (hi.run pins s1 σ H1 _ I1 q1) fun iv s2 ⟨y, H2, I2, ry, a, ep, es, k, v, ex, g, ok, ky, l, q2⟩ => ?_)
  subst ex
  obtain rfl : u = Value.ref a := rx
  exact ⟨(n_ty I2 g).1, n_getItem hw hu I2 g ok ky ry l fun w' s3 I3 rw' => ⟨v, H2, I3, rw', q2⟩⟩
theorem pc_nin (hw : X.w = WW.w) (hu : X.A.units + 9 < cLine) (hi : PE X i ty) (ho : PE X o td) : PC X .In i o (tNIn X.K false ty td) := by
  refine ⟨fun pins s σ H Q I h => ?_⟩
  refine thn (hi.run pins s σ H _ I h) fun iv s1 ⟨y, H1, I1, ry, q1⟩ => thn (ho.run pins s1 σ H1 _ I1 q1) fun u s2 ⟨x, H2, I2, rx, a, ep, es, k, ex, g, ok, ky, q2⟩ => ?_
  subst ex
  obtain rfl : u = Value.ref a := rx
  exact n_in hw hu I2 g ok ky ry fun s3 I3 => ⟨.bl (getE es k).isSome, H2, I3, rfl, by simpa using q2⟩
theorem pc_nnotin (hw : X.w = WW.w) (hu : X.A.units + 9 < cLine) (hi : PE X i ty) (ho : PE X o td) : PC X .NotIn i o (tNIn X.K true ty td) := by
  refine ⟨fun pins s σ H Q I h => ?_⟩
  refine thn (hi.run pins s σ H _ I h) fun iv s1 ⟨y, H1, I1, ry, q1⟩ => thn (ho.run pins s1 σ H1 _ I1 q1) fun u s2 ⟨x, H2, I2, rx, a, ep, es, k, ex, g, ok, ky, q2⟩ => ?_
  subst ex
  obtain rfl : u = Value.ref a := rx
  exact n_notIn hw hu I2 g ok ky ry fun s3 I3 => ⟨.bl (!(getE es k).isSome), H2, I3, rfl, by simpa using q2⟩
theorem ps_nput (hw : X.w = WW.w) (hu : X.A.units + 9 < cLine) (ho : PE X o td) (hi : PE X i ty) (hv : PE X value tv) (hs : swapsWith value (some (.Subscript o i pos')) pos.line X.env = pure false) :
    PS X (.Assign [.Subscript o i pos'] value pos) (sNPut X.K td ty tv) := by
  refine ⟨fun pins s σ H D I h => ?_⟩
  refine wpAny_Assign_Subscript (thn (hv.run pins s σ H _ I h) fun r s1 ⟨v, H1, I1, rv, q1⟩ => thn (ho.run pins s1 σ H1 _ I1 q1) fun u s2 ⟨x, H2, I2, rx, q2⟩ => thn (hi.run pins s2 σ H2 _ I2 q2) fun iv s3 ⟨y, H3, I3, ry, a, ep, es, k, b, ex, ey, g, ok, ky, hl, q3⟩ => ?_) hs
  subst ex ey
  obtain rfl : u = Value.ref a := rx
  obtain rfl : iv = Value.ref b := ry
  exact n_setItem hw hu I3 g ok ky rv hl fun ep' s4 I4 => ⟨σ, _, I4, q3 ep'⟩
theorem pe_nget2 (hw : X.w = WW.w) (hu : X.A.units + 9 < cLine) (ho : PE X o td) (he : PE X e ty) (hf : PE X f tx) (m : M2 X o "get" apos e f cpos) : PE X (.Call (.Attribute o "get" apos) [e, f] [] cpos) (tNGet2 X.K td ty tx) := by
  refine ⟨fun pins s σ H Q I h => ?_⟩
  refine wpAny_Call_method m.base m.few m.line PySem.F.plainAttrs_dict PySem.F.slot_dict_get PySem.F.type_dict_get (thn (ho.run pins s σ H _ I h) fun u s1 ⟨x, H1, I1, rx, a, ep, es, ex, d, q1⟩ => ?_)
  subst ex
  obtain rfl : u = Value.ref a := rx
  obtain ⟨t1, t2, _⟩ := n_ty I1 d
  refine ⟨t1, t2, ?_⟩
  rw [m.trees]
  refine Calls.callWith_builtin rfl (Calls.evalArgs_plain (Calls.spliced_cons (thn (he.run pins s1 σ H1 _ I1 q1) fun iv s2 ⟨y, H2, I2, ry, q2⟩ =>
    Calls.spliced_cons (thn (hf.run pins s2 σ H2 _ I2 q2) fun fv s3 ⟨z, H3, I3, rz, ep', es', k, g, ok, ky, q3⟩ => Calls.spliced_nil ?_))))
  exact n_get2 hw hu I3 g ok ky ry rz fun w' s4 I4 rw' => ⟨_, H3, I4, rw', q3⟩
def rLenN (K : PySem.W.Frag) : List V → Hp → VK → Prop := fun xs H Q => ∃ a ep es, xs = [.ref a] ∧ H a = some (dictO a ep es) ∧ EsOk K H es ∧ Q (.int ((es.length : Nat) : Int)) H
theorem call_len_n (hw : X.w = WW.w) : CallR X (.builtin "len") (rLenN X.K) := by
  intro pins s σ H xs us Q I r h
  obtain ⟨a, ep, es, rfl, ha, ok, q⟩ := h
  obtain ⟨u, rfl, rx⟩ := vals1 r
  obtain rfl : u = .ref a := rx
  exact n_len hw I ha ok fun t s' I' => ⟨.int ((es.length : Nat) : Int), H, I', ⟨_, rfl⟩, q⟩

/-! ### displays -/
def tNew : TE := fun _ H Q => ∀ p ep, H p = none → Q (.ref p) (upd H p (dictO p ep []))
def tNew1 (K : PySem.W.Frag) (tk tv : TE) : TE := fun σ H Q => ∀ p ep, H p = none → tk σ (upd H p (dictO p ep [])) fun x H1 => tv σ H1 fun y H2 => ∃ ep1 k b, H2 p = some (dictO p ep1 []) ∧ x = .ref b ∧ KyH K H2 k x ∧ ∀ ep', Q (.ref p) (upd H2 p (dictO p ep' [(k, b, y)]))
theorem dic_empty {P : Program} {w : World} {H : Hp} (h : Heap) (hb : sysModules < h.objs.size) : ObjOk P w H (h.push { cls := .type "dict", data := .dict #[] }) h.objs.size (dictO h.objs.size 0 []) :=
  dictO_ok (Heap.get?_push_size _ rfl) ⟨rfl, rfl, rfl⟩ rfl .nil (Nat.zero_le _) (beq_eq_false_iff_ne.mpr (Ne.symm (Nat.ne_of_lt hb)))
theorem pe_nnew : PE X (.Dict [] [] pos) tNew := ⟨fun pins s σ H Q I h =>
  wpAny_Dict_empty ⟨.ref s.heap.objs.size, _, I.laid (a := s.heap.objs.size) (o := dictO s.heap.objs.size 0 []) (t' := s.toks) (fun _ _ q => Heap.get?_push_of_some _ q) (Nat.le_refl _) (dic_empty s.heap I.big), rfl, h _ _ (I.hok.fresh (Nat.le_refl _))⟩⟩
theorem pe_nnew1 (hw : X.w = WW.w) (hu : X.A.units + 9 < cLine) (hi : PE X i ty) (hv : PE X value tv) : PE X (.Dict [some i] [value] pos) (tNew1 X.K ty tv) := by
  refine ⟨fun pins s σ H Q I h => ?_⟩
  have hn := I.hok.fresh (Nat.le_refl s.heap.objs.size)
  have I1 := I.laid (a := s.heap.objs.size) (o := dictO s.heap.objs.size 0 []) (h' := s.heap.push { cls := .type "dict", data := .dict #[] }) (t' := s.toks) (fun _ _ q => Heap.get?_push_of_some _ q) (Nat.le_refl _) (dic_empty s.heap I.big)
  have run : wpAny (model X.prog X.w) X.A (evalPairs (pairTrees [some i] [value] X.env pos)) (fun vs s₁ => ∃ ps, CarriesH (nestedKind X.prog X.w) s₁.heap vs ps ∧ s₁.heap.DictOfH (nestedKind X.prog X.w) s.heap.objs.size [] ∧
      ∀ h' tk, h'.DictOfH (nestedKind X.prog X.w) s.heap.objs.size (storedAllH [] ps) → Heap.SameBut s.heap.objs.size s₁.heap h' → EP X pins σ Q (.ref s.heap.objs.size) { s₁ with heap := h', toks := tk }) X.xe { s with heap := s.heap.push { cls := .type "dict", data := .dict #[] } } := by
    refine pairTrees_cons_walk (thn (hi.run pins _ σ _ _ I1 (h _ 0 hn)) fun u s1 ⟨x, H1, I1, rx, q1⟩ => thn (hv.run pins s1 σ H1 _ I1 q1) fun w2 s2 ⟨y, H2, I2, ry, ep1, k, b, g, ex, ky, q2⟩ => pairTrees_nil_walk ?_)
    subst ex
    obtain rfl : u = Value.ref b := rx
    obtain ⟨b', e1, e2, hb⟩ := ky_is I2 ky rfl
    cases e1
    obtain ⟨hd, _, xs, r, dd⟩ := dic_of hw I2 g ⟨(fun _ h => nomatch h), List.nodup_nil⟩
    cases r
    refine ⟨[(k, b, w2)], ⟨rfl, rfl, hb, trivial⟩, dd, fun h' tk dd' hs => ?_⟩
    have e0 : storedAllH ([] : List (NestedKey × Addr × Value)) [(k, b, w2)] = [(k, b, w2)] := rfl
    rw [e0] at dd'
    have hk : KTN [(k, b, y)] [(k, b, w2)] := .cons ⟨rfl, rfl, ry⟩ .nil
    obtain ⟨ep', new⟩ := dic_new (H' := upd H2 s.heap.objs.size (.lst [])) hw dd' hk (show 1 ≤ sizeLine by decide) hd
    obtain ⟨ob, _, _, hq, _⟩ := dd'
    exact ⟨.ref s.heap.objs.size, _, d_write (t' := tk) I2 (by rw [g]; exact True.intro) hs ⟨ob, hq⟩ new, rfl, q2 ep'⟩
  have hp := zip_pairTrees [some i] [value] X.env pos rfl rfl
  rw [arm_eval_Dict, hp, dictDisplay_pairs (pairTrees [some i] [value] X.env pos) (by intro z; cases z) (by show 1 < 17; decide)]
  exact wpAny_bind (wpAny_standAt (wpAny_bind (wpAny_subDictH (knd := nestedKind X.prog X.w) (Q := fun d s' => wpAny (model X.prog X.w) X.A (pure (Value.ref d)) (EP X pins σ Q) X.xe s') (by show X.A.units + 8 < cLine; omega) (by show 1 ≤ 15; decide)
    (wpAny_mono run (fun vs s₁ h₁ => by obtain ⟨ps, hc, hm, hq⟩ := h₁; exact ⟨ps, hc, hm, fun h' tk a b => wpAny_pure (hq h' tk a b)⟩) fun _ _ e => e))))

/-! ### for k in d -/
def Itn (d : Addr) (ep n : Nat) : It := ⟨fun i H => (∃ es, H d = some (dictO d ep es) ∧ es.length = n) ∧ i < n, fun i H x H' => H' = H ∧ ∀ es, H d = some (dictO d ep es) → ∃ e, es[i]? = some e ∧ x = .ref e.2.1, fun i H => (∃ es, H d = some (dictO d ep es) ∧ es.length = n) ∧ n ≤ i⟩
theorem paired_getR {α β : Type} {G : α → β → Prop} {l₁ : List α} {l₂ : List β} (h : Paired G l₁ l₂) : ∀ {i : Nat} {b : β}, l₂[i]? = some b → ∃ a, l₁[i]? = some a ∧ G a b := by
  induction h with
  | nil => intro i a e; simp at e
  | @cons a b l₁ l₂ r t ih =>
    intro i b' e
    cases i with
    | zero =>
      simp only [List.getElem?_cons_zero, Option.some.injEq] at e
      subst e
      exact ⟨a, rfl, r⟩
    | succ j =>
      simp only [List.getElem?_cons_succ] at e ⊢
      exact ih e
theorem turn_n {P : Program} {w : World} {K : PySem.W.Frag} {tg : Expr} {d : Addr} {ep n : Nat} (it : Addr) : Turn P w K tg (Itn d ep n) [it] it (fun i h => h.IsKeyIter it d i n ep) where
  mem := by simp
  obj := fun i h st b hb => by
    have e : b = it := by simpa using hb
    subst e
    obtain ⟨oi, e, c, dd⟩ := st
    exact ⟨oi, e, fun v z => by rw [dd] at z; cases z⟩
  keep := fun i h h' st k => st.at fun oi e => k it (by simp) oi e
  item := by
    intro X hP hw hK hc i pins s σ H E I hf st hg
    subst hP hw hK
    obtain ⟨⟨es, hd, hn⟩, hi⟩ := hg
    obtain ⟨f0, f1, f2, f3, f4, f5⟩ := hf it (by simp)
    obtain ⟨o, des, ho, hx, hdt, pr, hl, hs⟩ := dic_at I hd
    have hsz : des.size = n := by
      have q1 : es.length = des.toList.length := Paired.length pr
      have q2 : des.toList.length = des.size := by simp
      omega
    have hen : des[i]? = some des[i] := by simp
    obtain ⟨e0, he0, _, hk0, _⟩ := paired_getR pr (show des.toList[i]? = some des[i] by rw [Array.getElem?_toList]; exact hen)
    refine next_key_item st ho hdt hsz hen fun h' st' sb => ?_
    have I1 : Inv X pins σ H { s with heap := h' } := I.turned (t' := s.toks) (fun b ob hb e => (sb.2 b hb).trans e) f0 f1 f3 f4 f5
    obtain ⟨oi, e, c, dd⟩ := id st'
    refine ⟨des[i].key, rfl, go_of (s := { s with heap := h' }) e c dd (by decide) ⟨.ref e0.2.1, H, I1, hk0, ⟨rfl, fun es' he' => ?_⟩, st', fun b hb => (hf b hb).1⟩⟩
    obtain ⟨o', des', ho', _, hdt', pr', _, _⟩ := dic_at I he'
    rw [ho] at ho'; cases ho'
    rw [hdt] at hdt'; cases hdt'
    obtain ⟨e1, he1, _, hk1, _⟩ := paired_getR pr' (show des.toList[i]? = some des[i] by rw [Array.getElem?_toList]; exact hen)
    refine ⟨e1, he1, ?_⟩
    rw [hk0] at hk1
    injection hk1 with hk1
    rw [hk1]
  done := by
    intro X hP hw hK hc i pins s σ H E I hf st hg
    subst hP hw hK
    obtain ⟨⟨es, hd, hn⟩, hi⟩ := hg
    obtain ⟨f0, f1, f2, f3, f4, f5⟩ := hf it (by simp)
    obtain ⟨o, des, ho, hx, hdt, pr, hl, hs⟩ := dic_at I hd
    have hsz : des.size = n := by
      have q1 : es.length = des.toList.length := Paired.length pr
      have q2 : des.toList.length = des.size := by simp
      omega
    exact next_key_end (I.ok.hd hc) st ho hdt hsz hi fun h' eb => ⟨rfl, I.turned (t' := s.toks) (fun b ob hb e => eb b ob hb e) f0 f1 f3 f4 f5⟩
  self := fun A i s Q E st h => by
    refine wpAny_pyIter_slot st.typeIs F.slot_dict_keyiterator_iter (wpAny_call_entry F.slot_dict_keyiterator_iter st.typeIs F.entry_dict_keyiterator_iter ?_ (F.args_dict_keyiterator_iter_1 _))
    show wpAny _ _ (ret (.ref it)) _ _ s
    exact wpAny_pure ⟨_, rfl, "dict_keyiterator", _, st.typeIs, F.slot_dict_keyiterator_next.lookup, h⟩
def iKeysN (td : TE) : TI := fun σ H R => td σ H fun x H1 => ∃ d ep es, x = .ref d ∧ H1 d = some (dictO d ep es) ∧ R (Itn d ep es.length) H1
theorem pi_nkeys {tg : Expr} (he : PE X e td) : PI X tg e (iKeysN td) := by
  refine ⟨fun pins s σ H R I h => ?_⟩
  refine thn (he.run pins s σ H _ I h) fun u s1 ⟨x, H1, I1, rx, d, ep, es, ex, hd, q⟩ => ?_
  subst ex
  obtain rfl : u = Value.ref d := rx
  obtain ⟨o, des, ho, hx, hdt, pr, hl, hs⟩ := dic_at I1 hd
  have hsz : des.size = es.length := by
    have q1 : es.length = des.toList.length := Paired.length pr
    have q2 : des.toList.length = des.size := by simp
    omega
  refine iter_keys hs ho hx hdt (pi_one (tk := s1.toks) I1 _ (turn_n _) ⟨_, Heap.get?_push_size _ rfl, rfl, ?_⟩ q)
  rw [hsz] <;> rfl
end
end DL

namespace DL
open PySem L2
variable [WW]
/-! dicts as data -/
def dget (kvs : List (D × D)) (k : NestedKey) : Option D := (kvs.find? fun p => decide (nk p.1 = some k)).map (·.2)
def dput (kvs : List (D × D)) (k : NestedKey) (d v : D) : List (D × D) := if (dget kvs k).isSome then kvs.map (fun p => if nk p.1 = some k then (p.1, v) else p) else kvs ++ [(d, v)]
theorem dget_pos {p : D × D} {r : List (D × D)} {k : NestedKey} (e : nk p.1 = some k) : dget (p :: r) k = some p.2 := by simp [dget, List.find?_cons, e]
theorem dget_neg {p : D × D} {r : List (D × D)} {k : NestedKey} (e : nk p.1 ≠ some k) : dget (p :: r) k = dget r k := by simp [dget, List.find?_cons, e]
theorem getE_pos {p : Ent} {r : List Ent} {k : NestedKey} (e : p.1 = k) : getE (p :: r) k = some p.2.2 := by simp [getE, List.find?_cons, e]
theorem getE_neg {p : Ent} {r : List Ent} {k : NestedKey} (e : p.1 ≠ k) : getE (p :: r) k = getE r k := by simp [getE, List.find?_cons, e]
section
variable {K : PySem.W.Frag} {U : Addr → Prop} {O O' : Addr → Prop} {H H' H1 H2 : Hp} {ρ ρ' ρ1 ρ2 : DEnv} {σ σ' σ1 σ2 : St}
theorem dks_len : ∀ {kvs : List (D × D)} {es : List Ent}, Dks K O H kvs es → kvs.length = es.length
  | [], [], _ => rfl
  | [], _ :: _, h => h.elim
  | _ :: _, [], h => h.elim
  | _ :: _, _ :: _, h => by simp only [List.length_cons, dks_len h.2]
theorem dks_get : ∀ {kvs : List (D × D)} {es : List Ent}, Dks K O H kvs es → ∀ k, (dget kvs k = none ∧ getE es k = none) ∨ ∃ d v, dget kvs k = some d ∧ getE es k = some v ∧ Dq K O H d v
  | [], [], _, k => .inl ⟨rfl, rfl⟩
  | [], _ :: _, h, _ => h.elim
  | _ :: _, [], h, _ => h.elim
  | p :: kvs, e :: es, h, k => by
    by_cases q : e.1 = k
    · exact .inr ⟨_, _, dget_pos (h.1.1.trans (by rw [q])), getE_pos q, h.1.2.2⟩
    · rw [dget_neg (by rw [h.1.1]; exact fun z => q (Option.some.inj z)), getE_neg q]
      exact dks_get h.2 k
theorem dks_is (h : Dks K O H kvs es) (k : NestedKey) : (dget kvs k).isSome = (getE es k).isSome := by
  rcases dks_get h k with ⟨h1, h2⟩ | ⟨d, v, h1, h2, _⟩ <;> rw [h1, h2] <;> rfl
theorem dks_snoc : ∀ {kvs : List (D × D)} {es : List Ent} {p : D × D} {e : Ent}, Dks K O H kvs es → (nk p.1 = some e.1 ∧ Dq K O H p.1 (.ref e.2.1) ∧ Dq K O H p.2 e.2.2) → Dks K O H (kvs ++ [p]) (es ++ [e])
  | [], [], _, _, _, h => ⟨h, trivial⟩
  | [], _ :: _, _, _, h, _ => h.elim
  | _ :: _, [], _, _, h, _ => h.elim
  | _ :: _, _ :: _, _, _, h, g => ⟨h.1, dks_snoc h.2 g⟩
theorem dks_map {k : NestedKey} {dv : D} {v : V} (hv : Dq K O H dv v) : ∀ {kvs : List (D × D)} {es : List Ent}, Dks K O H kvs es → Dks K O H (kvs.map fun p => if nk p.1 = some k then (p.1, dv) else p) (es.map fun e => if e.1 = k then (e.1, e.2.1, v) else e)
  | [], [], _ => trivial
  | [], _ :: _, h => h.elim
  | _ :: _, [], h => h.elim
  | p :: kvs, e :: es, h => by
    rw [List.map_cons, List.map_cons]
    refine ⟨?_, dks_map hv h.2⟩
    by_cases q : e.1 = k
    · rw [if_pos q, if_pos (h.1.1.trans (by rw [q]))]; exact ⟨h.1.1, h.1.2.1, hv⟩
    · rw [if_neg q, if_neg (by rw [h.1.1]; exact fun z => q (Option.some.inj z))]; exact h.1
theorem dks_put {kvs : List (D × D)} {es : List Ent} {k : NestedKey} {d dv : D} {b : Addr} {v : V} (h : Dks K O H kvs es) (hk : nk d = some k) (hd : Dq K O H d (.ref b)) (hv : Dq K O H dv v) : Dks K O H (dput kvs k d dv) (putE es k b v) := by
  unfold dput putE
  rw [dks_is h k]
  by_cases q : (getE es k).isSome = true
  · rw [if_pos q, if_pos q]; exact dks_map hv h
  · rw [if_neg q, if_neg q]; exact dks_snoc h ⟨hk, hd, hv⟩
theorem dks_ky : ∀ {kvs : List (D × D)} {es : List Ent}, Dks K O H kvs es → ∀ e ∈ es, KyH K H e.1 (.ref e.2.1)
  | [], [], _, _, h => nomatch h
  | [], _ :: _, h, _, _ => h.elim
  | _ :: _, [], h, _, _ => h.elim
  | p :: kvs, e :: es, h, x, hx => by
    rcases List.mem_cons.mp hx with z | z
    · subst z; exact ⟨O, p.1, h.1.2.1, h.1.1⟩
    · exact dks_ky h.2 x z
theorem getE_notin {es : List Ent} {k : NestedKey} (h : ¬ (getE es k).isSome = true) : k ∉ es.map (·.1) := fun z => by
  obtain ⟨e, he, q⟩ := List.mem_map.mp z
  apply h
  unfold getE
  rw [Option.isSome_map, List.find?_isSome]
  exact ⟨e, he, by simp [q]⟩
theorem putE_nd {es : List Ent} {k : NestedKey} {b : Addr} {v : V} (h : (es.map (·.1)).Nodup) : ((putE es k b v).map (·.1)).Nodup := by
  unfold putE
  by_cases q : (getE es k).isSome = true
  · rw [if_pos q, List.map_map]
    have e : ((fun x : Ent => x.1) ∘ fun e : Ent => if e.1 = k then (e.1, e.2.1, v) else e) = fun x => x.1 := by
      funext e
      show (if e.1 = k then (e.1, e.2.1, v) else e).1 = e.1
      split <;> rfl
    rw [e]; exact h
  · rw [if_neg q, List.map_append]
    exact List.nodup_append.mpr ⟨h, by simp, fun x hx y hy z => by
      simp at hy
      exact getE_notin q (by rw [← hy, ← z]; exact hx)⟩
theorem dput_len {kvs : List (D × D)} {k : NestedKey} {d v : D} : (dput kvs k d v).length ≤ kvs.length + 1 := by
  unfold dput
  split
  · rw [List.length_map]; omega
  · simp
/-! a dict's slot -/
theorem adrs_set_A : ∀ (ρ : DEnv) (i : Nat) {a : Addr} {s : Sl}, adr s = some a → a ∉ adrs ρ → (adrs ρ).Nodup → (adrs (ρ.set i s)).Nodup ∧ ∀ b, b ∈ adrs (ρ.set i s) → b = a ∨ b ∈ adrs ρ
  | [], i, a, s, hs, n, nd => by simp [adrs]
  | t :: ρ, 0, a, s, hs, n, nd => by
    rw [List.set_cons_zero, adrs_cons, hs]
    rw [adrs_cons] at n nd
    refine ⟨?_, fun b hb => ?_⟩
    · show (a :: adrs ρ).Nodup
      exact List.nodup_cons.mpr ⟨fun z => n (List.mem_append_right _ z), (List.nodup_append.mp nd).2.1⟩
    · have hb : b ∈ a :: adrs ρ := hb
      rcases List.mem_cons.mp hb with z | z
      · exact .inl z
      · exact .inr (by rw [adrs_cons]; exact List.mem_append_right _ z)
  | t :: ρ, i + 1, a, s, hs, n, nd => by
    rw [List.set_cons_succ, adrs_cons]
    rw [adrs_cons] at n nd
    have nd' := List.nodup_append.mp nd
    obtain ⟨q1, q2⟩ := adrs_set_A ρ i hs (fun z => n (List.mem_append_right _ z)) nd'.2.1
    refine ⟨List.nodup_append.mpr ⟨nd'.1, q1, fun x hx y hy => ?_⟩, fun b hb => ?_⟩
    · rcases q2 y hy with z | z
      · intro e; subst e; subst z; exact n (List.mem_append_left _ hx)
      · exact nd'.2.2 x hx y z
    · rw [adrs_cons]
      rcases List.mem_append.mp hb with z | z
      · exact .inr (List.mem_append_left _ z)
      · exact (q2 b z).imp id fun z => List.mem_append_right _ z
theorem AftS.dct {p : Addr} {ep : Nat} {kvs : List (D × D)} (A : AftS K (Ua U p) ρ H ρ2 σ2 H2) (hp : H p = none) (hU : ¬ U p) (d : DicAt K (Ow (Ua U p) ρ2) H2 p ep kvs) (i : Nat) :
    AftS K U ρ H (ρ2.set i (.d p ep kvs)) (σ2.set i (some (.ref p))) H2 := by
  have R2 := A.rep
  have na : p ∉ adrs ρ2 := fun z => R2.dis p z (.inr rfl)
  obtain ⟨nd, mem⟩ := adrs_set_A ρ2 i (s := .d p ep kvs) rfl na R2.nd
  have m : Mo (Ow (Ua U p) ρ2) (Ow U (ρ2.set i (.d p ep kvs))) H2 H2 := ⟨fun _ _ _ h => h, fun b z => .inl (by
    rcases z with z | z
    · exact .inl (.inl z)
    · rcases mem b z with z | z
      · exact .inl (.inr z)
      · exact .inr z)⟩
  refine ⟨⟨?_, nd, fun a h => R2.uth a (.inl h), fun b hb hu => ?_⟩, ⟨A.xt.keep, fun b hb => ?_, A.xt.there⟩⟩
  · exact (R2.slots.set (s := .d p ep kvs) (o := some (.ref p)) i ⟨rfl, d⟩).mono m fun _ _ => rfl
  · rcases mem b hb with z | z
    · subst z; exact hU hu
    · exact R2.dis b z (.inl hu)
  · rcases mem b hb with z | z
    · subst z; exact .inr hp
    · exact A.xt.new b z
theorem Slots.updA {p : Addr} {o : HO} {s' : Sl} (m : Mo O O' H (L2.upd H p o)) : ∀ {ρ : DEnv} {σ : St} {i : Nat} {s : Sl}, (adrs ρ).Nodup → ρ[i]? = some s → adr s = some p → (∀ v, SlOk K O H s v → SlOk K O' (L2.upd H p o) s' v) → Slots K O H ρ σ →
    Slots K O' (L2.upd H p o) (ρ.set i s') σ
  | [], _, i, _, _, e, _, _, _ => by simp at e
  | _ :: _, [], _, _, _, _, _, _, h => h.elim
  | t :: ρ, v :: σ, 0, s, nd, e, ea, q, h => by
    simp at e
    subst e
    rw [adrs_cons] at nd
    have nn : p ∉ adrs ρ := fun z => (List.nodup_append.mp nd).2.2 p (by simp [ea]) p z rfl
    exact ⟨q v h.1, h.2.mono m fun a ha => upd_ne fun z => nn (z ▸ ha)⟩
  | t :: ρ, v :: σ, i + 1, s, nd, e, ea, q, h => by
    simp at e
    rw [adrs_cons] at nd
    have nd' := List.nodup_append.mp nd
    refine ⟨?_, Slots.updA m nd'.2.1 e ea q h.2⟩
    have h1 := h.1
    cases t with
    | no => trivial
    | v d => obtain ⟨v, e', q'⟩ := h1; exact ⟨v, e', m.dq d v q'⟩
    | l a es =>
      obtain ⟨e', xs, q1, q2⟩ := h1
      have ne : a ≠ p := nd'.2.2 a (by simp [adr]) p (mem_adrsA e ea)
      exact ⟨e', xs, by rw [upd_ne ne]; exact q1, m.dqs es xs q2⟩
    | d a ep kvs =>
      have ne : a ≠ p := nd'.2.2 a (by simp [adr]) p (mem_adrsA e ea)
      exact ⟨h1.1, h1.2.to m (upd_ne ne)⟩
    | o kd C dx x a ds =>
      have ne : a ≠ p := nd'.2.2 a (by simp [adr]) p (mem_adrsA e ea)
      exact ⟨h1.1, h1.2.to m (upd_ne ne)⟩
theorem Rep.mutD (R : Rep K U H σ ρ) {i : Nat} {a : Addr} {ep ep' : Nat} {kvs kvs' : List (D × D)} {es' : List Ent} (e : ρ[i]? = some (.d a ep kvs)) (q : Dks K (Ow U ρ) H kvs' es') (nd : (es'.map (·.1)).Nodup) :
    Aft K U ρ H σ (ρ.set i (.d a ep' kvs')) (upd H a (dictO a ep' es')) := by
  have ee : (ρ.set i (.d a ep' kvs')).map er = ρ.map er := by
    rw [List.map_set]
    have e : (ρ.map er)[i]? = some (.d a 0 []) := by rw [List.getElem?_map, e]; rfl
    obtain ⟨hi, e⟩ := List.getElem?_eq_some_iff.mp e
    show (ρ.map er).set i (.d a 0 []) = _
    rw [← e, List.set_getElem_self]
  have ea : adrs (ρ.set i (.d a ep' kvs')) = adrs ρ := adrs_er ee
  have ha : a ∈ adrs ρ := mem_adrsA e rfl
  have x : Xt ρ (ρ.set i (.d a ep' kvs')) H (upd H a (dictO a ep' es')) := ⟨fun b o n h => by rw [upd_ne (fun z => n (by rw [z]; exact ha))]; exact h, fun b h => .inl (by rw [ea] at h; exact h), upd_there⟩
  have m := x.mo (U := U)
  refine ⟨⟨⟨R.slots.updA m R.nd e rfl fun v h => ⟨h.1, es', upd_same, m.dks q, nd⟩, by rw [ea]; exact R.nd, fun b hb => ?_, fun b hb => ?_⟩, x⟩, ee⟩
  · obtain ⟨u, z⟩ := R.uth b hb
    exact x.there b u z
  · rw [ea] at hb; exact R.dis b hb
/-- an object that others own is written -/
theorem Rep.updU (R : Rep K U H σ ρ) {p : Addr} {o : HO} (hp : U p) : Rep K U (upd H p o) σ ρ := by
  have na : ∀ a, a ∈ adrs ρ → a ≠ p := fun a ha z => R.dis a ha (by rw [z]; exact hp)
  refine ⟨R.slots.mono (⟨fun a u n e => by rw [upd_ne (fun z => n (by rw [z]; exact .inl hp))]; exact e, fun a z => .inl z⟩) fun a ha => upd_ne (na a ha), R.nd, fun a h => ?_, R.dis⟩
  obtain ⟨u, e⟩ := R.uth a h
  exact upd_there a u e
theorem Rep.ua (R : Rep K U H σ ρ) {p : Addr} {o : HO} (hp : H p = none) : Rep K (Ua U p) (upd H p o) σ ρ := (RepR.ua R (r := .v .non) (v := .non) (by simp only [RepR, Dq]) hp).1
theorem Rep.nU (R : Rep K U H σ ρ) {p : Addr} (hp : H p = none) : ¬ U p := fun h => by
  obtain ⟨o, e⟩ := R.uth p h
  rw [hp] at e; cases e
end
end DL

namespace DL
open PySem L2
variable [WW]
section
variable {ρ ρ' : DEnv} {P : CtR} {PB : CtB} {E : EX} {F : DEnds} {t ta tb tk tv tx : TD} {d dv : D} {a : Addr} {ep n i j : Nat} {kvs : List (D × D)} {r : Rs}
/-! the transformers -/
def isDd : Option Sl → Prop
  | some (.d _ _ _) => True
  | _ => False
theorem isDd_d : isDd (some (.d a ep kvs)) = True := rfl
def qNInS (neg : Bool) (P : CtR) (ρ : DEnv) (d : D) : Option Sl → Prop
  | some (.d _ _ kvs) => ∃ k, nk d = some k ∧ P (.v (.bl (neg ^^ (dget kvs k).isSome))) ρ
  | _ => False
def qNIn (neg : Bool) (i : Nat) (P : CtR) : CtR := fun r ρ => match r with
  | .v d => qNInS neg P ρ d ρ[i]?
  | _ => False
def dNIn (neg : Bool) (i : Nat) (t : TD) : TD := fun ρ P E => t ρ (qNIn neg i P) E
theorem w_nin {neg : Bool} : dNIn neg i t ρ P E = t ρ (qNIn neg i P) E := rfl
theorem w_qNIn {neg : Bool} : qNIn neg i P (.v d) ρ = qNInS neg P ρ d ρ[i]? := rfl
theorem w_qNInT : qNInS false P ρ d (some (.d a ep kvs)) = ∃ k, nk d = some k ∧ P (.v (.bl (dget kvs k).isSome)) ρ := by simp [qNInS]
theorem w_qNInF : qNInS true P ρ d (some (.d a ep kvs)) = ∃ k, nk d = some k ∧ P (.v (.bl (!(dget kvs k).isSome))) ρ := by simp [qNInS]
def qNGetS (P : CtR) (ρ : DEnv) (d : D) : Option Sl → Prop
  | some (.d _ _ kvs) => ∃ k v, nk d = some k ∧ dget kvs k = some v ∧ P (.v v) ρ
  | _ => False
def qNGet (i : Nat) (P : CtR) : CtR := fun r ρ => match r with
  | .v d => qNGetS P ρ d ρ[i]?
  | _ => False
def dNGet (i : Nat) (t : TD) : TD := fun ρ P E => isDd ρ[i]? ∧ t ρ (qNGet i P) E
theorem w_nget : dNGet i t ρ P E = (isDd ρ[i]? ∧ t ρ (qNGet i P) E) := rfl
theorem w_qNGet : qNGet i P (.v d) ρ = qNGetS P ρ d ρ[i]? := rfl
theorem w_qNGetS : qNGetS P ρ d (some (.d a ep kvs)) = ∃ k v, nk d = some k ∧ dget kvs k = some v ∧ P (.v v) ρ := rfl
def qNG2S (P : CtR) (ρ : DEnv) (d dz : D) : Option Sl → Prop
  | some (.d _ _ kvs) => ∃ k, nk d = some k ∧ P (.v ((dget kvs k).getD dz)) ρ
  | _ => False
def qNG2b (i : Nat) (d : D) (P : CtR) : CtR := fun r ρ => match r with
  | .v dz => qNG2S P ρ d dz ρ[i]?
  | _ => False
def qNG2 (i : Nat) (tx : TD) (P : CtR) (E : EX) : CtR := fun r ρ => match r with
  | .v d => tx ρ (qNG2b i d P) E
  | _ => False
def dNG2 (i : Nat) (t tx : TD) : TD := fun ρ P E => isDd ρ[i]? ∧ t ρ (qNG2 i tx P E) E
theorem w_ng2 : dNG2 i t tx ρ P E = (isDd ρ[i]? ∧ t ρ (qNG2 i tx P E) E) := rfl
theorem w_qNG2 : qNG2 i tx P E (.v d) ρ = tx ρ (qNG2b i d P) E := rfl
theorem w_qNG2b : qNG2b i d P (.v dv) ρ = qNG2S P ρ d dv ρ[i]? := rfl
theorem w_qNG2S : qNG2S P ρ d dv (some (.d a ep kvs)) = ∃ k, nk d = some k ∧ P (.v ((dget kvs k).getD dv)) ρ := rfl
def qNLen (P : CtR) (ρ : DEnv) : Option Sl → Prop
  | some (.d _ _ kvs) => P (.v (.int (kvs.length : Nat))) ρ
  | _ => False
def dNLen (i : Nat) : TD := fun ρ P _ => qNLen P ρ ρ[i]?
theorem w_nlen : dNLen i ρ P E = qNLen P ρ ρ[i]? := rfl
theorem w_qNLen : qNLen P ρ (some (.d a ep kvs)) = P (.v (.int (kvs.length : Nat))) ρ := rfl
def qNPutS (i : Nat) (D' : DEnds) (dv d : D) (ρ : DEnv) : Option Sl → Prop
  | some (.d a _ kvs) => ∃ k, nk d = some k ∧ kvs.length ≤ 1000000 ∧ ∀ ep, D'.nx (ρ.set i (.d a ep (dput kvs k d dv)))
  | _ => False
def qNPut2 (i : Nat) (D' : DEnds) (dv : D) : CtR := fun r ρ => match r with
  | .v d => qNPutS i D' dv d ρ ρ[i]?
  | _ => False
def qNPut (i : Nat) (tk : TD) (D' : DEnds) : CtR := fun r ρ => match r with
  | .v dv => isDd ρ[i]? ∧ tk ρ (qNPut2 i D' dv) D'.ex
  | _ => False
def dNPut (i : Nat) (tk tv : TD) : TSd := fun D' ρ => tv ρ (qNPut i tk D') D'.ex
theorem w_nput : dNPut i tk tv F ρ = tv ρ (qNPut i tk F) F.ex := rfl
theorem w_qNPut : qNPut i tk F (.v dv) ρ = (isDd ρ[i]? ∧ tk ρ (qNPut2 i F dv) F.ex) := rfl
theorem w_qNPut2 : qNPut2 i F dv (.v d) ρ = qNPutS i F dv d ρ ρ[i]? := rfl
theorem w_qNPutS : qNPutS i F dv d ρ (some (.d a ep kvs)) = ∃ k, nk d = some k ∧ kvs.length ≤ 1000000 ∧ ∀ ep, F.nx (ρ.set i (.d a ep (dput kvs k d dv))) := rfl
abbrev CtD := List (D × D) → DEnv → Prop
abbrev TDd := DEnv → CtD → EX → Prop
def dNil0 : TDd := fun ρ P _ => P [] ρ
theorem w_ndis0 {P : CtD} : dNil0 ρ P E = P [] ρ := rfl
def qDisp2 (d : D) (P : CtD) : CtR := fun r ρ => match r with
  | .v dv => P [(d, dv)] ρ
  | _ => False
def qDisp1 (tv : TD) (P : CtD) (E : EX) : CtR := fun r ρ => match r with
  | .v d => (nk d).isSome = true ∧ tv ρ (qDisp2 d P) E
  | _ => False
def dDisp1 (tk tv : TD) : TDd := fun ρ P E => tk ρ (qDisp1 tv P E) E
theorem w_ndis1 {P : CtD} : dDisp1 tk tv ρ P E = tk ρ (qDisp1 tv P E) E := rfl
theorem w_qDisp1 {P : CtD} : qDisp1 tv P E (.v d) ρ = ((nk d).isSome = true ∧ tv ρ (qDisp2 d P) E) := rfl
theorem w_qDisp2 {P : CtD} : qDisp2 d P (.v dv) ρ = P [(d, dv)] ρ := rfl
variable {td : TDd}
def qNew (i : Nat) (D' : DEnds) : CtD := fun kvs ρ => ∀ a ep, D'.nx (ρ.set i (.d a ep kvs))
def dNew (i : Nat) (td : TDd) : TSd := fun D' ρ => td ρ (qNew i D') D'.ex
theorem w_new : dNew i td F ρ = td ρ (qNew i F) F.ex := rfl
theorem w_qNew : qNew i F kvs ρ = ∀ a ep, F.nx (ρ.set i (.d a ep kvs)) := rfl
def qParD2 (i j : Nat) (kvs : List (D × D)) (D' : DEnds) : CtR := fun r ρ => ∀ a ep, D'.nx ((asg j r ρ).set i (.d a ep kvs))
def qParD (i j : Nat) (tb : TD) (D' : DEnds) : CtD := fun kvs ρ => tb ρ (qParD2 i j kvs D') D'.ex
def dParD (i j : Nat) (td : TDd) (tb : TD) : TSd := fun D' ρ => td ρ (qParD i j tb D') D'.ex
theorem w_parD : dParD i j td tb F ρ = td ρ (qParD i j tb F) F.ex := rfl
theorem w_qParD : qParD i j tb F kvs ρ = tb ρ (qParD2 i j kvs F) F.ex := rfl
theorem w_qParD2 : qParD2 i j kvs F r ρ = ∀ a ep, F.nx ((asg j r ρ).set i (.d a ep kvs)) := rfl
def qMoveD (i j : Nat) (D' : DEnds) (ρ : DEnv) : Option Sl → Prop
  | some (.d a ep kvs) => D'.nx ((ρ.set j .no).set i (.d a ep kvs))
  | _ => False
def dMoveD (i j : Nat) : TSd := fun D' ρ => qMoveD i j D' ρ ρ[j]?
theorem w_moveD : dMoveD i j F ρ = qMoveD i j F ρ ρ[j]? := rfl
theorem w_qMoveD : qMoveD i j F ρ (some (.d a ep kvs)) = F.nx ((ρ.set j .no).set i (.d a ep kvs)) := rfl
def stD (i : Nat) (s : Sl) (ρ : DEnv) : Prop := ρ[i]? = some s
def qDiN (i : Nat) (P : List D → (DEnv → Prop) → DEnv → Prop) (ρ : DEnv) : Option Sl → Prop
  | some (.d a ep kvs) => P (kvs.map (·.1)) (stD i (.d a ep kvs)) ρ
  | _ => False
def diN (i : Nat) : TId := fun ρ P _ => qDiN i P ρ ρ[i]?
theorem w_diN {P : List D → (DEnv → Prop) → DEnv → Prop} : diN i ρ P E = qDiN i P ρ ρ[i]? := rfl
theorem w_qDiN {P : List D → (DEnv → Prop) → DEnv → Prop} : qDiN i P ρ (some (.d a ep kvs)) = P (kvs.map (·.1)) (stD i (.d a ep kvs)) ρ := rfl
end
/-! the rules -/
def Rfd (K : PySem.W.Frag) (W : WX) (te : TE) (t : TDd) : Prop := ∀ (U : Addr → Prop) σ ρ H P E (Q : VK), Rep K U H σ ρ → t ρ P E →
  (∀ kvs ρ' p H' ep, P kvs ρ' → AftS K (Ua U p) ρ H ρ' σ H' → ρ'.map er = ρ.map er → H p = none → DicAt K (Ow (Ua U p) ρ') H' p ep kvs → Q (.ref p) H') → XP K U W ρ H σ E → te σ H Q
def DDc (X : Cx) (W : WX) (e : Expr) (t : TDd) : Prop := ∃ te, PE X e te ∧ Rfd X.K W te t
def DcE (X : Cx) (e : Expr) (i : Nat) : Prop := PE X e (tVar i)
section
variable {X : Cx} {W : WX} {e a b i o value : Expr} {t ta tb tk tv tx : TD} {td : TDd} {pos pos' apos cpos p : Pos}
theorem dc_var (n : Nat) {x : Str} (hN : X.N[n]? = some x := by rfl) (hv : Vis X.env.scope x := by first | exact Or.inl rfl | exact Or.inr (Or.inl rfl) | exact Or.inr (Or.inr rfl)) (hd : (x == ("__debug__" : Str)) = false := by decide) (hcd : (x == ("__classdict__" : Str)) = false := by decide) : DcE X (.Name x pos) n := pe_var hN hv hd hcd
theorem Rep.dcAt {K : PySem.W.Frag} {U : Addr → Prop} {H : Hp} {σ : St} {ρ : DEnv} (R : Rep K U H σ ρ) {n : Nat} {a : Addr} {ep : Nat} {kvs : List (D × D)} (e : ρ[n]? = some (.d a ep kvs)) : σ[n]? = some (some (.ref a)) ∧ DicAt K (Ow U ρ) H a ep kvs := by
  obtain ⟨o, e1, ok⟩ := R.slots.get e
  exact ⟨by rw [e1, ok.1], ok.2⟩
theorem er_atD {ρ ρ' : DEnv} (e : ρ'.map er = ρ.map er) {i : Nat} {a : Addr} {ep : Nat} {kvs : List (D × D)} (h : ρ'[i]? = some (.d a ep kvs)) : ∃ ep' kvs', ρ[i]? = some (.d a ep' kvs') := by
  have q : (ρ'.map er)[i]? = (ρ.map er)[i]? := by rw [e]
  rw [List.getElem?_map, List.getElem?_map, h] at q
  cases z : ρ[i]? with
  | none => rw [z] at q; simp at q
  | some s =>
    rw [z] at q
    simp only [Option.map_some, Option.some.injEq] at q
    cases s with
    | l a' ds' => simp [er] at q
    | no => simp [er] at q
    | v d => simp [er] at q
    | o kd C dx x a ds => simp [er] at q
    | d a' ep' kvs' => simp only [er, Sl.d.injEq] at q; obtain ⟨q, _⟩ := q; subst q; exact ⟨ep', kvs', rfl⟩
theorem RepF.bl {K : PySem.W.Frag} {U : Addr → Prop} {H0 H : Hp} {σ : St} {ρ : DEnv} (c : Bool) : RepF K U H0 H σ ρ (.v (.bl c)) (.bl c) := ⟨by simp only [RepR, Dq], trivial, fun _ _ e => nomatch e⟩
theorem rf_nin {K : PySem.W.Frag} {te : TE} {neg : Bool} {n : Nat} (ra : Rf K W te t) : Rf K W (tNIn K neg te (tVar n)) (dNIn neg n t) := by
  intro U σ ρ H P E Q R h k x
  refine ra U σ ρ H _ E _ R h (fun r ρ1 v H1 q A z => ?_) x
  cases r with
  | v d =>
    have q : qNInS neg P ρ1 d ρ1[n]? := q
    cases hs : ρ1[n]? with
    | none => rw [hs] at q; exact q.elim
    | some s =>
      rw [hs] at q
      cases s with
      | d a ep kvs =>
        obtain ⟨kk, hk, q⟩ := q
        obtain ⟨e1, es, g, dk, nd⟩ := A.rep.dcAt hs
        refine ⟨.ref a, e1, a, ep, es, kk, rfl, g, ⟨dks_ky dk, nd⟩, ⟨_, d, z.val, hk⟩, ?_⟩
        rw [← dks_is dk kk]
        exact k _ _ _ _ q A (RepF.bl _)
      | o kd C dx x a ds => exact q.elim
      | no => exact q.elim
      | v d => exact q.elim
      | l a ds => exact q.elim
  | f a ds => exact q.elim
  | b i => exact q.elim
theorem de_nin {n : Nat} (hu : X.A.units + 64 < cLine) (ho : DcE X o n) (he : DE X W e t) (hm : behindInMarks .In o = false := by first | rfl | exact nomark _) (hw : X.w = WW.w := by rfl) : DE X W (.Compare e [.In] [o] pos) (dNIn false n t) := by
  obtain ⟨s, p, r⟩ := he
  exact ⟨_, pe_cmp (pc_nin hw (by omega) p ho) hm, rf_nin r⟩
theorem de_nnotin {n : Nat} (hu : X.A.units + 64 < cLine) (ho : DcE X o n) (he : DE X W e t) (hm : behindInMarks .NotIn o = false := by first | rfl | exact nomark _) (hw : X.w = WW.w := by rfl) : DE X W (.Compare e [.NotIn] [o] pos) (dNIn true n t) := by
  obtain ⟨s, p, r⟩ := he
  exact ⟨_, pe_cmp (pc_nnotin hw (by omega) p ho) hm, rf_nin r⟩
theorem dt_of_de {c : Expr} (pt : ∀ te, PE X c te → PT X c (tB te)) (h : DE X W c t) : DT X W c (dTest t) := by
  obtain ⟨s, p, r⟩ := h
  exact ⟨_, pt _ p, rft_test r⟩
theorem dt_nin {n : Nat} (hu : X.A.units + 64 < cLine) (ho : DcE X o n) (he : DE X W e t) (hm : behindInMarks .In o = false := by first | rfl | exact nomark _) (hw : X.w = WW.w := by rfl) : DT X W (.Compare e [.In] [o] pos) (dTest (dNIn false n t)) := by
  obtain ⟨s, p, r⟩ := he
  exact ⟨_, pt_cmp (pc_nin hw (by omega) p ho) hm, rft_test (rf_nin r)⟩
theorem dt_nnotin {n : Nat} (hu : X.A.units + 64 < cLine) (ho : DcE X o n) (he : DE X W e t) (hm : behindInMarks .NotIn o = false := by first | rfl | exact nomark _) (hw : X.w = WW.w := by rfl) : DT X W (.Compare e [.NotIn] [o] pos) (dTest (dNIn true n t)) := by
  obtain ⟨s, p, r⟩ := he
  exact ⟨_, pt_cmp (pc_nnotin hw (by omega) p ho) hm, rft_test (rf_nin r)⟩
/-- the slot's address, ahead of an expression -/
theorem Rep.dcPre {K : PySem.W.Frag} {U : Addr → Prop} {H : Hp} {σ : St} {ρ : DEnv} (R : Rep K U H σ ρ) {n : Nat} (h : isDd ρ[n]?) : ∃ a, σ[n]? = some (some (.ref a)) ∧ (∃ ep es, H a = some (dictO a ep es)) ∧ ∀ ρ' : DEnv, ρ'.map er = ρ.map er → ∀ a' ep kvs, ρ'[n]? = some (.d a' ep kvs) → a' = a := by
  cases hs : ρ[n]? with
  | none => rw [hs] at h; exact h.elim
  | some s =>
    rw [hs] at h
    cases s with
    | d a ep kvs =>
      obtain ⟨e1, es, g, _⟩ := R.dcAt hs
      refine ⟨a, e1, ⟨ep, es, g⟩, fun ρ' e a' ep' kvs' h' => ?_⟩
      obtain ⟨_, _, z⟩ := er_atD e h'
      rw [hs] at z; cases z; rfl
    | o kd C dx x a ds => exact h.elim
    | no => exact h.elim
    | v d => exact h.elim
    | l a ds => exact h.elim
theorem de_nget {n : Nat} (hu : X.A.units + 64 < cLine) (ho : DcE X o n) (hi : DE X W i t) (hs : NoSl i := by intro _ _; rfl) (hw : X.w = WW.w := by rfl) : DE X W (.Subscript o i pos) (dNGet n t) := by
  obtain ⟨s, p, r⟩ := hi
  refine ⟨_, pe_nget hw (by omega) ho p hs, fun U σ ρ H P E Q R h k x => ?_⟩
  obtain ⟨hd, h⟩ := h
  obtain ⟨a, e1, _, same⟩ := R.dcPre hd
  refine ⟨.ref a, e1, ?_⟩
  refine r U σ ρ H _ E _ R h (fun rr ρ1 v H1 q A z => ?_) x
  cases rr with
  | v d =>
    have q : qNGetS P ρ1 d ρ1[n]? := q
    cases hs : ρ1[n]? with
    | none => rw [hs] at q; exact q.elim
    | some s =>
      rw [hs] at q
      cases s with
      | d a' ep kvs =>
        obtain ⟨kk, dv, hk, hg, q⟩ := q
        obtain rfl := same ρ1 A.er a' ep kvs hs
        obtain ⟨_, es, g, dk, nd⟩ := A.rep.dcAt hs
        rcases dks_get dk kk with ⟨z1, _⟩ | ⟨d', v', z1, z2, z3⟩
        · rw [hg] at z1; cases z1
        · rw [hg] at z1; cases z1
          exact ⟨a', ep, es, kk, v', rfl, g, ⟨dks_ky dk, nd⟩, ⟨_, d, z.val, hk⟩, z2, k _ _ _ _ q A ⟨z3, trivial, fun _ _ e => nomatch e⟩⟩
      | o kd C dx x a ds => exact q.elim
      | no => exact q.elim
      | v d => exact q.elim
      | l a ds => exact q.elim
  | f a ds => exact q.elim
  | b i => exact q.elim
theorem de_nget2 {n : Nat} {f : Expr} (hu : X.A.units + 64 < cLine) (ho : DcE X o n) (he : DE X W e t) (hf : DE X W f tx) (m : M2 X o "get" apos e f cpos := by exact ⟨rfl, rfl, rfl, rfl⟩) (hw : X.w = WW.w := by rfl) : DE X W (.Call (.Attribute o "get" apos) [e, f] [] cpos) (dNG2 n t tx) := by
  obtain ⟨s, p, r⟩ := he
  obtain ⟨s', p', r'⟩ := hf
  refine ⟨_, pe_nget2 hw (by omega) ho p p' m, fun U σ ρ H P E Q R h k x => ?_⟩
  obtain ⟨hd, h⟩ := h
  obtain ⟨a, e1, ⟨ep0, es0, g0⟩, same⟩ := R.dcPre hd
  refine ⟨.ref a, e1, a, ep0, es0, rfl, g0, ?_⟩
  refine r U σ ρ H _ E _ R h (fun rr ρ1 v H1 q A z => ?_) x
  cases rr with
  | v d =>
    refine r' U σ ρ1 H1 _ E _ A.rep q (fun rr ρ2 v2 H2 q2 A2 z2 => ?_) (x.step A)
    cases rr with
    | v dz =>
      have q2 : qNG2S P ρ2 d dz ρ2[n]? := q2
      cases hs : ρ2[n]? with
      | none => rw [hs] at q2; exact q2.elim
      | some s =>
        rw [hs] at q2
        cases s with
        | d a' ep kvs =>
          obtain ⟨kk, hk, q2⟩ := q2
          obtain rfl := same ρ2 (A2.er.trans A.er) a' ep kvs hs
          obtain ⟨_, es, g, dk, nd⟩ := A2.rep.dcAt hs
          refine ⟨ep, es, kk, g, ⟨dks_ky dk, nd⟩, ⟨_, d, A2.keepR A.rep z.val, hk⟩, ?_⟩
          rcases dks_get dk kk with ⟨z1, z2'⟩ | ⟨d', v', z1, z2', z3⟩
          · rw [z1] at q2
            rw [z2']
            exact k _ _ _ _ q2 (A.trans A2) ⟨z2.val, trivial, fun _ _ e => nomatch e⟩
          · rw [z1] at q2
            rw [z2']
            exact k _ _ _ _ q2 (A.trans A2) ⟨z3, trivial, fun _ _ e => nomatch e⟩
        | o kd C dx x a ds => exact q2.elim
        | no => exact q2.elim
        | v d => exact q2.elim
        | l a ds => exact q2.elim
    | f a ds => exact q2.elim
    | b i => exact q2.elim
  | f a ds => exact q.elim
  | b i => exact q.elim
theorem de_nlen {n : Nat} {x : Str} (ho : DcE X o n) (hm : X.mg x = none) (hv : bootBuiltins x = some (.builtin "len")) (hg : Gl X x := by rfl) (hn : x ≠ "__name__" := by decide) (hdb : (x == ("__debug__" : Str)) = false := by decide)
    (he : starEach [o] X.env = (false, eval o X.env) :: starEach [] X.env := by rfl) (hpl : (backTo pos (starEach [] X.env)).any (·.1) = false := by rfl) (hw : X.w = WW.w := by rfl) : DE X W (.Call (.Name x p) [o] [] pos) (dNLen n) := by
  refine ⟨_, pe_callB (call_len_n hw) hg hm hv (pa_cons ho pa_nil he) hn hdb he hpl, fun U σ ρ H P E Q R h k x => ?_⟩
  have h : qNLen P ρ ρ[n]? := h
  cases hs : ρ[n]? with
  | none => rw [hs] at h; exact h.elim
  | some s =>
    rw [hs] at h
    cases s with
    | d a ep kvs =>
      obtain ⟨e1, es, g, dk, nd⟩ := R.dcAt hs
      refine ⟨.ref a, e1, a, ep, es, rfl, g, ⟨dks_ky dk, nd⟩, ?_⟩
      rw [← dks_len dk]
      exact k _ _ _ _ h R.refl ⟨by simp only [RepR, Dq], trivial, fun _ _ e => nomatch e⟩
    | o kd C dx x a ds => exact h.elim
    | no => exact h.elim
    | v d => exact h.elim
    | l a ds => exact h.elim
theorem ds_nput {n : Nat} (hu : X.A.units + 64 < cLine) (ho : DcE X o n) (hi : DE X W i tk) (hv : DE X W value tv) (hs : swapsWith value (some (.Subscript o i pos')) pos.line X.env = pure false := by rfl) (hw : X.w = WW.w := by rfl) :
    DS X W (.Assign [.Subscript o i pos'] value pos) (dNPut n tk tv) := by
  obtain ⟨s, p, r⟩ := hi
  obtain ⟨s', p', r'⟩ := hv
  refine ⟨_, ps_nput hw (by omega) ho p p' hs, fun U σ ρ H D E R h B => ?_⟩
  refine r' U σ ρ H _ D.ex _ R h (fun rr ρ1 v H1 q A z => ?_) B.xp
  cases rr with
  | v dv =>
    obtain ⟨hd, q⟩ := q
    obtain ⟨a, e1, _, same⟩ := A.rep.dcPre hd
    refine ⟨.ref a, e1, ?_⟩
    refine r U σ ρ1 H1 _ D.ex _ A.rep q (fun rr ρ2 v2 H2 q2 A2 z2 => ?_) (B.xp.step A)
    cases rr with
    | v d =>
      have q2 : qNPutS n D dv d ρ2 ρ2[n]? := q2
      cases hs : ρ2[n]? with
      | none => rw [hs] at q2; exact q2.elim
      | some s =>
        rw [hs] at q2
        cases s with
        | d a' ep kvs =>
          obtain ⟨kk, hk, hl, q2⟩ := q2
          obtain rfl := same ρ2 A2.er a' ep kvs hs
          obtain ⟨_, es, g, dk, nd⟩ := A2.rep.dcAt hs
          have hb : ∃ b, v2 = .ref b := by
            have zv := z2.val
            cases d with
            | tup ds => simp only [RepR, Dq] at zv; obtain ⟨b, _, e, _⟩ := zv; exact ⟨b, e⟩
            | non => simp [nk] at hk
            | bl _ => simp [nk] at hk
            | int _ => simp [nk] at hk
            | str _ => simp [nk] at hk
            | lst _ => simp [nk] at hk
            | ob _ => simp [nk] at hk
          obtain ⟨b, rfl⟩ := hb
          refine ⟨a', ep, es, kk, b, rfl, rfl, g, ⟨dks_ky dk, nd⟩, ⟨_, d, z2.val, hk⟩, ?_, fun ep' => ?_⟩
          · rw [← dks_len dk]; exact Nat.lt_of_le_of_lt hl (by rw [sizeLine_eq]; decide)
          · have zv := A2.keepR A.rep z.val
            exact B.nx _ _ _ (q2 ep') ((A.trans A2).trans (A2.rep.mutD hs (dks_put dk hk z2.val zv) (putE_nd nd))).toAftS
        | o kd C dx x a ds => exact q2.elim
        | no => exact q2.elim
        | v d => exact q2.elim
        | l a ds => exact q2.elim
    | f a ds => exact q2.elim
    | b i => exact q2.elim
  | f a ds => exact q.elim
  | b i => exact q.elim
/-! displays -/
theorem dd_nil : DDc X W (.Dict [] [] pos) dNil0 := by
  refine ⟨_, pe_nnew, fun U σ ρ H P E Q R h k x => ?_⟩
  intro p ep hp
  have A := R.new (o := dictO p ep []) hp
  exact k [] ρ p _ ep h ⟨R.ua hp, A.xt⟩ rfl hp ⟨[], upd_same, trivial, List.nodup_nil⟩
theorem dd_one (hu : X.A.units + 64 < cLine) (hi : DE X W i tk) (hv : DE X W value tv) (hw : X.w = WW.w := by rfl) : DDc X W (.Dict [some i] [value] pos) (dDisp1 tk tv) := by
  obtain ⟨s, p, r⟩ := hi
  obtain ⟨s', p', r'⟩ := hv
  refine ⟨_, pe_nnew1 hw (by omega) p p', fun U σ ρ H P E Q R h k x => ?_⟩
  intro p ep hp
  have A0 := R.new (o := dictO p ep []) hp
  have R0 := R.ua (o := dictO p ep []) hp
  have np : p ∉ adrs ρ := fun z => R0.dis p z (.inr rfl)
  have x0 : XP X.K (Ua U p) W ρ (upd H p (dictO p ep [])) σ E := fun C ρ' H' c b => x C ρ' H' c (A0.trans (b.less fun _ h => .inl h))
  refine r (Ua U p) σ ρ _ _ E _ R0 h (fun rr ρ1 v H1 q A z => ?_) x0
  cases rr with
  | v d =>
    obtain ⟨hk, q⟩ := q
    refine r' (Ua U p) σ ρ1 H1 _ E _ A.rep q (fun rr ρ2 v2 H2 q2 A2 z2 => ?_) (x0.step A)
    cases rr with
    | v dv =>
      have q2 : P [(d, dv)] ρ2 := q2
      obtain ⟨kk, hk⟩ := Option.isSome_iff_exists.mp hk
      have A3 := A.trans A2
      have g : H2 p = some (dictO p ep []) := A3.xt.keep p _ np upd_same
      have hb : ∃ b, v = .ref b := by
        have zv := z.val
        cases d with
        | tup ds => simp only [RepR, Dq] at zv; obtain ⟨b, _, e, _⟩ := zv; exact ⟨b, e⟩
        | non => simp [nk] at hk
        | bl _ => simp [nk] at hk
        | int _ => simp [nk] at hk
        | str _ => simp [nk] at hk
        | lst _ => simp [nk] at hk
        | ob _ => simp [nk] at hk
      obtain ⟨b, rfl⟩ := hb
      have zk := A2.keepR A.rep z.val
      refine ⟨ep, kk, b, g, rfl, ⟨_, d, zk, hk⟩, fun ep' => ?_⟩
      have R4 := A3.rep.updU (o := dictO p ep' [(kk, b, v2)]) (.inr rfl : Ua U p p)
      have m : Mo (Ow (Ua U p) ρ2) (Ow (Ua U p) ρ2) H2 (upd H2 p (dictO p ep' [(kk, b, v2)])) := ⟨fun a u n e => by rw [upd_ne (fun z => n (by rw [z]; exact .inl (.inr rfl)))]; exact e, fun a z => .inl z⟩
      refine k [(d, dv)] ρ2 p _ ep' q2 ⟨R4, ⟨fun a u n e => ?_, fun a ha => ?_, fun a u e => ?_⟩⟩ A3.er hp ⟨_, upd_same, ⟨⟨hk, m.dq _ _ zk, m.dq _ _ z2.val⟩, trivial⟩, by simp⟩
      · have ne : a ≠ p := ne_of_none e hp
        rw [upd_ne ne]
        exact A3.xt.keep a u n (by rw [upd_ne ne]; exact e)
      · rw [A3.adr] at ha; exact .inl ha
      · obtain ⟨u', e'⟩ := (A0.xt.trans A3.xt).there a u e
        exact upd_there a u' e'
    | f a ds => exact q2.elim
    | b i => exact q2.elim
  | f a ds => exact q.elim
  | b i => exact q.elim
theorem ds_new (n : Nat) {x : Str} (hN : X.N.Nodup) (hi : X.N[n]? = some x) (hx : Loc X.env.scope x) (he : DDc X W e td) (hs : swapsWith e (some (.Name x pos')) pos.line X.env = pure false := by rfl) (hf : X.fn x = true ∨ X.env.scope.names.lookup x = some .local := by first | exact .inl rfl | exact .inr rfl | assumption) :
    DS X W (.Assign [.Name x pos'] e pos) (dNew n td) := by
  obtain ⟨s, p, r⟩ := he
  refine ⟨_, ps_set hN hi hx p hs hf, fun U σ ρ H D E R h B => ?_⟩
  exact r U σ ρ H _ D.ex _ R h (fun kvs ρ1 p H1 ep q A er hp d => B.nx _ _ H1 (q p ep) (A.dct hp (R.nU hp) d n)) B.xp
theorem ds_parD (m n : Nat) {x y : Str} {px py pt : Pos} {kt k2 pt2} (hc : X.calm = true) (hN : X.N.Nodup) (hi : X.N[m]? = some x) (hj : X.N[n]? = some y) (hij : m ≠ n)
    (hx : X.env.scope.names.lookup x = some .local) (hy : X.env.scope.names.lookup y = some .local) (ha : DDc X W a td) (hb : DE X W b tb) 
    (hw : swappedStores [.Tuple [.Name x px, .Name y py] kt pt] (.Tuple [a, b] k2 pt2) X.env = pure (some [x, y]) := by rfl)
    (hs : swapsWithSole [.Tuple [.Name x px, .Name y py] kt pt] (.Tuple [a, b] k2 pt2) pos.line X.env = pure false := by rfl)
    (h1 : starEach [a, b] X.env = (false, eval a X.env) :: starEach [b] X.env := by rfl) (h2 : starEach [b] X.env = (false, eval b X.env) :: starEach [] X.env := by rfl) :
    DS X W (.Assign [.Tuple [.Name x px, .Name y py] kt pt] (.Tuple [a, b] k2 pt2) pos) (dParD m n td tb) := by
  obtain ⟨s, p, r⟩ := ha
  obtain ⟨s', p', r'⟩ := hb
  refine ⟨_, ps_par hc hN hi hj hij hx hy (pa_cons p (pa_cons p' pa_nil h2) h1) hw hs, fun U σ ρ H D E R h B => ?_⟩
  refine r U σ ρ H _ D.ex _ R h (fun kvs ρ1 p H1 ep q A er hp d => ?_) B.xp
  have xl : XP X.K (Ua U p) W ρ1 H1 σ D.ex := fun C ρ' H' c bb => by
    have A' : AftS X.K U ρ H ρ' σ H' := ⟨(A.trans bb.toAftS).rep.less fun _ h => .inl h, (A.trans bb.toAftS).xt⟩
    exact B.ex C ρ' σ H' c A'
  refine r' (Ua U p) σ ρ1 H1 _ D.ex _ A.rep q (fun rr ρ2 v2 H2 q2 A2 z2 => ?_) xl
  have q2 : ∀ a ep, D.nx ((asg n rr ρ2).set m (.d a ep kvs)) := q2
  have A3 := A2.rep.asg A2.xt n z2
  have np : p ∉ adrs ρ1 := fun z => A.rep.dis p z (.inr rfl)
  have e2 : H2 p = H1 p := by
    obtain ⟨es, g, _⟩ := d
    rw [g]; exact A2.xt.keep p _ np g
  have d3 := d.to (A3.xt.mo (U := Ua U p)) e2
  refine ⟨.ref p, v2, rfl, ?_⟩
  show E.nx ((σ.set m (some (.ref p))).set n (some v2)) H2
  rw [List.set_comm _ _ hij]
  exact B.nx _ _ H2 (q2 p ep) ((A.trans A3).dct hp (R.nU hp) d3 m)
theorem ds_moveD (m n : Nat) {x : Str} (hN : X.N.Nodup) (hi : X.N[m]? = some x) (hx : Loc X.env.scope x) (ho : DcE X o n) (hs : swapsWith o (some (.Name x pos')) pos.line X.env = pure false := by rfl) (hf : X.fn x = true ∨ X.env.scope.names.lookup x = some .local := by first | exact .inl rfl | exact .inr rfl | assumption) :
    DS X W (.Assign [.Name x pos'] o pos) (dMoveD m n) := by
  refine ⟨_, ps_set hN hi hx ho hs hf, fun U σ ρ H D E R h B => ?_⟩
  have h : qMoveD m n D ρ ρ[n]? := h
  cases hs : ρ[n]? with
  | none => rw [hs] at h; exact h.elim
  | some s =>
    rw [hs] at h
    cases s with
    | d a ep kvs =>
      obtain ⟨e1, dc⟩ := R.dcAt hs
      refine ⟨.ref a, e1, ?_⟩
      have ha : a ∈ adrs ρ := mem_adrsA hs rfl
      have hlt := (List.getElem?_eq_some_iff.mp hs).1
      have S1 : Slots X.K (Ow U ρ) H (ρ.set n .no) σ := by
        refine Slots.mk (by rw [List.length_set]; exact R.slots.len) fun k s o h1 h2 => ?_
        by_cases q : n = k
        · subst q
          rw [List.getElem?_set_self hlt] at h1
          cases h1; trivial
        · rw [List.getElem?_set_ne q] at h1
          obtain ⟨o', e', ok⟩ := R.slots.get h1
          rw [h2] at e'; cases e'
          exact ok
      have sub := adrs_set_no ρ n (s := .no) rfl
      have na : a ∉ adrs (ρ.set n .no) := fun z => by
        obtain ⟨k, es, ek, ea⟩ := adrs_at z
        by_cases q : n = k
        · subst q
          rw [List.getElem?_set_self hlt] at ek
          cases ek; cases ea
        · rw [List.getElem?_set_ne q] at ek
          exact q (adrs_inj R.nd hs ek rfl ea)
      obtain ⟨nd, mem⟩ := adrs_set_A (ρ.set n .no) m (s := .d a ep kvs) rfl na (R.nd.sublist sub)
      have mem' : ∀ b, b ∈ adrs ((ρ.set n .no).set m (.d a ep kvs)) → b ∈ adrs ρ := fun b hb => by
        rcases mem b hb with z | z
        · rw [z]; exact ha
        · exact sub.subset z
      have mo : Mo (Ow U ρ) (Ow U ((ρ.set n .no).set m (.d a ep kvs))) H H := R.mono fun b z => z.imp id (mem' b)
      refine B.nx _ _ H h ⟨⟨?_, nd, R.uth, fun b hb => R.dis b (mem' b hb)⟩, Xt.same mem'⟩
      exact (S1.set (s := .d a ep kvs) (o := some (.ref a)) m ⟨rfl, dc⟩).mono mo fun _ _ => rfl
    | o kd C dx x a ds => exact h.elim
    | no => exact h.elim
    | v d => exact h.elim
    | l a ds => exact h.elim
theorem dks_key {K : PySem.W.Frag} {O : Addr → Prop} {H : Hp} : ∀ {kvs : List (D × D)} {es : List Ent} {j : Nat} {e : Ent}, Dks K O H kvs es → es[j]? = some e → ∃ d, (kvs.map (·.1))[j]? = some d ∧ Dq K O H d (.ref e.2.1)
  | [], [], j, e, _, h => by simp at h
  | [], _ :: _, _, _, h, _ => h.elim
  | _ :: _, [], _, _, h, _ => h.elim
  | p :: kvs, x :: es, 0, e, h, g => by simp at g; subst g; exact ⟨p.1, rfl, h.1.2.1⟩
  | p :: kvs, x :: es, j + 1, e, h, g => by
    simp at g
    obtain ⟨d, e1, e2⟩ := dks_key h.2 g
    exact ⟨d, by simpa using e1, e2⟩
theorem di_nkeys (n : Nat) {tg : Expr} (ho : DcE X o n) : DI X W tg o (diN n) := by
  refine ⟨_, pi_nkeys ho, fun U σ ρ H P E R Rp h k x => ?_⟩
  have h : qDiN n P ρ ρ[n]? := h
  cases hs : ρ[n]? with
  | none => rw [hs] at h; exact h.elim
  | some s =>
    rw [hs] at h
    cases s with
    | d a ep kvs =>
      obtain ⟨e1, es, g, dk, nd⟩ := Rp.dcAt hs
      refine ⟨.ref a, e1, a, ep, es, rfl, g, ?_⟩
      have hl := dks_len dk
      refine k _ _ _ _ _ h Rp.refl fun U' hU => ⟨fun ρ' σ' H' i A st hi => ?_, fun ρ' σ' H' i x H2 A st hi y => ?_, fun ρ' σ' H' i A st hi => ?_⟩
      · obtain ⟨_, es', g', dk', _⟩ := A.rep.dcAt (show ρ'[n]? = some (.d a ep kvs) from st)
        rw [List.length_map] at hi
        exact ⟨⟨es', g', by rw [← dks_len dk', hl]⟩, by omega⟩
      · obtain ⟨_, es', g', dk', _⟩ := A.rep.dcAt (show ρ'[n]? = some (.d a ep kvs) from st)
        obtain ⟨ey, y⟩ := y
        subst ey
        obtain ⟨e, he, ex⟩ := y es' g'
        obtain ⟨d, z1, z2⟩ := dks_key dk' he
        exact ⟨d, z1, A.rep.reflS, by rw [ex]; exact z2⟩
      · obtain ⟨_, es', g', dk', _⟩ := A.rep.dcAt (show ρ'[n]? = some (.d a ep kvs) from st)
        rw [List.length_map] at hi
        exact ⟨⟨es', g', by rw [← dks_len dk', hl]⟩, by omega⟩
    | o kd C dx x a ds => exact h.elim
    | no => exact h.elim
    | v d => exact h.elim
    | l a ds => exact h.elim
end
end DL

namespace DL
open PySem L2
variable [WW]
/-! two plain names at once, two lists -/
theorem ds_par2 {X : Cx} {W : WX} {tr : TAd} (i j : Nat) {x y : Str} {a b : Expr} {px py pt pos : Pos} {kt k2 pt2} (hc : X.calm = true) (hN : X.N.Nodup) (hi : X.N[i]? = some x) (hj : X.N[j]? = some y) (hij : i ≠ j)
    (hx : X.env.scope.names.lookup x = some .local) (hy : X.env.scope.names.lookup y = some .local) (ha : DA X W [a, b] tr)
    (hw : swappedStores [.Tuple [.Name x px, .Name y py] kt pt] (.Tuple [a, b] k2 pt2) X.env = pure (some [x, y]) := by rfl)
    (hs : swapsWithSole [.Tuple [.Name x px, .Name y py] kt pt] (.Tuple [a, b] k2 pt2) pos.line X.env = pure false := by rfl) :
    DS X W (.Assign [.Tuple [.Name x px, .Name y py] kt pt] (.Tuple [a, b] k2 pt2) pos) (dParT [i, j] tr) := by
  obtain ⟨s, p, r⟩ := ha
  refine ⟨_, ps_par hc hN hi hj hij hx hy p hw hs, fun U σ ρ H D E R h B => ?_⟩
  refine r U σ ρ H _ D.ex _ R h (fun rs ρ1 vs H1 q A zz => ?_) B.xp
  obtain ⟨hl, h1000, nb, q⟩ := q
  have g : gNs [i, j] vs σ H1 (fun σ' H' => AftS X.K U ρ H (asgs [i, j] rs ρ1) σ' H') := asgs_ok hl nb A.xt zz fun σ' A3 => A3
  obtain ⟨v1, vs1, e1, v2, vs2, e2, e4, A3⟩ := g
  subst e1; subst e2; subst e4
  exact ⟨v1, v2, rfl, B.nx _ _ _ q A3⟩
/-! zip of two tuples -/
def zpD : List D → List D → List D
  | d :: ds, e :: es => .tup [d, e] :: zpD ds es
  | _, _ => []
theorem zpD_len : ∀ (ds es : List D), (zpD ds es).length = min ds.length es.length
  | [], _ => by simp [zpD]
  | _ :: _, [] => by simp [zpD]
  | d :: ds, e :: es => by simp only [zpD, List.length_cons, zpD_len ds es]; omega
theorem zpD_get : ∀ (ds es : List D) (j : Nat) {d e : D}, ds[j]? = some d → es[j]? = some e → (zpD ds es)[j]? = some (.tup [d, e])
  | [], _, j, d, e, h, _ => by simp at h
  | _ :: _, [], j, d, e, _, h => by simp at h
  | x :: ds, y :: es, 0, d, e, h, g => by simp at h g; subst h; subst g; rfl
  | x :: ds, y :: es, j + 1, d, e, h, g => by simp at h g; simpa [zpD] using zpD_get ds es j h g
def qZipT (P : CtI) : CtL := fun rs ρ => match rs with
  | [.v (.tup ds), .v (.tup es)] => P (zpD ds es) (fun _ => True) ρ
  | _ => False
def diZT (t : TAd) : TId := fun ρ P E => t ρ (qZipT P) E
theorem w_diZT {t : TAd} {ρ : DEnv} {P : CtI} {E : EX} : diZT t ρ P E = t ρ (qZipT P) E := rfl
theorem w_qZipT {P : CtI} {ds es : List D} {ρ : DEnv} : qZipT P [.v (.tup ds), .v (.tup es)] ρ = P (zpD ds es) (fun _ => True) ρ := rfl
theorem itzT {K : PySem.W.Frag} {U U' : Addr → Prop} {ρ0 : DEnv} {H0 : Hp} (hU : ∀ a, U' a → U a ∨ H0 a = none) {a b : Addr} {ds es : List D} (q : RepR K U H0 ρ0 (.v (.tup ds)) (.ref a)) (q' : RepR K U H0 ρ0 (.v (.tup es)) (.ref b)) : ItD K U' (RZ.ItzT K a b) (zpD ds es) (fun _ => True) ρ0 H0 := by
  simp only [RepR, Dq] at q q'
  obtain ⟨a', xs, ev, z1, z2⟩ := q
  cases ev
  obtain ⟨b', ys, ev, w1, w2⟩ := q'
  cases ev
  have mo : ∀ {ρ : DEnv} {σ' : St} {H : Hp}, AftS K U' ρ0 H0 ρ σ' H → Mo (Ow U ρ0) (Ow U' ρ) H0 H := fun A => ⟨fun b o nb h => A.xt.keep b o (fun z => nb (.inr z)) h, fun b h => by
    rcases h with h | h
    · exact (hU b h).imp .inl id
    · exact (A.xt.new b h).imp .inr id⟩
  refine ⟨fun ρ σ' H i A s hi => ?_, fun ρ σ' H i x H' A s hi y => ?_, fun ρ σ' H i A s hi => ?_⟩
  · rw [zpD_len] at hi
    obtain ⟨v, ev, _⟩ := dqs_get z2 (List.getElem?_eq_getElem (show i < ds.length by omega))
    obtain ⟨u, eu, _⟩ := dqs_get w2 (List.getElem?_eq_getElem (show i < es.length by omega))
    exact ⟨xs, ys, v, u, ((mo A).lt z1).sq, ((mo A).lt w1).sq, ev, eu⟩
  · obtain ⟨T, x0, y0, ex, hT, eH, hx, hy⟩ := y
    subst ex; subst eH
    obtain ⟨d, e1, e2⟩ := dqs_getV ((mo A).dqs _ _ z2) (hx xs ((mo A).lt z1).sq)
    obtain ⟨e, f1, f2⟩ := dqs_getV ((mo A).dqs _ _ w2) (hy ys ((mo A).lt w1).sq)
    have q2 : Dqs K (Ow U' ρ) H [d, e] [x0, y0] := dqs_cons e2 (dqs_cons f2 dqs_nil)
    obtain ⟨A2, q3⟩ := A.rep.newTup hT q2
    exact ⟨_, zpD_get ds es i e1 f1, A2.toAftS, q3⟩
  · rw [zpD_len, dqs_len z2, dqs_len w2] at hi
    exact ⟨xs, ys, ((mo A).lt z1).sq, ((mo A).lt w1).sq, by omega⟩
theorem di_zip_tt {X : Cx} {W : WX} {a b : Expr} {tr : TAd} {p pos tpos : Pos} {elts : List Expr} {kk : Nat} (hm : X.mg "zip" = none) (h : DA X W [a, b] tr) (hg : Gl X "zip" := by rfl) (hs : starEach [a, b] X.env = (false, eval a X.env) :: starEach [b] X.env := by rfl) (hpl : (backTo pos (starEach [b] X.env)).any (·.1) = false := by rfl) :
    DI X W (.Tuple elts kk tpos) (.Call (.Name "zip" p) [a, b] [] pos) (diZT tr) := by
  obtain ⟨s, pe, re⟩ := h
  refine ⟨_, RZ.pi_zipA hg hm pe hs hpl, fun U σ ρ H P E R Rp h k x => ?_⟩
  refine re U σ ρ H _ E _ Rp h (fun rs ρ1 vs H1 q A z => ?_) x
  match rs, q with
  | [.v (.tup ds), .v (.tup es)], q =>
    obtain ⟨v, w, rfl, z1, z2⟩ := rs2 z rfl
    have y1 := z1
    have y2 := z2
    simp only [RepR, Dq] at y1 y2
    obtain ⟨a', xs, rfl, l1, _⟩ := y1
    obtain ⟨b', ys, rfl, l2, _⟩ := y2
    exact ⟨a', b', xs, ys, rfl, .inr ⟨l1.sq, l2.sq, k _ _ _ _ _ q A fun U' hU => itzT hU z1 z2⟩⟩
/-! enumerate(list), as a rule -/
def qEnS (P : CtI) (ρ : DEnv) (r : Rs) : D → Prop
  | .lst ds => P (enD 0 ds) (stR ρ r) ρ
  | _ => False
def qEn (P : CtI) : CtL := fun rs ρ => match rs with
  | [r] => qEnS P ρ r (dat ρ r)
  | _ => False
theorem w_diE {t : TAd} {ρ : DEnv} {P : CtI} {E : EX} : diE t ρ P E = t ρ (qEn P) E := by
  unfold diE
  congr 1
  funext rs ρ1
  apply propext
  constructor
  · rintro ⟨r, ds, rfl, e, p⟩
    show qEnS P ρ1 r (dat ρ1 r)
    rw [e]; exact p
  · intro h
    match rs, h with
    | [r], h =>
      have h : qEnS P ρ1 r (dat ρ1 r) := h
      cases e : dat ρ1 r with
      | lst ds => rw [e] at h; exact ⟨r, ds, rfl, e, h⟩
      | tup ds => rw [e] at h; exact h.elim
      | non => rw [e] at h; exact h.elim
      | bl b => rw [e] at h; exact h.elim
      | int b => rw [e] at h; exact h.elim
      | str b => rw [e] at h; exact h.elim
      | ob b => rw [e] at h; exact h.elim
theorem w_qEn {P : CtI} {ρ : DEnv} {r : Rs} : qEn P [r] ρ = qEnS P ρ r (dat ρ r) := rfl
theorem w_qEnS {P : CtI} {ρ : DEnv} {r : Rs} {ds : List D} : qEnS P ρ r (.lst ds) = P (enD 0 ds) (stR ρ r) ρ := rfl
end DL

namespace MA
/-! effects one command further; counted rows -/
def ins (x : Int) : List Int → List Int
  | [] => [x]
  | a :: l => if x ≤ a then x :: a :: l else a :: ins x l
def isort (l : List Int) : List Int := l.foldr ins []
theorem ins_perm (x : Int) : ∀ l : List Int, (ins x l).Perm (x :: l)
  | [] => List.Perm.refl _
  | a :: l => by
    unfold ins
    split
    · exact List.Perm.refl _
    · exact (List.Perm.cons a (ins_perm x l)).trans (List.Perm.swap x a l)
theorem isort_perm : ∀ l : List Int, (isort l).Perm l
  | [] => List.Perm.refl _
  | a :: l => (ins_perm a (isort l)).trans (List.Perm.cons a (isort_perm l))
theorem ins_sorted (x : Int) : ∀ l : List Int, l.Pairwise (· ≤ ·) → (ins x l).Pairwise (· ≤ ·)
  | [], _ => by simp [ins]
  | a :: l, h => by
    unfold ins
    rw [List.pairwise_cons] at h
    split
    · rename_i q
      rw [List.pairwise_cons, List.pairwise_cons]
      refine ⟨fun b hb => ?_, h⟩
      rcases List.mem_cons.mp hb with z | z
      · rw [z]; exact q
      · exact Int.le_trans q (h.1 b z)
    · rename_i q
      rw [List.pairwise_cons]
      refine ⟨fun b hb => ?_, ins_sorted x l h.2⟩
      rcases List.mem_cons.mp ((ins_perm x l).mem_iff.mp hb) with z | z
      · rw [z]; omega
      · exact h.1 b z
theorem isort_sorted : ∀ l : List Int, (isort l).Pairwise (· ≤ ·)
  | [] => List.Pairwise.nil
  | a :: l => ins_sorted a _ (isort_sorted l)
theorem perm_sorted : ∀ {l m : List Int}, l.Perm m → l.Pairwise (· ≤ ·) → m.Pairwise (· ≤ ·) → l = m
  | [], m, p, _, _ => (List.nil_perm.mp p).symm
  | a :: l, [], p, _, _ => by simp at p
  | a :: l, b :: m, p, h, g => by
    have e : a = b := by
      have h1 : a ∈ b :: m := p.mem_iff.mp List.mem_cons_self
      have h2 : b ∈ a :: l := p.mem_iff.mpr List.mem_cons_self
      rw [List.pairwise_cons] at h g
      have l1 : b ≤ a := by
        rcases List.mem_cons.mp h1 with z | z
        · rw [z]; exact Int.le_refl _
        · exact g.1 a z
      have l2 : a ≤ b := by
        rcases List.mem_cons.mp h2 with z | z
        · rw [z]; exact Int.le_refl _
        · exact h.1 b z
      omega
    subst e
    rw [perm_sorted (List.Perm.cons_inv p) (List.pairwise_cons.mp h).2 (List.pairwise_cons.mp g).2]
theorem isort_of {l m : List Int} (p : l.Perm m) (h : l.Pairwise (· ≤ ·)) : l = isort m := perm_sorted (p.trans (isort_perm m).symm) h (isort_sorted m)
theorem isort_len {l : List Int} : (isort l).length = l.length := (isort_perm l).length_eq
/-- the effect of one command more -/
def mor (k : Bool) (e : List Int × Int) (c : Nat) : List Int × Int := if c = 99 then (isort (e.1 ++ [e.2]), nxt (isort (e.1 ++ [e.2])) e.2 (wayOf k c)) else (e.1, nxt e.1 e.2 (wayOf k c))
theorem mor_len {k : Bool} {e : List Int × Int} {c : Nat} : (mor k e c).1.length ≤ e.1.length + 1 := by
  unfold mor
  split
  · simp [isort_len]
  · exact Nat.le_succ _
section
variable {α β : Type} [DecidableEq α]
def getA (T : List (α × β)) (a : α) : Option β := (T.find? fun p => decide (p.1 = a)).map (·.2)
def putA (T : List (α × β)) (a : α) (b : β) : List (α × β) := if (getA T a).isSome then T.map (fun p => if p.1 = a then (p.1, b) else p) else T ++ [(a, b)]
theorem putA_len {T : List (α × β)} {a : α} {b : β} : (putA T a b).length ≤ T.length + 1 := by
  unfold putA
  split
  · rw [List.length_map]; omega
  · simp
theorem getA_mem {T : List (α × β)} {p : α × β} (h : p ∈ T) : ∃ b, getA T p.1 = some b := by
  unfold getA
  cases e : T.find? fun q => decide (q.1 = p.1) with
  | none => exact absurd (List.find?_eq_none.mp e p h) (by simp)
  | some q => exact ⟨q.2, rfl⟩
theorem putA_mem {T : List (α × β)} {a : α} {b : β} {p : α × β} (h : p ∈ putA T a b) : p.1 = a ∨ ∃ q ∈ T, q.1 = p.1 := by
  unfold putA at h
  split at h
  · obtain ⟨q, hq, e⟩ := List.mem_map.mp h
    right
    refine ⟨q, hq, ?_⟩
    rw [← e]
    split <;> rfl
  · rcases List.mem_append.mp h with h | h
    · exact .inr ⟨p, h, rfl⟩
    · simp at h; exact .inl (by rw [h])
end
/-- count_rows: one state further -/
def crOne (k : Bool) (pr : List Int) (T : List ((List Int × Int) × Int)) (here : List Int × Int) (L : List ((List Int × Int) × Int)) (c : Nat) : List ((List Int × Int) × Int) :=
  if c ≠ 99 ∨ here.2 ∈ pr then putA L (mor k here c) ((getA L (mor k here c)).getD 0 + (getA T here).getD 0) else L
def crHere (k : Bool) (pr : List Int) (T L : List ((List Int × Int) × Int)) (here : List Int × Int) : List ((List Int × Int) × Int) := [99, 110, 112].foldl (crOne k pr T here) L
def crTurn (k : Bool) (pr : List Int) (T : List ((List Int × Int) × Int)) : List ((List Int × Int) × Int) := (T.map (·.1)).foldl (crHere k pr T) []
def crN (k : Bool) (pr : List Int) : Nat → List ((List Int × Int) × Int)
  | 0 => [(([], 0), 1)]
  | n + 1 => crTurn k pr (crN k pr n)
def crRows (k : Bool) (e : List Int × Int) (n : Nat) : Int := (getA (crN k e.1 n) e).getD 0
theorem crOne_len {k : Bool} {pr : List Int} {T L : List ((List Int × Int) × Int)} {here : List Int × Int} {c : Nat} : (crOne k pr T here L c).length ≤ L.length + 1 := by
  unfold crOne
  split
  · exact putA_len
  · omega
/-- count_effects -/
def ceOne (k : Bool) (e : List Int × Int) (s : List (List Int × Int) × List (List Int × Int)) (c : Nat) : List (List Int × Int) × List (List Int × Int) :=
  if mor k e c ∈ s.1 then s else (s.1 ++ [mor k e c], s.2 ++ [mor k e c])
def ceHere (k : Bool) (s : List (List Int × Int) × List (List Int × Int)) (e : List Int × Int) : List (List Int × Int) × List (List Int × Int) := [99, 110, 112].foldl (ceOne k e) s
def ceTurn (k : Bool) (s : List (List Int × Int) × List (List Int × Int)) : List (List Int × Int) × List (List Int × Int) := s.2.foldl (ceHere k) (s.1, [])
def ceN (k : Bool) : Nat → List (List Int × Int) × List (List Int × Int)
  | 0 => ([([], 0)], [([], 0)])
  | n + 1 => ceTurn k (ceN k n)
theorem ceOne_len {k : Bool} {e : List Int × Int} {s : List (List Int × Int) × List (List Int × Int)} {c : Nat} : (ceOne k e s c).1.length ≤ s.1.length + 1 ∧ (ceOne k e s c).2.length ≤ s.2.length + 1 := by
  unfold ceOne
  split <;> simp
theorem ceHere_len {k : Bool} {e : List Int × Int} {s : List (List Int × Int) × List (List Int × Int)} : (ceHere k s e).1.length ≤ s.1.length + 3 ∧ (ceHere k s e).2.length ≤ s.2.length + 3 := by
  unfold ceHere
  simp only [List.foldl_cons, List.foldl_nil]
  have h1 := ceOne_len (k := k) (e := e) (s := s) (c := 99)
  have h2 := ceOne_len (k := k) (e := e) (s := ceOne k e s 99) (c := 110)
  have h3 := ceOne_len (k := k) (e := e) (s := ceOne k e (ceOne k e s 99) 110) (c := 112)
  omega
theorem ceFold_len {k : Bool} : ∀ {l : List (List Int × Int)} {s : List (List Int × Int) × List (List Int × Int)}, (l.foldl (ceHere k) s).1.length ≤ s.1.length + 3 * l.length ∧ (l.foldl (ceHere k) s).2.length ≤ s.2.length + 3 * l.length
  | [], s => by simp
  | e :: l, s => by
    have h1 := ceHere_len (k := k) (e := e) (s := s)
    have h2 := ceFold_len (k := k) (l := l) (s := ceHere k s e)
    simp only [List.foldl_cons, List.length_cons]
    omega
theorem ceN_len (k : Bool) : ∀ n : Nat, (ceN k n).2.length ≤ 3 ^ n ∧ (ceN k n).1.length ≤ 3 ^ (n + 1)
  | 0 => by simp [ceN]
  | n + 1 => by
    have ih := ceN_len k n
    have h := ceFold_len (k := k) (l := (ceN k n).2) (s := ((ceN k n).1, []))
    have e : ceN k (n + 1) = (ceN k n).2.foldl (ceHere k) ((ceN k n).1, []) := rfl
    rw [e]
    simp only [List.length_nil] at h
    have e1 : 3 ^ (n + 1) = 3 * 3 ^ n := by rw [Nat.pow_succ]; omega
    have e2 : 3 ^ (n + 1 + 1) = 3 * 3 ^ (n + 1) := by rw [Nat.pow_succ]; omega
    omega
theorem ceOne_mem {k : Bool} {e : List Int × Int} {s : List (List Int × Int) × List (List Int × Int)} {c i : Nat} (he : e.1.length ≤ i) (h : ∀ x ∈ s.2, x.1.length ≤ i + 1) : ∀ x ∈ (ceOne k e s c).2, x.1.length ≤ i + 1 := fun x hx => by
  unfold ceOne at hx
  split at hx
  · exact h x hx
  · rcases List.mem_append.mp hx with z | z
    · exact h x z
    · simp at z
      have := mor_len (k := k) (e := e) (c := c)
      rw [z]; omega
theorem ceFold_mem {k : Bool} {i : Nat} : ∀ {l : List (List Int × Int)} {s : List (List Int × Int) × List (List Int × Int)}, (∀ e ∈ l, e.1.length ≤ i) → (∀ x ∈ s.2, x.1.length ≤ i + 1) → ∀ x ∈ (l.foldl (ceHere k) s).2, x.1.length ≤ i + 1
  | [], s, _, h => h
  | e :: l, s, hl, h => by
    have he := hl e List.mem_cons_self
    rw [List.foldl_cons]
    refine ceFold_mem (fun x hx => hl x (List.mem_cons_of_mem _ hx)) ?_
    unfold ceHere
    simp only [List.foldl_cons, List.foldl_nil]
    exact ceOne_mem he (ceOne_mem he (ceOne_mem he h))
theorem ceN_mem (k : Bool) : ∀ n : Nat, ∀ e ∈ (ceN k n).2, e.1.length ≤ n
  | 0, e, h => by simp [ceN] at h; subst h; simp
  | n + 1, e, h => ceFold_mem (ceN_mem k n) (fun x hx => by simp at hx) e h
theorem crHere_len {k : Bool} {pr : List Int} {T L : List ((List Int × Int) × Int)} {here : List Int × Int} : (crHere k pr T L here).length ≤ L.length + 3 := by
  unfold crHere
  simp only [List.foldl_cons, List.foldl_nil]
  have h1 := crOne_len (k := k) (pr := pr) (T := T) (L := L) (here := here) (c := 99)
  have h2 := crOne_len (k := k) (pr := pr) (T := T) (L := crOne k pr T here L 99) (here := here) (c := 110)
  have h3 := crOne_len (k := k) (pr := pr) (T := T) (L := crOne k pr T here (crOne k pr T here L 99) 110) (here := here) (c := 112)
  omega
theorem crFold_len {k : Bool} {pr : List Int} {T : List ((List Int × Int) × Int)} : ∀ {l : List (List Int × Int)} {L : List ((List Int × Int) × Int)}, (l.foldl (crHere k pr T) L).length ≤ L.length + 3 * l.length
  | [], L => by simp
  | e :: l, L => by
    have h1 := crHere_len (k := k) (pr := pr) (T := T) (L := L) (here := e)
    have h2 := crFold_len (k := k) (pr := pr) (T := T) (l := l) (L := crHere k pr T L e)
    simp only [List.foldl_cons, List.length_cons]
    omega
theorem crOne_mem {k : Bool} {pr : List Int} {T L : List ((List Int × Int) × Int)} {here : List Int × Int} {c i : Nat} (he : here.1.length ≤ i) (h : ∀ x ∈ L, x.1.1.length ≤ i + 1) : ∀ x ∈ crOne k pr T here L c, x.1.1.length ≤ i + 1 := fun x hx => by
  unfold crOne at hx
  split at hx
  · rcases putA_mem hx with z | ⟨q, hq, z⟩
    · have := mor_len (k := k) (e := here) (c := c)
      rw [z]; omega
    · rw [← z]; exact h q hq
  · exact h x hx
theorem crFold_mem {k : Bool} {pr : List Int} {T : List ((List Int × Int) × Int)} {i : Nat} : ∀ {l : List (List Int × Int)} {L : List ((List Int × Int) × Int)}, (∀ e ∈ l, e.1.length ≤ i) → (∀ x ∈ L, x.1.1.length ≤ i + 1) → ∀ x ∈ l.foldl (crHere k pr T) L, x.1.1.length ≤ i + 1
  | [], L, _, h => h
  | e :: l, L, hl, h => by
    have he := hl e List.mem_cons_self
    rw [List.foldl_cons]
    refine crFold_mem (fun x hx => hl x (List.mem_cons_of_mem _ hx)) ?_
    unfold crHere
    simp only [List.foldl_cons, List.foldl_nil]
    exact crOne_mem he (crOne_mem he (crOne_mem he h))
theorem crN_mem (k : Bool) (pr : List Int) : ∀ n : Nat, ∀ e ∈ (crN k pr n).map (·.1), e.1.length ≤ n
  | 0, e, h => by simp [crN] at h; subst h; simp
  | n + 1, e, h => by
    obtain ⟨x, hx, rfl⟩ := List.mem_map.mp h
    exact crFold_mem (crN_mem k pr n) (fun x hx => by simp at hx) x hx
theorem foldl_take_succ {α β : Type} {f : β → α → β} {b : β} {l : List α} {i : Nat} {x : α} (h : l[i]? = some x) : (l.take (i + 1)).foldl f b = f ((l.take i).foldl f b) x := by
  have hi := (List.getElem?_eq_some_iff.mp h)
  rw [List.take_succ_eq_append_getElem hi.1, List.foldl_append, hi.2]
  rfl
end MA

namespace DL
open PySem L2
variable [WW]
section
variable {α β : Type} [DecidableEq α] {ke : α → D} {kn : α → NestedKey} {g : β → D}
theorem dget_enc (hk : ∀ a, nk (ke a) = some (kn a)) (inj : ∀ a b, kn a = kn b → a = b) (a : α) : ∀ T : List (α × β), dget (T.map fun p => (ke p.1, g p.2)) (kn a) = (MA.getA T a).map g
  | [] => rfl
  | p :: T => by
    rw [List.map_cons]
    by_cases e : p.1 = a
    · rw [dget_pos (by show nk (ke p.1) = _; rw [hk, e])]
      simp [MA.getA, List.find?_cons, e]
    · rw [dget_neg (by show nk (ke p.1) ≠ _; rw [hk]; exact fun z => e (inj _ _ (Option.some.inj z))), dget_enc hk inj a T]
      simp [MA.getA, List.find?_cons, e]
theorem dput_enc (hk : ∀ a, nk (ke a) = some (kn a)) (inj : ∀ a b, kn a = kn b → a = b) (T : List (α × β)) (a : α) (b : β) : dput (T.map fun p => (ke p.1, g p.2)) (kn a) (ke a) (g b) = (MA.putA T a b).map fun p => (ke p.1, g p.2) := by
  unfold dput MA.putA
  rw [dget_enc hk inj, Option.isSome_map]
  by_cases q : (MA.getA T a).isSome = true
  · rw [if_pos q, if_pos q, List.map_map, List.map_map]
    refine List.map_congr_left fun p _ => ?_
    show (if nk (ke p.1) = some (kn a) then (ke p.1, g b) else (ke p.1, g p.2)) = _
    by_cases e : p.1 = a
    · rw [if_pos (by rw [hk, e])]
      simp [e]
    · rw [if_neg (by rw [hk]; exact fun z => e (inj _ _ (Option.some.inj z)))]
      simp [e]
  · rw [if_neg q, if_neg q, List.map_append]
    rfl
end
def encE (e : List Int × Int) : D := .tup [.tup (e.1.map D.int), .int e.2]
def knE (e : List Int × Int) : NestedKey := .tup [.tup (e.1.map NestedKey.num), .num e.2]
theorem nks0_ints : ∀ l : List Int, nks0 (l.map D.int) = some (l.map NestedKey.num)
  | [] => rfl
  | a :: l => by
    rw [List.map_cons, List.map_cons]
    simp only [nks0, nk0, Option.bind_some, nks0_ints l, Option.map_some]
theorem depth_ints : ∀ l : List Int, NestedKey.depthAll (l.map NestedKey.num) = 0
  | [] => rfl
  | a :: l => by
    rw [List.map_cons]
    simp only [NestedKey.depthAll, NestedKey.depth, depth_ints l, Nat.max_self]
theorem nk_encE (e : List Int × Int) : nk (encE e) = some (knE e) := by
  unfold encE knE nk
  simp only [nks0, nk0, nks0_ints, Option.map_some, Option.bind_some]
  rw [if_pos (by simp only [NestedKey.depthAll, NestedKey.depth, depth_ints]; decide)]
theorem nums_inj : ∀ {l m : List Int}, l.map NestedKey.num = m.map NestedKey.num → l = m
  | [], [], _ => rfl
  | [], _ :: _, e => by simp at e
  | _ :: _, [], e => by simp at e
  | a :: l, b :: m, e => by
    rw [List.map_cons, List.map_cons] at e
    injection e with e1 e2
    injection e1 with e1
    rw [e1, nums_inj e2]
theorem knE_inj (a b : List Int × Int) (h : knE a = knE b) : a = b := by
  unfold knE at h
  injection h with h
  injection h with h1 h2
  injection h2 with h2 _
  injection h1 with h1
  injection h2 with h2
  exact Prod.ext (nums_inj h1) h2
/-- a table of numbers at effects -/
def encT (T : List ((List Int × Int) × Int)) : List (D × D) := T.map fun p => (encE p.1, .int p.2)
/-- effects that were found -/
def encF (L : List (List Int × Int)) : List (D × D) := L.map fun e => (encE e, .bl true)
theorem dget_T (T : List ((List Int × Int) × Int)) (e : List Int × Int) : dget (encT T) (knE e) = (MA.getA T e).map D.int := dget_enc nk_encE knE_inj e T
theorem dput_T (T : List ((List Int × Int) × Int)) (e : List Int × Int) (v : Int) : dput (encT T) (knE e) (encE e) (.int v) = encT (MA.putA T e v) := dput_enc nk_encE knE_inj T e v
theorem encT_len (T : List ((List Int × Int) × Int)) : (encT T).length = T.length := List.length_map _
theorem encF_len (L : List (List Int × Int)) : (encF L).length = L.length := List.length_map _
theorem encT_keys (T : List ((List Int × Int) × Int)) : (encT T).map (·.1) = (T.map (·.1)).map encE := by unfold encT; rw [List.map_map, List.map_map]; rfl
theorem dget_F (e : List Int × Int) : ∀ L : List (List Int × Int), (dget (encF L) (knE e)).isSome = decide (e ∈ L)
  | [] => by simp [encF, dget]
  | a :: L => by
    show (dget ((encE a, .bl true) :: encF L) (knE e)).isSome = _
    by_cases q : a = e
    · subst q
      rw [dget_pos (nk_encE a)]
      simp
    · rw [dget_neg (by show nk (encE a) ≠ _; rw [nk_encE]; exact fun z => q (knE_inj _ _ (Option.some.inj z))), dget_F e L]
      have : ¬ e = a := fun z => q z.symm
      simp [this]
theorem dput_F {L : List (List Int × Int)} {e : List Int × Int} (h : e ∉ L) : dput (encF L) (knE e) (encE e) (.bl true) = encF (L ++ [e]) := by
  unfold dput
  rw [dget_F, if_neg (by simpa using h)]
  unfold encF
  rw [List.map_append]; rfl
end DL

namespace DL
open PySem L2
variable [WW]
/-! [f, g, ..][i](e, ..): a call of a def taken from a written list -/
section
variable {X : Cx} {W : WX} {n k : Nat} {S : TD} {x : Str} {p lp sp pos : Pos} {e i : Expr} {es fs : List Expr} {ti : TD} {tr : TAd}
def CalF (X : Cx) (n : Nat) (f : Addr) (S : TD) : Prop := ∃ k fd ps, FnOk X.prog X.w X.K X.mg X.base (L2N.CX X.prog X.w) k f fd ps (toSp X.K n S) ∧ Room k X.A ∧ PySem.W.keepIn X.K (.ref f) = true ∧ Binds X.K fd ps []
def FL (X : Cx) (n : Nat) : List Expr → List (Addr × TD) → Prop
  | [], [] => True
  | e :: es, c :: r => PE X e (tC (.ref c.1)) ∧ CalF X n c.1 c.2 ∧ starEach (e :: es) X.env = (false, eval e X.env) :: starEach es X.env ∧ FL X n es r
  | _, _ => False
def DFs (X : Cx) (n : Nat) (es : List Expr) (Ss : List TD) : Prop := ∃ r, FL X n es r ∧ r.map (·.2) = Ss
theorem fl_nil : DFs X n [] [] := ⟨[], trivial, rfl⟩
theorem fl_cons {Ss : List TD} (c : Cal X.prog X.w X.K X.mg X.base k n x S) (hr : Room k X.A) (h : DFs X n fs Ss) (hg : Gl X x := by rfl) (hdb : (x == ("__debug__" : Str)) = false := by decide) (hs : starEach (.Name x p :: fs) X.env = (false, eval (.Name x p) X.env) :: starEach fs X.env := by rfl) : DFs X n (.Name x p :: fs) (S :: Ss) := by
  obtain ⟨r, h1, h2⟩ := h
  obtain ⟨f, fd, ps, F, hm, hk, hb⟩ := c
  exact ⟨(f, S) :: r, ⟨pe_glob hg hm rfl hdb, ⟨k, fd, ps, F, hr, hk, hb⟩, hs, h1⟩, by rw [List.map_cons, h2]⟩
theorem pa_fl : ∀ {fs : List Expr} {r : List (Addr × TD)}, FL X n fs r → PA X fs (fun _ H Q => Q (r.map fun c => V.ref c.1) H)
  | [], [], _ => pa_nil
  | e :: fs, c :: r, h => pa_cons h.1 (pa_fl h.2.2.2) h.2.2.1
  | [], _ :: _, h => h.elim
  | _ :: _, [], h => h.elim
theorem fl_len : ∀ {fs : List Expr} {r : List (Addr × TD)}, FL X n fs r → r.length = fs.length
  | [], [], _ => rfl
  | e :: fs, c :: r, h => by simp only [List.length_cons, fl_len h.2.2.2]
  | [], _ :: _, h => h.elim
  | _ :: _, [], h => h.elim
theorem fl_at : ∀ {fs : List Expr} {r : List (Addr × TD)} {j : Nat} {c : Addr × TD}, FL X n fs r → r[j]? = some c → CalF X n c.1 c.2
  | [], [], j, c, _, h => by simp at h
  | e :: fs, c :: r, 0, d, h, g => by simp at g; subst g; exact h.2.1
  | e :: fs, c :: r, j + 1, d, h, g => by simp at g; exact fl_at h.2.2.2 g
  | [], _ :: _, _, _, h, _ => h.elim
  | _ :: _, [], _, _, h, _ => h.elim
/-- a call of a value that is a def -/
def tCallX (X : Cx) (W : WX) (n : Nat) (tf : TE) (t : TA) : TE := fun σ H Q => tf σ H fun v H1 => ∃ f S, v = .ref f ∧ CalF X n f S ∧ tCallS (toSp X.K n S) (fun σ => WE W σ) t σ H1 Q
theorem pe_callX {fe : Expr} {tf : TE} {t : TA} (tk : L2N.Takes X W) (hf : PE X fe tf) (ha : PA X (e :: es) t) (hE : eval (.Call fe (e :: es) [] pos) X.env = (do PySem.callWith pos (← eval fe X.env) [] (backTo pos (starEach (e :: es) X.env)) (backToKw pos (keywordEach [] X.env))))
    (he : starEach (e :: es) X.env = (false, eval e X.env) :: starEach es X.env) (hpl : (backTo pos (starEach es X.env)).any (·.1) = false) : PE X (.Call fe (e :: es) [] pos) (tCallX X W n tf t) := by
  refine ⟨fun pins s σ H Q I h => ?_⟩
  refine PyProof.Rows.Call_ (thn (hf.run pins s σ H _ I h) fun u s1 ⟨v, H1, I1, rx, f, S, ev, c, q⟩ => ?_) hE
  subst ev
  obtain rfl : u = Value.ref f := rx
  obtain ⟨k, fd, ps, F, hr, hk, hb⟩ := c
  refine PySem.W.callWith_K (h₀ := X.base) I1.ok.mod.kin hk (thn (ha.run pos pins s1 σ H1 _ I1 q) fun us s2 ⟨vs, H2, I2, r, q2⟩ => ⟨I2.kIn, ?_⟩) he hpl
  exact run_fnS F hr hb (L2N.passAt tk σ) I2 r q2
def qCix (n : Nat) (Ss : List TD) (tr : TAd) (P : CtR) (E : EX) : CtR := fun r ρ => match r with
  | .v (.int j) => 0 ≤ j ∧ ∃ S, Ss[j.toNat]? = some S ∧ dCall n S tr ρ P E
  | _ => False
def dCix (n : Nat) (Ss : List TD) (ti : TD) (tr : TAd) : TD := fun ρ P E => ti ρ (qCix n Ss tr P E) E
theorem w_cix {Ss : List TD} {ρ : DEnv} {P : CtR} {E : EX} : dCix n Ss ti tr ρ P E = ti ρ (qCix n Ss tr P E) E := rfl
theorem w_qCix {Ss : List TD} {ρ : DEnv} {P : CtR} {E : EX} {j : Int} : qCix n Ss tr P E (.v (.int j)) ρ = (0 ≤ j ∧ ∃ S, Ss[j.toNat]? = some S ∧ dCall n S tr ρ P E) := rfl
theorem de_cix {Ss : List TD} (hf : DFs X n fs Ss) (tk : L2N.Takes X W) (hi : DE X W i ti) (ha : DA X W (e :: es) tr) (h15 : fs.length ≤ 15 := by exact (by decide)) (hs : PlainIx i := by intro _ _; rfl)
    (hE : eval (.Call (.Subscript (.List fs lp) i sp) (e :: es) [] pos) X.env = (do PySem.callWith pos (← eval (.Subscript (.List fs lp) i sp) X.env) [] (backTo pos (starEach (e :: es) X.env)) (backToKw pos (keywordEach [] X.env))) := by rfl)
    (he : starEach (e :: es) X.env = (false, eval e X.env) :: starEach es X.env := by rfl) (hpl : (backTo pos (starEach es X.env)).any (·.1) = false := by rfl) : DE X W (.Call (.Subscript (.List fs lp) i sp) (e :: es) [] pos) (dCix n Ss ti tr) := by
  obtain ⟨r, fl, er⟩ := hf
  obtain ⟨si, pi, ri⟩ := hi
  obtain ⟨sa, pa, ra⟩ := ha
  refine ⟨_, pe_callX (n := n) tk (pe_ix ix_list (pe_lst (pa_fl fl)) pi hs) pa hE he hpl, fun U σ ρ H P E Q R h k x => ?_⟩
  have hl : (r.map fun c => V.ref c.1).length ≤ sizeLine := by rw [List.length_map, fl_len fl]; exact Nat.le_trans h15 (by decide)
  refine ⟨hl, fun p hp => ?_⟩
  have A0 := R.new (o := .lst (r.map fun c => V.ref c.1)) hp
  have np : p ∉ adrs ρ := fun z => by
    obtain ⟨o, e⟩ := R.sm (.inr z)
    rw [hp] at e; cases e
  refine ri U σ ρ _ _ E _ A0.rep h (fun rr ρ1 v H1 q A z => ?_) (x.step A0)
  cases rr with
  | v d =>
    cases d with
    | int j =>
      obtain ⟨j0, S, hS, q⟩ := q
      have zv := z.val
      simp only [RepR, Dq] at zv
      subst zv
      have there : H1 p = some (.lst (r.map fun c => V.ref c.1)) := A.xt.keep p _ np upd_same
      rw [← er, List.getElem?_map] at hS
      obtain ⟨c, hc, rfl⟩ := Option.map_eq_some_iff.mp hS
      refine ⟨p, _, j, .ref c.1, rfl, rfl, SqL.of there, ?_, ?_⟩
      · have ej : j = ((j.toNat : Nat) : Int) := by omega
        rw [ej]
        exact atI_nat (by rw [List.getElem?_map, hc]; rfl)
      · refine ⟨c.1, c.2, rfl, fl_at fl hc, ?_⟩
        exact rf_call ra U σ ρ1 H1 P E Q A.rep q (fun r ρ' v H' p a q => k r ρ' v H' p ((A0.trans A).trans a) (q.bk (A0.trans A).xt)) (x.step (A0.trans A))
    | non => exact q.elim
    | bl _ => exact q.elim
    | str _ => exact q.elim
    | tup _ => exact q.elim
    | lst _ => exact q.elim
    | ob _ => exact q.elim
  | f a ds => exact q.elim
  | b i => exact q.elim
end
end DL

namespace DL
open PySem L2
variable [WW]
section
variable {K : PySem.W.Frag} {U : Addr → Prop} {ρ : DEnv} {P : CtR}
/-- tuple * int -/
def oRepT : R2d := fun x y ρ P => ∃ a n, x = .v (.tup a) ∧ y = .v (.int n) ∧ a ≠ [] ∧ 2 ≤ n ∧ n ≤ 1000 ∧ a.length ≤ 1000 ∧ P (.v (.tup (List.replicate n.toNat a).flatten)) ρ
theorem od_repT : OpD K (rRepT K) oRepT := by
  intro U σ ρ H P Q x y v w R qx qy h k
  obtain ⟨a, n, rfl, rfl, hne, h2, h3, hl, p⟩ := h
  have zx := qx
  simp only [RepR, Dq] at zx
  obtain ⟨p1, xs, rfl, h1, q1⟩ := zx
  refine ⟨p1, n, xs, rfl, qy.vflat rfl, h1.sq, fun e => hne ?_, h2, h3, by rw [← dqs_len q1]; exact hl, fun q hq => ?_⟩
  · have := dqs_len q1; rw [e] at this; simpa using this
  · obtain ⟨A, z⟩ := R.newTup hq (dqs_rep q1 n.toNat)
    exact k _ _ _ _ p A ⟨z, trivial, fun _ _ e => nomatch e⟩
theorem oRepT_v {a : List D} {n : Int} : oRepT (.v (.tup a)) (.v (.int n)) ρ P = (a ≠ [] ∧ 2 ≤ n ∧ n ≤ 1000 ∧ a.length ≤ 1000 ∧ P (.v (.tup (List.replicate n.toNat a).flatten)) ρ) := by simp [oRepT]
/-- list + list, list * int as rewriting rules -/
def oCat2 (ρ : DEnv) (P : CtR) : Option (List D) → Option (List D) → Prop
  | some a, some b => a.length + b.length ≤ 1000000 ∧ ∀ p, P (.f p (a ++ b)) ρ
  | _, _ => False
theorem w_oCat {x y : Rs} : oCat x y ρ P = oCat2 ρ P (ownL ρ x) (ownL ρ y) := by
  unfold oCat
  apply propext
  cases h1 : ownL ρ x <;> cases h2 : ownL ρ y <;> simp [oCat2]
theorem oCat2_s {a b : List D} : oCat2 ρ P (some a) (some b) = (a.length + b.length ≤ 1000000 ∧ ∀ p, P (.f p (a ++ b)) ρ) := rfl
def oRep2 (ρ : DEnv) (P : CtR) (n : Int) : Option (List D) → Prop
  | some a => 0 ≤ n ∧ n ≤ 100000 ∧ a.length * n.toNat ≤ 1000000 ∧ ∀ p, P (.f p (List.replicate n.toNat a).flatten) ρ
  | _ => False
theorem w_oRep {x : Rs} {n : Int} : oRep x (.v (.int n)) ρ P = oRep2 ρ P n (ownL ρ x) := by
  unfold oRep
  apply propext
  cases h1 : ownL ρ x <;> simp [oRep2]
theorem oRep2_s {a : List D} {n : Int} : oRep2 ρ P n (some a) = (0 ≤ n ∧ n ≤ 100000 ∧ a.length * n.toNat ≤ 1000000 ∧ ∀ p, P (.f p (List.replicate n.toNat a).flatten) ρ) := rfl
theorem own_f {a : Addr} {ds : List D} : ownL ρ (.f a ds) = some ds := rfl
def ownLs : Option Sl → Option (List D)
  | some (.l _ ds) => some ds
  | _ => none
theorem own_b {i : Nat} : ownL ρ (.b i) = ownLs ρ[i]? := by
  cases h : ρ[i]? with
  | none => simp [ownL, ownLs, h]
  | some s => cases s <;> simp [ownL, ownLs, h]
theorem ownLs_l {a : Addr} {ds : List D} : ownLs (some (.l a ds)) = some ds := rfl
end
end DL

namespace PR
open PySem PySem.W
section
variable {prog : Program} {w : World} {A : Around} {E : Value → Shared → Prop} {s : Shared} {K : Frag} {x y C f : Addr} {ox oy : Obj} {od od' : Option Obj}
/-- a op b, both instances of one own class -/
theorem bin_same {op : Operator} {Q : Value → Shared → Prop} (X : K.In s.heap) (I : InstAt s.heap x ox C od) (J : InstAt s.heap y oy C od') (hc : selfFirst K C = true) (hs : findIn K (.ref C) (PySem.dunder op.info.2) = some (some (.ref f))) (hf : isFn K (.ref f) = true)
    (h : wpAny (model prog w) A (call (.ref f) [.ref x, .ref y]) (PySem.W.CmpBack Q) E s) : wpAny (model prog w) A (binaryOp op (.ref x) (.ref y)) Q E s := by
  obtain ⟨cd, rest, hcd, hm⟩ := ksp_first hc
  rcases hi : op.info with ⟨sym, nm'⟩
  rw [hi] at hs
  dsimp only at hs
  have one := ksp_try X I hs hf h
  obtain ⟨hh, g, d, tt, os⟩ := s
  have L1 : Looks (model prog w) hh (typeOf (.ref x)) (.ref C) := I.type
  have L2 : Looks (model prog w) hh (typeOf (.ref y)) (.ref C) := J.type
  have L3 : Looks (model prog w) hh (fillsNumberSlot (.ref C) nm') true := fills_K X hcd hm hs
  have hb : (Value.ref C == Value.ref C) = true := beq_self_eq_true _
  simp only [binaryOp, hi]
  refine wpAny_holding (wpAny_bind ?_)
  unfold binaryOp1
  refine wpAny_bind (L1.at (wpAny_bind (L2.at (wpAny_bind (L3.at ?_)))))
  simp only [hb, if_true]
  ksp_lk
  refine wpAny_mono one (fun r s' hr' => ?_) fun _ _ e => e
  obtain ⟨v, rfl, hq⟩ := hr'
  ksp_lk
  exact hq
end
end PR
namespace DL
open PySem L2
variable [WW]
/-- own + own -/
structure AddC (K : PySem.W.Frag) (C f : Addr) : Prop where
  first : PySem.W.selfFirst K C = true
  add : PySem.W.findIn K (.ref C) "__add__" = some (some (.ref f))
  fn : PySem.W.isFn K (.ref f) = true
def rAddO (C : Addr) (sp : Sp) (E : XK) : R2 := fun x y H Q => ∃ a dx fs b dy gs, x = .ref a ∧ y = .ref b ∧ H a = some (.ins C dx fs) ∧ H b = some (.ins C dy gs) ∧ sp [x, y] H Q E
section
variable {X : Cx} {CX : CXT} {k : Nat} {C f : Addr} {fd : FuncData} {ps : List Str} {sp : Sp} {E : XK}
theorem op_addO (c : AddC X.K C f) (F : FnOk X.prog X.w X.K X.mg X.base CX k f fd ps sp) (hr : Room k X.A) (hb : Binds X.K fd ps []) (hx : Passes CX X E) : OpR X (binaryOp .Add) (rAddO C sp E) := by
  intro pins s σ H x y v u Q I rx ry h
  obtain ⟨a, dx, fs, b, dy, gs, rfl, rfl, ha, hb', q⟩ := h
  obtain rfl : v = Value.ref a := rx
  obtain rfl : u = Value.ref b := ry
  obtain ⟨mA, O, _⟩ := ins_get I.hok ha
  obtain ⟨od, J, _⟩ := O.look
  obtain ⟨mB, O2, _⟩ := ins_get I.hok hb'
  obtain ⟨od2, J2, _⟩ := O2.look
  refine PR.bin_same I.kIn J J2 c.first c.add c.fn ?_
  refine wpAny_mono (run_fn (us := [.ref a, .ref b]) (vs := [.ref a, .ref b]) (dvs := []) (ds := []) F hr hb .nil hx I (.cons rfl (.cons rfl .nil)) q) (fun u s' hu => ?_) fun _ _ e => e
  obtain ⟨v, H', I', rv, q'⟩ := hu
  have fin : EP X pins σ Q u s' := ⟨v, H', I', rv, q'⟩
  cases v <;> first
    | (obtain ⟨t, rfl⟩ := rv; exact fin)
    | (obtain rfl := rv; exact fin)
end
/-- a promise on data, used -/
theorem toSp_use {K : PySem.W.Frag} {n : Nat} {S : TD} {U : Addr → Prop} {H : Hp} {ds : List D} {vs : List V} {P : D → Prop} {Q : VK} {E : XK} (hU : ∀ a, U a → ∃ o, H a = some o) (hd : Dqs K U H ds vs) (hn : vs.length = n)
    (hS : S (ds.map Sl.v) (fun r _ => ∃ d, r = .v d ∧ P d) (fun _ _ => False)) (k : ∀ d v H', P d → (∀ a o, H a = some o → H' a = some o) → Dq K U H' d v → Q v H') : toSp K n S vs H Q E := by
  have ad : adrs (ds.map Sl.v) = [] := by
    clear hS hd
    induction ds with
    | nil => rfl
    | cons d ds ih => rw [List.map_cons, adrs_cons, ih]; rfl
  have m : Mo U (Ow U (ds.map Sl.v)) H H := ⟨fun _ _ _ h => h, fun a z => by
    rcases z with z | z
    · exact .inl z
    · rw [ad] at z; cases z⟩
  have sl : ∀ (ds : List D) (vs : List V), Dqs K U H ds vs → Slots K U H (ds.map Sl.v) (vs.map some) := by
    intro ds
    induction ds with
    | nil => intro vs h; simp only [Dqs] at h; subst h; trivial
    | cons d ds ih =>
      intro vs h
      simp only [Dqs] at h
      obtain ⟨v, r, rfl, h1, h2⟩ := h
      exact ⟨⟨v, rfl, h1⟩, ih r h2⟩
  refine ⟨hn, U, ds.map Sl.v, fun r _ => ∃ d, r = .v d ∧ P d, fun _ _ => False, ⟨(sl ds vs hd).mono m fun a ha => ?_, ?_, hU, fun a ha => ?_⟩, hS, fun r ρ' v H' p A q _ => ?_, fun _ _ _ z _ => z.elim⟩
  · rfl
  · rw [ad]; exact List.nodup_nil
  · rw [ad] at ha; cases ha
  · obtain ⟨d, rfl, p⟩ := p
    refine k d v H' p (fun a o h => A.xt.keep a o (by rw [ad]; exact fun z => nomatch z) h) ?_
    refine Mo.dq (⟨fun _ _ _ h => h, fun a z => .inl ?_⟩ : Mo (Ow U ρ') U H' H') d v q.val
    exact .inl z
/-- a promise on data, where it raises -/
theorem toSp_bad {K : PySem.W.Frag} {n C : Nat} {S : TD} {U : Addr → Prop} {H : Hp} {ds : List D} {vs : List V} {Q : VK} {E : XK} (hU : ∀ a, U a → ∃ o, H a = some o) (hd : Dqs K U H ds vs) (hn : vs.length = n)
    (hS : S (ds.map Sl.v) (fun _ _ => False) (fun C' _ => C' = C)) (k : ∀ A H', IsCls K C A → (∀ a o, H a = some o → H' a = some o) → E (.ref A) none H') : toSp K n S vs H Q E := by
  have ad : adrs (ds.map Sl.v) = [] := by
    clear hS hd
    induction ds with
    | nil => rfl
    | cons d ds ih => rw [List.map_cons, adrs_cons, ih]; rfl
  have sl : ∀ (ds : List D) (vs : List V), Dqs K U H ds vs → Slots K U H (ds.map Sl.v) (vs.map some) := by
    intro ds
    induction ds with
    | nil => intro vs h; simp only [Dqs] at h; subst h; trivial
    | cons d ds ih =>
      intro vs h
      simp only [Dqs] at h
      obtain ⟨v, r, rfl, h1, h2⟩ := h
      exact ⟨⟨v, rfl, h1⟩, ih r h2⟩
  have m : Mo U (Ow U (ds.map Sl.v)) H H := ⟨fun _ _ _ h => h, fun a z => by
    rcases z with z | z
    · exact .inl z
    · rw [ad] at z; cases z⟩
  refine ⟨hn, U, ds.map Sl.v, fun _ _ => False, fun C' _ => C' = C, ⟨(sl ds vs hd).mono m fun a ha => ?_, ?_, hU, fun a ha => ?_⟩, hS, fun _ _ _ _ z _ _ _ => z.elim, fun C' ρ' H' e A A' hA => ?_⟩
  · rfl
  · rw [ad]; exact List.nodup_nil
  · rw [ad] at ha; cases ha
  · subst e
    exact k A' H' hA fun a o h => A.xt.keep a o (by rw [ad]; exact fun z => nomatch z) h
theorem rs3 {K : PySem.W.Frag} {U : Addr → Prop} {H0 H : Hp} {σ : L2.St} {ρ : DEnv} {rs : List Rs} {vs : List V} {r s t : Rs} (z : RepRs K U H0 H σ ρ rs vs) (e : rs = [r, s, t]) : ∃ u v w, vs = [u, v, w] ∧ RepR K U H ρ r u ∧ RepR K U H ρ s v ∧ RepR K U H ρ t w := by
  subst e
  match vs, z with
  | [u, v, w], z => exact ⟨u, v, w, rfl, z.1.less fun _ => exts_of, z.2.2.1.less fun _ h => exts_of (ext_of h), z.2.2.2.2.1.less fun _ h => exts_of (ext_of (ext_of h))⟩
  | [], z => exact z.elim
  | [_], z => exact z.2.2.elim
  | [_, _], z => exact z.2.2.2.2.elim
  | _ :: _ :: _ :: _ :: _, z => exact z.2.2.2.2.2.2.elim
/-! list.index of an int -/
def mLIdx : RMd := fun x rs ρ P => ∃ (ns : List Int) (k : Int) (j : Nat), dat ρ x = .lst (ns.map D.int) ∧ rs = [.v (.int k)] ∧ ns[j]? = some k ∧ (∀ m < j, ns[m]? ≠ some k) ∧ P (.v (.int (j : Nat))) ρ
theorem ints_at {K : PySem.W.Frag} {O : Addr → Prop} {H : Hp} {ns : List Int} {xs : List V} (h : Dqs K O H (ns.map D.int) xs) : xs = ns.map V.int := by
  have := (dqs_flat (ds := ns.map D.int) (vs := xs) (by rw [List.all_map]; simp [flat])).mp h
  rw [this, List.map_map]; rfl
theorem md_lidx {K : PySem.W.Frag} : MtD K (rIndex K) mLIdx := by
  intro U σ ρ H0 H P Q x v rs vs qx z h k
  obtain ⟨ns, i, j, e, er, h1, h2, p⟩ := h
  obtain ⟨w, ew, q⟩ := rs1 z er
  subst ew
  have q' := q.vflat rfl
  subst q'
  have d := z.rep.dw qx
  rw [e] at d
  obtain ⟨a, xs, rfl, hs, hd⟩ := d
  have ex := ints_at hd
  subst ex
  refine ⟨a, _, _, j, .int i, rfl, rfl, hs, rfl, by rw [List.all_map]; simp [flatV], by rw [List.getElem?_map, h1]; rfl, by simp [eqV, sv], fun m z' hm hz => ?_, ?_⟩
  · rw [List.getElem?_map] at hz
    obtain ⟨y, hy, rfl⟩ := Option.map_eq_some_iff.mp hz
    have ne : y ≠ i := fun e => h2 m hm (by rw [hy, e])
    simp [eqV, sv, ne]
  · exact k _ _ _ _ p z.rep.refl (RepF.flat (.int _) rfl)
def qLIdx (P : CtR) (ρ : DEnv) (i : Int) : D → Prop := fun d => ∃ (ns : List Int) (j : Nat), d = .lst (ns.map D.int) ∧ ns[j]? = some i ∧ (∀ m < j, ns[m]? ≠ some i) ∧ P (.v (.int (j : Nat))) ρ
theorem w_lidx {x : Rs} {i : Int} {ρ : DEnv} {P : CtR} : mLIdx x [.v (.int i)] ρ P = qLIdx P ρ i (dat ρ x) := by
  unfold mLIdx qLIdx
  apply propext
  constructor
  · rintro ⟨ns, k, j, e1, e2, h⟩
    cases e2
    exact ⟨ns, j, e1, h⟩
  · rintro ⟨ns, j, e1, h⟩
    exact ⟨ns, i, j, e1, rfl, h⟩
theorem Rep.grow {K : PySem.W.Frag} {U : Addr → Prop} {H H' : Hp} {σ : St} {ρ : DEnv} (R : Rep K U H σ ρ) (g : ∀ a o, H a = some o → H' a = some o) : Aft K U ρ H σ ρ H' := by
  have x : Xt ρ ρ H H' := ⟨fun a o _ e => g a o e, fun _ z => .inl z, fun a o e => ⟨o, g a o e⟩⟩
  refine ⟨⟨⟨R.slots.mono x.mo fun a ha => ?_, R.nd, fun a ha => ?_, R.dis⟩, x⟩, rfl⟩
  · obtain ⟨o, e⟩ := R.slots.sm ha
    rw [e, g a o e]
  · obtain ⟨u, e⟩ := R.uth a ha
    exact ⟨u, g a u e⟩
end DL

/-! operators on the instances of an own class of values -/
namespace DL
open PySem PySem.Spec PyProof.Rows L2
variable [WW]
section
variable {K : PySem.W.Frag} {C C' : Addr}
theorem OCl.uniq (a : OCl K C) (b : OCl K C') : C = C' := by
  have := a.nm.symm.trans b.nm
  injection this with this
  injection this with this
  injection this
/-- a def that stands in that class -/
structure ObF (K : PySem.W.Frag) (m : Str) (f : Addr) : Prop where
  at_ : ∀ C, OCl K C → PySem.W.findIn K (.ref C) m = some (some (.ref f))
  fn : PySem.W.isFn K (.ref f) = true
  fi : PySem.W.fnIn K f = true
def ob1 (K : PySem.W.Frag) (vs : List V) (H : Hp) : Prop := ∃ a C dx fs rest, vs = .ref a :: rest ∧ OCl K C ∧ H a = some (.ins C dx fs)
def ob2 (K : PySem.W.Frag) (vs : List V) (H : Hp) : Prop := ∃ a b C dx fs dy gs, vs = [.ref a, .ref b] ∧ OCl K C ∧ H a = some (.ins C dx fs) ∧ H b = some (.ins C dy gs)
def obM (K : PySem.W.Frag) (vs : List V) (H : Hp) : Prop := ∃ a C dx fs y, vs = [.ref a, y] ∧ OCl K C ∧ H a = some (.ins C dx fs) ∧ (y = .non ∨ (∃ b, y = .bl b) ∨ (∃ i, y = .int i) ∨ ∃ x, y = .str x)
def tOb (F : List V → Hp → Prop) (sp : Sp) (E : L2.St → XK) (t : TA) : TE := fun σ H Q => t σ H fun vs H1 => F vs H1 ∧ sp vs H1 Q (E σ)
end
section
variable {X : Cx} {CX : CXT} {k : Nat} {f : Addr} {fd : FuncData} {ps : List Str} {sp : Sp} {E : L2.St → XK} {m : Str} {pos : Pos} {e o : Expr} {ta tb : TE}
theorem inst_of {pins : List (Addr × Obj)} {σ : L2.St} {H : Hp} {s : Shared} {a C dx : Addr} {fs : List (Str × V)} (I : Inv X pins σ H s) (h : H a = some (.ins C dx fs)) : ∃ ox od, PySem.W.InstAt s.heap a ox C od ∧ ox.data = .plain := by
  obtain ⟨mA, O, _⟩ := ins_get I.hok h
  obtain ⟨od, J, _⟩ := O.look
  exact ⟨_, _, J, rfl⟩
theorem back_of {pins : List (Addr × Obj)} {σ : L2.St} {Q : VK} {u : Value} {s' : Shared} (h : EP X pins σ Q u s') : PySem.W.CmpBack (EP X pins σ Q) u s' := by
  obtain ⟨z, H', I', rz, qz⟩ := h
  exact SlX.cmpback rz ⟨z, H', I', rz, qz⟩
theorem pe_obAdd (c : ObF X.K "__add__" f) (F : FnOk X.prog X.w X.K X.mg X.base CX k f fd ps sp) (hr : Room k X.A) (hb : Binds X.K fd ps []) (hx : ∀ σ, PassesAt CX X σ (E σ)) (ha : PE X e ta) (hb' : PE X o tb) :
    PE X (.BinOp e .Add o pos) (tOb (ob2 X.K) sp E (tCons ta (tCons tb tNil))) := by
  refine ⟨fun pins s σ H Q I h => wpAny_BinOp (thn (ha.run pins s σ H _ I h) fun v s1 ⟨x, H1, I1, rx, q1⟩ => thn (hb'.run pins s1 σ H1 _ I1 q1) fun u s2 ⟨y, H2, I2, ry, q2⟩ => ?_)⟩
  obtain ⟨⟨a, b, C, dx, fs, dy, gs, ev, oc, h1, h2⟩, q⟩ := q2
  cases ev
  obtain rfl : v = Value.ref a := rx
  obtain rfl : u = Value.ref b := ry
  obtain ⟨_, od, J, _⟩ := inst_of I2 h1
  obtain ⟨_, od2, J2, _⟩ := inst_of I2 h2
  refine PR.bin_same I2.kIn J J2 oc.sf (c.at_ C oc) c.fn ?_
  exact wpAny_mono (run_fnS (us := [.ref a, .ref b]) (vs := [.ref a, .ref b]) F hr hb (hx σ) I2 (.cons rfl (.cons rfl .nil)) q) (fun u s' hu => back_of hu) fun _ _ e => e
theorem pe_obNeg (c : ObF X.K "__neg__" f) (F : FnOk X.prog X.w X.K X.mg X.base CX k f fd ps sp) (hr : Room k X.A) (hb : Binds X.K fd ps []) (hx : ∀ σ, PassesAt CX X σ (E σ)) (ha : PE X e ta) :
    PE X (.UnaryOp .USub e pos) (tOb (ob1 X.K) sp E (tCons ta tNil)) := by
  refine ⟨fun pins s σ H Q I h => UnaryOp_ (thn (ha.run pins s σ H _ I h) fun v s1 ⟨x, H1, I1, rx, q1⟩ => ?_)⟩
  obtain ⟨⟨a, C, dx, fs, rest, ev, oc, h1⟩, q⟩ := q1
  cases ev
  obtain rfl : v = Value.ref a := rx
  obtain ⟨_, od, J, _⟩ := inst_of I1 h1
  obtain ⟨m, hF⟩ := I1.fr
  exact PySem.W.ksp_neg hF I1.ok.mod.kin J (c.at_ C oc) c.fn (run_fnS (us := [.ref a]) (vs := [.ref a]) F hr hb (hx σ) I1 (.cons rfl .nil) q)
theorem typ_of {K : PySem.W.Frag} {y : V} {u : Value} (ry : RelV y u) (hy : y = .non ∨ (∃ b, y = .bl b) ∨ (∃ i, y = .int i) ∨ ∃ x, y = .str x) : ∃ T ∈ ["NoneType", "int", "bool", "str"], typeOf u = pure (.type T) := by
  rcases hy with rfl | ⟨b, rfl⟩ | ⟨i, rfl⟩ | ⟨x, rfl⟩
  · obtain rfl : u = Value.none := ry
    exact ⟨"NoneType", by decide, rfl⟩
  · obtain rfl : u = Value.bool b := ry
    exact ⟨"bool", by decide, rfl⟩
  · obtain ⟨t, rfl⟩ : ∃ t, u = Value.int i t := ry
    exact ⟨"int", by decide, rfl⟩
  · obtain ⟨t, rfl⟩ : ∃ t, u = Value.str x t := ry
    exact ⟨"str", by decide, rfl⟩
theorem pe_obMul (c : ObF X.K "__mul__" f) (F : FnOk X.prog X.w X.K X.mg X.base CX k f fd ps sp) (hr : Room k X.A) (hb : Binds X.K fd ps []) (hx : ∀ σ, PassesAt CX X σ (E σ)) (ha : PE X e ta) (hb' : PE X o tb) :
    PE X (.BinOp e .Mult o pos) (tOb (obM X.K) sp E (tCons ta (tCons tb tNil))) := by
  refine ⟨fun pins s σ H Q I h => wpAny_BinOp (thn (ha.run pins s σ H _ I h) fun v s1 ⟨x, H1, I1, rx, q1⟩ => thn (hb'.run pins s1 σ H1 _ I1 q1) fun u s2 ⟨y, H2, I2, ry, q2⟩ => ?_)⟩
  obtain ⟨⟨a, C, dx, fs, y', ev, oc, h1, hy⟩, q⟩ := q2
  cases ev
  obtain rfl : v = Value.ref a := rx
  obtain ⟨_, od, J, _⟩ := inst_of I2 h1
  obtain ⟨m, hF⟩ := I2.fr
  obtain ⟨T, hT, ty⟩ := typ_of (K := X.K) ry hy
  obtain ⟨⟨fo, b1⟩, ⟨ro, b2⟩, b3⟩ := oc.bt T hT
  refine PySem.W.ksp_binT (op := .Mult) hF I2.ok.mod.kin J ty oc.sf (c.at_ C oc) c.fn oc.rm (.inl rfl) b1 b2 b3 ?_
  exact wpAny_mono (run_fnS (us := [.ref a, u]) (vs := [.ref a, y]) F hr hb (hx σ) I2 (.cons rfl (.cons ry .nil)) q) (fun u s' hu => back_of hu) fun _ _ e => e
/-- the callee runs below the running body -/
theorem run_cdS {A : Around} {pins : List (Addr × Obj)} {σ : L2.St} {H : Hp} {s : Shared} {Q : VK} {us : List Value} {vs : List V} (F : FnOk X.prog X.w X.K X.mg X.base CX k f fd ps sp) (hr : Room k A) (e0 : Env0 X.prog X.w X.K X.mg X.base A X.stack s H) (hb : Binds X.K fd ps []) (hx : PassesAt CX X σ (E σ)) (I : Inv X pins σ H s) (r : Vals vs us) (h : sp vs H Q (E σ)) :
    codeAny (model X.prog X.w) A (.call (.ref f) ⟨us, []⟩) (fun r s' => match r with | .ok (.ret v) => EP X pins σ Q v s' | .ok _ => False | .error e => X.xe e s') s := by
  have hl : us.length = ps.length := by rw [← r.length]; exact F.len _ _ _ _ h
  have bt := hb s us I.kIn (by simpa using hl)
  simp only [List.append_nil] at bt
  refine codeAny_mono (F.run A X.stack s H ⟨us, []⟩ us vs Q (E σ) hr e0 bt r h) fun r s' hq => ?_
  cases r with
  | error e => exact hx pins H s e s' I hq
  | ok fl =>
    cases fl with
    | ret u => exact I.after hq
    | next => exact False.elim hq
    | brk => exact False.elim hq
    | cont => exact False.elim hq
theorem run_atS {A : Around} {pins : List (Addr × Obj)} {σ : L2.St} {H : Hp} {s : Shared} {Q : VK} {us : List Value} {vs : List V} (F : FnOk X.prog X.w X.K X.mg X.base CX k f fd ps sp) (hr : Room k A) (e0 : Env0 X.prog X.w X.K X.mg X.base A X.stack s H) (hb : Binds X.K fd ps []) (hx : PassesAt CX X σ (E σ)) (I : Inv X pins σ H s) (r : Vals vs us) (h : sp vs H Q (E σ)) :
    wpAny (model X.prog X.w) A (call (.ref f) us) (EP X pins σ Q) X.xe s := wpAny_call (run_cdS F hr e0 hb hx I r h)
theorem pe_obGet (c : ObF X.K "__getitem__" f) (F : FnOk X.prog X.w X.K X.mg X.base CX k f fd ps sp) (hr : Room (k + 1) X.A) (hb : Binds X.K fd ps []) (hx : ∀ σ, PassesAt CX X σ (E σ)) (ha : PE X e ta) (hb' : PE X o tb)
    (hsl : ∀ v i, subscripted o true v i = runValue (.builtin "lifetime.subscript" ⟨[v, i], []⟩) := by intros; with_unfolding_all rfl) :
    PE X (.Subscript e o pos) (tOb (ob1 X.K) sp E (tCons ta (tCons tb tNil))) := by
  refine ⟨fun pins s σ H Q I h => PyProof.Rows.Subscript_ (thn (ha.run pins s σ H _ I h) fun v s1 ⟨x, H1, I1, rx, q1⟩ => thn (hb'.run pins s1 σ H1 _ I1 q1) fun u s2 ⟨y, H2, I2, ry, q2⟩ => ?_)⟩
  obtain ⟨⟨a, C, dx, fs, rest, ev, oc, h1⟩, q⟩ := q2
  cases ev
  obtain rfl : v = Value.ref a := rx
  obtain ⟨_, od, J, _⟩ := inst_of I2 h1
  obtain ⟨m, hF⟩ := I2.fr
  exact PySem.W.sub_K hF I2.ok.mod.kin J (c.at_ C oc) c.fi c.fn (run_atS (us := [.ref a, u]) (vs := [.ref a, y]) F hr.in1 I2.env0.in1 hb (hx σ) I2 (.cons rfl (.cons ry .nil)) q) (hsl _ _)
theorem pe_obCmp {op : CmpOp} (hop : ∀ a b, compareOp op a b = richCompare op a b) (c : ObF X.K (cmpInfo op).2.1 f) (F : FnOk X.prog X.w X.K X.mg X.base CX k f fd ps sp) (hr : Room k X.A) (hb : Binds X.K fd ps []) (hx : ∀ σ, PassesAt CX X σ (E σ)) (ha : PE X e ta) (hb' : PE X o tb) (hm : behindInMarks op o = false) :
    PE X (.Compare e [op] [o] pos) (tOb (ob2 X.K) sp E (tCons ta (tCons tb tNil))) := by
  refine ⟨fun pins s σ H Q I h => wpAny_Compare1 (thn (ha.run pins s σ H _ I h) fun v s1 ⟨x, H1, I1, rx, q1⟩ => thn (hb'.run pins s1 σ H1 _ I1 q1) fun u s2 ⟨y, H2, I2, ry, q2⟩ => ?_) hm⟩
  obtain ⟨⟨a, b, C, dx, fs, dy, gs, ev, oc, h1, h2⟩, q⟩ := q2
  cases ev
  obtain rfl : v = Value.ref a := rx
  obtain rfl : u = Value.ref b := ry
  obtain ⟨_, od, J, _⟩ := inst_of I2 h1
  obtain ⟨_, od2, J2, _⟩ := inst_of I2 h2
  obtain ⟨m, hF⟩ := I2.fr
  rw [hop]
  refine PySem.W.cmp_K (op := op) (tb := .ref C) hr.units0 hF I2.ok.mod.kin J J2.type (by simp [PySem.W.notFirst]) (c.at_ C oc) c.fn ?_
  exact wpAny_mono (run_fnS (us := [.ref a, .ref b]) (vs := [.ref a, .ref b]) F hr hb (hx σ) I2 (.cons rfl (.cons rfl .nil)) q) (fun u s' hu => back_of hu) fun _ _ e => e
/-- what stands ahead of the arguments is an instance -/
def tConsO (ta : TE) (tr : TA) : TA := fun σ H Q => ta σ H fun x H1 => (∃ a, x = V.ref a) ∧ tr σ H1 fun xs H2 => Q (x :: xs) H2
theorem pe_obCall {es : List Expr} {t : TA} {fe : Expr} (c : ObF X.K "__call__" f) (F : FnOk X.prog X.w X.K X.mg X.base CX k f fd ps sp) (hr : Room k X.A) (hb : Binds X.K fd ps []) (hx : ∀ σ, PassesAt CX X σ (E σ)) (hf : PE X fe ta) (ha : PA X (e :: es) t)
    (ht : eval (.Call fe (e :: es) [] pos) X.env = (do callWith pos (← eval fe X.env) [] (backTo pos (starEach (e :: es) X.env)) (backToKw pos (keywordEach [] X.env))) := by rfl)
    (he : starEach (e :: es) X.env = (false, eval e X.env) :: starEach es X.env := by rfl) (hpl : (backTo pos (starEach es X.env)).any (·.1) = false := by rfl) : PE X (.Call fe (e :: es) [] pos) (tOb (ob1 X.K) sp E (tConsO ta t)) := by
  refine ⟨fun pins s σ H Q I h => Call_ (thn (hf.run pins s σ H _ I h) fun u s1 ⟨y, H1, I1, ry, ⟨a, ey⟩, q⟩ => ?_) ht⟩
  subst ey
  obtain rfl : u = Value.ref a := ry
  refine StX.callO_with (thn (ha.run pos pins s1 σ H1 _ I1 q) fun us s2 ⟨vs, H2, I2, r, ⟨a', C, dx, fs, rest, ev, oc, h1⟩, q2⟩ => ?_) he hpl
  cases ev
  obtain ⟨ox, od, J, hd⟩ := inst_of I2 h1
  refine ⟨⟨C, ox, od, J, hd⟩, wpAny_call (PySem.W.kco_code I2.kIn J hd (c.at_ C oc) c.fn c.fi (run_cdS (us := .ref a :: us) (vs := .ref a :: vs) F hr I2.env0 hb (hx σ) I2 (.cons rfl r) q2))⟩
def tObP (G : V → Prop) (F : List V → Hp → Prop) (sp : Sp) (E : L2.St → XK) (t : TA) : TE := fun σ H Q => t σ H fun vs H1 => F vs H1 ∧ sp vs H1 (fun z H' => G z ∧ Q z H') (E σ)
def isLenV (z : V) : Prop := ∃ n : Int, z = .int n ∧ 0 ≤ n ∧ n < 2 ^ 63
def isBlV (z : V) : Prop := ∃ b, z = .bl b
def ob1s (K : PySem.W.Frag) (vs : List V) (H : Hp) : Prop := ∃ a C dx fs, vs = [.ref a] ∧ OCl K C ∧ H a = some (.ins C dx fs)
/-- len(x) -/
theorem pe_obLen {p : Pos} {t : TA} (c : ObF X.K "__len__" f) (F : FnOk X.prog X.w X.K X.mg X.base CX k f fd ps sp) (hr : Room (k + 1) X.A) (hb : Binds X.K fd ps []) (hx : ∀ σ, PassesAt CX X σ (E σ)) (ha : PA X [e] t) (hm : X.mg "len" = none) (hg : Gl X "len" := by rfl)
    (he : starEach [e] X.env = (false, eval e X.env) :: starEach [] X.env := by rfl) : PE X (.Call (.Name "len" p) [e] [] pos) (tObP isLenV (ob1s X.K) sp E t) := by
  refine ⟨fun pins s σ H Q I h => ?_⟩
  refine wpAny_Call_Name_kw (ld_blt I hg hm (by decide +kernel : bootBuiltins "len" = some (.builtin "len")) ?_ (by decide) (by decide))
  refine PyProof.Rows.callWith_builtin1 (thn (ha.run pos pins s σ H _ I h) fun us s1 ⟨vs, H1, I1, r, ⟨a, C, dx, fs, ev, oc, h1⟩, q⟩ => ?_) he rfl
  subst ev
  obtain rfl := Vals.ref1 r
  obtain ⟨_, od, J, _⟩ := inst_of I1 h1
  obtain ⟨m, hF⟩ := I1.fr
  refine PySem.W.len_K hF I1.ok.mod.kin J (c.at_ C oc) c.fn (wpAny_mono (run_atS (us := [.ref a]) (vs := [.ref a]) F hr.in1 I1.env0.in1 hb (hx σ) I1 r q) (fun w s' z => ?_) fun _ _ e => e)
  obtain ⟨z', H', I', rz, ⟨n, rfl, n0, n1⟩, qz⟩ := z
  obtain ⟨t, rfl⟩ : ∃ t, w = Value.int n t := rz
  exact ⟨⟨n0, n1⟩, .int n, H', I'.tok _, ⟨_, rfl⟩, qz⟩
end
section
variable {prog : Program} {w : World} {A : Around} {E : Value → Shared → Prop} {s : Shared} {K : PySem.W.Frag} {x C f : Addr} {ox : Obj} {od : Option Obj}
/-- bool(x), x with an own answer -/
theorem bool_own {Q : Value → Shared → Prop} (X : K.In s.heap) (I : PySem.W.InstAt s.heap x ox C od) (hs : PySem.W.findIn K (.ref C) "__bool__" = some (some (.ref f))) (hf : PySem.W.isFn K (.ref f) = true)
    (h : wpAny (model prog w) A.in1.in1 (call (.ref f) [.ref x]) (PySem.W.BoolBack fun b s₁ => Q (.bool b) s₁) E s) : wpAny (model prog w) A (call (.type "bool") [.ref x]) Q E s := by
  refine callType_codes (T := "bool") (Bi := Builtin.«object.__init__») (Q₁ := fun r s₁ => ∃ b, r = Value.bool b ∧ Q r s₁) PySem.F.called_bool (PySem.F.typeCall_bool_1 _) PySem.F.entry_object_init ?_ ?_
  · refine codeAny_of_tree ?_
    show wpAny _ A.in1.in1 (do checkBuiltinCall "bool.__new__" ⟨[.type "bool", .ref x], []⟩; again (.builtin "bool.__new__" ⟨[.type "bool", .ref x], []⟩)) _ _ s
    refine wpAny_bind (wpAny_of_eq (PySem.F.newCall_bool_1 _) (wpAny_pure ⟨plainId_quiet (by decide +kernel) _, codeAny_builtin PySem.F.entry_bool_new ?_⟩))
    rw [Around.under_plainId (by decide +kernel) _]
    unfold Builtin.«bool.__new__»
    refine wpAny_bind (wpAny_of_eq (a := true) (by first | rfl | kernel_rfl) ?_)
    refine PySem.W.KFB.if_not rfl ?_
    refine wpAny_bind (wpAny_of_eq (a := true) PySem.F.conv_sub_bool ?_)
    refine PySem.W.KFB.if_not rfl ?_
    refine wpAny_bind (wpAny_of_eq (a := [Value.ref x]) (by first | rfl | kernel_rfl) ?_)
    show wpAny _ _ (truthy (.ref x) >>= fun b => ret (.bool b)) _ _ s
    refine wpAny_bind ?_
    unfold truthy
    refine wpAny_bind (m := callSpecial? (.ref x) (Str.ofString "__bool__")) (PySem.W.special_fn X I hs (beq_iff_eq.mp hf) (wpAny_mono h (fun r s' hr => ?_) fun _ _ y => y))
    cases r <;> first | exact hr.elim | skip
    exact wpAny_pure (wpAny_pure ⟨_, rfl, hr⟩)
  · rintro obj s₁ ⟨b, rfl, hq⟩
    exact ⟨rfl, PySem.F.args_object_init_2 _ _, object_init_meets PySem.F.called_bool.init.lookup PySem.F.called_bool.made (by decide) prog w A.in1 _ s₁ ⟨rfl, rfl, hq⟩⟩
end
section
variable {X : Cx} {CX : CXT} {k : Nat} {f : Addr} {fd : FuncData} {ps : List Str} {sp : Sp} {E : L2.St → XK} {pos : Pos} {e : Expr}
theorem pe_obBool {p : Pos} {t : TA} (c : ObF X.K "__bool__" f) (F : FnOk X.prog X.w X.K X.mg X.base CX k f fd ps sp) (hr : Room (k + 2) X.A) (hb : Binds X.K fd ps []) (hx : ∀ σ, PassesAt CX X σ (E σ)) (ha : PA X [e] t) (hm : X.mg "bool" = none) (hg : Gl X "bool" := by rfl)
    (he : starEach [e] X.env = (false, eval e X.env) :: starEach [] X.env := by rfl) : PE X (.Call (.Name "bool" p) [e] [] pos) (tObP isBlV (ob1s X.K) sp E t) := by
  refine ⟨fun pins s σ H Q I h => ?_⟩
  refine wpAny_Call_Name_kw (ld_blt I hg hm (by decide +kernel : bootBuiltins "bool" = some (.type "bool")) ?_ (by decide) (by decide))
  refine PyProof.Rows.callWith_type1 (thn (ha.run pos pins s σ H _ I h) fun us s1 ⟨vs, H1, I1, r, ⟨a, C, dx, fs, ev, oc, h1⟩, q⟩ => ?_) he rfl
  subst ev
  obtain rfl := Vals.ref1 r
  obtain ⟨_, od, J, _⟩ := inst_of I1 h1
  refine bool_own I1.kIn J (c.at_ C oc) c.fn (wpAny_mono (run_atS (us := [.ref a]) (vs := [.ref a]) F (hr.in1 : Room (k + 1) X.A.in1).in1 I1.env0.in1.in1 hb (hx σ) I1 r q) (fun w s' z => ?_) fun _ _ e => e)
  obtain ⟨z', H', I', rz, ⟨b, rfl⟩, qz⟩ := z
  obtain rfl : w = Value.bool b := rz
  exact ⟨.bl b, H', I', rfl, qz⟩
end
/-! the rules on data -/
section
variable {K : PySem.W.Frag} {W : WX}
theorem rfa_nil : Rfa K W tNil dNil := fun U σ ρ H P E Q R h k _ => k [] ρ [] H h R.refl R
theorem rfa_consG {ta : TE} {tb : TA} {da : TD} {db : TAd} (ra : Rf K W ta da) (rb : Rfa K W tb db) : Rfa K W (tCons ta tb) (dCons da db) := by
  intro U σ ρ H P E Q R h k x
  refine ra U σ ρ H _ E _ R h (fun r ρ1 v1 H1 h1 a1 q1 => ?_) x
  have R1 : Rep K (ext U r) H1 σ ρ1 := by
    cases r with
    | f a ds => exact q1.sep a ds rfl
    | v d => exact a1.rep
    | b i => exact a1.rep
  refine rb (ext U r) σ ρ1 H1 _ E _ R1 h1 (fun rs ρ' vs H' p a q => ?_) (fun C ρ' H' p a => x C ρ' H' p (a1.trans (a.less fun _ => ext_of)))
  have a' := a.less (U := U) fun _ => ext_of
  exact k (r :: rs) ρ' (v1 :: vs) H' p (a1.trans a') ⟨RepR.to a'.xt a'.er (fun a z => exts_fr q.frs z) q1.val, q1.fre, q.fr fun _ z => a1.xt.back z⟩
def isObR : Rs → Prop
  | .v (.ob _) => True
  | _ => False
/-- the first one is an instance -/
def dConsO (da : TD) (db : TAd) : TAd := fun ρ P E => da ρ (fun r ρ1 => isObR r ∧ db ρ1 (fun rs ρ2 => P (r :: rs) ρ2) E) E
theorem rfa_consO {ta : TE} {tb : TA} {da : TD} {db : TAd} (ra : Rf K W ta da) (rb : Rfa K W tb db) : Rfa K W (tConsO ta tb) (dConsO da db) := by
  intro U σ ρ H P E Q R h k x
  refine ra U σ ρ H _ E _ R h (fun r ρ1 v1 H1 h1 a1 q1 => ?_) x
  obtain ⟨ho, h1⟩ := h1
  have R1 : Rep K (ext U r) H1 σ ρ1 := by
    cases r with
    | f a ds => exact q1.sep a ds rfl
    | v d => exact a1.rep
    | b i => exact a1.rep
  refine ⟨?_, ?_⟩
  · cases r with
    | v d =>
      cases d with
      | ob ds =>
        have := q1.val
        simp only [RepR, Dq] at this
        obtain ⟨a, _, e, _⟩ := this
        exact ⟨a, e⟩
      | _ => exact ho.elim
    | _ => exact ho.elim
  refine rb (ext U r) σ ρ1 H1 _ E _ R1 h1 (fun rs ρ' vs H' p a q => ?_) (fun C ρ' H' p a => x C ρ' H' p (a1.trans (a.less fun _ => ext_of)))
  have a' := a.less (U := U) fun _ => ext_of
  exact k (r :: rs) ρ' (v1 :: vs) H' p (a1.trans a') ⟨RepR.to a'.xt a'.er (fun a z => exts_fr q.frs z) q1.val, q1.fre, q.fr fun _ z => a1.xt.back z⟩
def dEnd (G : List Rs → Prop) (tr : TAd) : TAd := fun ρ P E => tr ρ (fun rs ρ1 => G rs ∧ P rs ρ1) E
def tEnd (F : List V → Hp → Prop) (t : TA) : TA := fun σ H Q => t σ H fun vs H1 => F vs H1 ∧ Q vs H1
theorem rfa_end {F : List V → Hp → Prop} {G : List Rs → Prop} {t : TA} {tr : TAd} (hF : ∀ U H0 H σ ρ rs vs, RepRs K U H0 H σ ρ rs vs → G rs → F vs H) (ra : Rfa K W t tr) : Rfa K W (tEnd F t) (dEnd G tr) := by
  intro U σ ρ H P E Q R h k x
  exact ra U σ ρ H _ E _ R h (fun rs ρ1 vs H1 h1 a1 q1 => ⟨hF _ _ _ _ _ _ _ q1 h1.1, k rs ρ1 vs H1 h1.2 a1 q1⟩) x
def g1 : List Rs → Prop
  | .v (.ob _) :: _ => True
  | _ => False
def g1s : List Rs → Prop
  | [.v (.ob _)] => True
  | _ => False
def g2 : List Rs → Prop
  | [.v (.ob _), .v (.ob _)] => True
  | _ => False
def gM : List Rs → Prop
  | [.v (.ob _), .v d] => flat d = true
  | _ => False
theorem g1_v {ds : List D} {rs : List Rs} : g1 (.v (.ob ds) :: rs) = True := rfl
theorem g1s_v {ds : List D} : g1s [.v (.ob ds)] = True := rfl
theorem g2_v {ds es : List D} : g2 [.v (.ob ds), .v (.ob es)] = True := rfl
theorem gM_v {ds : List D} {d : D} : gM [.v (.ob ds), .v d] = (flat d = true) := rfl
theorem isObR_v {ds : List D} : isObR (.v (.ob ds)) = True := rfl
theorem ob_at {O : Addr → Prop} {H : Hp} {ds : List D} {v : V} (h : Dq K O H (.ob ds) v) : ∃ a C dx xs, v = .ref a ∧ OCl K C ∧ H a = some (.ins C dx (obN.zip xs)) ∧ xs.length = 3 ∧ Dqs K O H ds xs := by
  simp only [Dq] at h
  obtain ⟨a, xs, e, ⟨C, dx, oc, ha, _, l⟩, q⟩ := h
  exact ⟨a, C, dx, xs, e, oc, ha, l, q⟩
theorem g1_ok (U : Addr → Prop) (H0 H : Hp) (σ : L2.St) (ρ : DEnv) (rs : List Rs) (vs : List V) (z : RepRs K U H0 H σ ρ rs vs) (g : g1 rs) : ob1 K vs H := by
  match rs, vs, z, g with
  | .v (.ob ds) :: rs, v :: vs, z, _ =>
    obtain ⟨a, C, dx, xs, rfl, oc, ha, _⟩ := ob_at (show Dq K _ H (.ob ds) v from z.1)
    exact ⟨a, C, dx, _, vs, rfl, oc, ha⟩
theorem g1s_ok (U : Addr → Prop) (H0 H : Hp) (σ : L2.St) (ρ : DEnv) (rs : List Rs) (vs : List V) (z : RepRs K U H0 H σ ρ rs vs) (g : g1s rs) : ob1s K vs H := by
  match rs, vs, z, g with
  | [.v (.ob ds)], [v], z, _ =>
    obtain ⟨a, C, dx, xs, rfl, oc, ha, _⟩ := ob_at (show Dq K _ H (.ob ds) v from z.1)
    exact ⟨a, C, dx, _, rfl, oc, ha⟩
  | [.v (.ob ds)], _ :: _ :: _, z, _ => exact z.2.2.elim
theorem g2_ok (U : Addr → Prop) (H0 H : Hp) (σ : L2.St) (ρ : DEnv) (rs : List Rs) (vs : List V) (z : RepRs K U H0 H σ ρ rs vs) (g : g2 rs) : ob2 K vs H := by
  match rs, g with
  | [.v (.ob ds), .v (.ob es)], _ =>
    obtain ⟨v, y, rfl, y1, y2⟩ := rs2 z rfl
    obtain ⟨a, C, dx, xs, rfl, oc, ha, _⟩ := ob_at (show Dq K _ H (.ob ds) v from y1)
    obtain ⟨b, C', dy, ys, rfl, oc', hb, _⟩ := ob_at (show Dq K _ H (.ob es) y from y2)
    obtain rfl := oc.uniq oc'
    exact ⟨a, b, C, dx, _, dy, _, rfl, oc, ha, hb⟩
theorem gM_ok (U : Addr → Prop) (H0 H : Hp) (σ : L2.St) (ρ : DEnv) (rs : List Rs) (vs : List V) (z : RepRs K U H0 H σ ρ rs vs) (g : gM rs) : obM K vs H := by
  match rs, g with
  | [.v (.ob ds), .v d], g =>
    obtain ⟨v, y, rfl, y1, y2⟩ := rs2 z rfl
    obtain ⟨a, C, dx, xs, rfl, oc, ha, _⟩ := ob_at (show Dq K _ H (.ob ds) v from y1)
    refine ⟨a, C, dx, _, y, rfl, oc, ha, ?_⟩
    have := (dq_flat (show flat d = true from g)).mp (show Dq K _ H d y from y2)
    subst this
    cases d with
    | non => exact .inl rfl
    | bl b => exact .inr (.inl ⟨b, rfl⟩)
    | int i => exact .inr (.inr (.inl ⟨i, rfl⟩))
    | str l => exact .inr (.inr (.inr ⟨_, rfl⟩))
    | tup _ => cases (show false = true from g)
    | lst _ => cases (show false = true from g)
    | ob _ => cases (show false = true from g)
/-- a def of that class -/
def OCal (P : Program) (w : World) (K : PySem.W.Frag) (mgl : Str → Option Value) (base : Heap) (k n : Nat) (m : Str) (S : TD) : Prop :=
  ∃ f fd ps, FnOk P w K mgl base (L2N.CX P w) k f fd ps (toSp K n S) ∧ ObF K m f ∧ Binds K fd ps []
/-- of which a result is such -/
def dPost (G : Rs → Prop) (t : TD) : TD := fun ρ P E => t ρ (fun r ρ1 => G r ∧ P r ρ1) E
def isLenR : Rs → Prop
  | .v (.int n) => 0 ≤ n ∧ n < 2 ^ 63
  | _ => False
def isBlR : Rs → Prop
  | .v (.bl _) => True
  | _ => False
end
section
variable {X : Cx} {W : WX} {k : Nat} {S : TD} {pos : Pos} {e o : Expr} {da db : TD}
theorem de_obAdd (c : OCal X.prog X.w X.K X.mg X.base k 2 "__add__" S) (tk : L2N.Takes X W) (hr : Room k X.A) (ha : DE X W e da) (hb : DE X W o db) : DE X W (.BinOp e .Add o pos) (dCall 2 S (dEnd g2 (dCons da (dCons db dNil)))) := by
  obtain ⟨f, fd, ps, F, c, bi⟩ := c
  obtain ⟨t1, p1, r1⟩ := ha
  obtain ⟨t2, p2, r2⟩ := hb
  exact ⟨_, pe_obAdd (E := fun σ => WE W σ) c F hr bi (fun σ => L2N.passAt tk σ) p1 p2, rf_call (rfa_end g2_ok (rfa_consG r1 (rfa_consG r2 rfa_nil)))⟩
theorem de_obMul (c : OCal X.prog X.w X.K X.mg X.base k 2 "__mul__" S) (tk : L2N.Takes X W) (hr : Room k X.A) (ha : DE X W e da) (hb : DE X W o db) : DE X W (.BinOp e .Mult o pos) (dCall 2 S (dEnd gM (dCons da (dCons db dNil)))) := by
  obtain ⟨f, fd, ps, F, c, bi⟩ := c
  obtain ⟨t1, p1, r1⟩ := ha
  obtain ⟨t2, p2, r2⟩ := hb
  exact ⟨_, pe_obMul (E := fun σ => WE W σ) c F hr bi (fun σ => L2N.passAt tk σ) p1 p2, rf_call (rfa_end gM_ok (rfa_consG r1 (rfa_consG r2 rfa_nil)))⟩
theorem de_obNeg (c : OCal X.prog X.w X.K X.mg X.base k 1 "__neg__" S) (tk : L2N.Takes X W) (hr : Room k X.A) (ha : DE X W e da) : DE X W (.UnaryOp .USub e pos) (dCall 1 S (dEnd g1 (dCons da dNil))) := by
  obtain ⟨f, fd, ps, F, c, bi⟩ := c
  obtain ⟨t1, p1, r1⟩ := ha
  exact ⟨_, pe_obNeg (E := fun σ => WE W σ) c F hr bi (fun σ => L2N.passAt tk σ) p1, rf_call (rfa_end g1_ok (rfa_consG r1 rfa_nil))⟩
theorem de_obGet (c : OCal X.prog X.w X.K X.mg X.base k 2 "__getitem__" S) (tk : L2N.Takes X W) (hr : Room (k + 1) X.A) (ha : DE X W e da) (hb : DE X W o db)
    (hsl : ∀ v i, subscripted o true v i = runValue (.builtin "lifetime.subscript" ⟨[v, i], []⟩) := by intros; with_unfolding_all rfl) : DE X W (.Subscript e o pos) (dCall 2 S (dEnd g1 (dCons da (dCons db dNil)))) := by
  obtain ⟨f, fd, ps, F, c, bi⟩ := c
  obtain ⟨t1, p1, r1⟩ := ha
  obtain ⟨t2, p2, r2⟩ := hb
  exact ⟨_, pe_obGet (E := fun σ => WE W σ) c F hr bi (fun σ => L2N.passAt tk σ) p1 p2 hsl, rf_call (rfa_end g1_ok (rfa_consG r1 (rfa_consG r2 rfa_nil)))⟩
theorem de_obEq (c : OCal X.prog X.w X.K X.mg X.base k 2 "__eq__" S) (tk : L2N.Takes X W) (hr : Room k X.A) (ha : DE X W e da) (hb : DE X W o db) (hm : behindInMarks .Eq o = false := by first | rfl | exact nomark _) : DE X W (.Compare e [.Eq] [o] pos) (dCall 2 S (dEnd g2 (dCons da (dCons db dNil)))) := by
  obtain ⟨f, fd, ps, F, c, bi⟩ := c
  obtain ⟨t1, p1, r1⟩ := ha
  obtain ⟨t2, p2, r2⟩ := hb
  exact ⟨_, pe_obCmp (E := fun σ => WE W σ) (fun _ _ => rfl) c F hr bi (fun σ => L2N.passAt tk σ) p1 p2 hm, rf_call (rfa_end g2_ok (rfa_consG r1 (rfa_consG r2 rfa_nil)))⟩
theorem de_obCall {tr : TAd} {es : List Expr} {fe : Expr} (c : OCal X.prog X.w X.K X.mg X.base k 2 "__call__" S) (tk : L2N.Takes X W) (hr : Room k X.A) (hf : DE X W fe da) (ha : DA X W (e :: es) tr)
    (ht : eval (.Call fe (e :: es) [] pos) X.env = (do callWith pos (← eval fe X.env) [] (backTo pos (starEach (e :: es) X.env)) (backToKw pos (keywordEach [] X.env))) := by rfl)
    (he : starEach (e :: es) X.env = (false, eval e X.env) :: starEach es X.env := by rfl) (hpl : (backTo pos (starEach es X.env)).any (·.1) = false := by rfl) : DE X W (.Call fe (e :: es) [] pos) (dCall 2 S (dEnd g1 (dConsO da tr))) := by
  obtain ⟨f, fd, ps, F, c, bi⟩ := c
  obtain ⟨t1, p1, r1⟩ := hf
  obtain ⟨t2, p2, r2⟩ := ha
  exact ⟨_, pe_obCall (E := fun σ => WE W σ) c F hr bi (fun σ => L2N.passAt tk σ) p1 p2 ht he hpl, rf_call (rfa_end g1_ok (rfa_consO r1 r2))⟩
theorem rf_post {G : Rs → Prop} {g : V → Prop} {F : List V → Hp → Prop} {Gd : List Rs → Prop} {n : Nat} {t : TA} {tr : TAd} (hF : ∀ U H0 H σ ρ rs vs, RepRs X.K U H0 H σ ρ rs vs → Gd rs → F vs H) (hG : ∀ U H H' σ ρ r v, RepF X.K U H H' σ ρ r v → G r → g v) (ra : Rfa X.K W t tr) :
    Rf X.K W (tObP g F (toSp X.K n S) (fun σ => WE W σ) t) (dPost G (dCall n S (dEnd Gd tr))) := by
  intro U σ ρ H P E Q R h k x
  exact rf_call (S := S) (n := n) (rfa_end hF ra) U σ ρ H _ E _ R h (fun r ρ' v H' p a q => ⟨hG _ _ _ _ _ _ _ q p.1, k r ρ' v H' p.2 a q⟩) x
theorem de_obLen {p : Pos} (c : OCal X.prog X.w X.K X.mg X.base k 1 "__len__" S) (tk : L2N.Takes X W) (hr : Room (k + 1) X.A) (hm : X.mg "len" = none) (ha : DE X W e da) (hg : Gl X "len" := by rfl)
    (he : starEach [e] X.env = (false, eval e X.env) :: starEach [] X.env := by rfl) : DE X W (.Call (.Name "len" p) [e] [] pos) (dPost isLenR (dCall 1 S (dEnd g1s (dCons da dNil)))) := by
  obtain ⟨f, fd, ps, F, c, bi⟩ := c
  obtain ⟨t1, p1, r1⟩ := ha
  refine ⟨_, pe_obLen (E := fun σ => WE W σ) c F hr bi (fun σ => L2N.passAt tk σ) (pa_cons p1 pa_nil he) hm hg he, rf_post g1s_ok (fun U H H' σ ρ r v q g => ?_) (rfa_consG r1 rfa_nil)⟩
  match r, g with
  | .v (.int n), g =>
    have := q.val.vflat rfl
    exact ⟨n, this, g⟩
theorem de_obBool {p : Pos} (c : OCal X.prog X.w X.K X.mg X.base k 1 "__bool__" S) (tk : L2N.Takes X W) (hr : Room (k + 2) X.A) (hm : X.mg "bool" = none) (ha : DE X W e da) (hg : Gl X "bool" := by rfl)
    (he : starEach [e] X.env = (false, eval e X.env) :: starEach [] X.env := by rfl) : DE X W (.Call (.Name "bool" p) [e] [] pos) (dPost isBlR (dCall 1 S (dEnd g1s (dCons da dNil)))) := by
  obtain ⟨f, fd, ps, F, c, bi⟩ := c
  obtain ⟨t1, p1, r1⟩ := ha
  refine ⟨_, pe_obBool (E := fun σ => WE W σ) c F hr bi (fun σ => L2N.passAt tk σ) (pa_cons p1 pa_nil he) hm hg he, rf_post g1s_ok (fun U H H' σ ρ r v q g => ?_) (rfa_consG r1 rfa_nil)⟩
  match r, g with
  | .v (.bl b), g =>
    have := q.val.vflat rfl
    exact ⟨b, this⟩
end
/-! a new one; fields; isinstance -/
section
variable {X : Cx} {CX : CXT} {k : Nat} {f C g : Addr} {fd : FuncData} {ps : List Str} {sp : Sp} {E : L2.St → XK} {x : Str} {p pos : Pos} {e : Expr} {es : List Expr} {t : TA}
def tMakeS (C : Addr) (sp : Sp) (E : L2.St → XK) (t : TA) : TE := fun σ H Q => t σ H fun vs H1 => ∀ y dy, H1 y = none → H1 dy = none → dy ≠ y → sp (.ref y :: vs) (upd (upd H1 dy (.own y)) y (.ins C dy [])) (fun v H2 => v = .non ∧ Q (.ref y) H2) (E σ)
theorem pe_makeS (M : Mk X.K C f) (F : FnOk X.prog X.w X.K X.mg X.base CX k f fd ps sp) (hr : Room (k + 1) X.A) (hg : Gl X x) (hm : X.mg x = some (.ref C)) (hb : Binds X.K fd ps []) (hx : ∀ σ, PassesAt CX X σ (E σ)) (ha : PA X (e :: es) t) (hdb : (x == ("__debug__" : Str)) = false := by decide)
    (he : starEach (e :: es) X.env = (false, eval e X.env) :: starEach es X.env := by rfl) (hpl : (backTo pos (starEach es X.env)).any (·.1) = false := by rfl) : PE X (.Call (.Name x p) (e :: es) [] pos) (tMakeS C sp E t) := by
  refine ⟨fun pins s σ H Q I h => wpAny_Call_Name_kw (ld_glob I hg hm ?_ hdb)⟩
  refine PySem.W.callWith_K (h₀ := X.base) I.ok.mod.kin M.kp (thn (ha.run pos pins s σ H _ I h) fun us s1 ⟨vs, H1, I1, r, q⟩ => ⟨I1.kIn, ?_⟩) he hpl
  have q1 := q (s1.heap.objs.size + 1) s1.heap.objs.size (I1.hok.fresh (Nat.le_succ _)) (I1.hok.fresh (Nat.le_refl _)) (Nat.ne_of_lt (Nat.lt_succ_self _))
  have I2 := Inv.made (C := C) I1
  generalize hy : s1.heap.objs.size + 1 = y at q1 I2
  have r2 : Vals (V.ref y :: vs) (Value.ref y :: us) := .cons rfl r
  have hl : (Value.ref y :: us ++ []).length = ps.length := by
    rw [List.append_nil, ← r2.length]; exact F.len _ _ _ _ q1
  have bt := hb _ (Value.ref y :: us) I2.kIn hl
  simp only [List.append_nil] at bt
  subst hy
  refine wpAny_call (make_map (f := f) I1.kIn M.makes M.init (beq_iff_eq.mp M.fn) (codeAny_mono (F.run _ X.stack _ _ ⟨Value.ref (s1.heap.objs.size + 1) :: us, []⟩ _ _ _ (E σ) (hr.make C us []) (I2.env0.make C us []) bt r2 q1) fun r' s' z => ?_))
  cases r' with
  | error e => exact hx σ pins _ _ e s' I2 z
  | ok fl =>
    cases fl with
    | ret u =>
      obtain ⟨v, H', I3, rv, ev, q3⟩ := I2.after z
      subst ev
      exact ⟨rv, V.ref _, H', I3, rfl, q3⟩
    | next => exact z.elim
    | brk => exact z.elim
    | cont => exact z.elim
end
section
variable {X : Cx} {W : WX} {k : Nat} {pos : Pos} {e : Expr} {d : TD}
def qFld (i : Nat) (P : CtR) : CtR := fun r ρ => match r with
  | .v (.ob ds) => (match ds[i]? with | some x => P (.v x) ρ | none => False)
  | _ => False
def dFld (i : Nat) (d : TD) : TD := fun ρ P E => d ρ (qFld i P) E
theorem w_fld {i : Nat} {ρ : DEnv} {P : CtR} {E : EX} : dFld i d ρ P E = d ρ (qFld i P) E := rfl
theorem w_qFld0 {P : CtR} {ρ : DEnv} {a b c : D} : qFld 0 P (.v (.ob [a, b, c])) ρ = P (.v a) ρ := rfl
theorem w_qFld1 {P : CtR} {ρ : DEnv} {a b c : D} : qFld 1 P (.v (.ob [a, b, c])) ρ = P (.v b) ρ := rfl
theorem w_qFld2 {P : CtR} {ρ : DEnv} {a b c : D} : qFld 2 P (.v (.ob [a, b, c])) ρ = P (.v c) ρ := rfl
theorem fld_at {i : Nat} {nm : Str} {xs : List V} {x : V} (hn : obN[i]? = some nm) (hl : xs.length = 3) (hx : xs[i]? = some x) : (obN.zip xs).lookup nm = some x := by
  match xs, hl with
  | [a, b, c], _ =>
    match i, hn with
    | 0, hn => cases hn; cases hx; rfl
    | 1, hn => cases hn; cases hx; rfl
    | 2, hn => cases hn; cases hx; rfl
    | _ + 3, hn => simp [obN] at hn
theorem qFld_inv {i : Nat} {P : CtR} {r : Rs} {ρ : DEnv} (h : qFld i P r ρ) : ∃ ds x, r = .v (.ob ds) ∧ ds[i]? = some x ∧ P (.v x) ρ := by
  match r, h with
  | .v (.ob ds), h =>
    have h : (match ds[i]? with | some x => P (.v x) ρ | none => False) := h
    cases e : ds[i]? with
    | some x => rw [e] at h; exact ⟨ds, x, rfl, e, h⟩
    | none => rw [e] at h; exact h.elim
theorem fld_rep {K : PySem.W.Frag} {U : Addr → Prop} {H0 H : Hp} {σ σ' : L2.St} {ρ : DEnv} {x : D} {v : V} (h : Dq K (Ow U ρ) H x v) : RepF K U H0 H σ ρ (.v x) v := ⟨h, trivial, fun _ _ e => nomatch e⟩
theorem de_obFld {i : Nat} {nm : Str} (hn : obN[i]? = some nm) (he : DE X W e d) (hb : attributeBase e nm X.env (eval e X.env) = eval e X.env := by rfl) : DE X W (.Attribute e nm pos) (dFld i d) := by
  obtain ⟨t, pe, re⟩ := he
  refine ⟨_, pe_fld pe hb, fun U σ ρ H P E Q R h k x => ?_⟩
  refine re U σ ρ H _ E _ R h (fun r ρ1 v H1 q A z => ?_) x
  obtain ⟨ds, y, rfl, hy, p⟩ := qFld_inv q
  obtain ⟨a, C, dx, xs, rfl, oc, ha, hl, dq⟩ := ob_at (show Dq X.K _ H1 (.ob ds) v from z.val)
  obtain ⟨u, hu, du⟩ := dqs_get dq hy
  exact ⟨a, C, dx, _, u, rfl, ha, oc.ic.cl, oc.na nm (List.mem_of_getElem? hn), fld_at hn hl hu, k _ _ _ _ p A (fld_rep (σ' := σ) du)⟩
/-- a property that hands back a field -/
def OPr (P : Program) (w : World) (K : PySem.W.Frag) (mgl : Str → Option Value) (base : Heap) (nm fld : Str) : Prop :=
  ∃ (C p g : Addr) (fd : FuncData) (ps : List Str), OCl K C ∧ PropOf K C nm p g ∧ FnOk P w K mgl base (L2N.CX P w) 1 g fd ps (getSp C fld) ∧ Binds K fd ps []
theorem de_obProp {i : Nat} {nm fld : Str} (hn : obN[i]? = some fld) (c : OPr X.prog X.w X.K X.mg X.base nm fld) (hr : Room 2 X.A) (hx : ∀ E : XK, (∀ cls dd H, ¬ E cls dd H) → Passes (L2N.CX X.prog X.w) X.nox E) (he : DE X W e d) (hb : attributeBase e nm X.env (eval e X.env) = eval e X.env := by rfl) : DE X W (.Attribute e nm pos) (dFld i d) := by
  obtain ⟨C, p, g, fd, ps, oc, pr, F, bi⟩ := c
  obtain ⟨t, pe, re⟩ := he
  refine ⟨_, pe_prop pe oc.ic.cl pr F hr bi .nil (hx (fun _ _ _ => False) fun _ _ _ z => z) hb, fun U σ ρ H P E Q R h k x => ?_⟩
  refine re U σ ρ H _ E _ R h (fun r ρ1 v H1 q A z => ?_) x
  obtain ⟨ds, y, rfl, hy, q⟩ := qFld_inv q
  obtain ⟨a, C', dx, xs, rfl, oc', ha, hl, dq⟩ := ob_at (show Dq X.K _ H1 (.ob ds) v from z.val)
  obtain rfl := oc.uniq oc'
  obtain ⟨u, hu, du⟩ := dqs_get dq hy
  exact ⟨a, dx, _, rfl, ha, a, dx, _, u, rfl, ha, fld_at hn hl hu, k _ _ _ _ q A (fld_rep (σ' := σ) du)⟩
/-- isinstance(x, the class) -/
theorem de_isOb {p p2 : Pos} {C : Addr} (oc : OCl X.K C) (ht : ∀ T ∈ ["NoneType", "bool", "int", "str", "tuple", "list"], PySem.W.kitOne X.K (.type T) (.ref C) = some false) (hmC : X.mg "Presses" = some (.ref C)) (hm : X.mg "isinstance" = none) (he : DE X W e d)
    (hv : bootBuiltins "isinstance" = some (.builtin "isinstance") := by decide +kernel) (hg : Gl X "isinstance" := by rfl) (hgT : Gl X "Presses" := by rfl)
    (h1 : starEach [e, .Name "Presses" p2] X.env = (false, eval e X.env) :: starEach [.Name "Presses" p2] X.env := by rfl) (h2 : starEach [.Name "Presses" p2] X.env = (false, eval (.Name "Presses" p2) X.env) :: starEach [] X.env := by rfl) (hpl : (backTo pos (starEach [.Name "Presses" p2] X.env)).any (·.1) = false := by rfl) :
    DE X W (.Call (.Name "isinstance" p) [e, .Name "Presses" p2] [] pos) (dIsi isOb d) := by
  obtain ⟨s, pe, re⟩ := he
  refine ⟨_, pe_callB call_isi hg hm hv (pa_cons pe (pa_cons (pe_glob (v := .ref C) hgT hmC rfl) pa_nil h2) h1) (by decide) (by decide) h1 hpl, fun U σ ρ H P E Q R h k x => ?_⟩
  refine re U σ ρ H _ E _ R h (fun r ρ1 v H1 q A z => ?_) x
  have fin := k _ _ _ _ q A (RepF.flat (.bl _) rfl)
  have w := A.rep.dw z.val
  cases no : isOb (dat ρ1 r) with
  | false =>
    rw [no] at fin
    refine ⟨v, .ref C, .type (tyN (dat ρ1 r)), .ref C, false, rfl, .own C, tyx w no, ht _ ?_, fin⟩
    clear w fin
    generalize dat ρ1 r = dd at no
    cases dd with
    | ob ds => cases no
    | _ => simp [tyN]
  | true =>
    rw [no] at fin
    generalize dat ρ1 r = dd at w no
    cases dd with
    | ob ds =>
      obtain ⟨a, xs, rfl, ⟨C', dx, oc', ha, _⟩, _⟩ := w
      obtain rfl := oc.uniq oc'
      exact ⟨_, .ref C, .ref C, .ref C, true, rfl, .own C, .base (TyOf.ins ha oc.ic.cl oc.ic.ha oc.ic.hn oc.ic.htk oc.ic.hm), oc.ic.me, fin⟩
    | _ => cases no
end
end DL

namespace DL
open PySem PySem.Spec PyProof.Rows L2
variable [WW]
section
variable {ρ : DEnv} {P : CtR} {PL : CtL} {E : EX}
def qEnd (G : List Rs → Prop) (P : CtL) : CtL := fun rs ρ => G rs ∧ P rs ρ
theorem w_end {G : List Rs → Prop} {tr : TAd} : dEnd G tr ρ PL E = tr ρ (qEnd G PL) E := rfl
theorem w_qEnd {G : List Rs → Prop} {rs : List Rs} : qEnd G PL rs ρ = (G rs ∧ PL rs ρ) := rfl
def qConsO2 (r : Rs) (P : CtL) : CtL := fun rs ρ => P (r :: rs) ρ
def qConsO (db : TAd) (P : CtL) (E : EX) : CtR := fun r ρ => isObR r ∧ db ρ (qConsO2 r P) E
theorem w_consO {da : TD} {db : TAd} : dConsO da db ρ PL E = da ρ (qConsO db PL E) E := rfl
theorem w_qConsO {db : TAd} {r : Rs} : qConsO db PL E r ρ = (isObR r ∧ db ρ (qConsO2 r PL) E) := rfl
theorem w_qConsO2 {r : Rs} {rs : List Rs} : qConsO2 r PL rs ρ = PL (r :: rs) ρ := rfl
def qPost (G : Rs → Prop) (P : CtR) : CtR := fun r ρ => G r ∧ P r ρ
theorem w_post {G : Rs → Prop} {t : TD} : dPost G t ρ P E = t ρ (qPost G P) E := rfl
theorem w_qPost {G : Rs → Prop} {r : Rs} : qPost G P r ρ = (G r ∧ P r ρ) := rfl
theorem isLenR_v {n : Int} : isLenR (.v (.int n)) = (0 ≤ n ∧ n < 2 ^ 63) := rfl
theorem isBlR_v {b : Bool} : isBlR (.v (.bl b)) = True := rfl
end
theorem noPassP (X : Cx) (E : XK) (h : ∀ cls dd H, ¬ E cls dd H) : Passes (L2N.CX X.prog X.w) X.nox E := fun pins σ H s e s' I c => by
  obtain ⟨_, _, _, _, _, _, _, _, _, _, _, _, z⟩ := c
  exact (h _ _ _ z).elim
/-! bool(a bool) -/
def cBool : RCd := fun rs ρ P => ∃ b, rs = [.v (.bl b)] ∧ P (.v (.bl b)) ρ
theorem cd_bool {K : PySem.W.Frag} : CallD K (fun xs H Q => (∃ i, xs = [V.int i] ∧ Q (.bl (i != 0)) H) ∨ ∃ k, xs = [V.bl k] ∧ Q (.bl k) H) cBool := by
  intro U σ ρ H0 H P Q rs vs z h k
  obtain ⟨b, e, p⟩ := h
  obtain ⟨v, ev, q⟩ := rs1 z e
  subst ev
  exact .inr ⟨b, by rw [q.vflat rfl]; rfl, k _ _ _ _ p z.rep.refl (RepF.flat (.bl _) rfl)⟩
theorem w_bool {b : Bool} {ρ : DEnv} {P : CtR} : cBool [.v (.bl b)] ρ P = P (.v (.bl b)) ρ := by
  unfold cBool
  apply propext
  constructor
  · rintro ⟨b', e, p⟩; cases e; exact p
  · exact fun p => ⟨b, rfl, p⟩
/-! x == a text, x with an own __eq__ that does not know texts -/
/-- the def, for a text -/
def EqNI (P : Program) (w : World) (K : PySem.W.Frag) (mgl : Str → Option Value) (base : Heap) (k : Nat) (f : Addr) : Prop :=
  ∀ (A : Around) (outer : List Env) (s : Shared) (H : Hp) (a C dx : Addr) (fs : List (Str × V)) (z : Str) (t : Tok), Room k A → Env0 P w K mgl base A outer s H → OCl K C → H a = some (.ins C dx fs) →
    codeAny (model P w) A (.call (.ref f) ⟨[.ref a, .str z t], []⟩) (fun r s' => r = .ok (.ret .notImplemented) ∧ CE outer P w H s (fun _ H' => H' = H) .none s') s
theorem str_not_ins (z : Str) (t : Tok) (a : Addr) (c : Value) (dd : Option Addr) (sl : Array (Option Value)) :
    Meets (Builtin.«str.__eq__» ⟨[.str z t, .ref a], []⟩) (fun _ R s => s.heap.get? a = some { cls := c, dict := dd, data := .plain, slots := sl } ∧ R (.ok (.ret .notImplemented)) s) :=
  .of_wp fun prog w A R s h => by
    obtain ⟨hp, g, d, tk, os⟩ := s
    obtain ⟨hl, h⟩ := h
    wp_walk using wpAny_load hl
    first | exact ⟨_, rfl, h⟩ | exact h | trace_state
section
variable {X : Cx} {k : Nat} {f : Addr} {E : L2.St → XK} {pos : Pos} {e o : Expr} {ta tb : TE}
theorem rc_text {pins : List (Addr × Obj)} {σ : L2.St} {H : Hp} {s : Shared} {a C dx : Addr} {fs : List (Str × V)} {z : Str} {t : Tok} {Q : Value → Shared → Prop} (c : ObF X.K "__eq__" f) (F : EqNI X.prog X.w X.K X.mg X.base k f) (hr : Room k X.A) (I : Inv X pins σ H s) (oc : OCl X.K C) (ha : H a = some (.ins C dx fs)) (ht : PySem.W.subIn X.K (.type "str") (.ref C) = some false)
    (h : ∀ s', Inv X pins σ H s' → Q (.bool false) s') : wpAny (model X.prog X.w) X.A (richCompare .Eq (.ref a) (.str z t)) Q X.xe s := by
  obtain ⟨_, od, J, _⟩ := inst_of I ha
  have one : wpAny (model X.prog X.w) X.A (tryCompare (.ref a) "__eq__" (.str z t)) (fun r s' => r = none ∧ Inv X pins σ H s') X.xe s := by
    unfold tryCompare
    refine wpAny_bind (PySem.W.ifBound_K I.kIn J (c.at_ C oc) c.fn (wpAny_call (codeAny_mono (F X.A X.stack s H a C dx fs z t hr I.env0 oc ha) fun r s' hq => ?_)))
    obtain ⟨rfl, ce⟩ := hq
    obtain ⟨v, H', I', _, eH⟩ := I.after ce
    subst eH
    exact wpAny_pure ⟨rfl, I'⟩
  simp only [richCompare, cmpInfo_Eq, oneThing_ref]
  refine wpAny_holding (wpAny_bind (wpAny_cRoomFor hr.units0 ?_))
  refine wpAny_bind (J.type.here (wpAny_bind (wpAny_typeOf (typeIs_str s z t) ?_)))
  have two : ∀ s', Inv X pins σ H s' → wpAny (model X.prog X.w) X.A (tryCompare (.str z t) "__eq__" (.ref a)) (fun r s2 => r = none ∧ Inv X pins σ H s2) X.xe s' := fun s' I' => by
    obtain ⟨ox, od', J', hd⟩ := inst_of I' ha
    obtain ⟨c0, dd, dt, sl⟩ := ox
    obtain rfl : dt = .plain := hd
    refine wpAny_tryCompare_declines (typeIs_str s' z t) PySem.F.slot_str_eq_refl ?_
    exact call_meets PySem.F.slot_str_eq_refl (typeIs_str s' z t) PySem.F.entry_str_eq (PySem.F.args_str_eq_2 _ _) (str_not_ins z t a c0 dd sl) ⟨J'.at_, rfl, rfl, I'⟩
  have fin : ∀ s', Inv X pins σ H s' → wpAny (model X.prog X.w) X.A (do
      let r ← tryCompare (.str z t) "__eq__" (.ref a)
      match r with
      | some v => pure v
      | _ => do
        rule "compare.eq-identity"
        let b ← isSame (.ref a) (.str z t)
        pure (Value.bool b)) Q X.xe s' := fun s' I' => by
    refine wpAny_bind (wpAny_mono (two s' I') (fun r s2 q => ?_) fun _ _ e => e)
    obtain ⟨rfl, I2⟩ := q
    exact wpAny_bind (wpAny_rule (wpAny_bind (wpAny_of_eq (rfl : isSame (.ref a) (.str z t) = pure false) (wpAny_pure (h s2 I2)))))
  split
  · refine wpAny_bind ((PySem.W.looks_subIn I.kIn ht).here ?_)
    simp only [Bool.false_eq_true, if_false, Bool.not_false, if_true]
    refine wpAny_bind (wpAny_mono one (fun r s1 q => ?_) fun _ _ e => e)
    obtain ⟨rfl, I1⟩ := q
    exact fin s1 I1
  · rename_i q
    exact absurd (by simp) q
def obS (K : PySem.W.Frag) (vs : List V) (H : Hp) : Prop := ∃ a C dx fs z, vs = [.ref a, .str z] ∧ OCl K C ∧ H a = some (.ins C dx fs)
def tEqS (F : List V → Hp → Prop) (t : TA) : TE := fun σ H Q => t σ H fun vs H1 => F vs H1 ∧ Q (.bl false) H1
theorem pe_obEqS (c : ObF X.K "__eq__" f) (F : EqNI X.prog X.w X.K X.mg X.base k f) (hr : Room k X.A) (ha : PE X e ta) (hb : PE X o tb) (hm : behindInMarks .Eq o = false) : PE X (.Compare e [.Eq] [o] pos) (tEqS (obS X.K) (tCons ta (tCons tb tNil))) := by
  refine ⟨fun pins s σ H Q I h => wpAny_Compare1 (thn (ha.run pins s σ H _ I h) fun v s1 ⟨x, H1, I1, rx, q1⟩ => thn (hb.run pins s1 σ H1 _ I1 q1) fun u s2 ⟨y, H2, I2, ry, q2⟩ => ?_) hm⟩
  obtain ⟨⟨a, C, dx, fs, z, ev, oc, h1⟩, q⟩ := q2
  cases ev
  obtain rfl : v = Value.ref a := rx
  obtain ⟨t, rfl⟩ : ∃ t, u = Value.str z t := ry
  show wpAny _ _ (richCompare .Eq (.ref a) (.str z t)) _ _ _
  exact rc_text c F hr I2 oc h1 (oc.bt "str" (by decide)).2.2 fun s' I' => ⟨.bl false, H2, I', rfl, q⟩
end
def gS : List Rs → Prop
  | [.v (.ob _), .v (.str _)] => True
  | _ => False
theorem gS_v {ds : List D} {l : List Nat} : gS [.v (.ob ds), .v (.str l)] = True := rfl
theorem gS_ok {K : PySem.W.Frag} (U : Addr → Prop) (H0 H : Hp) (σ : L2.St) (ρ : DEnv) (rs : List Rs) (vs : List V) (z : RepRs K U H0 H σ ρ rs vs) (g : gS rs) : obS K vs H := by
  match rs, g with
  | [.v (.ob ds), .v (.str l)], _ =>
    obtain ⟨v, y, rfl, y1, y2⟩ := rs2 z rfl
    obtain ⟨a, C, dx, xs, rfl, oc, ha, _⟩ := ob_at (show Dq K _ H (.ob ds) v from y1)
    have := y2.vflat rfl
    subst this
    exact ⟨a, C, dx, _, _, rfl, oc, ha⟩
def EqS (P : Program) (w : World) (K : PySem.W.Frag) (mgl : Str → Option Value) (base : Heap) : Prop := ∃ f, ObF K "__eq__" f ∧ EqNI P w K mgl base 2 f
def qObEqS (P : CtR) : CtL := fun rs ρ => gS rs ∧ P (.v (.bl false)) ρ
def dObEqS (tr : TAd) : TD := fun ρ P E => tr ρ (qObEqS P) E
theorem w_obEqS {tr : TAd} {ρ : DEnv} {P : CtR} {E : EX} : dObEqS tr ρ P E = tr ρ (qObEqS P) E := rfl
theorem w_qObEqS {ρ : DEnv} {P : CtR} {ds : List D} {l : List Nat} : qObEqS P [.v (.ob ds), .v (.str l)] ρ = P (.v (.bl false)) ρ := by unfold qObEqS; simp [gS]
theorem de_obEqS {X : Cx} {W : WX} {pos : Pos} {e o : Expr} {da db : TD} (c : EqS X.prog X.w X.K X.mg X.base) (hr : Room 2 X.A) (ha : DE X W e da) (hb : DE X W o db) (hm : behindInMarks .Eq o = false := by first | rfl | exact nomark _) : DE X W (.Compare e [.Eq] [o] pos) (dObEqS (dCons da (dCons db dNil))) := by
  obtain ⟨f, c, F⟩ := c
  obtain ⟨t1, p1, r1⟩ := ha
  obtain ⟨t2, p2, r2⟩ := hb
  refine ⟨_, pe_obEqS c F hr p1 p2 hm, fun U σ ρ H P E Q R h k x => ?_⟩
  exact rfa_consG r1 (rfa_consG r2 rfa_nil) U σ ρ H _ E _ R h (fun rs ρ1 vs H1 q A z => ⟨gS_ok _ _ _ _ _ _ _ z q.1, k _ _ _ _ q.2 A (RepF.flat (.bl _) rfl)⟩) x
/-- such a def -/
theorem eqNI_of {P : Program} {w : World} {K : PySem.W.Frag} {mgl : Str → Option Value} {base : Heap} {st : Stmt} {f C : Addr} {fd : FuncData} {els rest : List Stmt} {p1 p2 p3 p4 p5 p6 p7 p8 : Pos} (F : Fun K "__eq__" "Presses.__eq__" st f fd) (S : FnScope ["self", "other"] ["self", "other"] (defScope st))
    (hbody : defBody st = .If (.UnaryOp .Not (.Call (.Name "isinstance" p1) [.Name "other" p2, .Name "Presses" p3] [] p4) p5) [.Return (some (.Name "NotImplemented" p6)) p7] els p8 :: rest) (B : Bi mgl) (hC : mgl "Presses" = some (.ref C)) (hN : mgl "NotImplemented" = none) (oc : OCl K C)
    (ht : PySem.W.kitOne K (.type "str") (.ref C) = some false) (hb : Binds K fd ["self", "other"] []) (hg : ∀ b f cd, ∀ x ∈ ["isinstance", "Presses", "NotImplemented"], (envOfC "Presses.__eq__" (defScope st) b f cd).kindOf x = some .globalImplicit) : EqNI P w K mgl base 2 f := by
  obtain ⟨oc', od, kV, doc, pm, an, cdv, ct, osl, rfl, lk, hcd⟩ := F.ex
  intro A outer s H a C' dx fs z t hr e0 ocl ha
  obtain rfl := oc.uniq ocl
  have KX : K.In s.heap := e0.mod.kin.keeps fun b o e => (e0.bs b o e).1
  have lim : s.heap.NoLimit := e0.mod.nolimit.keeps fun b o e => (e0.bs b o e).1
  have hkind : ∀ y ∈ (["self", "other"] : List Str).zip [Value.ref a, .str z t], (defScope st).names.lookup y.1 = some .local ∨ ((defScope st).names.lookup y.1 = some .cell ∧ ((cellsFrom (s.heap.objs.size + 1) (defScope st).names []).lookup y.1).isSome = true) := fun ⟨n, v⟩ hy => by
    rcases S.par n (List.of_mem_zip hy).1 with q | q
    · exact .inl q
    · exact .inr ⟨q, PySem.W.cellsFrom_some _ _ _ (.inl q)⟩
  have r : Vals [V.ref a, .str z] [Value.ref a, .str z t] := .cons rfl (.cons ⟨t, rfl⟩ .nil)
  have bt := hb s [Value.ref a, .str z t] KX rfl
  simp only [List.append_nil] at bt
  refine codeAny_call_function hr.depth (KX _ _ lk) rfl S.co S.gen rfl (PySem.W.codeRec_of KX hcd) (bt _ _ _ _ ?_)
  refine wpAny_newFunctionEnv_cells S.kind hkind fun env he s1 x => ?_
  subst he
  refine ⟨lim.keeps x.toInCall.keep, codeAny_func ?_⟩
  have I : Inv (cxOf (L2N.CX P w) P w K mgl base ["self", "other"] "Presses.__eq__" (defScope st) f cdv A outer s H (fun _ _ _ => False)) [] (start ["self", "other"] [V.ref a, .str z]) H s1 := inv_start S hr.hd e0 rfl r x
  show wpAny _ _ (execs (defBody st) _) _ _ s1
  rw [hbody]
  have T := pt_not (X := (cxOf (L2N.CX P w) P w K mgl base ["self", "other"] "Presses.__eq__" (defScope st) f cdv A outer s H (fun _ _ _ => False)).nox) (a := .Call (.Name "isinstance" p1) [.Name "other" p2, .Name "Presses" p3] [] p4) (pos := p5) (pt_val (pe_callB (X := (cxOf (L2N.CX P w) P w K mgl base ["self", "other"] "Presses.__eq__" (defScope st) f cdv A outer s H (fun _ _ _ => False)).nox) (p := p1) (pos := p4) call_isi (hg _ _ _ "isinstance" (by decide)) B.isinstance (by decide +kernel : bootBuiltins "isinstance" = some (.builtin "isinstance")) (pa_cons (pe_var (i := 1) (x := "other") rfl (S.par "other" (by decide) |>.imp id .inl)) (pa_cons (pe_glob (v := .ref C) (hg _ _ _ "Presses" (by decide)) hC rfl) pa_nil))))
  refine wpAny_execs_cons (wpAny_If (wpAny_mono (T.run [] s1 _ H (fun b H' => b = true ∧ H' = H) (I.wish _) ⟨V.str z, rfl, V.str z, V.ref C, Value.type "str", Value.ref C, false, rfl, ClsV.own C, TyX.base (TyOf.str z), ht, false, rfl, rfl, rfl⟩) (fun b s2 hb => ?_) fun e s2 c => ?_))
  · obtain ⟨H', I2, rfl, rfl⟩ := hb
    refine wpAny_execs_cons (wpAny_Return_some (ld_blt I2 (hg _ _ _ "NotImplemented" (by decide)) hN (by decide +kernel : bootBuiltins "NotImplemented" = some .notImplemented) ?_))
    exact ⟨rfl, .non, _, I2.os, I2.bare, I2.base, I2.hok, rfl, rfl⟩
  · exact False.elim c
/-! == as a test -/
section
variable {X : Cx} {CX : CXT} {k : Nat} {f : Addr} {fd : FuncData} {ps : List Str} {sp : Sp} {E : L2.St → XK} {pos : Pos} {e o : Expr} {ta tb : TE}
theorem pt_obEq (c : ObF X.K "__eq__" f) (F : FnOk X.prog X.w X.K X.mg X.base CX k f fd ps sp) (hr : Room k X.A) (hb : Binds X.K fd ps []) (hx : ∀ σ, PassesAt CX X σ (E σ)) (ha : PE X e ta) (hb' : PE X o tb) (hm : behindInMarks .Eq o = false) :
    PT X (.Compare e [.Eq] [o] pos) (tTest (tOb (ob2 X.K) sp E (tCons ta (tCons tb tNil)))) := by
  refine ⟨fun pins s σ H Q I h => wpAny_isTrue_Compare1 (thn (ha.run pins s σ H _ I h) fun v s1 ⟨x, H1, I1, rx, q1⟩ => thn (hb'.run pins s1 σ H1 _ I1 q1) fun u s2 ⟨y, H2, I2, ry, q2⟩ => ?_) hm⟩
  obtain ⟨⟨a, b, C, dx, fs, dy, gs, ev, oc, h1, h2⟩, q⟩ := q2
  cases ev
  obtain rfl : v = Value.ref a := rx
  obtain rfl : u = Value.ref b := ry
  obtain ⟨_, od, J, _⟩ := inst_of I2 h1
  obtain ⟨_, od2, J2, _⟩ := inst_of I2 h2
  obtain ⟨m, hF⟩ := I2.fr
  have core : wpAny (model X.prog X.w) X.A (richCompare .Eq (.ref a) (.ref b)) (EP X pins σ fun z H' => ∃ k, z = .bl k ∧ Q k H') X.xe s2 := by
    refine PySem.W.cmp_K (op := .Eq) (tb := .ref C) hr.units0 hF I2.ok.mod.kin J J2.type (by simp [PySem.W.notFirst]) (c.at_ C oc) c.fn ?_
    exact wpAny_mono (run_fnS (us := [.ref a, .ref b]) (vs := [.ref a, .ref b]) F hr hb (hx σ) I2 (.cons rfl (.cons rfl .nil)) q) (fun u s' hu => back_of hu) fun _ _ e => e
  refine thn core fun c s3 ⟨z, H3, I3, r3, k, e, q3⟩ => ?_
  subst e
  cases r3
  exact wpAny_truthy_bool ⟨H3, I3, q3⟩
theorem pt_obEqS (c : ObF X.K "__eq__" f) (F : EqNI X.prog X.w X.K X.mg X.base k f) (hr : Room k X.A) (ha : PE X e ta) (hb : PE X o tb) (hm : behindInMarks .Eq o = false) : PT X (.Compare e [.Eq] [o] pos) (tTest (tEqS (obS X.K) (tCons ta (tCons tb tNil)))) := by
  refine ⟨fun pins s σ H Q I h => wpAny_isTrue_Compare1 (thn (ha.run pins s σ H _ I h) fun v s1 ⟨x, H1, I1, rx, q1⟩ => thn (hb.run pins s1 σ H1 _ I1 q1) fun u s2 ⟨y, H2, I2, ry, q2⟩ => ?_) hm⟩
  obtain ⟨⟨a, C, dx, fs, z, ev, oc, h1⟩, q⟩ := q2
  cases ev
  obtain rfl : v = Value.ref a := rx
  obtain ⟨t, rfl⟩ : ∃ t, u = Value.str z t := ry
  show wpAny _ _ (richCompare .Eq (.ref a) (.str z t)) _ _ _
  refine rc_text c F hr I2 oc h1 (oc.bt "str" (by decide)).2.2 fun s' I' => ?_
  obtain ⟨k, e, q⟩ := q
  cases e
  exact wpAny_truthy_bool ⟨H2, I', q⟩
end
section
variable {X : Cx} {W : WX} {k : Nat} {S : TD} {pos : Pos} {e o : Expr} {da db : TD}
theorem dt_obEq (c : OCal X.prog X.w X.K X.mg X.base k 2 "__eq__" S) (tk : L2N.Takes X W) (hr : Room k X.A) (ha : DE X W e da) (hb : DE X W o db) (hm : behindInMarks .Eq o = false := by first | rfl | exact nomark _) : DT X W (.Compare e [.Eq] [o] pos) (dTest (dCall 2 S (dEnd g2 (dCons da (dCons db dNil))))) := by
  obtain ⟨f, fd, ps, F, c, bi⟩ := c
  obtain ⟨t1, p1, r1⟩ := ha
  obtain ⟨t2, p2, r2⟩ := hb
  exact ⟨_, pt_obEq (E := fun σ => WE W σ) c F hr bi (fun σ => L2N.passAt tk σ) p1 p2 hm, rft_test (rf_call (rfa_end g2_ok (rfa_consG r1 (rfa_consG r2 rfa_nil))))⟩
theorem dt_obEqS (c : EqS X.prog X.w X.K X.mg X.base) (hr : Room 2 X.A) (ha : DE X W e da) (hb : DE X W o db) (hm : behindInMarks .Eq o = false := by first | rfl | exact nomark _) : DT X W (.Compare e [.Eq] [o] pos) (dTest (dObEqS (dCons da (dCons db dNil)))) := by
  obtain ⟨f, c, F⟩ := c
  obtain ⟨t1, p1, r1⟩ := ha
  obtain ⟨t2, p2, r2⟩ := hb
  refine ⟨_, pt_obEqS c F hr p1 p2 hm, rft_test fun U σ ρ H P E Q R h k x => ?_⟩
  exact rfa_consG r1 (rfa_consG r2 rfa_nil) U σ ρ H _ E _ R h (fun rs ρ1 vs H1 q A z => ⟨gS_ok _ _ _ _ _ _ _ z q.1, k _ _ _ _ q.2 A (RepF.flat (.bl _) rfl)⟩) x
end
/-! x or y, x None or a tuple that is not empty -/
def qOrT (tb : TD) (P : CtR) (E : EX) : CtR := fun r ρ => match r with
  | .v .non => tb ρ P E
  | .v (.tup (d :: ds)) => P (.v (.tup (d :: ds))) ρ
  | _ => False
def dOrT (ta tb : TD) : TD := fun ρ P E => ta ρ (qOrT tb P E) E
theorem w_orT {ta tb : TD} {ρ : DEnv} {P : CtR} {E : EX} : dOrT ta tb ρ P E = ta ρ (qOrT tb P E) E := rfl
theorem w_qOrT0 {tb : TD} {ρ : DEnv} {P : CtR} {E : EX} : qOrT tb P E (.v .non) ρ = tb ρ P E := rfl
theorem w_qOrT1 {tb : TD} {ρ : DEnv} {P : CtR} {E : EX} {d : D} {ds : List D} : qOrT tb P E (.v (.tup (d :: ds))) ρ = P (.v (.tup (d :: ds))) ρ := rfl
theorem de_orT {X : Cx} {W : WX} {a b : Expr} {ta tb : TD} {rest : List Expr} {pos : Pos} (ha : DE X W a ta) (hb : DE X W (.BoolOp .Or (b :: rest) pos) tb) : DE X W (.BoolOp .Or (a :: b :: rest) pos) (dOrT ta tb) := by
  obtain ⟨sa, pa, ra⟩ := ha
  obtain ⟨sb, pb, rb⟩ := hb
  refine ⟨_, pe_orT pa pb, fun U σ ρ H P E Q R h k x => ?_⟩
  refine ra U σ ρ H _ E _ R h (fun r ρ1 v1 H1 h1 a1 q1 => ?_) x
  unfold qOrT at h1
  split at h1
  · have q2 := q1.val
    simp only [RepR, Dq] at q2
    subst q2
    refine ⟨false, rfl, ?_⟩
    exact rb U σ ρ1 H1 P E Q a1.rep h1 (fun r ρ' v H' p a q => k r ρ' v H' p (a1.trans a) (q.bk a1.xt)) (x.step a1)
  · rename_i d ds
    have q2 : Dq X.K _ H1 (.tup (d :: ds)) v1 := q1.val
    simp only [Dq] at q2
    obtain ⟨a, xs, rfl, lt, dq⟩ := q2
    simp only [Dqs] at dq
    obtain ⟨v, r, rfl, _, _⟩ := dq
    refine ⟨true, .inr (.inl ⟨v :: r, lt.sq, rfl⟩), ?_⟩
    exact k _ _ _ _ h1 a1 q1
  · exact h1.elim
/-! a new one: Presses(a, b) -/
/-- the def __init__ -/
def spNew (K : PySem.W.Frag) (C : Addr) (pre : D → D → Prop) (out : D → D → Sum Nat (List D)) : Sp := fun vs H Q E => ∃ (x dx : Addr) (u v : V) (a b : D) (O : Addr → Prop), vs = [.ref x, u, v] ∧ H x = some (.ins C dx []) ∧ O x ∧ (∀ y, O y → ∃ o, H y = some o) ∧ Dq K O H a u ∧ Dq K O H b v ∧ pre a b ∧
  (∀ c, out a b = .inl c → ∀ A H', IsCls K c A → (∀ y o, y ≠ x → H y = some o → H' y = some o) → E (.ref A) none H') ∧
  ∀ ds, out a b = .inr ds → ∀ xs H', (∀ y o, y ≠ x → H y = some o → H' y = some o) → H' x = some (.ins C dx (obN.zip xs)) → xs.length = 3 → Dqs K O H' ds xs → Q .non H'
def ObNew (P : Program) (w : World) (K : PySem.W.Frag) (mgl : Str → Option Value) (base : Heap) (pre : D → D → Prop) (out : D → D → Sum Nat (List D)) : Prop :=
  ∃ (C f : Addr) (fd : FuncData), mgl "Presses" = some (.ref C) ∧ OCl K C ∧ Mk K C f ∧ FnOk P w K mgl base (L2N.CX P w) 3 f fd ["self", "kind", "row"] (spNew K C pre out) ∧ Binds K fd ["self", "kind", "row"] []
def qNew2 (out : D → D → Sum Nat (List D)) (P : CtR) (E : EX) (ρ : DEnv) (a b : D) : Prop := match out a b with
  | .inl c => E c ρ
  | .inr ds => P (.v (.ob ds)) ρ
def qObNew (pre : D → D → Prop) (out : D → D → Sum Nat (List D)) (P : CtR) (E : EX) : CtL := fun rs ρ => match rs with
  | [.v a, .v b] => pre a b ∧ qNew2 out P E ρ a b
  | _ => False
def dObNew (pre : D → D → Prop) (out : D → D → Sum Nat (List D)) (tr : TAd) : TD := fun ρ P E => tr ρ (qObNew pre out P E) E
theorem w_obNew {pre : D → D → Prop} {out : D → D → Sum Nat (List D)} {tr : TAd} {ρ : DEnv} {P : CtR} {E : EX} : dObNew pre out tr ρ P E = tr ρ (qObNew pre out P E) E := rfl
theorem w_qObNew {pre : D → D → Prop} {out : D → D → Sum Nat (List D)} {ρ : DEnv} {P : CtR} {E : EX} {a b : D} : qObNew pre out P E [.v a, .v b] ρ = (pre a b ∧ qNew2 out P E ρ a b) := rfl
theorem qObNew_inv {pre : D → D → Prop} {out : D → D → Sum Nat (List D)} {ρ : DEnv} {P : CtR} {E : EX} {rs : List Rs} (h : qObNew pre out P E rs ρ) : ∃ a b, rs = [.v a, .v b] ∧ pre a b ∧ qNew2 out P E ρ a b := by
  unfold qObNew at h
  split at h
  · exact ⟨_, _, rfl, h⟩
  · exact h.elim
theorem de_obNew {X : Cx} {W : WX} {pre : D → D → Prop} {out : D → D → Sum Nat (List D)} {a b : Expr} {tr : TAd} {p pos : Pos} (c : ObNew X.prog X.w X.K X.mg X.base pre out) (tk : L2N.Takes X W) (hr : Room 4 X.A) (ha : DA X W [a, b] tr) (hg : Gl X "Presses" := by rfl)
    (he : starEach [a, b] X.env = (false, eval a X.env) :: starEach [b] X.env := by rfl) (hpl : (backTo pos (starEach [b] X.env)).any (·.1) = false := by rfl) : DE X W (.Call (.Name "Presses" p) [a, b] [] pos) (dObNew pre out tr) := by
  obtain ⟨C, f, fd, hC, oc, M, F, bi⟩ := c
  obtain ⟨t, pa, ra⟩ := ha
  refine ⟨_, pe_makeS M F hr hg hC bi (E := fun σ => WE W σ) (fun σ => L2N.passAt tk σ) pa (by decide) he hpl, fun U σ ρ H P E Q R h k x => ?_⟩
  refine ra U σ ρ H _ E _ R h (fun rs ρ1 vs H1 q A1 z => ?_) x
  obtain ⟨d1, d2, rfl, hp, q⟩ := qObNew_inv q
  obtain ⟨u, v, rfl, y1, y2⟩ := rs2 z rfl
  intro y dy ny ndy ne
  have g : ∀ a o, H1 a = some o → upd (upd H1 dy (.own y)) y (.ins C dy []) a = some o := fun a o e => by rw [upd_ne (ne_of_none e ny), upd_ne (ne_of_none e ndy)]; exact e
  have m : Mo (Ow U ρ1) (fun a => Ow U ρ1 a ∨ a = y) H1 (upd (upd H1 dy (.own y)) y (.ins C dy [])) := ⟨fun a o _ e => g a o e, fun a h => h.imp id fun e => by rw [e]; exact ny⟩
  refine ⟨y, dy, u, v, d1, d2, fun a => Ow U ρ1 a ∨ a = y, rfl, upd_same, .inr rfl, fun a ha => ?_, m.dq _ _ y1, m.dq _ _ y2, hp, fun c hc A H' hA keep => ?_, fun ds hds xs H' keep hy hl dq => ⟨rfl, ?_⟩⟩
  · rcases ha with ha | ha
    · obtain ⟨o, e⟩ := A1.rep.sm ha
      exact ⟨o, g a o e⟩
    · exact ⟨_, by rw [ha]; exact upd_same⟩
  · unfold qNew2 at q
    rw [hc] at q
    have A2 := A1.rep.grow (H' := H') fun a o e => keep a o (ne_of_none e ny) (g a o e)
    exact x c ρ1 H' q (A1.trans A2) A hA
  · unfold qNew2 at q
    rw [hds] at q
    have A2 := A1.rep.grow (H' := H') fun a o e => keep a o (ne_of_none e ny) (g a o e)
    refine k _ _ _ _ q (A1.trans A2) ⟨?_, trivial, fun _ _ e => nomatch e⟩
    show Dq X.K (Ow U ρ1) H' (.ob ds) (.ref y)
    simp only [Dq]
    refine ⟨y, xs, rfl, ⟨C, dy, oc, hy, fun hO => ?_, hl⟩, (⟨fun _ _ _ e => e, fun a e => .inl (.inl e)⟩ : Mo (fun a => Ow U ρ1 a ∨ a = y) (Ow U ρ1) H' H').dqs _ _ dq⟩
    obtain ⟨o, e⟩ := A1.rep.sm hO
    rw [ny] at e
    cases e
end DL

namespace My
open PySem L2 DL HX
def topS (i : Nat) : Stmt := PySem.Challenge.pw_closetabs_k61_rows_as_values.main.body.getD i (.Pass ⟨0, 0, 0, 0⟩)
section
variable [iw : WW] {P : Program} {K : PySem.W.Frag} {mgl : Str → Option Value} {base : Heap}

def rowB (l : List Nat) : Bool := decide (l.length ≤ 40) && l.all fun c => decide (c ∈ [99, 110, 112])
def kRight : List Nat := [114, 105, 103, 104, 116]
def kLeft : List Nat := [108, 101, 102, 116]
def kindB (l : List Nat) : Bool := decide (l = kRight) || decide (l = kLeft)
def effD (k : Bool) (r : List Nat) : D := .tup [.tup ((MA.eff k r).1.map D.int), .int (MA.eff k r).2]
theorem primes : ∀ d ∈ ([.int 2147483647, .int 2147483629, .int 2147483587, .int 2147483579, .int 2147483563, .int 2147483549, .int 2147483543, .int 2147483497] : List D), ∃ z : Int, d = .int z ∧ (0 < z ∧ z < 4294967296) := by
  intro d hd
  simp only [List.mem_cons, List.not_mem_nil, or_false] at hd
  rcases hd with rfl | rfl | rfl | rfl | rfl | rfl | rfl | rfl <;> exact ⟨_, rfl, by omega⟩
def Src (z : Int) : Prop := 0 < z ∧ z < 4294967296
def Row (r : List Nat) : Prop := ∀ c ∈ r, c = 99 ∨ c = 110 ∨ c = 112
theorem Row.app {a b : List Nat} (h : Row a) (h' : Row b) : Row (a ++ b) := fun c hc => (List.mem_append.mp hc).elim (h c) (h' c)
theorem Row.take {a : List Nat} (h : Row a) (n : Nat) : Row (a.take n) := fun c hc => h c (List.mem_of_mem_take hc)
theorem Row.drop {a : List Nat} (h : Row a) (n : Nat) : Row (a.drop n) := fun c hc => h c (List.mem_of_mem_drop hc)
theorem row_map : ∀ {l : List Nat}, (chs l).filterMap (fun d => match d with | .str [c] => some (.bl (decide (c ∈ [99, 110, 112]))) | _ => none) = (l.map fun c => decide (c ∈ [99, 110, 112])).map D.bl
  | [] => rfl
  | c :: l => by
    show D.bl (decide (c ∈ [99, 110, 112])) :: (chs l).filterMap _ = _ :: _
    rw [row_map]
theorem rowB_of {r : List Nat} (h : Row r) (hl : r.length ≤ 40) : rowB r = true := by
  unfold rowB
  rw [Bool.and_eq_true, decide_eq_true_eq]
  refine ⟨hl, List.all_eq_true.mpr fun c hc => ?_⟩
  rcases h c hc with e | e | e <;> subst e <;> decide
theorem rowB_len {r : List Nat} (h : rowB r = true) : r.length ≤ 40 := by
  unfold rowB at h
  rw [Bool.and_eq_true, decide_eq_true_eq] at h
  exact h.1
theorem gd_eff {k : Bool} {r : List Nat} : gd (effD k r) := by
  unfold gd effD
  simp only [okD, okDs, okDs_ints, dep, deps, deps_ints, Bool.and_self]
  exact ⟨trivial, by decide⟩
theorem eqv_eff {k : Bool} {r s : List Nat} : eqv (effD k r) (effD k s) = decide (MA.eff k r = MA.eff k s) := by
  unfold effD
  simp only [eqv, eqvs, eqvs_ints, Bool.and_true]
  rw [← Bool.decide_and]
  congr 1
  rw [Prod.ext_iff]
theorem kind_dec {kd : List Nat} {d : Decidable (kd = kRight)} : @decide (kd = [114, 105, 103, 104, 116]) (instDecidableEqList _ _) = @decide (kd = kRight) d := by congr
def cpD (k : Bool) (n p m : Int) : D := if m = 0 then .tup [.int p, .int p, .int p] else if k = true then .tup [.int (min p (n - m)), .int (min p (n - m) + m), .int (if min p (n - m) + m < n then min p (n - m) + m else min p (n - m) - 1)]
  else .tup [.int (max (p + 1) m - m), .int (max (p + 1) m), .int (if m < max (p + 1) m then max (p + 1) m - m - 1 else max (p + 1) m)]

def isIntD (d : D) (lo hi : Int) : Bool := match d with
  | .int i => decide (lo ≤ i) && decide (i ≤ hi)
  | _ => false
theorem isIntD_int {i lo hi : Int} : isIntD (.int i) lo hi = (decide (lo ≤ i) && decide (i ≤ hi)) := rfl
theorem isIntD_t {i lo hi : Int} (h1 : lo ≤ i) (h2 : i ≤ hi) : isIntD (.int i) lo hi = true := by rw [isIntD_int, decide_eq_true h1, decide_eq_true h2]; rfl
theorem isIntD_f {i lo hi : Int} (h : ¬ (lo ≤ i ∧ i ≤ hi)) : isIntD (.int i) lo hi = false := by
  rw [isIntD_int]
  by_cases h1 : lo ≤ i
  · rw [decide_eq_true h1, decide_eq_false fun z => h ⟨h1, z⟩]; rfl
  · rw [decide_eq_false h1]; rfl
theorem isIntD_ex {d : D} {lo hi : Int} (h : isIntD d lo hi = true) : ∃ i : Int, d = .int i ∧ lo ≤ i ∧ i ≤ hi := by
  cases d with
  | int i =>
    rw [isIntD_int, Bool.and_eq_true, decide_eq_true_eq, decide_eq_true_eq] at h
    exact ⟨i, rfl, h.1, h.2⟩
  | _ => cases h

def cpOk (dn dp dm : D) : Bool := match dn with
  | .int n => isIntD dn 2 1000000000000 && isIntD dp 0 (n - 1) && isIntD dm 0 (n - 1)
  | _ => false
theorem cpOk_ex {dn dp dm : D} (h : cpOk dn dp dm = true) : ∃ n p m : Int, dn = .int n ∧ dp = .int p ∧ dm = .int m ∧ 2 ≤ n ∧ n ≤ 1000000000000 ∧ 0 ≤ p ∧ p < n ∧ 0 ≤ m ∧ m < n := by
  cases dn with
  | int n =>
    unfold cpOk at h
    dsimp only at h
    simp only [Bool.and_eq_true] at h
    obtain ⟨⟨h1, h2⟩, h3⟩ := h
    obtain ⟨n', e1, a1, a2⟩ := isIntD_ex h1
    cases e1
    obtain ⟨p, rfl, a3, a4⟩ := isIntD_ex h2
    obtain ⟨m, rfl, a5, a6⟩ := isIntD_ex h3
    exact ⟨n, p, m, rfl, rfl, rfl, a1, a2, a3, by omega, a5, by omega⟩
  | _ => cases h
def ABC : List Nat := [97, 98, 99, 100, 101, 102, 103, 104, 105, 106, 107, 108, 109, 110, 111, 112, 113, 114, 115, 116, 117, 118, 119, 120, 121, 122]
theorem abc_ok : ABC.Nodup ∧ ABC.length = 26 ∧ ∀ c ∈ ABC, 97 ≤ c ∧ c ≤ 122 := by decide +kernel
theorem cons_erase {ls : List Nat} {n : Nat} (hn : n < ls.length) : (ls[n] :: ls.eraseIdx n).Perm ls := by
  have e : ls = ls.take n ++ ls[n] :: ls.drop (n + 1) := by rw [← List.drop_eq_getElem_cons hn, List.take_append_drop]
  have e2 : ls.eraseIdx n = ls.take n ++ ls.drop (n + 1) := List.eraseIdx_eq_take_drop_succ ls n
  rw [e2]
  refine List.perm_middle.symm.trans ?_
  rw [← e]
theorem pop_ok {f ls : List Nat} {n c : Nat} (h : ls[n]? = some c) (nd : (f ++ ls).Nodup) (al : ∀ x ∈ f ++ ls, 97 ≤ x ∧ x ≤ 122) : ((f ++ [c]) ++ ls.eraseIdx n).Nodup ∧ (∀ x ∈ (f ++ [c]) ++ ls.eraseIdx n, 97 ≤ x ∧ x ≤ 122) ∧ (ls.eraseIdx n).length + 1 = ls.length := by
  obtain ⟨hn, e⟩ := List.getElem?_eq_some_iff.mp h
  have p : ((f ++ [c]) ++ ls.eraseIdx n).Perm (f ++ ls) := by
    rw [List.append_assoc]
    refine List.Perm.append_left f ?_
    rw [← e]
    exact cons_erase hn
  refine ⟨p.symm.nodup nd, fun x hx => al x (p.mem_iff.mp hx), ?_⟩
  rw [List.length_eraseIdx]
  simp [hn]
  omega
theorem q1_ : (([99] : List Nat) = [110]) = False := by simp
theorem q2_ : (([99] : List Nat) = [112]) = False := by simp
theorem q3_ : (([112] : List Nat) = [110]) = False := by simp
theorem drop_0 {t : List Nat} {i : Nat} : (t.drop i)[0]? = t[i]? := by rw [List.getElem?_drop]; rfl
theorem take_0 {t : List Nat} : (t.take 1)[0]? = t[0]? := List.getElem?_take_of_lt (by omega)
theorem app_0 {u v : List Nat} : (u ++ v)[0]? = if u = [] then v[0]? else u[0]? := by
  cases u <;> simp
theorem near_r {t : List Nat} {a : Nat} (ha : a < t.length) (h1 : t.length ≠ 1) : ((t.drop (a + 1)).take 1 ++ (t.take a).drop ((t.take a).length - 1))[0]? = (t.eraseIdx a)[min a (t.length - 2)]? := by
  have lt : (t.take a).length = a := by rw [List.length_take]; omega
  rw [app_0, List.getElem?_eraseIdx, take_0, drop_0, drop_0, lt]
  by_cases h : a + 1 < t.length
  · have e : ¬ (t.drop (a + 1)).take 1 = [] := fun e => by
      have := congrArg List.length e
      simp at this; omega
    rw [if_neg e, Nat.min_eq_left (by omega), if_neg (by omega)]
  · have e : (t.drop (a + 1)).take 1 = [] := by rw [List.drop_of_length_le (by omega)]; rfl
    have e2 : min a (t.length - 2) = a - 1 := by omega
    rw [if_pos e, e2, if_pos (by omega), List.getElem?_take_of_lt (by omega)]
theorem near_l {t : List Nat} {a : Nat} (ha : a < t.length) (h1 : t.length ≠ 1) : ((t.take a).drop ((t.take a).length - 1) ++ (t.drop (a + 1)).take 1)[0]? = (t.eraseIdx a)[a - 1]? := by
  have lt : (t.take a).length = a := by rw [List.length_take]; omega
  rw [app_0, List.getElem?_eraseIdx, take_0, drop_0, drop_0, lt]
  by_cases h : a = 0
  · have e : (t.take a).drop (a - 1) = [] := by rw [h]; rfl
    rw [if_pos e, if_neg (by omega)]
    have : a - 1 + 1 = a + 1 := by omega
    rw [this]
  · have e : ¬ (t.take a).drop (a - 1) = [] := fun e => by
      have := congrArg List.length e
      rw [List.length_drop, lt] at this
      simp only [List.length_nil] at this
      omega
    rw [if_neg e, if_pos (by omega), List.getElem?_take_of_lt (by omega)]
theorem er_nil {t : List Nat} {a : Nat} (ha : a < t.length) : (t.take a ++ t.drop (a + 1) = []) ↔ t.length = 1 := by
  constructor
  · intro e
    have := congrArg List.length e
    rw [List.length_append, List.length_take, List.length_drop] at this
    simp only [List.length_nil] at this
    omega
  · intro e
    have : a = 0 := by omega
    subst this
    rw [List.drop_of_length_le (by omega)]; rfl
theorem ring_n {t : List Nat} {a c0 : Nat} (ha : a < t.length) (h0 : t[0]? = some c0) : (t ++ [c0])[a + 1]? = t[if a + 1 = t.length then 0 else a + 1]? := by
  by_cases h : a + 1 = t.length
  · rw [if_pos h, h0, List.getElem?_append_right (by omega), h]; simp
  · rw [if_neg h, List.getElem?_append_left (by omega)]
theorem ring_p {t : List Nat} {a c0 : Nat} (ha : a < t.length) (h0 : t[t.length - 1]? = some c0) : ([c0] ++ t)[a]? = t[if a = 0 then t.length - 1 else a - 1]? := by
  by_cases h : a = 0
  · rw [if_pos h, h0, h]; rfl
  · obtain ⟨x, rfl⟩ : ∃ x, a = x + 1 := ⟨a - 1, by omega⟩
    rw [if_neg h]; rfl
theorem rgD_succ {a : Int} {n : Nat} : rgD a (n + 1) = .int a :: rgD (a + 1) n := by
  unfold rgD
  rw [List.range_succ_eq_map, List.map_cons, List.map_map]
  congr 1
  · simp
  · apply List.map_congr_left
    intro x _
    simp only [Function.comp, D.int.injEq]
    omega
theorem ent_get {l : List Nat} {i : Nat} {d : D} : (enD 0 (chs l))[i]? = some d ↔ ∃ c, l[i]? = some c ∧ d = .tup [.int (i : Nat), .str [c]] := by
  rw [enD_get]
  unfold chs
  rw [List.getElem?_map]
  cases l[i]? with
  | none => simp
  | some c => simp [eq_comm]
theorem gone_eq {f : D → Option D} {lo hi : Nat} : ∀ (l : List Nat) (k : Nat), (∀ (i c : Nat), l[i]? = some c → f (.tup [.int ((k + i : Nat) : Int), .str [c]]) = if lo ≤ k + i ∧ k + i < hi then some (.int ((k + i : Nat) : Int)) else none) →
    (enD k (chs l)).filterMap f = rgD ((max k lo : Nat) : Int) (min (k + l.length) hi - max k lo)
  | [], k, _ => by
    have e : min (k + 0) hi - max k lo = 0 := by omega
    show ([] : List D) = _
    rw [show ([] : List Nat).length = 0 from rfl, e]; rfl
  | c :: l, k, h => by
    have h0 := h 0 c rfl
    have ih := gone_eq (f := f) (lo := lo) (hi := hi) l (k + 1) fun i c' hi' => by
      have := h (i + 1) c' (by simpa using hi')
      rw [show k + (i + 1) = k + 1 + i by omega] at this
      exact this
    show (D.tup [.int (k : Int), .str [c]] :: enD (k + 1) (chs l)).filterMap f = _
    rw [List.filterMap_cons]
    rw [Nat.add_zero] at h0
    rw [h0, ih]
    have el : (c :: l).length = l.length + 1 := rfl
    rw [el]
    by_cases q : lo ≤ k ∧ k < hi
    · rw [if_pos q]
      dsimp only
      have e1 : max k lo = k := by omega
      have e2 : max (k + 1) lo = k + 1 := by omega
      have e3 : min (k + (l.length + 1)) hi - k = (min (k + 1 + l.length) hi - (k + 1)) + 1 := by omega
      rw [e1, e2, e3, rgD_succ]
      rfl
    · rw [if_neg q]
      dsimp only
      by_cases q2 : k < lo
      · have e1 : max k lo = lo := by omega
        have e2 : max (k + 1) lo = lo := by omega
        rw [e1, e2, show k + 1 + l.length = k + (l.length + 1) by omega]
      · have e3 : min (k + (l.length + 1)) hi - max k lo = 0 := by omega
        have e4 : min (k + 1 + l.length) hi - max (k + 1) lo = 0 := by omega
        rw [e3, e4]; rfl
theorem t3 {a b c a' b' c' : Int} (h1 : a = a') (h2 : b = b') (h3 : c = c') : D.tup [.int a, .int b, .int c] = .tup [.int a', .int b', .int c'] := by rw [h1, h2, h3]
theorem cp_eq {k : Bool} {n p m : Nat} (hp : p < n) (hm : m < n) : cpD k n p m = .tup [.int (MA.cLo k n p m : Nat), .int (MA.cHi k n p m : Nat), .int (MA.cAc k n p m : Nat)] := by
  unfold cpD MA.cAc MA.cLo MA.cHi
  by_cases h0 : m = 0
  · subst h0; rfl
  · rw [if_neg (by omega)]
    cases k with
    | true =>
      simp only [h0, ↓reduceIte]
      refine t3 ?_ ?_ ?_ <;> (repeat' split) <;> omega
    | false =>
      simp only [h0, ↓reduceIte, Bool.false_eq_true]
      refine t3 ?_ ?_ ?_ <;> (repeat' split) <;> omega
theorem at_rg {a i : Int} {n j : Nat} {P : CtR} {ρ : DEnv} (hi : i = (j : Int)) (hj : j < n) (h : P (.v (.int (a + (j : Nat)))) ρ) : qAt i P ρ (rgD a n) := ⟨_, by rw [hi]; exact atI_nat (rgD_get.mpr ⟨hj, rfl⟩), h⟩
theorem last_rg {a : Int} {n m : Nat} {P : CtR} {ρ : DEnv} (hn : n = m + 1) (h : P (.v (.int (a + (m : Nat)))) ρ) : qAt (-1) P ρ (rgD a n) := ⟨_, atI_last (n := m) (by rw [rgD_len, hn]) (rgD_get.mpr ⟨by omega, rfl⟩), h⟩
theorem rep_two {a : Addr} {d : D} {ρ : DEnv} {P : CtR} (h : ∀ p, P (.f p [d, d]) ρ) : oRep (.f a [d]) (.v (.int 2)) ρ P := ⟨[d], 2, rfl, rfl, by omega, by omega, by simp, h⟩
theorem gd_room {i j : Int} : gd (.tup [.int i, .int j]) := ⟨rfl, by simp [dep, deps]⟩
theorem gd_3 {a b c : Int} : gd (.tup [.int a, .int b, .int c]) := ⟨rfl, by simp [dep, deps]⟩
theorem gd_rg {a : Int} {n : Nat} : gd (.lst (rgD a n)) := by
  have e : rgD a n = ((List.range n).map fun k => a + (k : Nat)).map D.int := by unfold rgD; rw [List.map_map]; rfl
  rw [e]
  exact ⟨by simp only [okD, okDs_ints], by simp only [dep, deps_ints]; decide⟩
theorem eqv_rg {a : Int} {n : Nat} : eqv (.lst (rgD a n)) (.lst (rgD a n)) = true := by
  have e : rgD a n = ((List.range n).map fun k => a + (k : Nat)).map D.int := by unfold rgD; rw [List.map_map]; rfl
  rw [e]
  simp only [eqv, eqvs_ints, decide_true]
def fLo (k : Bool) (n p m : Int) : Int := if m = 0 then p else if k = true then min p (n - m) else max (p + 1) m - m
def fHi (k : Bool) (n p m : Int) : Int := if m = 0 then p else if k = true then min p (n - m) + m else max (p + 1) m
def fAc (k : Bool) (n p m : Int) : Int := if m = 0 then p else if k = true then (if min p (n - m) + m < n then min p (n - m) + m else min p (n - m) - 1) else (if m < max (p + 1) m then max (p + 1) m - m - 1 else max (p + 1) m)
theorem cp_f {k : Bool} {n p m : Int} : cpD k n p m = .tup [.int (fLo k n p m), .int (fHi k n p m), .int (fAc k n p m)] := by
  unfold cpD fLo fHi fAc
  by_cases h : m = 0
  · simp only [h, ↓reduceIte]
  · cases k <;> simp only [h, ↓reduceIte, Bool.false_eq_true]
theorem cp_facts {k : Bool} {n p m : Int} (h2 : 2 ≤ n) (p0 : 0 ≤ p) (p1 : p < n) (m0 : 0 ≤ m) (m1 : m + 1 < n) :
    fHi k n p m - fLo k n p m = m ∧ 0 ≤ fLo k n p m ∧ fHi k n p m ≤ n ∧ (0 < m → fLo k n p m ≤ p ∧ p < fHi k n p m) ∧ (m = 0 → fAc k n p m = p) ∧ (m ≠ 0 → fAc k n p m = fLo k n p m - 1 ∨ fAc k n p m = fHi k n p m) ∧
    fLo k n p (m + 1) = min (fLo k n p m) (fAc k n p m) ∧ fHi k n p (m + 1) = max (fHi k n p m) (fAc k n p m + 1) := by
  unfold fLo fHi fAc
  have hm : ¬ m + 1 = 0 := by omega
  by_cases h : m = 0
  · subst h
    cases k <;> simp only [hm, ↓reduceIte, Bool.false_eq_true] <;> refine ⟨?_, ?_, ?_, ?_, ?_, ?_, ?_, ?_⟩ <;> (repeat' split) <;> first | omega | (intro _; trivial) | (intro z; exact z.elim)
  · cases k <;> simp only [h, hm, ↓reduceIte, Bool.false_eq_true] <;> refine ⟨?_, ?_, ?_, ?_, ?_, ?_, ?_, ?_⟩ <;> (repeat' split) <;> first | omega | (intro _; trivial) | (intro z; exact z.elim)
theorem cp_turn {k : Bool} {n p m : Int} (h2 : 2 ≤ n) (p0 : 0 ≤ p) (p1 : p < n) (m0 : 0 < m) (m1 : m + 1 < n) :
    fLo (!k) n (n - 1 - p) m = n - fHi k n p m ∧ fHi (!k) n (n - 1 - p) m = n - fLo k n p m ∧ fAc (!k) n (n - 1 - p) m = n - 1 - fAc k n p m := by
  unfold fLo fHi fAc
  have h : ¬ m = 0 := by omega
  cases k <;> simp only [h, ↓reduceIte, Bool.false_eq_true, Bool.not_true, Bool.not_false] <;> refine ⟨?_, ?_, ?_⟩ <;> (repeat' split) <;> omega
/-- a state: tabs and the index of the active one -/
def stD (t : List Nat) (a : Nat) : D := .tup [.str t, .str [t[a]?.getD 0]]
theorem stD_at {t : List Nat} {a c : Nat} (h : t[a]? = some c) : stD t a = .tup [.str t, .str [c]] := by unfold stD; rw [h]; rfl

/-! any data -/
def SL (d : D) : Prop := ∀ l, d = .str l → l.length ≤ 1000000
def kindD : D → Bool
  | .str l => kindB l
  | _ => false
def rowD : D → Bool
  | .str l => rowB l
  | _ => false
theorem kindD_ex {d : D} (h : kindD d = true) : ∃ l, d = .str l ∧ kindB l = true := by
  cases d with
  | str l => exact ⟨l, rfl, h⟩
  | _ => cases h
theorem rowD_ex {d : D} (h : rowD d = true) : ∃ l, d = .str l ∧ rowB l = true := by
  cases d with
  | str l => exact ⟨l, rfl, h⟩
  | _ => cases h
def LET : List Nat := [97, 98, 99, 100, 101, 102, 103, 104, 105, 106, 107, 108, 109, 110, 111, 112, 113, 114, 115, 116, 117, 118, 119, 120, 121, 122]
def tabsB (l : List Nat) : Bool := decide (1 ≤ l.length) && decide (l.length ≤ 12) && (l.all fun c => decide (c ∈ LET)) && decide l.Nodup
def tabsD : D → Bool
  | .str l => tabsB l
  | _ => false
def tabOf (t : List Nat) : D → Bool
  | .str [c] => decide (c ∈ t)
  | _ => false
def stateD : D → Bool
  | .tup [.str t, x] => tabsB t && tabOf t x
  | _ => false
theorem tabsD_ex {d : D} (h : tabsD d = true) : ∃ l, d = .str l ∧ tabsB l = true := by
  cases d with
  | str l => exact ⟨l, rfl, h⟩
  | _ => cases h
theorem stateD_ex {d : D} (h : stateD d = true) : ∃ t x, d = .tup [.str t, x] ∧ tabsB t = true ∧ tabOf t x = true := by
  unfold stateD at h
  split at h
  · rw [Bool.and_eq_true] at h; exact ⟨_, _, rfl, h⟩
  · cases h
theorem stateD_no {d : D} (h : ∀ t x, d = .tup [.str t, x] → tabsB t = true → False) : stateD d = false := by
  cases q : stateD d with
  | false => rfl
  | true => obtain ⟨t, x, e, h1, _⟩ := stateD_ex q; exact (h t x e h1).elim
def SLst (d : D) : Prop := ∀ x y, d = .tup [x, y] → SL x ∧ SL y
theorem tabsB_of {t : List Nat} (h1 : 1 ≤ t.length) (h2 : t.length ≤ 12) (h3 : ∀ c ∈ t, 97 ≤ c ∧ c ≤ 122) (h4 : t.Nodup) : tabsB t = true := by
  unfold tabsB
  rw [decide_eq_true h1, decide_eq_true h2, decide_eq_true h4, Bool.true_and, Bool.true_and, Bool.and_true, List.all_eq_true]
  intro c hc
  have := h3 c hc
  have e : c ∈ LET := by
    unfold LET
    simp only [List.mem_cons, List.not_mem_nil, or_false]
    omega
  exact decide_eq_true e
theorem let_map : ∀ {l : List Nat}, (chs l).filterMap (fun d => match d with | .str [c] => some (.bl (decide (c ∈ LET))) | _ => none) = (l.map fun c => decide (c ∈ LET)).map D.bl
  | [] => rfl
  | c :: l => by
    show D.bl (decide (c ∈ LET)) :: (chs l).filterMap _ = _ :: _
    rw [let_map]
theorem slS {l : List Nat} (h : l.length ≤ 1000000) : SL (.str l) := fun l' e => by cases e; exact h
abbrev SS := List Nat × Nat
def tbeh (k : Bool) (s : SS) (r : List Nat) : Option SS := r.foldl (fun o c => o.bind fun s => MA.tstep k s c) (some s)
theorem tb_none {k : Bool} : ∀ r : List Nat, r.foldl (fun (o : Option SS) c => o.bind fun s => MA.tstep k s c) none = none
  | [] => rfl
  | _ :: r => tb_none r
theorem tb_take {k : Bool} {s : SS} {r : List Nat} {i c : Nat} (h : r[i]? = some c) : tbeh k s (r.take (i + 1)) = (tbeh k s (r.take i)).bind fun s => MA.tstep k s c := by
  unfold tbeh
  rw [List.take_add_one, h, List.foldl_append]; rfl
theorem tb_stop {k : Bool} {s : SS} {r : List Nat} {i : Nat} (h : tbeh k s (r.take i) = none) : tbeh k s r = none := by
  unfold tbeh at h ⊢
  rw [← List.take_append_drop i r, List.foldl_append, h]
  exact tb_none _
structure StOk (s : SS) : Prop where
  nd : s.1.Nodup
  at' : s.2 < s.1.length
  le : s.1.length ≤ 1000
  cp : ∀ c ∈ s.1, c < 1114112
theorem StOk.step {k : Bool} {s b : SS} {c : Nat} (h : StOk s) (e : MA.tstep k s c = some b) : StOk b := by
  obtain ⟨t, a⟩ := s
  obtain ⟨nd, ha, hl, cp⟩ := h
  dsimp only at nd ha hl cp
  unfold MA.tstep at e
  dsimp only at e
  by_cases h1 : c = 110
  · rw [if_pos h1] at e
    cases e
    exact ⟨nd, by show (if a + 1 = t.length then 0 else a + 1) < t.length; split <;> omega, hl, cp⟩
  · rw [if_neg h1] at e
    by_cases h2 : c = 112
    · rw [if_pos h2] at e
      cases e
      exact ⟨nd, by show (if a = 0 then t.length - 1 else a - 1) < t.length; split <;> omega, hl, cp⟩
    · rw [if_neg h2] at e
      by_cases h1 : t.length = 1
      · rw [if_pos h1] at e; cases e
      · rw [if_neg h1] at e
        cases e
        have le : (t.eraseIdx a).length = t.length - 1 := by rw [List.length_eraseIdx]; simp [ha]
        refine ⟨nd.sublist (List.eraseIdx_sublist ..), ?_, ?_, fun c hc => cp c ((List.eraseIdx_sublist ..).subset hc)⟩
        · show (if k = true then min a (t.length - 2) else a - 1) < (t.eraseIdx a).length
          rw [le]; split <;> omega
        · show (t.eraseIdx a).length ≤ 1000
          omega
theorem StOk.run {k : Bool} {s : SS} (h : StOk s) : ∀ (r : List Nat) {b : SS}, tbeh k s r = some b → StOk b := by
  intro r
  induction r generalizing s with
  | nil => intro b e; cases e; exact h
  | cons c r ih =>
    intro b e
    show StOk b
    cases q : MA.tstep k s c with
    | none =>
      have : tbeh k s (c :: r) = none := by
        show r.foldl _ ((some s).bind fun s => MA.tstep k s c) = none
        rw [Option.bind_some, q]; exact tb_none r
      rw [this] at e; cases e
    | some s' =>
      have e2 : tbeh k s (c :: r) = tbeh k s' r := by
        show r.foldl _ ((some s).bind fun s => MA.tstep k s c) = _
        rw [Option.bind_some, q]; rfl
      rw [e2] at e
      exact ih (h.step q) e
theorem slst_st {t : List Nat} {a : Nat} (h : t.length ≤ 1000000 := by omega) : SLst (stD t a) := fun x y e => by
  cases e
  exact ⟨slS h, slS (by simp)⟩
theorem stateD_of {t : List Nat} {a : Nat} (h : tabsB t = true) (ha : a < t.length) : stateD (stD t a) = true := by
  show (tabsB t && tabOf t (.str [t[a]?.getD 0])) = true
  rw [h, Bool.true_and]
  show decide (t[a]?.getD 0 ∈ t) = true
  rw [List.getElem?_eq_getElem ha]
  exact decide_eq_true (List.getElem_mem ha)
def odD : Option SS → D
  | some b => stD b.1 b.2
  | none => .non
theorem sw_map : ∀ {r : List Nat}, (chs r).filterMap (fun d => match d with | .str [c] => some (.str [MA.sw c]) | _ => none) = (r.map fun c => [MA.sw c]).map D.str
  | [] => rfl
  | c :: r => by
    show D.str [MA.sw c] :: (chs r).filterMap _ = _ :: _
    rw [sw_map]
theorem sw_len : ∀ {r : List Nat}, ((r.map fun c => [MA.sw c]).map (·.length)).sum = r.length
  | [] => rfl
  | c :: r => by
    show 1 + ((r.map fun c => [MA.sw c]).map (·.length)).sum = r.length + 1
    rw [sw_len]; omega
theorem sw_flat : ∀ {r : List Nat}, (r.map fun c => [MA.sw c]).flatten = r.map MA.sw
  | [] => rfl
  | c :: r => by
    show MA.sw c :: (r.map fun c => [MA.sw c]).flatten = _ :: _
    rw [sw_flat]

/-! rows as values -/
abbrev prD (kd r : List Nat) : D := .ob [.str kd, .str r, effD (decide (kd = kRight)) r]
def newPre (_ b : D) : Prop := SL b
def newOut (a b : D) : Sum Nat (List D) := if kindD a = false then .inl 0 else if rowD b = false then .inl 2 else .inr [a, b, match a, b with
  | .str k, .str l => effD (decide (k = kRight)) l
  | _, _ => .non]
theorem newOut_0 {a b : D} (h : kindD a = false) : newOut a b = .inl 0 := by unfold newOut; rw [if_pos h]
theorem newOut_2 {a b : D} (h : kindD a = true) (h2 : rowD b = false) : newOut a b = .inl 2 := by unfold newOut; rw [if_neg (by rw [h]; decide), if_pos h2]
theorem newOut_ok {k l : List Nat} (h : kindB k = true) (h2 : rowB l = true) : newOut (.str k) (.str l) = .inr [.str k, .str l, effD (decide (k = kRight)) l] := by
  unfold newOut
  rw [if_neg (by rw [show kindD (.str k) = true from h]; decide), if_neg (by rw [show rowD (.str l) = true from h2]; decide)]
theorem new_ok {k l : List Nat} {P : CtR} {E : EX} {ρ : DEnv} (h : kindB k = true) (h2 : rowB l = true) (p : P (.v (prD k l)) ρ) : newPre (.str k) (.str l) ∧ qNew2 newOut P E ρ (.str k) (.str l) := by
  refine ⟨slS (by have := rowB_len h2; omega), ?_⟩
  unfold qNew2
  rw [newOut_ok h h2]
  exact p
theorem new_0 {a b : D} {P : CtR} {E : EX} {ρ : DEnv} (hb : SL b) (h : kindD a = false) (p : E 0 ρ) : newPre a b ∧ qNew2 newOut P E ρ a b := by
  refine ⟨hb, ?_⟩
  unfold qNew2
  rw [newOut_0 h]
  exact p
theorem new_2 {a b : D} {P : CtR} {E : EX} {ρ : DEnv} (hb : SL b) (h : kindD a = true) (h2 : rowD b = false) (p : E 2 ρ) : newPre a b ∧ qNew2 newOut P E ρ a b := by
  refine ⟨hb, ?_⟩
  unfold qNew2
  rw [newOut_2 h h2]
  exact p
theorem eqv_eff2 {k j : Bool} {r s : List Nat} : eqv (effD k r) (effD j s) = decide (MA.eff k r = MA.eff j s) := by
  unfold effD
  simp only [eqv, eqvs, eqvs_ints, Bool.and_true]
  rw [← Bool.decide_and]
  congr 1
  rw [Prod.ext_iff]
theorem gd_kp {kd r : List Nat} (h : kindB kd = true) : gd (.tup [.str kd, effD (decide (kd = kRight)) r]) := by
  have h2 : (kd.all fun x => decide (x < 1114112)) = true := by
    unfold kindB at h
    rw [Bool.or_eq_true, decide_eq_true_eq, decide_eq_true_eq] at h
    rcases h with rfl | rfl <;> decide
  refine ⟨by simp only [okD, okDs]; rw [h2, gd_eff.1]; rfl, ?_⟩
  unfold effD
  simp only [dep, deps, deps_ints]
  decide
theorem rg_at {f : Nat → D} : ∀ r : List Nat, (List.range r.length).filterMap (fun j => (r[j]?).map f) = r.map f
  | [] => rfl
  | c :: r => by
    rw [List.length_cons, List.range_succ_eq_map, List.filterMap_cons]
    show f c :: _ = f c :: _
    rw [List.filterMap_map]
    have := rg_at (f := f) r
    rw [← this]
    rfl
def chG (r : List Nat) (d : D) : Option D := match d with
  | .int i => (r[i.toNat]?).map fun c => .str [c]
  | _ => none
theorem rg_chs {r : List Nat} : (rgD 0 ((r.length : Nat) : Int).toNat).filterMap (chG r) = chs r := by
  rw [show ((r.length : Nat) : Int).toNat = r.length by omega]
  unfold chs
  rw [← rg_at]
  unfold rgD
  rw [List.filterMap_map]
  refine congrArg (fun g => List.filterMap g (List.range r.length)) (funext fun j => ?_)
  show (r[((0 : Int) + (j : Nat)).toNat]?).map _ = _
  rw [show ((0 : Int) + (j : Nat)).toNat = j by omega]
theorem row_cp {r : List Nat} (h : Row r) : ∀ c ∈ r, c < 1114112 := fun c hc => by rcases h c hc with rfl | rfl | rfl <;> decide
theorem okD_row {r : List Nat} (h : Row r) : okD (.str r) = true := by
  simp only [okD, List.all_eq_true, decide_eq_true_eq]
  exact row_cp h
theorem okD_kind {kd : List Nat} (h : kindB kd = true) : okD (.str kd) = true := by
  unfold kindB at h
  rw [Bool.or_eq_true, decide_eq_true_eq, decide_eq_true_eq] at h
  rcases h with rfl | rfl <;> decide
theorem dep_eff {k : Bool} {r : List Nat} : dep (effD k r) = 2 := by
  unfold effD
  simp only [dep, deps, deps_ints]
  rfl
theorem gd_4 {kd r s : List Nat} {k : Bool} {n : Int} (hk : kindB kd = true) (hr : Row r) : gd (.lst [.str kd, .str r, effD k s, .int n]) := by
  refine ⟨?_, ?_⟩
  · simp only [okD, okDs]
    rw [show (kd.all fun c => decide (c < 1114112)) = true from okD_kind hk, show (r.all fun c => decide (c < 1114112)) = true from okD_row hr, gd_eff.1]
    rfl
  · simp only [dep, deps, dep_eff]
    decide
theorem eff_nil {k : Bool} : MA.eff k [] = ([], 0) := by cases k <;> decide +kernel
theorem effD_nil (k : Bool) : D.tup [.tup [], .int 0] = effD k [] := by
  unfold effD
  rw [eff_nil]
  rfl
theorem row_rep {r : List Nat} (h : Row r) : ∀ n : Nat, Row (List.replicate n r).flatten ∧ (List.replicate n r).flatten.length = r.length * n
  | 0 => ⟨by simp [Row], by simp⟩
  | n + 1 => by
    obtain ⟨h1, h2⟩ := row_rep h n
    rw [List.replicate_succ, List.flatten_cons]
    exact ⟨h.app h1, by rw [List.length_append, h2, Nat.mul_succ]; omega⟩
def okAt (j : Nat) (kd r : List Nat) (b : D) (R : D → Prop) : Prop := match j with
  | 0 => SLst b ∧ ((stateD b = false ∧ R (.str [115, 116, 97, 116, 101])) ∨ (∃ s : SS, b = stD s.1 s.2 ∧ StOk s ∧ stateD b = true ∧ (∀ e, tbeh (kd = kRight) s r = some e → R (stD e.1 e.2)) ∧ (tbeh (kd = kRight) s r = none → R (.str [110, 111, 116]))))
  | 1 => isIntD b 0 (r.length - 1) = false ∧ R (.str [110, 117, 109, 98, 101, 114])
  | 2 => ∃ (kd2 r2 : List Nat), b = prD kd2 r2 ∧ rowB r2 = true ∧ Row r2 ∧ ((kd ≠ kd2 ∧ R (.str [111, 116, 104, 101, 114])) ∨ (kd = kd2 ∧ 40 < r.length + r2.length ∧ R (.str [114, 111, 119])) ∨ (kd = kd2 ∧ r.length + r2.length ≤ 40 ∧ R (.str (r ++ r2))))
  | _ => (flat b = true ∧ isIntD b 0 40 = false ∧ R (.str [110, 117, 109, 98, 101, 114])) ∨ (∃ n : Nat, b = .int (n : Nat) ∧ n ≤ 40 ∧ ((40 < r.length * n ∧ R (.str [114, 111, 119])) ∨ (r.length * n ≤ 40 ∧ R (.str (List.flatten (List.replicate n r))))))
def outD : Option SS → D
  | some b => stD b.1 b.2
  | none => .str [110, 111, 116]
theorem ok0 {kd r : List Nat} {s : SS} {R : D → Prop} (hs : StOk s) (ht : stateD (stD s.1 s.2) = true) (h : R (outD (tbeh (kd = kRight) s r))) : okAt 0 kd r (stD s.1 s.2) R := by
  refine ⟨slst_st (by have := hs.le; omega), .inr ⟨s, rfl, hs, ht, fun e he => ?_, fun he => ?_⟩⟩ <;> rw [he] at h <;> exact h
theorem or0 {o : Option SS} {P : CtR} {E : EX} {ρ : DEnv} : qOrT (dC (.str [110, 111, 116])) P E (.v (odD o)) ρ = P (.v (outD o)) ρ := by
  cases o <;> rfl
theorem gd_st2 {b : SS} (h : StOk b) : gd (stD b.1 b.2) := by
  have h0 : b.1[b.2]?.getD 0 < 1114112 := by
    rw [List.getElem?_eq_getElem h.at']
    exact h.cp _ (List.getElem_mem _)
  have h1 := h.cp
  unfold stD
  exact ⟨by simp [okD, okDs, h0]; exact h1, by simp [dep, deps]⟩
theorem gd_out {k : Bool} {s : SS} {r : List Nat} (hs : StOk s) : gd (outD (tbeh k s r)) := by
  cases e : tbeh k s r with
  | none => exact ⟨by decide, by decide⟩
  | some b => exact gd_st2 (hs.run _ e)
theorem eqv_out {o : Option SS} : eqv (outD o) (outD o) = true := by
  cases o with
  | none => rfl
  | some b => simp [outD, stD, eqv, eqvs]
theorem gd_row {r : List Nat} (h : Row r) : gd (.str r) := ⟨okD_row h, by simp [dep]⟩
theorem gd_chsr {r : List Nat} (h : Row r) : gd (.lst (chs r)) := by
  have h1 : okDs (chs r) = true ∧ deps (chs r) = 0 ∧ eqvs (chs r) (chs r) = true := by
    have := row_cp h
    clear h
    unfold chs
    induction r with
    | nil => exact ⟨rfl, rfl, rfl⟩
    | cons c r ih =>
      obtain ⟨i1, i2, i3⟩ := ih fun x hx => this x (List.mem_cons_of_mem _ hx)
      have hc := this c List.mem_cons_self
      refine ⟨?_, ?_, ?_⟩
      · rw [List.map_cons]; simp only [okDs, i1, Bool.and_true, okD]; simpa using hc
      · rw [List.map_cons]; simp only [deps, i2, dep]; rfl
      · rw [List.map_cons]; simp only [eqvs, eqv, i3]; simp
  exact ⟨by simp only [okD]; exact h1.1, by simp only [dep]; omega⟩
theorem eqv_chsr (r : List Nat) : eqv (.lst (chs r)) (.lst (chs r)) = true := by
  simp only [eqv]
  unfold chs
  induction r with
  | nil => rfl
  | cons c r ih => rw [List.map_cons]; simp only [eqvs, eqv, ih]; simp
theorem cut10 (r : List Nat) : cut r none (some 10) = r.take 10 ∧ cut r (some 10) none = r.drop 10 := by
  by_cases h : 10 ≤ r.length
  · exact ⟨cut_to (by omega) (by omega), cut_from (by omega) (by omega)⟩
  · have e : HT.sIx r.length 0 (some 10) = r.length := by
      show min (Int.toNat 10) r.length = r.length
      exact Nat.min_eq_right (by show r.length ≤ 10; omega)
    have e' : HT.sIx r.length r.length (some 10) = r.length := e
    unfold cut
    rw [e, e']
    refine ⟨?_, ?_⟩
    · show (r.drop 0).take (r.length - 0) = _
      rw [List.drop_zero, Nat.sub_zero, List.take_length, List.take_of_length_le (by omega)]
    · show (r.drop r.length).take (r.length - r.length) = _
      rw [Nat.sub_self, List.take_zero, List.drop_of_length_le (by omega)]
theorem eff_np {k : Bool} {r : List Nat} (h : r.length ≤ 40) : MA.eff k (r.take 10 ++ [110, 112] ++ r.drop 10) = MA.eff k r := by
  have e0 : MA.eff k [110, 112] = MA.eff k [] := by cases k <;> decide +kernel
  have h1 : (r.take 10).length ≤ r.length := by rw [List.length_take]; omega
  have h2 : (r.drop 10).length ≤ r.length := by rw [List.length_drop]; omega
  have e1 := MA.eff_ahead (m := r.take 10) (by simp only [List.length_cons, List.length_nil]; omega) (by simp only [List.length_nil]; omega) e0
  rw [List.append_nil] at e1
  have e2 := MA.eff_behind (m := r.drop 10) (by rw [List.length_append]; simp only [List.length_cons, List.length_nil]; omega) (by omega) e1
  rw [e2, List.take_append_drop]
theorem row_sw2 {r : List Nat} (h : Row r) : Row (r.map MA.sw) ∧ (r.map MA.sw).map MA.sw = r := by
  refine ⟨fun c hc => ?_, ?_⟩
  · obtain ⟨d, hd, rfl⟩ := List.mem_map.mp hc
    rcases h d hd with rfl | rfl | rfl <;> decide
  · rw [List.map_map]
    refine (List.map_congr_left fun c hc => ?_).trans (List.map_id r)
    rcases h c hc with rfl | rfl | rfl <;> rfl
theorem gd_l2 {kd r : List Nat} (hk : kindB kd = true) (hr : Row r) : gd (.lst [.str kd, .str r]) := by
  refine ⟨?_, by simp [dep, deps]⟩
  simp only [okD, okDs]
  rw [show (kd.all fun c => decide (c < 1114112)) = true from okD_kind hk, show (r.all fun c => decide (c < 1114112)) = true from okD_row hr]
  rfl
def OutOk (j : Nat) (a b : D) (R : D → Prop) : Prop := (j < 4 ∧ ∃ kd r : List Nat, a = prD kd r ∧ kindB kd = true ∧ rowB r = true ∧ Row r ∧ okAt j kd r b R) ∨ (j = 4 ∧ SL b ∧ ((kindD a = false ∧ R (.str [107, 105, 110, 100])) ∨ (kindD a = true ∧ rowD b = false ∧ R (.str [114, 111, 119]))))
def othK (kd : List Nat) : List Nat := if kd = kRight then kLeft else kRight
theorem othK_r : othK kRight = kLeft := by decide
theorem othK_l : othK kLeft = kRight := by decide
theorem othK_ne {kd : List Nat} (h : kindB kd = true) : kd ≠ othK kd ∧ kindB (othK kd) = true ∧ othK (othK kd) = kd ∧ (decide (othK kd = kRight)) = !decide (kd = kRight) := by
  unfold kindB at h
  rw [Bool.or_eq_true, decide_eq_true_eq, decide_eq_true_eq] at h
  rcases h with rfl | rfl <;> decide

def clsS (i j : Nat) : Stmt := match topS i with
  | .ClassDef _ _ _ b _ _ _ _ _ _ _ => b.getD j (.Pass ⟨0, 0, 0, 0⟩)
  | _ => .Pass ⟨0, 0, 0, 0⟩

abbrev st_Lpick : Stmt := topS 37
abbrev nm_Lpick : List Str := ["_law_source_here", "_law_size", "_law_drawn"]
theorem sc_Lpick : FnScope nm_Lpick ["_law_source_here", "_law_size"] (defScope st_Lpick) := ⟨rfl, rfl, rfl, by decide +kernel, rfl, by decide +kernel, by decide +kernel⟩
def S_Lpick : TD := fun ρ Q E => match ρ with
  | [.l a [.int x, .int y, .int z], .v (.int n)] => Src z ∧ (0 < n ∧ n < 18446744073709551616) ∧ ∀ r x' y' : Int, 0 ≤ r → r < n → Q (.v (.int r)) [.l a [.int x', .int y', .int z], .v (.int n)]
  | _ => False
theorem S_Lpick_eq {a : Addr} {x y z n : Int} {Q : CtR} {E : EX} : S_Lpick [.l a [.int x, .int y, .int z], .v (.int n)] Q E = (Src z ∧ (0 < n ∧ n < 18446744073709551616) ∧ ∀ r x' y' : Int, 0 ≤ r → r < n → Q (.v (.int r)) [.l a [.int x', .int y', .int z], .v (.int n)]) := rfl
local macro_rules | `(tactic| walk_at "Lpick") => `(tactic| simp (config := { maxSteps := 10000000 }) only [w_var, w_sl_v, w_sl_l, w_c, w_op, w_qOp, w_qOp2, w_qB, w_test, w_and, w_or, w_not, w_qAnd, w_qOr, w_qNot, w_andV, w_orV, w_notV, w_qAndV, w_qOrV, w_qNotV, w_qI, w_neg, w_qNeg, w_if, w_qIf, w_chain, w_qCh, w_qCh2, w_qCh4, w_nil, w_cons, w_qCons, w_qCons2, fzL_nil, fzL_v, fzL_f, noB_nil, noB_v, noB_f, w_tup, w_lst, w_qTup, w_qLst, w_next, w_seq, w_break, w_drop, w_qDrop, w_ret, w_ifS, w_qIfS, w_set, w_qSet, asg_v, asg_f, asg_b, w_par, w_qPar, w_parT, w_qParT, asgs_c, asgs_n, w_asg, w_qAsg, w_hName, w_hCons, w_qH, hNil_n, hTup_t, w_be, w_qRt, w_qNx, w_qEx, w_nowh, ret_v, ret_f, ret_ft, ret_b, retB_l, retB_lt, mg_l, mg_v, mg_n, mgOk_l, mgOk_v, mgOk_n, w_call, w_qCall, w_qWb, w_qWe, argE_v, argE_f, argE_b, lOnly_l, bis_n, bis_b, bis_v, bis_f, wb_b, wb_v, wb_f, wb_n, dat_v, dat_f, dat_b, datS_l, ls_l, ts_t, seq_l, seq_t, w_ixL, w_ixT, w_ixS, at_0, at_1, at_2, at_3, own_l, up_0, up_1, w_setIx, w_qSx_v, w_qSx_f, w_qSx2, w_qSx3, w_app_v, w_app_f, w_qApp, w_popAt, w_pop, w_bm', w_qBm, w_qBm2, w_bm0, w_qBm0, ty_s, ty_l, w_some, w_qSome, w_no, w_slc, w_qSlc, w_qSl2, w_qSl3, w_sL, w_qCut, sS_v, sT_v, w_cb, w_qCB, w_len, len_l, len_t, len_s, w_tupOf, w_listOf, w_qTo, w_qLo, w_all, w_isi, w_qIsi, w_sort, w_count, w_frz, frz_l, frz_v, w_join, w_dix, w_qDix, w_int, oIsB_v, oNotB_v, w_diS, w_diT, w_diL, w_qIS, w_qIT, w_qIL, w_qILd, w_diR1, w_diR2, w_qR1, w_qR2, w_for, w_qTurn, w_lessI, w_qWhile, w_lc, w_lcT2_v, w_lcT, dNever, dYes, oI0_v, oI_v, oEq_v, oNe_v, scD_ii, scD_ss, scD_bb, scD_nn, scD_ns, scD_sn, eqF_ii, eqF_ss, eqF_bb, eqF_nn, eqF_ns, eqF_sn, oAddS_v, oMulS_v, oInC_v, oIn_v, oCatT_v, oIsN_v, oNotN_v, DL.isNon, cMax2_v, cMin2_v, isStr, isInt, isBl, isTup, isLst, apart, flat, stR, dLstRg1_eq, dLstRg2_eq, oEqD, oNeD, List.cons_append, List.nil_append, List.map_cons, List.map_nil, List.getElem?_cons_zero, List.getElem?_cons_succ, List.set_cons_zero, List.set_cons_succ, List.length_cons, List.length_nil, List.nodup_cons, List.nodup_nil, List.mem_singleton, List.not_mem_nil, rst, wipeD, or_false, false_or, or_self, reduceCtorEq, Nat.reduceEqDiff, Nat.reduceAdd, Nat.reduceLeDiff, Nat.zero_le, Nat.succ_ne_self, Option.getD_some, Option.some.injEq, exists_eq_left', true_and, and_true, and_self, true_implies, implies_true, not_false_eq_true, not_true_eq_false, decide_eq_true_eq, if_true, if_false, ↓reduceIte, Bool.false_eq_true, Bool.not_true, Bool.not_false, decide_true, decide_false, Bool.true_eq_false, eq_self, w_raise, w_try, w_qTry, ew0, ew1, ew2, ew3, ew4, ew5, ew6, ew7, ew8, ew9, ew10, ew11, ew12, w_enS, w_qEnX, w_listS, w_sindex, oRepT_v, w_oCat, oCat2_s, w_oRep, oRep2_s, own_f, own_b, ownLs_l, w_cix, w_qCix, w_end, w_qEnd, g1_v, g1s_v, g2_v, gM_v, isObR_v, w_consO, w_qConsO, w_qConsO2, w_post, w_qPost, isLenR_v, isBlR_v, w_fld, w_qFld0, w_qFld1, w_qFld2, isOb, w_obNew, w_qObNew, w_bool, w_obEqS, w_qObEqS, w_orT, w_qOrT0, w_qOrT1])
theorem fn_Lpick {f : Addr} {fd : FuncData} (F : Fun K "_law_pick" "_law_pick" st_Lpick f fd) (B : Bi mgl)   : FnOk P WW.w K mgl base (L2N.CX P WW.w) 1 f fd ["_law_source_here", "_law_size"] (toSp K 2 S_Lpick) := by
  refine fnd' F sc_Lpick rfl false [.no] rfl (fun cdv A outer s H E hr tk => (dss_cons (ds_if (dt_cmp op_gt (od_I0 (g := fun i j => .bl (decide (j < i)))) (de_ix ix_list od_ixL (de_var 0) de_int) de_int) (dss_cons (ds_set 2 sc_Lpick.nd rfl (by first | exact Or.inl rfl | exact Or.inr rfl) (de_op op_mod (od_I (C := fun _ j => 0 < j) (g := fun i j => .int (i % j))) (de_ix ix_list od_ixL (de_var 0) de_int) (de_var 1)))
    (dss_cons (ds_setix (de_op op_fdivW (od_I (C := CDivW) (g := fun i j => .int (i / j))) (de_ix ix_list od_ixL (de_var 0) de_int) (de_var 1)) (de_var 0) de_int)
    (dss_one (ds_ret (de_var 2))))) dss_nil)
    (dss_cons (ds_setix (de_op op_add (od_I0 (g := fun i j => .int (i + j))) (de_op op_mod (od_I (C := fun _ j => 0 < j) (g := fun i j => .int (i % j))) (de_op op_mul (od_I (C := CMul) (g := fun i j => .int (i * j))) (de_ix ix_list od_ixL (de_var 0) de_int) de_int) (de_ix ix_list od_ixL (de_var 0) de_int)) de_int) (de_var 0) de_int)
    (dss_one (ds_ret (de_op op_mod (od_I (C := fun _ j => 0 < j) (g := fun i j => .int (i % j))) (de_op op_fdivW (od_I (C := CDivW) (g := fun i j => .int (i / j))) (de_op op_mod (od_I (C := fun _ j => 0 < j) (g := fun i j => .int (i % j))) (de_op op_mul (od_I (C := CMul) (g := fun i j => .int (i * j))) (de_ix ix_list od_ixL (de_var 0) de_int) (de_ix ix_list od_ixL (de_var 0) de_int)) de_int) de_int) (de_var 1))))))) ?_
  intro ρ Q E h _
  match ρ, h with
  | [.l a [.int x, .int y, .int z], .v (.int n)], h =>
    have h : Src z ∧ (0 < n ∧ n < 18446744073709551616) ∧ ∀ r x' y' : Int, 0 ≤ r → r < n → Q (.v (.int r)) [.l a [.int x', .int y', .int z], .v (.int n)] := h
    obtain ⟨hz, hn, k⟩ := h
    unfold Src at hz
    walk_at "Lpick"
    split
    · exact ⟨hn.1, divW_i hn.1 hn.2, k _ _ _ (Int.emod_nonneg _ (by omega)) (Int.emod_lt_of_pos _ hn.1)⟩
    · have h1 := Int.emod_nonneg (y * 48271) (show z ≠ 0 by omega)
      have h2 := Int.emod_lt_of_pos (y * 48271) hz.1
      exact ⟨mul_r (by omega) (by omega), hz.1, mul_r (by omega) (by omega), by omega, divW_i (by omega) (by omega), hn.1, k _ _ _ (Int.emod_nonneg _ (by omega)) (Int.emod_lt_of_pos _ hn.1)⟩
theorem ok_Lpick (hD : DefAt K mgl "_law_pick" st_Lpick ["_law_source_here", "_law_size"]) (B : Bi mgl)   : Cal P WW.w K mgl base 1 2 "_law_pick" S_Lpick := cal_of hD fun f fd F => fn_Lpick F B  
abbrev st_Lsource : Stmt := topS 36
abbrev nm_Lsource : List Str := ["_law_script", "_law_k", "_law_cell", "_law_primes", "_law_seed"]
theorem sc_Lsource : FnScope nm_Lsource ["_law_script", "_law_k"] (defScope st_Lsource) := ⟨rfl, rfl, rfl, by decide +kernel, rfl, by decide +kernel, by decide +kernel⟩
def S_Lsource : TD := fun ρ Q E => match ρ with
  | [.v (.lst ds), .v (.int k)] => ∃ ns : List Int, ds = ns.map D.int ∧ 0 ≤ k ∧ k < 1000000 ∧ ∀ (a : Addr) (x y z : Int), Src z → Q (.f a [.int x, .int y, .int z]) [.v (.lst ds), .v (.int k)]
  | _ => False
theorem S_Lsource_eq {ds : List D} {k : Int} {Q : CtR} {E : EX} : S_Lsource [.v (.lst ds), .v (.int k)] Q E = (∃ ns : List Int, ds = ns.map D.int ∧ 0 ≤ k ∧ k < 1000000 ∧ ∀ (a : Addr) (x y z : Int), Src z → Q (.f a [.int x, .int y, .int z]) [.v (.lst ds), .v (.int k)]) := rfl
local macro_rules | `(tactic| walk_at "Lsource") => `(tactic| simp (config := { maxSteps := 10000000 }) only [w_var, w_sl_v, w_sl_l, w_c, w_op, w_qOp, w_qOp2, w_qB, w_test, w_and, w_or, w_not, w_qAnd, w_qOr, w_qNot, w_andV, w_orV, w_notV, w_qAndV, w_qOrV, w_qNotV, w_qI, w_neg, w_qNeg, w_if, w_qIf, w_chain, w_qCh, w_qCh2, w_qCh4, w_nil, w_cons, w_qCons, w_qCons2, fzL_nil, fzL_v, fzL_f, noB_nil, noB_v, noB_f, w_tup, w_lst, w_qTup, w_qLst, w_next, w_seq, w_break, w_drop, w_qDrop, w_ret, w_ifS, w_qIfS, w_set, w_qSet, asg_v, asg_f, asg_b, w_par, w_qPar, w_parT, w_qParT, asgs_c, asgs_n, w_asg, w_qAsg, w_hName, w_hCons, w_qH, hNil_n, hTup_t, w_be, w_qRt, w_qNx, w_qEx, w_nowh, ret_v, ret_f, ret_ft, ret_b, retB_l, retB_lt, mg_l, mg_v, mg_n, mgOk_l, mgOk_v, mgOk_n, w_call, w_qCall, w_qWb, w_qWe, argE_v, argE_f, argE_b, lOnly_l, bis_n, bis_b, bis_v, bis_f, wb_b, wb_v, wb_f, wb_n, dat_v, dat_f, dat_b, datS_l, ls_l, ts_t, seq_l, seq_t, w_ixL, w_ixT, w_ixS, at_0, at_1, at_2, at_3, own_l, up_0, up_1, w_setIx, w_qSx_v, w_qSx_f, w_qSx2, w_qSx3, w_app_v, w_app_f, w_qApp, w_popAt, w_pop, w_bm', w_qBm, w_qBm2, w_bm0, w_qBm0, ty_s, ty_l, w_some, w_qSome, w_no, w_slc, w_qSlc, w_qSl2, w_qSl3, w_sL, w_qCut, sS_v, sT_v, w_cb, w_qCB, w_len, len_l, len_t, len_s, w_tupOf, w_listOf, w_qTo, w_qLo, w_all, w_isi, w_qIsi, w_sort, w_count, w_frz, frz_l, frz_v, w_join, w_dix, w_qDix, w_int, oIsB_v, oNotB_v, w_diS, w_diT, w_diL, w_qIS, w_qIT, w_qIL, w_qILd, w_diR1, w_diR2, w_qR1, w_qR2, w_for, w_qTurn, w_lessI, w_qWhile, w_lc, w_lcT2_v, w_lcT, dNever, dYes, oI0_v, oI_v, oEq_v, oNe_v, scD_ii, scD_ss, scD_bb, scD_nn, scD_ns, scD_sn, eqF_ii, eqF_ss, eqF_bb, eqF_nn, eqF_ns, eqF_sn, oAddS_v, oMulS_v, oInC_v, oIn_v, oCatT_v, oIsN_v, oNotN_v, DL.isNon, cMax2_v, cMin2_v, isStr, isInt, isBl, isTup, isLst, apart, flat, stR, dLstRg1_eq, dLstRg2_eq, oEqD, oNeD, List.cons_append, List.nil_append, List.map_cons, List.map_nil, List.getElem?_cons_zero, List.getElem?_cons_succ, List.set_cons_zero, List.set_cons_succ, List.length_cons, List.length_nil, List.nodup_cons, List.nodup_nil, List.mem_singleton, List.not_mem_nil, rst, wipeD, or_false, false_or, or_self, reduceCtorEq, Nat.reduceEqDiff, Nat.reduceAdd, Nat.reduceLeDiff, Nat.zero_le, Nat.succ_ne_self, Option.getD_some, Option.some.injEq, exists_eq_left', true_and, and_true, and_self, true_implies, implies_true, not_false_eq_true, not_true_eq_false, decide_eq_true_eq, if_true, if_false, ↓reduceIte, Bool.false_eq_true, Bool.not_true, Bool.not_false, decide_true, decide_false, Bool.true_eq_false, eq_self, w_raise, w_try, w_qTry, ew0, ew1, ew2, ew3, ew4, ew5, ew6, ew7, ew8, ew9, ew10, ew11, ew12, w_enS, w_qEnX, w_listS, w_sindex, oRepT_v, w_oCat, oCat2_s, w_oRep, oRep2_s, own_f, own_b, ownLs_l, w_cix, w_qCix, w_end, w_qEnd, g1_v, g1s_v, g2_v, gM_v, isObR_v, w_consO, w_qConsO, w_qConsO2, w_post, w_qPost, isLenR_v, isBlR_v, w_fld, w_qFld0, w_qFld1, w_qFld2, isOb, w_obNew, w_qObNew, w_bool, w_obEqS, w_qObEqS, w_orT, w_qOrT0, w_qOrT1])
theorem fn_Lsource {f : Addr} {fd : FuncData} (F : Fun K "_law_source" "_law_source" st_Lsource f fd) (B : Bi mgl)   : FnOk P WW.w K mgl base (L2N.CX P WW.w) 1 f fd ["_law_script", "_law_k"] (toSp K 2 S_Lsource) := by
  refine fnd' F sc_Lsource rfl false [.no, .no, .no] rfl (fun cdv A outer s H E hr tk => (dss_cons (ds_set 2 sc_Lsource.nd rfl (by first | exact Or.inl rfl | exact Or.inr rfl) de_int)
    (dss_cons (ds_if (dt_cmp op_lt (od_I0 (g := fun i j => .bl (decide (i < j)))) (de_var 1) (de_cb call_len cd_len B.len PySem.boot_len (da_cons (de_var 0) da_nil))) (dss_one (ds_set 2 sc_Lsource.nd rfl (by first | exact Or.inl rfl | exact Or.inr rfl) (de_ix ix_list od_ixL (de_var 0) (de_var 1)))) dss_nil)
    (dss_cons (ds_set 3 sc_Lsource.nd rfl (by first | exact Or.inl rfl | exact Or.inr rfl) (de_lst (da_cons de_int (da_cons de_int (da_cons de_int (da_cons de_int (da_cons de_int (da_cons de_int (da_cons de_int (da_cons de_int da_nil))))))))))
    (dss_cons (ds_set 4 sc_Lsource.nd rfl (by first | exact Or.inl rfl | exact Or.inr rfl) (de_op op_mod (od_I (C := fun _ j => 0 < j) (g := fun i j => .int (i % j))) (de_op op_mul (od_I (C := CMul) (g := fun i j => .int (i * j))) (de_op op_add (od_I0 (g := fun i j => .int (i + j))) (de_op op_mod (od_I (C := fun _ j => 0 < j) (g := fun i j => .int (i % j))) (de_var 2) de_int) de_int) (de_op op_add (od_I0 (g := fun i j => .int (i + j))) de_int (de_op op_mul (od_I (C := CMul) (g := fun i j => .int (i * j))) de_int (de_var 1)))) de_int))
    (dss_cons (ds_set 4 sc_Lsource.nd rfl (by first | exact Or.inl rfl | exact Or.inr rfl) (de_op op_add (od_I0 (g := fun i j => .int (i + j))) (de_op op_add (od_I0 (g := fun i j => .int (i + j))) (de_op op_mod (od_I (C := fun _ j => 0 < j) (g := fun i j => .int (i % j))) (de_op op_mul (od_I (C := CMul) (g := fun i j => .int (i * j))) (de_var 4) (de_var 4)) de_int) (de_var 1)) de_int))
    (dss_cons (ds_if (dt_cmp op_ge (od_I0 (g := fun i j => .bl (decide (j ≤ i)))) (de_var 2) (de_op op_pow (od_I (C := CPow) (g := fun i j => .int (i ^ j.toNat))) de_int de_int)) (dss_one (ds_ret (de_lst (da_cons (de_var 2) (da_cons (de_var 4) (da_cons (de_ix ix_list od_ixL (de_var 3) (de_op op_mod (od_I (C := fun _ j => 0 < j) (g := fun i j => .int (i % j))) (de_var 1) de_int)) da_nil)))))) dss_nil)
    (dss_one (ds_ret (de_lst (da_cons de_int (da_cons (de_var 4) (da_cons (de_ix ix_list od_ixL (de_var 3) (de_op op_mod (od_I (C := fun _ j => 0 < j) (g := fun i j => .int (i % j))) (de_var 1) de_int)) da_nil))))))))))))) ?_
  intro ρ Q E h _
  match ρ, h with
  | [.v (.lst ds), .v (.int k)], h =>
    have h : ∃ ns : List Int, ds = ns.map D.int ∧ 0 ≤ k ∧ k < 1000000 ∧ ∀ (a : Addr) (x y z : Int), Src z → Q (.f a [.int x, .int y, .int z]) [.v (.lst ds), .v (.int k)] := h
    obtain ⟨ns, rfl, k0, k1, q⟩ := h
    have go : ∀ (c : Int), True := fun _ => trivial
    walk_at "Lsource"
    split
    · rename_i hk
      refine at_map k0 (by simpa using hk) fun c _ => ?_
      walk_at "Lsource"
      intro a
      refine ⟨by omega, mul_l (by omega) (by omega), mul_r (by omega) (by omega), by omega, mul_r (by omega) (by omega), by omega, ⟨by decide, by decide, by decide⟩, ?_⟩
      split <;> refine ⟨by omega, at_all (Int.emod_nonneg _ (by omega)) (by show k % 8 < 8; omega) fun d hd => ?_⟩ <;> obtain ⟨z, rfl, hz⟩ := primes d hd <;> walk_at "Lsource" <;> exact fun a' => q _ _ _ _ hz
    · intro a
      refine ⟨by omega, mul_l (by omega) (by omega), mul_r (by omega) (by omega), by omega, mul_r (by omega) (by omega), by omega, ⟨by decide, by decide, by decide⟩, ?_⟩
      split <;> refine ⟨by omega, at_all (Int.emod_nonneg _ (by omega)) (by show k % 8 < 8; omega) fun d hd => ?_⟩ <;> obtain ⟨z, rfl, hz⟩ := primes d hd <;> walk_at "Lsource" <;> exact fun a' => q _ _ _ _ hz
theorem ok_Lsource (hD : DefAt K mgl "_law_source" st_Lsource ["_law_script", "_law_k"]) (B : Bi mgl)   : Cal P WW.w K mgl base 1 2 "_law_source" S_Lsource := cal_of hD fun f fd F => fn_Lsource F B  
abbrev st_Lkind : Stmt := topS 39
abbrev nm_Lkind : List Str := ["_law_source_here"]
theorem sc_Lkind : FnScope nm_Lkind ["_law_source_here"] (defScope st_Lkind) := ⟨rfl, rfl, rfl, by decide +kernel, rfl, by decide +kernel, by decide +kernel⟩
def S_Lkind : TD := fun ρ Q E => match ρ with
  | [.l a [.int x, .int y, .int z]] => Src z ∧ ∀ (l : List Nat) (x' y' : Int), kindB l = true → Q (.v (.str l)) [.l a [.int x', .int y', .int z]]
  | _ => False
theorem S_Lkind_eq {a : Addr} {x y z : Int} {Q : CtR} {E : EX} : S_Lkind [.l a [.int x, .int y, .int z]] Q E = (Src z ∧ ∀ (l : List Nat) (x' y' : Int), kindB l = true → Q (.v (.str l)) [.l a [.int x', .int y', .int z]]) := rfl
local macro_rules | `(tactic| walk_at "Lkind") => `(tactic| simp (config := { maxSteps := 10000000 }) only [w_var, w_sl_v, w_sl_l, w_c, w_op, w_qOp, w_qOp2, w_qB, w_test, w_and, w_or, w_not, w_qAnd, w_qOr, w_qNot, w_andV, w_orV, w_notV, w_qAndV, w_qOrV, w_qNotV, w_qI, w_neg, w_qNeg, w_if, w_qIf, w_chain, w_qCh, w_qCh2, w_qCh4, w_nil, w_cons, w_qCons, w_qCons2, fzL_nil, fzL_v, fzL_f, noB_nil, noB_v, noB_f, w_tup, w_lst, w_qTup, w_qLst, w_next, w_seq, w_break, w_drop, w_qDrop, w_ret, w_ifS, w_qIfS, w_set, w_qSet, asg_v, asg_f, asg_b, w_par, w_qPar, w_parT, w_qParT, asgs_c, asgs_n, w_asg, w_qAsg, w_hName, w_hCons, w_qH, hNil_n, hTup_t, w_be, w_qRt, w_qNx, w_qEx, w_nowh, ret_v, ret_f, ret_ft, ret_b, retB_l, retB_lt, mg_l, mg_v, mg_n, mgOk_l, mgOk_v, mgOk_n, w_call, w_qCall, w_qWb, w_qWe, argE_v, argE_f, argE_b, lOnly_l, bis_n, bis_b, bis_v, bis_f, wb_b, wb_v, wb_f, wb_n, dat_v, dat_f, dat_b, datS_l, ls_l, ts_t, seq_l, seq_t, w_ixL, w_ixT, w_ixS, at_0, at_1, at_2, at_3, own_l, up_0, up_1, w_setIx, w_qSx_v, w_qSx_f, w_qSx2, w_qSx3, w_app_v, w_app_f, w_qApp, w_popAt, w_pop, w_bm', w_qBm, w_qBm2, w_bm0, w_qBm0, ty_s, ty_l, w_some, w_qSome, w_no, w_slc, w_qSlc, w_qSl2, w_qSl3, w_sL, w_qCut, sS_v, sT_v, w_cb, w_qCB, w_len, len_l, len_t, len_s, w_tupOf, w_listOf, w_qTo, w_qLo, w_all, w_isi, w_qIsi, w_sort, w_count, w_frz, frz_l, frz_v, w_join, w_dix, w_qDix, w_int, oIsB_v, oNotB_v, w_diS, w_diT, w_diL, w_qIS, w_qIT, w_qIL, w_qILd, w_diR1, w_diR2, w_qR1, w_qR2, w_for, w_qTurn, w_lessI, w_qWhile, w_lc, w_lcT2_v, w_lcT, dNever, dYes, oI0_v, oI_v, oEq_v, oNe_v, scD_ii, scD_ss, scD_bb, scD_nn, scD_ns, scD_sn, eqF_ii, eqF_ss, eqF_bb, eqF_nn, eqF_ns, eqF_sn, oAddS_v, oMulS_v, oInC_v, oIn_v, oCatT_v, oIsN_v, oNotN_v, DL.isNon, cMax2_v, cMin2_v, isStr, isInt, isBl, isTup, isLst, apart, flat, stR, dLstRg1_eq, dLstRg2_eq, oEqD, oNeD, List.cons_append, List.nil_append, List.map_cons, List.map_nil, List.getElem?_cons_zero, List.getElem?_cons_succ, List.set_cons_zero, List.set_cons_succ, List.length_cons, List.length_nil, List.nodup_cons, List.nodup_nil, List.mem_singleton, List.not_mem_nil, rst, wipeD, or_false, false_or, or_self, reduceCtorEq, Nat.reduceEqDiff, Nat.reduceAdd, Nat.reduceLeDiff, Nat.zero_le, Nat.succ_ne_self, Option.getD_some, Option.some.injEq, exists_eq_left', true_and, and_true, and_self, true_implies, implies_true, not_false_eq_true, not_true_eq_false, decide_eq_true_eq, if_true, if_false, ↓reduceIte, Bool.false_eq_true, Bool.not_true, Bool.not_false, decide_true, decide_false, Bool.true_eq_false, eq_self, w_raise, w_try, w_qTry, ew0, ew1, ew2, ew3, ew4, ew5, ew6, ew7, ew8, ew9, ew10, ew11, ew12, w_enS, w_qEnX, w_listS, w_sindex, oRepT_v, w_oCat, oCat2_s, w_oRep, oRep2_s, own_f, own_b, ownLs_l, w_cix, w_qCix, w_end, w_qEnd, g1_v, g1s_v, g2_v, gM_v, isObR_v, w_consO, w_qConsO, w_qConsO2, w_post, w_qPost, isLenR_v, isBlR_v, w_fld, w_qFld0, w_qFld1, w_qFld2, isOb, w_obNew, w_qObNew, w_bool, w_obEqS, w_qObEqS, w_orT, w_qOrT0, w_qOrT1, S_Lpick_eq])
theorem fn_Lkind {f : Addr} {fd : FuncData} (F : Fun K "_law_kind" "_law_kind" st_Lkind f fd) (B : Bi mgl) (C_Lpick : Cal P WW.w K mgl base 1 2 "_law_pick" S_Lpick)  : FnOk P WW.w K mgl base (L2N.CX P WW.w) 2 f fd ["_law_source_here"] (toSp K 1 S_Lkind) := by
  refine fnd' F sc_Lkind rfl false [] rfl (fun cdv A outer s H E hr tk => (dss_one (ds_ret (de_ix ix_list od_ixL (de_lst (da_cons (de_str [114, 105, 103, 104, 116]) (da_cons (de_str [108, 101, 102, 116]) da_nil))) (de_cal C_Lpick tk (hr.mono (by decide)) (da_cons (de_var 0) (da_cons de_int da_nil))))))) ?_
  intro ρ Q E h _
  match ρ, h with
  | [.l a [.int x, .int y, .int z]], h =>
    have h : Src z ∧ ∀ (l : List Nat) (x' y' : Int), kindB l = true → Q (.v (.str l)) [.l a [.int x', .int y', .int z]] := h
    obtain ⟨hz, k⟩ := h
    walk_at "Lkind"
    refine fun b => ⟨hz, by omega, fun r x' y' h0 h1 => at_all h0 h1 fun d hd => ?_⟩
    simp only [List.mem_cons, List.not_mem_nil, or_false] at hd
    rcases hd with rfl | rfl
    · walk_at "Lkind"
      exact k _ _ _ rfl
    · walk_at "Lkind"
      exact k _ _ _ rfl
theorem ok_Lkind (hD : DefAt K mgl "_law_kind" st_Lkind ["_law_source_here"]) (B : Bi mgl) (C_Lpick : Cal P WW.w K mgl base 1 2 "_law_pick" S_Lpick)  : Cal P WW.w K mgl base 2 1 "_law_kind" S_Lkind := cal_of hD fun f fd F => fn_Lkind F B C_Lpick 
abbrev st_next_open : Stmt := topS 31
abbrev nm_next_open : List Str := ["closed", "place", "way"]
theorem sc_next_open : FnScope nm_next_open ["closed", "place", "way"] (defScope st_next_open) := ⟨rfl, rfl, rfl, by decide +kernel, rfl, by decide +kernel, by decide +kernel⟩
def S_next_open : TD := fun ρ Q E => match ρ with
  | [.v (.tup ds), .v (.int p), .v (.int wy)] => ∃ C : List Int, ds = C.map D.int ∧ MA.Way wy ∧ Q (.v (.int (MA.nxt C p wy))) [.v (.tup ds), .v (.int p), .v (.int wy)]
  | _ => False
theorem S_next_open_eq {ds : List D} {p wy : Int} {Q : CtR} {E : EX} : S_next_open [.v (.tup ds), .v (.int p), .v (.int wy)] Q E = (∃ C : List Int, ds = C.map D.int ∧ MA.Way wy ∧ Q (.v (.int (MA.nxt C p wy))) [.v (.tup ds), .v (.int p), .v (.int wy)]) := rfl
local macro_rules | `(tactic| walk_at "next_open") => `(tactic| simp (config := { maxSteps := 10000000 }) only [w_var, w_sl_v, w_sl_l, w_c, w_op, w_qOp, w_qOp2, w_qB, w_test, w_and, w_or, w_not, w_qAnd, w_qOr, w_qNot, w_andV, w_orV, w_notV, w_qAndV, w_qOrV, w_qNotV, w_qI, w_neg, w_qNeg, w_if, w_qIf, w_chain, w_qCh, w_qCh2, w_qCh4, w_nil, w_cons, w_qCons, w_qCons2, fzL_nil, fzL_v, fzL_f, noB_nil, noB_v, noB_f, w_tup, w_lst, w_qTup, w_qLst, w_next, w_seq, w_break, w_drop, w_qDrop, w_ret, w_ifS, w_qIfS, w_set, w_qSet, asg_v, asg_f, asg_b, w_par, w_qPar, w_parT, w_qParT, asgs_c, asgs_n, w_asg, w_qAsg, w_hName, w_hCons, w_qH, hNil_n, hTup_t, w_be, w_qRt, w_qNx, w_qEx, w_nowh, ret_v, ret_f, ret_ft, ret_b, retB_l, retB_lt, mg_l, mg_v, mg_n, mgOk_l, mgOk_v, mgOk_n, w_call, w_qCall, w_qWb, w_qWe, argE_v, argE_f, argE_b, lOnly_l, bis_n, bis_b, bis_v, bis_f, wb_b, wb_v, wb_f, wb_n, dat_v, dat_f, dat_b, datS_l, ls_l, ts_t, seq_l, seq_t, w_ixL, w_ixT, w_ixS, at_0, at_1, at_2, at_3, own_l, up_0, up_1, w_setIx, w_qSx_v, w_qSx_f, w_qSx2, w_qSx3, w_app_v, w_app_f, w_qApp, w_popAt, w_pop, w_bm', w_qBm, w_qBm2, w_bm0, w_qBm0, ty_s, ty_l, w_some, w_qSome, w_no, w_slc, w_qSlc, w_qSl2, w_qSl3, w_sL, w_qCut, sS_v, sT_v, w_cb, w_qCB, w_len, len_l, len_t, len_s, w_tupOf, w_listOf, w_qTo, w_qLo, w_all, w_isi, w_qIsi, w_sort, w_count, w_frz, frz_l, frz_v, w_join, w_dix, w_qDix, w_int, oIsB_v, oNotB_v, w_diS, w_diT, w_diL, w_qIS, w_qIT, w_qIL, w_qILd, w_diR1, w_diR2, w_qR1, w_qR2, w_for, w_qTurn, w_lessI, w_qWhile, w_lc, w_lcT2_v, w_lcT, dNever, dYes, oI0_v, oI_v, oEq_v, oNe_v, scD_ii, scD_ss, scD_bb, scD_nn, scD_ns, scD_sn, eqF_ii, eqF_ss, eqF_bb, eqF_nn, eqF_ns, eqF_sn, oAddS_v, oMulS_v, oInC_v, oIn_v, oCatT_v, oIsN_v, oNotN_v, DL.isNon, cMax2_v, cMin2_v, isStr, isInt, isBl, isTup, isLst, apart, flat, stR, dLstRg1_eq, dLstRg2_eq, oEqD, oNeD, List.cons_append, List.nil_append, List.map_cons, List.map_nil, List.getElem?_cons_zero, List.getElem?_cons_succ, List.set_cons_zero, List.set_cons_succ, List.length_cons, List.length_nil, List.nodup_cons, List.nodup_nil, List.mem_singleton, List.not_mem_nil, rst, wipeD, or_false, false_or, or_self, reduceCtorEq, Nat.reduceEqDiff, Nat.reduceAdd, Nat.reduceLeDiff, Nat.zero_le, Nat.succ_ne_self, Option.getD_some, Option.some.injEq, exists_eq_left', true_and, and_true, and_self, true_implies, implies_true, not_false_eq_true, not_true_eq_false, decide_eq_true_eq, if_true, if_false, ↓reduceIte, Bool.false_eq_true, Bool.not_true, Bool.not_false, decide_true, decide_false, Bool.true_eq_false, eq_self, w_raise, w_try, w_qTry, ew0, ew1, ew2, ew3, ew4, ew5, ew6, ew7, ew8, ew9, ew10, ew11, ew12, w_enS, w_qEnX, w_listS, w_sindex, oRepT_v, w_oCat, oCat2_s, w_oRep, oRep2_s, own_f, own_b, ownLs_l, w_cix, w_qCix, w_end, w_qEnd, g1_v, g1s_v, g2_v, gM_v, isObR_v, w_consO, w_qConsO, w_qConsO2, w_post, w_qPost, isLenR_v, isBlR_v, w_fld, w_qFld0, w_qFld1, w_qFld2, isOb, w_obNew, w_qObNew, w_bool, w_obEqS, w_qObEqS, w_orT, w_qOrT0, w_qOrT1])
theorem fn_next_open {f : Addr} {fd : FuncData} (F : Fun K "next_open" "next_open" st_next_open f fd) (B : Bi mgl)   : FnOk P WW.w K mgl base (L2N.CX P WW.w) 1 f fd ["closed", "place", "way"] (toSp K 3 S_next_open) := by
  refine fnd' F sc_next_open rfl false [] rfl (fun cdv A outer s H E hr tk => (dss_cons (ds_set 1 sc_next_open.nd rfl (by first | exact Or.inl rfl | exact Or.inr rfl) (de_op op_add (od_I0 (g := fun i j => .int (i + j))) (de_var 1) (de_var 2)))
    (dss_cons (ds_while (passes_of rfl) (dt_cmp op_in_seq od_in (de_var 1) (de_var 0)) (dss_one (ds_set 1 sc_next_open.nd rfl (by first | exact Or.inl rfl | exact Or.inr rfl) (de_op op_add (od_I0 (g := fun i j => .int (i + j))) (de_var 1) (de_var 2)))))
    (dss_one (ds_ret (de_var 1)))))) ?_
  intro ρ Q E h _
  match ρ, h with
  | [.v (.tup ds), .v (.int p), .v (.int wy)], h =>
    have h : ∃ C : List Int, ds = C.map D.int ∧ MA.Way wy ∧ Q (.v (.int (MA.nxt C p wy))) [.v (.tup ds), .v (.int p), .v (.int wy)] := h
    obtain ⟨C, rfl, hw, k⟩ := h
    walk_at "next_open"
    refine while_i (fun m ρ' => ∃ q : Int, ρ' = [.v (.tup (C.map D.int)), .v (.int q), .v (.int wy)] ∧ MA.at_ C wy q = MA.nxt C p wy ∧ m = MA.ms C wy q) _ ⟨_, rfl, (MA.nxt_at C p wy).symm, rfl⟩ ?_
    rintro m ρ' ⟨q, rfl, e, rfl⟩
    walk_at "next_open"
    refine ⟨all_flat_int, ?_⟩
    rw [inD_int]
    by_cases hq : q ∈ C
    · rw [decide_eq_true hq, if_pos rfl]
      exact ⟨_, MA.ms_lt hw hq, _, rfl, by rw [← MA.at_in hw hq]; exact e, rfl⟩
    · rw [decide_eq_false hq, if_neg (by decide)]
      rw [MA.at_out hq] at e
      subst e
      exact k
theorem ok_next_open (hD : DefAt K mgl "next_open" st_next_open ["closed", "place", "way"]) (B : Bi mgl)   : Cal P WW.w K mgl base 1 3 "next_open" S_next_open := cal_of hD fun f fd F => fn_next_open F B  
abbrev st_effect_of : Stmt := topS 32
abbrev nm_effect_of : List Str := ["kind", "row", "closed", "place", "command", "way"]
theorem sc_effect_of : FnScope nm_effect_of ["kind", "row"] (defScope st_effect_of) := ⟨rfl, rfl, rfl, by decide +kernel, rfl, by decide +kernel, by decide +kernel⟩
def S_effect_of : TD := fun ρ Q E => match ρ with
  | [.v (.str kd), .v (.str r)] => r.length ≤ 100 ∧ Q (.v (effD (kd = kRight) r)) [.v (.str kd), .v (.str r)]
  | _ => False
theorem S_effect_of_eq {kd r : List Nat} {Q : CtR} {E : EX} : S_effect_of [.v (.str kd), .v (.str r)] Q E = (r.length ≤ 100 ∧ Q (.v (effD (kd = kRight) r)) [.v (.str kd), .v (.str r)]) := rfl
local macro_rules | `(tactic| walk_at "effect_of") => `(tactic| simp (config := { maxSteps := 10000000 }) only [w_var, w_sl_v, w_sl_l, w_c, w_op, w_qOp, w_qOp2, w_qB, w_test, w_and, w_or, w_not, w_qAnd, w_qOr, w_qNot, w_andV, w_orV, w_notV, w_qAndV, w_qOrV, w_qNotV, w_qI, w_neg, w_qNeg, w_if, w_qIf, w_chain, w_qCh, w_qCh2, w_qCh4, w_nil, w_cons, w_qCons, w_qCons2, fzL_nil, fzL_v, fzL_f, noB_nil, noB_v, noB_f, w_tup, w_lst, w_qTup, w_qLst, w_next, w_seq, w_break, w_drop, w_qDrop, w_ret, w_ifS, w_qIfS, w_set, w_qSet, asg_v, asg_f, asg_b, w_par, w_qPar, w_parT, w_qParT, asgs_c, asgs_n, w_asg, w_qAsg, w_hName, w_hCons, w_qH, hNil_n, hTup_t, w_be, w_qRt, w_qNx, w_qEx, w_nowh, ret_v, ret_f, ret_ft, ret_b, retB_l, retB_lt, mg_l, mg_v, mg_n, mgOk_l, mgOk_v, mgOk_n, w_call, w_qCall, w_qWb, w_qWe, argE_v, argE_f, argE_b, lOnly_l, bis_n, bis_b, bis_v, bis_f, wb_b, wb_v, wb_f, wb_n, dat_v, dat_f, dat_b, datS_l, ls_l, ts_t, seq_l, seq_t, w_ixL, w_ixT, w_ixS, at_0, at_1, at_2, at_3, own_l, up_0, up_1, w_setIx, w_qSx_v, w_qSx_f, w_qSx2, w_qSx3, w_app_v, w_app_f, w_qApp, w_popAt, w_pop, w_bm', w_qBm, w_qBm2, w_bm0, w_qBm0, ty_s, ty_l, w_some, w_qSome, w_no, w_slc, w_qSlc, w_qSl2, w_qSl3, w_sL, w_qCut, sS_v, sT_v, w_cb, w_qCB, w_len, len_l, len_t, len_s, w_tupOf, w_listOf, w_qTo, w_qLo, w_all, w_isi, w_qIsi, w_sort, w_count, w_frz, frz_l, frz_v, w_join, w_dix, w_qDix, w_int, oIsB_v, oNotB_v, w_diS, w_diT, w_diL, w_qIS, w_qIT, w_qIL, w_qILd, w_diR1, w_diR2, w_qR1, w_qR2, w_for, w_qTurn, w_lessI, w_qWhile, w_lc, w_lcT2_v, w_lcT, dNever, dYes, oI0_v, oI_v, oEq_v, oNe_v, scD_ii, scD_ss, scD_bb, scD_nn, scD_ns, scD_sn, eqF_ii, eqF_ss, eqF_bb, eqF_nn, eqF_ns, eqF_sn, oAddS_v, oMulS_v, oInC_v, oIn_v, oCatT_v, oIsN_v, oNotN_v, DL.isNon, cMax2_v, cMin2_v, isStr, isInt, isBl, isTup, isLst, apart, flat, stR, dLstRg1_eq, dLstRg2_eq, oEqD, oNeD, List.cons_append, List.nil_append, List.map_cons, List.map_nil, List.getElem?_cons_zero, List.getElem?_cons_succ, List.set_cons_zero, List.set_cons_succ, List.length_cons, List.length_nil, List.nodup_cons, List.nodup_nil, List.mem_singleton, List.not_mem_nil, rst, wipeD, or_false, false_or, or_self, reduceCtorEq, Nat.reduceEqDiff, Nat.reduceAdd, Nat.reduceLeDiff, Nat.zero_le, Nat.succ_ne_self, Option.getD_some, Option.some.injEq, exists_eq_left', true_and, and_true, and_self, true_implies, implies_true, not_false_eq_true, not_true_eq_false, decide_eq_true_eq, if_true, if_false, ↓reduceIte, Bool.false_eq_true, Bool.not_true, Bool.not_false, decide_true, decide_false, Bool.true_eq_false, eq_self, w_raise, w_try, w_qTry, ew0, ew1, ew2, ew3, ew4, ew5, ew6, ew7, ew8, ew9, ew10, ew11, ew12, w_enS, w_qEnX, w_listS, w_sindex, oRepT_v, w_oCat, oCat2_s, w_oRep, oRep2_s, own_f, own_b, ownLs_l, w_cix, w_qCix, w_end, w_qEnd, g1_v, g1s_v, g2_v, gM_v, isObR_v, w_consO, w_qConsO, w_qConsO2, w_post, w_qPost, isLenR_v, isBlR_v, w_fld, w_qFld0, w_qFld1, w_qFld2, isOb, w_obNew, w_qObNew, w_bool, w_obEqS, w_qObEqS, w_orT, w_qOrT0, w_qOrT1, S_next_open_eq])
theorem fn_effect_of {f : Addr} {fd : FuncData} (F : Fun K "effect_of" "effect_of" st_effect_of f fd) (B : Bi mgl) (C_next_open : Cal P WW.w K mgl base 1 3 "next_open" S_next_open)  : FnOk P WW.w K mgl base (L2N.CX P WW.w) 2 f fd ["kind", "row"] (toSp K 2 S_effect_of) := by
  refine fnd' F sc_effect_of rfl false [.no, .no, .no, .no] rfl (fun cdv A outer s H E hr tk => (dss_cons (ds_parT rfl (ng_cons (i := 2) sc_effect_of.nd rfl (ng_cons (i := 3) sc_effect_of.nd rfl ng_nil)) (da_cons (de_tup da_nil) (da_cons de_int da_nil)))
    (dss_cons (ds_for (passes_of rfl) rfl (di_str (de_var 1)) (dg_name 4 sc_effect_of.nd rfl (by first | exact Or.inl rfl | exact Or.inr rfl))
    (dss_cons (ds_set 5 sc_effect_of.nd rfl (by first | exact Or.inl rfl | exact Or.inr rfl) (de_if (dt_w (dw_or (dt_cmp op_eq od_eq (de_var 4) (de_str [110])) (dw_or1 (dt_w (dw_and (dt_cmp op_eq od_eq (de_var 4) (de_str [99])) (dw_and1 (dt_cmp op_eq od_eq (de_var 0) (de_str [114, 105, 103, 104, 116])))))))) de_int (de_neg de_int)))
    (dss_cons (ds_if (dt_cmp op_eq od_eq (de_var 4) (de_str [99])) (dss_one (ds_set 2 sc_effect_of.nd rfl (by first | exact Or.inl rfl | exact Or.inr rfl) (de_op op_catA od_catT (de_var 2) (de_tup (da_cons (de_var 3) da_nil))))) dss_nil)
    (dss_one (ds_set 3 sc_effect_of.nd rfl (by first | exact Or.inl rfl | exact Or.inr rfl) (de_cal C_next_open tk (hr.mono (by decide)) (da_cons (de_var 2) (da_cons (de_var 3) (da_cons (de_var 5) da_nil)))))))))
    (dss_one (ds_ret (de_tup (da_cons (de_ct call_tuple_of cd_tupOf B.tuple (by decide +kernel) (da_cons (de_cb cr_sortedSq cd_sortQ B.sorted (by decide +kernel) (da_cons (de_var 2) da_nil)) da_nil)) (da_cons (de_var 3) da_nil)))))))) ?_
  intro ρ Q E h _
  match ρ, h with
  | [.v (.str kd), .v (.str r)], h =>
    have h : r.length ≤ 100 ∧ Q (.v (effD (kd = kRight) r)) [.v (.str kd), .v (.str r)] := h
    obtain ⟨hl, k⟩ := h
    walk_at "effect_of"
    refine for_i (fun i ρ' => ∃ s1 s2, ρ' = [.v (.str kd), .v (.str r), .v (.tup ((MA.runS (kd = kRight) ([], 0) (r.take i)).1.map D.int)), .v (.int (MA.runS (kd = kRight) ([], 0) (r.take i)).2), s1, s2]) ⟨_, _, rfl⟩ ?_ ?_
    · rintro i d ρ' hd ⟨s1, s2, rfl⟩
      obtain ⟨c, hc, rfl⟩ := chs_get.mp hd
      refine ⟨trivial, ?_⟩
      have hi : i < r.length := (List.getElem?_eq_some_iff.mp hc).1
      have e := MA.run_take (k := decide (kd = kRight)) hc
      have ln := MA.len_run (k := decide (kd = kRight)) (r := r.take i) (s := ([], 0))
      have ln2 : (r.take i).length ≤ i := by simp; omega
      simp only [List.length_nil] at ln
      rw [e]
      generalize MA.runS (decide (kd = kRight)) ([], 0) (r.take i) = s at *
      obtain ⟨C, p⟩ := s
      have hcm : MA.cmd (decide (kd = kRight)) (C, p) c = (if c = 99 then C ++ [p] else C, MA.nxt (if c = 99 then C ++ [p] else C) p (if c = 110 ∨ c = 99 ∧ kd = kRight then 1 else -1)) := by simp [MA.cmd, MA.wayOf]
      rw [hcm]
      have ln3 : C.length ≤ 0 + (r.take i).length := ln
      have hC : (C.map D.int).length ≤ 999999 := by
        rw [List.length_map]
        omega
      have e110 : ([c] = [110]) = (c = 110) := by simp
      have e99 : ([c] = [99]) = (c = 99) := by simp
      have ek : (kd = [114, 105, 103, 104, 116]) = (kd = kRight) := rfl
      have eC : C.map D.int ++ [D.int p] = (C ++ [p]).map D.int := by simp
      walk_at "effect_of"
      simp only [e110, e99, ek]
      by_cases h1 : c = 110
      · subst h1
        simp only [if_true, if_false, true_or, show ¬ ((110 : Nat) = 99) from by decide]
        exact ⟨C, rfl, .inl rfl, _, _, rfl⟩
      · by_cases h2 : c = 99
        · subst h2
          by_cases h3 : kd = kRight
          · simp only [h3, if_true, if_false, h1, true_and, or_true]
            exact ⟨hC, C ++ [p], eC, .inl rfl, _, _, by rw [eC]⟩
          · simp only [h3, if_true, if_false, h1, true_and, or_self]
            exact ⟨hC, C ++ [p], eC, .inr rfl, _, _, by rw [eC]⟩
        · simp only [h1, h2, if_false, false_and, or_self]
          exact ⟨C, rfl, .inr rfl, _, _, rfl⟩
    · rintro ρ' ⟨s1, s2, rfl⟩
      refine ⟨trivial, ?_⟩
      rw [chs_len, List.take_length]
      walk_at "effect_of"
      refine sort_i rfl fun ns' hp hs a => ?_
      have b := MA.run_bd (k := decide (kd = kRight)) hl
      have g := MA.good0.run (k := decide (kd = kRight)) (r := r)
      rw [MA.cl_sorted b g.nd hp hs]
      walk_at "effect_of"
      exact k
theorem ok_effect_of (hD : DefAt K mgl "effect_of" st_effect_of ["kind", "row"]) (B : Bi mgl) (C_next_open : Cal P WW.w K mgl base 1 3 "next_open" S_next_open)  : Cal P WW.w K mgl base 2 2 "effect_of" S_effect_of := cal_of hD fun f fd F => fn_effect_of F B C_next_open 
abbrev st_is_row : Stmt := topS 25
abbrev nm_is_row : List Str := ["value", "command"]
theorem sc_is_row : FnScope nm_is_row ["value"] (defScope st_is_row) := ⟨rfl, rfl, rfl, by decide +kernel, rfl, by decide +kernel, by decide +kernel⟩
def S_is_row : TD := fun ρ Q E => match ρ with
  | [.v d] => SL d ∧ Q (.v (.bl (rowD d))) [.v d]
  | _ => False
theorem S_is_row_eq {d : D} {Q : CtR} {E : EX} : S_is_row [.v d] Q E = (SL d ∧ Q (.v (.bl (rowD d))) [.v d]) := rfl
local macro_rules | `(tactic| walk_at "is_row") => `(tactic| simp (config := { maxSteps := 10000000 }) only [w_var, w_sl_v, w_sl_l, w_c, w_op, w_qOp, w_qOp2, w_qB, w_test, w_and, w_or, w_not, w_qAnd, w_qOr, w_qNot, w_andV, w_orV, w_notV, w_qAndV, w_qOrV, w_qNotV, w_qI, w_neg, w_qNeg, w_if, w_qIf, w_chain, w_qCh, w_qCh2, w_qCh4, w_nil, w_cons, w_qCons, w_qCons2, fzL_nil, fzL_v, fzL_f, noB_nil, noB_v, noB_f, w_tup, w_lst, w_qTup, w_qLst, w_next, w_seq, w_break, w_drop, w_qDrop, w_ret, w_ifS, w_qIfS, w_set, w_qSet, asg_v, asg_f, asg_b, w_par, w_qPar, w_parT, w_qParT, asgs_c, asgs_n, w_asg, w_qAsg, w_hName, w_hCons, w_qH, hNil_n, hTup_t, w_be, w_qRt, w_qNx, w_qEx, w_nowh, ret_v, ret_f, ret_ft, ret_b, retB_l, retB_lt, mg_l, mg_v, mg_n, mgOk_l, mgOk_v, mgOk_n, w_call, w_qCall, w_qWb, w_qWe, argE_v, argE_f, argE_b, lOnly_l, bis_n, bis_b, bis_v, bis_f, wb_b, wb_v, wb_f, wb_n, dat_v, dat_f, dat_b, datS_l, ls_l, ts_t, seq_l, seq_t, w_ixL, w_ixT, w_ixS, at_0, at_1, at_2, at_3, own_l, up_0, up_1, w_setIx, w_qSx_v, w_qSx_f, w_qSx2, w_qSx3, w_app_v, w_app_f, w_qApp, w_popAt, w_pop, w_bm', w_qBm, w_qBm2, w_bm0, w_qBm0, ty_s, ty_l, w_some, w_qSome, w_no, w_slc, w_qSlc, w_qSl2, w_qSl3, w_sL, w_qCut, sS_v, sT_v, w_cb, w_qCB, w_len, len_l, len_t, len_s, w_tupOf, w_listOf, w_qTo, w_qLo, w_all, w_isi, w_qIsi, w_sort, w_count, w_frz, frz_l, frz_v, w_join, w_dix, w_qDix, w_int, oIsB_v, oNotB_v, w_diS, w_diT, w_diL, w_qIS, w_qIT, w_qIL, w_qILd, w_diR1, w_diR2, w_qR1, w_qR2, w_for, w_qTurn, w_lessI, w_qWhile, w_lc, w_lcT2_v, w_lcT, dNever, dYes, oI0_v, oI_v, oEq_v, oNe_v, scD_ii, scD_ss, scD_bb, scD_nn, scD_ns, scD_sn, eqF_ii, eqF_ss, eqF_bb, eqF_nn, eqF_ns, eqF_sn, oAddS_v, oMulS_v, oInC_v, oIn_v, oCatT_v, oIsN_v, oNotN_v, DL.isNon, cMax2_v, cMin2_v, isStr, isInt, isBl, isTup, isLst, apart, flat, stR, dLstRg1_eq, dLstRg2_eq, oEqD, oNeD, List.cons_append, List.nil_append, List.map_cons, List.map_nil, List.getElem?_cons_zero, List.getElem?_cons_succ, List.set_cons_zero, List.set_cons_succ, List.length_cons, List.length_nil, List.nodup_cons, List.nodup_nil, List.mem_singleton, List.not_mem_nil, rst, wipeD, or_false, false_or, or_self, reduceCtorEq, Nat.reduceEqDiff, Nat.reduceAdd, Nat.reduceLeDiff, Nat.zero_le, Nat.succ_ne_self, Option.getD_some, Option.some.injEq, exists_eq_left', true_and, and_true, and_self, true_implies, implies_true, not_false_eq_true, not_true_eq_false, decide_eq_true_eq, if_true, if_false, ↓reduceIte, Bool.false_eq_true, Bool.not_true, Bool.not_false, decide_true, decide_false, Bool.true_eq_false, eq_self, w_raise, w_try, w_qTry, ew0, ew1, ew2, ew3, ew4, ew5, ew6, ew7, ew8, ew9, ew10, ew11, ew12, w_enS, w_qEnX, w_listS, w_sindex, oRepT_v, w_oCat, oCat2_s, w_oRep, oRep2_s, own_f, own_b, ownLs_l, w_cix, w_qCix, w_end, w_qEnd, g1_v, g1s_v, g2_v, gM_v, isObR_v, w_consO, w_qConsO, w_qConsO2, w_post, w_qPost, isLenR_v, isBlR_v, w_fld, w_qFld0, w_qFld1, w_qFld2, isOb, w_obNew, w_qObNew, w_bool, w_obEqS, w_qObEqS, w_orT, w_qOrT0, w_qOrT1])
theorem fn_is_row {f : Addr} {fd : FuncData} (F : Fun K "is_row" "is_row" st_is_row f fd) (B : Bi mgl)  (c_COMMANDS : GC K mgl "COMMANDS" (.str [99, 110, 112])) (c_MAX_ROW : GC K mgl "MAX_ROW" (.int 40)) : FnOk P WW.w K mgl base (L2N.CX P WW.w) 1 f fd ["value"] (toSp K 1 S_is_row) := by
  refine fnd' F sc_is_row rfl false [.no] rfl (fun cdv A outer s H E hr tk => (dss_one (ds_ret (de_and (de_isi kStr B.isinstance B.str (by decide +kernel) (de_var 0)) (de_and (de_cmp op_le (od_I0 (g := fun i j => .bl (decide (i ≤ j)))) (de_cb call_len cd_len B.len PySem.boot_len (da_cons (de_var 0) da_nil)) (de_gc c_MAX_ROW)) (de_one (de_cb (cr_all rfl) cd_all B.all (by decide +kernel) (da_cons (de_lc (own := [("command", 1)]) (nt := .one 1) rfl sc_is_row.nd (di_str (de_var 0)) (blkOk_by (own := [("command", 1)]) (N := nm_is_row) (sc := defScope (st_is_row)) (by decide +kernel)) (by decide) (fun _ _ _ _ _ => (pg_name (i := 1) sc_is_row.nd rfl (by first | exact Or.inl rfl | exact Or.inr rfl))) (fun _ _ _ _ _ => dts_nil) (fun _ _ _ _ _ => (de_cmp op_in_sign (od_inC (neg := false)) (de_var 1) (de_gc c_COMMANDS)))) da_nil)))))))) ?_
  intro ρ Q E h _
  match ρ, h with
  | [.v d], h =>
    have h : SL d ∧ Q (.v (.bl (rowD d))) [.v d] := h
    obtain ⟨hl, k⟩ := h
    cases d with
    | str l =>
      have hl := hl l rfl
      walk_at "is_row"
      change Q (.v (.bl (rowB l))) [.v (.str l)] at k
      refine ⟨hl, ?_⟩
      split
      · rename_i h40
        refine lc_i (fun d => match d with | .str [c] => some (.bl (decide (c ∈ [99, 110, 112]))) | _ => none) (noLs_of rfl) (by rw [chs_len]; exact hl) trivial (fun i d e => ?_) fun a => ?_
        · obtain ⟨c, _, rfl⟩ := chs_get.mp e
          refine ⟨_, rfl, ?_⟩
          simp only [wipeD, rst]
          walk_at "is_row"
        · walk_at "is_row"
          have e : (chs l).filterMap (fun d => match d with | .str [c] => some (.bl (decide (c ∈ [99, 110, 112]))) | _ => none) = (l.map fun c => decide (c ∈ [99, 110, 112])).map D.bl := by
            exact row_map
          refine all_i e ?_
          have e2 : (l.map fun c => decide (c ∈ [99, 110, 112])).all id = rowB l := by
            unfold rowB
            rw [List.all_map, decide_eq_true (by omega), Bool.true_and]
            rfl
          rw [e2]
          walk_at "is_row"
          exact k
      · rename_i h40
        have : rowB l = false := by
          unfold rowB
          rw [decide_eq_false (by omega), Bool.false_and]
        rw [this] at k
        exact k
    | _ =>
      walk_at "is_row"
      exact k
theorem ok_is_row (hD : DefAt K mgl "is_row" st_is_row ["value"]) (B : Bi mgl)  (c_COMMANDS : GC K mgl "COMMANDS" (.str [99, 110, 112])) (c_MAX_ROW : GC K mgl "MAX_ROW" (.int 40)) : Cal P WW.w K mgl base 1 1 "is_row" S_is_row := cal_of hD fun f fd F => fn_is_row F B  c_COMMANDS c_MAX_ROW
abbrev st_require_kind : Stmt := topS 26
abbrev nm_require_kind : List Str := ["value"]
theorem sc_require_kind : FnScope nm_require_kind ["value"] (defScope st_require_kind) := ⟨rfl, rfl, rfl, by decide +kernel, rfl, by decide +kernel, by decide +kernel⟩
def S_require_kind : TD := fun ρ Q E => match ρ with
  | [.v d] => if kindD d = true then Q (.v .non) [.v d] else E 0 [.v d]
  | _ => False
theorem S_require_kind_eq {d : D} {Q : CtR} {E : EX} : S_require_kind [.v d] Q E = (if kindD d = true then Q (.v .non) [.v d] else E 0 [.v d]) := rfl
local macro_rules | `(tactic| walk_at "require_kind") => `(tactic| simp (config := { maxSteps := 10000000 }) only [w_var, w_sl_v, w_sl_l, w_c, w_op, w_qOp, w_qOp2, w_qB, w_test, w_and, w_or, w_not, w_qAnd, w_qOr, w_qNot, w_andV, w_orV, w_notV, w_qAndV, w_qOrV, w_qNotV, w_qI, w_neg, w_qNeg, w_if, w_qIf, w_chain, w_qCh, w_qCh2, w_qCh4, w_nil, w_cons, w_qCons, w_qCons2, fzL_nil, fzL_v, fzL_f, noB_nil, noB_v, noB_f, w_tup, w_lst, w_qTup, w_qLst, w_next, w_seq, w_break, w_drop, w_qDrop, w_ret, w_ifS, w_qIfS, w_set, w_qSet, asg_v, asg_f, asg_b, w_par, w_qPar, w_parT, w_qParT, asgs_c, asgs_n, w_asg, w_qAsg, w_hName, w_hCons, w_qH, hNil_n, hTup_t, w_be, w_qRt, w_qNx, w_qEx, w_nowh, ret_v, ret_f, ret_ft, ret_b, retB_l, retB_lt, mg_l, mg_v, mg_n, mgOk_l, mgOk_v, mgOk_n, w_call, w_qCall, w_qWb, w_qWe, argE_v, argE_f, argE_b, lOnly_l, bis_n, bis_b, bis_v, bis_f, wb_b, wb_v, wb_f, wb_n, dat_v, dat_f, dat_b, datS_l, ls_l, ts_t, seq_l, seq_t, w_ixL, w_ixT, w_ixS, at_0, at_1, at_2, at_3, own_l, up_0, up_1, w_setIx, w_qSx_v, w_qSx_f, w_qSx2, w_qSx3, w_app_v, w_app_f, w_qApp, w_popAt, w_pop, w_bm', w_qBm, w_qBm2, w_bm0, w_qBm0, ty_s, ty_l, w_some, w_qSome, w_no, w_slc, w_qSlc, w_qSl2, w_qSl3, w_sL, w_qCut, sS_v, sT_v, w_cb, w_qCB, w_len, len_l, len_t, len_s, w_tupOf, w_listOf, w_qTo, w_qLo, w_all, w_isi, w_qIsi, w_sort, w_count, w_frz, frz_l, frz_v, w_join, w_dix, w_qDix, w_int, oIsB_v, oNotB_v, w_diS, w_diT, w_diL, w_qIS, w_qIT, w_qIL, w_qILd, w_diR1, w_diR2, w_qR1, w_qR2, w_for, w_qTurn, w_lessI, w_qWhile, w_lc, w_lcT2_v, w_lcT, dNever, dYes, oI0_v, oI_v, oEq_v, oNe_v, scD_ii, scD_ss, scD_bb, scD_nn, scD_ns, scD_sn, eqF_ii, eqF_ss, eqF_bb, eqF_nn, eqF_ns, eqF_sn, oAddS_v, oMulS_v, oInC_v, oIn_v, oCatT_v, oIsN_v, oNotN_v, DL.isNon, cMax2_v, cMin2_v, isStr, isInt, isBl, isTup, isLst, apart, flat, stR, dLstRg1_eq, dLstRg2_eq, oEqD, oNeD, List.cons_append, List.nil_append, List.map_cons, List.map_nil, List.getElem?_cons_zero, List.getElem?_cons_succ, List.set_cons_zero, List.set_cons_succ, List.length_cons, List.length_nil, List.nodup_cons, List.nodup_nil, List.mem_singleton, List.not_mem_nil, rst, wipeD, or_false, false_or, or_self, reduceCtorEq, Nat.reduceEqDiff, Nat.reduceAdd, Nat.reduceLeDiff, Nat.zero_le, Nat.succ_ne_self, Option.getD_some, Option.some.injEq, exists_eq_left', true_and, and_true, and_self, true_implies, implies_true, not_false_eq_true, not_true_eq_false, decide_eq_true_eq, if_true, if_false, ↓reduceIte, Bool.false_eq_true, Bool.not_true, Bool.not_false, decide_true, decide_false, Bool.true_eq_false, eq_self, w_raise, w_try, w_qTry, ew0, ew1, ew2, ew3, ew4, ew5, ew6, ew7, ew8, ew9, ew10, ew11, ew12, w_enS, w_qEnX, w_listS, w_sindex, oRepT_v, w_oCat, oCat2_s, w_oRep, oRep2_s, own_f, own_b, ownLs_l, w_cix, w_qCix, w_end, w_qEnd, g1_v, g1s_v, g2_v, gM_v, isObR_v, w_consO, w_qConsO, w_qConsO2, w_post, w_qPost, isLenR_v, isBlR_v, w_fld, w_qFld0, w_qFld1, w_qFld2, isOb, w_obNew, w_qObNew, w_bool, w_obEqS, w_qObEqS, w_orT, w_qOrT0, w_qOrT1])
theorem fn_require_kind {f : Addr} {fd : FuncData} (F : Fun K "require_kind" "require_kind" st_require_kind f fd) (B : Bi mgl)  (c_KINDS : GC K mgl "KINDS" (.tup [.str [114, 105, 103, 104, 116], .str [108, 101, 102, 116]])) {eB : Addr} {eAs : List Addr} (Er : ErrM K mgl eB eAs) : FnOk P WW.w K mgl base (L2N.CX P WW.w) 1 f fd ["value"] (toSp K 1 S_require_kind) := by
  refine fnd' F sc_require_kind rfl false [] rfl (fun cdv A outer s H E hr tk => (dss_one (ds_if (dt_w (dw_or (dt_not (dt_val (de_isi kStr B.isinstance B.str (by decide +kernel) (de_var 0)))) (dw_or1 (dt_cmp op_notIn_seq od_in (de_var 0) (de_gc c_KINDS))))) (dss_one (ds_raise Er rfl tk 0 rfl rfl)) dss_nil))) ?_
  intro ρ Q E h _
  match ρ, h with
  | [.v d], h =>
    have h : if kindD d = true then Q (.v .non) [.v d] else E 0 [.v d] := h
    cases d with
    | str l =>
      walk_at "require_kind"
      simp only [inD_s_cons, inD_nil, Bool.or_false, all_f_s, all_f_nil, true_and]
      have e : (decide (l = [114, 105, 103, 104, 116]) || decide (l = [108, 101, 102, 116])) = kindD (.str l) := rfl
      rw [e]
      cases q : kindD (.str l) with
      | true => rw [q] at h; rw [if_pos rfl] at h; exact h
      | false => rw [q, if_neg (by decide)] at h; exact h
    | _ =>
      walk_at "require_kind"
      exact h
theorem ok_require_kind (hD : DefAt K mgl "require_kind" st_require_kind ["value"]) (B : Bi mgl)  (c_KINDS : GC K mgl "KINDS" (.tup [.str [114, 105, 103, 104, 116], .str [108, 101, 102, 116]])) {eB : Addr} {eAs : List Addr} (Er : ErrM K mgl eB eAs) : Cal P WW.w K mgl base 1 1 "require_kind" S_require_kind := cal_of hD fun f fd F => fn_require_kind F B  c_KINDS Er
abbrev st_require_row : Stmt := topS 27
abbrev nm_require_row : List Str := ["value"]
theorem sc_require_row : FnScope nm_require_row ["value"] (defScope st_require_row) := ⟨rfl, rfl, rfl, by decide +kernel, rfl, by decide +kernel, by decide +kernel⟩
def S_require_row : TD := fun ρ Q E => match ρ with
  | [.v d] => SL d ∧ if rowD d = true then Q (.v .non) [.v d] else E 2 [.v d]
  | _ => False
theorem S_require_row_eq {d : D} {Q : CtR} {E : EX} : S_require_row [.v d] Q E = (SL d ∧ if rowD d = true then Q (.v .non) [.v d] else E 2 [.v d]) := rfl
local macro_rules | `(tactic| walk_at "require_row") => `(tactic| simp (config := { maxSteps := 10000000 }) only [w_var, w_sl_v, w_sl_l, w_c, w_op, w_qOp, w_qOp2, w_qB, w_test, w_and, w_or, w_not, w_qAnd, w_qOr, w_qNot, w_andV, w_orV, w_notV, w_qAndV, w_qOrV, w_qNotV, w_qI, w_neg, w_qNeg, w_if, w_qIf, w_chain, w_qCh, w_qCh2, w_qCh4, w_nil, w_cons, w_qCons, w_qCons2, fzL_nil, fzL_v, fzL_f, noB_nil, noB_v, noB_f, w_tup, w_lst, w_qTup, w_qLst, w_next, w_seq, w_break, w_drop, w_qDrop, w_ret, w_ifS, w_qIfS, w_set, w_qSet, asg_v, asg_f, asg_b, w_par, w_qPar, w_parT, w_qParT, asgs_c, asgs_n, w_asg, w_qAsg, w_hName, w_hCons, w_qH, hNil_n, hTup_t, w_be, w_qRt, w_qNx, w_qEx, w_nowh, ret_v, ret_f, ret_ft, ret_b, retB_l, retB_lt, mg_l, mg_v, mg_n, mgOk_l, mgOk_v, mgOk_n, w_call, w_qCall, w_qWb, w_qWe, argE_v, argE_f, argE_b, lOnly_l, bis_n, bis_b, bis_v, bis_f, wb_b, wb_v, wb_f, wb_n, dat_v, dat_f, dat_b, datS_l, ls_l, ts_t, seq_l, seq_t, w_ixL, w_ixT, w_ixS, at_0, at_1, at_2, at_3, own_l, up_0, up_1, w_setIx, w_qSx_v, w_qSx_f, w_qSx2, w_qSx3, w_app_v, w_app_f, w_qApp, w_popAt, w_pop, w_bm', w_qBm, w_qBm2, w_bm0, w_qBm0, ty_s, ty_l, w_some, w_qSome, w_no, w_slc, w_qSlc, w_qSl2, w_qSl3, w_sL, w_qCut, sS_v, sT_v, w_cb, w_qCB, w_len, len_l, len_t, len_s, w_tupOf, w_listOf, w_qTo, w_qLo, w_all, w_isi, w_qIsi, w_sort, w_count, w_frz, frz_l, frz_v, w_join, w_dix, w_qDix, w_int, oIsB_v, oNotB_v, w_diS, w_diT, w_diL, w_qIS, w_qIT, w_qIL, w_qILd, w_diR1, w_diR2, w_qR1, w_qR2, w_for, w_qTurn, w_lessI, w_qWhile, w_lc, w_lcT2_v, w_lcT, dNever, dYes, oI0_v, oI_v, oEq_v, oNe_v, scD_ii, scD_ss, scD_bb, scD_nn, scD_ns, scD_sn, eqF_ii, eqF_ss, eqF_bb, eqF_nn, eqF_ns, eqF_sn, oAddS_v, oMulS_v, oInC_v, oIn_v, oCatT_v, oIsN_v, oNotN_v, DL.isNon, cMax2_v, cMin2_v, isStr, isInt, isBl, isTup, isLst, apart, flat, stR, dLstRg1_eq, dLstRg2_eq, oEqD, oNeD, List.cons_append, List.nil_append, List.map_cons, List.map_nil, List.getElem?_cons_zero, List.getElem?_cons_succ, List.set_cons_zero, List.set_cons_succ, List.length_cons, List.length_nil, List.nodup_cons, List.nodup_nil, List.mem_singleton, List.not_mem_nil, rst, wipeD, or_false, false_or, or_self, reduceCtorEq, Nat.reduceEqDiff, Nat.reduceAdd, Nat.reduceLeDiff, Nat.zero_le, Nat.succ_ne_self, Option.getD_some, Option.some.injEq, exists_eq_left', true_and, and_true, and_self, true_implies, implies_true, not_false_eq_true, not_true_eq_false, decide_eq_true_eq, if_true, if_false, ↓reduceIte, Bool.false_eq_true, Bool.not_true, Bool.not_false, decide_true, decide_false, Bool.true_eq_false, eq_self, w_raise, w_try, w_qTry, ew0, ew1, ew2, ew3, ew4, ew5, ew6, ew7, ew8, ew9, ew10, ew11, ew12, w_enS, w_qEnX, w_listS, w_sindex, oRepT_v, w_oCat, oCat2_s, w_oRep, oRep2_s, own_f, own_b, ownLs_l, w_cix, w_qCix, w_end, w_qEnd, g1_v, g1s_v, g2_v, gM_v, isObR_v, w_consO, w_qConsO, w_qConsO2, w_post, w_qPost, isLenR_v, isBlR_v, w_fld, w_qFld0, w_qFld1, w_qFld2, isOb, w_obNew, w_qObNew, w_bool, w_obEqS, w_qObEqS, w_orT, w_qOrT0, w_qOrT1, S_is_row_eq])
theorem fn_require_row {f : Addr} {fd : FuncData} (F : Fun K "require_row" "require_row" st_require_row f fd) (B : Bi mgl) (C_is_row : Cal P WW.w K mgl base 1 1 "is_row" S_is_row)  {eB : Addr} {eAs : List Addr} (Er : ErrM K mgl eB eAs) : FnOk P WW.w K mgl base (L2N.CX P WW.w) 2 f fd ["value"] (toSp K 1 S_require_row) := by
  refine fnd' F sc_require_row rfl false [] rfl (fun cdv A outer s H E hr tk => (dss_one (ds_if (dt_not (dt_val (de_cal C_is_row tk (hr.mono (by decide)) (da_cons (de_var 0) da_nil)))) (dss_one (ds_raise Er rfl tk 2 rfl rfl)) dss_nil))) ?_
  intro ρ Q E h _
  match ρ, h with
  | [.v d], h =>
    have h : SL d ∧ if rowD d = true then Q (.v .non) [.v d] else E 2 [.v d] := h
    obtain ⟨hl, k⟩ := h
    walk_at "require_row"
    refine ⟨hl, ?_⟩
    cases q : rowD d with
    | true => rw [q, if_pos rfl] at k; exact k
    | false => rw [q, if_neg (by decide)] at k; exact k
theorem ok_require_row (hD : DefAt K mgl "require_row" st_require_row ["value"]) (B : Bi mgl) (C_is_row : Cal P WW.w K mgl base 1 1 "is_row" S_is_row)  {eB : Addr} {eAs : List Addr} (Er : ErrM K mgl eB eAs) : Cal P WW.w K mgl base 2 1 "require_row" S_require_row := cal_of hD fun f fd F => fn_require_row F B C_is_row  Er
abbrev st_is_integer : Stmt := topS 21
abbrev nm_is_integer : List Str := ["value", "low", "high"]
theorem sc_is_integer : FnScope nm_is_integer ["value", "low", "high"] (defScope st_is_integer) := ⟨rfl, rfl, rfl, by decide +kernel, rfl, by decide +kernel, by decide +kernel⟩
def S_is_integer : TD := fun ρ Q E => match ρ with
  | [.v d, .v (.int lo), .v (.int hi)] => Q (.v (.bl (isIntD d lo hi))) [.v d, .v (.int lo), .v (.int hi)]
  | _ => False
theorem S_is_integer_eq {d : D} {lo hi : Int} {Q : CtR} {E : EX} : S_is_integer [.v d, .v (.int lo), .v (.int hi)] Q E = (Q (.v (.bl (isIntD d lo hi))) [.v d, .v (.int lo), .v (.int hi)]) := rfl
local macro_rules | `(tactic| walk_at "is_integer") => `(tactic| simp (config := { maxSteps := 10000000 }) only [w_var, w_sl_v, w_sl_l, w_c, w_op, w_qOp, w_qOp2, w_qB, w_test, w_and, w_or, w_not, w_qAnd, w_qOr, w_qNot, w_andV, w_orV, w_notV, w_qAndV, w_qOrV, w_qNotV, w_qI, w_neg, w_qNeg, w_if, w_qIf, w_chain, w_qCh, w_qCh2, w_qCh4, w_nil, w_cons, w_qCons, w_qCons2, fzL_nil, fzL_v, fzL_f, noB_nil, noB_v, noB_f, w_tup, w_lst, w_qTup, w_qLst, w_next, w_seq, w_break, w_drop, w_qDrop, w_ret, w_ifS, w_qIfS, w_set, w_qSet, asg_v, asg_f, asg_b, w_par, w_qPar, w_parT, w_qParT, asgs_c, asgs_n, w_asg, w_qAsg, w_hName, w_hCons, w_qH, hNil_n, hTup_t, w_be, w_qRt, w_qNx, w_qEx, w_nowh, ret_v, ret_f, ret_ft, ret_b, retB_l, retB_lt, mg_l, mg_v, mg_n, mgOk_l, mgOk_v, mgOk_n, w_call, w_qCall, w_qWb, w_qWe, argE_v, argE_f, argE_b, lOnly_l, bis_n, bis_b, bis_v, bis_f, wb_b, wb_v, wb_f, wb_n, dat_v, dat_f, dat_b, datS_l, ls_l, ts_t, seq_l, seq_t, w_ixL, w_ixT, w_ixS, at_0, at_1, at_2, at_3, own_l, up_0, up_1, w_setIx, w_qSx_v, w_qSx_f, w_qSx2, w_qSx3, w_app_v, w_app_f, w_qApp, w_popAt, w_pop, w_bm', w_qBm, w_qBm2, w_bm0, w_qBm0, ty_s, ty_l, w_some, w_qSome, w_no, w_slc, w_qSlc, w_qSl2, w_qSl3, w_sL, w_qCut, sS_v, sT_v, w_cb, w_qCB, w_len, len_l, len_t, len_s, w_tupOf, w_listOf, w_qTo, w_qLo, w_all, w_isi, w_qIsi, w_sort, w_count, w_frz, frz_l, frz_v, w_join, w_dix, w_qDix, w_int, oIsB_v, oNotB_v, w_diS, w_diT, w_diL, w_qIS, w_qIT, w_qIL, w_qILd, w_diR1, w_diR2, w_qR1, w_qR2, w_for, w_qTurn, w_lessI, w_qWhile, w_lc, w_lcT2_v, w_lcT, dNever, dYes, oI0_v, oI_v, oEq_v, oNe_v, scD_ii, scD_ss, scD_bb, scD_nn, scD_ns, scD_sn, eqF_ii, eqF_ss, eqF_bb, eqF_nn, eqF_ns, eqF_sn, oAddS_v, oMulS_v, oInC_v, oIn_v, oCatT_v, oIsN_v, oNotN_v, DL.isNon, cMax2_v, cMin2_v, isStr, isInt, isBl, isTup, isLst, apart, flat, stR, dLstRg1_eq, dLstRg2_eq, oEqD, oNeD, List.cons_append, List.nil_append, List.map_cons, List.map_nil, List.getElem?_cons_zero, List.getElem?_cons_succ, List.set_cons_zero, List.set_cons_succ, List.length_cons, List.length_nil, List.nodup_cons, List.nodup_nil, List.mem_singleton, List.not_mem_nil, rst, wipeD, or_false, false_or, or_self, reduceCtorEq, Nat.reduceEqDiff, Nat.reduceAdd, Nat.reduceLeDiff, Nat.zero_le, Nat.succ_ne_self, Option.getD_some, Option.some.injEq, exists_eq_left', true_and, and_true, and_self, true_implies, implies_true, not_false_eq_true, not_true_eq_false, decide_eq_true_eq, if_true, if_false, ↓reduceIte, Bool.false_eq_true, Bool.not_true, Bool.not_false, decide_true, decide_false, Bool.true_eq_false, eq_self, w_raise, w_try, w_qTry, ew0, ew1, ew2, ew3, ew4, ew5, ew6, ew7, ew8, ew9, ew10, ew11, ew12, w_enS, w_qEnX, w_listS, w_sindex, oRepT_v, w_oCat, oCat2_s, w_oRep, oRep2_s, own_f, own_b, ownLs_l, w_cix, w_qCix, w_end, w_qEnd, g1_v, g1s_v, g2_v, gM_v, isObR_v, w_consO, w_qConsO, w_qConsO2, w_post, w_qPost, isLenR_v, isBlR_v, w_fld, w_qFld0, w_qFld1, w_qFld2, isOb, w_obNew, w_qObNew, w_bool, w_obEqS, w_qObEqS, w_orT, w_qOrT0, w_qOrT1])
theorem fn_is_integer {f : Addr} {fd : FuncData} (F : Fun K "is_integer" "is_integer" st_is_integer f fd) (B : Bi mgl)   : FnOk P WW.w K mgl base (L2N.CX P WW.w) 1 f fd ["value", "low", "high"] (toSp K 3 S_is_integer) := by
  refine fnd' F sc_is_integer rfl false [] rfl (fun cdv A outer s H E hr tk => (dss_one (ds_ret (de_and (de_isi kInt B.isinstance B.int (by decide +kernel) (de_var 0)) (de_and (de_not (de_isi kBl B.isinstance B.bool (by decide +kernel) (de_var 0))) (de_one (de_chain op_le op_le (od_I0 (g := fun i j => .bl (decide (i ≤ j)))) (od_I0 (g := fun i j => .bl (decide (i ≤ j)))) (de_var 1) (de_var 0) (de_var 2)))))))) ?_
  intro ρ Q E h _
  match ρ, h with
  | [.v d, .v (.int lo), .v (.int hi)], h =>
    have h : Q (.v (.bl (isIntD d lo hi))) [.v d, .v (.int lo), .v (.int hi)] := h
    walk_at "is_integer"
    cases d with
    | int i =>
      walk_at "is_integer"
      rw [isIntD_int] at h
      by_cases h1 : lo ≤ i
      · rw [if_pos h1]
        rw [decide_eq_true h1, Bool.true_and] at h
        exact h
      · rw [if_neg h1]
        rw [decide_eq_false h1, Bool.false_and] at h
        exact h
    | _ =>
      walk_at "is_integer"
      exact h
theorem ok_is_integer (hD : DefAt K mgl "is_integer" st_is_integer ["value", "low", "high"]) (B : Bi mgl)   : Cal P WW.w K mgl base 1 3 "is_integer" S_is_integer := cal_of hD fun f fd F => fn_is_integer F B  
abbrev st_Ltabs : Stmt := topS 41
abbrev nm_Ltabs : List Str := ["_law_source_here", "_law_least", "_law_most", "_law_left", "_law_found", "_law_turn"]
theorem sc_Ltabs : FnScope nm_Ltabs ["_law_source_here", "_law_least", "_law_most"] (defScope st_Ltabs) := ⟨rfl, rfl, rfl, by decide +kernel, rfl, by decide +kernel, by decide +kernel⟩
def S_Ltabs : TD := fun ρ Q E => match ρ with
  | [.l a [.int x, .int y, .int z], .v (.int le), .v (.int mo)] => Src z ∧ 0 ≤ le ∧ le ≤ mo ∧ mo ≤ 26 ∧ ∀ (t : List Nat) (x' y' : Int), t.Nodup → (∀ c ∈ t, 97 ≤ c ∧ c ≤ 122) → le ≤ t.length → t.length ≤ mo → Q (.v (.str t)) [.l a [.int x', .int y', .int z], .v (.int le), .v (.int mo)]
  | _ => False
theorem S_Ltabs_eq {a : Addr} {x y z le mo : Int} {Q : CtR} {E : EX} : S_Ltabs [.l a [.int x, .int y, .int z], .v (.int le), .v (.int mo)] Q E = (Src z ∧ 0 ≤ le ∧ le ≤ mo ∧ mo ≤ 26 ∧ ∀ (t : List Nat) (x' y' : Int), t.Nodup → (∀ c ∈ t, 97 ≤ c ∧ c ≤ 122) → le ≤ t.length → t.length ≤ mo → Q (.v (.str t)) [.l a [.int x', .int y', .int z], .v (.int le), .v (.int mo)]) := rfl
local macro_rules | `(tactic| walk_at "Ltabs") => `(tactic| simp (config := { maxSteps := 10000000 }) only [w_var, w_sl_v, w_sl_l, w_c, w_op, w_qOp, w_qOp2, w_qB, w_test, w_and, w_or, w_not, w_qAnd, w_qOr, w_qNot, w_andV, w_orV, w_notV, w_qAndV, w_qOrV, w_qNotV, w_qI, w_neg, w_qNeg, w_if, w_qIf, w_chain, w_qCh, w_qCh2, w_qCh4, w_nil, w_cons, w_qCons, w_qCons2, fzL_nil, fzL_v, fzL_f, noB_nil, noB_v, noB_f, w_tup, w_lst, w_qTup, w_qLst, w_next, w_seq, w_break, w_drop, w_qDrop, w_ret, w_ifS, w_qIfS, w_set, w_qSet, asg_v, asg_f, asg_b, w_par, w_qPar, w_parT, w_qParT, asgs_c, asgs_n, w_asg, w_qAsg, w_hName, w_hCons, w_qH, hNil_n, hTup_t, w_be, w_qRt, w_qNx, w_qEx, w_nowh, ret_v, ret_f, ret_ft, ret_b, retB_l, retB_lt, mg_l, mg_v, mg_n, mgOk_l, mgOk_v, mgOk_n, w_call, w_qCall, w_qWb, w_qWe, argE_v, argE_f, argE_b, lOnly_l, bis_n, bis_b, bis_v, bis_f, wb_b, wb_v, wb_f, wb_n, dat_v, dat_f, dat_b, datS_l, ls_l, ts_t, seq_l, seq_t, w_ixL, w_ixT, w_ixS, at_0, at_1, at_2, at_3, own_l, up_0, up_1, w_setIx, w_qSx_v, w_qSx_f, w_qSx2, w_qSx3, w_app_v, w_app_f, w_qApp, w_popAt, w_pop, w_bm', w_qBm, w_qBm2, w_bm0, w_qBm0, ty_s, ty_l, w_some, w_qSome, w_no, w_slc, w_qSlc, w_qSl2, w_qSl3, w_sL, w_qCut, sS_v, sT_v, w_cb, w_qCB, w_len, len_l, len_t, len_s, w_tupOf, w_listOf, w_qTo, w_qLo, w_all, w_isi, w_qIsi, w_sort, w_count, w_frz, frz_l, frz_v, w_join, w_dix, w_qDix, w_int, oIsB_v, oNotB_v, w_diS, w_diT, w_diL, w_qIS, w_qIT, w_qIL, w_qILd, w_diR1, w_diR2, w_qR1, w_qR2, w_for, w_qTurn, w_lessI, w_qWhile, w_lc, w_lcT2_v, w_lcT, dNever, dYes, oI0_v, oI_v, oEq_v, oNe_v, scD_ii, scD_ss, scD_bb, scD_nn, scD_ns, scD_sn, eqF_ii, eqF_ss, eqF_bb, eqF_nn, eqF_ns, eqF_sn, oAddS_v, oMulS_v, oInC_v, oIn_v, oCatT_v, oIsN_v, oNotN_v, DL.isNon, cMax2_v, cMin2_v, isStr, isInt, isBl, isTup, isLst, apart, flat, stR, dLstRg1_eq, dLstRg2_eq, oEqD, oNeD, List.cons_append, List.nil_append, List.map_cons, List.map_nil, List.getElem?_cons_zero, List.getElem?_cons_succ, List.set_cons_zero, List.set_cons_succ, List.length_cons, List.length_nil, List.nodup_cons, List.nodup_nil, List.mem_singleton, List.not_mem_nil, rst, wipeD, or_false, false_or, or_self, reduceCtorEq, Nat.reduceEqDiff, Nat.reduceAdd, Nat.reduceLeDiff, Nat.zero_le, Nat.succ_ne_self, Option.getD_some, Option.some.injEq, exists_eq_left', true_and, and_true, and_self, true_implies, implies_true, not_false_eq_true, not_true_eq_false, decide_eq_true_eq, if_true, if_false, ↓reduceIte, Bool.false_eq_true, Bool.not_true, Bool.not_false, decide_true, decide_false, Bool.true_eq_false, eq_self, w_raise, w_try, w_qTry, ew0, ew1, ew2, ew3, ew4, ew5, ew6, ew7, ew8, ew9, ew10, ew11, ew12, w_enS, w_qEnX, w_listS, w_sindex, oRepT_v, w_oCat, oCat2_s, w_oRep, oRep2_s, own_f, own_b, ownLs_l, w_cix, w_qCix, w_end, w_qEnd, g1_v, g1s_v, g2_v, gM_v, isObR_v, w_consO, w_qConsO, w_qConsO2, w_post, w_qPost, isLenR_v, isBlR_v, w_fld, w_qFld0, w_qFld1, w_qFld2, isOb, w_obNew, w_qObNew, w_bool, w_obEqS, w_qObEqS, w_orT, w_qOrT0, w_qOrT1, S_Lpick_eq])
theorem fn_Ltabs {f : Addr} {fd : FuncData} (F : Fun K "_law_tabs" "_law_tabs" st_Ltabs f fd) (B : Bi mgl) (C_Lpick : Cal P WW.w K mgl base 1 2 "_law_pick" S_Lpick)  : FnOk P WW.w K mgl base (L2N.CX P WW.w) 2 f fd ["_law_source_here", "_law_least", "_law_most"] (toSp K 3 S_Ltabs) := by
  refine fnd' F sc_Ltabs rfl false [.no, .no, .no] rfl (fun cdv A outer s H E hr tk => (dss_cons (ds_par 3 4 rfl sc_Ltabs.nd rfl rfl (by decide) rfl rfl (da_cons (de_ct (HX.call_listS rfl) cd_listS B.list (by decide +kernel) (da_cons (de_str [97, 98, 99, 100, 101, 102, 103, 104, 105, 106, 107, 108, 109, 110, 111, 112, 113, 114, 115, 116, 117, 118, 119, 120, 121, 122]) da_nil)) (da_cons (de_str []) da_nil)))
    (dss_cons (ds_for (passes_of rfl) rfl (di_range1 B.range (da_cons (de_op op_add (od_I0 (g := fun i j => .int (i + j))) (de_var 1) (de_cal C_Lpick tk (hr.mono (by decide)) (da_cons (de_var 0) (da_cons (de_op op_add (od_I0 (g := fun i j => .int (i + j))) (de_op op_sub (od_I0 (g := fun i j => .int (i - j))) (de_var 2) (de_var 1)) de_int) da_nil)))) da_nil)) (dg_name 5 sc_Ltabs.nd rfl (by first | exact Or.inl rfl | exact Or.inr rfl))
    (dss_one (ds_set 4 sc_Ltabs.nd rfl (by first | exact Or.inl rfl | exact Or.inr rfl) (de_op op_add_str od_addS (de_var 4) (de_bm PySem.F.plainAttrs_list PySem.F.slot_list_pop PySem.F.type_list_pop mt_popAt md_popAt (de_var 3) (da_cons (de_cal C_Lpick tk (hr.mono (by decide)) (da_cons (de_var 0) (da_cons (de_cb call_len cd_len B.len PySem.boot_len (da_cons (de_var 3) da_nil)) da_nil))) da_nil))))))
    (dss_one (ds_ret (de_var 4)))))) ?_
  intro ρ Q E h _
  match ρ, h with
  | [.l a [.int x, .int y, .int z], .v (.int le), .v (.int mo)], h =>
    have h : Src z ∧ 0 ≤ le ∧ le ≤ mo ∧ mo ≤ 26 ∧ ∀ (t : List Nat) (x' y' : Int), t.Nodup → (∀ c ∈ t, 97 ≤ c ∧ c ≤ 122) → le ≤ t.length → t.length ≤ mo → Q (.v (.str t)) [.l a [.int x', .int y', .int z], .v (.int le), .v (.int mo)] := h
    obtain ⟨hz, l0, l1, l2, k⟩ := h
    walk_at "Ltabs"
    refine fun a1 => ⟨hz, by omega, fun r x1 y1 r0 r1 => ⟨by omega, ?_⟩⟩
    refine for_i (fun i ρ' => ∃ ls f x y s5, ρ' = [.l a [.int x, .int y, .int z], .v (.int le), .v (.int mo), .l a1 (chs ls), .v (.str f), s5] ∧ (f ++ ls).Nodup ∧ (∀ c ∈ f ++ ls, 97 ≤ c ∧ c ≤ 122) ∧ f.length = i ∧ ls.length + i = 26) ⟨ABC, [], _, _, _, rfl, abc_ok.1, abc_ok.2.2, rfl, abc_ok.2.1⟩ ?_ ?_
    · rintro i d ρ' hd ⟨ls, f, x, y, s5, rfl, nd, al, fl, ll⟩
      obtain ⟨hi, rfl⟩ := rgD_get.mp hd
      refine ⟨trivial, ?_⟩
      walk_at "Ltabs"
      have hc : (chs ls).length = ls.length := chs_len ls
      refine ⟨hz, by omega, fun q x2 y2 q0 q1 => ?_⟩
      have hq : q.toNat < ls.length := by omega
      have hget : ls[q.toNat]? = some ls[q.toNat] := List.getElem?_eq_getElem hq
      refine pop_nth (g := fun c => D.str [c]) (xs := ls) (n := q.toNat) (by omega) hget (by omega) ?_
      obtain ⟨p1, p2, p3⟩ := pop_ok hget nd al
      walk_at "Ltabs"
      refine ⟨by omega, ls.eraseIdx q.toNat, f ++ [ls[q.toNat]], _, _, _, rfl, p1, p2, by simp; omega, by omega⟩
    · rintro ρ' ⟨ls, f, x, y, s5, rfl, nd, al, fl, ll⟩
      refine ⟨trivial, ?_⟩
      walk_at "Ltabs"
      have hr : (rgD 0 (le + r).toNat).length = (le + r).toNat := by simp [rgD]
      rw [hr] at fl
      exact k f _ _ (List.nodup_append.mp nd).1 (fun c hc => al c (List.mem_append_left _ hc)) (by omega) (by omega)
theorem ok_Ltabs (hD : DefAt K mgl "_law_tabs" st_Ltabs ["_law_source_here", "_law_least", "_law_most"]) (B : Bi mgl) (C_Lpick : Cal P WW.w K mgl base 1 2 "_law_pick" S_Lpick)  : Cal P WW.w K mgl base 2 3 "_law_tabs" S_Ltabs := cal_of hD fun f fd F => fn_Ltabs F B C_Lpick 
abbrev st_Lstate : Stmt := topS 42
abbrev nm_Lstate : List Str := ["_law_source_here", "_law_least", "_law_most", "_law_tabs_so"]
theorem sc_Lstate : FnScope nm_Lstate ["_law_source_here", "_law_least", "_law_most"] (defScope st_Lstate) := ⟨rfl, rfl, rfl, by decide +kernel, rfl, by decide +kernel, by decide +kernel⟩
def S_Lstate : TD := fun ρ Q E => match ρ with
  | [.l a [.int x, .int y, .int z], .v (.int le), .v (.int mo)] => Src z ∧ 1 ≤ le ∧ le ≤ mo ∧ mo ≤ 26 ∧ ∀ (t : List Nat) (p : Nat) (x' y' : Int), t.Nodup → (∀ c ∈ t, 97 ≤ c ∧ c ≤ 122) → le ≤ t.length → t.length ≤ mo → p < t.length → Q (.v (stD t p)) [.l a [.int x', .int y', .int z], .v (.int le), .v (.int mo)]
  | _ => False
theorem S_Lstate_eq {a : Addr} {x y z le mo : Int} {Q : CtR} {E : EX} : S_Lstate [.l a [.int x, .int y, .int z], .v (.int le), .v (.int mo)] Q E = (Src z ∧ 1 ≤ le ∧ le ≤ mo ∧ mo ≤ 26 ∧ ∀ (t : List Nat) (p : Nat) (x' y' : Int), t.Nodup → (∀ c ∈ t, 97 ≤ c ∧ c ≤ 122) → le ≤ t.length → t.length ≤ mo → p < t.length → Q (.v (stD t p)) [.l a [.int x', .int y', .int z], .v (.int le), .v (.int mo)]) := rfl
local macro_rules | `(tactic| walk_at "Lstate") => `(tactic| simp (config := { maxSteps := 10000000 }) only [w_var, w_sl_v, w_sl_l, w_c, w_op, w_qOp, w_qOp2, w_qB, w_test, w_and, w_or, w_not, w_qAnd, w_qOr, w_qNot, w_andV, w_orV, w_notV, w_qAndV, w_qOrV, w_qNotV, w_qI, w_neg, w_qNeg, w_if, w_qIf, w_chain, w_qCh, w_qCh2, w_qCh4, w_nil, w_cons, w_qCons, w_qCons2, fzL_nil, fzL_v, fzL_f, noB_nil, noB_v, noB_f, w_tup, w_lst, w_qTup, w_qLst, w_next, w_seq, w_break, w_drop, w_qDrop, w_ret, w_ifS, w_qIfS, w_set, w_qSet, asg_v, asg_f, asg_b, w_par, w_qPar, w_parT, w_qParT, asgs_c, asgs_n, w_asg, w_qAsg, w_hName, w_hCons, w_qH, hNil_n, hTup_t, w_be, w_qRt, w_qNx, w_qEx, w_nowh, ret_v, ret_f, ret_ft, ret_b, retB_l, retB_lt, mg_l, mg_v, mg_n, mgOk_l, mgOk_v, mgOk_n, w_call, w_qCall, w_qWb, w_qWe, argE_v, argE_f, argE_b, lOnly_l, bis_n, bis_b, bis_v, bis_f, wb_b, wb_v, wb_f, wb_n, dat_v, dat_f, dat_b, datS_l, ls_l, ts_t, seq_l, seq_t, w_ixL, w_ixT, w_ixS, at_0, at_1, at_2, at_3, own_l, up_0, up_1, w_setIx, w_qSx_v, w_qSx_f, w_qSx2, w_qSx3, w_app_v, w_app_f, w_qApp, w_popAt, w_pop, w_bm', w_qBm, w_qBm2, w_bm0, w_qBm0, ty_s, ty_l, w_some, w_qSome, w_no, w_slc, w_qSlc, w_qSl2, w_qSl3, w_sL, w_qCut, sS_v, sT_v, w_cb, w_qCB, w_len, len_l, len_t, len_s, w_tupOf, w_listOf, w_qTo, w_qLo, w_all, w_isi, w_qIsi, w_sort, w_count, w_frz, frz_l, frz_v, w_join, w_dix, w_qDix, w_int, oIsB_v, oNotB_v, w_diS, w_diT, w_diL, w_qIS, w_qIT, w_qIL, w_qILd, w_diR1, w_diR2, w_qR1, w_qR2, w_for, w_qTurn, w_lessI, w_qWhile, w_lc, w_lcT2_v, w_lcT, dNever, dYes, oI0_v, oI_v, oEq_v, oNe_v, scD_ii, scD_ss, scD_bb, scD_nn, scD_ns, scD_sn, eqF_ii, eqF_ss, eqF_bb, eqF_nn, eqF_ns, eqF_sn, oAddS_v, oMulS_v, oInC_v, oIn_v, oCatT_v, oIsN_v, oNotN_v, DL.isNon, cMax2_v, cMin2_v, isStr, isInt, isBl, isTup, isLst, apart, flat, stR, dLstRg1_eq, dLstRg2_eq, oEqD, oNeD, List.cons_append, List.nil_append, List.map_cons, List.map_nil, List.getElem?_cons_zero, List.getElem?_cons_succ, List.set_cons_zero, List.set_cons_succ, List.length_cons, List.length_nil, List.nodup_cons, List.nodup_nil, List.mem_singleton, List.not_mem_nil, rst, wipeD, or_false, false_or, or_self, reduceCtorEq, Nat.reduceEqDiff, Nat.reduceAdd, Nat.reduceLeDiff, Nat.zero_le, Nat.succ_ne_self, Option.getD_some, Option.some.injEq, exists_eq_left', true_and, and_true, and_self, true_implies, implies_true, not_false_eq_true, not_true_eq_false, decide_eq_true_eq, if_true, if_false, ↓reduceIte, Bool.false_eq_true, Bool.not_true, Bool.not_false, decide_true, decide_false, Bool.true_eq_false, eq_self, w_raise, w_try, w_qTry, ew0, ew1, ew2, ew3, ew4, ew5, ew6, ew7, ew8, ew9, ew10, ew11, ew12, w_enS, w_qEnX, w_listS, w_sindex, oRepT_v, w_oCat, oCat2_s, w_oRep, oRep2_s, own_f, own_b, ownLs_l, w_cix, w_qCix, w_end, w_qEnd, g1_v, g1s_v, g2_v, gM_v, isObR_v, w_consO, w_qConsO, w_qConsO2, w_post, w_qPost, isLenR_v, isBlR_v, w_fld, w_qFld0, w_qFld1, w_qFld2, isOb, w_obNew, w_qObNew, w_bool, w_obEqS, w_qObEqS, w_orT, w_qOrT0, w_qOrT1, S_Ltabs_eq, S_Lpick_eq])
theorem fn_Lstate {f : Addr} {fd : FuncData} (F : Fun K "_law_state" "_law_state" st_Lstate f fd) (B : Bi mgl) (C_Ltabs : Cal P WW.w K mgl base 2 3 "_law_tabs" S_Ltabs) (C_Lpick : Cal P WW.w K mgl base 1 2 "_law_pick" S_Lpick)  : FnOk P WW.w K mgl base (L2N.CX P WW.w) 3 f fd ["_law_source_here", "_law_least", "_law_most"] (toSp K 3 S_Lstate) := by
  refine fnd' F sc_Lstate rfl false [.no] rfl (fun cdv A outer s H E hr tk => (dss_cons (ds_set 3 sc_Lstate.nd rfl (by first | exact Or.inl rfl | exact Or.inr rfl) (de_cal C_Ltabs tk (hr.mono (by decide)) (da_cons (de_var 0) (da_cons (de_var 1) (da_cons (de_var 2) da_nil)))))
    (dss_one (ds_ret (de_tup (da_cons (de_var 3) (da_cons (de_ix ix_str od_ixS (de_var 3) (de_cal C_Lpick tk (hr.mono (by decide)) (da_cons (de_var 0) (da_cons (de_cb call_len cd_len B.len PySem.boot_len (da_cons (de_var 3) da_nil)) da_nil)))) da_nil))))))) ?_
  intro ρ Q E h _
  match ρ, h with
  | [.l a [.int x, .int y, .int z], .v (.int le), .v (.int mo)], h =>
    have h : Src z ∧ 1 ≤ le ∧ le ≤ mo ∧ mo ≤ 26 ∧ ∀ (t : List Nat) (p : Nat) (x' y' : Int), t.Nodup → (∀ c ∈ t, 97 ≤ c ∧ c ≤ 122) → le ≤ t.length → t.length ≤ mo → p < t.length → Q (.v (stD t p)) [.l a [.int x', .int y', .int z], .v (.int le), .v (.int mo)] := h
    obtain ⟨hz, l0, l1, l2, k⟩ := h
    walk_at "Lstate"
    refine ⟨hz, by omega, by omega, by omega, fun t x1 y1 nd al t1 t2 => ⟨by omega, hz, by omega, fun q x2 y2 q0 q1 => ?_⟩⟩
    have hq : q.toNat < t.length := by omega
    have hget : t[q.toNat]? = some t[q.toNat] := List.getElem?_eq_getElem hq
    refine ⟨by omega, atS_nth (n := q.toNat) (by omega) hget ?_⟩
    walk_at "Lstate"
    have k := k t q.toNat x2 y2 nd al t1 t2 hq
    rw [stD_at hget] at k
    exact k
theorem ok_Lstate (hD : DefAt K mgl "_law_state" st_Lstate ["_law_source_here", "_law_least", "_law_most"]) (B : Bi mgl) (C_Ltabs : Cal P WW.w K mgl base 2 3 "_law_tabs" S_Ltabs) (C_Lpick : Cal P WW.w K mgl base 1 2 "_law_pick" S_Lpick)  : Cal P WW.w K mgl base 3 3 "_law_state" S_Lstate := cal_of hD fun f fd F => fn_Lstate F B C_Ltabs C_Lpick 
abbrev st_is_tabs : Stmt := topS 22
abbrev nm_is_tabs : List Str := ["value", "tab"]
theorem sc_is_tabs : FnScope nm_is_tabs ["value"] (defScope st_is_tabs) := ⟨rfl, rfl, rfl, by decide +kernel, rfl, by decide +kernel, by decide +kernel⟩
def S_is_tabs : TD := fun ρ Q E => match ρ with
  | [.v d] => SL d ∧ Q (.v (.bl (tabsD d))) [.v d]
  | _ => False
theorem S_is_tabs_eq {d : D} {Q : CtR} {E : EX} : S_is_tabs [.v d] Q E = (SL d ∧ Q (.v (.bl (tabsD d))) [.v d]) := rfl
local macro_rules | `(tactic| walk_at "is_tabs") => `(tactic| simp (config := { maxSteps := 10000000 }) only [w_var, w_sl_v, w_sl_l, w_c, w_op, w_qOp, w_qOp2, w_qB, w_test, w_and, w_or, w_not, w_qAnd, w_qOr, w_qNot, w_andV, w_orV, w_notV, w_qAndV, w_qOrV, w_qNotV, w_qI, w_neg, w_qNeg, w_if, w_qIf, w_chain, w_qCh, w_qCh2, w_qCh4, w_nil, w_cons, w_qCons, w_qCons2, fzL_nil, fzL_v, fzL_f, noB_nil, noB_v, noB_f, w_tup, w_lst, w_qTup, w_qLst, w_next, w_seq, w_break, w_drop, w_qDrop, w_ret, w_ifS, w_qIfS, w_set, w_qSet, asg_v, asg_f, asg_b, w_par, w_qPar, w_parT, w_qParT, asgs_c, asgs_n, w_asg, w_qAsg, w_hName, w_hCons, w_qH, hNil_n, hTup_t, w_be, w_qRt, w_qNx, w_qEx, w_nowh, ret_v, ret_f, ret_ft, ret_b, retB_l, retB_lt, mg_l, mg_v, mg_n, mgOk_l, mgOk_v, mgOk_n, w_call, w_qCall, w_qWb, w_qWe, argE_v, argE_f, argE_b, lOnly_l, bis_n, bis_b, bis_v, bis_f, wb_b, wb_v, wb_f, wb_n, dat_v, dat_f, dat_b, datS_l, ls_l, ts_t, seq_l, seq_t, w_ixL, w_ixT, w_ixS, at_0, at_1, at_2, at_3, own_l, up_0, up_1, w_setIx, w_qSx_v, w_qSx_f, w_qSx2, w_qSx3, w_app_v, w_app_f, w_qApp, w_popAt, w_pop, w_bm', w_qBm, w_qBm2, w_bm0, w_qBm0, ty_s, ty_l, w_some, w_qSome, w_no, w_slc, w_qSlc, w_qSl2, w_qSl3, w_sL, w_qCut, sS_v, sT_v, w_cb, w_qCB, w_len, len_l, len_t, len_s, w_tupOf, w_listOf, w_qTo, w_qLo, w_all, w_isi, w_qIsi, w_sort, w_count, w_frz, frz_l, frz_v, w_join, w_dix, w_qDix, w_int, oIsB_v, oNotB_v, w_diS, w_diT, w_diL, w_qIS, w_qIT, w_qIL, w_qILd, w_diR1, w_diR2, w_qR1, w_qR2, w_for, w_qTurn, w_lessI, w_qWhile, w_lc, w_lcT2_v, w_lcT, dNever, dYes, oI0_v, oI_v, oEq_v, oNe_v, scD_ii, scD_ss, scD_bb, scD_nn, scD_ns, scD_sn, eqF_ii, eqF_ss, eqF_bb, eqF_nn, eqF_ns, eqF_sn, oAddS_v, oMulS_v, oInC_v, oIn_v, oCatT_v, oIsN_v, oNotN_v, DL.isNon, cMax2_v, cMin2_v, isStr, isInt, isBl, isTup, isLst, apart, flat, stR, dLstRg1_eq, dLstRg2_eq, oEqD, oNeD, List.cons_append, List.nil_append, List.map_cons, List.map_nil, List.getElem?_cons_zero, List.getElem?_cons_succ, List.set_cons_zero, List.set_cons_succ, List.length_cons, List.length_nil, List.nodup_cons, List.nodup_nil, List.mem_singleton, List.not_mem_nil, rst, wipeD, or_false, false_or, or_self, reduceCtorEq, Nat.reduceEqDiff, Nat.reduceAdd, Nat.reduceLeDiff, Nat.zero_le, Nat.succ_ne_self, Option.getD_some, Option.some.injEq, exists_eq_left', true_and, and_true, and_self, true_implies, implies_true, not_false_eq_true, not_true_eq_false, decide_eq_true_eq, if_true, if_false, ↓reduceIte, Bool.false_eq_true, Bool.not_true, Bool.not_false, decide_true, decide_false, Bool.true_eq_false, eq_self, w_raise, w_try, w_qTry, ew0, ew1, ew2, ew3, ew4, ew5, ew6, ew7, ew8, ew9, ew10, ew11, ew12, w_enS, w_qEnX, w_listS, w_sindex, oRepT_v, w_oCat, oCat2_s, w_oRep, oRep2_s, own_f, own_b, ownLs_l, w_cix, w_qCix, w_end, w_qEnd, g1_v, g1s_v, g2_v, gM_v, isObR_v, w_consO, w_qConsO, w_qConsO2, w_post, w_qPost, isLenR_v, isBlR_v, w_fld, w_qFld0, w_qFld1, w_qFld2, isOb, w_obNew, w_qObNew, w_bool, w_obEqS, w_qObEqS, w_orT, w_qOrT0, w_qOrT1, w_lenSet, w_qLenSet])
theorem fn_is_tabs {f : Addr} {fd : FuncData} (F : Fun K "is_tabs" "is_tabs" st_is_tabs f fd) (B : Bi mgl)  (c_MAX_TABS : GC K mgl "MAX_TABS" (.int 12)) (c_LETTERS : GC K mgl "LETTERS" (.str [97, 98, 99, 100, 101, 102, 103, 104, 105, 106, 107, 108, 109, 110, 111, 112, 113, 114, 115, 116, 117, 118, 119, 120, 121, 122])) : FnOk P WW.w K mgl base (L2N.CX P WW.w) 1 f fd ["value"] (toSp K 1 S_is_tabs) := by
  refine fnd' F sc_is_tabs rfl false [.no] rfl (fun cdv A outer s H E hr tk => (dss_cons (ds_if (dt_w (dw_or (dt_not (dt_val (de_isi kStr B.isinstance B.str (by decide +kernel) (de_var 0)))) (dw_or1 (dt_not (dt_chain op_le op_le (od_I0 (g := fun i j => .bl (decide (i ≤ j)))) (od_I0 (g := fun i j => .bl (decide (i ≤ j)))) de_int (de_cb call_len cd_len B.len PySem.boot_len (da_cons (de_var 0) da_nil)) (de_gc c_MAX_TABS)))))) (dss_one (ds_ret de_bl)) dss_nil)
    (dss_one (ds_ret (de_and (de_cb (cr_all rfl) cd_all B.all (by decide +kernel) (da_cons (de_lc (own := [("tab", 1)]) (nt := .one 1) rfl sc_is_tabs.nd (di_str (de_var 0)) (blkOk_by (own := [("tab", 1)]) (N := nm_is_tabs) (sc := defScope (st_is_tabs)) (by decide +kernel)) (by decide) (fun _ _ _ _ _ => (pg_name (i := 1) sc_is_tabs.nd rfl (by first | exact Or.inl rfl | exact Or.inr rfl))) (fun _ _ _ _ _ => dts_nil) (fun _ _ _ _ _ => (de_cmp op_in_sign (od_inC (neg := false)) (de_var 1) (de_gc c_LETTERS)))) da_nil)) (de_one (de_cmp op_eq od_eq (de_lenSet rfl B.len B.set (de_var 0)) (de_cb call_len cd_len B.len PySem.boot_len (da_cons (de_var 0) da_nil))))))))) ?_
  intro ρ Q E h _
  match ρ, h with
  | [.v d], h =>
    have h : SL d ∧ Q (.v (.bl (tabsD d))) [.v d] := h
    obtain ⟨hl, k⟩ := h
    cases d with
    | str l =>
      have hl := hl l rfl
      walk_at "is_tabs"
      change Q (.v (.bl (tabsB l))) [.v (.str l)] at k
      unfold tabsB at k
      refine ⟨hl, ?_⟩
      by_cases h1 : 1 ≤ l.length
      · rw [if_pos (by omega)]
        rw [decide_eq_true h1, Bool.true_and] at k
        by_cases h12 : l.length ≤ 12
        · rw [if_neg (by rw [decide_eq_true (by omega)]; decide)]
          rw [decide_eq_true h12, Bool.true_and] at k
          refine lc_i (fun d => match d with | .str [c] => some (.bl (decide (c ∈ LET))) | _ => none) (noLs_of rfl) (by rw [chs_len]; exact hl) trivial (fun i d e => ?_) fun a => ?_
          · obtain ⟨c, _, rfl⟩ := chs_get.mp e
            refine ⟨_, rfl, ?_⟩
            simp only [wipeD, rst]
            walk_at "is_tabs"
            rfl
          · walk_at "is_tabs"
            refine all_i let_map ?_
            have e0 : (l.map fun c => decide (c ∈ LET)).all id = l.all fun c => decide (c ∈ LET) := by rw [List.all_map]; rfl
            rw [e0]
            cases hA : l.all fun c => decide (c ∈ LET) with
            | false =>
              rw [hA, Bool.false_and] at k
              walk_at "is_tabs"
              exact k
            | true =>
              rw [hA, Bool.true_and] at k
              walk_at "is_tabs"
              have e1 : decide ((((HT.metS l).length : Nat) : Int) = ((l.length : Nat) : Int)) = decide l.Nodup := by
                by_cases hn : l.Nodup
                · rw [decide_eq_true hn, decide_eq_true (by rw [HT.metS_nodup.mpr hn])]
                · rw [decide_eq_false hn, decide_eq_false fun z => hn (HT.metS_nodup.mp (by omega))]
              rw [e1]
              exact ⟨by omega, by omega, k⟩
        · rw [if_pos (by rw [decide_eq_false (by omega)]; decide)]
          rw [decide_eq_false h12, Bool.false_and, Bool.false_and] at k
          exact k
      · rw [if_neg (by omega)]
        rw [decide_eq_false h1, Bool.false_and, Bool.false_and, Bool.false_and] at k
        exact k
    | _ =>
      walk_at "is_tabs"
      exact k
theorem ok_is_tabs (hD : DefAt K mgl "is_tabs" st_is_tabs ["value"]) (B : Bi mgl)  (c_MAX_TABS : GC K mgl "MAX_TABS" (.int 12)) (c_LETTERS : GC K mgl "LETTERS" (.str [97, 98, 99, 100, 101, 102, 103, 104, 105, 106, 107, 108, 109, 110, 111, 112, 113, 114, 115, 116, 117, 118, 119, 120, 121, 122])) : Cal P WW.w K mgl base 1 1 "is_tabs" S_is_tabs := cal_of hD fun f fd F => fn_is_tabs F B  c_MAX_TABS c_LETTERS
abbrev st_is_tab_of : Stmt := topS 23
abbrev nm_is_tab_of : List Str := ["tabs", "value"]
theorem sc_is_tab_of : FnScope nm_is_tab_of ["tabs", "value"] (defScope st_is_tab_of) := ⟨rfl, rfl, rfl, by decide +kernel, rfl, by decide +kernel, by decide +kernel⟩
def S_is_tab_of : TD := fun ρ Q E => match ρ with
  | [.v (.str t), .v d] => SL d ∧ Q (.v (.bl (tabOf t d))) [.v (.str t), .v d]
  | _ => False
theorem S_is_tab_of_eq {t : List Nat} {d : D} {Q : CtR} {E : EX} : S_is_tab_of [.v (.str t), .v d] Q E = (SL d ∧ Q (.v (.bl (tabOf t d))) [.v (.str t), .v d]) := rfl
local macro_rules | `(tactic| walk_at "is_tab_of") => `(tactic| simp (config := { maxSteps := 10000000 }) only [w_var, w_sl_v, w_sl_l, w_c, w_op, w_qOp, w_qOp2, w_qB, w_test, w_and, w_or, w_not, w_qAnd, w_qOr, w_qNot, w_andV, w_orV, w_notV, w_qAndV, w_qOrV, w_qNotV, w_qI, w_neg, w_qNeg, w_if, w_qIf, w_chain, w_qCh, w_qCh2, w_qCh4, w_nil, w_cons, w_qCons, w_qCons2, fzL_nil, fzL_v, fzL_f, noB_nil, noB_v, noB_f, w_tup, w_lst, w_qTup, w_qLst, w_next, w_seq, w_break, w_drop, w_qDrop, w_ret, w_ifS, w_qIfS, w_set, w_qSet, asg_v, asg_f, asg_b, w_par, w_qPar, w_parT, w_qParT, asgs_c, asgs_n, w_asg, w_qAsg, w_hName, w_hCons, w_qH, hNil_n, hTup_t, w_be, w_qRt, w_qNx, w_qEx, w_nowh, ret_v, ret_f, ret_ft, ret_b, retB_l, retB_lt, mg_l, mg_v, mg_n, mgOk_l, mgOk_v, mgOk_n, w_call, w_qCall, w_qWb, w_qWe, argE_v, argE_f, argE_b, lOnly_l, bis_n, bis_b, bis_v, bis_f, wb_b, wb_v, wb_f, wb_n, dat_v, dat_f, dat_b, datS_l, ls_l, ts_t, seq_l, seq_t, w_ixL, w_ixT, w_ixS, at_0, at_1, at_2, at_3, own_l, up_0, up_1, w_setIx, w_qSx_v, w_qSx_f, w_qSx2, w_qSx3, w_app_v, w_app_f, w_qApp, w_popAt, w_pop, w_bm', w_qBm, w_qBm2, w_bm0, w_qBm0, ty_s, ty_l, w_some, w_qSome, w_no, w_slc, w_qSlc, w_qSl2, w_qSl3, w_sL, w_qCut, sS_v, sT_v, w_cb, w_qCB, w_len, len_l, len_t, len_s, w_tupOf, w_listOf, w_qTo, w_qLo, w_all, w_isi, w_qIsi, w_sort, w_count, w_frz, frz_l, frz_v, w_join, w_dix, w_qDix, w_int, oIsB_v, oNotB_v, w_diS, w_diT, w_diL, w_qIS, w_qIT, w_qIL, w_qILd, w_diR1, w_diR2, w_qR1, w_qR2, w_for, w_qTurn, w_lessI, w_qWhile, w_lc, w_lcT2_v, w_lcT, dNever, dYes, oI0_v, oI_v, oEq_v, oNe_v, scD_ii, scD_ss, scD_bb, scD_nn, scD_ns, scD_sn, eqF_ii, eqF_ss, eqF_bb, eqF_nn, eqF_ns, eqF_sn, oAddS_v, oMulS_v, oInC_v, oIn_v, oCatT_v, oIsN_v, oNotN_v, DL.isNon, cMax2_v, cMin2_v, isStr, isInt, isBl, isTup, isLst, apart, flat, stR, dLstRg1_eq, dLstRg2_eq, oEqD, oNeD, List.cons_append, List.nil_append, List.map_cons, List.map_nil, List.getElem?_cons_zero, List.getElem?_cons_succ, List.set_cons_zero, List.set_cons_succ, List.length_cons, List.length_nil, List.nodup_cons, List.nodup_nil, List.mem_singleton, List.not_mem_nil, rst, wipeD, or_false, false_or, or_self, reduceCtorEq, Nat.reduceEqDiff, Nat.reduceAdd, Nat.reduceLeDiff, Nat.zero_le, Nat.succ_ne_self, Option.getD_some, Option.some.injEq, exists_eq_left', true_and, and_true, and_self, true_implies, implies_true, not_false_eq_true, not_true_eq_false, decide_eq_true_eq, if_true, if_false, ↓reduceIte, Bool.false_eq_true, Bool.not_true, Bool.not_false, decide_true, decide_false, Bool.true_eq_false, eq_self, w_raise, w_try, w_qTry, ew0, ew1, ew2, ew3, ew4, ew5, ew6, ew7, ew8, ew9, ew10, ew11, ew12, w_enS, w_qEnX, w_listS, w_sindex, oRepT_v, w_oCat, oCat2_s, w_oRep, oRep2_s, own_f, own_b, ownLs_l, w_cix, w_qCix, w_end, w_qEnd, g1_v, g1s_v, g2_v, gM_v, isObR_v, w_consO, w_qConsO, w_qConsO2, w_post, w_qPost, isLenR_v, isBlR_v, w_fld, w_qFld0, w_qFld1, w_qFld2, isOb, w_obNew, w_qObNew, w_bool, w_obEqS, w_qObEqS, w_orT, w_qOrT0, w_qOrT1])
theorem fn_is_tab_of {f : Addr} {fd : FuncData} (F : Fun K "is_tab_of" "is_tab_of" st_is_tab_of f fd) (B : Bi mgl)   : FnOk P WW.w K mgl base (L2N.CX P WW.w) 1 f fd ["tabs", "value"] (toSp K 2 S_is_tab_of) := by
  refine fnd' F sc_is_tab_of rfl false [] rfl (fun cdv A outer s H E hr tk => (dss_one (ds_ret (de_and (de_isi kStr B.isinstance B.str (by decide +kernel) (de_var 1)) (de_and (de_cmp op_eq od_eq (de_cb call_len cd_len B.len PySem.boot_len (da_cons (de_var 1) da_nil)) de_int) (de_one (de_cmp op_in_sign (od_inC (neg := false)) (de_var 1) (de_var 0)))))))) ?_
  intro ρ Q E h _
  match ρ, h with
  | [.v (.str t), .v d], h =>
    have h : SL d ∧ Q (.v (.bl (tabOf t d))) [.v (.str t), .v d] := h
    obtain ⟨hl, k⟩ := h
    cases d with
    | str l =>
      have hl := hl l rfl
      walk_at "is_tab_of"
      refine ⟨hl, ?_⟩
      match l, k with
      | [c], k =>
        rw [if_pos (by rfl)]
        walk_at "is_tab_of"
        exact k
      | [], k =>
        rw [if_neg (by decide)]
        exact k
      | _ :: _ :: r, k =>
        rw [if_neg (by simp only [List.length_cons]; omega)]
        exact k
    | _ =>
      walk_at "is_tab_of"
      exact k
theorem ok_is_tab_of (hD : DefAt K mgl "is_tab_of" st_is_tab_of ["tabs", "value"]) (B : Bi mgl)   : Cal P WW.w K mgl base 1 2 "is_tab_of" S_is_tab_of := cal_of hD fun f fd F => fn_is_tab_of F B  
abbrev st_step : Stmt := topS 28
abbrev nm_step : List Str := ["kind", "state", "command", "tabs", "active", "at", "rest", "place"]
theorem sc_step : FnScope nm_step ["kind", "state", "command"] (defScope st_step) := ⟨rfl, rfl, rfl, by decide +kernel, rfl, by decide +kernel, by decide +kernel⟩
def S_step : TD := fun ρ Q E => match ρ with
  | [.v (.str kd), .v d, .v (.str cc)] => ∃ (t : List Nat) (a c : Nat), d = stD t a ∧ cc = [c] ∧ StOk (t, a) ∧ (c = 99 ∨ c = 110 ∨ c = 112) ∧ (∀ b, MA.tstep (kd = kRight) (t, a) c = some b → Q (.v (stD b.1 b.2)) [.v (.str kd), .v d, .v (.str cc)]) ∧ (MA.tstep (kd = kRight) (t, a) c = none → E 9 [.v (.str kd), .v d, .v (.str cc)])
  | _ => False
theorem S_step_eq {kd cc : List Nat} {d : D} {Q : CtR} {E : EX} : S_step [.v (.str kd), .v d, .v (.str cc)] Q E = (∃ (t : List Nat) (a c : Nat), d = stD t a ∧ cc = [c] ∧ StOk (t, a) ∧ (c = 99 ∨ c = 110 ∨ c = 112) ∧ (∀ b, MA.tstep (kd = kRight) (t, a) c = some b → Q (.v (stD b.1 b.2)) [.v (.str kd), .v d, .v (.str cc)]) ∧ (MA.tstep (kd = kRight) (t, a) c = none → E 9 [.v (.str kd), .v d, .v (.str cc)])) := rfl
local macro_rules | `(tactic| walk_at "step") => `(tactic| simp (config := { maxSteps := 10000000 }) only [w_var, w_sl_v, w_sl_l, w_c, w_op, w_qOp, w_qOp2, w_qB, w_test, w_and, w_or, w_not, w_qAnd, w_qOr, w_qNot, w_andV, w_orV, w_notV, w_qAndV, w_qOrV, w_qNotV, w_qI, w_neg, w_qNeg, w_if, w_qIf, w_chain, w_qCh, w_qCh2, w_qCh4, w_nil, w_cons, w_qCons, w_qCons2, fzL_nil, fzL_v, fzL_f, noB_nil, noB_v, noB_f, w_tup, w_lst, w_qTup, w_qLst, w_next, w_seq, w_break, w_drop, w_qDrop, w_ret, w_ifS, w_qIfS, w_set, w_qSet, asg_v, asg_f, asg_b, w_par, w_qPar, w_parT, w_qParT, asgs_c, asgs_n, w_asg, w_qAsg, w_hName, w_hCons, w_qH, hNil_n, hTup_t, w_be, w_qRt, w_qNx, w_qEx, w_nowh, ret_v, ret_f, ret_ft, ret_b, retB_l, retB_lt, mg_l, mg_v, mg_n, mgOk_l, mgOk_v, mgOk_n, w_call, w_qCall, w_qWb, w_qWe, argE_v, argE_f, argE_b, lOnly_l, bis_n, bis_b, bis_v, bis_f, wb_b, wb_v, wb_f, wb_n, dat_v, dat_f, dat_b, datS_l, ls_l, ts_t, seq_l, seq_t, w_ixL, w_ixT, w_ixS, at_0, at_1, at_2, at_3, own_l, up_0, up_1, w_setIx, w_qSx_v, w_qSx_f, w_qSx2, w_qSx3, w_app_v, w_app_f, w_qApp, w_popAt, w_pop, w_bm', w_qBm, w_qBm2, w_bm0, w_qBm0, ty_s, ty_l, w_some, w_qSome, w_no, w_slc, w_qSlc, w_qSl2, w_qSl3, w_sL, w_qCut, sS_v, sT_v, w_cb, w_qCB, w_len, len_l, len_t, len_s, w_tupOf, w_listOf, w_qTo, w_qLo, w_all, w_isi, w_qIsi, w_sort, w_count, w_frz, frz_l, frz_v, w_join, w_dix, w_qDix, w_int, oIsB_v, oNotB_v, w_diS, w_diT, w_diL, w_qIS, w_qIT, w_qIL, w_qILd, w_diR1, w_diR2, w_qR1, w_qR2, w_for, w_qTurn, w_lessI, w_qWhile, w_lc, w_lcT2_v, w_lcT, dNever, dYes, oI0_v, oI_v, oEq_v, oNe_v, scD_ii, scD_ss, scD_bb, scD_nn, scD_ns, scD_sn, eqF_ii, eqF_ss, eqF_bb, eqF_nn, eqF_ns, eqF_sn, oAddS_v, oMulS_v, oInC_v, oIn_v, oCatT_v, oIsN_v, oNotN_v, DL.isNon, cMax2_v, cMin2_v, isStr, isInt, isBl, isTup, isLst, apart, flat, stR, dLstRg1_eq, dLstRg2_eq, oEqD, oNeD, List.cons_append, List.nil_append, List.map_cons, List.map_nil, List.getElem?_cons_zero, List.getElem?_cons_succ, List.set_cons_zero, List.set_cons_succ, List.length_cons, List.length_nil, List.nodup_cons, List.nodup_nil, List.mem_singleton, List.not_mem_nil, rst, wipeD, or_false, false_or, or_self, reduceCtorEq, Nat.reduceEqDiff, Nat.reduceAdd, Nat.reduceLeDiff, Nat.zero_le, Nat.succ_ne_self, Option.getD_some, Option.some.injEq, exists_eq_left', true_and, and_true, and_self, true_implies, implies_true, not_false_eq_true, not_true_eq_false, decide_eq_true_eq, if_true, if_false, ↓reduceIte, Bool.false_eq_true, Bool.not_true, Bool.not_false, decide_true, decide_false, Bool.true_eq_false, eq_self, w_raise, w_try, w_qTry, ew0, ew1, ew2, ew3, ew4, ew5, ew6, ew7, ew8, ew9, ew10, ew11, ew12, w_enS, w_qEnX, w_listS, w_sindex, oRepT_v, w_oCat, oCat2_s, w_oRep, oRep2_s, own_f, own_b, ownLs_l, w_cix, w_qCix, w_end, w_qEnd, g1_v, g1s_v, g2_v, gM_v, isObR_v, w_consO, w_qConsO, w_qConsO2, w_post, w_qPost, isLenR_v, isBlR_v, w_fld, w_qFld0, w_qFld1, w_qFld2, isOb, w_obNew, w_qObNew, w_bool, w_obEqS, w_qObEqS, w_orT, w_qOrT0, w_qOrT1])
theorem fn_step {f : Addr} {fd : FuncData} (F : Fun K "step" "step" st_step f fd) (B : Bi mgl)   {eB : Addr} {eAs : List Addr} (Er : ErrM K mgl eB eAs) : FnOk P WW.w K mgl base (L2N.CX P WW.w) 1 f fd ["kind", "state", "command"] (toSp K 3 S_step) := by
  refine fnd' F sc_step rfl false [.no, .no, .no, .no, .no] rfl (fun cdv A outer s H E hr tk => (dss_cons (ds_asg (de_var 1) (dg_tup (n := 2) rfl (dgs_cons (dg_name 3 sc_step.nd rfl (by first | exact Or.inl rfl | exact Or.inr rfl)) (dgs_cons (dg_name 4 sc_step.nd rfl (by first | exact Or.inl rfl | exact Or.inr rfl)) dgs_nil))))
    (dss_cons (ds_set 5 sc_step.nd rfl (by first | exact Or.inl rfl | exact Or.inr rfl) (de_bm PySem.F.plainAttrs_str PySem.F.slot_str_index PySem.F.type_str_index mt_sindex md_sindex (de_var 3) (da_cons (de_var 4) da_nil)))
    (dss_cons (ds_if (dt_cmp op_eq od_eq (de_var 2) (de_str [110])) (dss_one (ds_ret (de_tup (da_cons (de_var 3) (da_cons (de_ix ix_str od_ixS (de_var 3) (de_op op_mod (od_I (C := fun _ j => 0 < j) (g := fun i j => .int (i % j))) (de_op op_add (od_I0 (g := fun i j => .int (i + j))) (de_var 5) de_int) (de_cb call_len cd_len B.len PySem.boot_len (da_cons (de_var 3) da_nil)))) da_nil))))) dss_nil)
    (dss_cons (ds_if (dt_cmp op_eq od_eq (de_var 2) (de_str [112])) (dss_one (ds_ret (de_tup (da_cons (de_var 3) (da_cons (de_ix ix_str od_ixS (de_var 3) (de_op op_sub (od_I0 (g := fun i j => .int (i - j))) (de_var 5) de_int)) da_nil))))) dss_nil)
    (dss_cons (ds_if (dt_cmp op_eq od_eq (de_cb call_len cd_len B.len PySem.boot_len (da_cons (de_var 3) da_nil)) de_int) (dss_one (ds_raise Er rfl tk 9 rfl rfl)) dss_nil)
    (dss_cons (ds_set 6 sc_step.nd rfl (by first | exact Or.inl rfl | exact Or.inr rfl) (de_op op_add_str od_addS (de_slice sl_str sd_S (de_var 3) do_no (do_some (de_var 5))) (de_slice sl_str sd_S (de_var 3) (do_some (de_op op_add (od_I0 (g := fun i j => .int (i + j))) (de_var 5) de_int)) do_no)))
    (dss_cons (ds_set 7 sc_step.nd rfl (by first | exact Or.inl rfl | exact Or.inr rfl) (de_if (dt_cmp op_eq od_eq (de_var 0) (de_str [114, 105, 103, 104, 116])) (de_cb (call_min2 rfl) cd_min2 B.min (by decide +kernel) (da_cons (de_var 5) (da_cons (de_op op_sub (od_I0 (g := fun i j => .int (i - j))) (de_cb call_len cd_len B.len PySem.boot_len (da_cons (de_var 6) da_nil)) de_int) da_nil))) (de_cb (call_max2 rfl) cd_max2 B.max (by decide +kernel) (da_cons (de_op op_sub (od_I0 (g := fun i j => .int (i - j))) (de_var 5) de_int) (da_cons de_int da_nil)))))
    (dss_one (ds_ret (de_tup (da_cons (de_var 6) (da_cons (de_ix ix_str od_ixS (de_var 6) (de_var 7)) da_nil))))))))))))) ?_
  intro ρ Q E h _
  match ρ, h with
  | [.v (.str kd), .v d, .v (.str cc)], h =>
    have h : ∃ (t : List Nat) (a c : Nat), d = stD t a ∧ cc = [c] ∧ StOk (t, a) ∧ (c = 99 ∨ c = 110 ∨ c = 112) ∧ (∀ b, MA.tstep (kd = kRight) (t, a) c = some b → Q (.v (stD b.1 b.2)) [.v (.str kd), .v d, .v (.str cc)]) ∧ (MA.tstep (kd = kRight) (t, a) c = none → E 9 [.v (.str kd), .v d, .v (.str cc)]) := h
    obtain ⟨t, a, c, rfl, rfl, ⟨nd, ha, hl, _⟩, hc, k, kx⟩ := h
    dsimp only at nd ha hl
    obtain ⟨ch, hch⟩ : ∃ ch, t[a]? = some ch := ⟨_, List.getElem?_eq_getElem ha⟩
    rw [stD_at hch] at k kx ⊢
    walk_at "step"
    refine idx_i (first_nodup nd hch) ?_
    walk_at "step"
    rcases hc with rfl | rfl | rfl
    · rw [if_neg (by decide), if_neg (by decide)]
      refine ⟨by omega, ?_⟩
      by_cases h1 : t.length = 1
      · rw [if_pos (by omega)]
        exact kx (by show (if t.length = 1 then none else _) = _; rw [if_pos h1])
      · rw [if_neg (by omega)]
        have e9 : MA.tstep (decide (kd = kRight)) (t, a) 99 = some (t.eraseIdx a, if decide (kd = kRight) = true then min a (t.length - 2) else a - 1) := by
          show (if t.length = 1 then none else _) = _
          rw [if_neg h1]
        have k := k _ e9
        dsimp only at k
        have c1 := cut_to (xs := t) (i := (a : Int)) (by omega) (by omega)
        have c2 := cut_from (xs := t) (i := (a : Int) + 1) (by omega) (by omega)
        have e1 : (a : Int).toNat = a := by omega
        have e2 : ((a : Int) + 1).toNat = a + 1 := by omega
        rw [e1] at c1
        rw [e2] at c2
        have lt : (t.take a).length = a := by rw [List.length_take]; omega
        have ld : (t.drop (a + 1)).length = t.length - (a + 1) := List.length_drop
        have ee : t.take a ++ t.drop (a + 1) = t.eraseIdx a := (List.eraseIdx_eq_take_drop_succ t a).symm
        have le : (t.eraseIdx a).length = t.length - 1 := by rw [List.length_eraseIdx]; simp [ha]
        rw [c1, c2, ee]
        refine ⟨by omega, by omega, by omega, ?_⟩
        by_cases h3 : kd = kRight
        · rw [if_pos (show kd = [114, 105, 103, 104, 116] from h3)]
          rw [decide_eq_true h3, if_pos rfl] at k
          have hm : (t.eraseIdx a)[min a (t.length - 2)]? = some (t.eraseIdx a)[min a (t.length - 2)] := List.getElem?_eq_getElem (by omega)
          rw [stD_at hm] at k
          refine ⟨by omega, by omega, atS_nth (n := min a (t.length - 2)) (by omega) hm ?_⟩
          walk_at "step"
          exact k
        · rw [if_neg (show ¬ kd = [114, 105, 103, 104, 116] from h3)]
          rw [decide_eq_false h3, if_neg (by decide)] at k
          have hm : (t.eraseIdx a)[a - 1]? = some (t.eraseIdx a)[a - 1] := List.getElem?_eq_getElem (by omega)
          rw [stD_at hm] at k
          refine ⟨by omega, atS_nth (n := a - 1) (by omega) hm ?_⟩
          walk_at "step"
          exact k
    · rw [if_pos rfl]
      have hb : (if a + 1 = t.length then 0 else a + 1) < t.length := by split <;> omega
      have hm : t[if a + 1 = t.length then 0 else a + 1]? = some t[if a + 1 = t.length then 0 else a + 1] := List.getElem?_eq_getElem hb
      have k := k (t, if a + 1 = t.length then 0 else a + 1) rfl
      dsimp only at k
      rw [stD_at hm] at k
      refine ⟨by omega, by omega, by omega, atS_nth (n := if a + 1 = t.length then 0 else a + 1) ?_ hm ?_⟩
      · by_cases h : a + 1 = t.length
        · rw [if_pos h, show (a : Int) + 1 = ((t.length : Nat) : Int) by omega, Int.emod_self]; rfl
        · rw [if_neg h, Int.emod_eq_of_lt (by omega) (by omega)]; omega
      · walk_at "step"
        exact k
    · rw [if_neg (by decide), if_pos rfl]
      have k := k (t, if a = 0 then t.length - 1 else a - 1) rfl
      dsimp only at k
      refine ⟨by omega, ?_⟩
      by_cases h : a = 0
      · rw [if_pos h] at k
        have hm : t[t.length - 1]? = some t[t.length - 1] := List.getElem?_eq_getElem (by omega)
        rw [stD_at hm] at k
        rw [show (a : Int) - 1 = -1 by omega]
        refine atS_last (n := t.length - 1) (by omega) hm ?_
        walk_at "step"
        exact k
      · rw [if_neg h] at k
        have hm : t[a - 1]? = some t[a - 1] := List.getElem?_eq_getElem (by omega)
        rw [stD_at hm] at k
        refine atS_nth (n := a - 1) (by omega) hm ?_
        walk_at "step"
        exact k
theorem ok_step (hD : DefAt K mgl "step" st_step ["kind", "state", "command"]) (B : Bi mgl)   {eB : Addr} {eAs : List Addr} (Er : ErrM K mgl eB eAs) : Cal P WW.w K mgl base 1 3 "step" S_step := cal_of hD fun f fd F => fn_step F B   Er
abbrev st_is_state : Stmt := topS 24
abbrev nm_is_state : List Str := ["value"]
theorem sc_is_state : FnScope nm_is_state ["value"] (defScope st_is_state) := ⟨rfl, rfl, rfl, by decide +kernel, rfl, by decide +kernel, by decide +kernel⟩
def S_is_state : TD := fun ρ Q E => match ρ with
  | [.v d] => SLst d ∧ Q (.v (.bl (stateD d))) [.v d]
  | _ => False
theorem S_is_state_eq {d : D} {Q : CtR} {E : EX} : S_is_state [.v d] Q E = (SLst d ∧ Q (.v (.bl (stateD d))) [.v d]) := rfl
local macro_rules | `(tactic| walk_at "is_state") => `(tactic| simp (config := { maxSteps := 10000000 }) only [w_var, w_sl_v, w_sl_l, w_c, w_op, w_qOp, w_qOp2, w_qB, w_test, w_and, w_or, w_not, w_qAnd, w_qOr, w_qNot, w_andV, w_orV, w_notV, w_qAndV, w_qOrV, w_qNotV, w_qI, w_neg, w_qNeg, w_if, w_qIf, w_chain, w_qCh, w_qCh2, w_qCh4, w_nil, w_cons, w_qCons, w_qCons2, fzL_nil, fzL_v, fzL_f, noB_nil, noB_v, noB_f, w_tup, w_lst, w_qTup, w_qLst, w_next, w_seq, w_break, w_drop, w_qDrop, w_ret, w_ifS, w_qIfS, w_set, w_qSet, asg_v, asg_f, asg_b, w_par, w_qPar, w_parT, w_qParT, asgs_c, asgs_n, w_asg, w_qAsg, w_hName, w_hCons, w_qH, hNil_n, hTup_t, w_be, w_qRt, w_qNx, w_qEx, w_nowh, ret_v, ret_f, ret_ft, ret_b, retB_l, retB_lt, mg_l, mg_v, mg_n, mgOk_l, mgOk_v, mgOk_n, w_call, w_qCall, w_qWb, w_qWe, argE_v, argE_f, argE_b, lOnly_l, bis_n, bis_b, bis_v, bis_f, wb_b, wb_v, wb_f, wb_n, dat_v, dat_f, dat_b, datS_l, ls_l, ts_t, seq_l, seq_t, w_ixL, w_ixT, w_ixS, at_0, at_1, at_2, at_3, own_l, up_0, up_1, w_setIx, w_qSx_v, w_qSx_f, w_qSx2, w_qSx3, w_app_v, w_app_f, w_qApp, w_popAt, w_pop, w_bm', w_qBm, w_qBm2, w_bm0, w_qBm0, ty_s, ty_l, w_some, w_qSome, w_no, w_slc, w_qSlc, w_qSl2, w_qSl3, w_sL, w_qCut, sS_v, sT_v, w_cb, w_qCB, w_len, len_l, len_t, len_s, w_tupOf, w_listOf, w_qTo, w_qLo, w_all, w_isi, w_qIsi, w_sort, w_count, w_frz, frz_l, frz_v, w_join, w_dix, w_qDix, w_int, oIsB_v, oNotB_v, w_diS, w_diT, w_diL, w_qIS, w_qIT, w_qIL, w_qILd, w_diR1, w_diR2, w_qR1, w_qR2, w_for, w_qTurn, w_lessI, w_qWhile, w_lc, w_lcT2_v, w_lcT, dNever, dYes, oI0_v, oI_v, oEq_v, oNe_v, scD_ii, scD_ss, scD_bb, scD_nn, scD_ns, scD_sn, eqF_ii, eqF_ss, eqF_bb, eqF_nn, eqF_ns, eqF_sn, oAddS_v, oMulS_v, oInC_v, oIn_v, oCatT_v, oIsN_v, oNotN_v, DL.isNon, cMax2_v, cMin2_v, isStr, isInt, isBl, isTup, isLst, apart, flat, stR, dLstRg1_eq, dLstRg2_eq, oEqD, oNeD, List.cons_append, List.nil_append, List.map_cons, List.map_nil, List.getElem?_cons_zero, List.getElem?_cons_succ, List.set_cons_zero, List.set_cons_succ, List.length_cons, List.length_nil, List.nodup_cons, List.nodup_nil, List.mem_singleton, List.not_mem_nil, rst, wipeD, or_false, false_or, or_self, reduceCtorEq, Nat.reduceEqDiff, Nat.reduceAdd, Nat.reduceLeDiff, Nat.zero_le, Nat.succ_ne_self, Option.getD_some, Option.some.injEq, exists_eq_left', true_and, and_true, and_self, true_implies, implies_true, not_false_eq_true, not_true_eq_false, decide_eq_true_eq, if_true, if_false, ↓reduceIte, Bool.false_eq_true, Bool.not_true, Bool.not_false, decide_true, decide_false, Bool.true_eq_false, eq_self, w_raise, w_try, w_qTry, ew0, ew1, ew2, ew3, ew4, ew5, ew6, ew7, ew8, ew9, ew10, ew11, ew12, w_enS, w_qEnX, w_listS, w_sindex, oRepT_v, w_oCat, oCat2_s, w_oRep, oRep2_s, own_f, own_b, ownLs_l, w_cix, w_qCix, w_end, w_qEnd, g1_v, g1s_v, g2_v, gM_v, isObR_v, w_consO, w_qConsO, w_qConsO2, w_post, w_qPost, isLenR_v, isBlR_v, w_fld, w_qFld0, w_qFld1, w_qFld2, isOb, w_obNew, w_qObNew, w_bool, w_obEqS, w_qObEqS, w_orT, w_qOrT0, w_qOrT1, S_is_tab_of_eq, S_is_tabs_eq])
theorem fn_is_state {f : Addr} {fd : FuncData} (F : Fun K "is_state" "is_state" st_is_state f fd) (B : Bi mgl) (C_is_tab_of : Cal P WW.w K mgl base 1 2 "is_tab_of" S_is_tab_of) (C_is_tabs : Cal P WW.w K mgl base 1 1 "is_tabs" S_is_tabs)  : FnOk P WW.w K mgl base (L2N.CX P WW.w) 2 f fd ["value"] (toSp K 1 S_is_state) := by
  refine fnd' F sc_is_state rfl false [] rfl (fun cdv A outer s H E hr tk => (dss_one (ds_ret (de_and (de_isi kTup B.isinstance B.tuple (by decide +kernel) (de_var 0)) (de_and (de_cmp op_eq od_eq (de_cb call_len cd_len B.len PySem.boot_len (da_cons (de_var 0) da_nil)) de_int) (de_and (de_cal C_is_tabs tk (hr.mono (by decide)) (da_cons (de_ix ix_tup od_ixT (de_var 0) de_int) da_nil)) (de_one (de_cal C_is_tab_of tk (hr.mono (by decide)) (da_cons (de_ix ix_tup od_ixT (de_var 0) de_int) (da_cons (de_ix ix_tup od_ixT (de_var 0) de_int) da_nil)))))))))) ?_
  intro ρ Q E h _
  match ρ, h with
  | [.v d], h =>
    have h : SLst d ∧ Q (.v (.bl (stateD d))) [.v d] := h
    obtain ⟨hl, k⟩ := h
    cases d with
    | tup xs =>
      match xs, hl, k with
      | [x, y], hl, k =>
        obtain ⟨h1, h2⟩ := hl x y rfl
        walk_at "is_state"
        rw [if_pos (by rfl)]
        refine ⟨h1, ?_⟩
        by_cases ht : tabsD x = true
        · rw [if_pos ht]
          obtain ⟨t, rfl, hB⟩ := tabsD_ex ht
          have e : stateD (.tup [.str t, y]) = (tabsB t && tabOf t y) := rfl
          rw [e, hB, Bool.true_and] at k
          walk_at "is_state"
          exact ⟨h2, k⟩
        · rw [if_neg ht]
          rw [stateD_no fun t x' e hB => ht (by cases e; exact hB)] at k
          exact k
      | [], hl, k =>
        rw [stateD_no fun t x' e _ => by cases e] at k
        walk_at "is_state"
        rw [if_neg (by decide)]
        exact k
      | [_], hl, k =>
        rw [stateD_no fun t x' e _ => by cases e] at k
        walk_at "is_state"
        rw [if_neg (by decide)]
        exact k
      | _ :: _ :: _ :: r, hl, k =>
        rw [stateD_no fun t x' e _ => by cases e] at k
        walk_at "is_state"
        rw [if_neg (by omega)]
        exact k
    | _ =>
      walk_at "is_state"
      exact k
theorem ok_is_state (hD : DefAt K mgl "is_state" st_is_state ["value"]) (B : Bi mgl) (C_is_tab_of : Cal P WW.w K mgl base 1 2 "is_tab_of" S_is_tab_of) (C_is_tabs : Cal P WW.w K mgl base 1 1 "is_tabs" S_is_tabs)  : Cal P WW.w K mgl base 2 1 "is_state" S_is_state := cal_of hD fun f fd F => fn_is_state F B C_is_tab_of C_is_tabs 
abbrev st_state_behind : Stmt := topS 29
abbrev nm_state_behind : List Str := ["kind", "state", "row", "command"]
theorem sc_state_behind : FnScope nm_state_behind ["kind", "state", "row"] (defScope st_state_behind) := ⟨rfl, rfl, rfl, by decide +kernel, rfl, by decide +kernel, by decide +kernel⟩
def S_state_behind : TD := fun ρ Q E => match ρ with
  | [.v (.str kd), .v d, .v (.str r)] => ∃ s : SS, d = stD s.1 s.2 ∧ StOk s ∧ Row r ∧ r.length ≤ 1000 ∧ (∀ b, tbeh (kd = kRight) s r = some b → Q (.v (stD b.1 b.2)) [.v (.str kd), .v d, .v (.str r)]) ∧ (tbeh (kd = kRight) s r = none → E 9 [.v (.str kd), .v d, .v (.str r)])
  | _ => False
theorem S_state_behind_eq {kd r : List Nat} {d : D} {Q : CtR} {E : EX} : S_state_behind [.v (.str kd), .v d, .v (.str r)] Q E = (∃ s : SS, d = stD s.1 s.2 ∧ StOk s ∧ Row r ∧ r.length ≤ 1000 ∧ (∀ b, tbeh (kd = kRight) s r = some b → Q (.v (stD b.1 b.2)) [.v (.str kd), .v d, .v (.str r)]) ∧ (tbeh (kd = kRight) s r = none → E 9 [.v (.str kd), .v d, .v (.str r)])) := rfl
local macro_rules | `(tactic| walk_at "state_behind") => `(tactic| simp (config := { maxSteps := 10000000 }) only [w_var, w_sl_v, w_sl_l, w_c, w_op, w_qOp, w_qOp2, w_qB, w_test, w_and, w_or, w_not, w_qAnd, w_qOr, w_qNot, w_andV, w_orV, w_notV, w_qAndV, w_qOrV, w_qNotV, w_qI, w_neg, w_qNeg, w_if, w_qIf, w_chain, w_qCh, w_qCh2, w_qCh4, w_nil, w_cons, w_qCons, w_qCons2, fzL_nil, fzL_v, fzL_f, noB_nil, noB_v, noB_f, w_tup, w_lst, w_qTup, w_qLst, w_next, w_seq, w_break, w_drop, w_qDrop, w_ret, w_ifS, w_qIfS, w_set, w_qSet, asg_v, asg_f, asg_b, w_par, w_qPar, w_parT, w_qParT, asgs_c, asgs_n, w_asg, w_qAsg, w_hName, w_hCons, w_qH, hNil_n, hTup_t, w_be, w_qRt, w_qNx, w_qEx, w_nowh, ret_v, ret_f, ret_ft, ret_b, retB_l, retB_lt, mg_l, mg_v, mg_n, mgOk_l, mgOk_v, mgOk_n, w_call, w_qCall, w_qWb, w_qWe, argE_v, argE_f, argE_b, lOnly_l, bis_n, bis_b, bis_v, bis_f, wb_b, wb_v, wb_f, wb_n, dat_v, dat_f, dat_b, datS_l, ls_l, ts_t, seq_l, seq_t, w_ixL, w_ixT, w_ixS, at_0, at_1, at_2, at_3, own_l, up_0, up_1, w_setIx, w_qSx_v, w_qSx_f, w_qSx2, w_qSx3, w_app_v, w_app_f, w_qApp, w_popAt, w_pop, w_bm', w_qBm, w_qBm2, w_bm0, w_qBm0, ty_s, ty_l, w_some, w_qSome, w_no, w_slc, w_qSlc, w_qSl2, w_qSl3, w_sL, w_qCut, sS_v, sT_v, w_cb, w_qCB, w_len, len_l, len_t, len_s, w_tupOf, w_listOf, w_qTo, w_qLo, w_all, w_isi, w_qIsi, w_sort, w_count, w_frz, frz_l, frz_v, w_join, w_dix, w_qDix, w_int, oIsB_v, oNotB_v, w_diS, w_diT, w_diL, w_qIS, w_qIT, w_qIL, w_qILd, w_diR1, w_diR2, w_qR1, w_qR2, w_for, w_qTurn, w_lessI, w_qWhile, w_lc, w_lcT2_v, w_lcT, dNever, dYes, oI0_v, oI_v, oEq_v, oNe_v, scD_ii, scD_ss, scD_bb, scD_nn, scD_ns, scD_sn, eqF_ii, eqF_ss, eqF_bb, eqF_nn, eqF_ns, eqF_sn, oAddS_v, oMulS_v, oInC_v, oIn_v, oCatT_v, oIsN_v, oNotN_v, DL.isNon, cMax2_v, cMin2_v, isStr, isInt, isBl, isTup, isLst, apart, flat, stR, dLstRg1_eq, dLstRg2_eq, oEqD, oNeD, List.cons_append, List.nil_append, List.map_cons, List.map_nil, List.getElem?_cons_zero, List.getElem?_cons_succ, List.set_cons_zero, List.set_cons_succ, List.length_cons, List.length_nil, List.nodup_cons, List.nodup_nil, List.mem_singleton, List.not_mem_nil, rst, wipeD, or_false, false_or, or_self, reduceCtorEq, Nat.reduceEqDiff, Nat.reduceAdd, Nat.reduceLeDiff, Nat.zero_le, Nat.succ_ne_self, Option.getD_some, Option.some.injEq, exists_eq_left', true_and, and_true, and_self, true_implies, implies_true, not_false_eq_true, not_true_eq_false, decide_eq_true_eq, if_true, if_false, ↓reduceIte, Bool.false_eq_true, Bool.not_true, Bool.not_false, decide_true, decide_false, Bool.true_eq_false, eq_self, w_raise, w_try, w_qTry, ew0, ew1, ew2, ew3, ew4, ew5, ew6, ew7, ew8, ew9, ew10, ew11, ew12, w_enS, w_qEnX, w_listS, w_sindex, oRepT_v, w_oCat, oCat2_s, w_oRep, oRep2_s, own_f, own_b, ownLs_l, w_cix, w_qCix, w_end, w_qEnd, g1_v, g1s_v, g2_v, gM_v, isObR_v, w_consO, w_qConsO, w_qConsO2, w_post, w_qPost, isLenR_v, isBlR_v, w_fld, w_qFld0, w_qFld1, w_qFld2, isOb, w_obNew, w_qObNew, w_bool, w_obEqS, w_qObEqS, w_orT, w_qOrT0, w_qOrT1, S_step_eq])
theorem fn_state_behind {f : Addr} {fd : FuncData} (F : Fun K "state_behind" "state_behind" st_state_behind f fd) (B : Bi mgl) (C_step : Cal P WW.w K mgl base 1 3 "step" S_step)  : FnOk P WW.w K mgl base (L2N.CX P WW.w) 2 f fd ["kind", "state", "row"] (toSp K 3 S_state_behind) := by
  refine fnd' F sc_state_behind rfl false [.no] rfl (fun cdv A outer s H E hr tk => (dss_cons (ds_for (passes_of rfl) rfl (di_str (de_var 2)) (dg_name 3 sc_state_behind.nd rfl (by first | exact Or.inl rfl | exact Or.inr rfl))
    (dss_one (ds_set 1 sc_state_behind.nd rfl (by first | exact Or.inl rfl | exact Or.inr rfl) (de_cal C_step tk (hr.mono (by decide)) (da_cons (de_var 0) (da_cons (de_var 1) (da_cons (de_var 3) da_nil)))))))
    (dss_one (ds_ret (de_var 1))))) ?_
  intro ρ Q E h _
  match ρ, h with
  | [.v (.str kd), .v d, .v (.str r)], h =>
    have h : ∃ s : SS, d = stD s.1 s.2 ∧ StOk s ∧ Row r ∧ r.length ≤ 1000 ∧ (∀ b, tbeh (kd = kRight) s r = some b → Q (.v (stD b.1 b.2)) [.v (.str kd), .v d, .v (.str r)]) ∧ (tbeh (kd = kRight) s r = none → E 9 [.v (.str kd), .v d, .v (.str r)]) := h
    obtain ⟨s, rfl, hs, hr, hl, k, kx⟩ := h
    walk_at "state_behind"
    refine for_i (fun i ρ' => ∃ b s3, tbeh (kd = kRight) s (r.take i) = some b ∧ ρ' = [.v (.str kd), .v (stD b.1 b.2), .v (.str r), s3]) ⟨s, _, rfl, rfl⟩ ?_ ?_
    · rintro i d ρ' hd ⟨b, s3, e, rfl⟩
      obtain ⟨c, hc, rfl⟩ := chs_get.mp hd
      refine ⟨trivial, ?_⟩
      have ob := hs.run _ e
      have et := tb_take (k := decide (kd = kRight)) (s := s) hc
      rw [e, Option.bind_some] at et
      walk_at "state_behind"
      exact ⟨b.1, b.2, c, rfl, rfl, ob, hr c (List.mem_of_getElem? hc), fun b' e' => ⟨b', _, et.trans e', rfl⟩, fun e' => kx (tb_stop (et.trans e'))⟩
    · rintro ρ' ⟨b, s3, e, rfl⟩
      refine ⟨trivial, ?_⟩
      rw [chs_len, List.take_length] at e
      walk_at "state_behind"
      exact k b e
theorem ok_state_behind (hD : DefAt K mgl "state_behind" st_state_behind ["kind", "state", "row"]) (B : Bi mgl) (C_step : Cal P WW.w K mgl base 1 3 "step" S_step)  : Cal P WW.w K mgl base 2 3 "state_behind" S_state_behind := cal_of hD fun f fd F => fn_state_behind F B C_step 

/-! the class Presses: __init__, the properties -/
abbrev st_Pinit : Stmt := clsS 34 0
abbrev st_Pkind : Stmt := clsS 34 1
abbrev st_Prow : Stmt := clsS 34 2
abbrev st_Peff : Stmt := clsS 34 3
theorem sc_Pinit : FnScope ["self", "kind", "row"] ["self", "kind", "row"] (defScope st_Pinit) := ⟨rfl, rfl, rfl, by decide +kernel, rfl, by decide +kernel, by decide +kernel⟩
theorem sc_Pkind : FnScope ["self"] ["self"] (defScope st_Pkind) := ⟨rfl, rfl, rfl, by decide +kernel, rfl, by decide +kernel, by decide +kernel⟩
theorem sc_Prow : FnScope ["self"] ["self"] (defScope st_Prow) := ⟨rfl, rfl, rfl, by decide +kernel, rfl, by decide +kernel, by decide +kernel⟩
theorem sc_Peff : FnScope ["self"] ["self"] (defScope st_Peff) := ⟨rfl, rfl, rfl, by decide +kernel, rfl, by decide +kernel, by decide +kernel⟩
theorem fn_Pkind {C f : Addr} {fd : FuncData} (F : Fun K "kind" "Presses.kind" st_Pkind f fd) (cl : Cls K C) (n : NoAttr K C "own") : FnOk P WW.w K mgl base (L2N.CX P WW.w) 1 f fd ["self"] (getSp C "own") := by
  obtain ⟨oc, od, kV, doc, pm, an, cdv, ct, osl, rfl, lk, hcd⟩ := F.ex
  exact fn_getter lk hcd sc_Pkind rfl rfl cl n
theorem fn_Prow {C f : Addr} {fd : FuncData} (F : Fun K "row" "Presses.row" st_Prow f fd) (cl : Cls K C) (n : NoAttr K C "commands") : FnOk P WW.w K mgl base (L2N.CX P WW.w) 1 f fd ["self"] (getSp C "commands") := by
  obtain ⟨oc, od, kV, doc, pm, an, cdv, ct, osl, rfl, lk, hcd⟩ := F.ex
  exact fn_getter lk hcd sc_Prow rfl rfl cl n
theorem fn_Peff {C f : Addr} {fd : FuncData} (F : Fun K "effect" "Presses.effect" st_Peff f fd) (cl : Cls K C) (n : NoAttr K C "pair") : FnOk P WW.w K mgl base (L2N.CX P WW.w) 1 f fd ["self"] (getSp C "pair") := by
  obtain ⟨oc, od, kV, doc, pm, an, cdv, ct, osl, rfl, lk, hcd⟩ := F.ex
  exact fn_getter lk hcd sc_Peff rfl rfl cl n
abbrev tx (l : List Nat) : V := .str ⟨l.toArray⟩
theorem pe_cal {X : Cx} {W : WX} {k n : Nat} {x : Str} {S : TD} {e : Expr} {es : List Expr} {t : TA} {p pos : Pos} (c : Cal X.prog X.w X.K X.mg X.base k n x S) (tk : L2N.Takes X W) (hr : Room k X.A) (ha : PA X (e :: es) t) (hg : Gl X x := by rfl) (hdb : (x == ("__debug__" : Str)) = false := by decide)
    (he : starEach (e :: es) X.env = (false, eval e X.env) :: starEach es X.env := by rfl) (hpl : (backTo pos (starEach es X.env)).any (·.1) = false := by rfl) : PE X (.Call (.Name x p) (e :: es) [] pos) (tCallS (toSp X.K n S) (fun σ => WE W σ) t) := by
  obtain ⟨f, fd, ps, F, hm, hk, hb⟩ := c
  exact pe_callS F hr hg hm hk hb (fun σ => L2N.passAt tk σ) ha hdb he hpl
theorem dq_tx {K : PySem.W.Frag} {O : Addr → Prop} {H : Hp} (l : List Nat) : Dq K O H (.str l) (tx l) := by simp only [Dq]
theorem fn_Pinit {C f : Addr} {fd : FuncData} (F : Fun K "__init__" "Presses.__init__" st_Pinit f fd) (C_require_kind : Cal P WW.w K mgl base 1 1 "require_kind" S_require_kind) (C_require_row : Cal P WW.w K mgl base 2 1 "require_row" S_require_row) (C_effect_of : Cal P WW.w K mgl base 2 2 "effect_of" S_effect_of)
    (cl : Cls K C) (na : ∀ f ∈ obN, NoAttr K C f) : FnOk P WW.w K mgl base (L2N.CX P WW.w) 3 f fd ["self", "kind", "row"] (spNew K C newPre newOut) := by
  obtain ⟨oc, od, kV, doc, pm, an, cdv, ct, osl, rfl, lk, hcd⟩ := F.ex
  refine fn_of lk hcd sc_Pinit (fun vs H Q E h => by obtain ⟨x, dx, u, v, a, b, O, rfl, _⟩ := h; rfl) fun A outer s H vs Q E hr h => ?_
  obtain ⟨x, dx, u, v, a, b, O, rfl, hx, Ox, hO, da, db, hp, kE, k⟩ := h
  have tk : L2N.Takes (cxOf (L2N.CX P WW.w) P WW.w K mgl base ["self", "kind", "row"] "Presses.__init__" (defScope st_Pinit) f cdv A outer s H E) (fun cls d _ H' => E cls d H') := L2N.takes_of rfl rfl rfl rfl
  refine ⟨_, pss_cons (ps_expr (pe_cal C_require_kind tk (hr.mono (by decide)) (pa_cons (pe_var (i := 1) rfl (.inl rfl)) pa_nil)))
    (pss_cons (ps_expr (pe_cal C_require_row tk (hr.mono (by decide)) (pa_cons (pe_var (i := 2) rfl (.inl rfl)) pa_nil)))
    (pss_cons (ps_fld (pe_var (i := 0) rfl (.inl rfl)) (pe_var (i := 1) rfl (.inl rfl)) rfl)
    (pss_cons (ps_fld (pe_var (i := 0) rfl (.inl rfl)) (pe_var (i := 2) rfl (.inl rfl)) rfl)
    (pss_one (ps_fld (pe_var (i := 0) rfl (.inl rfl)) (pe_cal C_effect_of tk (hr.mono (by decide)) (pa_cons (pe_var (i := 1) rfl (.inl rfl)) (pa_cons (pe_var (i := 2) rfl (.inl rfl)) pa_nil))) rfl))))), ?_⟩
  cases hk : kindD a with
  | false =>
    refine ⟨u, rfl, toSp_bad (U := O) (C := 0) (ds := [a]) hO (dqs_cons da dqs_nil) rfl ?_ fun A H' hA keep => kE 0 (newOut_0 hk) A H' hA fun y o _ e => keep y o e⟩
    show (if kindD a = true then _ else _)
    rw [if_neg (by rw [hk]; decide)]
  | true =>
  refine ⟨u, rfl, toSp_use (U := O) (ds := [a]) (P := fun _ => True) hO (dqs_cons da dqs_nil) rfl ?_ fun d v1 H1 _ keep1 _ => ?_⟩
  · show (if kindD a = true then _ else _)
    rw [if_pos hk]
    exact ⟨.non, rfl, trivial⟩
  have hO1 : ∀ a, O a → ∃ o, H1 a = some o := fun a ha => let ⟨o, e⟩ := hO a ha; ⟨o, keep1 a o e⟩
  have g1 : Mo O O H H1 := ⟨fun a o _ e => keep1 a o e, fun a z => .inl z⟩
  cases hr2 : rowD b with
  | false =>
    refine ⟨v, rfl, toSp_bad (U := O) (C := 2) (ds := [b]) hO1 (dqs_cons (g1.dq _ _ db) dqs_nil) rfl ?_ fun A H' hA keep => kE 2 (newOut_2 hk hr2) A H' hA fun y o _ e => keep y o (keep1 y o e)⟩
    refine ⟨hp, ?_⟩
    rw [if_neg (by rw [hr2]; decide)]
  | true =>
  refine ⟨v, rfl, toSp_use (U := O) (ds := [b]) (P := fun _ => True) hO1 (dqs_cons (g1.dq _ _ db) dqs_nil) rfl ?_ fun d v1 H2 _ keep2 _ => ?_⟩
  · refine ⟨hp, ?_⟩
    rw [if_pos hr2]
    exact ⟨.non, rfl, trivial⟩
  obtain ⟨kd, rfl, hk⟩ := kindD_ex hk
  obtain ⟨r, rfl, hrow⟩ := rowD_ex hr2
  have eu : u = tx kd := by simpa only [Dq] using da
  have ev : v = tx r := by simpa only [Dq] using db
  subst eu ev
  have hlen := rowB_len hrow
  have hO2 : ∀ a, O a → ∃ o, H2 a = some o := fun a ha => let ⟨o, e⟩ := hO1 a ha; ⟨o, keep2 a o e⟩
  have hx2 : H2 x = some (.ins C dx []) := keep2 _ _ (keep1 _ _ hx)
  refine ⟨tx kd, rfl, .ref x, rfl, x, C, dx, [], rfl, hx2, cl, na _ (by decide), by decide, ?_⟩
  refine ⟨tx r, rfl, .ref x, rfl, x, C, dx, [("own", tx kd)], rfl, upd_same, cl, na _ (by decide), (by show 1 < 1000; decide), ?_⟩
  have hO4 : ∀ a, O a → ∃ o, upd (upd H2 x (.ins C dx [("own", tx kd)])) x (.ins C dx [("own", tx kd), ("commands", tx r)]) a = some o := fun a ha => by
    obtain ⟨o, e⟩ := hO2 a ha
    obtain ⟨o', e'⟩ := upd_there (p := x) (o := .ins C dx [("own", tx kd)]) a o e
    exact upd_there a o' e'
  refine ⟨tx kd, rfl, tx r, rfl, toSp_use (U := O) (ds := [.str kd, .str r]) (P := fun d => d = effD (decide (kd = kRight)) r) hO4 (dqs_cons (dq_tx kd) (dqs_cons (dq_tx r) dqs_nil)) rfl ⟨by omega, _, rfl, rfl⟩ fun d v H5 ed keep5 dv => ?_⟩
  subst ed
  refine ⟨.ref x, rfl, x, C, dx, [("own", tx kd), ("commands", tx r)], rfl, keep5 _ _ upd_same, cl, na _ (by decide), (by show 2 < 1000; decide), ?_⟩
  refine k _ (newOut_ok hk hrow) [tx kd, tx r, v] _ (fun a o ne e => ?_) upd_same rfl (dqs_cons (dq_tx kd) (dqs_cons (dq_tx r) (dqs_cons (Mo.dq (⟨fun a o n e => ?_, fun a z => .inl z⟩ : Mo O O H5 _) _ v dv) dqs_nil)))
  · rw [upd_ne ne]
    exact keep5 a o (by rw [upd_ne ne, upd_ne ne]; exact keep2 a o (keep1 a o e))
  · rw [upd_ne (fun z => n (by rw [z]; exact Ox))]; exact e
def obChk (K : PySem.W.Frag) (C fI : Addr) (ms ps : List Addr) : Bool :=
  PySem.W.makesIn K C && PySem.W.isFn K (.ref fI) && PySem.W.keepIn K (.ref C) && PySem.W.plainGet K C Str.empty && PySem.W.hasDictIn K C && PySem.W.plainOver K C && (PySem.W.findIn K (.ref C) "__setattr__" == some (some (.builtin "object.__setattr__"))) &&
  (PySem.W.findIn K (.ref C) "__class__" == some (some (.builtin "object.__class__"))) && (PySem.W.specialIn K (.builtin "object.__class__") "__get__" == some (some (.builtin "getset_descriptor.__get__"))) && (PySem.W.takesIn K (.builtin "object.__class__") == some true) &&
  (PySem.W.mroIn K C (.type "object") == some true) && (PySem.W.kitOne K (.ref C) (.ref C) == some true) && (obN.all fun f => PySem.W.findIn K (.ref C) f == some none) &&
  (ps.all fun p => (PySem.W.specialIn K (.ref p) "__get__" == some (some (.builtin "property.__get__"))) && (PySem.W.takesIn K (.ref p) == some true)) && (ms.all fun f => PySem.W.isFn K (.ref f) && PySem.W.fnIn K f) &&
  PySem.W.selfFirst K C && PySem.W.noSeq K C && (PySem.W.findIn K (.ref C) "__rmul__" == some none) && (["int", "bool", "str", "tuple", "list"].all fun T => PySem.W.kitOne K (.ref C) (.type T) == some false) &&
  (["NoneType", "bool", "int", "str", "tuple", "list"].all fun T => PySem.W.kitOne K (.type T) (.ref C) == some false) &&
  (["NoneType", "int", "bool", "str"].all fun T => (PySem.W.findIn K (.type T) "__mul__").isSome && (PySem.W.findIn K (.type T) "__rmul__").isSome && (PySem.W.subIn K (.type T) (.ref C) == some false))
structure ObK (K : PySem.W.Frag) (C fI : Addr) (ms ps : List Addr) : Prop where
  oc : OCl K C
  mk1 : PySem.W.findIn K (.ref C) "__init__" = some (some (.ref fI)) → Mk K C fI
  ms : ∀ f ∈ ms, PySem.W.isFn K (.ref f) = true ∧ PySem.W.fnIn K f = true
  ps : ∀ p ∈ ps, PySem.W.specialIn K (.ref p) "__get__" = some (some (.builtin "property.__get__")) ∧ PySem.W.takesIn K (.ref p) = some true
  kt : ∀ T ∈ ["NoneType", "bool", "int", "str", "tuple", "list"], PySem.W.kitOne K (.type T) (.ref C) = some false
theorem obK_of {C fI : Addr} {ms ps : List Addr} (hC : PySem.W.nsIn K mainGlobals "Presses" = some (some (.ref C))) (hk : obChk K C fI ms ps = true) : ObK K C fI ms ps := by
  unfold obChk at hk
  simp only [Bool.and_eq_true, beq_iff_eq, List.all_eq_true] at hk
  obtain ⟨⟨⟨⟨⟨⟨⟨⟨⟨⟨⟨⟨⟨⟨⟨⟨⟨⟨⟨⟨k1, k2⟩, k3⟩, k4⟩, k5⟩, k6⟩, k7⟩, k8⟩, k9⟩, k10⟩, k11⟩, k12⟩, k13⟩, k14⟩, k15⟩, k16⟩, k17⟩, k18⟩, k19⟩, k20⟩, k21⟩ := hk
  have cl : Cls K C := ⟨k4, k5, k6, k7⟩
  refine ⟨⟨hC, ⟨cl, k8, k9, k10, k11, k12⟩, k19, k16, k17, k13, k18, fun T hT => ?_⟩, fun h => ⟨k1, h, k2, k3⟩, k15, k14, k20⟩
  obtain ⟨⟨a, b⟩, c⟩ := k21 T hT
  exact ⟨Option.isSome_iff_exists.mp a, Option.isSome_iff_exists.mp b, c⟩
theorem ObK.at_ {C fI f : Addr} {ms ps : List Addr} {m : Str} (c : ObK K C fI ms ps) (hf : f ∈ ms) (h : PySem.W.findIn K (.ref C) m = some (some (.ref f))) : ObF K m f := ⟨fun C' oc => by rw [oc.uniq c.oc]; exact h, (c.ms f hf).1, (c.ms f hf).2⟩

abbrev st_Presses___call__ : Stmt := clsS 34 4
abbrev nm_Presses___call__ : List Str := ["self", "state"]
theorem sc_Presses___call__ : FnScope nm_Presses___call__ ["self", "state"] (defScope st_Presses___call__) := ⟨rfl, rfl, rfl, by decide +kernel, rfl, by decide +kernel, by decide +kernel⟩
def S_Presses___call__ : TD := fun ρ Q E => match ρ with
  | [.v (.ob [.str kd, .str r, x]), .v d] => x = effD (decide (kd = kRight)) r ∧ rowB r = true ∧ Row r ∧ SLst d ∧ ((stateD d = false ∧ E 1 [.v (.ob [.str kd, .str r, x]), .v d]) ∨ (∃ s : SS, d = stD s.1 s.2 ∧ StOk s ∧ stateD d = true ∧ (∀ b, tbeh (kd = kRight) s r = some b → Q (.v (stD b.1 b.2)) [.v (.ob [.str kd, .str r, x]), .v d]) ∧ (tbeh (kd = kRight) s r = none → E 9 [.v (.ob [.str kd, .str r, x]), .v d])))
  | _ => False
theorem S_Presses___call___eq {kd r : List Nat} {x : D} {d : D} {Q : CtR} {E : EX} : S_Presses___call__ [.v (.ob [.str kd, .str r, x]), .v d] Q E = (x = effD (decide (kd = kRight)) r ∧ rowB r = true ∧ Row r ∧ SLst d ∧ ((stateD d = false ∧ E 1 [.v (.ob [.str kd, .str r, x]), .v d]) ∨ (∃ s : SS, d = stD s.1 s.2 ∧ StOk s ∧ stateD d = true ∧ (∀ b, tbeh (kd = kRight) s r = some b → Q (.v (stD b.1 b.2)) [.v (.ob [.str kd, .str r, x]), .v d]) ∧ (tbeh (kd = kRight) s r = none → E 9 [.v (.ob [.str kd, .str r, x]), .v d])))) := rfl
local macro_rules | `(tactic| walk_at "Presses___call__") => `(tactic| simp (config := { maxSteps := 10000000 }) only [w_var, w_sl_v, w_sl_l, w_c, w_op, w_qOp, w_qOp2, w_qB, w_test, w_and, w_or, w_not, w_qAnd, w_qOr, w_qNot, w_andV, w_orV, w_notV, w_qAndV, w_qOrV, w_qNotV, w_qI, w_neg, w_qNeg, w_if, w_qIf, w_chain, w_qCh, w_qCh2, w_qCh4, w_nil, w_cons, w_qCons, w_qCons2, fzL_nil, fzL_v, fzL_f, noB_nil, noB_v, noB_f, w_tup, w_lst, w_qTup, w_qLst, w_next, w_seq, w_break, w_drop, w_qDrop, w_ret, w_ifS, w_qIfS, w_set, w_qSet, asg_v, asg_f, asg_b, w_par, w_qPar, w_parT, w_qParT, asgs_c, asgs_n, w_asg, w_qAsg, w_hName, w_hCons, w_qH, hNil_n, hTup_t, w_be, w_qRt, w_qNx, w_qEx, w_nowh, ret_v, ret_f, ret_ft, ret_b, retB_l, retB_lt, mg_l, mg_v, mg_n, mgOk_l, mgOk_v, mgOk_n, w_call, w_qCall, w_qWb, w_qWe, argE_v, argE_f, argE_b, lOnly_l, bis_n, bis_b, bis_v, bis_f, wb_b, wb_v, wb_f, wb_n, dat_v, dat_f, dat_b, datS_l, ls_l, ts_t, seq_l, seq_t, w_ixL, w_ixT, w_ixS, at_0, at_1, at_2, at_3, own_l, up_0, up_1, w_setIx, w_qSx_v, w_qSx_f, w_qSx2, w_qSx3, w_app_v, w_app_f, w_qApp, w_popAt, w_pop, w_bm', w_qBm, w_qBm2, w_bm0, w_qBm0, ty_s, ty_l, w_some, w_qSome, w_no, w_slc, w_qSlc, w_qSl2, w_qSl3, w_sL, w_qCut, sS_v, sT_v, w_cb, w_qCB, w_len, len_l, len_t, len_s, w_tupOf, w_listOf, w_qTo, w_qLo, w_all, w_isi, w_qIsi, w_sort, w_count, w_frz, frz_l, frz_v, w_join, w_dix, w_qDix, w_int, oIsB_v, oNotB_v, w_diS, w_diT, w_diL, w_qIS, w_qIT, w_qIL, w_qILd, w_diR1, w_diR2, w_qR1, w_qR2, w_for, w_qTurn, w_lessI, w_qWhile, w_lc, w_lcT2_v, w_lcT, dNever, dYes, oI0_v, oI_v, oEq_v, oNe_v, scD_ii, scD_ss, scD_bb, scD_nn, scD_ns, scD_sn, eqF_ii, eqF_ss, eqF_bb, eqF_nn, eqF_ns, eqF_sn, oAddS_v, oMulS_v, oInC_v, oIn_v, oCatT_v, oIsN_v, oNotN_v, DL.isNon, cMax2_v, cMin2_v, isStr, isInt, isBl, isTup, isLst, apart, flat, stR, dLstRg1_eq, dLstRg2_eq, oEqD, oNeD, List.cons_append, List.nil_append, List.map_cons, List.map_nil, List.getElem?_cons_zero, List.getElem?_cons_succ, List.set_cons_zero, List.set_cons_succ, List.length_cons, List.length_nil, List.nodup_cons, List.nodup_nil, List.mem_singleton, List.not_mem_nil, rst, wipeD, or_false, false_or, or_self, reduceCtorEq, Nat.reduceEqDiff, Nat.reduceAdd, Nat.reduceLeDiff, Nat.zero_le, Nat.succ_ne_self, Option.getD_some, Option.some.injEq, exists_eq_left', true_and, and_true, and_self, true_implies, implies_true, not_false_eq_true, not_true_eq_false, decide_eq_true_eq, if_true, if_false, ↓reduceIte, Bool.false_eq_true, Bool.not_true, Bool.not_false, decide_true, decide_false, Bool.true_eq_false, eq_self, w_raise, w_try, w_qTry, ew0, ew1, ew2, ew3, ew4, ew5, ew6, ew7, ew8, ew9, ew10, ew11, ew12, w_enS, w_qEnX, w_listS, w_sindex, oRepT_v, w_oCat, oCat2_s, w_oRep, oRep2_s, own_f, own_b, ownLs_l, w_cix, w_qCix, w_end, w_qEnd, g1_v, g1s_v, g2_v, gM_v, isObR_v, w_consO, w_qConsO, w_qConsO2, w_post, w_qPost, isLenR_v, isBlR_v, w_fld, w_qFld0, w_qFld1, w_qFld2, isOb, w_obNew, w_qObNew, w_bool, w_obEqS, w_qObEqS, w_orT, w_qOrT0, w_qOrT1, S_is_state_eq, S_state_behind_eq])
theorem fn_Presses___call__ {f : Addr} {fd : FuncData} (F : Fun K "__call__" "Presses.__call__" st_Presses___call__ f fd) (B : Bi mgl) (C_is_state : Cal P WW.w K mgl base 2 1 "is_state" S_is_state) (C_state_behind : Cal P WW.w K mgl base 2 3 "state_behind" S_state_behind)  {eB : Addr} {eAs : List Addr} (Er : ErrM K mgl eB eAs) : FnOk P WW.w K mgl base (L2N.CX P WW.w) 3 f fd ["self", "state"] (toSp K 2 S_Presses___call__) := by
  refine fnd' F sc_Presses___call__ rfl false [] rfl (fun cdv A outer s H E hr tk => (dss_cons (ds_if (dt_not (dt_val (de_cal C_is_state tk (hr.mono (by decide)) (da_cons (de_var 1) da_nil)))) (dss_one (ds_raise Er rfl tk 1 rfl rfl)) dss_nil)
    (dss_one (ds_ret (de_cal C_state_behind tk (hr.mono (by decide)) (da_cons (de_obFld (i := 0) rfl (de_var 0)) (da_cons (de_var 1) (da_cons (de_obFld (i := 1) rfl (de_var 0)) da_nil)))))))) ?_
  intro ρ Q E h _
  match ρ, h with
  | [.v (.ob [.str kd, .str r, x]), .v d], h =>
    have h : x = effD (decide (kd = kRight)) r ∧ rowB r = true ∧ Row r ∧ SLst d ∧ ((stateD d = false ∧ E 1 [.v (.ob [.str kd, .str r, x]), .v d]) ∨ (∃ s : SS, d = stD s.1 s.2 ∧ StOk s ∧ stateD d = true ∧ (∀ b, tbeh (kd = kRight) s r = some b → Q (.v (stD b.1 b.2)) [.v (.ob [.str kd, .str r, x]), .v d]) ∧ (tbeh (kd = kRight) s r = none → E 9 [.v (.ob [.str kd, .str r, x]), .v d]))) := h
    obtain ⟨rfl, hr, hR, hd, h⟩ := h
    have hl := rowB_len hr
    walk_at "Presses___call__"
    refine ⟨hd, ?_⟩
    rcases h with ⟨e, k⟩ | ⟨s, rfl, hs, e, k, kx⟩
    · rw [if_pos (by rw [e]; rfl)]
      exact k
    · rw [if_neg (by rw [e]; decide)]
      exact ⟨s, rfl, hs, hR, by omega, k, kx⟩
abbrev st_Presses___len__ : Stmt := clsS 34 5
abbrev nm_Presses___len__ : List Str := ["self"]
theorem sc_Presses___len__ : FnScope nm_Presses___len__ ["self"] (defScope st_Presses___len__) := ⟨rfl, rfl, rfl, by decide +kernel, rfl, by decide +kernel, by decide +kernel⟩
def S_Presses___len__ : TD := fun ρ Q E => match ρ with
  | [.v (.ob [.str kd, .str r, x])] => x = effD (decide (kd = kRight)) r ∧ r.length ≤ 1000000 ∧ Q (.v (.int (r.length : Nat))) [.v (.ob [.str kd, .str r, x])]
  | _ => False
theorem S_Presses___len___eq {kd r : List Nat} {x : D} {Q : CtR} {E : EX} : S_Presses___len__ [.v (.ob [.str kd, .str r, x])] Q E = (x = effD (decide (kd = kRight)) r ∧ r.length ≤ 1000000 ∧ Q (.v (.int (r.length : Nat))) [.v (.ob [.str kd, .str r, x])]) := rfl
local macro_rules | `(tactic| walk_at "Presses___len__") => `(tactic| simp (config := { maxSteps := 10000000 }) only [w_var, w_sl_v, w_sl_l, w_c, w_op, w_qOp, w_qOp2, w_qB, w_test, w_and, w_or, w_not, w_qAnd, w_qOr, w_qNot, w_andV, w_orV, w_notV, w_qAndV, w_qOrV, w_qNotV, w_qI, w_neg, w_qNeg, w_if, w_qIf, w_chain, w_qCh, w_qCh2, w_qCh4, w_nil, w_cons, w_qCons, w_qCons2, fzL_nil, fzL_v, fzL_f, noB_nil, noB_v, noB_f, w_tup, w_lst, w_qTup, w_qLst, w_next, w_seq, w_break, w_drop, w_qDrop, w_ret, w_ifS, w_qIfS, w_set, w_qSet, asg_v, asg_f, asg_b, w_par, w_qPar, w_parT, w_qParT, asgs_c, asgs_n, w_asg, w_qAsg, w_hName, w_hCons, w_qH, hNil_n, hTup_t, w_be, w_qRt, w_qNx, w_qEx, w_nowh, ret_v, ret_f, ret_ft, ret_b, retB_l, retB_lt, mg_l, mg_v, mg_n, mgOk_l, mgOk_v, mgOk_n, w_call, w_qCall, w_qWb, w_qWe, argE_v, argE_f, argE_b, lOnly_l, bis_n, bis_b, bis_v, bis_f, wb_b, wb_v, wb_f, wb_n, dat_v, dat_f, dat_b, datS_l, ls_l, ts_t, seq_l, seq_t, w_ixL, w_ixT, w_ixS, at_0, at_1, at_2, at_3, own_l, up_0, up_1, w_setIx, w_qSx_v, w_qSx_f, w_qSx2, w_qSx3, w_app_v, w_app_f, w_qApp, w_popAt, w_pop, w_bm', w_qBm, w_qBm2, w_bm0, w_qBm0, ty_s, ty_l, w_some, w_qSome, w_no, w_slc, w_qSlc, w_qSl2, w_qSl3, w_sL, w_qCut, sS_v, sT_v, w_cb, w_qCB, w_len, len_l, len_t, len_s, w_tupOf, w_listOf, w_qTo, w_qLo, w_all, w_isi, w_qIsi, w_sort, w_count, w_frz, frz_l, frz_v, w_join, w_dix, w_qDix, w_int, oIsB_v, oNotB_v, w_diS, w_diT, w_diL, w_qIS, w_qIT, w_qIL, w_qILd, w_diR1, w_diR2, w_qR1, w_qR2, w_for, w_qTurn, w_lessI, w_qWhile, w_lc, w_lcT2_v, w_lcT, dNever, dYes, oI0_v, oI_v, oEq_v, oNe_v, scD_ii, scD_ss, scD_bb, scD_nn, scD_ns, scD_sn, eqF_ii, eqF_ss, eqF_bb, eqF_nn, eqF_ns, eqF_sn, oAddS_v, oMulS_v, oInC_v, oIn_v, oCatT_v, oIsN_v, oNotN_v, DL.isNon, cMax2_v, cMin2_v, isStr, isInt, isBl, isTup, isLst, apart, flat, stR, dLstRg1_eq, dLstRg2_eq, oEqD, oNeD, List.cons_append, List.nil_append, List.map_cons, List.map_nil, List.getElem?_cons_zero, List.getElem?_cons_succ, List.set_cons_zero, List.set_cons_succ, List.length_cons, List.length_nil, List.nodup_cons, List.nodup_nil, List.mem_singleton, List.not_mem_nil, rst, wipeD, or_false, false_or, or_self, reduceCtorEq, Nat.reduceEqDiff, Nat.reduceAdd, Nat.reduceLeDiff, Nat.zero_le, Nat.succ_ne_self, Option.getD_some, Option.some.injEq, exists_eq_left', true_and, and_true, and_self, true_implies, implies_true, not_false_eq_true, not_true_eq_false, decide_eq_true_eq, if_true, if_false, ↓reduceIte, Bool.false_eq_true, Bool.not_true, Bool.not_false, decide_true, decide_false, Bool.true_eq_false, eq_self, w_raise, w_try, w_qTry, ew0, ew1, ew2, ew3, ew4, ew5, ew6, ew7, ew8, ew9, ew10, ew11, ew12, w_enS, w_qEnX, w_listS, w_sindex, oRepT_v, w_oCat, oCat2_s, w_oRep, oRep2_s, own_f, own_b, ownLs_l, w_cix, w_qCix, w_end, w_qEnd, g1_v, g1s_v, g2_v, gM_v, isObR_v, w_consO, w_qConsO, w_qConsO2, w_post, w_qPost, isLenR_v, isBlR_v, w_fld, w_qFld0, w_qFld1, w_qFld2, isOb, w_obNew, w_qObNew, w_bool, w_obEqS, w_qObEqS, w_orT, w_qOrT0, w_qOrT1])
theorem fn_Presses___len__ {f : Addr} {fd : FuncData} (F : Fun K "__len__" "Presses.__len__" st_Presses___len__ f fd) (B : Bi mgl)   : FnOk P WW.w K mgl base (L2N.CX P WW.w) 1 f fd ["self"] (toSp K 1 S_Presses___len__) := by
  refine fnd' F sc_Presses___len__ rfl false [] rfl (fun cdv A outer s H E hr tk => (dss_one (ds_ret (de_cb call_len cd_len B.len PySem.boot_len (da_cons (de_obFld (i := 1) rfl (de_var 0)) da_nil))))) ?_
  intro ρ Q E h _
  match ρ, h with
  | [.v (.ob [.str kd, .str r, x])], h =>
    have h : x = effD (decide (kd = kRight)) r ∧ r.length ≤ 1000000 ∧ Q (.v (.int (r.length : Nat))) [.v (.ob [.str kd, .str r, x])] := h
    obtain ⟨rfl, hl, k⟩ := h
    walk_at "Presses___len__"
    exact ⟨hl, k⟩
abbrev st_Presses___bool__ : Stmt := clsS 34 6
abbrev nm_Presses___bool__ : List Str := ["self"]
theorem sc_Presses___bool__ : FnScope nm_Presses___bool__ ["self"] (defScope st_Presses___bool__) := ⟨rfl, rfl, rfl, by decide +kernel, rfl, by decide +kernel, by decide +kernel⟩
def S_Presses___bool__ : TD := fun ρ Q E => match ρ with
  | [.v (.ob [.str kd, .str r, x])] => x = effD (decide (kd = kRight)) r ∧ Q (.v (.bl (decide (MA.eff (kd = kRight) r ≠ ([], 0))))) [.v (.ob [.str kd, .str r, x])]
  | _ => False
theorem S_Presses___bool___eq {kd r : List Nat} {x : D} {Q : CtR} {E : EX} : S_Presses___bool__ [.v (.ob [.str kd, .str r, x])] Q E = (x = effD (decide (kd = kRight)) r ∧ Q (.v (.bl (decide (MA.eff (kd = kRight) r ≠ ([], 0))))) [.v (.ob [.str kd, .str r, x])]) := rfl
local macro_rules | `(tactic| walk_at "Presses___bool__") => `(tactic| simp (config := { maxSteps := 10000000 }) only [w_var, w_sl_v, w_sl_l, w_c, w_op, w_qOp, w_qOp2, w_qB, w_test, w_and, w_or, w_not, w_qAnd, w_qOr, w_qNot, w_andV, w_orV, w_notV, w_qAndV, w_qOrV, w_qNotV, w_qI, w_neg, w_qNeg, w_if, w_qIf, w_chain, w_qCh, w_qCh2, w_qCh4, w_nil, w_cons, w_qCons, w_qCons2, fzL_nil, fzL_v, fzL_f, noB_nil, noB_v, noB_f, w_tup, w_lst, w_qTup, w_qLst, w_next, w_seq, w_break, w_drop, w_qDrop, w_ret, w_ifS, w_qIfS, w_set, w_qSet, asg_v, asg_f, asg_b, w_par, w_qPar, w_parT, w_qParT, asgs_c, asgs_n, w_asg, w_qAsg, w_hName, w_hCons, w_qH, hNil_n, hTup_t, w_be, w_qRt, w_qNx, w_qEx, w_nowh, ret_v, ret_f, ret_ft, ret_b, retB_l, retB_lt, mg_l, mg_v, mg_n, mgOk_l, mgOk_v, mgOk_n, w_call, w_qCall, w_qWb, w_qWe, argE_v, argE_f, argE_b, lOnly_l, bis_n, bis_b, bis_v, bis_f, wb_b, wb_v, wb_f, wb_n, dat_v, dat_f, dat_b, datS_l, ls_l, ts_t, seq_l, seq_t, w_ixL, w_ixT, w_ixS, at_0, at_1, at_2, at_3, own_l, up_0, up_1, w_setIx, w_qSx_v, w_qSx_f, w_qSx2, w_qSx3, w_app_v, w_app_f, w_qApp, w_popAt, w_pop, w_bm', w_qBm, w_qBm2, w_bm0, w_qBm0, ty_s, ty_l, w_some, w_qSome, w_no, w_slc, w_qSlc, w_qSl2, w_qSl3, w_sL, w_qCut, sS_v, sT_v, w_cb, w_qCB, w_len, len_l, len_t, len_s, w_tupOf, w_listOf, w_qTo, w_qLo, w_all, w_isi, w_qIsi, w_sort, w_count, w_frz, frz_l, frz_v, w_join, w_dix, w_qDix, w_int, oIsB_v, oNotB_v, w_diS, w_diT, w_diL, w_qIS, w_qIT, w_qIL, w_qILd, w_diR1, w_diR2, w_qR1, w_qR2, w_for, w_qTurn, w_lessI, w_qWhile, w_lc, w_lcT2_v, w_lcT, dNever, dYes, oI0_v, oI_v, oEq_v, oNe_v, scD_ii, scD_ss, scD_bb, scD_nn, scD_ns, scD_sn, eqF_ii, eqF_ss, eqF_bb, eqF_nn, eqF_ns, eqF_sn, oAddS_v, oMulS_v, oInC_v, oIn_v, oCatT_v, oIsN_v, oNotN_v, DL.isNon, cMax2_v, cMin2_v, isStr, isInt, isBl, isTup, isLst, apart, flat, stR, dLstRg1_eq, dLstRg2_eq, oEqD, oNeD, List.cons_append, List.nil_append, List.map_cons, List.map_nil, List.getElem?_cons_zero, List.getElem?_cons_succ, List.set_cons_zero, List.set_cons_succ, List.length_cons, List.length_nil, List.nodup_cons, List.nodup_nil, List.mem_singleton, List.not_mem_nil, rst, wipeD, or_false, false_or, or_self, reduceCtorEq, Nat.reduceEqDiff, Nat.reduceAdd, Nat.reduceLeDiff, Nat.zero_le, Nat.succ_ne_self, Option.getD_some, Option.some.injEq, exists_eq_left', true_and, and_true, and_self, true_implies, implies_true, not_false_eq_true, not_true_eq_false, decide_eq_true_eq, if_true, if_false, ↓reduceIte, Bool.false_eq_true, Bool.not_true, Bool.not_false, decide_true, decide_false, Bool.true_eq_false, eq_self, w_raise, w_try, w_qTry, ew0, ew1, ew2, ew3, ew4, ew5, ew6, ew7, ew8, ew9, ew10, ew11, ew12, w_enS, w_qEnX, w_listS, w_sindex, oRepT_v, w_oCat, oCat2_s, w_oRep, oRep2_s, own_f, own_b, ownLs_l, w_cix, w_qCix, w_end, w_qEnd, g1_v, g1s_v, g2_v, gM_v, isObR_v, w_consO, w_qConsO, w_qConsO2, w_post, w_qPost, isLenR_v, isBlR_v, w_fld, w_qFld0, w_qFld1, w_qFld2, isOb, w_obNew, w_qObNew, w_bool, w_obEqS, w_qObEqS, w_orT, w_qOrT0, w_qOrT1])
theorem fn_Presses___bool__ {f : Addr} {fd : FuncData} (F : Fun K "__bool__" "Presses.__bool__" st_Presses___bool__ f fd) (B : Bi mgl)   : FnOk P WW.w K mgl base (L2N.CX P WW.w) 1 f fd ["self"] (toSp K 1 S_Presses___bool__) := by
  refine fnd' F sc_Presses___bool__ rfl false [] rfl (fun cdv A outer s H E hr tk => (dss_one (ds_ret (de_ct call_bool1 cd_bool B.bool (by decide +kernel) (da_cons (de_or (de_cmp (op_neD hr.units) od_neD (de_ix ix_tup od_ixT (de_obFld (i := 2) rfl (de_var 0)) de_int) (de_tup da_nil)) (de_one (de_cmp op_ne od_ne (de_ix ix_tup od_ixT (de_obFld (i := 2) rfl (de_var 0)) de_int) de_int))) da_nil))))) ?_
  intro ρ Q E h _
  match ρ, h with
  | [.v (.ob [.str kd, .str r, x])], h =>
    have h : x = effD (decide (kd = kRight)) r ∧ Q (.v (.bl (decide (MA.eff (kd = kRight) r ≠ ([], 0))))) [.v (.ob [.str kd, .str r, x])] := h
    obtain ⟨rfl, h⟩ := h
    unfold effD
    walk_at "Presses___bool__"
    refine ⟨?_, ?_, ?_⟩
    · exact ⟨by simp only [okD, okDs_ints], by simp only [dep, deps_ints]; decide⟩
    · exact ⟨by decide, by decide⟩
    have e : eqv (D.tup (List.map D.int (MA.eff (decide (kd = kRight)) r).fst)) (D.tup []) = decide ((MA.eff (decide (kd = kRight)) r).fst = []) := by
      have := eqvs_ints (a := (MA.eff (decide (kd = kRight)) r).fst) (b := [])
      simp only [eqv]
      exact this
    rw [e]
    have hne : decide (MA.eff (decide (kd = kRight)) r ≠ ([], 0)) = (!decide ((MA.eff (decide (kd = kRight)) r).fst = []) || !decide ((MA.eff (decide (kd = kRight)) r).snd = 0)) := by
      by_cases h1 : (MA.eff (decide (kd = kRight)) r).fst = [] <;> by_cases h2 : (MA.eff (decide (kd = kRight)) r).snd = 0 <;> simp [h1, h2, Prod.ext_iff]
    rw [hne] at h
    by_cases h1 : (MA.eff (decide (kd = kRight)) r).fst = []
    · rw [if_neg (by rw [decide_eq_true h1]; decide)]
      rw [decide_eq_true h1, Bool.not_true, Bool.false_or] at h
      exact h
    · rw [if_pos (by rw [decide_eq_false h1]; rfl)]
      rw [decide_eq_false h1, Bool.not_false, Bool.true_or] at h
      exact h
abbrev st_Presses___getitem__ : Stmt := clsS 34 7
abbrev nm_Presses___getitem__ : List Str := ["self", "index"]
theorem sc_Presses___getitem__ : FnScope nm_Presses___getitem__ ["self", "index"] (defScope st_Presses___getitem__) := ⟨rfl, rfl, rfl, by decide +kernel, rfl, by decide +kernel, by decide +kernel⟩
def S_Presses___getitem__ : TD := fun ρ Q E => match ρ with
  | [.v (.ob [.str kd, .str r, x]), .v d] => x = effD (decide (kd = kRight)) r ∧ r.length ≤ 1000000 ∧ ((isIntD d 0 (r.length - 1) = false ∧ E 3 [.v (.ob [.str kd, .str r, x]), .v d]) ∨ (∃ (i c : Nat), d = .int (i : Nat) ∧ r[i]? = some c ∧ Q (.v (.str [c])) [.v (.ob [.str kd, .str r, x]), .v d]))
  | _ => False
theorem S_Presses___getitem___eq {kd r : List Nat} {x : D} {d : D} {Q : CtR} {E : EX} : S_Presses___getitem__ [.v (.ob [.str kd, .str r, x]), .v d] Q E = (x = effD (decide (kd = kRight)) r ∧ r.length ≤ 1000000 ∧ ((isIntD d 0 (r.length - 1) = false ∧ E 3 [.v (.ob [.str kd, .str r, x]), .v d]) ∨ (∃ (i c : Nat), d = .int (i : Nat) ∧ r[i]? = some c ∧ Q (.v (.str [c])) [.v (.ob [.str kd, .str r, x]), .v d]))) := rfl
local macro_rules | `(tactic| walk_at "Presses___getitem__") => `(tactic| simp (config := { maxSteps := 10000000 }) only [w_var, w_sl_v, w_sl_l, w_c, w_op, w_qOp, w_qOp2, w_qB, w_test, w_and, w_or, w_not, w_qAnd, w_qOr, w_qNot, w_andV, w_orV, w_notV, w_qAndV, w_qOrV, w_qNotV, w_qI, w_neg, w_qNeg, w_if, w_qIf, w_chain, w_qCh, w_qCh2, w_qCh4, w_nil, w_cons, w_qCons, w_qCons2, fzL_nil, fzL_v, fzL_f, noB_nil, noB_v, noB_f, w_tup, w_lst, w_qTup, w_qLst, w_next, w_seq, w_break, w_drop, w_qDrop, w_ret, w_ifS, w_qIfS, w_set, w_qSet, asg_v, asg_f, asg_b, w_par, w_qPar, w_parT, w_qParT, asgs_c, asgs_n, w_asg, w_qAsg, w_hName, w_hCons, w_qH, hNil_n, hTup_t, w_be, w_qRt, w_qNx, w_qEx, w_nowh, ret_v, ret_f, ret_ft, ret_b, retB_l, retB_lt, mg_l, mg_v, mg_n, mgOk_l, mgOk_v, mgOk_n, w_call, w_qCall, w_qWb, w_qWe, argE_v, argE_f, argE_b, lOnly_l, bis_n, bis_b, bis_v, bis_f, wb_b, wb_v, wb_f, wb_n, dat_v, dat_f, dat_b, datS_l, ls_l, ts_t, seq_l, seq_t, w_ixL, w_ixT, w_ixS, at_0, at_1, at_2, at_3, own_l, up_0, up_1, w_setIx, w_qSx_v, w_qSx_f, w_qSx2, w_qSx3, w_app_v, w_app_f, w_qApp, w_popAt, w_pop, w_bm', w_qBm, w_qBm2, w_bm0, w_qBm0, ty_s, ty_l, w_some, w_qSome, w_no, w_slc, w_qSlc, w_qSl2, w_qSl3, w_sL, w_qCut, sS_v, sT_v, w_cb, w_qCB, w_len, len_l, len_t, len_s, w_tupOf, w_listOf, w_qTo, w_qLo, w_all, w_isi, w_qIsi, w_sort, w_count, w_frz, frz_l, frz_v, w_join, w_dix, w_qDix, w_int, oIsB_v, oNotB_v, w_diS, w_diT, w_diL, w_qIS, w_qIT, w_qIL, w_qILd, w_diR1, w_diR2, w_qR1, w_qR2, w_for, w_qTurn, w_lessI, w_qWhile, w_lc, w_lcT2_v, w_lcT, dNever, dYes, oI0_v, oI_v, oEq_v, oNe_v, scD_ii, scD_ss, scD_bb, scD_nn, scD_ns, scD_sn, eqF_ii, eqF_ss, eqF_bb, eqF_nn, eqF_ns, eqF_sn, oAddS_v, oMulS_v, oInC_v, oIn_v, oCatT_v, oIsN_v, oNotN_v, DL.isNon, cMax2_v, cMin2_v, isStr, isInt, isBl, isTup, isLst, apart, flat, stR, dLstRg1_eq, dLstRg2_eq, oEqD, oNeD, List.cons_append, List.nil_append, List.map_cons, List.map_nil, List.getElem?_cons_zero, List.getElem?_cons_succ, List.set_cons_zero, List.set_cons_succ, List.length_cons, List.length_nil, List.nodup_cons, List.nodup_nil, List.mem_singleton, List.not_mem_nil, rst, wipeD, or_false, false_or, or_self, reduceCtorEq, Nat.reduceEqDiff, Nat.reduceAdd, Nat.reduceLeDiff, Nat.zero_le, Nat.succ_ne_self, Option.getD_some, Option.some.injEq, exists_eq_left', true_and, and_true, and_self, true_implies, implies_true, not_false_eq_true, not_true_eq_false, decide_eq_true_eq, if_true, if_false, ↓reduceIte, Bool.false_eq_true, Bool.not_true, Bool.not_false, decide_true, decide_false, Bool.true_eq_false, eq_self, w_raise, w_try, w_qTry, ew0, ew1, ew2, ew3, ew4, ew5, ew6, ew7, ew8, ew9, ew10, ew11, ew12, w_enS, w_qEnX, w_listS, w_sindex, oRepT_v, w_oCat, oCat2_s, w_oRep, oRep2_s, own_f, own_b, ownLs_l, w_cix, w_qCix, w_end, w_qEnd, g1_v, g1s_v, g2_v, gM_v, isObR_v, w_consO, w_qConsO, w_qConsO2, w_post, w_qPost, isLenR_v, isBlR_v, w_fld, w_qFld0, w_qFld1, w_qFld2, isOb, w_obNew, w_qObNew, w_bool, w_obEqS, w_qObEqS, w_orT, w_qOrT0, w_qOrT1, S_is_integer_eq])
theorem fn_Presses___getitem__ {f : Addr} {fd : FuncData} (F : Fun K "__getitem__" "Presses.__getitem__" st_Presses___getitem__ f fd) (B : Bi mgl) (C_is_integer : Cal P WW.w K mgl base 1 3 "is_integer" S_is_integer)  {eB : Addr} {eAs : List Addr} (Er : ErrM K mgl eB eAs) : FnOk P WW.w K mgl base (L2N.CX P WW.w) 2 f fd ["self", "index"] (toSp K 2 S_Presses___getitem__) := by
  refine fnd' F sc_Presses___getitem__ rfl false [] rfl (fun cdv A outer s H E hr tk => (dss_cons (ds_if (dt_not (dt_val (de_cal C_is_integer tk (hr.mono (by decide)) (da_cons (de_var 1) (da_cons de_int (da_cons (de_op op_sub (od_I0 (g := fun i j => .int (i - j))) (de_cb call_len cd_len B.len PySem.boot_len (da_cons (de_obFld (i := 1) rfl (de_var 0)) da_nil)) de_int) da_nil)))))) (dss_one (ds_raise Er rfl tk 3 rfl rfl)) dss_nil)
    (dss_one (ds_ret (de_ix ix_str od_ixS (de_obFld (i := 1) rfl (de_var 0)) (de_var 1)))))) ?_
  intro ρ Q E h _
  match ρ, h with
  | [.v (.ob [.str kd, .str r, x]), .v d], h =>
    have h : x = effD (decide (kd = kRight)) r ∧ r.length ≤ 1000000 ∧ ((isIntD d 0 (r.length - 1) = false ∧ E 3 [.v (.ob [.str kd, .str r, x]), .v d]) ∨ (∃ (i c : Nat), d = .int (i : Nat) ∧ r[i]? = some c ∧ Q (.v (.str [c])) [.v (.ob [.str kd, .str r, x]), .v d])) := h
    obtain ⟨rfl, hl, h⟩ := h
    walk_at "Presses___getitem__"
    refine ⟨hl, ?_⟩
    rcases h with ⟨e, k⟩ | ⟨i, c, rfl, hc, k⟩
    · rw [if_pos (by rw [e]; rfl)]
      exact k
    · have hi : i < r.length := (List.getElem?_eq_some_iff.mp hc).1
      rw [if_neg (by rw [isIntD_t (i := (i : Int)) (lo := 0) (hi := (r.length : Nat) - 1) (by omega) (by omega)]; decide)]
      walk_at "Presses___getitem__"
      refine ⟨hl, atS_nth (n := i) (by omega) hc ?_⟩
      walk_at "Presses___getitem__"
      exact k
abbrev st_Presses___eq__ : Stmt := clsS 34 9
abbrev nm_Presses___eq__ : List Str := ["self", "other"]
theorem sc_Presses___eq__ : FnScope nm_Presses___eq__ ["self", "other"] (defScope st_Presses___eq__) := ⟨rfl, rfl, rfl, by decide +kernel, rfl, by decide +kernel, by decide +kernel⟩
def S_Presses___eq__ : TD := fun ρ Q E => match ρ with
  | [.v (.ob [.str kd, .str r, x]), .v (.ob [.str kd2, .str r2, y])] => x = effD (decide (kd = kRight)) r ∧ y = effD (decide (kd2 = kRight)) r2 ∧ kindB kd = true ∧ kindB kd2 = true ∧ Q (.v (.bl (decide (kd = kd2 ∧ MA.eff (kd = kRight) r = MA.eff (kd2 = kRight) r2)))) [.v (.ob [.str kd, .str r, x]), .v (.ob [.str kd2, .str r2, y])]
  | _ => False
theorem S_Presses___eq___eq {kd r kd2 r2 : List Nat} {x y : D} {Q : CtR} {E : EX} : S_Presses___eq__ [.v (.ob [.str kd, .str r, x]), .v (.ob [.str kd2, .str r2, y])] Q E = (x = effD (decide (kd = kRight)) r ∧ y = effD (decide (kd2 = kRight)) r2 ∧ kindB kd = true ∧ kindB kd2 = true ∧ Q (.v (.bl (decide (kd = kd2 ∧ MA.eff (kd = kRight) r = MA.eff (kd2 = kRight) r2)))) [.v (.ob [.str kd, .str r, x]), .v (.ob [.str kd2, .str r2, y])]) := rfl
local macro_rules | `(tactic| walk_at "Presses___eq__") => `(tactic| simp (config := { maxSteps := 10000000 }) only [w_var, w_sl_v, w_sl_l, w_c, w_op, w_qOp, w_qOp2, w_qB, w_test, w_and, w_or, w_not, w_qAnd, w_qOr, w_qNot, w_andV, w_orV, w_notV, w_qAndV, w_qOrV, w_qNotV, w_qI, w_neg, w_qNeg, w_if, w_qIf, w_chain, w_qCh, w_qCh2, w_qCh4, w_nil, w_cons, w_qCons, w_qCons2, fzL_nil, fzL_v, fzL_f, noB_nil, noB_v, noB_f, w_tup, w_lst, w_qTup, w_qLst, w_next, w_seq, w_break, w_drop, w_qDrop, w_ret, w_ifS, w_qIfS, w_set, w_qSet, asg_v, asg_f, asg_b, w_par, w_qPar, w_parT, w_qParT, asgs_c, asgs_n, w_asg, w_qAsg, w_hName, w_hCons, w_qH, hNil_n, hTup_t, w_be, w_qRt, w_qNx, w_qEx, w_nowh, ret_v, ret_f, ret_ft, ret_b, retB_l, retB_lt, mg_l, mg_v, mg_n, mgOk_l, mgOk_v, mgOk_n, w_call, w_qCall, w_qWb, w_qWe, argE_v, argE_f, argE_b, lOnly_l, bis_n, bis_b, bis_v, bis_f, wb_b, wb_v, wb_f, wb_n, dat_v, dat_f, dat_b, datS_l, ls_l, ts_t, seq_l, seq_t, w_ixL, w_ixT, w_ixS, at_0, at_1, at_2, at_3, own_l, up_0, up_1, w_setIx, w_qSx_v, w_qSx_f, w_qSx2, w_qSx3, w_app_v, w_app_f, w_qApp, w_popAt, w_pop, w_bm', w_qBm, w_qBm2, w_bm0, w_qBm0, ty_s, ty_l, w_some, w_qSome, w_no, w_slc, w_qSlc, w_qSl2, w_qSl3, w_sL, w_qCut, sS_v, sT_v, w_cb, w_qCB, w_len, len_l, len_t, len_s, w_tupOf, w_listOf, w_qTo, w_qLo, w_all, w_isi, w_qIsi, w_sort, w_count, w_frz, frz_l, frz_v, w_join, w_dix, w_qDix, w_int, oIsB_v, oNotB_v, w_diS, w_diT, w_diL, w_qIS, w_qIT, w_qIL, w_qILd, w_diR1, w_diR2, w_qR1, w_qR2, w_for, w_qTurn, w_lessI, w_qWhile, w_lc, w_lcT2_v, w_lcT, dNever, dYes, oI0_v, oI_v, oEq_v, oNe_v, scD_ii, scD_ss, scD_bb, scD_nn, scD_ns, scD_sn, eqF_ii, eqF_ss, eqF_bb, eqF_nn, eqF_ns, eqF_sn, oAddS_v, oMulS_v, oInC_v, oIn_v, oCatT_v, oIsN_v, oNotN_v, DL.isNon, cMax2_v, cMin2_v, isStr, isInt, isBl, isTup, isLst, apart, flat, stR, dLstRg1_eq, dLstRg2_eq, oEqD, oNeD, List.cons_append, List.nil_append, List.map_cons, List.map_nil, List.getElem?_cons_zero, List.getElem?_cons_succ, List.set_cons_zero, List.set_cons_succ, List.length_cons, List.length_nil, List.nodup_cons, List.nodup_nil, List.mem_singleton, List.not_mem_nil, rst, wipeD, or_false, false_or, or_self, reduceCtorEq, Nat.reduceEqDiff, Nat.reduceAdd, Nat.reduceLeDiff, Nat.zero_le, Nat.succ_ne_self, Option.getD_some, Option.some.injEq, exists_eq_left', true_and, and_true, and_self, true_implies, implies_true, not_false_eq_true, not_true_eq_false, decide_eq_true_eq, if_true, if_false, ↓reduceIte, Bool.false_eq_true, Bool.not_true, Bool.not_false, decide_true, decide_false, Bool.true_eq_false, eq_self, w_raise, w_try, w_qTry, ew0, ew1, ew2, ew3, ew4, ew5, ew6, ew7, ew8, ew9, ew10, ew11, ew12, w_enS, w_qEnX, w_listS, w_sindex, oRepT_v, w_oCat, oCat2_s, w_oRep, oRep2_s, own_f, own_b, ownLs_l, w_cix, w_qCix, w_end, w_qEnd, g1_v, g1s_v, g2_v, gM_v, isObR_v, w_consO, w_qConsO, w_qConsO2, w_post, w_qPost, isLenR_v, isBlR_v, w_fld, w_qFld0, w_qFld1, w_qFld2, isOb, w_obNew, w_qObNew, w_bool, w_obEqS, w_qObEqS, w_orT, w_qOrT0, w_qOrT1])
theorem fn_Presses___eq__ {f : Addr} {fd : FuncData} (F : Fun K "__eq__" "Presses.__eq__" st_Presses___eq__ f fd) (B : Bi mgl)   {pC : Addr} (Oc : OCl K pC ∧ (∀ T ∈ ["NoneType", "bool", "int", "str", "tuple", "list"], PySem.W.kitOne K (.type T) (.ref pC) = some false) ∧ mgl "Presses" = some (.ref pC)) : FnOk P WW.w K mgl base (L2N.CX P WW.w) 1 f fd ["self", "other"] (toSp K 2 S_Presses___eq__) := by
  refine fnd' F sc_Presses___eq__ rfl false [] rfl (fun cdv A outer s H E hr tk => (dss_cons (ds_if (dt_not (dt_val (de_isOb Oc.1 Oc.2.1 Oc.2.2 B.isinstance (de_var 1)))) (dss_one ds_never) dss_nil)
    (dss_one (ds_ret (de_cmp (op_eqD hr.units) od_eqD (de_tup (da_cons (de_obFld (i := 0) rfl (de_var 0)) (da_cons (de_obFld (i := 2) rfl (de_var 0)) da_nil))) (de_tup (da_cons (de_obFld (i := 0) rfl (de_var 1)) (da_cons (de_obFld (i := 2) rfl (de_var 1)) da_nil)))))))) ?_
  intro ρ Q E h _
  match ρ, h with
  | [.v (.ob [.str kd, .str r, x]), .v (.ob [.str kd2, .str r2, y])], h =>
    have h : x = effD (decide (kd = kRight)) r ∧ y = effD (decide (kd2 = kRight)) r2 ∧ kindB kd = true ∧ kindB kd2 = true ∧ Q (.v (.bl (decide (kd = kd2 ∧ MA.eff (kd = kRight) r = MA.eff (kd2 = kRight) r2)))) [.v (.ob [.str kd, .str r, x]), .v (.ob [.str kd2, .str r2, y])] := h
    obtain ⟨rfl, rfl, hk1, hk2, h⟩ := h
    walk_at "Presses___eq__"
    refine ⟨gd_kp hk1, gd_kp hk2, ?_⟩
    have e : eqv (D.tup [D.str kd, effD (decide (kd = kRight)) r]) (D.tup [D.str kd2, effD (decide (kd2 = kRight)) r2]) = decide (kd = kd2 ∧ MA.eff (decide (kd = kRight)) r = MA.eff (decide (kd2 = kRight)) r2) := by
      have e1 : eqv (D.tup [D.str kd, effD (decide (kd = kRight)) r]) (D.tup [D.str kd2, effD (decide (kd2 = kRight)) r2]) = (decide (kd = kd2) && eqv (effD (decide (kd = kRight)) r) (effD (decide (kd2 = kRight)) r2)) := by
        simp [eqv, eqvs]
      rw [e1, eqv_eff2, Bool.decide_and]
    rw [e]
    exact h
abbrev st_Presses___add__ : Stmt := clsS 34 10
abbrev nm_Presses___add__ : List Str := ["self", "other"]
theorem sc_Presses___add__ : FnScope nm_Presses___add__ ["self", "other"] (defScope st_Presses___add__) := ⟨rfl, rfl, rfl, by decide +kernel, rfl, by decide +kernel, by decide +kernel⟩
def S_Presses___add__ : TD := fun ρ Q E => match ρ with
  | [.v (.ob [.str kd, .str r, x]), .v (.ob [.str kd2, .str r2, y])] => x = effD (decide (kd = kRight)) r ∧ y = effD (decide (kd2 = kRight)) r2 ∧ kindB kd = true ∧ rowB r = true ∧ rowB r2 = true ∧ Row r ∧ Row r2 ∧ ((kd ≠ kd2 ∧ E 10 [.v (.ob [.str kd, .str r, x]), .v (.ob [.str kd2, .str r2, y])]) ∨ (kd = kd2 ∧ 40 < r.length + r2.length ∧ E 2 [.v (.ob [.str kd, .str r, x]), .v (.ob [.str kd2, .str r2, y])]) ∨ (kd = kd2 ∧ r.length + r2.length ≤ 40 ∧ Q (.v (prD kd (r ++ r2))) [.v (.ob [.str kd, .str r, x]), .v (.ob [.str kd2, .str r2, y])]))
  | _ => False
theorem S_Presses___add___eq {kd r kd2 r2 : List Nat} {x y : D} {Q : CtR} {E : EX} : S_Presses___add__ [.v (.ob [.str kd, .str r, x]), .v (.ob [.str kd2, .str r2, y])] Q E = (x = effD (decide (kd = kRight)) r ∧ y = effD (decide (kd2 = kRight)) r2 ∧ kindB kd = true ∧ rowB r = true ∧ rowB r2 = true ∧ Row r ∧ Row r2 ∧ ((kd ≠ kd2 ∧ E 10 [.v (.ob [.str kd, .str r, x]), .v (.ob [.str kd2, .str r2, y])]) ∨ (kd = kd2 ∧ 40 < r.length + r2.length ∧ E 2 [.v (.ob [.str kd, .str r, x]), .v (.ob [.str kd2, .str r2, y])]) ∨ (kd = kd2 ∧ r.length + r2.length ≤ 40 ∧ Q (.v (prD kd (r ++ r2))) [.v (.ob [.str kd, .str r, x]), .v (.ob [.str kd2, .str r2, y])]))) := rfl
local macro_rules | `(tactic| walk_at "Presses___add__") => `(tactic| simp (config := { maxSteps := 10000000 }) only [w_var, w_sl_v, w_sl_l, w_c, w_op, w_qOp, w_qOp2, w_qB, w_test, w_and, w_or, w_not, w_qAnd, w_qOr, w_qNot, w_andV, w_orV, w_notV, w_qAndV, w_qOrV, w_qNotV, w_qI, w_neg, w_qNeg, w_if, w_qIf, w_chain, w_qCh, w_qCh2, w_qCh4, w_nil, w_cons, w_qCons, w_qCons2, fzL_nil, fzL_v, fzL_f, noB_nil, noB_v, noB_f, w_tup, w_lst, w_qTup, w_qLst, w_next, w_seq, w_break, w_drop, w_qDrop, w_ret, w_ifS, w_qIfS, w_set, w_qSet, asg_v, asg_f, asg_b, w_par, w_qPar, w_parT, w_qParT, asgs_c, asgs_n, w_asg, w_qAsg, w_hName, w_hCons, w_qH, hNil_n, hTup_t, w_be, w_qRt, w_qNx, w_qEx, w_nowh, ret_v, ret_f, ret_ft, ret_b, retB_l, retB_lt, mg_l, mg_v, mg_n, mgOk_l, mgOk_v, mgOk_n, w_call, w_qCall, w_qWb, w_qWe, argE_v, argE_f, argE_b, lOnly_l, bis_n, bis_b, bis_v, bis_f, wb_b, wb_v, wb_f, wb_n, dat_v, dat_f, dat_b, datS_l, ls_l, ts_t, seq_l, seq_t, w_ixL, w_ixT, w_ixS, at_0, at_1, at_2, at_3, own_l, up_0, up_1, w_setIx, w_qSx_v, w_qSx_f, w_qSx2, w_qSx3, w_app_v, w_app_f, w_qApp, w_popAt, w_pop, w_bm', w_qBm, w_qBm2, w_bm0, w_qBm0, ty_s, ty_l, w_some, w_qSome, w_no, w_slc, w_qSlc, w_qSl2, w_qSl3, w_sL, w_qCut, sS_v, sT_v, w_cb, w_qCB, w_len, len_l, len_t, len_s, w_tupOf, w_listOf, w_qTo, w_qLo, w_all, w_isi, w_qIsi, w_sort, w_count, w_frz, frz_l, frz_v, w_join, w_dix, w_qDix, w_int, oIsB_v, oNotB_v, w_diS, w_diT, w_diL, w_qIS, w_qIT, w_qIL, w_qILd, w_diR1, w_diR2, w_qR1, w_qR2, w_for, w_qTurn, w_lessI, w_qWhile, w_lc, w_lcT2_v, w_lcT, dNever, dYes, oI0_v, oI_v, oEq_v, oNe_v, scD_ii, scD_ss, scD_bb, scD_nn, scD_ns, scD_sn, eqF_ii, eqF_ss, eqF_bb, eqF_nn, eqF_ns, eqF_sn, oAddS_v, oMulS_v, oInC_v, oIn_v, oCatT_v, oIsN_v, oNotN_v, DL.isNon, cMax2_v, cMin2_v, isStr, isInt, isBl, isTup, isLst, apart, flat, stR, dLstRg1_eq, dLstRg2_eq, oEqD, oNeD, List.cons_append, List.nil_append, List.map_cons, List.map_nil, List.getElem?_cons_zero, List.getElem?_cons_succ, List.set_cons_zero, List.set_cons_succ, List.length_cons, List.length_nil, List.nodup_cons, List.nodup_nil, List.mem_singleton, List.not_mem_nil, rst, wipeD, or_false, false_or, or_self, reduceCtorEq, Nat.reduceEqDiff, Nat.reduceAdd, Nat.reduceLeDiff, Nat.zero_le, Nat.succ_ne_self, Option.getD_some, Option.some.injEq, exists_eq_left', true_and, and_true, and_self, true_implies, implies_true, not_false_eq_true, not_true_eq_false, decide_eq_true_eq, if_true, if_false, ↓reduceIte, Bool.false_eq_true, Bool.not_true, Bool.not_false, decide_true, decide_false, Bool.true_eq_false, eq_self, w_raise, w_try, w_qTry, ew0, ew1, ew2, ew3, ew4, ew5, ew6, ew7, ew8, ew9, ew10, ew11, ew12, w_enS, w_qEnX, w_listS, w_sindex, oRepT_v, w_oCat, oCat2_s, w_oRep, oRep2_s, own_f, own_b, ownLs_l, w_cix, w_qCix, w_end, w_qEnd, g1_v, g1s_v, g2_v, gM_v, isObR_v, w_consO, w_qConsO, w_qConsO2, w_post, w_qPost, isLenR_v, isBlR_v, w_fld, w_qFld0, w_qFld1, w_qFld2, isOb, w_obNew, w_qObNew, w_bool, w_obEqS, w_qObEqS, w_orT, w_qOrT0, w_qOrT1])
theorem fn_Presses___add__ {f : Addr} {fd : FuncData} (F : Fun K "__add__" "Presses.__add__" st_Presses___add__ f fd) (B : Bi mgl)  (c_MAX_ROW : GC K mgl "MAX_ROW" (.int 40)) (On : ObNew P WW.w K mgl base newPre newOut) {pC : Addr} (Oc : OCl K pC ∧ (∀ T ∈ ["NoneType", "bool", "int", "str", "tuple", "list"], PySem.W.kitOne K (.type T) (.ref pC) = some false) ∧ mgl "Presses" = some (.ref pC)) {eB : Addr} {eAs : List Addr} (Er : ErrM K mgl eB eAs) : FnOk P WW.w K mgl base (L2N.CX P WW.w) 5 f fd ["self", "other"] (toSp K 2 S_Presses___add__) := by
  refine fnd' F sc_Presses___add__ rfl false [] rfl (fun cdv A outer s H E hr tk => (dss_cons (ds_if (dt_not (dt_val (de_isOb Oc.1 Oc.2.1 Oc.2.2 B.isinstance (de_var 1)))) (dss_one ds_never) dss_nil)
    (dss_cons (ds_if (dt_cmp op_ne od_ne (de_obFld (i := 0) rfl (de_var 0)) (de_obFld (i := 0) rfl (de_var 1))) (dss_one (ds_raise Er rfl tk 10 rfl rfl)) dss_nil)
    (dss_cons (ds_if (dt_cmp op_gt (od_I0 (g := fun i j => .bl (decide (j < i)))) (de_op op_add (od_I0 (g := fun i j => .int (i + j))) (de_cb call_len cd_len B.len PySem.boot_len (da_cons (de_obFld (i := 1) rfl (de_var 0)) da_nil)) (de_cb call_len cd_len B.len PySem.boot_len (da_cons (de_obFld (i := 1) rfl (de_var 1)) da_nil))) (de_gc c_MAX_ROW)) (dss_one (ds_raise Er rfl tk 2 rfl rfl)) dss_nil)
    (dss_one (ds_ret (de_obNew On tk (hr.mono (by decide)) (da_cons (de_obFld (i := 0) rfl (de_var 0)) (da_cons (de_op op_add_str od_addS (de_obFld (i := 1) rfl (de_var 0)) (de_obFld (i := 1) rfl (de_var 1))) da_nil))))))))) ?_
  intro ρ Q E h _
  match ρ, h with
  | [.v (.ob [.str kd, .str r, x]), .v (.ob [.str kd2, .str r2, y])], h =>
    have h : x = effD (decide (kd = kRight)) r ∧ y = effD (decide (kd2 = kRight)) r2 ∧ kindB kd = true ∧ rowB r = true ∧ rowB r2 = true ∧ Row r ∧ Row r2 ∧ ((kd ≠ kd2 ∧ E 10 [.v (.ob [.str kd, .str r, x]), .v (.ob [.str kd2, .str r2, y])]) ∨ (kd = kd2 ∧ 40 < r.length + r2.length ∧ E 2 [.v (.ob [.str kd, .str r, x]), .v (.ob [.str kd2, .str r2, y])]) ∨ (kd = kd2 ∧ r.length + r2.length ≤ 40 ∧ Q (.v (prD kd (r ++ r2))) [.v (.ob [.str kd, .str r, x]), .v (.ob [.str kd2, .str r2, y])])) := h
    obtain ⟨rfl, rfl, hk, h1, h2, R1, R2, h⟩ := h
    have l1 := rowB_len h1
    have l2 := rowB_len h2
    walk_at "Presses___add__"
    rcases h with ⟨ne, k⟩ | ⟨rfl, hl, k⟩ | ⟨rfl, hl, k⟩
    · rw [if_pos (by rw [decide_eq_false ne]; rfl)]
      exact k
    · rw [if_neg (by rw [decide_eq_true rfl]; decide)]
      refine ⟨by omega, by omega, ?_⟩
      rw [if_pos (by omega)]
      exact k
    · rw [if_neg (by rw [decide_eq_true rfl]; decide)]
      refine ⟨by omega, by omega, ?_⟩
      rw [if_neg (by omega)]
      refine ⟨by omega, new_ok hk (rowB_of (R1.app R2) (by rw [List.length_append]; omega)) ?_⟩
      walk_at "Presses___add__"
      exact k
abbrev st_Presses___mul__ : Stmt := clsS 34 11
abbrev nm_Presses___mul__ : List Str := ["self", "times"]
theorem sc_Presses___mul__ : FnScope nm_Presses___mul__ ["self", "times"] (defScope st_Presses___mul__) := ⟨rfl, rfl, rfl, by decide +kernel, rfl, by decide +kernel, by decide +kernel⟩
def S_Presses___mul__ : TD := fun ρ Q E => match ρ with
  | [.v (.ob [.str kd, .str r, x]), .v d] => x = effD (decide (kd = kRight)) r ∧ kindB kd = true ∧ rowB r = true ∧ Row r ∧ ((isIntD d 0 40 = false ∧ E 3 [.v (.ob [.str kd, .str r, x]), .v d]) ∨ (∃ n : Nat, d = .int (n : Nat) ∧ n ≤ 40 ∧ ((40 < r.length * n ∧ E 2 [.v (.ob [.str kd, .str r, x]), .v d]) ∨ (r.length * n ≤ 40 ∧ Q (.v (prD kd (List.flatten (List.replicate n r)))) [.v (.ob [.str kd, .str r, x]), .v d]))))
  | _ => False
theorem S_Presses___mul___eq {kd r : List Nat} {x : D} {d : D} {Q : CtR} {E : EX} : S_Presses___mul__ [.v (.ob [.str kd, .str r, x]), .v d] Q E = (x = effD (decide (kd = kRight)) r ∧ kindB kd = true ∧ rowB r = true ∧ Row r ∧ ((isIntD d 0 40 = false ∧ E 3 [.v (.ob [.str kd, .str r, x]), .v d]) ∨ (∃ n : Nat, d = .int (n : Nat) ∧ n ≤ 40 ∧ ((40 < r.length * n ∧ E 2 [.v (.ob [.str kd, .str r, x]), .v d]) ∨ (r.length * n ≤ 40 ∧ Q (.v (prD kd (List.flatten (List.replicate n r)))) [.v (.ob [.str kd, .str r, x]), .v d]))))) := rfl
local macro_rules | `(tactic| walk_at "Presses___mul__") => `(tactic| simp (config := { maxSteps := 10000000 }) only [w_var, w_sl_v, w_sl_l, w_c, w_op, w_qOp, w_qOp2, w_qB, w_test, w_and, w_or, w_not, w_qAnd, w_qOr, w_qNot, w_andV, w_orV, w_notV, w_qAndV, w_qOrV, w_qNotV, w_qI, w_neg, w_qNeg, w_if, w_qIf, w_chain, w_qCh, w_qCh2, w_qCh4, w_nil, w_cons, w_qCons, w_qCons2, fzL_nil, fzL_v, fzL_f, noB_nil, noB_v, noB_f, w_tup, w_lst, w_qTup, w_qLst, w_next, w_seq, w_break, w_drop, w_qDrop, w_ret, w_ifS, w_qIfS, w_set, w_qSet, asg_v, asg_f, asg_b, w_par, w_qPar, w_parT, w_qParT, asgs_c, asgs_n, w_asg, w_qAsg, w_hName, w_hCons, w_qH, hNil_n, hTup_t, w_be, w_qRt, w_qNx, w_qEx, w_nowh, ret_v, ret_f, ret_ft, ret_b, retB_l, retB_lt, mg_l, mg_v, mg_n, mgOk_l, mgOk_v, mgOk_n, w_call, w_qCall, w_qWb, w_qWe, argE_v, argE_f, argE_b, lOnly_l, bis_n, bis_b, bis_v, bis_f, wb_b, wb_v, wb_f, wb_n, dat_v, dat_f, dat_b, datS_l, ls_l, ts_t, seq_l, seq_t, w_ixL, w_ixT, w_ixS, at_0, at_1, at_2, at_3, own_l, up_0, up_1, w_setIx, w_qSx_v, w_qSx_f, w_qSx2, w_qSx3, w_app_v, w_app_f, w_qApp, w_popAt, w_pop, w_bm', w_qBm, w_qBm2, w_bm0, w_qBm0, ty_s, ty_l, w_some, w_qSome, w_no, w_slc, w_qSlc, w_qSl2, w_qSl3, w_sL, w_qCut, sS_v, sT_v, w_cb, w_qCB, w_len, len_l, len_t, len_s, w_tupOf, w_listOf, w_qTo, w_qLo, w_all, w_isi, w_qIsi, w_sort, w_count, w_frz, frz_l, frz_v, w_join, w_dix, w_qDix, w_int, oIsB_v, oNotB_v, w_diS, w_diT, w_diL, w_qIS, w_qIT, w_qIL, w_qILd, w_diR1, w_diR2, w_qR1, w_qR2, w_for, w_qTurn, w_lessI, w_qWhile, w_lc, w_lcT2_v, w_lcT, dNever, dYes, oI0_v, oI_v, oEq_v, oNe_v, scD_ii, scD_ss, scD_bb, scD_nn, scD_ns, scD_sn, eqF_ii, eqF_ss, eqF_bb, eqF_nn, eqF_ns, eqF_sn, oAddS_v, oMulS_v, oInC_v, oIn_v, oCatT_v, oIsN_v, oNotN_v, DL.isNon, cMax2_v, cMin2_v, isStr, isInt, isBl, isTup, isLst, apart, flat, stR, dLstRg1_eq, dLstRg2_eq, oEqD, oNeD, List.cons_append, List.nil_append, List.map_cons, List.map_nil, List.getElem?_cons_zero, List.getElem?_cons_succ, List.set_cons_zero, List.set_cons_succ, List.length_cons, List.length_nil, List.nodup_cons, List.nodup_nil, List.mem_singleton, List.not_mem_nil, rst, wipeD, or_false, false_or, or_self, reduceCtorEq, Nat.reduceEqDiff, Nat.reduceAdd, Nat.reduceLeDiff, Nat.zero_le, Nat.succ_ne_self, Option.getD_some, Option.some.injEq, exists_eq_left', true_and, and_true, and_self, true_implies, implies_true, not_false_eq_true, not_true_eq_false, decide_eq_true_eq, if_true, if_false, ↓reduceIte, Bool.false_eq_true, Bool.not_true, Bool.not_false, decide_true, decide_false, Bool.true_eq_false, eq_self, w_raise, w_try, w_qTry, ew0, ew1, ew2, ew3, ew4, ew5, ew6, ew7, ew8, ew9, ew10, ew11, ew12, w_enS, w_qEnX, w_listS, w_sindex, oRepT_v, w_oCat, oCat2_s, w_oRep, oRep2_s, own_f, own_b, ownLs_l, w_cix, w_qCix, w_end, w_qEnd, g1_v, g1s_v, g2_v, gM_v, isObR_v, w_consO, w_qConsO, w_qConsO2, w_post, w_qPost, isLenR_v, isBlR_v, w_fld, w_qFld0, w_qFld1, w_qFld2, isOb, w_obNew, w_qObNew, w_bool, w_obEqS, w_qObEqS, w_orT, w_qOrT0, w_qOrT1, S_is_integer_eq])
theorem fn_Presses___mul__ {f : Addr} {fd : FuncData} (F : Fun K "__mul__" "Presses.__mul__" st_Presses___mul__ f fd) (B : Bi mgl) (C_is_integer : Cal P WW.w K mgl base 1 3 "is_integer" S_is_integer) (c_MAX_ROW : GC K mgl "MAX_ROW" (.int 40)) (On : ObNew P WW.w K mgl base newPre newOut) {eB : Addr} {eAs : List Addr} (Er : ErrM K mgl eB eAs) : FnOk P WW.w K mgl base (L2N.CX P WW.w) 5 f fd ["self", "times"] (toSp K 2 S_Presses___mul__) := by
  refine fnd' F sc_Presses___mul__ rfl false [] rfl (fun cdv A outer s H E hr tk => (dss_cons (ds_if (dt_not (dt_val (de_cal C_is_integer tk (hr.mono (by decide)) (da_cons (de_var 1) (da_cons de_int (da_cons (de_gc c_MAX_ROW) da_nil)))))) (dss_one (ds_raise Er rfl tk 3 rfl rfl)) dss_nil)
    (dss_cons (ds_if (dt_cmp op_gt (od_I0 (g := fun i j => .bl (decide (j < i)))) (de_op op_mul (od_I (C := CMul) (g := fun i j => .int (i * j))) (de_cb call_len cd_len B.len PySem.boot_len (da_cons (de_obFld (i := 1) rfl (de_var 0)) da_nil)) (de_var 1)) (de_gc c_MAX_ROW)) (dss_one (ds_raise Er rfl tk 2 rfl rfl)) dss_nil)
    (dss_one (ds_ret (de_obNew On tk (hr.mono (by decide)) (da_cons (de_obFld (i := 0) rfl (de_var 0)) (da_cons (de_op op_mulS od_mulS (de_obFld (i := 1) rfl (de_var 0)) (de_var 1)) da_nil)))))))) ?_
  intro ρ Q E h _
  match ρ, h with
  | [.v (.ob [.str kd, .str r, x]), .v d], h =>
    have h : x = effD (decide (kd = kRight)) r ∧ kindB kd = true ∧ rowB r = true ∧ Row r ∧ ((isIntD d 0 40 = false ∧ E 3 [.v (.ob [.str kd, .str r, x]), .v d]) ∨ (∃ n : Nat, d = .int (n : Nat) ∧ n ≤ 40 ∧ ((40 < r.length * n ∧ E 2 [.v (.ob [.str kd, .str r, x]), .v d]) ∨ (r.length * n ≤ 40 ∧ Q (.v (prD kd (List.flatten (List.replicate n r)))) [.v (.ob [.str kd, .str r, x]), .v d])))) := h
    obtain ⟨rfl, hk, h1, R1, h⟩ := h
    have l1 := rowB_len h1
    walk_at "Presses___mul__"
    rcases h with ⟨e, k⟩ | ⟨n, rfl, hn, h⟩
    · rw [if_pos (by rw [e]; rfl)]
      exact k
    · rw [if_neg (by rw [isIntD_t (i := (n : Int)) (by omega) (by omega)]; decide)]
      walk_at "Presses___mul__"
      have em : ((r.length : Nat) : Int) * (n : Nat) = ((r.length * n : Nat) : Int) := by rw [Int.natCast_mul]
      have en : ((n : Nat) : Int).toNat = n := by omega
      rw [en, em]
      obtain ⟨q1, q2⟩ := row_rep R1 n
      refine ⟨by omega, mul_r (by omega) (by omega), ?_⟩
      rcases h with ⟨hl, k⟩ | ⟨hl, k⟩
      · rw [if_pos (by omega)]
        exact k
      · rw [if_neg (by omega)]
        refine ⟨by omega, by omega, by omega, new_ok hk (rowB_of q1 (by omega)) ?_⟩
        walk_at "Presses___mul__"
        exact k
abbrev st_Presses___neg__ : Stmt := clsS 34 12
abbrev nm_Presses___neg__ : List Str := ["self", "turned", "command"]
theorem sc_Presses___neg__ : FnScope nm_Presses___neg__ ["self"] (defScope st_Presses___neg__) := ⟨rfl, rfl, rfl, by decide +kernel, rfl, by decide +kernel, by decide +kernel⟩
def S_Presses___neg__ : TD := fun ρ Q E => match ρ with
  | [.v (.ob [.str kd, .str r, x])] => x = effD (decide (kd = kRight)) r ∧ kindB kd = true ∧ rowB r = true ∧ Row r ∧ Q (.v (prD (othK kd) (r.map MA.sw))) [.v (.ob [.str kd, .str r, x])]
  | _ => False
theorem S_Presses___neg___eq {kd r : List Nat} {x : D} {Q : CtR} {E : EX} : S_Presses___neg__ [.v (.ob [.str kd, .str r, x])] Q E = (x = effD (decide (kd = kRight)) r ∧ kindB kd = true ∧ rowB r = true ∧ Row r ∧ Q (.v (prD (othK kd) (r.map MA.sw))) [.v (.ob [.str kd, .str r, x])]) := rfl
local macro_rules | `(tactic| walk_at "Presses___neg__") => `(tactic| simp (config := { maxSteps := 10000000 }) only [w_var, w_sl_v, w_sl_l, w_c, w_op, w_qOp, w_qOp2, w_qB, w_test, w_and, w_or, w_not, w_qAnd, w_qOr, w_qNot, w_andV, w_orV, w_notV, w_qAndV, w_qOrV, w_qNotV, w_qI, w_neg, w_qNeg, w_if, w_qIf, w_chain, w_qCh, w_qCh2, w_qCh4, w_nil, w_cons, w_qCons, w_qCons2, fzL_nil, fzL_v, fzL_f, noB_nil, noB_v, noB_f, w_tup, w_lst, w_qTup, w_qLst, w_next, w_seq, w_break, w_drop, w_qDrop, w_ret, w_ifS, w_qIfS, w_set, w_qSet, asg_v, asg_f, asg_b, w_par, w_qPar, w_parT, w_qParT, asgs_c, asgs_n, w_asg, w_qAsg, w_hName, w_hCons, w_qH, hNil_n, hTup_t, w_be, w_qRt, w_qNx, w_qEx, w_nowh, ret_v, ret_f, ret_ft, ret_b, retB_l, retB_lt, mg_l, mg_v, mg_n, mgOk_l, mgOk_v, mgOk_n, w_call, w_qCall, w_qWb, w_qWe, argE_v, argE_f, argE_b, lOnly_l, bis_n, bis_b, bis_v, bis_f, wb_b, wb_v, wb_f, wb_n, dat_v, dat_f, dat_b, datS_l, ls_l, ts_t, seq_l, seq_t, w_ixL, w_ixT, w_ixS, at_0, at_1, at_2, at_3, own_l, up_0, up_1, w_setIx, w_qSx_v, w_qSx_f, w_qSx2, w_qSx3, w_app_v, w_app_f, w_qApp, w_popAt, w_pop, w_bm', w_qBm, w_qBm2, w_bm0, w_qBm0, ty_s, ty_l, w_some, w_qSome, w_no, w_slc, w_qSlc, w_qSl2, w_qSl3, w_sL, w_qCut, sS_v, sT_v, w_cb, w_qCB, w_len, len_l, len_t, len_s, w_tupOf, w_listOf, w_qTo, w_qLo, w_all, w_isi, w_qIsi, w_sort, w_count, w_frz, frz_l, frz_v, w_join, w_dix, w_qDix, w_int, oIsB_v, oNotB_v, w_diS, w_diT, w_diL, w_qIS, w_qIT, w_qIL, w_qILd, w_diR1, w_diR2, w_qR1, w_qR2, w_for, w_qTurn, w_lessI, w_qWhile, w_lc, w_lcT2_v, w_lcT, dNever, dYes, oI0_v, oI_v, oEq_v, oNe_v, scD_ii, scD_ss, scD_bb, scD_nn, scD_ns, scD_sn, eqF_ii, eqF_ss, eqF_bb, eqF_nn, eqF_ns, eqF_sn, oAddS_v, oMulS_v, oInC_v, oIn_v, oCatT_v, oIsN_v, oNotN_v, DL.isNon, cMax2_v, cMin2_v, isStr, isInt, isBl, isTup, isLst, apart, flat, stR, dLstRg1_eq, dLstRg2_eq, oEqD, oNeD, List.cons_append, List.nil_append, List.map_cons, List.map_nil, List.getElem?_cons_zero, List.getElem?_cons_succ, List.set_cons_zero, List.set_cons_succ, List.length_cons, List.length_nil, List.nodup_cons, List.nodup_nil, List.mem_singleton, List.not_mem_nil, rst, wipeD, or_false, false_or, or_self, reduceCtorEq, Nat.reduceEqDiff, Nat.reduceAdd, Nat.reduceLeDiff, Nat.zero_le, Nat.succ_ne_self, Option.getD_some, Option.some.injEq, exists_eq_left', true_and, and_true, and_self, true_implies, implies_true, not_false_eq_true, not_true_eq_false, decide_eq_true_eq, if_true, if_false, ↓reduceIte, Bool.false_eq_true, Bool.not_true, Bool.not_false, decide_true, decide_false, Bool.true_eq_false, eq_self, w_raise, w_try, w_qTry, ew0, ew1, ew2, ew3, ew4, ew5, ew6, ew7, ew8, ew9, ew10, ew11, ew12, w_enS, w_qEnX, w_listS, w_sindex, oRepT_v, w_oCat, oCat2_s, w_oRep, oRep2_s, own_f, own_b, ownLs_l, w_cix, w_qCix, w_end, w_qEnd, g1_v, g1s_v, g2_v, gM_v, isObR_v, w_consO, w_qConsO, w_qConsO2, w_post, w_qPost, isLenR_v, isBlR_v, w_fld, w_qFld0, w_qFld1, w_qFld2, isOb, w_obNew, w_qObNew, w_bool, w_obEqS, w_qObEqS, w_orT, w_qOrT0, w_qOrT1])
theorem fn_Presses___neg__ {f : Addr} {fd : FuncData} (F : Fun K "__neg__" "Presses.__neg__" st_Presses___neg__ f fd) (B : Bi mgl)   (On : ObNew P WW.w K mgl base newPre newOut) : FnOk P WW.w K mgl base (L2N.CX P WW.w) 5 f fd ["self"] (toSp K 1 S_Presses___neg__) := by
  refine fnd' F sc_Presses___neg__ rfl false [.no, .no] rfl (fun cdv A outer s H E hr tk => (dss_cons (ds_set 1 sc_Presses___neg__.nd rfl (by first | exact Or.inl rfl | exact Or.inr rfl) (de_bm PySem.F.plainAttrs_str PySem.F.slot_str_join PySem.F.type_str_join mt_join md_join (de_str []) (da_cons (de_lc (own := [("command", 2)]) (nt := .one 2) rfl sc_Presses___neg__.nd (di_str (de_obFld (i := 1) rfl (de_var 0))) (blkOk_by (own := [("command", 2)]) (N := nm_Presses___neg__) (sc := defScope (st_Presses___neg__)) (by decide +kernel)) (by decide) (fun _ _ _ _ _ => (pg_name (i := 2) sc_Presses___neg__.nd rfl (by first | exact Or.inl rfl | exact Or.inr rfl))) (fun _ _ _ _ _ => dts_nil) (fun _ _ _ _ _ => (de_if (dt_cmp op_eq od_eq (de_var 2) (de_str [99])) (de_str [99]) (de_if (dt_cmp op_eq od_eq (de_var 2) (de_str [110])) (de_str [112]) (de_str [110]))))) da_nil)))
    (dss_one (ds_ret (de_obNew On tk (hr.mono (by decide)) (da_cons (de_if (dt_cmp op_eq od_eq (de_obFld (i := 0) rfl (de_var 0)) (de_str [114, 105, 103, 104, 116])) (de_str [108, 101, 102, 116]) (de_str [114, 105, 103, 104, 116])) (da_cons (de_var 1) da_nil))))))) ?_
  intro ρ Q E h _
  match ρ, h with
  | [.v (.ob [.str kd, .str r, x])], h =>
    have h : x = effD (decide (kd = kRight)) r ∧ kindB kd = true ∧ rowB r = true ∧ Row r ∧ Q (.v (prD (othK kd) (r.map MA.sw))) [.v (.ob [.str kd, .str r, x])] := h
    obtain ⟨rfl, hk, h1, R1, k⟩ := h
    have l1 := rowB_len h1
    walk_at "Presses___neg__"
    refine lc_i (fun d => match d with | .str [c] => some (.str [MA.sw c]) | _ => none) (noLs_of rfl) (by rw [chs_len]; omega) trivial (fun i d e => ?_) fun a => ?_
    · obtain ⟨c, hc, rfl⟩ := chs_get.mp e
      refine ⟨_, rfl, ?_⟩
      walk_at "Presses___neg__"
      rcases R1 c (List.mem_of_getElem? hc) with rfl | rfl | rfl <;> rfl
    · walk_at "Presses___neg__"
      refine join_i sw_map ?_ ?_
      · rw [sw_len]; simp; omega
      · rw [joinD_nil, sw_flat]
        walk_at "Presses___neg__"
        have R2 : Row (r.map MA.sw) := fun c hc => by
          obtain ⟨d, hd, rfl⟩ := List.mem_map.mp hc
          rcases R1 d hd with rfl | rfl | rfl <;> decide
        have hB : rowB (r.map MA.sw) = true := rowB_of R2 (by rw [List.length_map]; omega)
        unfold othK at k
        by_cases e : kd = kRight
        · rw [if_pos (show kd = [114, 105, 103, 104, 116] from e)]
          rw [if_pos e] at k
          refine new_ok (by decide) hB ?_
          walk_at "Presses___neg__"
          exact k
        · rw [if_neg (show ¬ kd = [114, 105, 103, 104, 116] from e)]
          rw [if_neg e] at k
          refine new_ok (by decide) hB ?_
          walk_at "Presses___neg__"
          exact k
abbrev st_Lrow : Stmt := topS 43
abbrev nm_Lrow : List Str := ["_law_source_here", "_law_most", "_law_closings_most", "_law_found", "_law_main", "_law_turn", "_law_command"]
theorem sc_Lrow : FnScope nm_Lrow ["_law_source_here", "_law_most", "_law_closings_most"] (defScope st_Lrow) := ⟨rfl, rfl, rfl, by decide +kernel, rfl, by decide +kernel, by decide +kernel⟩
def S_Lrow : TD := fun ρ Q E => match ρ with
  | [.l a [.int x, .int y, .int z], .v (.int m), .v (.int c)] => Src z ∧ 0 ≤ m ∧ m < 1000 ∧ 0 ≤ c ∧ ∀ (r : List Nat) (x' y' : Int), Row r → r.length ≤ m → (r.count 99 : Int) ≤ c → Q (.v (.str r)) [.l a [.int x', .int y', .int z], .v (.int m), .v (.int c)]
  | _ => False
theorem S_Lrow_eq {a : Addr} {x y z m c : Int} {Q : CtR} {E : EX} : S_Lrow [.l a [.int x, .int y, .int z], .v (.int m), .v (.int c)] Q E = (Src z ∧ 0 ≤ m ∧ m < 1000 ∧ 0 ≤ c ∧ ∀ (r : List Nat) (x' y' : Int), Row r → r.length ≤ m → (r.count 99 : Int) ≤ c → Q (.v (.str r)) [.l a [.int x', .int y', .int z], .v (.int m), .v (.int c)]) := rfl
local macro_rules | `(tactic| walk_at "Lrow") => `(tactic| simp (config := { maxSteps := 10000000 }) only [w_var, w_sl_v, w_sl_l, w_c, w_op, w_qOp, w_qOp2, w_qB, w_test, w_and, w_or, w_not, w_qAnd, w_qOr, w_qNot, w_andV, w_orV, w_notV, w_qAndV, w_qOrV, w_qNotV, w_qI, w_neg, w_qNeg, w_if, w_qIf, w_chain, w_qCh, w_qCh2, w_qCh4, w_nil, w_cons, w_qCons, w_qCons2, fzL_nil, fzL_v, fzL_f, noB_nil, noB_v, noB_f, w_tup, w_lst, w_qTup, w_qLst, w_next, w_seq, w_break, w_drop, w_qDrop, w_ret, w_ifS, w_qIfS, w_set, w_qSet, asg_v, asg_f, asg_b, w_par, w_qPar, w_parT, w_qParT, asgs_c, asgs_n, w_asg, w_qAsg, w_hName, w_hCons, w_qH, hNil_n, hTup_t, w_be, w_qRt, w_qNx, w_qEx, w_nowh, ret_v, ret_f, ret_ft, ret_b, retB_l, retB_lt, mg_l, mg_v, mg_n, mgOk_l, mgOk_v, mgOk_n, w_call, w_qCall, w_qWb, w_qWe, argE_v, argE_f, argE_b, lOnly_l, bis_n, bis_b, bis_v, bis_f, wb_b, wb_v, wb_f, wb_n, dat_v, dat_f, dat_b, datS_l, ls_l, ts_t, seq_l, seq_t, w_ixL, w_ixT, w_ixS, at_0, at_1, at_2, at_3, own_l, up_0, up_1, w_setIx, w_qSx_v, w_qSx_f, w_qSx2, w_qSx3, w_app_v, w_app_f, w_qApp, w_popAt, w_pop, w_bm', w_qBm, w_qBm2, w_bm0, w_qBm0, ty_s, ty_l, w_some, w_qSome, w_no, w_slc, w_qSlc, w_qSl2, w_qSl3, w_sL, w_qCut, sS_v, sT_v, w_cb, w_qCB, w_len, len_l, len_t, len_s, w_tupOf, w_listOf, w_qTo, w_qLo, w_all, w_isi, w_qIsi, w_sort, w_count, w_frz, frz_l, frz_v, w_join, w_dix, w_qDix, w_int, oIsB_v, oNotB_v, w_diS, w_diT, w_diL, w_qIS, w_qIT, w_qIL, w_qILd, w_diR1, w_diR2, w_qR1, w_qR2, w_for, w_qTurn, w_lessI, w_qWhile, w_lc, w_lcT2_v, w_lcT, dNever, dYes, oI0_v, oI_v, oEq_v, oNe_v, scD_ii, scD_ss, scD_bb, scD_nn, scD_ns, scD_sn, eqF_ii, eqF_ss, eqF_bb, eqF_nn, eqF_ns, eqF_sn, oAddS_v, oMulS_v, oInC_v, oIn_v, oCatT_v, oIsN_v, oNotN_v, DL.isNon, cMax2_v, cMin2_v, isStr, isInt, isBl, isTup, isLst, apart, flat, stR, dLstRg1_eq, dLstRg2_eq, oEqD, oNeD, List.cons_append, List.nil_append, List.map_cons, List.map_nil, List.getElem?_cons_zero, List.getElem?_cons_succ, List.set_cons_zero, List.set_cons_succ, List.length_cons, List.length_nil, List.nodup_cons, List.nodup_nil, List.mem_singleton, List.not_mem_nil, rst, wipeD, or_false, false_or, or_self, reduceCtorEq, Nat.reduceEqDiff, Nat.reduceAdd, Nat.reduceLeDiff, Nat.zero_le, Nat.succ_ne_self, Option.getD_some, Option.some.injEq, exists_eq_left', true_and, and_true, and_self, true_implies, implies_true, not_false_eq_true, not_true_eq_false, decide_eq_true_eq, if_true, if_false, ↓reduceIte, Bool.false_eq_true, Bool.not_true, Bool.not_false, decide_true, decide_false, Bool.true_eq_false, eq_self, w_raise, w_try, w_qTry, ew0, ew1, ew2, ew3, ew4, ew5, ew6, ew7, ew8, ew9, ew10, ew11, ew12, w_enS, w_qEnX, w_listS, w_sindex, oRepT_v, w_oCat, oCat2_s, w_oRep, oRep2_s, own_f, own_b, ownLs_l, w_cix, w_qCix, w_end, w_qEnd, g1_v, g1s_v, g2_v, gM_v, isObR_v, w_consO, w_qConsO, w_qConsO2, w_post, w_qPost, isLenR_v, isBlR_v, w_fld, w_qFld0, w_qFld1, w_qFld2, isOb, w_obNew, w_qObNew, w_bool, w_obEqS, w_qObEqS, w_orT, w_qOrT0, w_qOrT1, S_Lpick_eq, rep2, rep3])
theorem fn_Lrow {f : Addr} {fd : FuncData} (F : Fun K "_law_row" "_law_row" st_Lrow f fd) (B : Bi mgl) (C_Lpick : Cal P WW.w K mgl base 1 2 "_law_pick" S_Lpick)  : FnOk P WW.w K mgl base (L2N.CX P WW.w) 2 f fd ["_law_source_here", "_law_most", "_law_closings_most"] (toSp K 3 S_Lrow) := by
  refine fnd' F sc_Lrow rfl false [.no, .no, .no, .no] rfl (fun cdv A outer s H E hr tk => (dss_cons (ds_par 3 4 rfl sc_Lrow.nd rfl rfl (by decide) rfl rfl (da_cons (de_str []) (da_cons (de_ix ix_str od_ixS (de_str [110, 112]) (de_cal C_Lpick tk (hr.mono (by decide)) (da_cons (de_var 0) (da_cons de_int da_nil)))) da_nil)))
    (dss_cons (ds_for (passes_of rfl) rfl (di_range1 B.range (da_cons (de_cal C_Lpick tk (hr.mono (by decide)) (da_cons (de_var 0) (da_cons (de_op op_add (od_I0 (g := fun i j => .int (i + j))) (de_var 1) de_int) da_nil))) da_nil)) (dg_name 5 sc_Lrow.nd rfl (by first | exact Or.inl rfl | exact Or.inr rfl))
    (dss_cons (ds_set 6 sc_Lrow.nd rfl (by first | exact Or.inl rfl | exact Or.inr rfl) (de_ix ix_str od_ixS (de_op op_add_str od_addS (de_op op_add_str od_addS (de_op op_add_str od_addS (de_str [99]) (de_op op_mulS od_mulS (de_var 4) de_int)) (de_str [110, 112])) (de_op op_mulS od_mulS (de_str [99]) de_int)) (de_cal C_Lpick tk (hr.mono (by decide)) (da_cons (de_var 0) (da_cons de_int da_nil)))))
    (dss_cons (ds_if (dt_w (dw_and (dt_cmp op_eq od_eq (de_var 6) (de_str [99])) (dw_and1 (dt_cmp op_ge (od_I0 (g := fun i j => .bl (decide (j ≤ i)))) (de_bm PySem.F.plainAttrs_str PySem.F.slot_str_count PySem.F.type_str_count mt_count md_count (de_var 3) (da_cons (de_str [99]) da_nil)) (de_var 2))))) (dss_one (ds_set 6 sc_Lrow.nd rfl (by first | exact Or.inl rfl | exact Or.inr rfl) (de_var 4))) dss_nil)
    (dss_one (ds_set 3 sc_Lrow.nd rfl (by first | exact Or.inl rfl | exact Or.inr rfl) (de_op op_add_str od_addS (de_var 3) (de_var 6)))))))
    (dss_one (ds_ret (de_var 3)))))) ?_
  intro ρ Q E h _
  match ρ, h with
  | [.l a [.int x, .int y, .int z], .v (.int m), .v (.int c)], h =>
    have h : Src z ∧ 0 ≤ m ∧ m < 1000 ∧ 0 ≤ c ∧ ∀ (r : List Nat) (x' y' : Int), Row r → r.length ≤ m → (r.count 99 : Int) ≤ c → Q (.v (.str r)) [.l a [.int x', .int y', .int z], .v (.int m), .v (.int c)] := h
    obtain ⟨hz, h0, h1, hc, k⟩ := h
    walk_at "Lrow"
    refine ⟨hz, by omega, fun r x' y' r0 r1 => atS_all r0 r1 fun mn hmn => ?_⟩
    have hmn : mn = 110 ∨ mn = 112 := by simpa using hmn
    walk_at "Lrow"
    refine ⟨hz, by omega, fun n x' y' n0 n1 => ⟨by omega, ?_⟩⟩
    refine for_i (fun i ρ' => ∃ f x y s5 s6, ρ' = [.l a [.int x, .int y, .int z], .v (.int m), .v (.int c), .v (.str f), .v (.str [mn]), s5, s6] ∧ Row f ∧ f.length ≤ i ∧ (f.count 99 : Int) ≤ c) ⟨_, _, _, _, _, rfl, by simp [Row], by simp, by simpa using hc⟩ ?_ ?_
    · rintro i d ρ' hd ⟨f, x, y, s5, s6, rfl, hf, hl, hk⟩
      obtain ⟨hi, rfl⟩ := rgD_get.mp hd
      refine ⟨trivial, ?_⟩
      have hn : i < n.toNat := hi
      walk_at "Lrow"
      (repeat refine ⟨by first | assumption | omega | decide | exact mul_r (by omega) (by omega) | exact mul_l (by omega) (by omega) | exact divW_i (by omega) (by omega), ?_⟩)
      refine fun q x1 y1 q0 q1 => atS_all q0 q1 fun b hb => ?_
      have hb : b = 99 ∨ b = 110 ∨ b = 112 := by
        simp only [List.mem_cons, List.not_mem_nil, or_false] at hb
        omega
      walk_at "Lrow"
      have row1 : ∀ e : Nat, e = 99 ∨ e = 110 ∨ e = 112 → Row (f ++ [e]) := fun e he c' hc' => by
        rcases List.mem_append.mp hc' with q | q
        · exact hf c' q
        · simp at q; subst q; exact he
      have ln1 : ∀ e : Nat, (f ++ [e]).length ≤ i + 1 := fun e => by simp; omega
      have ct1 : ∀ e : Nat, (e = 99 → (f.count 99 : Int) < c) → ((f ++ [e]).count 99 : Int) ≤ c := fun e he => by
        have : (f ++ [e]).count 99 = f.count 99 + if e = 99 then 1 else 0 := by rw [List.count_append]; simp [List.count_cons]
        rw [this]
        by_cases h : e = 99
        · have := he h; rw [if_pos h]; omega
        · rw [if_neg h]; omega
      have fin : ∀ e : Nat, e = 99 ∨ e = 110 ∨ e = 112 → (e = 99 → (f.count 99 : Int) < c) → ∃ f' x' y' s5' s6', ([.l a [.int x1, .int y1, .int z], .v (.int m), .v (.int c), .v (.str (f ++ [e])), .v (.str [mn]), .v (.int (0 + (i : Nat))), .v (.str [e])] : DEnv) = [.l a [.int x', .int y', .int z], .v (.int m), .v (.int c), .v (.str f'), .v (.str [mn]), s5', s6'] ∧ Row f' ∧ f'.length ≤ i + 1 ∧ (f'.count 99 : Int) ≤ c := fun e he h9 => ⟨_, _, _, _, _, rfl, row1 e he, ln1 e, ct1 e h9⟩
      have hmn' : mn = 99 ∨ mn = 110 ∨ mn = 112 := .inr hmn
      by_cases hb9 : b = 99
      · rw [if_pos (by rw [hb9])]
        by_cases hq : c ≤ (f.count 99 : Int)
        · rw [if_pos hq]
          exact ⟨by omega, fin mn hmn' fun e => by omega⟩
        · rw [if_neg hq]
          exact ⟨by omega, fin b hb fun e => by omega⟩
      · rw [if_neg (by simpa using hb9)]
        exact ⟨by omega, fin b hb fun e => absurd e hb9⟩
    · rintro ρ' ⟨f, x, y, s5, s6, rfl, hf, hl, hk⟩
      refine ⟨trivial, ?_⟩
      walk_at "Lrow"
      refine k _ _ _ hf ?_ hk
      have : (rgD 0 n.toNat).length = n.toNat := by simp [rgD]
      omega
theorem ok_Lrow (hD : DefAt K mgl "_law_row" st_Lrow ["_law_source_here", "_law_most", "_law_closings_most"]) (B : Bi mgl) (C_Lpick : Cal P WW.w K mgl base 1 2 "_law_pick" S_Lpick)  : Cal P WW.w K mgl base 2 3 "_law_row" S_Lrow := cal_of hD fun f fd F => fn_Lrow F B C_Lpick 
abbrev st_Lother : Stmt := topS 40
abbrev nm_Lother : List Str := ["_law_kind_so"]
theorem sc_Lother : FnScope nm_Lother ["_law_kind_so"] (defScope st_Lother) := ⟨rfl, rfl, rfl, by decide +kernel, rfl, by decide +kernel, by decide +kernel⟩
def S_Lother : TD := fun ρ Q E => match ρ with
  | [.v (.str kd)] => Q (.v (.str (if kd = kRight then kLeft else kRight))) [.v (.str kd)]
  | _ => False
theorem S_Lother_eq {kd : List Nat} {Q : CtR} {E : EX} : S_Lother [.v (.str kd)] Q E = (Q (.v (.str (if kd = kRight then kLeft else kRight))) [.v (.str kd)]) := rfl
local macro_rules | `(tactic| walk_at "Lother") => `(tactic| simp (config := { maxSteps := 10000000 }) only [w_var, w_sl_v, w_sl_l, w_c, w_op, w_qOp, w_qOp2, w_qB, w_test, w_and, w_or, w_not, w_qAnd, w_qOr, w_qNot, w_andV, w_orV, w_notV, w_qAndV, w_qOrV, w_qNotV, w_qI, w_neg, w_qNeg, w_if, w_qIf, w_chain, w_qCh, w_qCh2, w_qCh4, w_nil, w_cons, w_qCons, w_qCons2, fzL_nil, fzL_v, fzL_f, noB_nil, noB_v, noB_f, w_tup, w_lst, w_qTup, w_qLst, w_next, w_seq, w_break, w_drop, w_qDrop, w_ret, w_ifS, w_qIfS, w_set, w_qSet, asg_v, asg_f, asg_b, w_par, w_qPar, w_parT, w_qParT, asgs_c, asgs_n, w_asg, w_qAsg, w_hName, w_hCons, w_qH, hNil_n, hTup_t, w_be, w_qRt, w_qNx, w_qEx, w_nowh, ret_v, ret_f, ret_ft, ret_b, retB_l, retB_lt, mg_l, mg_v, mg_n, mgOk_l, mgOk_v, mgOk_n, w_call, w_qCall, w_qWb, w_qWe, argE_v, argE_f, argE_b, lOnly_l, bis_n, bis_b, bis_v, bis_f, wb_b, wb_v, wb_f, wb_n, dat_v, dat_f, dat_b, datS_l, ls_l, ts_t, seq_l, seq_t, w_ixL, w_ixT, w_ixS, at_0, at_1, at_2, at_3, own_l, up_0, up_1, w_setIx, w_qSx_v, w_qSx_f, w_qSx2, w_qSx3, w_app_v, w_app_f, w_qApp, w_popAt, w_pop, w_bm', w_qBm, w_qBm2, w_bm0, w_qBm0, ty_s, ty_l, w_some, w_qSome, w_no, w_slc, w_qSlc, w_qSl2, w_qSl3, w_sL, w_qCut, sS_v, sT_v, w_cb, w_qCB, w_len, len_l, len_t, len_s, w_tupOf, w_listOf, w_qTo, w_qLo, w_all, w_isi, w_qIsi, w_sort, w_count, w_frz, frz_l, frz_v, w_join, w_dix, w_qDix, w_int, oIsB_v, oNotB_v, w_diS, w_diT, w_diL, w_qIS, w_qIT, w_qIL, w_qILd, w_diR1, w_diR2, w_qR1, w_qR2, w_for, w_qTurn, w_lessI, w_qWhile, w_lc, w_lcT2_v, w_lcT, dNever, dYes, oI0_v, oI_v, oEq_v, oNe_v, scD_ii, scD_ss, scD_bb, scD_nn, scD_ns, scD_sn, eqF_ii, eqF_ss, eqF_bb, eqF_nn, eqF_ns, eqF_sn, oAddS_v, oMulS_v, oInC_v, oIn_v, oCatT_v, oIsN_v, oNotN_v, DL.isNon, cMax2_v, cMin2_v, isStr, isInt, isBl, isTup, isLst, apart, flat, stR, dLstRg1_eq, dLstRg2_eq, oEqD, oNeD, List.cons_append, List.nil_append, List.map_cons, List.map_nil, List.getElem?_cons_zero, List.getElem?_cons_succ, List.set_cons_zero, List.set_cons_succ, List.length_cons, List.length_nil, List.nodup_cons, List.nodup_nil, List.mem_singleton, List.not_mem_nil, rst, wipeD, or_false, false_or, or_self, reduceCtorEq, Nat.reduceEqDiff, Nat.reduceAdd, Nat.reduceLeDiff, Nat.zero_le, Nat.succ_ne_self, Option.getD_some, Option.some.injEq, exists_eq_left', true_and, and_true, and_self, true_implies, implies_true, not_false_eq_true, not_true_eq_false, decide_eq_true_eq, if_true, if_false, ↓reduceIte, Bool.false_eq_true, Bool.not_true, Bool.not_false, decide_true, decide_false, Bool.true_eq_false, eq_self, w_raise, w_try, w_qTry, ew0, ew1, ew2, ew3, ew4, ew5, ew6, ew7, ew8, ew9, ew10, ew11, ew12, w_enS, w_qEnX, w_listS, w_sindex, oRepT_v, w_oCat, oCat2_s, w_oRep, oRep2_s, own_f, own_b, ownLs_l, w_cix, w_qCix, w_end, w_qEnd, g1_v, g1s_v, g2_v, gM_v, isObR_v, w_consO, w_qConsO, w_qConsO2, w_post, w_qPost, isLenR_v, isBlR_v, w_fld, w_qFld0, w_qFld1, w_qFld2, isOb, w_obNew, w_qObNew, w_bool, w_obEqS, w_qObEqS, w_orT, w_qOrT0, w_qOrT1])
theorem fn_Lother {f : Addr} {fd : FuncData} (F : Fun K "_law_other" "_law_other" st_Lother f fd) (B : Bi mgl)   : FnOk P WW.w K mgl base (L2N.CX P WW.w) 1 f fd ["_law_kind_so"] (toSp K 1 S_Lother) := by
  refine fnd' F sc_Lother rfl false [] rfl (fun cdv A outer s H E hr tk => (dss_one (ds_ret (de_if (dt_cmp op_eq od_eq (de_var 0) (de_str [114, 105, 103, 104, 116])) (de_str [108, 101, 102, 116]) (de_str [114, 105, 103, 104, 116]))))) ?_
  intro ρ Q E h _
  match ρ, h with
  | [.v (.str kd)], h =>
    have h : Q (.v (.str (if kd = kRight then kLeft else kRight))) [.v (.str kd)] := h
    walk_at "Lother"
    by_cases e : kd = kRight
    · rw [if_pos e] at h
      rw [if_pos (show kd = [114, 105, 103, 104, 116] from e)]
      exact h
    · rw [if_neg e] at h
      rw [if_neg (show ¬ kd = [114, 105, 103, 104, 116] from e)]
      exact h
theorem ok_Lother (hD : DefAt K mgl "_law_other" st_Lother ["_law_kind_so"]) (B : Bi mgl)   : Cal P WW.w K mgl base 1 1 "_law_other" S_Lother := cal_of hD fun f fd F => fn_Lother F B  
abbrev st_Lmirrored : Stmt := topS 46
abbrev nm_Lmirrored : List Str := ["_law_row_so", "_law_command"]
theorem sc_Lmirrored : FnScope nm_Lmirrored ["_law_row_so"] (defScope st_Lmirrored) := ⟨rfl, rfl, rfl, by decide +kernel, rfl, by decide +kernel, by decide +kernel⟩
def S_Lmirrored : TD := fun ρ Q E => match ρ with
  | [.v (.str r)] => Row r ∧ r.length ≤ 1000 ∧ Q (.v (.str (r.map MA.sw))) [.v (.str r)]
  | _ => False
theorem S_Lmirrored_eq {r : List Nat} {Q : CtR} {E : EX} : S_Lmirrored [.v (.str r)] Q E = (Row r ∧ r.length ≤ 1000 ∧ Q (.v (.str (r.map MA.sw))) [.v (.str r)]) := rfl
local macro_rules | `(tactic| walk_at "Lmirrored") => `(tactic| simp (config := { maxSteps := 10000000 }) only [w_var, w_sl_v, w_sl_l, w_c, w_op, w_qOp, w_qOp2, w_qB, w_test, w_and, w_or, w_not, w_qAnd, w_qOr, w_qNot, w_andV, w_orV, w_notV, w_qAndV, w_qOrV, w_qNotV, w_qI, w_neg, w_qNeg, w_if, w_qIf, w_chain, w_qCh, w_qCh2, w_qCh4, w_nil, w_cons, w_qCons, w_qCons2, fzL_nil, fzL_v, fzL_f, noB_nil, noB_v, noB_f, w_tup, w_lst, w_qTup, w_qLst, w_next, w_seq, w_break, w_drop, w_qDrop, w_ret, w_ifS, w_qIfS, w_set, w_qSet, asg_v, asg_f, asg_b, w_par, w_qPar, w_parT, w_qParT, asgs_c, asgs_n, w_asg, w_qAsg, w_hName, w_hCons, w_qH, hNil_n, hTup_t, w_be, w_qRt, w_qNx, w_qEx, w_nowh, ret_v, ret_f, ret_ft, ret_b, retB_l, retB_lt, mg_l, mg_v, mg_n, mgOk_l, mgOk_v, mgOk_n, w_call, w_qCall, w_qWb, w_qWe, argE_v, argE_f, argE_b, lOnly_l, bis_n, bis_b, bis_v, bis_f, wb_b, wb_v, wb_f, wb_n, dat_v, dat_f, dat_b, datS_l, ls_l, ts_t, seq_l, seq_t, w_ixL, w_ixT, w_ixS, at_0, at_1, at_2, at_3, own_l, up_0, up_1, w_setIx, w_qSx_v, w_qSx_f, w_qSx2, w_qSx3, w_app_v, w_app_f, w_qApp, w_popAt, w_pop, w_bm', w_qBm, w_qBm2, w_bm0, w_qBm0, ty_s, ty_l, w_some, w_qSome, w_no, w_slc, w_qSlc, w_qSl2, w_qSl3, w_sL, w_qCut, sS_v, sT_v, w_cb, w_qCB, w_len, len_l, len_t, len_s, w_tupOf, w_listOf, w_qTo, w_qLo, w_all, w_isi, w_qIsi, w_sort, w_count, w_frz, frz_l, frz_v, w_join, w_dix, w_qDix, w_int, oIsB_v, oNotB_v, w_diS, w_diT, w_diL, w_qIS, w_qIT, w_qIL, w_qILd, w_diR1, w_diR2, w_qR1, w_qR2, w_for, w_qTurn, w_lessI, w_qWhile, w_lc, w_lcT2_v, w_lcT, dNever, dYes, oI0_v, oI_v, oEq_v, oNe_v, scD_ii, scD_ss, scD_bb, scD_nn, scD_ns, scD_sn, eqF_ii, eqF_ss, eqF_bb, eqF_nn, eqF_ns, eqF_sn, oAddS_v, oMulS_v, oInC_v, oIn_v, oCatT_v, oIsN_v, oNotN_v, DL.isNon, cMax2_v, cMin2_v, isStr, isInt, isBl, isTup, isLst, apart, flat, stR, dLstRg1_eq, dLstRg2_eq, oEqD, oNeD, List.cons_append, List.nil_append, List.map_cons, List.map_nil, List.getElem?_cons_zero, List.getElem?_cons_succ, List.set_cons_zero, List.set_cons_succ, List.length_cons, List.length_nil, List.nodup_cons, List.nodup_nil, List.mem_singleton, List.not_mem_nil, rst, wipeD, or_false, false_or, or_self, reduceCtorEq, Nat.reduceEqDiff, Nat.reduceAdd, Nat.reduceLeDiff, Nat.zero_le, Nat.succ_ne_self, Option.getD_some, Option.some.injEq, exists_eq_left', true_and, and_true, and_self, true_implies, implies_true, not_false_eq_true, not_true_eq_false, decide_eq_true_eq, if_true, if_false, ↓reduceIte, Bool.false_eq_true, Bool.not_true, Bool.not_false, decide_true, decide_false, Bool.true_eq_false, eq_self, w_raise, w_try, w_qTry, ew0, ew1, ew2, ew3, ew4, ew5, ew6, ew7, ew8, ew9, ew10, ew11, ew12, w_enS, w_qEnX, w_listS, w_sindex, oRepT_v, w_oCat, oCat2_s, w_oRep, oRep2_s, own_f, own_b, ownLs_l, w_cix, w_qCix, w_end, w_qEnd, g1_v, g1s_v, g2_v, gM_v, isObR_v, w_consO, w_qConsO, w_qConsO2, w_post, w_qPost, isLenR_v, isBlR_v, w_fld, w_qFld0, w_qFld1, w_qFld2, isOb, w_obNew, w_qObNew, w_bool, w_obEqS, w_qObEqS, w_orT, w_qOrT0, w_qOrT1])
theorem fn_Lmirrored {f : Addr} {fd : FuncData} (F : Fun K "_law_mirrored" "_law_mirrored" st_Lmirrored f fd) (B : Bi mgl)   : FnOk P WW.w K mgl base (L2N.CX P WW.w) 1 f fd ["_law_row_so"] (toSp K 1 S_Lmirrored) := by
  refine fnd' F sc_Lmirrored rfl false [.no] rfl (fun cdv A outer s H E hr tk => (dss_one (ds_ret (de_bm PySem.F.plainAttrs_str PySem.F.slot_str_join PySem.F.type_str_join mt_join md_join (de_str []) (da_cons (de_lc (own := [("_law_command", 1)]) (nt := .one 1) rfl sc_Lmirrored.nd (di_str (de_var 0)) (blkOk_by (own := [("_law_command", 1)]) (N := nm_Lmirrored) (sc := defScope (st_Lmirrored)) (by decide +kernel)) (by decide) (fun _ _ _ _ _ => (pg_name (i := 1) sc_Lmirrored.nd rfl (by first | exact Or.inl rfl | exact Or.inr rfl))) (fun _ _ _ _ _ => dts_nil) (fun _ _ _ _ _ => (de_dix [([110], [112]), ([112], [110]), ([99], [99])] (Nat.lt_of_le_of_lt (Nat.add_le_add_left (by decide : 1 ≤ 64) _) hr.units) (pps_cons pe_str pe_str (pps_cons pe_str pe_str (pps_cons pe_str pe_str pps_nil))) (de_var 1)))) da_nil))))) ?_
  intro ρ Q E h _
  match ρ, h with
  | [.v (.str r)], h =>
    have h : Row r ∧ r.length ≤ 1000 ∧ Q (.v (.str (r.map MA.sw))) [.v (.str r)] := h
    obtain ⟨hr, hl, k⟩ := h
    walk_at "Lmirrored"
    refine lc_i (fun d => match d with | .str [c] => some (.str [MA.sw c]) | _ => none) (noLs_of rfl) (by rw [chs_len]; omega) trivial (fun i d e => ?_) fun a => ?_
    · obtain ⟨c, hc, rfl⟩ := chs_get.mp e
      refine ⟨_, rfl, ?_⟩
      walk_at "Lmirrored"
      refine ⟨[MA.sw c], ?_, rfl⟩
      rcases hr c (List.mem_of_getElem? hc) with rfl | rfl | rfl <;> rfl
    · walk_at "Lmirrored"
      refine join_i sw_map ?_ ?_
      · rw [sw_len]; simp; omega
      · rw [joinD_nil, sw_flat]
        walk_at "Lmirrored"
        exact k
theorem ok_Lmirrored (hD : DefAt K mgl "_law_mirrored" st_Lmirrored ["_law_row_so"]) (B : Bi mgl)   : Cal P WW.w K mgl base 1 1 "_law_mirrored" S_Lmirrored := cal_of hD fun f fd F => fn_Lmirrored F B  
abbrev st_Lstep : Stmt := topS 44
abbrev nm_Lstep : List Str := ["_law_kind_so", "_law_state_so", "_law_command", "_law_tabs_so", "_law_active_so", "_law_at", "_law_before", "_law_behind_here", "_law_near"]
theorem sc_Lstep : FnScope nm_Lstep ["_law_kind_so", "_law_state_so", "_law_command"] (defScope st_Lstep) := ⟨rfl, rfl, rfl, by decide +kernel, rfl, by decide +kernel, by decide +kernel⟩
def S_Lstep : TD := fun ρ Q E => match ρ with
  | [.v (.str kd), .v d, .v (.str cc)] => ∃ (t : List Nat) (a c : Nat), d = stD t a ∧ cc = [c] ∧ t.Nodup ∧ a < t.length ∧ t.length ≤ 1000 ∧ (c = 99 ∨ c = 110 ∨ c = 112) ∧ Q (.v (match MA.tstep (kd = kRight) (t, a) c with | some b => stD b.1 b.2 | none => .non)) [.v (.str kd), .v d, .v (.str cc)]
  | _ => False
theorem S_Lstep_eq {kd cc : List Nat} {d : D} {Q : CtR} {E : EX} : S_Lstep [.v (.str kd), .v d, .v (.str cc)] Q E = (∃ (t : List Nat) (a c : Nat), d = stD t a ∧ cc = [c] ∧ t.Nodup ∧ a < t.length ∧ t.length ≤ 1000 ∧ (c = 99 ∨ c = 110 ∨ c = 112) ∧ Q (.v (match MA.tstep (kd = kRight) (t, a) c with | some b => stD b.1 b.2 | none => .non)) [.v (.str kd), .v d, .v (.str cc)]) := rfl
local macro_rules | `(tactic| walk_at "Lstep") => `(tactic| simp (config := { maxSteps := 10000000 }) only [w_var, w_sl_v, w_sl_l, w_c, w_op, w_qOp, w_qOp2, w_qB, w_test, w_and, w_or, w_not, w_qAnd, w_qOr, w_qNot, w_andV, w_orV, w_notV, w_qAndV, w_qOrV, w_qNotV, w_qI, w_neg, w_qNeg, w_if, w_qIf, w_chain, w_qCh, w_qCh2, w_qCh4, w_nil, w_cons, w_qCons, w_qCons2, fzL_nil, fzL_v, fzL_f, noB_nil, noB_v, noB_f, w_tup, w_lst, w_qTup, w_qLst, w_next, w_seq, w_break, w_drop, w_qDrop, w_ret, w_ifS, w_qIfS, w_set, w_qSet, asg_v, asg_f, asg_b, w_par, w_qPar, w_parT, w_qParT, asgs_c, asgs_n, w_asg, w_qAsg, w_hName, w_hCons, w_qH, hNil_n, hTup_t, w_be, w_qRt, w_qNx, w_qEx, w_nowh, ret_v, ret_f, ret_ft, ret_b, retB_l, retB_lt, mg_l, mg_v, mg_n, mgOk_l, mgOk_v, mgOk_n, w_call, w_qCall, w_qWb, w_qWe, argE_v, argE_f, argE_b, lOnly_l, bis_n, bis_b, bis_v, bis_f, wb_b, wb_v, wb_f, wb_n, dat_v, dat_f, dat_b, datS_l, ls_l, ts_t, seq_l, seq_t, w_ixL, w_ixT, w_ixS, at_0, at_1, at_2, at_3, own_l, up_0, up_1, w_setIx, w_qSx_v, w_qSx_f, w_qSx2, w_qSx3, w_app_v, w_app_f, w_qApp, w_popAt, w_pop, w_bm', w_qBm, w_qBm2, w_bm0, w_qBm0, ty_s, ty_l, w_some, w_qSome, w_no, w_slc, w_qSlc, w_qSl2, w_qSl3, w_sL, w_qCut, sS_v, sT_v, w_cb, w_qCB, w_len, len_l, len_t, len_s, w_tupOf, w_listOf, w_qTo, w_qLo, w_all, w_isi, w_qIsi, w_sort, w_count, w_frz, frz_l, frz_v, w_join, w_dix, w_qDix, w_int, oIsB_v, oNotB_v, w_diS, w_diT, w_diL, w_qIS, w_qIT, w_qIL, w_qILd, w_diR1, w_diR2, w_qR1, w_qR2, w_for, w_qTurn, w_lessI, w_qWhile, w_lc, w_lcT2_v, w_lcT, dNever, dYes, oI0_v, oI_v, oEq_v, oNe_v, scD_ii, scD_ss, scD_bb, scD_nn, scD_ns, scD_sn, eqF_ii, eqF_ss, eqF_bb, eqF_nn, eqF_ns, eqF_sn, oAddS_v, oMulS_v, oInC_v, oIn_v, oCatT_v, oIsN_v, oNotN_v, DL.isNon, cMax2_v, cMin2_v, isStr, isInt, isBl, isTup, isLst, apart, flat, stR, dLstRg1_eq, dLstRg2_eq, oEqD, oNeD, List.cons_append, List.nil_append, List.map_cons, List.map_nil, List.getElem?_cons_zero, List.getElem?_cons_succ, List.set_cons_zero, List.set_cons_succ, List.length_cons, List.length_nil, List.nodup_cons, List.nodup_nil, List.mem_singleton, List.not_mem_nil, rst, wipeD, or_false, false_or, or_self, reduceCtorEq, Nat.reduceEqDiff, Nat.reduceAdd, Nat.reduceLeDiff, Nat.zero_le, Nat.succ_ne_self, Option.getD_some, Option.some.injEq, exists_eq_left', true_and, and_true, and_self, true_implies, implies_true, not_false_eq_true, not_true_eq_false, decide_eq_true_eq, if_true, if_false, ↓reduceIte, Bool.false_eq_true, Bool.not_true, Bool.not_false, decide_true, decide_false, Bool.true_eq_false, eq_self, w_raise, w_try, w_qTry, ew0, ew1, ew2, ew3, ew4, ew5, ew6, ew7, ew8, ew9, ew10, ew11, ew12, w_enS, w_qEnX, w_listS, w_sindex, oRepT_v, w_oCat, oCat2_s, w_oRep, oRep2_s, own_f, own_b, ownLs_l, w_cix, w_qCix, w_end, w_qEnd, g1_v, g1s_v, g2_v, gM_v, isObR_v, w_consO, w_qConsO, w_qConsO2, w_post, w_qPost, isLenR_v, isBlR_v, w_fld, w_qFld0, w_qFld1, w_qFld2, isOb, w_obNew, w_qObNew, w_bool, w_obEqS, w_qObEqS, w_orT, w_qOrT0, w_qOrT1, q1_, q2_, q3_])
theorem fn_Lstep {f : Addr} {fd : FuncData} (F : Fun K "_law_step" "_law_step" st_Lstep f fd) (B : Bi mgl)   : FnOk P WW.w K mgl base (L2N.CX P WW.w) 1 f fd ["_law_kind_so", "_law_state_so", "_law_command"] (toSp K 3 S_Lstep) := by
  refine fnd' F sc_Lstep rfl false [.no, .no, .no, .no, .no, .no] rfl (fun cdv A outer s H E hr tk => (dss_cons (ds_asg (de_var 1) (dg_tup (n := 2) rfl (dgs_cons (dg_name 3 sc_Lstep.nd rfl (by first | exact Or.inl rfl | exact Or.inr rfl)) (dgs_cons (dg_name 4 sc_Lstep.nd rfl (by first | exact Or.inl rfl | exact Or.inr rfl)) dgs_nil))))
    (dss_cons (ds_set 5 sc_Lstep.nd rfl (by first | exact Or.inl rfl | exact Or.inr rfl) (de_bm PySem.F.plainAttrs_str PySem.F.slot_str_index PySem.F.type_str_index mt_sindex md_sindex (de_var 3) (da_cons (de_var 4) da_nil)))
    (dss_cons (ds_if (dt_cmp op_eq od_eq (de_var 2) (de_str [110])) (dss_one (ds_ret (de_tup (da_cons (de_var 3) (da_cons (de_ix ix_str od_ixS (de_op op_add_str od_addS (de_var 3) (de_ix ix_str od_ixS (de_var 3) de_int)) (de_op op_add (od_I0 (g := fun i j => .int (i + j))) (de_var 5) de_int)) da_nil))))) dss_nil)
    (dss_cons (ds_if (dt_cmp op_eq od_eq (de_var 2) (de_str [112])) (dss_one (ds_ret (de_tup (da_cons (de_var 3) (da_cons (de_ix ix_str od_ixS (de_op op_add_str od_addS (de_ix ix_str od_ixS (de_var 3) (de_neg de_int)) (de_var 3)) (de_var 5)) da_nil))))) dss_nil)
    (dss_cons (ds_par 6 7 rfl sc_Lstep.nd rfl rfl (by decide) rfl rfl (da_cons (de_slice sl_str sd_S (de_var 3) do_no (do_some (de_var 5))) (da_cons (de_slice sl_str sd_S (de_var 3) (do_some (de_op op_add (od_I0 (g := fun i j => .int (i + j))) (de_var 5) de_int)) do_no) da_nil)))
    (dss_cons (ds_if (dt_cmp op_eq od_eq (de_op op_add_str od_addS (de_var 6) (de_var 7)) (de_str [])) (dss_one (ds_ret de_non)) dss_nil)
    (dss_cons (ds_set 8 sc_Lstep.nd rfl (by first | exact Or.inl rfl | exact Or.inr rfl) (de_if (dt_cmp op_eq od_eq (de_var 0) (de_str [114, 105, 103, 104, 116])) (de_op op_add_str od_addS (de_slice sl_str sd_S (de_var 7) do_no (do_some de_int)) (de_slice sl_str sd_S (de_var 6) (do_some (de_neg de_int)) do_no)) (de_op op_add_str od_addS (de_slice sl_str sd_S (de_var 6) (do_some (de_neg de_int)) do_no) (de_slice sl_str sd_S (de_var 7) do_no (do_some de_int)))))
    (dss_one (ds_ret (de_tup (da_cons (de_op op_add_str od_addS (de_var 6) (de_var 7)) (da_cons (de_ix ix_str od_ixS (de_var 8) de_int) da_nil))))))))))))) ?_
  intro ρ Q E h _
  match ρ, h with
  | [.v (.str kd), .v d, .v (.str cc)], h =>
    have h : ∃ (t : List Nat) (a c : Nat), d = stD t a ∧ cc = [c] ∧ t.Nodup ∧ a < t.length ∧ t.length ≤ 1000 ∧ (c = 99 ∨ c = 110 ∨ c = 112) ∧ Q (.v (match MA.tstep (kd = kRight) (t, a) c with | some b => stD b.1 b.2 | none => .non)) [.v (.str kd), .v d, .v (.str cc)] := h
    obtain ⟨t, a, c, rfl, rfl, nd, ha, hl, hc, k⟩ := h
    obtain ⟨ch, hch⟩ : ∃ ch, t[a]? = some ch := ⟨_, List.getElem?_eq_getElem ha⟩
    rw [stD_at hch] at k ⊢
    walk_at "Lstep"
    refine idx_i (first_nodup nd hch) ?_
    rcases hc with rfl | rfl | rfl
    · have c1 := cut_to (xs := t) (i := (a : Int)) (by omega) (by omega)
      have c2 := cut_from (xs := t) (i := (a : Int) + 1) (by omega) (by omega)
      have e1 : (a : Int).toNat = a := by omega
      have e2 : ((a : Int) + 1).toNat = a + 1 := by omega
      rw [e1] at c1
      rw [e2] at c2
      have lt : (t.take a).length = a := by rw [List.length_take]; omega
      have ld : (t.drop (a + 1)).length = t.length - (a + 1) := List.length_drop
      have ee : t.take a ++ t.drop (a + 1) = t.eraseIdx a := (List.eraseIdx_eq_take_drop_succ t a).symm
      have le : (t.eraseIdx a).length = t.length - 1 := by rw [List.length_eraseIdx]; simp [ha]
      walk_at "Lstep"
      simp only [c1, c2, cut_one, cut_last]
      have l3 : ((t.drop (a + 1)).take 1).length ≤ t.length := by simp; omega
      have l4 : ((t.take a).drop ((t.take a).length - 1)).length ≤ t.length := by simp; omega
      refine ⟨by omega, by omega, by omega, ?_⟩
      by_cases h1 : t.length = 1
      · rw [if_pos ((er_nil ha).mpr h1)]
        have e9 : MA.tstep (decide (kd = kRight)) (t, a) 99 = none := by
          show (if t.length = 1 then none else _) = _
          rw [if_pos h1]
        rw [e9] at k
        exact k
      · rw [if_neg fun z => h1 ((er_nil ha).mp z)]
        have e9 : MA.tstep (decide (kd = kRight)) (t, a) 99 = some (t.eraseIdx a, if decide (kd = kRight) = true then min a (t.length - 2) else a - 1) := by
          show (if t.length = 1 then none else _) = _
          rw [if_neg h1]
        rw [e9] at k
        dsimp only at k
        by_cases h3 : kd = kRight
        · rw [if_pos (show kd = [114, 105, 103, 104, 116] from h3)]
          rw [decide_eq_true h3, if_pos rfl] at k
          have hm : (t.eraseIdx a)[min a (t.length - 2)]? = some (t.eraseIdx a)[min a (t.length - 2)] := List.getElem?_eq_getElem (by omega)
          rw [stD_at hm] at k
          refine ⟨by omega, by omega, by omega, by omega, by simp only [List.length_append]; omega, atS_nth (n := 0) rfl ((near_r ha h1).trans hm) ?_⟩
          walk_at "Lstep"
          rw [ee]
          exact k
        · rw [if_neg (show ¬ kd = [114, 105, 103, 104, 116] from h3)]
          rw [decide_eq_false h3, if_neg (by decide)] at k
          have hm : (t.eraseIdx a)[a - 1]? = some (t.eraseIdx a)[a - 1] := List.getElem?_eq_getElem (by omega)
          rw [stD_at hm] at k
          refine ⟨by omega, by omega, by omega, by omega, by simp only [List.length_append]; omega, atS_nth (n := 0) rfl ((near_l ha h1).trans hm) ?_⟩
          walk_at "Lstep"
          rw [ee]
          exact k
    · walk_at "Lstep"
      have h0 : t[0]? = some t[0] := List.getElem?_eq_getElem (by omega)
      refine ⟨by omega, atS_nth (n := 0) rfl h0 ?_⟩
      walk_at "Lstep"
      have hb : (if a + 1 = t.length then 0 else a + 1) < t.length := by split <;> omega
      have hm : t[if a + 1 = t.length then 0 else a + 1]? = some t[if a + 1 = t.length then 0 else a + 1] := List.getElem?_eq_getElem hb
      have e9 : MA.tstep (decide (kd = kRight)) (t, a) 110 = some (t, if a + 1 = t.length then 0 else a + 1) := rfl
      rw [e9] at k
      dsimp only at k
      rw [stD_at hm] at k
      refine ⟨(by first | omega | (simp only [List.length_append, List.length_cons, List.length_nil]; omega)), (by first | omega | (simp only [List.length_append, List.length_cons, List.length_nil]; omega)), atS_nth (n := a + 1) (by omega) ((ring_n ha h0).trans hm) ?_⟩
      walk_at "Lstep"
      exact k
    · walk_at "Lstep"
      have h0 : t[t.length - 1]? = some t[t.length - 1] := List.getElem?_eq_getElem (by omega)
      refine ⟨by omega, atS_last (n := t.length - 1) (by omega) h0 ?_⟩
      walk_at "Lstep"
      have hb : (if a = 0 then t.length - 1 else a - 1) < t.length := by split <;> omega
      have hm : t[if a = 0 then t.length - 1 else a - 1]? = some t[if a = 0 then t.length - 1 else a - 1] := List.getElem?_eq_getElem hb
      have e9 : MA.tstep (decide (kd = kRight)) (t, a) 112 = some (t, if a = 0 then t.length - 1 else a - 1) := rfl
      rw [e9] at k
      dsimp only at k
      rw [stD_at hm] at k
      refine ⟨(by first | omega | (simp only [List.length_append, List.length_cons, List.length_nil]; omega)), (by first | omega | (simp only [List.length_append, List.length_cons, List.length_nil]; omega)), atS_nth (n := a) rfl ((ring_p ha h0).trans hm) ?_⟩
      walk_at "Lstep"
      exact k
theorem ok_Lstep (hD : DefAt K mgl "_law_step" st_Lstep ["_law_kind_so", "_law_state_so", "_law_command"]) (B : Bi mgl)   : Cal P WW.w K mgl base 1 3 "_law_step" S_Lstep := cal_of hD fun f fd F => fn_Lstep F B  
abbrev st_Lbehind : Stmt := topS 45
abbrev nm_Lbehind : List Str := ["_law_kind_so", "_law_state_so", "_law_row_so", "_law_here", "_law_command"]
theorem sc_Lbehind : FnScope nm_Lbehind ["_law_kind_so", "_law_state_so", "_law_row_so"] (defScope st_Lbehind) := ⟨rfl, rfl, rfl, by decide +kernel, rfl, by decide +kernel, by decide +kernel⟩
def S_Lbehind : TD := fun ρ Q E => match ρ with
  | [.v (.str kd), .v d, .v (.str r)] => ∃ s : SS, d = stD s.1 s.2 ∧ StOk s ∧ Row r ∧ r.length ≤ 1000 ∧ Q (.v (odD (tbeh (kd = kRight) s r))) [.v (.str kd), .v d, .v (.str r)]
  | _ => False
theorem S_Lbehind_eq {kd r : List Nat} {d : D} {Q : CtR} {E : EX} : S_Lbehind [.v (.str kd), .v d, .v (.str r)] Q E = (∃ s : SS, d = stD s.1 s.2 ∧ StOk s ∧ Row r ∧ r.length ≤ 1000 ∧ Q (.v (odD (tbeh (kd = kRight) s r))) [.v (.str kd), .v d, .v (.str r)]) := rfl
local macro_rules | `(tactic| walk_at "Lbehind") => `(tactic| simp (config := { maxSteps := 10000000 }) only [w_var, w_sl_v, w_sl_l, w_c, w_op, w_qOp, w_qOp2, w_qB, w_test, w_and, w_or, w_not, w_qAnd, w_qOr, w_qNot, w_andV, w_orV, w_notV, w_qAndV, w_qOrV, w_qNotV, w_qI, w_neg, w_qNeg, w_if, w_qIf, w_chain, w_qCh, w_qCh2, w_qCh4, w_nil, w_cons, w_qCons, w_qCons2, fzL_nil, fzL_v, fzL_f, noB_nil, noB_v, noB_f, w_tup, w_lst, w_qTup, w_qLst, w_next, w_seq, w_break, w_drop, w_qDrop, w_ret, w_ifS, w_qIfS, w_set, w_qSet, asg_v, asg_f, asg_b, w_par, w_qPar, w_parT, w_qParT, asgs_c, asgs_n, w_asg, w_qAsg, w_hName, w_hCons, w_qH, hNil_n, hTup_t, w_be, w_qRt, w_qNx, w_qEx, w_nowh, ret_v, ret_f, ret_ft, ret_b, retB_l, retB_lt, mg_l, mg_v, mg_n, mgOk_l, mgOk_v, mgOk_n, w_call, w_qCall, w_qWb, w_qWe, argE_v, argE_f, argE_b, lOnly_l, bis_n, bis_b, bis_v, bis_f, wb_b, wb_v, wb_f, wb_n, dat_v, dat_f, dat_b, datS_l, ls_l, ts_t, seq_l, seq_t, w_ixL, w_ixT, w_ixS, at_0, at_1, at_2, at_3, own_l, up_0, up_1, w_setIx, w_qSx_v, w_qSx_f, w_qSx2, w_qSx3, w_app_v, w_app_f, w_qApp, w_popAt, w_pop, w_bm', w_qBm, w_qBm2, w_bm0, w_qBm0, ty_s, ty_l, w_some, w_qSome, w_no, w_slc, w_qSlc, w_qSl2, w_qSl3, w_sL, w_qCut, sS_v, sT_v, w_cb, w_qCB, w_len, len_l, len_t, len_s, w_tupOf, w_listOf, w_qTo, w_qLo, w_all, w_isi, w_qIsi, w_sort, w_count, w_frz, frz_l, frz_v, w_join, w_dix, w_qDix, w_int, oIsB_v, oNotB_v, w_diS, w_diT, w_diL, w_qIS, w_qIT, w_qIL, w_qILd, w_diR1, w_diR2, w_qR1, w_qR2, w_for, w_qTurn, w_lessI, w_qWhile, w_lc, w_lcT2_v, w_lcT, dNever, dYes, oI0_v, oI_v, oEq_v, oNe_v, scD_ii, scD_ss, scD_bb, scD_nn, scD_ns, scD_sn, eqF_ii, eqF_ss, eqF_bb, eqF_nn, eqF_ns, eqF_sn, oAddS_v, oMulS_v, oInC_v, oIn_v, oCatT_v, oIsN_v, oNotN_v, DL.isNon, cMax2_v, cMin2_v, isStr, isInt, isBl, isTup, isLst, apart, flat, stR, dLstRg1_eq, dLstRg2_eq, oEqD, oNeD, List.cons_append, List.nil_append, List.map_cons, List.map_nil, List.getElem?_cons_zero, List.getElem?_cons_succ, List.set_cons_zero, List.set_cons_succ, List.length_cons, List.length_nil, List.nodup_cons, List.nodup_nil, List.mem_singleton, List.not_mem_nil, rst, wipeD, or_false, false_or, or_self, reduceCtorEq, Nat.reduceEqDiff, Nat.reduceAdd, Nat.reduceLeDiff, Nat.zero_le, Nat.succ_ne_self, Option.getD_some, Option.some.injEq, exists_eq_left', true_and, and_true, and_self, true_implies, implies_true, not_false_eq_true, not_true_eq_false, decide_eq_true_eq, if_true, if_false, ↓reduceIte, Bool.false_eq_true, Bool.not_true, Bool.not_false, decide_true, decide_false, Bool.true_eq_false, eq_self, w_raise, w_try, w_qTry, ew0, ew1, ew2, ew3, ew4, ew5, ew6, ew7, ew8, ew9, ew10, ew11, ew12, w_enS, w_qEnX, w_listS, w_sindex, oRepT_v, w_oCat, oCat2_s, w_oRep, oRep2_s, own_f, own_b, ownLs_l, w_cix, w_qCix, w_end, w_qEnd, g1_v, g1s_v, g2_v, gM_v, isObR_v, w_consO, w_qConsO, w_qConsO2, w_post, w_qPost, isLenR_v, isBlR_v, w_fld, w_qFld0, w_qFld1, w_qFld2, isOb, w_obNew, w_qObNew, w_bool, w_obEqS, w_qObEqS, w_orT, w_qOrT0, w_qOrT1, S_Lstep_eq])
theorem fn_Lbehind {f : Addr} {fd : FuncData} (F : Fun K "_law_behind" "_law_behind" st_Lbehind f fd) (B : Bi mgl) (C_Lstep : Cal P WW.w K mgl base 1 3 "_law_step" S_Lstep)  : FnOk P WW.w K mgl base (L2N.CX P WW.w) 2 f fd ["_law_kind_so", "_law_state_so", "_law_row_so"] (toSp K 3 S_Lbehind) := by
  refine fnd' F sc_Lbehind rfl false [.no, .no] rfl (fun cdv A outer s H E hr tk => (dss_cons (ds_set 3 sc_Lbehind.nd rfl (by first | exact Or.inl rfl | exact Or.inr rfl) (de_var 1))
    (dss_cons (ds_for (passes_of rfl) rfl (di_str (de_var 2)) (dg_name 4 sc_Lbehind.nd rfl (by first | exact Or.inl rfl | exact Or.inr rfl))
    (dss_cons (ds_if (dt_cmp op_isN od_isN (de_var 3) de_non) (dss_one (ds_ret de_non)) dss_nil)
    (dss_one (ds_set 3 sc_Lbehind.nd rfl (by first | exact Or.inl rfl | exact Or.inr rfl) (de_cal C_Lstep tk (hr.mono (by decide)) (da_cons (de_var 0) (da_cons (de_var 3) (da_cons (de_var 4) da_nil))))))))
    (dss_one (ds_ret (de_var 3)))))) ?_
  intro ρ Q E h _
  match ρ, h with
  | [.v (.str kd), .v d, .v (.str r)], h =>
    have h : ∃ s : SS, d = stD s.1 s.2 ∧ StOk s ∧ Row r ∧ r.length ≤ 1000 ∧ Q (.v (odD (tbeh (kd = kRight) s r))) [.v (.str kd), .v d, .v (.str r)] := h
    obtain ⟨s, rfl, hs, hr, hl, k⟩ := h
    walk_at "Lbehind"
    refine for_i (fun i ρ' => ∃ s4, ρ' = [.v (.str kd), .v (stD s.1 s.2), .v (.str r), .v (odD (tbeh (kd = kRight) s (r.take i))), s4]) ⟨_, rfl⟩ ?_ ?_
    · rintro i d ρ' hd ⟨s4, rfl⟩
      obtain ⟨c, hc, rfl⟩ := chs_get.mp hd
      refine ⟨trivial, ?_⟩
      have et := tb_take (k := decide (kd = kRight)) (s := s) hc
      walk_at "Lbehind"
      cases q : tbeh (decide (kd = kRight)) s (r.take i) with
      | none =>
        rw [if_pos (by rfl)]
        rw [tb_stop q] at k
        exact k
      | some b =>
        rw [if_neg (by simp [odD, stD])]
        have ob := hs.run _ q
        rw [q, Option.bind_some] at et
        exact ⟨b.1, b.2, c, rfl, rfl, ob.nd, ob.at', ob.le, hr c (List.mem_of_getElem? hc), _, by rw [et]; rfl⟩
    · rintro ρ' ⟨s4, rfl⟩
      refine ⟨trivial, ?_⟩
      rw [chs_len, List.take_length]
      walk_at "Lbehind"
      exact k
theorem ok_Lbehind (hD : DefAt K mgl "_law_behind" st_Lbehind ["_law_kind_so", "_law_state_so", "_law_row_so"]) (B : Bi mgl) (C_Lstep : Cal P WW.w K mgl base 1 3 "_law_step" S_Lstep)  : Cal P WW.w K mgl base 2 3 "_law_behind" S_Lbehind := cal_of hD fun f fd F => fn_Lbehind F B C_Lstep 
abbrev st_Leffect : Stmt := topS 47
abbrev nm_Leffect : List Str := ["_law_kind_so", "_law_row_so", "_law_line", "_law_at", "_law_command", "_law_place"]
theorem sc_Leffect : FnScope nm_Leffect ["_law_kind_so", "_law_row_so"] (defScope st_Leffect) := ⟨rfl, rfl, rfl, by decide +kernel, rfl, by decide +kernel, by decide +kernel⟩
def S_Leffect : TD := fun ρ Q E => match ρ with
  | [.v (.str kd), .v (.str r)] => kindB kd = true ∧ Row r ∧ r.length ≤ 100 ∧ Q (.v (effD (kd = kRight) r)) [.v (.str kd), .v (.str r)]
  | _ => False
theorem S_Leffect_eq {kd r : List Nat} {Q : CtR} {E : EX} : S_Leffect [.v (.str kd), .v (.str r)] Q E = (kindB kd = true ∧ Row r ∧ r.length ≤ 100 ∧ Q (.v (effD (kd = kRight) r)) [.v (.str kd), .v (.str r)]) := rfl
local macro_rules | `(tactic| walk_at "Leffect") => `(tactic| simp (config := { maxSteps := 10000000 }) only [w_var, w_sl_v, w_sl_l, w_c, w_op, w_qOp, w_qOp2, w_qB, w_test, w_and, w_or, w_not, w_qAnd, w_qOr, w_qNot, w_andV, w_orV, w_notV, w_qAndV, w_qOrV, w_qNotV, w_qI, w_neg, w_qNeg, w_if, w_qIf, w_chain, w_qCh, w_qCh2, w_qCh4, w_nil, w_cons, w_qCons, w_qCons2, fzL_nil, fzL_v, fzL_f, noB_nil, noB_v, noB_f, w_tup, w_lst, w_qTup, w_qLst, w_next, w_seq, w_break, w_drop, w_qDrop, w_ret, w_ifS, w_qIfS, w_set, w_qSet, asg_v, asg_f, asg_b, w_par, w_qPar, w_parT, w_qParT, asgs_c, asgs_n, w_asg, w_qAsg, w_hName, w_hCons, w_qH, hNil_n, hTup_t, w_be, w_qRt, w_qNx, w_qEx, w_nowh, ret_v, ret_f, ret_ft, ret_b, retB_l, retB_lt, mg_l, mg_v, mg_n, mgOk_l, mgOk_v, mgOk_n, w_call, w_qCall, w_qWb, w_qWe, argE_v, argE_f, argE_b, lOnly_l, bis_n, bis_b, bis_v, bis_f, wb_b, wb_v, wb_f, wb_n, dat_v, dat_f, dat_b, datS_l, ls_l, ts_t, seq_l, seq_t, w_ixL, w_ixT, w_ixS, at_0, at_1, at_2, at_3, own_l, up_0, up_1, w_setIx, w_qSx_v, w_qSx_f, w_qSx2, w_qSx3, w_app_v, w_app_f, w_qApp, w_popAt, w_pop, w_bm', w_qBm, w_qBm2, w_bm0, w_qBm0, ty_s, ty_l, w_some, w_qSome, w_no, w_slc, w_qSlc, w_qSl2, w_qSl3, w_sL, w_qCut, sS_v, sT_v, w_cb, w_qCB, w_len, len_l, len_t, len_s, w_tupOf, w_listOf, w_qTo, w_qLo, w_all, w_isi, w_qIsi, w_sort, w_count, w_frz, frz_l, frz_v, w_join, w_dix, w_qDix, w_int, oIsB_v, oNotB_v, w_diS, w_diT, w_diL, w_qIS, w_qIT, w_qIL, w_qILd, w_diR1, w_diR2, w_qR1, w_qR2, w_for, w_qTurn, w_lessI, w_qWhile, w_lc, w_lcT2_v, w_lcT, dNever, dYes, oI0_v, oI_v, oEq_v, oNe_v, scD_ii, scD_ss, scD_bb, scD_nn, scD_ns, scD_sn, eqF_ii, eqF_ss, eqF_bb, eqF_nn, eqF_ns, eqF_sn, oAddS_v, oMulS_v, oInC_v, oIn_v, oCatT_v, oIsN_v, oNotN_v, DL.isNon, cMax2_v, cMin2_v, isStr, isInt, isBl, isTup, isLst, apart, flat, stR, dLstRg1_eq, dLstRg2_eq, oEqD, oNeD, List.cons_append, List.nil_append, List.map_cons, List.map_nil, List.getElem?_cons_zero, List.getElem?_cons_succ, List.set_cons_zero, List.set_cons_succ, List.length_cons, List.length_nil, List.nodup_cons, List.nodup_nil, List.mem_singleton, List.not_mem_nil, rst, wipeD, or_false, false_or, or_self, reduceCtorEq, Nat.reduceEqDiff, Nat.reduceAdd, Nat.reduceLeDiff, Nat.zero_le, Nat.succ_ne_self, Option.getD_some, Option.some.injEq, exists_eq_left', true_and, and_true, and_self, true_implies, implies_true, not_false_eq_true, not_true_eq_false, decide_eq_true_eq, if_true, if_false, ↓reduceIte, Bool.false_eq_true, Bool.not_true, Bool.not_false, decide_true, decide_false, Bool.true_eq_false, eq_self, w_raise, w_try, w_qTry, ew0, ew1, ew2, ew3, ew4, ew5, ew6, ew7, ew8, ew9, ew10, ew11, ew12, w_enS, w_qEnX, w_listS, w_sindex, oRepT_v, w_oCat, oCat2_s, w_oRep, oRep2_s, own_f, own_b, ownLs_l, w_cix, w_qCix, w_end, w_qEnd, g1_v, g1s_v, g2_v, gM_v, isObR_v, w_consO, w_qConsO, w_qConsO2, w_post, w_qPost, isLenR_v, isBlR_v, w_fld, w_qFld0, w_qFld1, w_qFld2, isOb, w_obNew, w_qObNew, w_bool, w_obEqS, w_qObEqS, w_orT, w_qOrT0, w_qOrT1])
theorem fn_Leffect {f : Addr} {fd : FuncData} (F : Fun K "_law_effect" "_law_effect" st_Leffect f fd) (B : Bi mgl)   : FnOk P WW.w K mgl base (L2N.CX P WW.w) 1 f fd ["_law_kind_so", "_law_row_so"] (toSp K 2 S_Leffect) := by
  refine fnd' F sc_Leffect rfl false [.no, .no, .no, .no] rfl (fun cdv A outer s H E hr tk => (dss_cons (ds_parT rfl (ng_cons (i := 2) sc_Leffect.nd rfl (ng_cons (i := 3) sc_Leffect.nd rfl ng_nil)) (da_cons (de_listRg2 (p3 := ⟨0, 0, 0, 0⟩) rfl B.list B.range (de_neg de_int) de_int) (da_cons de_int da_nil)))
    (dss_cons (ds_for (passes_of rfl) rfl (di_str (de_var 1)) (dg_name 4 sc_Leffect.nd rfl (by first | exact Or.inl rfl | exact Or.inr rfl))
    (dss_one (ds_if (dt_cmp op_eq od_eq (de_var 4) (de_str [99])) (dss_cons (ds_expr (de_bm PySem.F.plainAttrs_list PySem.F.slot_list_pop PySem.F.type_list_pop mt_popAt md_popAt (de_var 2) (da_cons (de_var 3) da_nil)))
    (dss_one (ds_set 3 sc_Leffect.nd rfl (by first | exact Or.inl rfl | exact Or.inr rfl) (de_if (dt_cmp op_eq od_eq (de_var 0) (de_str [114, 105, 103, 104, 116])) (de_var 3) (de_op op_sub (od_I0 (g := fun i j => .int (i - j))) (de_var 3) de_int))))) (dss_one (ds_set 3 sc_Leffect.nd rfl (by first | exact Or.inl rfl | exact Or.inr rfl) (de_op op_add (od_I0 (g := fun i j => .int (i + j))) (de_var 3) (de_if (dt_cmp op_eq od_eq (de_var 4) (de_str [110])) de_int (de_neg de_int))))))))
    (dss_one (ds_ret (de_tup (da_cons (de_ct call_tuple_of cd_tupOf B.tuple (by decide +kernel) (da_cons (de_lc (own := [("_law_place", 5)]) (nt := .one 5) rfl sc_Leffect.nd (di_range2 B.range (da_cons (de_neg de_int) (da_cons de_int da_nil))) (blkOk_by (own := [("_law_place", 5)]) (N := nm_Leffect) (sc := defScope (st_Leffect)) (by decide +kernel)) (by decide) (fun _ _ _ _ _ => (pg_name (i := 5) sc_Leffect.nd rfl (by first | exact Or.inl rfl | exact Or.inr rfl))) (fun _ _ _ _ _ => (dts_one (dt_cmp op_notIn_seq od_in (de_var 5) (de_var 2)))) (fun _ _ _ _ _ => (de_var 5))) da_nil)) (da_cons (de_ix ix_list od_ixL (de_var 2) (de_var 3)) da_nil)))))))) ?_
  intro ρ Q E h _
  match ρ, h with
  | [.v (.str kd), .v (.str r)], h =>
    have h : kindB kd = true ∧ Row r ∧ r.length ≤ 100 ∧ Q (.v (effD (kd = kRight) r)) [.v (.str kd), .v (.str r)] := h
    obtain ⟨hk, hr, hl, k⟩ := h
    walk_at "Leffect"
    refine ⟨by unfold RgOk; omega, fun a => ?_⟩
    have erg : rgD (-100) (101 - -100 : Int).toNat = MA.rg.map D.int := by unfold rgD MA.rg; rw [List.map_map]; rfl
    rw [erg]
    refine for_i (fun i ρ' => ∃ L n s4, ρ' = [.v (.str kd), .v (.str r), .l a (L.map D.int), .v (.int (n : Nat)), s4, .no] ∧ MA.Bar L n (MA.runS (kd = kRight) ([], 0) (r.take i))) ⟨MA.rg, 100, _, rfl, MA.bar0⟩ ?_ ?_
    · rintro i d ρ' hd ⟨L, n, s4, rfl, hb⟩
      obtain ⟨c, hc, rfl⟩ := chs_get.mp hd
      refine ⟨trivial, ?_⟩
      have hi : i < r.length := (List.getElem?_eq_some_iff.mp hc).1
      have e := MA.run_take (k := decide (kd = kRight)) hc
      have bd := MA.bd0.run (k := decide (kd = kRight)) (r := r.take i)
      have ln2 : 0 + (r.take i).length < 100 := by simp; omega
      have sh := hb.short
      rw [e]
      generalize MA.runS (decide (kd = kRight)) ([], 0) (r.take i) = s at *
      have e110 : ([c] = [110]) = (c = 110) := by simp
      have e99 : ([c] = [99]) = (c = 99) := by simp
      have ek : (kd = [114, 105, 103, 104, 116]) = (kd = kRight) := rfl
      walk_at "Leffect"
      simp only [e110, e99]
      by_cases h2 : c = 99
      · subst h2
        simp only [if_true]
        refine pop_nth rfl hb.act (by omega) ?_
        walk_at "Leffect"
        simp only [ek]
        by_cases h3 : kd = kRight
        · simp only [h3, if_true, decide_true] at hb bd ⊢
          exact ⟨_, n, _, rfl, hb.c_right bd ln2⟩
        · simp only [h3, if_false, decide_false] at hb bd ⊢
          obtain ⟨n', en, hb'⟩ := hb.c_left bd ln2
          have en' : (n : Int) - 1 = (n' : Nat) := by omega
          exact ⟨_, n', _, by rw [en'], hb'⟩
      · simp only [h2, if_false]
        by_cases h1 : c = 110
        · subst h1
          simp only [if_true]
          exact ⟨_, n + 1, _, rfl, hb.n bd ln2⟩
        · simp only [h1, if_false]
          obtain ⟨n', en, hb'⟩ := hb.p (k := decide (kd = kRight)) ⟨h1, h2⟩ bd ln2
          have en' : (n : Int) + -1 = (n' : Nat) := by omega
          exact ⟨_, n', _, by rw [en'], hb'⟩
    · rintro ρ' ⟨L, n, s4, rfl, hb⟩
      refine ⟨trivial, ?_⟩
      rw [chs_len, List.take_length] at hb
      walk_at "Leffect"
      rw [erg]
      refine ⟨by omega, lc_i (fun d => match d with | .int q => if q ∈ L then none else some (.int q) | _ => none) (noLs_of rfl) (by rw [List.length_map]; decide +kernel) trivial (fun i d e => ?_) fun a => ?_⟩
      · obtain ⟨q, hq, rfl⟩ := ints_get.mp e
        refine ⟨_, rfl, ?_⟩
        walk_at "Leffect"
        refine ⟨all_flat_int, ?_⟩
        rw [inD_int]
        by_cases hm : q ∈ L
        · simp [hm]
        · simp [hm]
      · have e : (MA.rg.map D.int).filterMap (fun d => match d with | .int q => if q ∈ L then none else some (.int q) | _ => none) = (MA.cl (MA.runS (decide (kd = kRight)) ([], 0) r).1).map D.int := by
          rw [← hb.closed, List.filterMap_map]
          generalize MA.rg = l
          induction l with
          | nil => rfl
          | cons q l ih =>
            rw [List.filterMap_cons, List.filter_cons]
            by_cases hm : q ∈ L
            · simp only [Function.comp, hm, if_true, decide_true, Bool.not_true, Bool.false_eq_true, if_false]
              exact ih
            · simp only [Function.comp, hm, if_false, decide_false, Bool.not_false, if_true, List.map_cons]
              rw [← ih]
        rw [e]
        walk_at "Leffect"
        refine at_nth rfl hb.act ?_
        walk_at "Leffect"
        exact k
theorem ok_Leffect (hD : DefAt K mgl "_law_effect" st_Leffect ["_law_kind_so", "_law_row_so"]) (B : Bi mgl)   : Cal P WW.w K mgl base 1 2 "_law_effect" S_Leffect := cal_of hD fun f fd F => fn_Leffect F B  
def errRet (st : Stmt) : Stmt := (defBody st).getLast?.getD (.Pass ⟨0, 0, 0, 0⟩)
abbrev st_Lerror_name : Stmt := topS 38
abbrev nm_Lerror_name : List Str := ["_law_e", "_law_some", "_law_names", "_law_found", "_law_name", "_law_good"]
theorem sc_Lerror_name : FnScope nm_Lerror_name ["_law_e"] (defScope st_Lerror_name) := ⟨rfl, rfl, rfl, by decide +kernel, rfl, by decide +kernel, by decide +kernel⟩
theorem fnE_Lerror_name {f : Addr} {fd : FuncData} {eB : Addr} {eAs : List Addr} (Fn : Fun K "_law_error_name" "_law_error_name" st_Lerror_name f fd) (Er : HX.ErrM K mgl eB eAs) : HX.FnE P WW.w K mgl base CX0 1 f fd ["_law_e"] (HX.spE eAs) := by
  refine fnE_mk Fn sc_Lerror_name rfl fun cdv A outer s H vs Q E p hot hr h => ?_
  obtain ⟨ea, eo⟩ := p
  obtain ⟨C, Ad, hA, rfl, hz, hfs, kq⟩ := h
  have hC : C < 13 := by rw [← Er.len]; exact (List.getElem?_eq_some_iff.mp hA).1
  have Fa := Er.facts hA
  have hc : L2H.HotC (L2H.cxH CX0 P WW.w K mgl base nm_Lerror_name "_law_error_name" (defScope st_Lerror_name) f cdv A outer s H E (ea, eo)) := ⟨(ea, eo), hot, List.mem_cons_self⟩
  have hu : (L2H.cxH CX0 P WW.w K mgl base nm_Lerror_name "_law_error_name" (defScope st_Lerror_name) f cdv A outer s H E (ea, eo)).A.units + 64 < cLine := by
    have := hr.un
    show (A.deeper _).units + 64 < cLine
    omega
  obtain ⟨A0, hA0, _, mA0⟩ := Er.cls 0 "InvalidKind" rfl
  obtain ⟨A1, hA1, _, mA1⟩ := Er.cls 1 "InvalidState" rfl
  obtain ⟨A2, hA2, _, mA2⟩ := Er.cls 2 "InvalidRow" rfl
  obtain ⟨A3, hA3, _, mA3⟩ := Er.cls 3 "InvalidNumber" rfl
  obtain ⟨A4, hA4, _, mA4⟩ := Er.cls 4 "InvalidEffect" rfl
  obtain ⟨A5, hA5, _, mA5⟩ := Er.cls 5 "InvalidWished" rfl
  obtain ⟨A6, hA6, _, mA6⟩ := Er.cls 6 "InvalidGoal" rfl
  obtain ⟨A7, hA7, _, mA7⟩ := Er.cls 7 "InvalidTabs" rfl
  obtain ⟨A8, hA8, _, mA8⟩ := Er.cls 8 "InvalidTab" rfl
  obtain ⟨A9, hA9, _, mA9⟩ := Er.cls 9 "NotPossible" rfl
  obtain ⟨A10, hA10, _, mA10⟩ := Er.cls 10 "OtherKind" rfl
  obtain ⟨A11, hA11, _, mA11⟩ := Er.cls 11 "TooMany" rfl
  obtain ⟨A12, hA12, _, mA12⟩ := Er.cls 12 "NothingToUndo" rfl
  have dr : DS (L2H.cxH CX0 P WW.w K mgl base nm_Lerror_name "_law_error_name" (defScope st_Lerror_name) f cdv A outer s H E (ea, eo)) (fun _ _ _ _ => False) (errRet st_Lerror_name) _ := ds_ret (de_if (dt_cmp (op_eqD hu) od_eqD (de_slice sl_list sd_L (de_var 3) (do_some de_int) do_no) (de_lst (da_cons (de_str [98, 97, 115, 101]) (da_cons (de_str [118, 97, 108, 117, 101]) da_nil)))) (de_ix ix_list od_ixL (de_var 3) de_int) (de_str [101, 108, 115, 101]))
  obtain ⟨tr, pr, rr⟩ := dr
  refine ⟨_, (pss_cons (ps_set (i := 1) sc_Lerror_name.nd rfl (by first | exact Or.inl rfl | exact Or.inr rfl) (pe_lst (pa_cons (HX.pe_isX (a := ea) (oe := eo) (A := Ad) (b := C == 0) (v := .ref A0) List.mem_cons_self Fa.is hz.zc hfs (Fa.kit 0 A0 hA0) (fun u r => r) Er.isi rfl (pe_glob rfl mA0 rfl) (pv 0)) (pa_cons (HX.pe_isX (a := ea) (oe := eo) (A := Ad) (b := C == 1) (v := .ref A1) List.mem_cons_self Fa.is hz.zc hfs (Fa.kit 1 A1 hA1) (fun u r => r) Er.isi rfl (pe_glob rfl mA1 rfl) (pv 0)) (pa_cons (HX.pe_isX (a := ea) (oe := eo) (A := Ad) (b := C == 2) (v := .ref A2) List.mem_cons_self Fa.is hz.zc hfs (Fa.kit 2 A2 hA2) (fun u r => r) Er.isi rfl (pe_glob rfl mA2 rfl) (pv 0)) pa_nil)))))
    (pss_cons (ps_set (i := 1) sc_Lerror_name.nd rfl (by first | exact Or.inl rfl | exact Or.inr rfl) (pe_op op_cat (pv 1) (pe_lst (pa_cons (HX.pe_isX (a := ea) (oe := eo) (A := Ad) (b := C == 3) (v := .ref A3) List.mem_cons_self Fa.is hz.zc hfs (Fa.kit 3 A3 hA3) (fun u r => r) Er.isi rfl (pe_glob rfl mA3 rfl) (pv 0)) (pa_cons (HX.pe_isX (a := ea) (oe := eo) (A := Ad) (b := C == 4) (v := .ref A4) List.mem_cons_self Fa.is hz.zc hfs (Fa.kit 4 A4 hA4) (fun u r => r) Er.isi rfl (pe_glob rfl mA4 rfl) (pv 0)) (pa_cons (HX.pe_isX (a := ea) (oe := eo) (A := Ad) (b := C == 5) (v := .ref A5) List.mem_cons_self Fa.is hz.zc hfs (Fa.kit 5 A5 hA5) (fun u r => r) Er.isi rfl (pe_glob rfl mA5 rfl) (pv 0)) pa_nil))))))
    (pss_cons (ps_set (i := 1) sc_Lerror_name.nd rfl (by first | exact Or.inl rfl | exact Or.inr rfl) (pe_op op_cat (pv 1) (pe_lst (pa_cons (HX.pe_isX (a := ea) (oe := eo) (A := Ad) (b := C == 6) (v := .ref A6) List.mem_cons_self Fa.is hz.zc hfs (Fa.kit 6 A6 hA6) (fun u r => r) Er.isi rfl (pe_glob rfl mA6 rfl) (pv 0)) (pa_cons (HX.pe_isX (a := ea) (oe := eo) (A := Ad) (b := C == 7) (v := .ref A7) List.mem_cons_self Fa.is hz.zc hfs (Fa.kit 7 A7 hA7) (fun u r => r) Er.isi rfl (pe_glob rfl mA7 rfl) (pv 0)) (pa_cons (HX.pe_isX (a := ea) (oe := eo) (A := Ad) (b := C == 8) (v := .ref A8) List.mem_cons_self Fa.is hz.zc hfs (Fa.kit 8 A8 hA8) (fun u r => r) Er.isi rfl (pe_glob rfl mA8 rfl) (pv 0)) pa_nil))))))
    (pss_cons (ps_set (i := 1) sc_Lerror_name.nd rfl (by first | exact Or.inl rfl | exact Or.inr rfl) (pe_op op_cat (pv 1) (pe_lst (pa_cons (HX.pe_isX (a := ea) (oe := eo) (A := Ad) (b := C == 9) (v := .ref A9) List.mem_cons_self Fa.is hz.zc hfs (Fa.kit 9 A9 hA9) (fun u r => r) Er.isi rfl (pe_glob rfl mA9 rfl) (pv 0)) (pa_cons (HX.pe_isX (a := ea) (oe := eo) (A := Ad) (b := C == 10) (v := .ref A10) List.mem_cons_self Fa.is hz.zc hfs (Fa.kit 10 A10 hA10) (fun u r => r) Er.isi rfl (pe_glob rfl mA10 rfl) (pv 0)) (pa_cons (HX.pe_isX (a := ea) (oe := eo) (A := Ad) (b := C == 11) (v := .ref A11) List.mem_cons_self Fa.is hz.zc hfs (Fa.kit 11 A11 hA11) (fun u r => r) Er.isi rfl (pe_glob rfl mA11 rfl) (pv 0)) pa_nil))))))
    (pss_cons (ps_set (i := 1) sc_Lerror_name.nd rfl (by first | exact Or.inl rfl | exact Or.inr rfl) (pe_op op_cat (pv 1) (pe_lst (pa_cons (HX.pe_isX (a := ea) (oe := eo) (A := Ad) (b := C == 12) (v := .ref A12) List.mem_cons_self Fa.is hz.zc hfs (Fa.kit 12 A12 hA12) (fun u r => r) Er.isi rfl (pe_glob rfl mA12 rfl) (pv 0)) (pa_cons (HX.pe_isX (a := ea) (oe := eo) (A := Ad) (b := true) (v := .ref eB) List.mem_cons_self Fa.is hz.zc hfs Fa.bar (fun u r => r) Er.isi rfl (pe_glob rfl Er.bar rfl) (pv 0)) (pa_cons (HX.pe_isX (a := ea) (oe := eo) (A := Ad) (b := true) (v := .ty "ValueError") List.mem_cons_self Fa.is hz.zc hfs Fa.ve (fun u r => r) Er.isi rfl (pe_bltn rfl Er.ve rfl rfl) (pv 0)) pa_nil))))))
    (pss_cons (ps_set (i := 2) sc_Lerror_name.nd rfl (by first | exact Or.inl rfl | exact Or.inr rfl) pe_str)
    (pss_cons (HX.ps_setLcH (i := 3) (own := [("_law_name", 4), ("_law_good", 5)]) (g := gTup K 2 (gCons (gName 4) (gCons (gName 5) gNil))) (tt := tB (tVar 5)) (te := tVar 4) hc sc_Lerror_name.nd rfl rfl (sw_true rfl rfl rfl (by decide +kernel)) (HX.pi_zipH rfl Er.zip (pa_cons (pe_bm PySem.F.plainAttrs_str PySem.F.slot_str_split PySem.F.type_str_split mt_split (pv 2) (pa_cons pe_str pa_nil)) (pa_cons (pv 1) pa_nil))) (blkOk_by (own := [("_law_name", 4), ("_law_good", 5)]) (N := nm_Lerror_name) (sc := defScope st_Lerror_name) (by decide +kernel)) (fun _ _ _ _ _ => HX.pg_tupH (by exact hc) (pgs_cons (pg_name (i := 4) sc_Lerror_name.nd rfl (by first | exact Or.inl rfl | exact Or.inr rfl)) (pgs_cons (pg_name (i := 5) sc_Lerror_name.nd rfl (by first | exact Or.inl rfl | exact Or.inr rfl)) pgs_nil))) (fun _ _ _ _ _ => pts_one (pt_val (pv 5))) (fun _ _ _ _ _ => pv 4))
    (pss_one pr)))))))), ?_⟩
  refine HX.first3 (b := C == 0) (c := C == 1) (d := C == 2) rfl fun q1 H1 x1 e1 => ?_
  refine HX.next3 (b := C == 3) (c := C == 4) (d := C == 5) rfl rfl e1 (by simp) fun q2 H2 x2 e2 => ?_
  refine HX.next3 (b := C == 6) (c := C == 7) (d := C == 8) rfl rfl e2 (by simp) fun q3 H3 x3 e3 => ?_
  refine HX.next3 (b := C == 9) (c := C == 10) (d := C == 11) rfl rfl e3 (by simp) fun q4 H4 x4 e4 => ?_
  refine HX.next3 (b := C == 12) (c := true) (d := true) rfl rfl e4 (by simp) fun q5 H5 x5 e5 => ?_
  have x0 := (((x1.trans x2).trans x3).trans x4).trans x5
  dsimp only
  refine err_tail ?_
  refine HX.lc_names (K := K) (σ := [some (.ref ea), some (.ref q5), some (.str (Str.ofString "kind state row number effect wished goal tabs tab not other many undo base value")), none, none, none]) (a := Str.ofString "kind state row number effect wished goal tabs tab not other many undo base value") (b := Str.ofString " ") (ns := errNs) (bs := errBs C) (by rfl) (by rfl) e5 (by decide +kernel) (by rw [sizeLine_eq]; decide +kernel) (by decide +kernel) rfl (by decide) (by rfl) fun q6 H6 n6 x6 e6 => ?_
  rw [errKeep C hC] at e6
  refine err_end (H0 := H) ?_ (x0.trans x6) e6 rfl rfl rfl rr kq
  cases z : H q6 with
  | none => rfl
  | some o => rw [x0 _ _ z] at n6; cases n6
theorem errF_Lerror_name {eB : Addr} {eAs : List Addr} (hD : DefAt K mgl "_law_error_name" st_Lerror_name ["_law_e"]) (Er : HX.ErrM K mgl eB eAs) : HX.ErrF P WW.w K mgl base 1 eAs := errF_of hD fun f fd F => fnE_Lerror_name F Er
abbrev st_Loutcome : Stmt := topS 48
abbrev nm_Loutcome : List Str := ["_law_call", "_law_one", "_law_other_here", "_law_e"]
theorem sc_Loutcome : FnScope nm_Loutcome ["_law_call", "_law_one", "_law_other_here"] (defScope st_Loutcome) := ⟨rfl, rfl, rfl, by decide +kernel, rfl, by decide +kernel, by decide +kernel⟩
def S_Loutcome : TD := fun ρ Q E => match ρ with
  | [.v (.int i), .v a, .v b] => ∃ j : Nat, i = (j : Nat) ∧ OutOk j a b (fun d => Q (.v d) [.v (.int i), .v a, .v b])
  | _ => False
theorem S_Loutcome_eq {i : Int} {a b : D} {Q : CtR} {E : EX} : S_Loutcome [.v (.int i), .v a, .v b] Q E = (∃ j : Nat, i = (j : Nat) ∧ OutOk j a b (fun d => Q (.v d) [.v (.int i), .v a, .v b])) := rfl
local macro_rules | `(tactic| walk_at "Loutcome") => `(tactic| simp (config := { maxSteps := 10000000 }) only [w_var, w_sl_v, w_sl_l, w_c, w_op, w_qOp, w_qOp2, w_qB, w_test, w_and, w_or, w_not, w_qAnd, w_qOr, w_qNot, w_andV, w_orV, w_notV, w_qAndV, w_qOrV, w_qNotV, w_qI, w_neg, w_qNeg, w_if, w_qIf, w_chain, w_qCh, w_qCh2, w_qCh4, w_nil, w_cons, w_qCons, w_qCons2, fzL_nil, fzL_v, fzL_f, noB_nil, noB_v, noB_f, w_tup, w_lst, w_qTup, w_qLst, w_next, w_seq, w_break, w_drop, w_qDrop, w_ret, w_ifS, w_qIfS, w_set, w_qSet, asg_v, asg_f, asg_b, w_par, w_qPar, w_parT, w_qParT, asgs_c, asgs_n, w_asg, w_qAsg, w_hName, w_hCons, w_qH, hNil_n, hTup_t, w_be, w_qRt, w_qNx, w_qEx, w_nowh, ret_v, ret_f, ret_ft, ret_b, retB_l, retB_lt, mg_l, mg_v, mg_n, mgOk_l, mgOk_v, mgOk_n, w_call, w_qCall, w_qWb, w_qWe, argE_v, argE_f, argE_b, lOnly_l, bis_n, bis_b, bis_v, bis_f, wb_b, wb_v, wb_f, wb_n, dat_v, dat_f, dat_b, datS_l, ls_l, ts_t, seq_l, seq_t, w_ixL, w_ixT, w_ixS, at_0, at_1, at_2, at_3, own_l, up_0, up_1, w_setIx, w_qSx_v, w_qSx_f, w_qSx2, w_qSx3, w_app_v, w_app_f, w_qApp, w_popAt, w_pop, w_bm', w_qBm, w_qBm2, w_bm0, w_qBm0, ty_s, ty_l, w_some, w_qSome, w_no, w_slc, w_qSlc, w_qSl2, w_qSl3, w_sL, w_qCut, sS_v, sT_v, w_cb, w_qCB, w_len, len_l, len_t, len_s, w_tupOf, w_listOf, w_qTo, w_qLo, w_all, w_isi, w_qIsi, w_sort, w_count, w_frz, frz_l, frz_v, w_join, w_dix, w_qDix, w_int, oIsB_v, oNotB_v, w_diS, w_diT, w_diL, w_qIS, w_qIT, w_qIL, w_qILd, w_diR1, w_diR2, w_qR1, w_qR2, w_for, w_qTurn, w_lessI, w_qWhile, w_lc, w_lcT2_v, w_lcT, dNever, dYes, oI0_v, oI_v, oEq_v, oNe_v, scD_ii, scD_ss, scD_bb, scD_nn, scD_ns, scD_sn, eqF_ii, eqF_ss, eqF_bb, eqF_nn, eqF_ns, eqF_sn, oAddS_v, oMulS_v, oInC_v, oIn_v, oCatT_v, oIsN_v, oNotN_v, DL.isNon, cMax2_v, cMin2_v, isStr, isInt, isBl, isTup, isLst, apart, flat, stR, dLstRg1_eq, dLstRg2_eq, oEqD, oNeD, List.cons_append, List.nil_append, List.map_cons, List.map_nil, List.getElem?_cons_zero, List.getElem?_cons_succ, List.set_cons_zero, List.set_cons_succ, List.length_cons, List.length_nil, List.nodup_cons, List.nodup_nil, List.mem_singleton, List.not_mem_nil, rst, wipeD, or_false, false_or, or_self, reduceCtorEq, Nat.reduceEqDiff, Nat.reduceAdd, Nat.reduceLeDiff, Nat.zero_le, Nat.succ_ne_self, Option.getD_some, Option.some.injEq, exists_eq_left', true_and, and_true, and_self, true_implies, implies_true, not_false_eq_true, not_true_eq_false, decide_eq_true_eq, if_true, if_false, ↓reduceIte, Bool.false_eq_true, Bool.not_true, Bool.not_false, decide_true, decide_false, Bool.true_eq_false, eq_self, w_raise, w_try, w_qTry, ew0, ew1, ew2, ew3, ew4, ew5, ew6, ew7, ew8, ew9, ew10, ew11, ew12, w_enS, w_qEnX, w_listS, w_sindex, oRepT_v, w_oCat, oCat2_s, w_oRep, oRep2_s, own_f, own_b, ownLs_l, w_cix, w_qCix, w_end, w_qEnd, g1_v, g1s_v, g2_v, gM_v, isObR_v, w_consO, w_qConsO, w_qConsO2, w_post, w_qPost, isLenR_v, isBlR_v, w_fld, w_qFld0, w_qFld1, w_qFld2, isOb, w_obNew, w_qObNew, w_bool, w_obEqS, w_qObEqS, w_orT, w_qOrT0, w_qOrT1, S_Presses___call___eq, S_Presses___getitem___eq, S_Presses___add___eq, S_Presses___mul___eq])
theorem fn_Loutcome {f : Addr} {fd : FuncData} (F : Fun K "_law_outcome" "_law_outcome" st_Loutcome f fd) (B : Bi mgl)   (O_call : OCal P WW.w K mgl base 3 2 "__call__" S_Presses___call__) (O_getitem : OCal P WW.w K mgl base 2 2 "__getitem__" S_Presses___getitem__) (O_add : OCal P WW.w K mgl base 5 2 "__add__" S_Presses___add__) (O_mul : OCal P WW.w K mgl base 5 2 "__mul__" S_Presses___mul__) (Op_row : OPr P WW.w K mgl base "row" "commands") (On : ObNew P WW.w K mgl base newPre newOut) {eB : Addr} {eAs : List Addr} (Er : ErrM K mgl eB eAs) (Ef : ErrF P WW.w K mgl base 1 eAs) : FnOk P WW.w K mgl base (L2N.CX P WW.w) 8 f fd ["_law_call", "_law_one", "_law_other_here"] (toSp K 3 S_Loutcome) := by
  refine fnd' F sc_Loutcome rfl false [.no] rfl (fun cdv A outer s H E hr tk => (dss_one (ds_try (i := 3) Er (Ef.mono (by decide)) hr tk rfl rfl sc_Loutcome.nd rfl rfl rfl (fun _ _ => rfl) (fun _ _ => pv 3) (fun _ _ => rfl) (fun W' pn xe tk' po =>
    (dss_cons (ds_if (dt_cmp op_eq od_eq (de_var 0) de_int) (dss_one (ds_ret (de_obCall O_call tk' (hr.mono (by decide)) (de_var 1) (da_cons (de_var 2) da_nil)))) dss_nil)
    (dss_cons (ds_if (dt_cmp op_eq od_eq (de_var 0) de_int) (dss_one (ds_ret (de_obGet O_getitem tk' (hr.mono (by decide)) (de_var 1) (de_var 2)))) dss_nil)
    (dss_cons (ds_if (dt_cmp op_eq od_eq (de_var 0) de_int) (dss_one (ds_ret (de_obProp (i := 1) rfl Op_row (hr.mono (by decide)) (fun E hE => noPassP _ E hE) (de_obAdd O_add tk' (hr.mono (by decide)) (de_var 1) (de_var 2))))) dss_nil)
    (dss_one (ds_ret (de_if (dt_cmp op_eq od_eq (de_var 0) de_int) (de_obProp (i := 1) rfl Op_row (hr.mono (by decide)) (fun E hE => noPassP _ E hE) (de_obMul O_mul tk' (hr.mono (by decide)) (de_var 1) (de_var 2))) (de_obProp (i := 1) rfl Op_row (hr.mono (by decide)) (fun E hE => noPassP _ E hE) (de_obNew On tk' (hr.mono (by decide)) (da_cons (de_var 1) (da_cons (de_var 2) da_nil)))))))))))))) ?_
  intro ρ Q E h _
  match ρ, h with
  | [.v (.int i), .v a, .v b], h =>
    have h : ∃ j : Nat, i = (j : Nat) ∧ OutOk j a b (fun d => Q (.v d) [.v (.int i), .v a, .v b]) := h
    obtain ⟨j, rfl, h⟩ := h
    walk_at "Loutcome"
    rcases h with ⟨hj, kd, r, rfl, hk, hr, hR, h⟩ | ⟨rfl, sb, h⟩
    · have hl := rowB_len hr
      rcases (by omega : j = 0 ∨ j = 1 ∨ j = 2 ∨ j = 3) with rfl | rfl | rfl | rfl
      · obtain ⟨sl, h⟩ := h
        rw [if_pos (by decide)]
        walk_at "Loutcome"
        refine ⟨hr, hR, sl, ?_⟩
        rcases h with ⟨e, k⟩ | ⟨s, rfl, hs, e, k, kx⟩
        · exact .inl ⟨e, by decide, k⟩
        · exact .inr ⟨s, rfl, hs, e, k, fun q => ⟨by decide, kx q⟩⟩
      · obtain ⟨e, k⟩ := h
        rw [if_neg (by decide), if_pos (by decide)]
        walk_at "Loutcome"
        exact ⟨by omega, .inl ⟨e, by decide, k⟩⟩
      · obtain ⟨kd2, r2, rfl, h2, R2, h⟩ := h
        rw [if_neg (by decide), if_neg (by decide), if_pos (by decide)]
        walk_at "Loutcome"
        refine ⟨hk, hr, h2, hR, R2, ?_⟩
        rcases h with ⟨e, k⟩ | ⟨e, l, k⟩ | ⟨e, l, k⟩
        · exact .inl ⟨e, by decide, k⟩
        · exact .inr (.inl ⟨e, l, by decide, k⟩)
        · exact .inr (.inr ⟨e, l, k⟩)
      · rw [if_neg (by decide), if_neg (by decide), if_neg (by decide), if_pos (by decide)]
        rcases h with ⟨f, e, k⟩ | ⟨n, rfl, hn, h⟩
        · walk_at "Loutcome"
          exact ⟨f, hk, hr, hR, .inl ⟨e, by decide, k⟩⟩
        · walk_at "Loutcome"
          refine ⟨hk, hr, hR, .inr ⟨n, rfl, hn, ?_⟩⟩
          rcases h with ⟨l, k⟩ | ⟨l, k⟩
          · exact .inl ⟨l, by decide, k⟩
          · exact .inr ⟨l, k⟩
    · rw [if_neg (by decide), if_neg (by decide), if_neg (by decide), if_neg (by decide)]
      rcases h with ⟨e, k⟩ | ⟨e, e2, k⟩
      · refine new_0 sb e ?_
        walk_at "Loutcome"
        exact ⟨by decide, k⟩
      · refine new_2 sb e e2 ?_
        walk_at "Loutcome"
        exact ⟨by decide, k⟩
theorem ok_Loutcome (hD : DefAt K mgl "_law_outcome" st_Loutcome ["_law_call", "_law_one", "_law_other_here"]) (B : Bi mgl)   (O_call : OCal P WW.w K mgl base 3 2 "__call__" S_Presses___call__) (O_getitem : OCal P WW.w K mgl base 2 2 "__getitem__" S_Presses___getitem__) (O_add : OCal P WW.w K mgl base 5 2 "__add__" S_Presses___add__) (O_mul : OCal P WW.w K mgl base 5 2 "__mul__" S_Presses___mul__) (Op_row : OPr P WW.w K mgl base "row" "commands") (On : ObNew P WW.w K mgl base newPre newOut) {eB : Addr} {eAs : List Addr} (Er : ErrM K mgl eB eAs) (Ef : ErrF P WW.w K mgl base 1 eAs) : Cal P WW.w K mgl base 8 3 "_law_outcome" S_Loutcome := cal_of hD fun f fd F => fn_Loutcome F B   O_call O_getitem O_add O_mul Op_row On Er Ef
abbrev st_Lrefused : Stmt := topS 49
abbrev nm_Lrefused : List Str := ["_law_one", "_law_state_so", "_law_odd"]
theorem sc_Lrefused : FnScope nm_Lrefused ["_law_one", "_law_state_so"] (defScope st_Lrefused) := ⟨rfl, rfl, rfl, by decide +kernel, rfl, by decide +kernel, by decide +kernel⟩
def S_Lrefused : TD := fun ρ Q E => match ρ with
  | [.v (.ob [.str kd, .str r, x]), .v d] => x = effD (decide (kd = kRight)) r ∧ ∃ (t : List Nat) (a : Nat), d = stD t a ∧ tabsB t = true ∧ a < t.length ∧ kindB kd = true ∧ rowB r = true ∧ Row r ∧ Q (.v (.bl true)) [.v (.ob [.str kd, .str r, x]), .v d]
  | _ => False
theorem S_Lrefused_eq {kd r : List Nat} {x d : D} {Q : CtR} {E : EX} : S_Lrefused [.v (.ob [.str kd, .str r, x]), .v d] Q E = (x = effD (decide (kd = kRight)) r ∧ ∃ (t : List Nat) (a : Nat), d = stD t a ∧ tabsB t = true ∧ a < t.length ∧ kindB kd = true ∧ rowB r = true ∧ Row r ∧ Q (.v (.bl true)) [.v (.ob [.str kd, .str r, x]), .v d]) := rfl
local macro_rules | `(tactic| walk_at "Lrefused") => `(tactic| simp (config := { maxSteps := 10000000 }) only [w_var, w_sl_v, w_sl_l, w_c, w_op, w_qOp, w_qOp2, w_qB, w_test, w_and, w_or, w_not, w_qAnd, w_qOr, w_qNot, w_andV, w_orV, w_notV, w_qAndV, w_qOrV, w_qNotV, w_qI, w_neg, w_qNeg, w_if, w_qIf, w_chain, w_qCh, w_qCh2, w_qCh4, w_nil, w_cons, w_qCons, w_qCons2, fzL_nil, fzL_v, fzL_f, noB_nil, noB_v, noB_f, w_tup, w_lst, w_qTup, w_qLst, w_next, w_seq, w_break, w_drop, w_qDrop, w_ret, w_ifS, w_qIfS, w_set, w_qSet, asg_v, asg_f, asg_b, w_par, w_qPar, w_parT, w_qParT, asgs_c, asgs_n, w_asg, w_qAsg, w_hName, w_hCons, w_qH, hNil_n, hTup_t, w_be, w_qRt, w_qNx, w_qEx, w_nowh, ret_v, ret_f, ret_ft, ret_b, retB_l, retB_lt, mg_l, mg_v, mg_n, mgOk_l, mgOk_v, mgOk_n, w_call, w_qCall, w_qWb, w_qWe, argE_v, argE_f, argE_b, lOnly_l, bis_n, bis_b, bis_v, bis_f, wb_b, wb_v, wb_f, wb_n, dat_v, dat_f, dat_b, datS_l, ls_l, ts_t, seq_l, seq_t, w_ixL, w_ixT, w_ixS, at_0, at_1, at_2, at_3, own_l, up_0, up_1, w_setIx, w_qSx_v, w_qSx_f, w_qSx2, w_qSx3, w_app_v, w_app_f, w_qApp, w_popAt, w_pop, w_bm', w_qBm, w_qBm2, w_bm0, w_qBm0, ty_s, ty_l, w_some, w_qSome, w_no, w_slc, w_qSlc, w_qSl2, w_qSl3, w_sL, w_qCut, sS_v, sT_v, w_cb, w_qCB, w_len, len_l, len_t, len_s, w_tupOf, w_listOf, w_qTo, w_qLo, w_all, w_isi, w_qIsi, w_sort, w_count, w_frz, frz_l, frz_v, w_join, w_dix, w_qDix, w_int, oIsB_v, oNotB_v, w_diS, w_diT, w_diL, w_qIS, w_qIT, w_qIL, w_qILd, w_diR1, w_diR2, w_qR1, w_qR2, w_for, w_qTurn, w_lessI, w_qWhile, w_lc, w_lcT2_v, w_lcT, dNever, dYes, oI0_v, oI_v, oEq_v, oNe_v, scD_ii, scD_ss, scD_bb, scD_nn, scD_ns, scD_sn, eqF_ii, eqF_ss, eqF_bb, eqF_nn, eqF_ns, eqF_sn, oAddS_v, oMulS_v, oInC_v, oIn_v, oCatT_v, oIsN_v, oNotN_v, DL.isNon, cMax2_v, cMin2_v, isStr, isInt, isBl, isTup, isLst, apart, flat, stR, dLstRg1_eq, dLstRg2_eq, oEqD, oNeD, List.cons_append, List.nil_append, List.map_cons, List.map_nil, List.getElem?_cons_zero, List.getElem?_cons_succ, List.set_cons_zero, List.set_cons_succ, List.length_cons, List.length_nil, List.nodup_cons, List.nodup_nil, List.mem_singleton, List.not_mem_nil, rst, wipeD, or_false, false_or, or_self, reduceCtorEq, Nat.reduceEqDiff, Nat.reduceAdd, Nat.reduceLeDiff, Nat.zero_le, Nat.succ_ne_self, Option.getD_some, Option.some.injEq, exists_eq_left', true_and, and_true, and_self, true_implies, implies_true, not_false_eq_true, not_true_eq_false, decide_eq_true_eq, if_true, if_false, ↓reduceIte, Bool.false_eq_true, Bool.not_true, Bool.not_false, decide_true, decide_false, Bool.true_eq_false, eq_self, w_raise, w_try, w_qTry, ew0, ew1, ew2, ew3, ew4, ew5, ew6, ew7, ew8, ew9, ew10, ew11, ew12, w_enS, w_qEnX, w_listS, w_sindex, oRepT_v, w_oCat, oCat2_s, w_oRep, oRep2_s, own_f, own_b, ownLs_l, w_cix, w_qCix, w_end, w_qEnd, g1_v, g1s_v, g2_v, gM_v, isObR_v, w_consO, w_qConsO, w_qConsO2, w_post, w_qPost, isLenR_v, isBlR_v, w_fld, w_qFld0, w_qFld1, w_qFld2, isOb, w_obNew, w_qObNew, w_bool, w_obEqS, w_qObEqS, w_orT, w_qOrT0, w_qOrT1, S_Lother_eq, S_Loutcome_eq, S_Presses___eq___eq, S_Presses___len___eq, othK, prD])
theorem fn_Lrefused {f : Addr} {fd : FuncData} (F : Fun K "_law_refused" "_law_refused" st_Lrefused f fd) (B : Bi mgl) (C_Lother : Cal P WW.w K mgl base 1 1 "_law_other" S_Lother) (C_Loutcome : Cal P WW.w K mgl base 8 3 "_law_outcome" S_Loutcome)  (O_eq : OCal P WW.w K mgl base 1 2 "__eq__" S_Presses___eq__) (O_len : OCal P WW.w K mgl base 1 1 "__len__" S_Presses___len__) (Op_row : OPr P WW.w K mgl base "row" "commands") (Op_kind : OPr P WW.w K mgl base "kind" "own") (On : ObNew P WW.w K mgl base newPre newOut) : FnOk P WW.w K mgl base (L2N.CX P WW.w) 9 f fd ["_law_one", "_law_state_so"] (toSp K 2 S_Lrefused) := by
  refine fnd' F sc_Lrefused rfl false [.no] rfl (fun cdv A outer s H E hr tk => (dss_cons (ds_if (dt_obEq O_eq tk (hr.mono (by decide)) (de_var 0) (de_obNew On tk (hr.mono (by decide)) (da_cons (de_cal C_Lother tk (hr.mono (by decide)) (da_cons (de_obProp (i := 0) rfl Op_kind (hr.mono (by decide)) (fun E hE => noPassP _ E hE) (de_var 0)) da_nil)) (da_cons (de_obProp (i := 1) rfl Op_row (hr.mono (by decide)) (fun E hE => noPassP _ E hE) (de_var 0)) da_nil)))) (dss_one (ds_ret de_bl)) dss_nil)
    (dss_cons (ds_if (dt_cmp (op_neD hr.units) od_neD (de_cal C_Loutcome tk (hr.mono (by decide)) (da_cons de_int (da_cons (de_var 0) (da_cons (de_obNew On tk (hr.mono (by decide)) (da_cons (de_cal C_Lother tk (hr.mono (by decide)) (da_cons (de_obProp (i := 0) rfl Op_kind (hr.mono (by decide)) (fun E hE => noPassP _ E hE) (de_var 0)) da_nil)) (da_cons (de_str []) da_nil))) da_nil)))) (de_str [111, 116, 104, 101, 114])) (dss_one (ds_ret de_bl)) dss_nil)
    (dss_cons (ds_if (dt_cmp (op_neD hr.units) od_neD (de_lc (own := [("_law_odd", 2)]) (nt := .one 2) rfl sc_Lrefused.nd (di_list (de_lst (da_cons de_non (da_cons (de_ct call_list_of cd_listOf B.list (by decide +kernel) (da_cons (de_var 1) da_nil)) (da_cons (de_tup (da_cons (de_str [97, 97]) (da_cons (de_str [97]) da_nil))) (da_cons (de_str [97]) da_nil)))))) (blkOk_by (own := [("_law_odd", 2)]) (N := nm_Lrefused) (sc := defScope (st_Lrefused)) (by decide +kernel)) (by decide) (fun _ _ _ _ _ => (pg_name (i := 2) sc_Lrefused.nd rfl (by first | exact Or.inl rfl | exact Or.inr rfl))) (fun _ _ _ _ _ => dts_nil) (fun _ _ _ _ _ => (de_cal C_Loutcome takes0N (hr.mono (by decide)) (da_cons de_int (da_cons (de_var 0) (da_cons (de_var 2) da_nil)))))) (de_op op_rep od_rep (de_lst (da_cons (de_str [115, 116, 97, 116, 101]) da_nil)) de_int)) (dss_one (ds_ret de_bl)) dss_nil)
    (dss_cons (ds_if (dt_cmp (op_neD hr.units) od_neD (de_lc (own := [("_law_odd", 2)]) (nt := .one 2) rfl sc_Lrefused.nd (di_list (de_lst (da_cons de_non (da_cons (de_neg de_int) (da_cons (de_obLen O_len tk (hr.mono (by decide)) B.len (de_var 0)) (da_cons de_bl (da_cons (de_str [48]) da_nil))))))) (blkOk_by (own := [("_law_odd", 2)]) (N := nm_Lrefused) (sc := defScope (st_Lrefused)) (by decide +kernel)) (by decide) (fun _ _ _ _ _ => (pg_name (i := 2) sc_Lrefused.nd rfl (by first | exact Or.inl rfl | exact Or.inr rfl))) (fun _ _ _ _ _ => dts_nil) (fun _ _ _ _ _ => (de_cal C_Loutcome takes0N (hr.mono (by decide)) (da_cons de_int (da_cons (de_var 0) (da_cons (de_var 2) da_nil)))))) (de_op op_rep od_rep (de_lst (da_cons (de_str [110, 117, 109, 98, 101, 114]) da_nil)) de_int)) (dss_one (ds_ret de_bl)) dss_nil)
    (dss_cons (ds_if (dt_cmp (op_neD hr.units) od_neD (de_lc (own := [("_law_odd", 2)]) (nt := .one 2) rfl sc_Lrefused.nd (di_list (de_lst (da_cons de_non (da_cons (de_neg de_int) (da_cons de_int (da_cons de_bl (da_cons (de_str [50]) da_nil))))))) (blkOk_by (own := [("_law_odd", 2)]) (N := nm_Lrefused) (sc := defScope (st_Lrefused)) (by decide +kernel)) (by decide) (fun _ _ _ _ _ => (pg_name (i := 2) sc_Lrefused.nd rfl (by first | exact Or.inl rfl | exact Or.inr rfl))) (fun _ _ _ _ _ => dts_nil) (fun _ _ _ _ _ => (de_cal C_Loutcome takes0N (hr.mono (by decide)) (da_cons de_int (da_cons (de_var 0) (da_cons (de_var 2) da_nil)))))) (de_op op_rep od_rep (de_lst (da_cons (de_str [110, 117, 109, 98, 101, 114]) da_nil)) de_int)) (dss_one (ds_ret de_bl)) dss_nil)
    (dss_cons (ds_if (dt_cmp (op_neD hr.units) od_neD (de_lc (own := [("_law_odd", 2)]) (nt := .one 2) rfl sc_Lrefused.nd (di_list (de_lst (da_cons de_non (da_cons (de_str [120]) (da_cons (de_op op_mulS od_mulS (de_str [99]) de_int) (da_cons (de_lst (da_cons (de_str [99]) da_nil)) da_nil)))))) (blkOk_by (own := [("_law_odd", 2)]) (N := nm_Lrefused) (sc := defScope (st_Lrefused)) (by decide +kernel)) (by decide) (fun _ _ _ _ _ => (pg_name (i := 2) sc_Lrefused.nd rfl (by first | exact Or.inl rfl | exact Or.inr rfl))) (fun _ _ _ _ _ => dts_nil) (fun _ _ _ _ _ => (de_cal C_Loutcome takes0N (hr.mono (by decide)) (da_cons de_int (da_cons (de_str [114, 105, 103, 104, 116]) (da_cons (de_var 2) da_nil)))))) (de_op op_rep od_rep (de_lst (da_cons (de_str [114, 111, 119]) da_nil)) de_int)) (dss_one (ds_ret de_bl)) dss_nil)
    (dss_one (ds_ret (de_cmp (op_eqD hr.units) od_eqD (de_lc (own := [("_law_odd", 2)]) (nt := .one 2) rfl sc_Lrefused.nd (di_list (de_lst (da_cons (de_str [117, 112]) (da_cons de_non (da_cons de_int da_nil))))) (blkOk_by (own := [("_law_odd", 2)]) (N := nm_Lrefused) (sc := defScope (st_Lrefused)) (by decide +kernel)) (by decide) (fun _ _ _ _ _ => (pg_name (i := 2) sc_Lrefused.nd rfl (by first | exact Or.inl rfl | exact Or.inr rfl))) (fun _ _ _ _ _ => dts_nil) (fun _ _ _ _ _ => (de_cal C_Loutcome takes0N (hr.mono (by decide)) (da_cons de_int (da_cons (de_var 2) (da_cons de_non da_nil)))))) (de_op op_rep od_rep (de_lst (da_cons (de_str [107, 105, 110, 100]) da_nil)) de_int))))))))))) ?_
  intro ρ Q E h _
  match ρ, h with
  | [.v (.ob [.str kd, .str r, x]), .v d], h =>
    have h : x = effD (decide (kd = kRight)) r ∧ ∃ (t : List Nat) (a : Nat), d = stD t a ∧ tabsB t = true ∧ a < t.length ∧ kindB kd = true ∧ rowB r = true ∧ Row r ∧ Q (.v (.bl true)) [.v (.ob [.str kd, .str r, x]), .v d] := h
    obtain ⟨rfl, t, a, rfl, ht, ha, hk, hr, hR, k⟩ := h
    have hl := rowB_len hr
    obtain ⟨c, hc⟩ : ∃ c, t[a]? = some c := ⟨_, List.getElem?_eq_getElem ha⟩
    rw [stD_at hc] at k ⊢
    obtain ⟨nk, hk2, _, _⟩ := othK_ne hk
    rw [show othK kd = if kd = kRight then kLeft else kRight from rfl] at nk hk2
    walk_at "Lrefused"
    refine new_ok hk2 hr ?_
    walk_at "Lrefused"
    refine ⟨hk, hk2, ?_⟩
    rw [if_neg fun z => nk z.1]
    refine new_ok hk2 (by decide) ?_
    walk_at "Lrefused"
    refine ⟨2, rfl, .inl ⟨by decide, kd, r, rfl, hk, hr, hR, _, [], rfl, by decide, (fun _ h => by cases h), .inl ⟨nk, ?_⟩⟩⟩
    dsimp only
    refine ⟨⟨by decide, by decide⟩, ⟨by decide, by decide⟩, ?_⟩
    rw [if_neg (by decide)]
    refine fun a1 a2 => lc_i (fun _ => some (.str [115, 116, 97, 116, 101])) (noLs_of rfl) (by simp) trivial (fun i d e => ?_) fun b1 => ?_
    · have hd := List.mem_of_getElem? e
      simp only [List.mem_cons, List.not_mem_nil, or_false] at hd
      have h1 : SLst d ∧ stateD d = false := by
        rcases hd with rfl | rfl | rfl | rfl <;> refine ⟨?_, by first | rfl | decide⟩ <;> intro x y e <;> cases e
        exact ⟨slS (by decide), slS (by decide)⟩
      refine ⟨_, rfl, ?_⟩
      simp only [wipeD, rst]
      walk_at "Lrefused"
      exact ⟨0, rfl, .inl ⟨by decide, kd, r, rfl, hk, hr, hR, h1.1, .inl ⟨h1.2, rfl⟩⟩⟩
    · simp only [List.filterMap_cons, List.filterMap_nil]
      walk_at "Lrefused"
      refine fun a3 => ⟨by decide, by decide, by decide, fun p2 => ⟨⟨by rfl, by decide⟩, ⟨by rfl, by decide⟩, ?_⟩⟩
      rw [if_neg (by decide)]
      refine ⟨by omega, ⟨by omega, by omega⟩, fun a4 => lc_i (fun _ => some (.str [110, 117, 109, 98, 101, 114])) (noLs_of rfl) (by simp) trivial (fun i d e => ?_) fun b2 => ?_⟩
      · have hd := List.mem_of_getElem? e
        simp only [List.mem_cons, List.not_mem_nil, or_false] at hd
        have h1 : isIntD d 0 ((r.length : Nat) - 1) = false := by
          rcases hd with rfl | rfl | rfl | rfl | rfl <;> first | rfl | exact isIntD_f (by omega)
        refine ⟨_, rfl, ?_⟩
        simp only [wipeD, rst]
        walk_at "Lrefused"
        exact ⟨1, rfl, .inl ⟨by decide, kd, r, rfl, hk, hr, hR, h1, rfl⟩⟩
      · simp only [List.filterMap_cons, List.filterMap_nil]
        walk_at "Lrefused"
        refine fun a5 => ⟨by decide, by decide, by decide, fun p4 => ⟨⟨by rfl, by decide⟩, ⟨by rfl, by decide⟩, ?_⟩⟩
        rw [if_neg (by decide)]
        refine fun a6 => lc_i (fun _ => some (.str [110, 117, 109, 98, 101, 114])) (noLs_of rfl) (by simp) trivial (fun i d e => ?_) fun b3 => ?_
        · have hd := List.mem_of_getElem? e
          simp only [List.mem_cons, List.not_mem_nil, or_false] at hd
          have h1 : flat d = true ∧ isIntD d 0 40 = false := by
            rcases hd with rfl | rfl | rfl | rfl | rfl <;> exact ⟨rfl, by first | rfl | decide⟩
          refine ⟨_, rfl, ?_⟩
          simp only [wipeD, rst]
          walk_at "Lrefused"
          exact ⟨3, rfl, .inl ⟨by decide, kd, r, rfl, hk, hr, hR, .inl ⟨h1.1, h1.2, rfl⟩⟩⟩
        · simp only [List.filterMap_cons, List.filterMap_nil]
          walk_at "Lrefused"
          refine fun a7 => ⟨by decide, by decide, by decide, fun p6 => ⟨⟨by rfl, by decide⟩, ⟨by rfl, by decide⟩, ?_⟩⟩
          rw [if_neg (by decide)]
          refine ⟨by decide, by decide, by decide, fun a8 a9 => lc_i (fun _ => some (.str [114, 111, 119])) (noLs_of rfl) (by simp) trivial (fun i d e => ?_) fun b4 => ?_⟩
          · have hd := List.mem_of_getElem? e
            simp only [List.mem_cons, List.not_mem_nil, or_false] at hd
            have h1 : SL d ∧ rowD d = false := by
              rcases hd with rfl | rfl | rfl | rfl
              · exact ⟨(fun l e => nomatch e), rfl⟩
              · exact ⟨slS (by decide), by decide⟩
              · exact ⟨slS (by decide +kernel), by decide +kernel⟩
              · exact ⟨(fun l e => nomatch e), rfl⟩
            refine ⟨_, rfl, ?_⟩
            simp only [wipeD, rst]
            walk_at "Lrefused"
            exact ⟨4, rfl, .inr ⟨rfl, h1.1, .inr ⟨by decide, h1.2, rfl⟩⟩⟩
          · simp only [List.filterMap_cons, List.filterMap_nil]
            walk_at "Lrefused"
            refine fun a10 => ⟨by decide, by decide, by decide, fun p8 => ⟨⟨by rfl, by decide⟩, ⟨by rfl, by decide⟩, ?_⟩⟩
            rw [if_neg (by decide)]
            refine fun a11 => lc_i (fun _ => some (.str [107, 105, 110, 100])) (noLs_of rfl) (by simp) trivial (fun i d e => ?_) fun b5 => ?_
            · have hd := List.mem_of_getElem? e
              simp only [List.mem_cons, List.not_mem_nil, or_false] at hd
              have h1 : kindD d = false := by
                rcases hd with rfl | rfl | rfl <;> first | rfl | decide
              refine ⟨_, rfl, ?_⟩
              simp only [wipeD, rst]
              walk_at "Lrefused"
              exact ⟨4, rfl, .inr ⟨rfl, (fun l e => nomatch e), .inl ⟨h1, rfl⟩⟩⟩
            · simp only [List.filterMap_cons, List.filterMap_nil]
              walk_at "Lrefused"
              have hv : ∀ b : Bool, b = true → Q (.v (.bl b)) [Sl.v (D.ob [D.str kd, D.str r, effD (decide (kd = kRight)) r]), Sl.v (D.tup [D.str t, D.str [c]])] := fun b e => by rw [e]; exact k
              refine fun a12 => ⟨by decide, by decide, by decide, fun p9 => ⟨⟨by rfl, by decide⟩, ⟨by rfl, by decide⟩, ?_⟩⟩
              exact hv _ (by decide)
theorem ok_Lrefused (hD : DefAt K mgl "_law_refused" st_Lrefused ["_law_one", "_law_state_so"]) (B : Bi mgl) (C_Lother : Cal P WW.w K mgl base 1 1 "_law_other" S_Lother) (C_Loutcome : Cal P WW.w K mgl base 8 3 "_law_outcome" S_Loutcome)  (O_eq : OCal P WW.w K mgl base 1 2 "__eq__" S_Presses___eq__) (O_len : OCal P WW.w K mgl base 1 1 "__len__" S_Presses___len__) (Op_row : OPr P WW.w K mgl base "row" "commands") (Op_kind : OPr P WW.w K mgl base "kind" "own") (On : ObNew P WW.w K mgl base newPre newOut) : Cal P WW.w K mgl base 9 2 "_law_refused" S_Lrefused := cal_of hD fun f fd F => fn_Lrefused F B C_Lother C_Loutcome  O_eq O_len Op_row Op_kind On
abbrev st_law : Stmt := topS 50
abbrev nm_law : List Str := ["_law_script", "_law_k", "_law_source_here", "_law_kind_so", "_law_first", "_law_second", "_law_one", "_law_two", "_law_state_so", "_law_due", "_law_times", "_law_turned_so", "_law_at"]
theorem sc_law : FnScope nm_law ["_law_script"] (defScope st_law) := ⟨rfl, rfl, rfl, by decide +kernel, rfl, by decide +kernel, by decide +kernel⟩
def S_law : TD := fun ρ Q E => match ρ with
  | [.v (.lst ds)] => ∃ ns : List Int, ds = ns.map D.int ∧ ns.length ≤ 63 ∧ Q (.v (.bl true)) [.v (.lst ds)]
  | _ => False
theorem S_law_eq {ds : List D} {Q : CtR} {E : EX} : S_law [.v (.lst ds)] Q E = (∃ ns : List Int, ds = ns.map D.int ∧ ns.length ≤ 63 ∧ Q (.v (.bl true)) [.v (.lst ds)]) := rfl
local macro_rules | `(tactic| walk_at "law") => `(tactic| simp (config := { maxSteps := 10000000 }) only [w_var, w_sl_v, w_sl_l, w_c, w_op, w_qOp, w_qOp2, w_qB, w_test, w_and, w_or, w_not, w_qAnd, w_qOr, w_qNot, w_andV, w_orV, w_notV, w_qAndV, w_qOrV, w_qNotV, w_qI, w_neg, w_qNeg, w_if, w_qIf, w_chain, w_qCh, w_qCh2, w_qCh4, w_nil, w_cons, w_qCons, w_qCons2, fzL_nil, fzL_v, fzL_f, noB_nil, noB_v, noB_f, w_tup, w_lst, w_qTup, w_qLst, w_next, w_seq, w_break, w_drop, w_qDrop, w_ret, w_ifS, w_qIfS, w_set, w_qSet, asg_v, asg_f, asg_b, w_par, w_qPar, w_parT, w_qParT, asgs_c, asgs_n, w_asg, w_qAsg, w_hName, w_hCons, w_qH, hNil_n, hTup_t, w_be, w_qRt, w_qNx, w_qEx, w_nowh, ret_v, ret_f, ret_ft, ret_b, retB_l, retB_lt, mg_l, mg_v, mg_n, mgOk_l, mgOk_v, mgOk_n, w_call, w_qCall, w_qWb, w_qWe, argE_v, argE_f, argE_b, lOnly_l, bis_n, bis_b, bis_v, bis_f, wb_b, wb_v, wb_f, wb_n, dat_v, dat_f, dat_b, datS_l, ls_l, ts_t, seq_l, seq_t, w_ixL, w_ixT, w_ixS, at_0, at_1, at_2, at_3, own_l, up_0, up_1, w_setIx, w_qSx_v, w_qSx_f, w_qSx2, w_qSx3, w_app_v, w_app_f, w_qApp, w_popAt, w_pop, w_bm', w_qBm, w_qBm2, w_bm0, w_qBm0, ty_s, ty_l, w_some, w_qSome, w_no, w_slc, w_qSlc, w_qSl2, w_qSl3, w_sL, w_qCut, sS_v, sT_v, w_cb, w_qCB, w_len, len_l, len_t, len_s, w_tupOf, w_listOf, w_qTo, w_qLo, w_all, w_isi, w_qIsi, w_sort, w_count, w_frz, frz_l, frz_v, w_join, w_dix, w_qDix, w_int, oIsB_v, oNotB_v, w_diS, w_diT, w_diL, w_qIS, w_qIT, w_qIL, w_qILd, w_diR1, w_diR2, w_qR1, w_qR2, w_for, w_qTurn, w_lessI, w_qWhile, w_lc, w_lcT2_v, w_lcT, dNever, dYes, oI0_v, oI_v, oEq_v, oNe_v, scD_ii, scD_ss, scD_bb, scD_nn, scD_ns, scD_sn, eqF_ii, eqF_ss, eqF_bb, eqF_nn, eqF_ns, eqF_sn, oAddS_v, oMulS_v, oInC_v, oIn_v, oCatT_v, oIsN_v, oNotN_v, DL.isNon, cMax2_v, cMin2_v, isStr, isInt, isBl, isTup, isLst, apart, flat, stR, dLstRg1_eq, dLstRg2_eq, oEqD, oNeD, List.cons_append, List.nil_append, List.map_cons, List.map_nil, List.getElem?_cons_zero, List.getElem?_cons_succ, List.set_cons_zero, List.set_cons_succ, List.length_cons, List.length_nil, List.nodup_cons, List.nodup_nil, List.mem_singleton, List.not_mem_nil, rst, wipeD, or_false, false_or, or_self, reduceCtorEq, Nat.reduceEqDiff, Nat.reduceAdd, Nat.reduceLeDiff, Nat.zero_le, Nat.succ_ne_self, Option.getD_some, Option.some.injEq, exists_eq_left', true_and, and_true, and_self, true_implies, implies_true, not_false_eq_true, not_true_eq_false, decide_eq_true_eq, if_true, if_false, ↓reduceIte, Bool.false_eq_true, Bool.not_true, Bool.not_false, decide_true, decide_false, Bool.true_eq_false, eq_self, w_raise, w_try, w_qTry, ew0, ew1, ew2, ew3, ew4, ew5, ew6, ew7, ew8, ew9, ew10, ew11, ew12, w_enS, w_qEnX, w_listS, w_sindex, oRepT_v, w_oCat, oCat2_s, w_oRep, oRep2_s, own_f, own_b, ownLs_l, w_cix, w_qCix, w_end, w_qEnd, g1_v, g1s_v, g2_v, gM_v, isObR_v, w_consO, w_qConsO, w_qConsO2, w_post, w_qPost, isLenR_v, isBlR_v, w_fld, w_qFld0, w_qFld1, w_qFld2, isOb, w_obNew, w_qObNew, w_bool, w_obEqS, w_qObEqS, w_orT, w_qOrT0, w_qOrT1, S_Lsource_eq, S_Lrow_eq, S_Lkind_eq, S_Lstate_eq, S_Leffect_eq, S_Loutcome_eq, S_Lbehind_eq, S_Lpick_eq, S_Lmirrored_eq, S_Lother_eq, S_Lrefused_eq, S_Presses___len___eq, S_Presses___bool___eq, S_Presses___getitem___eq, S_Presses___eq___eq, S_Presses___neg___eq, S_Presses___mul___eq, prD])
theorem fn_law {f : Addr} {fd : FuncData} (F : Fun K "law" "law" st_law f fd) (B : Bi mgl) (C_Lsource : Cal P WW.w K mgl base 1 2 "_law_source" S_Lsource) (C_Lrow : Cal P WW.w K mgl base 2 3 "_law_row" S_Lrow) (C_Lkind : Cal P WW.w K mgl base 2 1 "_law_kind" S_Lkind) (C_Lstate : Cal P WW.w K mgl base 3 3 "_law_state" S_Lstate) (C_Leffect : Cal P WW.w K mgl base 1 2 "_law_effect" S_Leffect) (C_Loutcome : Cal P WW.w K mgl base 8 3 "_law_outcome" S_Loutcome) (C_Lbehind : Cal P WW.w K mgl base 2 3 "_law_behind" S_Lbehind) (C_Lpick : Cal P WW.w K mgl base 1 2 "_law_pick" S_Lpick) (C_Lmirrored : Cal P WW.w K mgl base 1 1 "_law_mirrored" S_Lmirrored) (C_Lother : Cal P WW.w K mgl base 1 1 "_law_other" S_Lother) (C_Lrefused : Cal P WW.w K mgl base 9 2 "_law_refused" S_Lrefused)  (O_len : OCal P WW.w K mgl base 1 1 "__len__" S_Presses___len__) (O_bool : OCal P WW.w K mgl base 1 1 "__bool__" S_Presses___bool__) (O_getitem : OCal P WW.w K mgl base 2 2 "__getitem__" S_Presses___getitem__) (O_eq : OCal P WW.w K mgl base 1 2 "__eq__" S_Presses___eq__) (O_neg : OCal P WW.w K mgl base 5 1 "__neg__" S_Presses___neg__) (O_mul : OCal P WW.w K mgl base 5 2 "__mul__" S_Presses___mul__) (Op_effect : OPr P WW.w K mgl base "effect" "pair") (Op_row : OPr P WW.w K mgl base "row" "commands") (Op_kind : OPr P WW.w K mgl base "kind" "own") (On : ObNew P WW.w K mgl base newPre newOut) (Oq : EqS P WW.w K mgl base) : FnOk P WW.w K mgl base (L2N.CX P WW.w) 10 f fd ["_law_script"] (toSp K 1 S_law) := by
  refine fnd' F sc_law rfl false [.no, .no, .no, .no, .no, .no, .no, .no, .no, .no, .no, .no] rfl (fun cdv A outer s H E hr tk => (dss_cons (ds_for (passes_of rfl) rfl (di_range1 B.range (da_cons (de_cb (call_max2 rfl) cd_max2 B.max (by decide +kernel) (da_cons de_int (da_cons (de_cb (call_min2 rfl) cd_min2 B.min (by decide +kernel) (da_cons de_int (da_cons (de_cb call_len cd_len B.len PySem.boot_len (da_cons (de_var 0) da_nil)) da_nil))) da_nil))) da_nil)) (dg_name 1 sc_law.nd rfl (by first | exact Or.inl rfl | exact Or.inr rfl))
    (dss_cons (ds_set 2 sc_law.nd rfl (by first | exact Or.inl rfl | exact Or.inr rfl) (de_cal C_Lsource tk (hr.mono (by decide)) (da_cons (de_var 0) (da_cons (de_var 1) da_nil))))
    (dss_cons (ds_par3 3 4 5 rfl sc_law.nd rfl rfl rfl (by decide) (by decide) (by decide) rfl rfl rfl (da_cons (de_cal C_Lkind tk (hr.mono (by decide)) (da_cons (de_var 2) da_nil)) (da_cons (de_cal C_Lrow tk (hr.mono (by decide)) (da_cons (de_var 2) (da_cons de_int (da_cons de_int da_nil)))) (da_cons (de_cal C_Lrow tk (hr.mono (by decide)) (da_cons (de_var 2) (da_cons de_int (da_cons de_int da_nil)))) da_nil))))
    (dss_cons (ds_parT rfl (ng_cons (i := 6) sc_law.nd rfl (ng_cons (i := 7) sc_law.nd rfl (ng_cons (i := 8) sc_law.nd rfl ng_nil))) (da_cons (de_obNew On tk (hr.mono (by decide)) (da_cons (de_var 3) (da_cons (de_var 4) da_nil))) (da_cons (de_obNew On tk (hr.mono (by decide)) (da_cons (de_var 3) (da_cons (de_var 5) da_nil))) (da_cons (de_cal C_Lstate tk (hr.mono (by decide)) (da_cons (de_var 2) (da_cons de_int (da_cons de_int da_nil)))) da_nil))))
    (dss_cons (ds_set 9 sc_law.nd rfl (by first | exact Or.inl rfl | exact Or.inr rfl) (de_cal C_Leffect tk (hr.mono (by decide)) (da_cons (de_var 3) (da_cons (de_var 4) da_nil))))
    (dss_cons (ds_if (dt_cmp (op_neD hr.units) od_neD (de_lst (da_cons (de_obProp (i := 0) rfl Op_kind (hr.mono (by decide)) (fun E hE => noPassP _ E hE) (de_var 6)) (da_cons (de_obProp (i := 1) rfl Op_row (hr.mono (by decide)) (fun E hE => noPassP _ E hE) (de_var 6)) (da_cons (de_obProp (i := 2) rfl Op_effect (hr.mono (by decide)) (fun E hE => noPassP _ E hE) (de_var 6)) (da_cons (de_obLen O_len tk (hr.mono (by decide)) B.len (de_var 6)) da_nil))))) (de_lst (da_cons (de_var 3) (da_cons (de_var 4) (da_cons (de_var 9) (da_cons (de_cb call_len cd_len B.len PySem.boot_len (da_cons (de_var 4) da_nil)) da_nil)))))) (dss_one (ds_ret de_bl)) dss_nil)
    (dss_cons (ds_if (dt_cmp op_ne od_ne (de_obBool O_bool tk (hr.mono (by decide)) B.bool (de_var 6)) (de_cmp (op_neD hr.units) od_neD (de_var 9) (de_tup (da_cons (de_tup da_nil) (da_cons de_int da_nil))))) (dss_one (ds_ret de_bl)) dss_nil)
    (dss_cons (ds_if (dt_w (dw_or (dt_cmp (op_neD hr.units) od_neD (de_lc (own := [("_law_at", 12)]) (nt := .one 12) rfl sc_law.nd (di_range1 B.range (da_cons (de_cb call_len cd_len B.len PySem.boot_len (da_cons (de_var 4) da_nil)) da_nil)) (blkOk_by (own := [("_law_at", 12)]) (N := nm_law) (sc := defScope (st_law)) (by decide +kernel)) (by decide) (fun _ _ _ _ _ => (pg_name (i := 12) sc_law.nd rfl (by first | exact Or.inl rfl | exact Or.inr rfl))) (fun _ _ _ _ _ => dts_nil) (fun _ _ _ _ _ => (de_obGet O_getitem takes0N (hr.mono (by decide)) (de_var 6) (de_var 12)))) (de_ct (HX.call_listS rfl) cd_listS B.list (by decide +kernel) (da_cons (de_var 4) da_nil))) (dw_or1 (dt_obEqS Oq (hr.mono (by decide)) (de_var 6) (de_var 4))))) (dss_one (ds_ret de_bl)) dss_nil)
    (dss_cons (ds_if (dt_cmp (op_neD hr.units) od_neD (de_cal C_Loutcome tk (hr.mono (by decide)) (da_cons de_int (da_cons (de_var 6) (da_cons (de_var 8) da_nil)))) (de_orT (de_cal C_Lbehind tk (hr.mono (by decide)) (da_cons (de_var 3) (da_cons (de_var 8) (da_cons (de_var 4) da_nil)))) (de_one (de_str [110, 111, 116])))) (dss_one (ds_ret de_bl)) dss_nil)
    (dss_cons (ds_if (dt_cmp (op_neD hr.units) od_neD (de_cal C_Loutcome tk (hr.mono (by decide)) (da_cons de_int (da_cons (de_var 6) (da_cons (de_var 7) da_nil)))) (de_if (dt_cmp op_lt (od_I0 (g := fun i j => .bl (decide (i < j)))) (de_cb call_len cd_len B.len PySem.boot_len (da_cons (de_op op_add_str od_addS (de_var 4) (de_var 5)) da_nil)) de_int) (de_op op_add_str od_addS (de_var 4) (de_var 5)) (de_str [114, 111, 119]))) (dss_one (ds_ret de_bl)) dss_nil)
    (dss_cons (ds_set 10 sc_law.nd rfl (by first | exact Or.inl rfl | exact Or.inr rfl) (de_cal C_Lpick tk (hr.mono (by decide)) (da_cons (de_var 2) (da_cons de_int da_nil))))
    (dss_cons (ds_if (dt_cmp (op_neD hr.units) od_neD (de_cal C_Loutcome tk (hr.mono (by decide)) (da_cons de_int (da_cons (de_var 6) (da_cons (de_var 10) da_nil)))) (de_if (dt_cmp op_lt (od_I0 (g := fun i j => .bl (decide (i < j)))) (de_op op_mul (od_I (C := CMul) (g := fun i j => .int (i * j))) (de_cb call_len cd_len B.len PySem.boot_len (da_cons (de_var 4) da_nil)) (de_var 10)) de_int) (de_op op_mulS od_mulS (de_var 4) (de_var 10)) (de_str [114, 111, 119]))) (dss_one (ds_ret de_bl)) dss_nil)
    (dss_cons (ds_if (dt_cmp op_ne od_ne (de_obEq O_eq tk (hr.mono (by decide)) (de_var 6) (de_var 7)) (de_cmp (op_eqD hr.units) od_eqD (de_var 9) (de_cal C_Leffect tk (hr.mono (by decide)) (da_cons (de_var 3) (da_cons (de_var 5) da_nil))))) (dss_one (ds_ret de_bl)) dss_nil)
    (dss_cons (ds_if (dt_not (dt_obEq O_eq tk (hr.mono (by decide)) (de_var 6) (de_obNew On tk (hr.mono (by decide)) (da_cons (de_var 3) (da_cons (de_op op_add_str od_addS (de_op op_add_str od_addS (de_slice sl_str sd_S (de_var 4) do_no (do_some de_int)) (de_str [110, 112])) (de_slice sl_str sd_S (de_var 4) (do_some de_int) do_no)) da_nil))))) (dss_one (ds_ret de_bl)) dss_nil)
    (dss_cons (ds_set 11 sc_law.nd rfl (by first | exact Or.inl rfl | exact Or.inr rfl) (de_obNeg O_neg tk (hr.mono (by decide)) (de_var 6)))
    (dss_cons (ds_if (dt_w (dw_or (dt_cmp (op_neD hr.units) od_neD (de_lst (da_cons (de_obProp (i := 0) rfl Op_kind (hr.mono (by decide)) (fun E hE => noPassP _ E hE) (de_var 11)) (da_cons (de_obProp (i := 1) rfl Op_row (hr.mono (by decide)) (fun E hE => noPassP _ E hE) (de_var 11)) da_nil))) (de_lst (da_cons (de_cal C_Lother tk (hr.mono (by decide)) (da_cons (de_var 3) da_nil)) (da_cons (de_cal C_Lmirrored tk (hr.mono (by decide)) (da_cons (de_var 4) da_nil)) da_nil)))) (dw_or1 (dt_not (dt_obEq O_eq tk (hr.mono (by decide)) (de_obNeg O_neg tk (hr.mono (by decide)) (de_var 11)) (de_var 6)))))) (dss_one (ds_ret de_bl)) dss_nil)
    (dss_one (ds_if (dt_not (dt_val (de_cal C_Lrefused tk (hr.mono (by decide)) (da_cons (de_var 6) (da_cons (de_var 8) da_nil))))) (dss_one (ds_ret de_bl)) dss_nil))))))))))))))))))
    (dss_cons (ds_if (dt_w (dw_or (dt_cmp op_ne od_ne (de_obLen O_len tk (hr.mono (by decide)) B.len (de_obMul O_mul tk (hr.mono (by decide)) (de_obNew On tk (hr.mono (by decide)) (da_cons (de_str [114, 105, 103, 104, 116]) (da_cons (de_op op_mulS od_mulS (de_str [99]) de_int) da_nil))) de_int)) de_int) (dw_or1 (dt_val (de_obBool O_bool tk (hr.mono (by decide)) B.bool (de_obNew On tk (hr.mono (by decide)) (da_cons (de_str [108, 101, 102, 116]) (da_cons (de_str [110, 112]) da_nil)))))))) (dss_one (ds_ret de_bl)) dss_nil)
    (dss_one (ds_ret (de_and (de_obEq O_eq tk (hr.mono (by decide)) (de_obNew On tk (hr.mono (by decide)) (da_cons (de_str [114, 105, 103, 104, 116]) (da_cons (de_str [99, 112, 99]) da_nil))) (de_obNew On tk (hr.mono (by decide)) (da_cons (de_str [114, 105, 103, 104, 116]) (da_cons (de_str [112, 99, 99]) da_nil)))) (de_one (de_cmp (op_eqD hr.units) od_eqD (de_obProp (i := 2) rfl Op_effect (hr.mono (by decide)) (fun E hE => noPassP _ E hE) (de_obNeg O_neg tk (hr.mono (by decide)) (de_obNew On tk (hr.mono (by decide)) (da_cons (de_str [114, 105, 103, 104, 116]) (da_cons (de_str [99, 112, 99]) da_nil))))) (de_tup (da_cons (de_tup (da_cons de_int (da_cons de_int da_nil))) (da_cons (de_neg de_int) da_nil))))))))))) ?_
  intro ρ Q E h _
  match ρ, h with
  | [.v (.lst ds)], h =>
    have h : ∃ ns : List Int, ds = ns.map D.int ∧ ns.length ≤ 63 ∧ Q (.v (.bl true)) [.v (.lst ds)] := h
    obtain ⟨ns, rfl, hl, k⟩ := h
    walk_at "law"
    refine ⟨by omega, for_i (fun i ρ' => ∃ s1 s2 s3 s4 s5 s6 s7 s8 s9 s10 s11, ρ' = [.v (.lst (ns.map D.int)), s1, s2, s3, s4, s5, s6, s7, s8, s9, s10, s11, .no]) ⟨_, _, _, _, _, _, _, _, _, _, _, rfl⟩ ?_ ?_⟩
    · rintro i d ρ' hd ⟨s1, s2, s3, s4, s5, s6, s7, s8, s9, s10, s11, rfl⟩
      obtain ⟨hi, rfl⟩ := rgD_get.mp hd
      refine ⟨trivial, ?_⟩
      walk_at "law"
      refine ⟨ns, rfl, by omega, by omega, fun a x y z hz => ?_⟩
      refine ⟨hz, fun kd x1 y1 hk => ⟨hz, by omega, by omega, by omega, fun r x2 y2 hr lr _ => ⟨hz, by omega, by omega, by omega, fun r2 x3 y3 hr2 lr2 _ => ?_⟩⟩⟩
      have b1 := rowB_of hr (by omega)
      have b2 := rowB_of hr2 (by omega)
      refine new_ok hk b1 ?_
      walk_at "law"
      refine new_ok hk b2 ?_
      walk_at "law"
      refine ⟨hz, by omega, by omega, by omega, fun t p x4 y4 tn tc t1 t12 tp => ⟨hk, hr, by omega, by omega, ⟨by omega, by omega⟩, fun a1 => ⟨by omega, fun a2 => ⟨gd_4 hk hr, gd_4 hk hr, ?_⟩⟩⟩⟩
      rw [if_neg (by simp [eqv, eqvs, eqv_eff2])]
      rw [effD_nil (decide (kd = kRight)), eqv_eff2, eff_nil]
      refine ⟨gd_eff, gd_eff, ?_⟩
      rw [if_neg (by simp)]
      refine ⟨by omega, by omega, ?_⟩
      refine lc_i (chG r) (noLs_of rfl) (by simp [rgD]; omega) trivial (fun i d e => ?_) fun a3 => ?_
      · obtain ⟨hi, rfl⟩ := rgD_get.mp e
        have hi : i < r.length := by omega
        obtain ⟨c, hc⟩ : ∃ c, r[i]? = some c := ⟨_, List.getElem?_eq_getElem hi⟩
        have hg : chG r (.int (0 + (i : Nat))) = some (.str [c]) := by
          show (r[((0 : Int) + (i : Nat)).toNat]?).map _ = _
          rw [show ((0 : Int) + (i : Nat)).toNat = i by omega, hc]
          rfl
        rw [hg]
        refine ⟨_, rfl, ?_⟩
        simp only [wipeD, rst]
        walk_at "law"
        exact ⟨by omega, .inr ⟨i, c, by rw [Int.zero_add], hc, rfl⟩⟩
      rw [rg_chs]
      have tl : t.length ≤ 12 := by omega
      have hs : StOk (t, p) := ⟨tn, tp, by show t.length ≤ 1000; omega, fun c hc => by have := tc c hc; omega⟩
      have hB : tabsB t = true := tabsB_of (by omega) tl tc tn
      have hst : stateD (stD t p) = true := stateD_of hB tp
      walk_at "law"
      refine ⟨by omega, fun a4 => ⟨gd_chsr hr, gd_chsr hr, ?_⟩⟩
      rw [if_neg (by rw [eqv_chsr]; decide)]
      refine ⟨0, rfl, .inl ⟨by decide, kd, r, rfl, hk, b1, hr, ok0 (s := (t, p)) hs hst ⟨(t, p), rfl, hs, hr, by omega, ?_⟩⟩⟩
      rw [or0]
      walk_at "law"
      refine ⟨gd_out hs, gd_out hs, ?_⟩
      rw [if_neg (by rw [eqv_out]; decide)]
      by_cases h41 : r.length + r2.length ≤ 40
      · refine ⟨2, rfl, .inl ⟨by decide, kd, r, rfl, hk, b1, hr, kd, r2, rfl, b2, hr2, .inr (.inr ⟨rfl, h41, ?_⟩)⟩⟩
        have l12 : (r ++ r2).length = r.length + r2.length := List.length_append
        dsimp only
        rw [if_pos (by omega)]
        refine ⟨by omega, by omega, by omega, gd_row (hr.app hr2), gd_row (hr.app hr2), ?_⟩
        rw [if_neg (by simp [eqv])]
        refine ⟨hz, by omega, fun q x5 y5 q0 q1 => ?_⟩
        obtain ⟨n, rfl⟩ : ∃ n : Nat, q = (n : Int) := ⟨q.toNat, by omega⟩
        have em : ((r.length : Nat) : Int) * (n : Nat) = ((r.length * n : Nat) : Int) := by rw [Int.natCast_mul]
        have en : ((n : Nat) : Int).toNat = n := by omega
        obtain ⟨p1, p2⟩ := row_rep hr n
        rw [en, em]
        by_cases hm : r.length * n ≤ 40
        · refine ⟨3, rfl, .inl ⟨by decide, kd, r, rfl, hk, b1, hr, .inr ⟨n, rfl, by omega, .inr ⟨hm, ?_⟩⟩⟩⟩
          dsimp only
          rw [if_pos (by omega)]
          refine ⟨by omega, mul_r (by omega) (by omega), by omega, by omega, by omega, gd_row p1, gd_row p1, ?_⟩
          rw [if_neg (by simp [eqv])]
          obtain ⟨c1, c2⟩ := cut10 r
          have ct : (r.take 10).length ≤ r.length := by rw [List.length_take]; omega
          have cd : (r.drop 10).length ≤ r.length := by rw [List.length_drop]; omega
          have cc : (r.take 10).length + (r.drop 10).length = r.length := by rw [← List.length_append, List.take_append_drop]
          rw [c1, c2]
          refine ⟨hk, hk, hk, hr2, by omega, gd_eff, gd_eff, ?_⟩
          rw [if_neg (by rw [eqv_eff2]; simp)]
          have rnp : Row (r.take 10 ++ [110, 112] ++ r.drop 10) := ((hr.take _).app (by simp [Row])).app (hr.drop _)
          have lnp : (r.take 10 ++ [110, 112] ++ r.drop 10).length = r.length + 2 := by simp only [List.length_append, List.length_cons, List.length_nil]; omega
          refine ⟨by omega, by omega, by omega, by simp only [List.length_append, List.length_cons, List.length_nil]; omega, new_ok hk (rowB_of rnp (by omega)) ?_⟩
          walk_at "law"
          obtain ⟨nk, hk2, kk, _⟩ := othK_ne hk
          obtain ⟨R2, ss⟩ := row_sw2 hr
          have bsw : rowB (r.map MA.sw) = true := rowB_of R2 (by rw [List.length_map]; omega)
          have g2 : gd (.lst [.str (othK kd), .str (r.map MA.sw)]) := gd_l2 hk2 R2
          refine ⟨hk, hk, ?_⟩
          rw [if_neg (by rw [eff_np (by omega)]; simp)]
          refine ⟨hk, b1, hr, fun a5 => ⟨hr, by omega, fun a6 => ⟨g2, g2, ?_⟩⟩⟩
          rw [if_neg (by show ¬ (!eqv (D.lst [D.str (othK kd), D.str (r.map MA.sw)]) (D.lst [D.str (othK kd), D.str (r.map MA.sw)])) = true; simp [eqv, eqvs])]
          refine ⟨hk2, bsw, R2, by rw [kk]; exact hk, hk, ?_⟩
          rw [if_neg (by rw [kk, ss]; simp)]
          exact ⟨t, p, rfl, hB, tp, hk, b1, hr, _, _, _, _, _, _, _, _, _, _, _, rfl⟩
        · refine ⟨3, rfl, .inl ⟨by decide, kd, r, rfl, hk, b1, hr, .inr ⟨n, rfl, by omega, .inl ⟨by omega, ?_⟩⟩⟩⟩
          dsimp only
          rw [if_neg (by omega)]
          refine ⟨by omega, mul_r (by omega) (by omega), ⟨by decide, by decide⟩, ⟨by decide, by decide⟩, ?_⟩
          rw [if_neg (by decide)]
          obtain ⟨c1, c2⟩ := cut10 r
          have ct : (r.take 10).length ≤ r.length := by rw [List.length_take]; omega
          have cd : (r.drop 10).length ≤ r.length := by rw [List.length_drop]; omega
          have cc : (r.take 10).length + (r.drop 10).length = r.length := by rw [← List.length_append, List.take_append_drop]
          rw [c1, c2]
          refine ⟨hk, hk, hk, hr2, by omega, gd_eff, gd_eff, ?_⟩
          rw [if_neg (by rw [eqv_eff2]; simp)]
          have rnp : Row (r.take 10 ++ [110, 112] ++ r.drop 10) := ((hr.take _).app (by simp [Row])).app (hr.drop _)
          have lnp : (r.take 10 ++ [110, 112] ++ r.drop 10).length = r.length + 2 := by simp only [List.length_append, List.length_cons, List.length_nil]; omega
          refine ⟨by omega, by omega, by omega, by simp only [List.length_append, List.length_cons, List.length_nil]; omega, new_ok hk (rowB_of rnp (by omega)) ?_⟩
          walk_at "law"
          obtain ⟨nk, hk2, kk, _⟩ := othK_ne hk
          obtain ⟨R2, ss⟩ := row_sw2 hr
          have bsw : rowB (r.map MA.sw) = true := rowB_of R2 (by rw [List.length_map]; omega)
          have g2 : gd (.lst [.str (othK kd), .str (r.map MA.sw)]) := gd_l2 hk2 R2
          refine ⟨hk, hk, ?_⟩
          rw [if_neg (by rw [eff_np (by omega)]; simp)]
          refine ⟨hk, b1, hr, fun a5 => ⟨hr, by omega, fun a6 => ⟨g2, g2, ?_⟩⟩⟩
          rw [if_neg (by show ¬ (!eqv (D.lst [D.str (othK kd), D.str (r.map MA.sw)]) (D.lst [D.str (othK kd), D.str (r.map MA.sw)])) = true; simp [eqv, eqvs])]
          refine ⟨hk2, bsw, R2, by rw [kk]; exact hk, hk, ?_⟩
          rw [if_neg (by rw [kk, ss]; simp)]
          exact ⟨t, p, rfl, hB, tp, hk, b1, hr, _, _, _, _, _, _, _, _, _, _, _, rfl⟩
      · refine ⟨2, rfl, .inl ⟨by decide, kd, r, rfl, hk, b1, hr, kd, r2, rfl, b2, hr2, .inr (.inl ⟨rfl, by omega, ?_⟩)⟩⟩
        have l12 : (r ++ r2).length = r.length + r2.length := List.length_append
        dsimp only
        rw [if_neg (by omega)]
        refine ⟨by omega, by omega, ⟨by decide, by decide⟩, ⟨by decide, by decide⟩, ?_⟩
        rw [if_neg (by decide)]
        refine ⟨hz, by omega, fun q x5 y5 q0 q1 => ?_⟩
        obtain ⟨n, rfl⟩ : ∃ n : Nat, q = (n : Int) := ⟨q.toNat, by omega⟩
        have em : ((r.length : Nat) : Int) * (n : Nat) = ((r.length * n : Nat) : Int) := by rw [Int.natCast_mul]
        have en : ((n : Nat) : Int).toNat = n := by omega
        obtain ⟨p1, p2⟩ := row_rep hr n
        rw [en, em]
        by_cases hm : r.length * n ≤ 40
        · refine ⟨3, rfl, .inl ⟨by decide, kd, r, rfl, hk, b1, hr, .inr ⟨n, rfl, by omega, .inr ⟨hm, ?_⟩⟩⟩⟩
          dsimp only
          rw [if_pos (by omega)]
          refine ⟨by omega, mul_r (by omega) (by omega), by omega, by omega, by omega, gd_row p1, gd_row p1, ?_⟩
          rw [if_neg (by simp [eqv])]
          obtain ⟨c1, c2⟩ := cut10 r
          have ct : (r.take 10).length ≤ r.length := by rw [List.length_take]; omega
          have cd : (r.drop 10).length ≤ r.length := by rw [List.length_drop]; omega
          have cc : (r.take 10).length + (r.drop 10).length = r.length := by rw [← List.length_append, List.take_append_drop]
          rw [c1, c2]
          refine ⟨hk, hk, hk, hr2, by omega, gd_eff, gd_eff, ?_⟩
          rw [if_neg (by rw [eqv_eff2]; simp)]
          have rnp : Row (r.take 10 ++ [110, 112] ++ r.drop 10) := ((hr.take _).app (by simp [Row])).app (hr.drop _)
          have lnp : (r.take 10 ++ [110, 112] ++ r.drop 10).length = r.length + 2 := by simp only [List.length_append, List.length_cons, List.length_nil]; omega
          refine ⟨by omega, by omega, by omega, by simp only [List.length_append, List.length_cons, List.length_nil]; omega, new_ok hk (rowB_of rnp (by omega)) ?_⟩
          walk_at "law"
          obtain ⟨nk, hk2, kk, _⟩ := othK_ne hk
          obtain ⟨R2, ss⟩ := row_sw2 hr
          have bsw : rowB (r.map MA.sw) = true := rowB_of R2 (by rw [List.length_map]; omega)
          have g2 : gd (.lst [.str (othK kd), .str (r.map MA.sw)]) := gd_l2 hk2 R2
          refine ⟨hk, hk, ?_⟩
          rw [if_neg (by rw [eff_np (by omega)]; simp)]
          refine ⟨hk, b1, hr, fun a5 => ⟨hr, by omega, fun a6 => ⟨g2, g2, ?_⟩⟩⟩
          rw [if_neg (by show ¬ (!eqv (D.lst [D.str (othK kd), D.str (r.map MA.sw)]) (D.lst [D.str (othK kd), D.str (r.map MA.sw)])) = true; simp [eqv, eqvs])]
          refine ⟨hk2, bsw, R2, by rw [kk]; exact hk, hk, ?_⟩
          rw [if_neg (by rw [kk, ss]; simp)]
          exact ⟨t, p, rfl, hB, tp, hk, b1, hr, _, _, _, _, _, _, _, _, _, _, _, rfl⟩
        · refine ⟨3, rfl, .inl ⟨by decide, kd, r, rfl, hk, b1, hr, .inr ⟨n, rfl, by omega, .inl ⟨by omega, ?_⟩⟩⟩⟩
          dsimp only
          rw [if_neg (by omega)]
          refine ⟨by omega, mul_r (by omega) (by omega), ⟨by decide, by decide⟩, ⟨by decide, by decide⟩, ?_⟩
          rw [if_neg (by decide)]
          obtain ⟨c1, c2⟩ := cut10 r
          have ct : (r.take 10).length ≤ r.length := by rw [List.length_take]; omega
          have cd : (r.drop 10).length ≤ r.length := by rw [List.length_drop]; omega
          have cc : (r.take 10).length + (r.drop 10).length = r.length := by rw [← List.length_append, List.take_append_drop]
          rw [c1, c2]
          refine ⟨hk, hk, hk, hr2, by omega, gd_eff, gd_eff, ?_⟩
          rw [if_neg (by rw [eqv_eff2]; simp)]
          have rnp : Row (r.take 10 ++ [110, 112] ++ r.drop 10) := ((hr.take _).app (by simp [Row])).app (hr.drop _)
          have lnp : (r.take 10 ++ [110, 112] ++ r.drop 10).length = r.length + 2 := by simp only [List.length_append, List.length_cons, List.length_nil]; omega
          refine ⟨by omega, by omega, by omega, by simp only [List.length_append, List.length_cons, List.length_nil]; omega, new_ok hk (rowB_of rnp (by omega)) ?_⟩
          walk_at "law"
          obtain ⟨nk, hk2, kk, _⟩ := othK_ne hk
          obtain ⟨R2, ss⟩ := row_sw2 hr
          have bsw : rowB (r.map MA.sw) = true := rowB_of R2 (by rw [List.length_map]; omega)
          have g2 : gd (.lst [.str (othK kd), .str (r.map MA.sw)]) := gd_l2 hk2 R2
          refine ⟨hk, hk, ?_⟩
          rw [if_neg (by rw [eff_np (by omega)]; simp)]
          refine ⟨hk, b1, hr, fun a5 => ⟨hr, by omega, fun a6 => ⟨g2, g2, ?_⟩⟩⟩
          rw [if_neg (by show ¬ (!eqv (D.lst [D.str (othK kd), D.str (r.map MA.sw)]) (D.lst [D.str (othK kd), D.str (r.map MA.sw)])) = true; simp [eqv, eqvs])]
          refine ⟨hk2, bsw, R2, by rw [kk]; exact hk, hk, ?_⟩
          rw [if_neg (by rw [kk, ss]; simp)]
          exact ⟨t, p, rfl, hB, tp, hk, b1, hr, _, _, _, _, _, _, _, _, _, _, _, rfl⟩
    · rintro ρ' ⟨s1, s2, s3, s4, s5, s6, s7, s8, s9, s10, s11, rfl⟩
      refine ⟨trivial, ?_⟩
      walk_at "law"
      refine ⟨by decide, by decide, by decide, new_ok (by decide) (by decide) ?_⟩
      walk_at "law"
      refine ⟨by decide, by decide, (fun c hc => by have : c = 99 := by simpa using hc
                                                    exact .inl this), .inr ⟨2, rfl, by decide, .inr ⟨by decide, by decide, by decide, ?_⟩⟩⟩
      rw [if_neg (by decide)]
      refine new_ok (by decide) (by decide) ?_
      walk_at "law"
      rw [if_neg (by decide +kernel)]
      refine new_ok (by decide) (by decide) ?_
      walk_at "law"
      refine new_ok (by decide) (by decide) ?_
      walk_at "law"
      refine ⟨by decide, by decide, ?_⟩
      rw [if_pos (by decide +kernel)]
      refine new_ok (by decide) (by decide) ?_
      walk_at "law"
      refine ⟨by decide, by decide, by simp [Row], gd_eff, ⟨by decide, by decide⟩, ?_⟩
      have hv : ∀ b : Bool, b = true → Q (.v (.bl b)) [Sl.v (D.lst (ns.map D.int))] := fun b e => by rw [e]; exact k
      exact hv _ (by decide +kernel)
theorem ok_law (hD : DefAt K mgl "law" st_law ["_law_script"]) (B : Bi mgl) (C_Lsource : Cal P WW.w K mgl base 1 2 "_law_source" S_Lsource) (C_Lrow : Cal P WW.w K mgl base 2 3 "_law_row" S_Lrow) (C_Lkind : Cal P WW.w K mgl base 2 1 "_law_kind" S_Lkind) (C_Lstate : Cal P WW.w K mgl base 3 3 "_law_state" S_Lstate) (C_Leffect : Cal P WW.w K mgl base 1 2 "_law_effect" S_Leffect) (C_Loutcome : Cal P WW.w K mgl base 8 3 "_law_outcome" S_Loutcome) (C_Lbehind : Cal P WW.w K mgl base 2 3 "_law_behind" S_Lbehind) (C_Lpick : Cal P WW.w K mgl base 1 2 "_law_pick" S_Lpick) (C_Lmirrored : Cal P WW.w K mgl base 1 1 "_law_mirrored" S_Lmirrored) (C_Lother : Cal P WW.w K mgl base 1 1 "_law_other" S_Lother) (C_Lrefused : Cal P WW.w K mgl base 9 2 "_law_refused" S_Lrefused)  (O_len : OCal P WW.w K mgl base 1 1 "__len__" S_Presses___len__) (O_bool : OCal P WW.w K mgl base 1 1 "__bool__" S_Presses___bool__) (O_getitem : OCal P WW.w K mgl base 2 2 "__getitem__" S_Presses___getitem__) (O_eq : OCal P WW.w K mgl base 1 2 "__eq__" S_Presses___eq__) (O_neg : OCal P WW.w K mgl base 5 1 "__neg__" S_Presses___neg__) (O_mul : OCal P WW.w K mgl base 5 2 "__mul__" S_Presses___mul__) (Op_effect : OPr P WW.w K mgl base "effect" "pair") (Op_row : OPr P WW.w K mgl base "row" "commands") (Op_kind : OPr P WW.w K mgl base "kind" "own") (On : ObNew P WW.w K mgl base newPre newOut) (Oq : EqS P WW.w K mgl base) : Cal P WW.w K mgl base 10 1 "law" S_law := cal_of hD fun f fd F => fn_law F B C_Lsource C_Lrow C_Lkind C_Lstate C_Leffect C_Loutcome C_Lbehind C_Lpick C_Lmirrored C_Lother C_Lrefused  O_len O_bool O_getitem O_eq O_neg O_mul Op_effect Op_row Op_kind On Oq
end
theorem all_mk {l : PySem.W.OpenLaw} [iw : WW] {K : PySem.W.Frag} {h : Heap} {mg : Str → Option Value} {fa : Addr} (X : K.In h) (G : h.Ns mainGlobals mg) (hfa : mg "law" = some (.ref fa))
    {pC fPI : Addr} {odPI anPI : Option Addr} {slPI : Array (Option Value)} {ocPI kVPI dcPI pmPI cdPI ctPI : Value} {fPkind pPkind : Addr} {rPkind : List Value} {odPkind anPkind : Option Addr} {slPkind : Array (Option Value)} {ocPkind kVPkind dcPkind pmPkind cdPkind ctPkind : Value} {fProw pProw : Addr} {rProw : List Value} {odProw anProw : Option Addr} {slProw : Array (Option Value)} {ocProw kVProw dcProw pmProw cdProw ctProw : Value} {fPeff pPeff : Addr} {rPeff : List Value} {odPeff anPeff : Option Addr} {slPeff : Array (Option Value)} {ocPeff kVPeff dcPeff pmPeff cdPeff ctPeff : Value} {f1 : Addr} {od1 an1 : Option Addr} {sl1 : Array (Option Value)} {oc1 kV1 dc1 pm1 cd1 ct1 : Value} {f2 : Addr} {od2 an2 : Option Addr} {sl2 : Array (Option Value)} {oc2 kV2 dc2 pm2 cd2 ct2 : Value} {f3 : Addr} {od3 an3 : Option Addr} {sl3 : Array (Option Value)} {oc3 kV3 dc3 pm3 cd3 ct3 : Value} {f4 : Addr} {od4 an4 : Option Addr} {sl4 : Array (Option Value)} {oc4 kV4 dc4 pm4 cd4 ct4 : Value} {f5 : Addr} {od5 an5 : Option Addr} {sl5 : Array (Option Value)} {oc5 kV5 dc5 pm5 cd5 ct5 : Value} {f6 : Addr} {od6 an6 : Option Addr} {sl6 : Array (Option Value)} {oc6 kV6 dc6 pm6 cd6 ct6 : Value} {f7 : Addr} {od7 an7 : Option Addr} {sl7 : Array (Option Value)} {oc7 kV7 dc7 pm7 cd7 ct7 : Value} {f8 : Addr} {od8 an8 : Option Addr} {sl8 : Array (Option Value)} {oc8 kV8 dc8 pm8 cd8 ct8 : Value} {f9 : Addr} {od9 an9 : Option Addr} {sl9 : Array (Option Value)} {oc9 kV9 dc9 pm9 cd9 ct9 : Value} {f10 : Addr} {od10 an10 : Option Addr} {sl10 : Array (Option Value)} {oc10 kV10 dc10 pm10 cd10 ct10 : Value} {f11 : Addr} {od11 an11 : Option Addr} {sl11 : Array (Option Value)} {oc11 kV11 dc11 pm11 cd11 ct11 : Value} {f12 : Addr} {od12 an12 : Option Addr} {sl12 : Array (Option Value)} {oc12 kV12 dc12 pm12 cd12 ct12 : Value} {f13 : Addr} {od13 an13 : Option Addr} {sl13 : Array (Option Value)} {oc13 kV13 dc13 pm13 cd13 ct13 : Value} {f14 : Addr} {od14 an14 : Option Addr} {sl14 : Array (Option Value)} {oc14 kV14 dc14 pm14 cd14 ct14 : Value} {f15 : Addr} {od15 an15 : Option Addr} {sl15 : Array (Option Value)} {oc15 kV15 dc15 pm15 cd15 ct15 : Value} {f16 : Addr} {od16 an16 : Option Addr} {sl16 : Array (Option Value)} {oc16 kV16 dc16 pm16 cd16 ct16 : Value} {f17 : Addr} {od17 an17 : Option Addr} {sl17 : Array (Option Value)} {oc17 kV17 dc17 pm17 cd17 ct17 : Value} {f18 : Addr} {od18 an18 : Option Addr} {sl18 : Array (Option Value)} {oc18 kV18 dc18 pm18 cd18 ct18 : Value} {f19 : Addr} {od19 an19 : Option Addr} {sl19 : Array (Option Value)} {oc19 kV19 dc19 pm19 cd19 ct19 : Value} {f20 : Addr} {od20 an20 : Option Addr} {sl20 : Array (Option Value)} {oc20 kV20 dc20 pm20 cd20 ct20 : Value} {f21 : Addr} {od21 an21 : Option Addr} {sl21 : Array (Option Value)} {oc21 kV21 dc21 pm21 cd21 ct21 : Value} {f22 : Addr} {od22 an22 : Option Addr} {sl22 : Array (Option Value)} {oc22 kV22 dc22 pm22 cd22 ct22 : Value} {f23 : Addr} {od23 an23 : Option Addr} {sl23 : Array (Option Value)} {oc23 kV23 dc23 pm23 cd23 ct23 : Value} {f24 : Addr} {od24 an24 : Option Addr} {sl24 : Array (Option Value)} {oc24 kV24 dc24 pm24 cd24 ct24 : Value} {f25 : Addr} {od25 an25 : Option Addr} {sl25 : Array (Option Value)} {oc25 kV25 dc25 pm25 cd25 ct25 : Value} {f26 : Addr} {od26 an26 : Option Addr} {sl26 : Array (Option Value)} {oc26 kV26 dc26 pm26 cd26 ct26 : Value} {f27 : Addr} {od27 an27 : Option Addr} {sl27 : Array (Option Value)} {oc27 kV27 dc27 pm27 cd27 ct27 : Value} {f28 : Addr} {od28 an28 : Option Addr} {sl28 : Array (Option Value)} {oc28 kV28 dc28 pm28 cd28 ct28 : Value} {f29 : Addr} {od29 an29 : Option Addr} {sl29 : Array (Option Value)} {oc29 kV29 dc29 pm29 cd29 ct29 : Value} {f30 : Addr} {od30 an30 : Option Addr} {sl30 : Array (Option Value)} {oc30 kV30 dc30 pm30 cd30 ct30 : Value} {f31 : Addr} {od31 an31 : Option Addr} {sl31 : Array (Option Value)} {oc31 kV31 dc31 pm31 cd31 ct31 : Value} {f32 : Addr} {od32 an32 : Option Addr} {sl32 : Array (Option Value)} {oc32 kV32 dc32 pm32 cd32 ct32 : Value} {f33 : Addr} {od33 an33 : Option Addr} {sl33 : Array (Option Value)} {oc33 kV33 dc33 pm33 cd33 ct33 : Value} {f34 : Addr} {od34 an34 : Option Addr} {sl34 : Array (Option Value)} {oc34 kV34 dc34 pm34 cd34 ct34 : Value} {ti1 : Tok} {ti2 : Tok} {q3 : Addr} {tt3_0 tt3_1 : Tok} {oq3 : Option Addr} {nq3 : Nat} {sq3 : Array (Option Value)} {ti4 : Tok} {ti5 : Tok} {eB : Addr} {eA0 : Addr} {eA1 : Addr} {eA2 : Addr} {eA3 : Addr} {eA4 : Addr} {eA5 : Addr} {eA6 : Addr} {eA7 : Addr} {eA8 : Addr} {eA9 : Addr} {eA10 : Addr} {eA11 : Addr} {eA12 : Addr}
    (pc0 : PySem.W.nsIn K mainGlobals "Presses" = some (some (.ref pC))) (pcI : PySem.W.findIn K (.ref pC) "__init__" = some (some (.ref fPI))) (lPI : K.lookup fPI = some ⟨ocPI, odPI, .func (PySem.W.fnOf "__init__" "Presses.__init__" (defArgs st_Pinit) (defBody st_Pinit) (defScope st_Pinit) .none kVPI dcPI pmPI anPI cdPI ctPI), slPI⟩) (cPI : PySem.W.codeIn K cdPI "Presses.__init__" = true) (kPI : PySem.W.keepIn K (.ref fPI) = true)
    (aPkind : PySem.W.findIn K (.ref pC) "kind" = some (some (.ref pPkind))) (ePkind : PySem.W.recIn K pPkind "property" = some (.ref fPkind :: rPkind)) (lPkind : K.lookup fPkind = some ⟨ocPkind, odPkind, .func (PySem.W.fnOf "kind" "Presses.kind" (defArgs st_Pkind) (defBody st_Pkind) (defScope st_Pkind) .none kVPkind dcPkind pmPkind anPkind cdPkind ctPkind), slPkind⟩) (cPkind : PySem.W.codeIn K cdPkind "Presses.kind" = true) (kPkind : PySem.W.keepIn K (.ref fPkind) = true)
    (aProw : PySem.W.findIn K (.ref pC) "row" = some (some (.ref pProw))) (eProw : PySem.W.recIn K pProw "property" = some (.ref fProw :: rProw)) (lProw : K.lookup fProw = some ⟨ocProw, odProw, .func (PySem.W.fnOf "row" "Presses.row" (defArgs st_Prow) (defBody st_Prow) (defScope st_Prow) .none kVProw dcProw pmProw anProw cdProw ctProw), slProw⟩) (cProw : PySem.W.codeIn K cdProw "Presses.row" = true) (kProw : PySem.W.keepIn K (.ref fProw) = true)
    (aPeff : PySem.W.findIn K (.ref pC) "effect" = some (some (.ref pPeff))) (ePeff : PySem.W.recIn K pPeff "property" = some (.ref fPeff :: rPeff)) (lPeff : K.lookup fPeff = some ⟨ocPeff, odPeff, .func (PySem.W.fnOf "effect" "Presses.effect" (defArgs st_Peff) (defBody st_Peff) (defScope st_Peff) .none kVPeff dcPeff pmPeff anPeff cdPeff ctPeff), slPeff⟩) (cPeff : PySem.W.codeIn K cdPeff "Presses.effect" = true) (kPeff : PySem.W.keepIn K (.ref fPeff) = true)
    (zNI : PySem.W.nsIn K mainGlobals "NotImplemented" = some none)
    (a1 : PySem.W.nsIn K mainGlobals "_law_pick" = some (some (.ref f1))) (l1 : K.lookup f1 = some ⟨oc1, od1, .func (PySem.W.fnOf "_law_pick" "_law_pick" (defArgs st_Lpick) (defBody st_Lpick) (defScope st_Lpick) .none kV1 dc1 pm1 an1 cd1 ct1), sl1⟩) (c1 : PySem.W.codeIn K cd1 "_law_pick" = true) (k1 : PySem.W.keepIn K (.ref f1) = true)
    (a2 : PySem.W.nsIn K mainGlobals "_law_source" = some (some (.ref f2))) (l2 : K.lookup f2 = some ⟨oc2, od2, .func (PySem.W.fnOf "_law_source" "_law_source" (defArgs st_Lsource) (defBody st_Lsource) (defScope st_Lsource) .none kV2 dc2 pm2 an2 cd2 ct2), sl2⟩) (c2 : PySem.W.codeIn K cd2 "_law_source" = true) (k2 : PySem.W.keepIn K (.ref f2) = true)
    (a3 : PySem.W.nsIn K mainGlobals "_law_kind" = some (some (.ref f3))) (l3 : K.lookup f3 = some ⟨oc3, od3, .func (PySem.W.fnOf "_law_kind" "_law_kind" (defArgs st_Lkind) (defBody st_Lkind) (defScope st_Lkind) .none kV3 dc3 pm3 an3 cd3 ct3), sl3⟩) (c3 : PySem.W.codeIn K cd3 "_law_kind" = true) (k3 : PySem.W.keepIn K (.ref f3) = true)
    (a4 : PySem.W.nsIn K mainGlobals "next_open" = some (some (.ref f4))) (l4 : K.lookup f4 = some ⟨oc4, od4, .func (PySem.W.fnOf "next_open" "next_open" (defArgs st_next_open) (defBody st_next_open) (defScope st_next_open) .none kV4 dc4 pm4 an4 cd4 ct4), sl4⟩) (c4 : PySem.W.codeIn K cd4 "next_open" = true) (k4 : PySem.W.keepIn K (.ref f4) = true)
    (a5 : PySem.W.nsIn K mainGlobals "effect_of" = some (some (.ref f5))) (l5 : K.lookup f5 = some ⟨oc5, od5, .func (PySem.W.fnOf "effect_of" "effect_of" (defArgs st_effect_of) (defBody st_effect_of) (defScope st_effect_of) .none kV5 dc5 pm5 an5 cd5 ct5), sl5⟩) (c5 : PySem.W.codeIn K cd5 "effect_of" = true) (k5 : PySem.W.keepIn K (.ref f5) = true)
    (a6 : PySem.W.nsIn K mainGlobals "is_row" = some (some (.ref f6))) (l6 : K.lookup f6 = some ⟨oc6, od6, .func (PySem.W.fnOf "is_row" "is_row" (defArgs st_is_row) (defBody st_is_row) (defScope st_is_row) .none kV6 dc6 pm6 an6 cd6 ct6), sl6⟩) (c6 : PySem.W.codeIn K cd6 "is_row" = true) (k6 : PySem.W.keepIn K (.ref f6) = true)
    (a7 : PySem.W.nsIn K mainGlobals "require_kind" = some (some (.ref f7))) (l7 : K.lookup f7 = some ⟨oc7, od7, .func (PySem.W.fnOf "require_kind" "require_kind" (defArgs st_require_kind) (defBody st_require_kind) (defScope st_require_kind) .none kV7 dc7 pm7 an7 cd7 ct7), sl7⟩) (c7 : PySem.W.codeIn K cd7 "require_kind" = true) (k7 : PySem.W.keepIn K (.ref f7) = true)
    (a8 : PySem.W.nsIn K mainGlobals "require_row" = some (some (.ref f8))) (l8 : K.lookup f8 = some ⟨oc8, od8, .func (PySem.W.fnOf "require_row" "require_row" (defArgs st_require_row) (defBody st_require_row) (defScope st_require_row) .none kV8 dc8 pm8 an8 cd8 ct8), sl8⟩) (c8 : PySem.W.codeIn K cd8 "require_row" = true) (k8 : PySem.W.keepIn K (.ref f8) = true)
    (a9 : PySem.W.nsIn K mainGlobals "is_integer" = some (some (.ref f9))) (l9 : K.lookup f9 = some ⟨oc9, od9, .func (PySem.W.fnOf "is_integer" "is_integer" (defArgs st_is_integer) (defBody st_is_integer) (defScope st_is_integer) .none kV9 dc9 pm9 an9 cd9 ct9), sl9⟩) (c9 : PySem.W.codeIn K cd9 "is_integer" = true) (k9 : PySem.W.keepIn K (.ref f9) = true)
    (a10 : PySem.W.nsIn K mainGlobals "_law_tabs" = some (some (.ref f10))) (l10 : K.lookup f10 = some ⟨oc10, od10, .func (PySem.W.fnOf "_law_tabs" "_law_tabs" (defArgs st_Ltabs) (defBody st_Ltabs) (defScope st_Ltabs) .none kV10 dc10 pm10 an10 cd10 ct10), sl10⟩) (c10 : PySem.W.codeIn K cd10 "_law_tabs" = true) (k10 : PySem.W.keepIn K (.ref f10) = true)
    (a11 : PySem.W.nsIn K mainGlobals "_law_state" = some (some (.ref f11))) (l11 : K.lookup f11 = some ⟨oc11, od11, .func (PySem.W.fnOf "_law_state" "_law_state" (defArgs st_Lstate) (defBody st_Lstate) (defScope st_Lstate) .none kV11 dc11 pm11 an11 cd11 ct11), sl11⟩) (c11 : PySem.W.codeIn K cd11 "_law_state" = true) (k11 : PySem.W.keepIn K (.ref f11) = true)
    (a12 : PySem.W.nsIn K mainGlobals "is_tabs" = some (some (.ref f12))) (l12 : K.lookup f12 = some ⟨oc12, od12, .func (PySem.W.fnOf "is_tabs" "is_tabs" (defArgs st_is_tabs) (defBody st_is_tabs) (defScope st_is_tabs) .none kV12 dc12 pm12 an12 cd12 ct12), sl12⟩) (c12 : PySem.W.codeIn K cd12 "is_tabs" = true) (k12 : PySem.W.keepIn K (.ref f12) = true)
    (a13 : PySem.W.nsIn K mainGlobals "is_tab_of" = some (some (.ref f13))) (l13 : K.lookup f13 = some ⟨oc13, od13, .func (PySem.W.fnOf "is_tab_of" "is_tab_of" (defArgs st_is_tab_of) (defBody st_is_tab_of) (defScope st_is_tab_of) .none kV13 dc13 pm13 an13 cd13 ct13), sl13⟩) (c13 : PySem.W.codeIn K cd13 "is_tab_of" = true) (k13 : PySem.W.keepIn K (.ref f13) = true)
    (a14 : PySem.W.nsIn K mainGlobals "step" = some (some (.ref f14))) (l14 : K.lookup f14 = some ⟨oc14, od14, .func (PySem.W.fnOf "step" "step" (defArgs st_step) (defBody st_step) (defScope st_step) .none kV14 dc14 pm14 an14 cd14 ct14), sl14⟩) (c14 : PySem.W.codeIn K cd14 "step" = true) (k14 : PySem.W.keepIn K (.ref f14) = true)
    (a15 : PySem.W.nsIn K mainGlobals "is_state" = some (some (.ref f15))) (l15 : K.lookup f15 = some ⟨oc15, od15, .func (PySem.W.fnOf "is_state" "is_state" (defArgs st_is_state) (defBody st_is_state) (defScope st_is_state) .none kV15 dc15 pm15 an15 cd15 ct15), sl15⟩) (c15 : PySem.W.codeIn K cd15 "is_state" = true) (k15 : PySem.W.keepIn K (.ref f15) = true)
    (a16 : PySem.W.nsIn K mainGlobals "state_behind" = some (some (.ref f16))) (l16 : K.lookup f16 = some ⟨oc16, od16, .func (PySem.W.fnOf "state_behind" "state_behind" (defArgs st_state_behind) (defBody st_state_behind) (defScope st_state_behind) .none kV16 dc16 pm16 an16 cd16 ct16), sl16⟩) (c16 : PySem.W.codeIn K cd16 "state_behind" = true) (k16 : PySem.W.keepIn K (.ref f16) = true)
    (a17 : PySem.W.findIn K (.ref pC) "__call__" = some (some (.ref f17)))
    (l17 : K.lookup f17 = some ⟨oc17, od17, .func (PySem.W.fnOf "__call__" "Presses.__call__" (defArgs st_Presses___call__) (defBody st_Presses___call__) (defScope st_Presses___call__) .none kV17 dc17 pm17 an17 cd17 ct17), sl17⟩) (c17 : PySem.W.codeIn K cd17 "Presses.__call__" = true) (k17 : PySem.W.keepIn K (.ref f17) = true)
    (a18 : PySem.W.findIn K (.ref pC) "__len__" = some (some (.ref f18)))
    (l18 : K.lookup f18 = some ⟨oc18, od18, .func (PySem.W.fnOf "__len__" "Presses.__len__" (defArgs st_Presses___len__) (defBody st_Presses___len__) (defScope st_Presses___len__) .none kV18 dc18 pm18 an18 cd18 ct18), sl18⟩) (c18 : PySem.W.codeIn K cd18 "Presses.__len__" = true) (k18 : PySem.W.keepIn K (.ref f18) = true)
    (a19 : PySem.W.findIn K (.ref pC) "__bool__" = some (some (.ref f19)))
    (l19 : K.lookup f19 = some ⟨oc19, od19, .func (PySem.W.fnOf "__bool__" "Presses.__bool__" (defArgs st_Presses___bool__) (defBody st_Presses___bool__) (defScope st_Presses___bool__) .none kV19 dc19 pm19 an19 cd19 ct19), sl19⟩) (c19 : PySem.W.codeIn K cd19 "Presses.__bool__" = true) (k19 : PySem.W.keepIn K (.ref f19) = true)
    (a20 : PySem.W.findIn K (.ref pC) "__getitem__" = some (some (.ref f20)))
    (l20 : K.lookup f20 = some ⟨oc20, od20, .func (PySem.W.fnOf "__getitem__" "Presses.__getitem__" (defArgs st_Presses___getitem__) (defBody st_Presses___getitem__) (defScope st_Presses___getitem__) .none kV20 dc20 pm20 an20 cd20 ct20), sl20⟩) (c20 : PySem.W.codeIn K cd20 "Presses.__getitem__" = true) (k20 : PySem.W.keepIn K (.ref f20) = true)
    (a21 : PySem.W.findIn K (.ref pC) "__eq__" = some (some (.ref f21)))
    (l21 : K.lookup f21 = some ⟨oc21, od21, .func (PySem.W.fnOf "__eq__" "Presses.__eq__" (defArgs st_Presses___eq__) (defBody st_Presses___eq__) (defScope st_Presses___eq__) .none kV21 dc21 pm21 an21 cd21 ct21), sl21⟩) (c21 : PySem.W.codeIn K cd21 "Presses.__eq__" = true) (k21 : PySem.W.keepIn K (.ref f21) = true)
    (a22 : PySem.W.findIn K (.ref pC) "__add__" = some (some (.ref f22)))
    (l22 : K.lookup f22 = some ⟨oc22, od22, .func (PySem.W.fnOf "__add__" "Presses.__add__" (defArgs st_Presses___add__) (defBody st_Presses___add__) (defScope st_Presses___add__) .none kV22 dc22 pm22 an22 cd22 ct22), sl22⟩) (c22 : PySem.W.codeIn K cd22 "Presses.__add__" = true) (k22 : PySem.W.keepIn K (.ref f22) = true)
    (a23 : PySem.W.findIn K (.ref pC) "__mul__" = some (some (.ref f23)))
    (l23 : K.lookup f23 = some ⟨oc23, od23, .func (PySem.W.fnOf "__mul__" "Presses.__mul__" (defArgs st_Presses___mul__) (defBody st_Presses___mul__) (defScope st_Presses___mul__) .none kV23 dc23 pm23 an23 cd23 ct23), sl23⟩) (c23 : PySem.W.codeIn K cd23 "Presses.__mul__" = true) (k23 : PySem.W.keepIn K (.ref f23) = true)
    (a24 : PySem.W.findIn K (.ref pC) "__neg__" = some (some (.ref f24)))
    (l24 : K.lookup f24 = some ⟨oc24, od24, .func (PySem.W.fnOf "__neg__" "Presses.__neg__" (defArgs st_Presses___neg__) (defBody st_Presses___neg__) (defScope st_Presses___neg__) .none kV24 dc24 pm24 an24 cd24 ct24), sl24⟩) (c24 : PySem.W.codeIn K cd24 "Presses.__neg__" = true) (k24 : PySem.W.keepIn K (.ref f24) = true)
    (a25 : PySem.W.nsIn K mainGlobals "_law_row" = some (some (.ref f25))) (l25 : K.lookup f25 = some ⟨oc25, od25, .func (PySem.W.fnOf "_law_row" "_law_row" (defArgs st_Lrow) (defBody st_Lrow) (defScope st_Lrow) .none kV25 dc25 pm25 an25 cd25 ct25), sl25⟩) (c25 : PySem.W.codeIn K cd25 "_law_row" = true) (k25 : PySem.W.keepIn K (.ref f25) = true)
    (a26 : PySem.W.nsIn K mainGlobals "_law_other" = some (some (.ref f26))) (l26 : K.lookup f26 = some ⟨oc26, od26, .func (PySem.W.fnOf "_law_other" "_law_other" (defArgs st_Lother) (defBody st_Lother) (defScope st_Lother) .none kV26 dc26 pm26 an26 cd26 ct26), sl26⟩) (c26 : PySem.W.codeIn K cd26 "_law_other" = true) (k26 : PySem.W.keepIn K (.ref f26) = true)
    (a27 : PySem.W.nsIn K mainGlobals "_law_mirrored" = some (some (.ref f27))) (l27 : K.lookup f27 = some ⟨oc27, od27, .func (PySem.W.fnOf "_law_mirrored" "_law_mirrored" (defArgs st_Lmirrored) (defBody st_Lmirrored) (defScope st_Lmirrored) .none kV27 dc27 pm27 an27 cd27 ct27), sl27⟩) (c27 : PySem.W.codeIn K cd27 "_law_mirrored" = true) (k27 : PySem.W.keepIn K (.ref f27) = true)
    (a28 : PySem.W.nsIn K mainGlobals "_law_step" = some (some (.ref f28))) (l28 : K.lookup f28 = some ⟨oc28, od28, .func (PySem.W.fnOf "_law_step" "_law_step" (defArgs st_Lstep) (defBody st_Lstep) (defScope st_Lstep) .none kV28 dc28 pm28 an28 cd28 ct28), sl28⟩) (c28 : PySem.W.codeIn K cd28 "_law_step" = true) (k28 : PySem.W.keepIn K (.ref f28) = true)
    (a29 : PySem.W.nsIn K mainGlobals "_law_behind" = some (some (.ref f29))) (l29 : K.lookup f29 = some ⟨oc29, od29, .func (PySem.W.fnOf "_law_behind" "_law_behind" (defArgs st_Lbehind) (defBody st_Lbehind) (defScope st_Lbehind) .none kV29 dc29 pm29 an29 cd29 ct29), sl29⟩) (c29 : PySem.W.codeIn K cd29 "_law_behind" = true) (k29 : PySem.W.keepIn K (.ref f29) = true)
    (a30 : PySem.W.nsIn K mainGlobals "_law_effect" = some (some (.ref f30))) (l30 : K.lookup f30 = some ⟨oc30, od30, .func (PySem.W.fnOf "_law_effect" "_law_effect" (defArgs st_Leffect) (defBody st_Leffect) (defScope st_Leffect) .none kV30 dc30 pm30 an30 cd30 ct30), sl30⟩) (c30 : PySem.W.codeIn K cd30 "_law_effect" = true) (k30 : PySem.W.keepIn K (.ref f30) = true)
    (a31 : PySem.W.nsIn K mainGlobals "_law_error_name" = some (some (.ref f31))) (l31 : K.lookup f31 = some ⟨oc31, od31, .func (PySem.W.fnOf "_law_error_name" "_law_error_name" (defArgs st_Lerror_name) (defBody st_Lerror_name) (defScope st_Lerror_name) .none kV31 dc31 pm31 an31 cd31 ct31), sl31⟩) (c31 : PySem.W.codeIn K cd31 "_law_error_name" = true) (k31 : PySem.W.keepIn K (.ref f31) = true)
    (a32 : PySem.W.nsIn K mainGlobals "_law_outcome" = some (some (.ref f32))) (l32 : K.lookup f32 = some ⟨oc32, od32, .func (PySem.W.fnOf "_law_outcome" "_law_outcome" (defArgs st_Loutcome) (defBody st_Loutcome) (defScope st_Loutcome) .none kV32 dc32 pm32 an32 cd32 ct32), sl32⟩) (c32 : PySem.W.codeIn K cd32 "_law_outcome" = true) (k32 : PySem.W.keepIn K (.ref f32) = true)
    (a33 : PySem.W.nsIn K mainGlobals "_law_refused" = some (some (.ref f33))) (l33 : K.lookup f33 = some ⟨oc33, od33, .func (PySem.W.fnOf "_law_refused" "_law_refused" (defArgs st_Lrefused) (defBody st_Lrefused) (defScope st_Lrefused) .none kV33 dc33 pm33 an33 cd33 ct33), sl33⟩) (c33 : PySem.W.codeIn K cd33 "_law_refused" = true) (k33 : PySem.W.keepIn K (.ref f33) = true)
    (a34 : PySem.W.nsIn K mainGlobals "law" = some (some (.ref f34))) (l34 : K.lookup f34 = some ⟨oc34, od34, .func (PySem.W.fnOf "law" "law" (defArgs st_law) (defBody st_law) (defScope st_law) .none kV34 dc34 pm34 an34 cd34 ct34), sl34⟩) (c34 : PySem.W.codeIn K cd34 "law" = true) (k34 : PySem.W.keepIn K (.ref f34) = true)
    (g1 : PySem.W.nsIn K mainGlobals "COMMANDS" = some (some (.str ⟨#[99, 110, 112]⟩ ti1)))
    (g2 : PySem.W.nsIn K mainGlobals "LETTERS" = some (some (.str ⟨#[97, 98, 99, 100, 101, 102, 103, 104, 105, 106, 107, 108, 109, 110, 111, 112, 113, 114, 115, 116, 117, 118, 119, 120, 121, 122]⟩ ti2)))
    (g3 : PySem.W.nsIn K mainGlobals "KINDS" = some (some (.ref q3))) (u3 : K.lookup q3 = some ⟨.type "tuple", oq3, .seq #[.str ⟨#[114, 105, 103, 104, 116]⟩ tt3_0, .str ⟨#[108, 101, 102, 116]⟩ tt3_1] nq3, sq3⟩)
    (g4 : PySem.W.nsIn K mainGlobals "MAX_ROW" = some (some (.int 40 ti4)))
    (g5 : PySem.W.nsIn K mainGlobals "MAX_TABS" = some (some (.int 12 ti5)))
    (er0 : PySem.W.nsIn K mainGlobals "InvalidKind" = some (some (.ref eA0)))
    (er1 : PySem.W.nsIn K mainGlobals "InvalidState" = some (some (.ref eA1)))
    (er2 : PySem.W.nsIn K mainGlobals "InvalidRow" = some (some (.ref eA2)))
    (er3 : PySem.W.nsIn K mainGlobals "InvalidNumber" = some (some (.ref eA3)))
    (er4 : PySem.W.nsIn K mainGlobals "InvalidEffect" = some (some (.ref eA4)))
    (er5 : PySem.W.nsIn K mainGlobals "InvalidWished" = some (some (.ref eA5)))
    (er6 : PySem.W.nsIn K mainGlobals "InvalidGoal" = some (some (.ref eA6)))
    (er7 : PySem.W.nsIn K mainGlobals "InvalidTabs" = some (some (.ref eA7)))
    (er8 : PySem.W.nsIn K mainGlobals "InvalidTab" = some (some (.ref eA8)))
    (er9 : PySem.W.nsIn K mainGlobals "NotPossible" = some (some (.ref eA9)))
    (er10 : PySem.W.nsIn K mainGlobals "OtherKind" = some (some (.ref eA10)))
    (er11 : PySem.W.nsIn K mainGlobals "TooMany" = some (some (.ref eA11)))
    (er12 : PySem.W.nsIn K mainGlobals "NothingToUndo" = some (some (.ref eA12)))
    (erB : PySem.W.nsIn K mainGlobals "BarError" = some (some (.ref eB)))
    (erV : PySem.W.nsIn K mainGlobals "ValueError" = some none)
    (erC : HX.errChk K eB [eA0, eA1, eA2, eA3, eA4, eA5, eA6, eA7, eA8, eA9, eA10, eA11, eA12] = true)
    (obK : obChk K pC fPI [f17, f18, f19, f20, f21, f22, f23, f24] [pPkind, pProw, pPeff] = true)
    (z_len : PySem.W.nsIn K mainGlobals "len" = some none)
    (z_range : PySem.W.nsIn K mainGlobals "range" = some none)
    (z_list : PySem.W.nsIn K mainGlobals "list" = some none)
    (z_tuple : PySem.W.nsIn K mainGlobals "tuple" = some none)
    (z_isinstance : PySem.W.nsIn K mainGlobals "isinstance" = some none)
    (z_int : PySem.W.nsIn K mainGlobals "int" = some none)
    (z_bool : PySem.W.nsIn K mainGlobals "bool" = some none)
    (z_str : PySem.W.nsIn K mainGlobals "str" = some none)
    (z_sorted : PySem.W.nsIn K mainGlobals "sorted" = some none)
    (z_all : PySem.W.nsIn K mainGlobals "all" = some none)
    (z_min : PySem.W.nsIn K mainGlobals "min" = some none)
    (z_max : PySem.W.nsIn K mainGlobals "max" = some none)
    (z_set : PySem.W.nsIn K mainGlobals "set" = some none)
    (z_zip : PySem.W.nsIn K mainGlobals "zip" = some none)
    (z_enumerate : PySem.W.nsIn K mainGlobals "enumerate" = some none)
    (z_sum : PySem.W.nsIn K mainGlobals "sum" = some none)
    (z_abs : PySem.W.nsIn K mainGlobals "abs" = some none) :
    ∃ fd : FuncData, (∀ (s : Shared) (v : Value), BindsTo s fd ⟨[v], []⟩ [("_law_script", v)]) ∧ ∀ base : Heap, K.In base → base.Ns mainGlobals mg → FnOk l.prog WW.w K mg base (L2N.CX l.prog WW.w) 10 fa fd ["_law_script"] (toSp K 1 S_law) := by
  have e := hfa.symm.trans (PySem.W.mg_of X G a34)
  cases e
  have B : Bi mg := ⟨PySem.W.mg_none_of X G z_len, PySem.W.mg_none_of X G z_range, PySem.W.mg_none_of X G z_list, PySem.W.mg_none_of X G z_tuple, PySem.W.mg_none_of X G z_isinstance, PySem.W.mg_none_of X G z_int, PySem.W.mg_none_of X G z_bool, PySem.W.mg_none_of X G z_str, PySem.W.mg_none_of X G z_sorted, PySem.W.mg_none_of X G z_all, PySem.W.mg_none_of X G z_min, PySem.W.mg_none_of X G z_max, PySem.W.mg_none_of X G z_set, PySem.W.mg_none_of X G z_zip, PySem.W.mg_none_of X G z_enumerate, PySem.W.mg_none_of X G z_sum, PySem.W.mg_none_of X G z_abs⟩
  refine ⟨PySem.W.fnOf "law" "law" (defArgs st_law) (defBody st_law) (defScope st_law) .none kV34 dc34 pm34 an34 cd34 ct34, fun s v => .of_eq rfl, fun base _ _ => ?_⟩
  have Er : HX.ErrM K mg eB [eA0, eA1, eA2, eA3, eA4, eA5, eA6, eA7, eA8, eA9, eA10, eA11, eA12] := ⟨rfl, fun i x h => HX.cls_of (PySem.W.mg_of X G) (by
    intro j hj
    exact HX.cls13 er0 er1 er2 er3 er4 er5 er6 er7 er8 er9 er10 er11 er12 j hj) i x h, PySem.W.mg_of X G erB, PySem.W.mg_none_of X G erV, B.isinstance, B.zip, erC⟩
  have PK : ObK K pC fPI [f17, f18, f19, f20, f21, f22, f23, f24] [pPkind, pProw, pPeff] := obK_of pc0 obK
  have Oc : OCl K pC ∧ (∀ T ∈ ["NoneType", "bool", "int", "str", "tuple", "list"], PySem.W.kitOne K (.type T) (.ref pC) = some false) ∧ mg "Presses" = some (.ref pC) := ⟨PK.oc, PK.kt, PySem.W.mg_of X G pc0⟩
  have FPkind := fun_mk (st := st_Pkind) lPkind cPkind kPkind
  have Op_kind : OPr l.prog WW.w K mg base "kind" "own" := ⟨pC, pPkind, fPkind, _, _, PK.oc, ⟨aPkind, (PK.ps pPkind (by simp)).1, (PK.ps pPkind (by simp)).2, _, ePkind⟩, fn_Pkind FPkind PK.oc.ic.cl (PK.oc.na _ (by decide)), (FPkind.binds (ps := ["self"]) fun _ _ _ _ _ _ us hl => match us, hl with | [_], _ => rfl)⟩
  have FProw := fun_mk (st := st_Prow) lProw cProw kProw
  have Op_row : OPr l.prog WW.w K mg base "row" "commands" := ⟨pC, pProw, fProw, _, _, PK.oc, ⟨aProw, (PK.ps pProw (by simp)).1, (PK.ps pProw (by simp)).2, _, eProw⟩, fn_Prow FProw PK.oc.ic.cl (PK.oc.na _ (by decide)), (FProw.binds (ps := ["self"]) fun _ _ _ _ _ _ us hl => match us, hl with | [_], _ => rfl)⟩
  have FPeff := fun_mk (st := st_Peff) lPeff cPeff kPeff
  have Op_effect : OPr l.prog WW.w K mg base "effect" "pair" := ⟨pC, pPeff, fPeff, _, _, PK.oc, ⟨aPeff, (PK.ps pPeff (by simp)).1, (PK.ps pPeff (by simp)).2, _, ePeff⟩, fn_Peff FPeff PK.oc.ic.cl (PK.oc.na _ (by decide)), (FPeff.binds (ps := ["self"]) fun _ _ _ _ _ _ us hl => match us, hl with | [_], _ => rfl)⟩
  have FPI := fun_mk (st := st_Pinit) lPI cPI kPI
  have F1 := fun_mk (st := st_Lpick) l1 c1 k1
  have D1 : DefAt K mg "_law_pick" st_Lpick ["_law_source_here", "_law_size"] := ⟨⟨_, _, F1, PySem.W.mg_of X G a1, F1.binds (ps := ["_law_source_here", "_law_size"]) fun _ _ _ _ _ _ us hl => match us, hl with | [_, _], _ => rfl⟩⟩
  have C_Lpick : Cal l.prog WW.w K mg base 1 2 "_law_pick" S_Lpick := ok_Lpick D1 B 
  have F2 := fun_mk (st := st_Lsource) l2 c2 k2
  have D2 : DefAt K mg "_law_source" st_Lsource ["_law_script", "_law_k"] := ⟨⟨_, _, F2, PySem.W.mg_of X G a2, F2.binds (ps := ["_law_script", "_law_k"]) fun _ _ _ _ _ _ us hl => match us, hl with | [_, _], _ => rfl⟩⟩
  have C_Lsource : Cal l.prog WW.w K mg base 1 2 "_law_source" S_Lsource := ok_Lsource D2 B 
  have F3 := fun_mk (st := st_Lkind) l3 c3 k3
  have D3 : DefAt K mg "_law_kind" st_Lkind ["_law_source_here"] := ⟨⟨_, _, F3, PySem.W.mg_of X G a3, F3.binds (ps := ["_law_source_here"]) fun _ _ _ _ _ _ us hl => match us, hl with | [_], _ => rfl⟩⟩
  have C_Lkind : Cal l.prog WW.w K mg base 2 1 "_law_kind" S_Lkind := ok_Lkind D3 B C_Lpick
  have F4 := fun_mk (st := st_next_open) l4 c4 k4
  have D4 : DefAt K mg "next_open" st_next_open ["closed", "place", "way"] := ⟨⟨_, _, F4, PySem.W.mg_of X G a4, F4.binds (ps := ["closed", "place", "way"]) fun _ _ _ _ _ _ us hl => match us, hl with | [_, _, _], _ => rfl⟩⟩
  have C_next_open : Cal l.prog WW.w K mg base 1 3 "next_open" S_next_open := ok_next_open D4 B 
  have F5 := fun_mk (st := st_effect_of) l5 c5 k5
  have D5 : DefAt K mg "effect_of" st_effect_of ["kind", "row"] := ⟨⟨_, _, F5, PySem.W.mg_of X G a5, F5.binds (ps := ["kind", "row"]) fun _ _ _ _ _ _ us hl => match us, hl with | [_, _], _ => rfl⟩⟩
  have C_effect_of : Cal l.prog WW.w K mg base 2 2 "effect_of" S_effect_of := ok_effect_of D5 B C_next_open
  have F6 := fun_mk (st := st_is_row) l6 c6 k6
  have D6 : DefAt K mg "is_row" st_is_row ["value"] := ⟨⟨_, _, F6, PySem.W.mg_of X G a6, F6.binds (ps := ["value"]) fun _ _ _ _ _ _ us hl => match us, hl with | [_], _ => rfl⟩⟩
  have C_is_row : Cal l.prog WW.w K mg base 1 1 "is_row" S_is_row := ok_is_row D6 B (gc_str (l := [99, 110, 112]) (PySem.W.mg_of X G g1) rfl) (gc_int (PySem.W.mg_of X G g4))
  have F7 := fun_mk (st := st_require_kind) l7 c7 k7
  have D7 : DefAt K mg "require_kind" st_require_kind ["value"] := ⟨⟨_, _, F7, PySem.W.mg_of X G a7, F7.binds (ps := ["value"]) fun _ _ _ _ _ _ us hl => match us, hl with | [_], _ => rfl⟩⟩
  have C_require_kind : Cal l.prog WW.w K mg base 1 1 "require_kind" S_require_kind := ok_require_kind D7 B (gc_tup (ds := [.str [114, 105, 103, 104, 116], .str [108, 101, 102, 116]]) (PySem.W.mg_of X G g3) u3 rfl rfl (by rw [sizeLine_eq]; exact (by decide : 2 ≤ 16777216)) (.cons ⟨tt3_0, rfl⟩ (.cons ⟨tt3_1, rfl⟩ .nil)) rfl) Er
  have F8 := fun_mk (st := st_require_row) l8 c8 k8
  have D8 : DefAt K mg "require_row" st_require_row ["value"] := ⟨⟨_, _, F8, PySem.W.mg_of X G a8, F8.binds (ps := ["value"]) fun _ _ _ _ _ _ us hl => match us, hl with | [_], _ => rfl⟩⟩
  have C_require_row : Cal l.prog WW.w K mg base 2 1 "require_row" S_require_row := ok_require_row D8 B C_is_row Er
  have F9 := fun_mk (st := st_is_integer) l9 c9 k9
  have D9 : DefAt K mg "is_integer" st_is_integer ["value", "low", "high"] := ⟨⟨_, _, F9, PySem.W.mg_of X G a9, F9.binds (ps := ["value", "low", "high"]) fun _ _ _ _ _ _ us hl => match us, hl with | [_, _, _], _ => rfl⟩⟩
  have C_is_integer : Cal l.prog WW.w K mg base 1 3 "is_integer" S_is_integer := ok_is_integer D9 B 
  have F10 := fun_mk (st := st_Ltabs) l10 c10 k10
  have D10 : DefAt K mg "_law_tabs" st_Ltabs ["_law_source_here", "_law_least", "_law_most"] := ⟨⟨_, _, F10, PySem.W.mg_of X G a10, F10.binds (ps := ["_law_source_here", "_law_least", "_law_most"]) fun _ _ _ _ _ _ us hl => match us, hl with | [_, _, _], _ => rfl⟩⟩
  have C_Ltabs : Cal l.prog WW.w K mg base 2 3 "_law_tabs" S_Ltabs := ok_Ltabs D10 B C_Lpick
  have F11 := fun_mk (st := st_Lstate) l11 c11 k11
  have D11 : DefAt K mg "_law_state" st_Lstate ["_law_source_here", "_law_least", "_law_most"] := ⟨⟨_, _, F11, PySem.W.mg_of X G a11, F11.binds (ps := ["_law_source_here", "_law_least", "_law_most"]) fun _ _ _ _ _ _ us hl => match us, hl with | [_, _, _], _ => rfl⟩⟩
  have C_Lstate : Cal l.prog WW.w K mg base 3 3 "_law_state" S_Lstate := ok_Lstate D11 B C_Ltabs C_Lpick
  have F12 := fun_mk (st := st_is_tabs) l12 c12 k12
  have D12 : DefAt K mg "is_tabs" st_is_tabs ["value"] := ⟨⟨_, _, F12, PySem.W.mg_of X G a12, F12.binds (ps := ["value"]) fun _ _ _ _ _ _ us hl => match us, hl with | [_], _ => rfl⟩⟩
  have C_is_tabs : Cal l.prog WW.w K mg base 1 1 "is_tabs" S_is_tabs := ok_is_tabs D12 B (gc_int (PySem.W.mg_of X G g5)) (gc_str (l := [97, 98, 99, 100, 101, 102, 103, 104, 105, 106, 107, 108, 109, 110, 111, 112, 113, 114, 115, 116, 117, 118, 119, 120, 121, 122]) (PySem.W.mg_of X G g2) rfl)
  have F13 := fun_mk (st := st_is_tab_of) l13 c13 k13
  have D13 : DefAt K mg "is_tab_of" st_is_tab_of ["tabs", "value"] := ⟨⟨_, _, F13, PySem.W.mg_of X G a13, F13.binds (ps := ["tabs", "value"]) fun _ _ _ _ _ _ us hl => match us, hl with | [_, _], _ => rfl⟩⟩
  have C_is_tab_of : Cal l.prog WW.w K mg base 1 2 "is_tab_of" S_is_tab_of := ok_is_tab_of D13 B 
  have F14 := fun_mk (st := st_step) l14 c14 k14
  have D14 : DefAt K mg "step" st_step ["kind", "state", "command"] := ⟨⟨_, _, F14, PySem.W.mg_of X G a14, F14.binds (ps := ["kind", "state", "command"]) fun _ _ _ _ _ _ us hl => match us, hl with | [_, _, _], _ => rfl⟩⟩
  have C_step : Cal l.prog WW.w K mg base 1 3 "step" S_step := ok_step D14 B Er
  have F15 := fun_mk (st := st_is_state) l15 c15 k15
  have D15 : DefAt K mg "is_state" st_is_state ["value"] := ⟨⟨_, _, F15, PySem.W.mg_of X G a15, F15.binds (ps := ["value"]) fun _ _ _ _ _ _ us hl => match us, hl with | [_], _ => rfl⟩⟩
  have C_is_state : Cal l.prog WW.w K mg base 2 1 "is_state" S_is_state := ok_is_state D15 B C_is_tab_of C_is_tabs
  have F16 := fun_mk (st := st_state_behind) l16 c16 k16
  have D16 : DefAt K mg "state_behind" st_state_behind ["kind", "state", "row"] := ⟨⟨_, _, F16, PySem.W.mg_of X G a16, F16.binds (ps := ["kind", "state", "row"]) fun _ _ _ _ _ _ us hl => match us, hl with | [_, _, _], _ => rfl⟩⟩
  have C_state_behind : Cal l.prog WW.w K mg base 2 3 "state_behind" S_state_behind := ok_state_behind D16 B C_step
  have F17 := fun_mk (st := st_Presses___call__) l17 c17 k17
  have fnm_17 := fn_Presses___call__ (P := l.prog) (base := base) F17 B C_is_state C_state_behind Er
  have O_call : OCal l.prog WW.w K mg base 3 2 "__call__" S_Presses___call__ := ⟨f17, _, _, fnm_17, PK.at_ (by simp) a17, (F17.binds (ps := ["self", "state"]) fun _ _ _ _ _ _ us hl => match us, hl with | [_, _], _ => rfl)⟩
  have F18 := fun_mk (st := st_Presses___len__) l18 c18 k18
  have fnm_18 := fn_Presses___len__ (P := l.prog) (base := base) F18 B 
  have O_len : OCal l.prog WW.w K mg base 1 1 "__len__" S_Presses___len__ := ⟨f18, _, _, fnm_18, PK.at_ (by simp) a18, (F18.binds (ps := ["self"]) fun _ _ _ _ _ _ us hl => match us, hl with | [_], _ => rfl)⟩
  have F19 := fun_mk (st := st_Presses___bool__) l19 c19 k19
  have fnm_19 := fn_Presses___bool__ (P := l.prog) (base := base) F19 B 
  have O_bool : OCal l.prog WW.w K mg base 1 1 "__bool__" S_Presses___bool__ := ⟨f19, _, _, fnm_19, PK.at_ (by simp) a19, (F19.binds (ps := ["self"]) fun _ _ _ _ _ _ us hl => match us, hl with | [_], _ => rfl)⟩
  have F20 := fun_mk (st := st_Presses___getitem__) l20 c20 k20
  have fnm_20 := fn_Presses___getitem__ (P := l.prog) (base := base) F20 B C_is_integer Er
  have O_getitem : OCal l.prog WW.w K mg base 2 2 "__getitem__" S_Presses___getitem__ := ⟨f20, _, _, fnm_20, PK.at_ (by simp) a20, (F20.binds (ps := ["self", "index"]) fun _ _ _ _ _ _ us hl => match us, hl with | [_, _], _ => rfl)⟩
  have F21 := fun_mk (st := st_Presses___eq__) l21 c21 k21
  have fnm_21 := fn_Presses___eq__ (P := l.prog) (base := base) F21 B Oc
  have O_eq : OCal l.prog WW.w K mg base 1 2 "__eq__" S_Presses___eq__ := ⟨f21, _, _, fnm_21, PK.at_ (by simp) a21, (F21.binds (ps := ["self", "other"]) fun _ _ _ _ _ _ us hl => match us, hl with | [_, _], _ => rfl)⟩
  have Oq : EqS l.prog WW.w K mg base := ⟨f21, PK.at_ (by simp) a21, eqNI_of F21 sc_Presses___eq__ rfl B Oc.2.2 (PySem.W.mg_none_of X G zNI) PK.oc (PK.kt "str" (by simp)) (F21.binds (ps := ["self", "other"]) fun _ _ _ _ _ _ us hl => match us, hl with | [_, _], _ => rfl) (fun _ _ _ y hy => by
    simp only [List.mem_cons, List.not_mem_nil, or_false] at hy
    rcases hy with rfl | rfl | rfl <;> rfl)⟩
  have On : ObNew l.prog WW.w K mg base newPre newOut := ⟨pC, fPI, _, Oc.2.2, PK.oc, PK.mk1 pcI, fn_Pinit FPI C_require_kind C_require_row C_effect_of PK.oc.ic.cl PK.oc.na, (FPI.binds (ps := ["self", "kind", "row"]) fun _ _ _ _ _ _ us hl => match us, hl with | [_, _, _], _ => rfl)⟩
  have F22 := fun_mk (st := st_Presses___add__) l22 c22 k22
  have fnm_22 := fn_Presses___add__ (P := l.prog) (base := base) F22 B (gc_int (PySem.W.mg_of X G g4)) On Oc Er
  have O_add : OCal l.prog WW.w K mg base 5 2 "__add__" S_Presses___add__ := ⟨f22, _, _, fnm_22, PK.at_ (by simp) a22, (F22.binds (ps := ["self", "other"]) fun _ _ _ _ _ _ us hl => match us, hl with | [_, _], _ => rfl)⟩
  have F23 := fun_mk (st := st_Presses___mul__) l23 c23 k23
  have fnm_23 := fn_Presses___mul__ (P := l.prog) (base := base) F23 B C_is_integer (gc_int (PySem.W.mg_of X G g4)) On Er
  have O_mul : OCal l.prog WW.w K mg base 5 2 "__mul__" S_Presses___mul__ := ⟨f23, _, _, fnm_23, PK.at_ (by simp) a23, (F23.binds (ps := ["self", "times"]) fun _ _ _ _ _ _ us hl => match us, hl with | [_, _], _ => rfl)⟩
  have F24 := fun_mk (st := st_Presses___neg__) l24 c24 k24
  have fnm_24 := fn_Presses___neg__ (P := l.prog) (base := base) F24 B On
  have O_neg : OCal l.prog WW.w K mg base 5 1 "__neg__" S_Presses___neg__ := ⟨f24, _, _, fnm_24, PK.at_ (by simp) a24, (F24.binds (ps := ["self"]) fun _ _ _ _ _ _ us hl => match us, hl with | [_], _ => rfl)⟩
  have F25 := fun_mk (st := st_Lrow) l25 c25 k25
  have D25 : DefAt K mg "_law_row" st_Lrow ["_law_source_here", "_law_most", "_law_closings_most"] := ⟨⟨_, _, F25, PySem.W.mg_of X G a25, F25.binds (ps := ["_law_source_here", "_law_most", "_law_closings_most"]) fun _ _ _ _ _ _ us hl => match us, hl with | [_, _, _], _ => rfl⟩⟩
  have C_Lrow : Cal l.prog WW.w K mg base 2 3 "_law_row" S_Lrow := ok_Lrow D25 B C_Lpick
  have F26 := fun_mk (st := st_Lother) l26 c26 k26
  have D26 : DefAt K mg "_law_other" st_Lother ["_law_kind_so"] := ⟨⟨_, _, F26, PySem.W.mg_of X G a26, F26.binds (ps := ["_law_kind_so"]) fun _ _ _ _ _ _ us hl => match us, hl with | [_], _ => rfl⟩⟩
  have C_Lother : Cal l.prog WW.w K mg base 1 1 "_law_other" S_Lother := ok_Lother D26 B 
  have F27 := fun_mk (st := st_Lmirrored) l27 c27 k27
  have D27 : DefAt K mg "_law_mirrored" st_Lmirrored ["_law_row_so"] := ⟨⟨_, _, F27, PySem.W.mg_of X G a27, F27.binds (ps := ["_law_row_so"]) fun _ _ _ _ _ _ us hl => match us, hl with | [_], _ => rfl⟩⟩
  have C_Lmirrored : Cal l.prog WW.w K mg base 1 1 "_law_mirrored" S_Lmirrored := ok_Lmirrored D27 B 
  have F28 := fun_mk (st := st_Lstep) l28 c28 k28
  have D28 : DefAt K mg "_law_step" st_Lstep ["_law_kind_so", "_law_state_so", "_law_command"] := ⟨⟨_, _, F28, PySem.W.mg_of X G a28, F28.binds (ps := ["_law_kind_so", "_law_state_so", "_law_command"]) fun _ _ _ _ _ _ us hl => match us, hl with | [_, _, _], _ => rfl⟩⟩
  have C_Lstep : Cal l.prog WW.w K mg base 1 3 "_law_step" S_Lstep := ok_Lstep D28 B 
  have F29 := fun_mk (st := st_Lbehind) l29 c29 k29
  have D29 : DefAt K mg "_law_behind" st_Lbehind ["_law_kind_so", "_law_state_so", "_law_row_so"] := ⟨⟨_, _, F29, PySem.W.mg_of X G a29, F29.binds (ps := ["_law_kind_so", "_law_state_so", "_law_row_so"]) fun _ _ _ _ _ _ us hl => match us, hl with | [_, _, _], _ => rfl⟩⟩
  have C_Lbehind : Cal l.prog WW.w K mg base 2 3 "_law_behind" S_Lbehind := ok_Lbehind D29 B C_Lstep
  have F30 := fun_mk (st := st_Leffect) l30 c30 k30
  have D30 : DefAt K mg "_law_effect" st_Leffect ["_law_kind_so", "_law_row_so"] := ⟨⟨_, _, F30, PySem.W.mg_of X G a30, F30.binds (ps := ["_law_kind_so", "_law_row_so"]) fun _ _ _ _ _ _ us hl => match us, hl with | [_, _], _ => rfl⟩⟩
  have C_Leffect : Cal l.prog WW.w K mg base 1 2 "_law_effect" S_Leffect := ok_Leffect D30 B 
  have F31 := fun_mk (st := st_Lerror_name) l31 c31 k31
  have D31 : DefAt K mg "_law_error_name" st_Lerror_name ["_law_e"] := ⟨⟨_, _, F31, PySem.W.mg_of X G a31, F31.binds (ps := ["_law_e"]) fun _ _ _ _ _ _ us hl => match us, hl with | [_], _ => rfl⟩⟩
  have Ef : HX.ErrF l.prog WW.w K mg base 1 _ := errF_Lerror_name D31 Er
  have F32 := fun_mk (st := st_Loutcome) l32 c32 k32
  have D32 : DefAt K mg "_law_outcome" st_Loutcome ["_law_call", "_law_one", "_law_other_here"] := ⟨⟨_, _, F32, PySem.W.mg_of X G a32, F32.binds (ps := ["_law_call", "_law_one", "_law_other_here"]) fun _ _ _ _ _ _ us hl => match us, hl with | [_, _, _], _ => rfl⟩⟩
  have C_Loutcome : Cal l.prog WW.w K mg base 8 3 "_law_outcome" S_Loutcome := ok_Loutcome D32 B O_call O_getitem O_add O_mul Op_row On Er Ef
  have F33 := fun_mk (st := st_Lrefused) l33 c33 k33
  have D33 : DefAt K mg "_law_refused" st_Lrefused ["_law_one", "_law_state_so"] := ⟨⟨_, _, F33, PySem.W.mg_of X G a33, F33.binds (ps := ["_law_one", "_law_state_so"]) fun _ _ _ _ _ _ us hl => match us, hl with | [_, _], _ => rfl⟩⟩
  have C_Lrefused : Cal l.prog WW.w K mg base 9 2 "_law_refused" S_Lrefused := ok_Lrefused D33 B C_Lother C_Loutcome O_eq O_len Op_row Op_kind On
  have F34 := fun_mk (st := st_law) l34 c34 k34
  exact fn_law F34 B C_Lsource C_Lrow C_Lkind C_Lstate C_Leffect C_Loutcome C_Lbehind C_Lpick C_Lmirrored C_Lother C_Lrefused O_len O_bool O_getitem O_eq O_neg O_mul Op_effect Op_row Op_kind On Oq
def spL (w : World) (K : PySem.W.Frag) : Sp := letI : WW := ⟨w⟩; toSp K 1 S_law
theorem law_at {w : World} {K : PySem.W.Frag} {H : Hp} {a : Addr} {ns : List Int} (hl : ns.length ≤ 63) (hS : SqL K H a (ns.map V.int)) : spL w K [.ref a] H (fun v _ => v = .bl true) fun _ _ _ => False := by
  letI : WW := ⟨w⟩
  show toSp K 1 S_law [.ref a] H (fun v _ => v = .bl true) fun _ _ _ => False
  refine ⟨rfl, fun _ => False, [.v (.lst (ns.map D.int))], fun r _ => r = .v (.bl true), fun _ _ => False, ?_, ⟨ns, rfl, hl, rfl⟩, fun r ρ' v H' e A q _ => ?_, fun _ _ _ z _ => z.elim⟩
  · refine ⟨⟨⟨.ref a, rfl, ?_⟩, trivial⟩, List.nodup_nil, fun _ z => z.elim, fun _ _ z => z⟩
    simp only [Dq]
    refine ⟨a, ns.map V.int, rfl, ?_, (dqs_flat ints_map.2).mpr ints_map.1.symm⟩
    rcases hS with h | h
    · refine .inl ⟨h, fun z => ?_⟩
      rcases z with z | z
      · exact z
      · cases (show a ∈ ([] : List Addr) from z)
    · exact .inr h
  · subst e
    exact q.val.vflat rfl
theorem the_walk {l : PySem.W.OpenLaw} {q : Program} {loose : List Str} {XP : (Str → Option Value) → Heap → Prop} {YP : World → Heap → Prop} {d : DefRec} {K : Params → PySem.W.Frag} (hn : l.most = some 63) (hdf : d.params.defaults = [])
    (hY : ∀ (w : World) (h : Heap), YP w h → (K w.params).In h)
    (F : ∀ (w : World) (mg : Str → Option Value) (fa : Addr) (h : Heap), (K w.params).In h → h.Ns mainGlobals mg → mg d.name = some (.ref fa) →
      ∃ fd : FuncData, (∀ (s : Shared) (u : Value), BindsTo s fd ⟨[u], []⟩ [("_law_script", u)]) ∧ ∀ base : Heap, (K w.params).In base → base.Ns mainGlobals mg → FnOk l.prog w (K w.params) mg base (L2N.CX l.prog w) 10 fa fd ["_law_script"] (spL w (K w.params))) :
    PySem.W.WalkO q loose XP YP l.row.toRowW d [] (fun f vs => PySem.call f vs) :=
  L2.walk_of (n := 63) (k := 10) (x := "_law_script") (CX := fun w => L2N.CX l.prog w) (sp := fun w => spL w (K w.params)) hn (by decide) hdf ⟨rfl, by decide, by decide⟩ hY F (fun _ _ a ns hl _ hS => law_at hl hS) fun w H s e s' h => @law_cx ⟨w⟩ _ _ H s e s' h

end My

open PySem PySem.W PyProof.Rows in
set_option maxRecDepth 100000 in
set_option maxHeartbeats 0 in
theorem PySem.Challenge.cw_closetabs_k61_rows_as_values_holds : PySem.Challenge.rw_closetabs_k61_rows_as_values.Holds := by
  w_on; o_law; k_head; (case hw => w_witness2)
  k_fill
  refine My.the_walk (l := PySem.Challenge.rw_closetabs_k61_rows_as_values) rfl rfl (fun w h Y => PySem.W.kIn_of Y) ?F
  case F =>
    intro w mg fa h KX G hmg
    refine' My.all_mk (iw := ⟨w⟩) KX G hmg ?pc0 ?pcI ?lPI ?cPI ?kPI ?aPkind ?ePkind ?lPkind ?cPkind ?kPkind ?aProw ?eProw ?lProw ?cProw ?kProw ?aPeff ?ePeff ?lPeff ?cPeff ?kPeff ?zNI ?a1 ?l1 ?c1 ?k1 ?a2 ?l2 ?c2 ?k2 ?a3 ?l3 ?c3 ?k3 ?a4 ?l4 ?c4 ?k4 ?a5 ?l5 ?c5 ?k5 ?a6 ?l6 ?c6 ?k6 ?a7 ?l7 ?c7 ?k7 ?a8 ?l8 ?c8 ?k8 ?a9 ?l9 ?c9 ?k9 ?a10 ?l10 ?c10 ?k10 ?a11 ?l11 ?c11 ?k11 ?a12 ?l12 ?c12 ?k12 ?a13 ?l13 ?c13 ?k13 ?a14 ?l14 ?c14 ?k14 ?a15 ?l15 ?c15 ?k15 ?a16 ?l16 ?c16 ?k16 ?a17 ?l17 ?c17 ?k17 ?a18 ?l18 ?c18 ?k18 ?a19 ?l19 ?c19 ?k19 ?a20 ?l20 ?c20 ?k20 ?a21 ?l21 ?c21 ?k21 ?a22 ?l22 ?c22 ?k22 ?a23 ?l23 ?c23 ?k23 ?a24 ?l24 ?c24 ?k24 ?a25 ?l25 ?c25 ?k25 ?a26 ?l26 ?c26 ?k26 ?a27 ?l27 ?c27 ?k27 ?a28 ?l28 ?c28 ?k28 ?a29 ?l29 ?c29 ?k29 ?a30 ?l30 ?c30 ?k30 ?a31 ?l31 ?c31 ?k31 ?a32 ?l32 ?c32 ?k32 ?a33 ?l33 ?c33 ?k33 ?a34 ?l34 ?c34 ?k34 ?g1 ?g2 ?g3 ?u3 ?g4 ?g5 ?er0 ?er1 ?er2 ?er3 ?er4 ?er5 ?er6 ?er7 ?er8 ?er9 ?er10 ?er11 ?er12 ?erB ?erV ?erC ?obK ?z_len ?z_range ?z_list ?z_tuple ?z_isinstance ?z_int ?z_bool ?z_str ?z_sorted ?z_all ?z_min ?z_max ?z_set ?z_zip ?z_enumerate ?z_sum ?z_abs
    (case pc0 => k_is)
    (case pcI => k_is)
    (case lPI => k_is)
    (case cPI => k_is)
    (case kPI => k_is)
    (case aPkind => k_is)
    (case ePkind => k_is)
    (case lPkind => k_is)
    (case cPkind => k_is)
    (case kPkind => k_is)
    (case aProw => k_is)
    (case eProw => k_is)
    (case lProw => k_is)
    (case cProw => k_is)
    (case kProw => k_is)
    (case aPeff => k_is)
    (case ePeff => k_is)
    (case lPeff => k_is)
    (case cPeff => k_is)
    (case kPeff => k_is)
    (case zNI => k_is)
    (case a1 => k_is)
    (case l1 => k_is)
    (case c1 => k_is)
    (case k1 => k_is)
    (case a2 => k_is)
    (case l2 => k_is)
    (case c2 => k_is)
    (case k2 => k_is)
    (case a3 => k_is)
    (case l3 => k_is)
    (case c3 => k_is)
    (case k3 => k_is)
    (case a4 => k_is)
    (case l4 => k_is)
    (case c4 => k_is)
    (case k4 => k_is)
    (case a5 => k_is)
    (case l5 => k_is)
    (case c5 => k_is)
    (case k5 => k_is)
    (case a6 => k_is)
    (case l6 => k_is)
    (case c6 => k_is)
    (case k6 => k_is)
    (case a7 => k_is)
    (case l7 => k_is)
    (case c7 => k_is)
    (case k7 => k_is)
    (case a8 => k_is)
    (case l8 => k_is)
    (case c8 => k_is)
    (case k8 => k_is)
    (case a9 => k_is)
    (case l9 => k_is)
    (case c9 => k_is)
    (case k9 => k_is)
    (case a10 => k_is)
    (case l10 => k_is)
    (case c10 => k_is)
    (case k10 => k_is)
    (case a11 => k_is)
    (case l11 => k_is)
    (case c11 => k_is)
    (case k11 => k_is)
    (case a12 => k_is)
    (case l12 => k_is)
    (case c12 => k_is)
    (case k12 => k_is)
    (case a13 => k_is)
    (case l13 => k_is)
    (case c13 => k_is)
    (case k13 => k_is)
    (case a14 => k_is)
    (case l14 => k_is)
    (case c14 => k_is)
    (case k14 => k_is)
    (case a15 => k_is)
    (case l15 => k_is)
    (case c15 => k_is)
    (case k15 => k_is)
    (case a16 => k_is)
    (case l16 => k_is)
    (case c16 => k_is)
    (case k16 => k_is)
    (case a17 => k_is)
    (case l17 => k_is)
    (case c17 => k_is)
    (case k17 => k_is)
    (case a18 => k_is)
    (case l18 => k_is)
    (case c18 => k_is)
    (case k18 => k_is)
    (case a19 => k_is)
    (case l19 => k_is)
    (case c19 => k_is)
    (case k19 => k_is)
    (case a20 => k_is)
    (case l20 => k_is)
    (case c20 => k_is)
    (case k20 => k_is)
    (case a21 => k_is)
    (case l21 => k_is)
    (case c21 => k_is)
    (case k21 => k_is)
    (case a22 => k_is)
    (case l22 => k_is)
    (case c22 => k_is)
    (case k22 => k_is)
    (case a23 => k_is)
    (case l23 => k_is)
    (case c23 => k_is)
    (case k23 => k_is)
    (case a24 => k_is)
    (case l24 => k_is)
    (case c24 => k_is)
    (case k24 => k_is)
    (case a25 => k_is)
    (case l25 => k_is)
    (case c25 => k_is)
    (case k25 => k_is)
    (case a26 => k_is)
    (case l26 => k_is)
    (case c26 => k_is)
    (case k26 => k_is)
    (case a27 => k_is)
    (case l27 => k_is)
    (case c27 => k_is)
    (case k27 => k_is)
    (case a28 => k_is)
    (case l28 => k_is)
    (case c28 => k_is)
    (case k28 => k_is)
    (case a29 => k_is)
    (case l29 => k_is)
    (case c29 => k_is)
    (case k29 => k_is)
    (case a30 => k_is)
    (case l30 => k_is)
    (case c30 => k_is)
    (case k30 => k_is)
    (case a31 => k_is)
    (case l31 => k_is)
    (case c31 => k_is)
    (case k31 => k_is)
    (case a32 => k_is)
    (case l32 => k_is)
    (case c32 => k_is)
    (case k32 => k_is)
    (case a33 => k_is)
    (case l33 => k_is)
    (case c33 => k_is)
    (case k33 => k_is)
    (case a34 => k_is)
    (case l34 => k_is)
    (case c34 => k_is)
    (case k34 => k_is)
    (case g1 => k_is)
    (case g2 => k_is)
    (case g3 => k_is)
    (case u3 => k_is)
    (case g4 => k_is)
    (case g5 => k_is)
    (case er0 => k_is)
    (case er1 => k_is)
    (case er2 => k_is)
    (case er3 => k_is)
    (case er4 => k_is)
    (case er5 => k_is)
    (case er6 => k_is)
    (case er7 => k_is)
    (case er8 => k_is)
    (case er9 => k_is)
    (case er10 => k_is)
    (case er11 => k_is)
    (case er12 => k_is)
    (case erB => k_is)
    (case erV => k_is)
    (case erC => kernel_rfl)
    (case obK => kernel_rfl)
    (case z_len => k_is)
    (case z_range => k_is)
    (case z_list => k_is)
    (case z_tuple => k_is)
    (case z_isinstance => k_is)
    (case z_int => k_is)
    (case z_bool => k_is)
    (case z_str => k_is)
    (case z_sorted => k_is)
    (case z_all => k_is)
    (case z_min => k_is)
    (case z_max => k_is)
    (case z_set => k_is)
    (case z_zip => k_is)
    (case z_enumerate => k_is)
    (case z_sum => k_is)
    (case z_abs => k_is)

