import PyProof.Rows.All
import Wide.All
import OpenK.AllK
import Wide.FinOn
import PyProof.ZipIter
import PyProof.EnumIter
import HandS.HotCalls
import HandS.Iter
import HandS.Comp
import KE.KStateDown
import Lean
import HandS.ForMost
import HandS.Exc
import HandS.WordsExc
import HandS.More
import HandS.Wide
import HandS.WideBits
import HandS.IsInst
import HandS.Style
import HandS.TupAny
import HandS.TupMul
import HandS.SortInts
import HandS.Conv
import HandS.Evl
import HandS.Zip
import HandS.Flow
import HandS.Defaults
import HandS.Head0
import HandS.Head1
import HandS.Head2
import HandS.HeadEnd
import HandS.HeadHook1
import HandS.HeadHook2
import KE.KExcSuper
import HandS.TryMany
import HandS.TryOnly
import HandS.ExcOwn
import HandS.Lambda
import HandS.EndTab
import HandS.HeadHook4
import HandS.HeadWalk
import HandS.ExcCtx
import HandS.ExcIs
import HandS.Text
import PySem.Challenge.RW_floorward_k52_whole_led_put_and_taken_ba
import KE.GoesMore
import KE.KRevSl
import HandS.Walk
import HandS.Dict
import HandS.Strs
import HandS.Finally
import HandS.RaiseOp
import HandS.SuiteRaise
set_option Elab.async false
set_option linter.all false
set_option maxRecDepth 100000
set_option maxHeartbeats 4000000
namespace FW
open PySem PySem.Spec PyProof.Rows HotX
/-! ### walked things come to their end while an exception is handled -/
section
variable {prog : Program} {w : World} {A : Around} {E : Value → Shared → Prop} {s : Shared}
/-- a StopIteration is made and thrown: the old objects stay -/
theorem stop_hot {α : Type} {x1 : Addr} {Q : α → Shared → Prop} (hot : HotAt A x1 s.heap)
    (hE : ∀ h' e, (∀ b o, s.heap.get? b = some o → h'.get? b = some o) → (∃ o, h'.get? e = some o ∧ o.cls = .type "StopIteration") → E (.ref e) { s with heap := h' }) :
    wpAny (model prog w) A (Builtin.SmallTypes.stopIteration : Sem α) Q E s := by
  obtain ⟨hh, o1, v1, g1, d1, c1⟩ := hot
  unfold Builtin.SmallTypes.stopIteration
  refine wpAny_bind ?_
  unfold newExc newTuple
  refine wpAny_bind (wpAny_newObj_type (wpAny_bind (m := firstArgMember _ _) (wpAny_of_eq (a := Value.none) (by first | rfl | (simp only [firstArgMember]; rfl)) (wpAny_newObj_type ?_ (by size_fits)))) (by size_fits))
  refine raiseNew_hot ⟨hh, o1, v1, Heap.get?_push_of_some _ (Heap.get?_push_of_some _ g1), d1, c1⟩ (Nat.ne_of_lt (Heap.lt_size (Heap.get?_push_of_some _ g1))) (Heap.get?_push_size _ rfl) rfl (by first | (simp; done) | (simp; omega)) ?_
  refine hE _ _ (fun b o q => ?_) ⟨_, Heap.get?_update_self _ (Heap.get?_push_size _ rfl) rfl, rfl⟩
  have q2 := Heap.get?_push_of_some { cls := .type "tuple", data := .seq ([] : List Value).toArray } q
  rw [Heap.get?_update_other _ _ (Nat.ne_of_gt (Heap.lt_size q2))]
  exact Heap.get?_push_of_some _ q2
theorem hot_but {x1 it : Addr} {h h' : Heap} (hot : HotAt A x1 h) (k : ∀ b o, b ≠ it → h.get? b = some o → h'.get? b = some o) (n : x1 ≠ it) : HotAt A x1 h' := by
  obtain ⟨hh, o1, v1, g1, d⟩ := hot
  exact ⟨hh, o1, v1, k _ _ n g1, d⟩
/-- the objects but one are kept -/
abbrev KpB (it : Addr) (h h' : Heap) : Prop := ∀ b o, b ≠ it → h.get? b = some o → h'.get? b = some o
/-- what list and tuple iterators do behind the last item -/
theorem list_end_hot {it l x1 : Addr} {i : Nat} {items : Array Value} {Q : Fin → Shared → Prop} (hot : HotAt A x1 s.heap) (n1 : x1 ≠ it) (hit : s.heap.IsListIter it l i) (hl : s.heap.IsList l items) (hx : items[i]? = none)
    (hE : ∀ h' e, KpB it s.heap h' → (∃ o, h'.get? e = some o ∧ o.cls = .type "StopIteration") → E (.ref e) { s with heap := h' }) :
    wpAny (model prog w) A (Builtin.«list_iterator.__next__» ⟨[.ref it], []⟩) Q E s := by
  obtain ⟨oi, gi, ci, di⟩ := id hit
  obtain ⟨ol, gl, _, nl, dl⟩ := hl
  show wpAny _ _ (field (.ref it) 0 >>= _) _ _ s
  refine wpAny_bind (wpAny_field gi di (x := .ref l) rfl ?_)
  rw [if_neg (show ¬ (Value.ref l == Value.none) = true from Bool.false_ne_true)]
  refine wpAny_bind (wpAny_field gi di (x := .int i 0) rfl (wpAny_bind (wpAny_seqItems gl dl ?_)))
  simp only [Int.toNat_natCast, hx]
  refine wpAny_bind (wpAny_rule (wpAny_bind (wpAny_setField gi di (by simp) (stop_hot (hot_but hot (fun b o nb q => (Heap.SameBut.update ..).extBut b o nb q) n1) fun h' e k he => hE h' e (fun b o nb q => k b o ((Heap.SameBut.update ..).extBut b o nb q)) he))))
theorem tuple_end_hot {it l x1 : Addr} {i : Nat} {items : Array Value} {Q : Fin → Shared → Prop} (hot : HotAt A x1 s.heap) (n1 : x1 ≠ it) (hit : IsTupIter s.heap it l i) (hl : IsTup s.heap l items) (hx : items[i]? = none)
    (hE : ∀ h' e, KpB it s.heap h' → (∃ o, h'.get? e = some o ∧ o.cls = .type "StopIteration") → E (.ref e) { s with heap := h' }) :
    wpAny (model prog w) A (Builtin.«tuple_iterator.__next__» ⟨[.ref it], []⟩) Q E s := by
  obtain ⟨oi, gi, ci, di⟩ := id hit
  obtain ⟨ol, gl, _, nl, dl⟩ := hl
  show wpAny _ _ (field (.ref it) 0 >>= _) _ _ s
  refine wpAny_bind (wpAny_field gi di (x := .ref l) rfl ?_)
  rw [if_neg (show ¬ (Value.ref l == Value.none) = true from Bool.false_ne_true)]
  refine wpAny_bind (wpAny_field gi di (x := .int i 0) rfl (wpAny_bind (wpAny_seqItems gl dl ?_)))
  simp only [Int.toNat_natCast, hx]
  refine wpAny_bind (wpAny_rule (wpAny_bind (wpAny_setField gi di (by simp) (stop_hot (hot_but hot (fun b o nb q => (Heap.SameBut.update ..).extBut b o nb q) n1) fun h' e k he => hE h' e (fun b o nb q => k b o ((Heap.SameBut.update ..).extBut b o nb q)) he))))
theorem next_list_end_hot {it l x1 : Addr} {i : Nat} {items : Array Value} {Q : Option Value → Shared → Prop} (hot : HotAt A x1 s.heap) (n1 : x1 ≠ it) (hit : s.heap.IsListIter it l i) (hl : s.heap.IsList l items) (hx : items[i]? = none)
    (hQ : ∀ h', KpB it s.heap h' → Q none { s with heap := h' }) : wpAny (model prog w) A (pyNext (.ref it)) Q E s := by
  unfold pyNext
  refine wpAny_bind (wpAny_attempt (wpAny_callSpecial?_slot (name := Str.ofString "__next__") hit.typeIs slot_listiter_next (wpAny_call_entry slot_listiter_next hit.typeIs entry_listiter_next
    (list_end_hot hot n1 hit hl hx fun h' e k he => ?_) (args_listiter_next _))))
  obtain ⟨o, go, co⟩ := he
  exact wpAny_bind (wpAny_isInstance (T := "StopIteration") (b := true) ⟨o, go, co⟩ isSubtype_stop (wpAny_pure (hQ _ k)))
theorem next_tuple_end_hot {it l x1 : Addr} {i : Nat} {items : Array Value} {Q : Option Value → Shared → Prop} (hot : HotAt A x1 s.heap) (n1 : x1 ≠ it) (hit : IsTupIter s.heap it l i) (hl : IsTup s.heap l items) (hx : items[i]? = none)
    (hQ : ∀ h', KpB it s.heap h' → Q none { s with heap := h' }) : wpAny (model prog w) A (pyNext (.ref it)) Q E s := by
  unfold pyNext
  refine wpAny_bind (wpAny_attempt (wpAny_callSpecial?_slot (name := Str.ofString "__next__") hit.typeIs slot_tupleiter_next (wpAny_call_entry slot_tupleiter_next hit.typeIs entry_tupleiter_next
    (tuple_end_hot hot n1 hit hl hx fun h' e k he => ?_) (args_tupleiter_next _))))
  obtain ⟨o, go, co⟩ := he
  exact wpAny_bind (wpAny_isInstance (T := "StopIteration") (b := true) ⟨o, go, co⟩ isSubtype_stop (wpAny_pure (hQ _ k)))
theorem nextOf_end_hot {it l x1 : Addr} {i : Nat} {items : Array Value} {Q : Value → Shared → Prop} (hot : HotAt A x1 s.heap) (n1 : x1 ≠ it) (hit : s.heap.IsListIter it l i) (hl : s.heap.IsList l items) (hx : items[i]? = none)
    (hE : ∀ h' e, KpB it s.heap h' → (∃ o, h'.get? e = some o ∧ o.cls = .type "StopIteration") → E (.ref e) { s with heap := h' }) :
    wpAny (model prog w) A (Builtin.SmallTypes.nextOf (.ref it)) Q E s := by
  unfold Builtin.SmallTypes.nextOf
  exact wpAny_bind (wpAny_callSpecial?_slot (name := Str.ofString "__next__") hit.typeIs slot_listiter_next (wpAny_call_entry slot_listiter_next hit.typeIs entry_listiter_next
    (list_end_hot hot n1 hit hl hx hE) (args_listiter_next _)))
/-- a tuple is taken apart -/
theorem unpack_hot {env : Env} {elts : List Expr} {k1} {pos : Pos} {t x1 : Addr} {items : Array Value} {Q : Unit → Shared → Prop} (hot : HotAt A x1 s.heap) (ht : IsTup s.heap t items)
    (hn : (assignEach elts env).length = items.size) (hstar : (assignEach elts env).findIdx? (·.1) = none)
    (h : ∀ h', KpB s.heap.objs.size s.heap h' → wpAny (model prog w) A (assignInOrder ((assignEach elts env).map (·.2)) items.toList) Q E { s with heap := h' }) :
    wpAny (model prog w) A (assign (.Tuple elts k1 pos) env (.ref t)) Q E s := by
  have lt : t ≠ s.heap.objs.size := by obtain ⟨o, ho, _⟩ := ht; exact Nat.ne_of_lt (Heap.lt_size ho)
  have lx : x1 ≠ s.heap.objs.size := by obtain ⟨_, o, _, ho, _⟩ := hot; exact Nat.ne_of_lt (Heap.lt_size ho)
  rw [assign_Tuple]
  refine wpAny_bind (wpAny_standAt ?_)
  unfold unpack
  rw [hn, hstar]
  refine wpAny_bind (wpAny_holding ?_)
  unfold unpackItems notIterableAtAll
  refine wpAny_bind (wpAny_bind (wpAny_specialOf ht.typeIs slot_tuple_iter.lookup (wpAny_pure ?_)))
  rw [if_neg (by decide)]
  refine wpAny_bind (wpAny_holding (iter_tuple ht (wpAny_bind (wpAny_holding (draw_tuple lt items.size 0 _ _ ⟨_, Heap.get?_push_size _ rfl, rfl, rfl⟩ (ht.push _) (by omega) fun h₁ it₁ sb => ?_)))))
  have all : ((items.toList.drop 0).take items.size) = items.toList := by
    rw [List.drop_zero]; exact List.take_of_length_le (by simp)
  rw [all, if_neg (by simp)]
  refine wpAny_bind (wpAny_holding (next_tuple_end_hot (s := { s with heap := h₁ }) (hot_but (hot_but hot (it := s.heap.objs.size) (fun b o _ q => Heap.get?_push_of_some _ q) lx) (fun b o nb q => sb.extBut b o nb q) lx) lx it₁ ((ht.push _).extBut sb.extBut lt) (by simp) fun h₂ k₂ => ?_))
  simp only [Option.isSome_none, Bool.false_eq_true, if_false]
  exact wpAny_pure (h h₂ fun b o nb q => k₂ b o nb (sb.extBut b o nb (Heap.get?_push_of_some _ q)))
/-- a zip of two lists comes to its end -/
theorem zip_end_hot {z TI TO i1 i2 l1 l2 x1 : Addr} {k1 k2 : Nat} {xs ys : Array Value} {a b : Value} {Q : Fin → Shared → Prop} (hot : HotAt A x1 s.heap) (nz : x1 ≠ z) (n1 : x1 ≠ i1) (n2 : x1 ≠ i2) (nT : x1 ≠ TO) (D : ZipApart z TI TO i1 i2 l1 l2)
    (hz : IsZip s.heap z TI TO .none) (hTI : IsPair s.heap TI (.ref i1) (.ref i2)) (hTO : IsPair s.heap TO a b) (h1 : s.heap.IsListIter i1 l1 k1) (h2 : s.heap.IsListIter i2 l2 k2) (hl1 : s.heap.IsList l1 xs) (hl2 : s.heap.IsList l2 ys) (hend : xs[k1]? = none ∨ ys[k2]? = none)
    (hE : ∀ h' e, (∀ c o, c ∉ [z, TO, i1, i2] → s.heap.get? c = some o → h'.get? c = some o) → (∃ o, h'.get? e = some o ∧ o.cls = .type "StopIteration") → E (.ref e) { s with heap := h' }) :
    wpAny (model prog w) A (Builtin.«zip.__next__» ⟨[.ref z], []⟩) Q E s := by
  have nm : ∀ {c : Addr}, c ∉ [z, TO, i1, i2] → c ≠ z ∧ c ≠ TO ∧ c ≠ i1 ∧ c ≠ i2 := fun {c} q => ⟨fun e => q (by simp [e]), fun e => q (by simp [e]), fun e => q (by simp [e]), fun e => q (by simp [e])⟩
  show wpAny _ _ (field (.ref z) 2 >>= _) _ _ _
  refine wpAny_bind (wpAny_field hz rfl (x := .bool false) rfl (wpAny_bind (wpAny_field hz rfl (x := .ref TI) rfl (wpAny_bind (wpAny_seqItems hTI rfl ?_)))))
  show wpAny _ _ (Builtin.SmallTypes.ownedTupleIsFree (.ref z) >>= _) _ _ _
  unfold Builtin.SmallTypes.ownedTupleIsFree
  refine wpAny_bind (wpAny_bind (wpAny_field hz rfl (x := .none) rfl (wpAny_pure ?_)))
  simp only [if_true]
  refine wpAny_bind (wpAny_rule (wpAny_bind (wpAny_field hz rfl (x := .ref TO) rfl (wpAny_bind (wpAny_setField_rec hz (by simp) fun ha za sa => ?_)))))
  have za : IsZip ha z TI TO .ellipsis := za
  have kza := sa.extBut
  refine wpAny_bind ?_
  simp only [List.zipIdx_cons, List.zipIdx_nil, List.forIn_cons, List.forIn_nil]
  refine wpAny_bind (wpAny_bind (wpAny_onRaise ?_))
  show wpAny _ _ (Builtin.SmallTypes.nextOf (.ref i1) >>= _) _ _ _
  have hota : HotAt A x1 ha := hot_but hot (fun b o nb q => kza b o nb q) nz
  cases hx : xs[k1]? with
  | none =>
    refine wpAny_bind (nextOf_end_hot (s := { s with heap := ha }) hota n1 (h1.extBut kza D.i1z) (hl1.extBut kza D.l1z) hx fun hb e kb ⟨oe, ge, ce⟩ => ?_)
    have zb : IsZip hb z TI TO .ellipsis := kb _ _ D.i1z.symm za
    have ez : e ≠ z := fun q => by rw [q, zb] at ge; cases ge; simp at ce
    exact wpAny_setField_rec zb (by simp) fun hc _ sc => hE hc e (fun c o q g => sc.extBut _ _ (nm q).1 (kb _ _ (nm q).2.2.1 (kza _ _ (nm q).1 g))) ⟨oe, sc.extBut _ _ ez ge, ce⟩
  | some x =>
    have hy : ys[k2]? = none := by
      rcases hend with q | q
      · rw [hx] at q; cases q
      · exact q
    refine wpAny_bind (wpAny_nextOf_list_item (h1.extBut kza D.i1z) (hl1.extBut kza D.l1z) hx fun hb ib sb => wpAny_pure ?_)
    have tb : IsPair hb TO a b := sb.extBut _ _ D.TOi1 (kza _ _ D.TOz hTO)
    refine wpAny_bind (wpAny_seqItems tb rfl (wpAny_bind (wpAny_updateSeq_pair tb fun hc tc sc => wpAny_bind (wpAny_letGo (wpAny_pure ?_)))))
    refine wpAny_bind (wpAny_bind (wpAny_onRaise ?_))
    show wpAny _ _ (Builtin.SmallTypes.nextOf (.ref i2) >>= _) _ _ _
    have hotc : HotAt A x1 hc := hot_but (hot_but hota (fun b o nb q => sb.extBut b o nb q) n1) (fun b o nb q => sc.extBut b o nb q) nT
    refine wpAny_bind (nextOf_end_hot (s := { s with heap := hc }) hotc n2 (((h2.extBut kza D.i2z).extBut sb.extBut D.i12.symm).extBut sc.extBut D.TOi2.symm) (((hl2.extBut kza D.l2z).extBut sb.extBut D.l2i1).extBut sc.extBut D.l2TO) hy fun hd e kd ⟨oe, ge, ce⟩ => ?_)
    have zd : IsZip hd z TI TO .ellipsis := kd _ _ D.i2z.symm (sc.extBut _ _ D.TOz.symm (sb.extBut _ _ D.i1z.symm za))
    have ez : e ≠ z := fun q => by rw [q, zd] at ge; cases ge; simp at ce
    exact wpAny_setField_rec zd (by simp) fun hf _ sf => hE hf e (fun c o q g => sf.extBut _ _ (nm q).1 (kd _ _ (nm q).2.2.2 (sc.extBut _ _ (nm q).2.1 (sb.extBut _ _ (nm q).2.2.1 (kza _ _ (nm q).1 g))))) ⟨oe, sf.extBut _ _ ez ge, ce⟩
theorem next_zip_end_hot {z TI TO i1 i2 l1 l2 x1 : Addr} {k1 k2 : Nat} {xs ys : Array Value} {a b : Value} {Q : Option Value → Shared → Prop} (hot : HotAt A x1 s.heap) (nz : x1 ≠ z) (n1 : x1 ≠ i1) (n2 : x1 ≠ i2) (nT : x1 ≠ TO) (D : ZipApart z TI TO i1 i2 l1 l2)
    (hz : IsZip s.heap z TI TO .none) (hTI : IsPair s.heap TI (.ref i1) (.ref i2)) (hTO : IsPair s.heap TO a b) (h1 : s.heap.IsListIter i1 l1 k1) (h2 : s.heap.IsListIter i2 l2 k2) (hl1 : s.heap.IsList l1 xs) (hl2 : s.heap.IsList l2 ys) (hend : xs[k1]? = none ∨ ys[k2]? = none)
    (hQ : ∀ h', (∀ c o, c ∉ [z, TO, i1, i2] → s.heap.get? c = some o → h'.get? c = some o) → Q none { s with heap := h' }) : wpAny (model prog w) A (pyNext (.ref z)) Q E s := by
  have ty : s.TypeIs (.ref z) "zip" := ⟨_, hz, rfl⟩
  unfold pyNext
  refine wpAny_bind (wpAny_attempt (wpAny_callSpecial?_slot (name := Str.ofString "__next__") ty F.slot_zip_next (wpAny_call_entry F.slot_zip_next ty F.entry_zip_next (zip_end_hot hot nz n1 n2 nT D hz hTI hTO h1 h2 hl1 hl2 hend fun h' e k ⟨o, go, co⟩ => ?_) (F.args_zip_next_1 _))))
  exact wpAny_bind (wpAny_isInstance (T := "StopIteration") (b := true) ⟨o, go, co⟩ isSubtype_stop (wpAny_pure (hQ _ k)))
end
end FW
namespace FW
open PySem PySem.Spec PyProof.Rows L2 L2H HotX
/-! ### the layer's walks while an exception is handled -/
theorem hot_at {X : Cx} {pins : List (Addr × Obj)} {σ : L2.St} {H : Hp} {s : Shared} (c : HotC X) (I : Inv X pins σ H s) : ∃ x1, HotAt X.A x1 s.heap ∧ ∀ b, FpOk X pins H b → x1 ≠ b := by
  obtain ⟨p, ⟨hh, v1, e1, c1⟩, hp⟩ := c
  exact ⟨p.1, ⟨hh, p.2, v1, (I.pin p (List.mem_append_left _ hp)).1, e1, c1⟩, fun b f => f.2.2.2.2.2 p (List.mem_append_left _ hp)⟩
theorem turnH_list {P : Program} {w : World} {K : PySem.W.Frag} {tg : Expr} (a it : Addr) : TurnH P w K tg (Itl K a) [it] it (fun i h => h.IsListIter it a i) where
  mem := List.mem_cons_self
  obj := (turn_list (P := P) (w := w) (K := K) (tg := tg) a it).obj
  keep := (turn_list (P := P) (w := w) (K := K) (tg := tg) a it).keep
  self := (turn_list (P := P) (w := w) (K := K) (tg := tg) a it).self
  item := by
    rintro X rfl rfl rfl _ i pins s σ H E I ff st ⟨xs, x, sq, ex⟩
    obtain ⟨us, rs, pl, _⟩ := I.list sq
    obtain ⟨u, eu, ru⟩ := rs.get ex
    have fi := ff it List.mem_cons_self
    refine wpAny_pyNext_list_item st pl.isList (x := u) (by simpa using eu) fun g sg sb => ?_
    obtain ⟨o, go, co, dO⟩ := id sg
    refine ⟨u, rfl, go_of (s := { s with heap := g }) go co dO (by decide) ⟨x, H, I.turnedL (t' := s.toks) (ch := [it]) (fun b o nb q => (sb.2 b (fun z => nb (by simp [z]))).trans q) ff, ru, ⟨rfl, fun ys hy => ?_⟩, sg, fun b hb => (ff b hb).1⟩⟩
    rw [I.list_inj hy sq]; exact ex
  done := by
    rintro X rfl rfl rfl hc i pins s σ H E I ff st ⟨xs, sq, ex⟩
    obtain ⟨us, rs, pl, _⟩ := I.list sq
    obtain ⟨x1, hot, ne⟩ := hot_at hc I
    have := rs.length
    exact next_list_end_hot hot (ne it (ff it List.mem_cons_self)) st pl.isList (by simp; omega) fun g kg => ⟨rfl, I.turnedL (t' := s.toks) (ch := [it]) (fun b o nb q => kg b o (fun z => nb (by simp [z])) q) ff⟩
theorem turnH_zip {P : Program} {w : World} {K : PySem.W.Frag} {elts : List Expr} {kk : Nat} {tpos : Pos} {a b z TI TO i1 i2 : Addr} (D : ZipApart z TI TO i1 i2 a b) :
    TurnH P w K (.Tuple elts kk tpos) (Itz K a b) [z, TI, TO, i1, i2] z (fun i h => IsZip h z TI TO .none ∧ IsPair h TI (.ref i1) (.ref i2) ∧ (∃ x y, IsPair h TO x y) ∧ h.IsListIter i1 a i ∧ h.IsListIter i2 b i) where
  mem := List.mem_cons_self
  obj := (turn_zip (P := P) (w := w) (K := K) (elts := elts) (kk := kk) (tpos := tpos) D).obj
  keep := (turn_zip (P := P) (w := w) (K := K) (elts := elts) (kk := kk) (tpos := tpos) D).keep
  self := (turn_zip (P := P) (w := w) (K := K) (elts := elts) (kk := kk) (tpos := tpos) D).self
  item := by
    rintro X rfl rfl rfl _ i pins s σ H E I ff st ⟨xs, ys, x, y, sx, sy, ex, ey⟩
    have lt : ∀ c ∈ [z, TI, TO, i1, i2], c < s.heap.objs.size := fun c hc => by
      obtain ⟨o, g, _⟩ := (turn_zip (P := X.prog) (w := X.w) (K := X.K) (elts := elts) (kk := kk) (tpos := tpos) D).obj i _ st c hc
      exact Heap.lt_size g
    obtain ⟨fz, fI, ⟨x0, y0, fO⟩, f1, f2⟩ := st
    obtain ⟨us, rs, pl, _⟩ := I.list sx
    obtain ⟨ws, rt, pm, _⟩ := I.list sy
    obtain ⟨u, eu, ru⟩ := rs.get ex
    obtain ⟨v, ev, rv⟩ := rt.get ey
    refine wpAny_pyNext_zip_item D fz fI fO f1 f2 pl.isList pm.isList (x := u) (y := v) (by simpa using eu) (by simpa using ev) fun g gz gO g1 g2 gT gs gk => ?_
    refine ⟨_, rfl, wpAny_letOwnedTupleGo_zip (s := { s with heap := g }) gz fun g' z' sb => ?_⟩
    have up : ∀ c o, c ≠ z → g.get? c = some o → g'.get? c = some o := fun c o n q => (sb.2 c n).trans q
    have tz : s.heap.objs.size ≠ z := Nat.ne_of_gt (lt z (by simp))
    have kp : ∀ c o, c ∉ [z, TI, TO, i1, i2] → s.heap.get? c = some o → g'.get? c = some o := fun c o n q => up c o (fun e => n (by simp [e])) (gk c o (fun e => n (by simp [e])) (fun e => n (by simp [e])) (fun e => n (by simp [e])) (fun e => n (by simp [e])) q)
    refine ⟨.ref s.heap.objs.size, _, I.turnedNew (t' := s.toks) (ob := .tup [x, y]) kp ff (Nat.le_refl _) ⟨by show 2 ≤ sizeLine; decide, [u, v], .cons ru (.cons rv .nil), ⟨_, up _ _ tz gT, rfl, _, rfl⟩⟩, rfl,
      ⟨_, x, y, rfl, I.hok.fresh (Nat.le_refl _), rfl, fun l hl => ?_, fun l hl => ?_⟩, ⟨z', up _ _ D.TIz (gk _ _ D.TIz D.TITO D.TIi1 D.TIi2 fI), ⟨u, v, up _ _ D.TOz gO⟩, g1.at fun o q => up _ o D.i1z q, g2.at fun o q => up _ o D.i2z q⟩, fun c hc => ?_⟩
    · rw [I.list_inj hl sx]; exact ex
    · rw [I.list_inj hl sy]; exact ey
    · rw [upd_ne (Nat.ne_of_lt (lt c hc))]; exact (ff c hc).1
  done := by
    rintro X rfl rfl rfl hc i pins s σ H E I ff ⟨fz, fI, ⟨x0, y0, fO⟩, f1, f2⟩ ⟨xs, ys, sx, sy, en⟩
    obtain ⟨us, rs, pl, _⟩ := I.list sx
    obtain ⟨ws, rt, pm, _⟩ := I.list sy
    obtain ⟨x1, hot, ne⟩ := hot_at hc I
    have := rs.length
    have := rt.length
    refine next_zip_end_hot hot (ne _ (ff _ (by simp))) (ne _ (ff _ (by simp))) (ne _ (ff _ (by simp))) (ne _ (ff _ (by simp))) D fz fI fO f1 f2 pl.isList pm.isList (en.elim (fun q => .inl (by simp; omega)) fun q => .inr (by simp; omega)) fun g kg => ⟨rfl, ?_⟩
    exact I.turnedL (t' := s.toks) (ch := [z, TI, TO, i1, i2]) (fun c o n q => kg c o (fun m => n (by simp at m ⊢; rcases m with m | m | m | m <;> simp [m])) q) ff
section
variable {X : Cx} {tg : Expr}
theorem pi_listH {l : Expr} {tl : TE} (hl : PE X l tl) : PIH X tg l (iList X.K tl) := by
  refine ⟨fun pins s σ H R I h => thn (hl.run pins s σ H _ I h) ?_⟩
  rintro v s1 ⟨x, H1, I1, r1, a, rfl, ⟨xs, sq⟩, q⟩
  cases r1
  obtain ⟨us, rs, pl, _⟩ := I1.list sq
  refine wpAny_pyIter_list pl.isList ⟨s1.heap.objs.size, [s1.heap.objs.size], _, _, H1, rfl, I1.kept (t' := s1.toks) fun b o e => Heap.get?_push_of_some _ e, turnH_list a _, ⟨_, Heap.get?_push_size _ rfl, rfl, rfl⟩, fun b hb => ?_, q⟩
  rw [List.mem_singleton.mp hb]
  exact I1.fpOk (Nat.le_refl _) (I1.hok.fresh (Nat.le_refl _))
theorem pi_zipH {e e2 : Expr} {ta : TA} {p pos tpos : Pos} {elts : List Expr} {kk : Nat} (hg : Gl X "zip") (hm : X.mg "zip" = none) (ha : PA X [e, e2] ta)
    (hs : starEach [e, e2] X.env = (false, eval e X.env) :: starEach [e2] X.env := by rfl) (hpl : (backTo pos (starEach [e2] X.env)).any (·.1) = false := by rfl) : PIH X (.Tuple elts kk tpos) (.Call (.Name "zip" p) [e, e2] [] pos) (iZip X.K ta) := by
  refine ⟨fun pins s σ H R I h => Call_ (ld_blt I hg hm PyProof.Rows.boot_zip (PyProof.Rows.callWith_type1 (thn (ha.run pos pins s σ H _ I h) ?_) hs hpl))⟩
  rintro us s1 ⟨vs, H1, I1, r1, a, b, xs, ys, rfl, sx, sy, q⟩
  cases r1 with
  | cons r rr => cases rr with
    | cons r' rr =>
      cases rr
      cases r
      cases r'
      obtain ⟨_, _, pl, _⟩ := I1.list sx
      obtain ⟨_, _, pm, _⟩ := I1.list sy
      refine call_zip_2 pl.isList pm.isList fun g gz gI gO g1 g2 _ gk => wpAny_pyIter_zip gz ⟨s1.heap.objs.size + 4, [s1.heap.objs.size + 4, s1.heap.objs.size + 2, s1.heap.objs.size + 3, s1.heap.objs.size, s1.heap.objs.size + 1], _, _, H1, rfl, I1.kept (t' := s1.toks) gk,
        turnH_zip (PySem.W.ktu_apart s1.heap.objs.size a b pl.lt pm.lt), ⟨gz, gI, ⟨_, _, gO⟩, g1, g2⟩, fun c hc => ?_, q⟩
      have le : s1.heap.objs.size ≤ c := by
        simp at hc
        rcases hc with rfl | rfl | rfl | rfl | rfl <;> omega
      exact I1.fpOk le (I1.hok.fresh le)
theorem pg_tupH {pos : Pos} {es : List Expr} {k : Nat} {t : TGs} {n : Nat} (hc : HotC X) (h : PGs X es t) (hn : (assignEach es X.env).length = n := by rfl) (hst : (assignEach es X.env).findIdx? (·.1) = none := by rfl) : PG X (.Tuple es k pos) (gTup X.K n t) := by
  refine ⟨?_⟩
  rintro pins s σ H v u Q I r ⟨a, xs, rfl, sq, ln, q⟩
  cases r
  obtain ⟨us, rs, it, _⟩ := I.tuple sq
  obtain ⟨x1, hot, _⟩ := hot_at hc I
  refine unpack_hot hot it (by simp [hn, ← ln, rs.length]) hst fun g kg => ?_
  exact h.run pins _ σ H xs _ Q (I.kept (t' := s.toks) fun b o e => kg b o (Nat.ne_of_lt (Heap.lt_size e)) e) (by simpa using rs) q
end
/-! ### a comprehension while an exception is handled -/
/-- the block's context, which bears the handled exception -/
abbrev blkP (X : Cx) (s : Shared) (H : Hp) (scope : Scope) (ce : Env) (fp : List Addr) (p : Addr × Obj) : Cx := { X.blk s H scope ce fp with pn := [p] }
theorem inv_blkP {X : Cx} {s s' : Shared} {H H' : Hp} {scope : Scope} {ce : Env} {fp : List Addr} {p : Addr × Obj} {σ : L2.St} (I : Inv (X.blk s H scope ce fp) [] σ H' s')
    (g : s'.heap.get? p.1 = some p.2 ∧ H' p.1 = none ∧ p.1 ≠ ce.locals ∧ p.1 ∉ frs X.stack ∧ ∀ v, p.2.data ≠ .cell v) : Inv (blkP X s H scope ce fp p) [] σ H' s' :=
  ⟨⟨I.ok.mod, I.ok.kind, I.ok.glob, I.ok.blt, I.ok.above, I.ok.inj, I.ok.has, I.ok.cab, I.ok.hd, I.ok.frames, I.ok.stk, I.ok.exf, I.ok.bs, I.ok.bsz, I.ok.noex, I.ok.exfs, I.ok.funs, I.ok.frf⟩, I.os, I.bare, I.base, I.loc, I.cell, I.free, I.freeC,
    fun q hq => by
      have e : q = p := by simpa using (show q ∈ [p] ++ ([] : List (Addr × Obj)) from hq)
      rw [e]; exact g, I.hok, I.len⟩
end FW
namespace FW
open PySem PySem.Spec PyProof.Rows L2 L2H HotX
section
variable {X : Cx} {tg iter elt : Expr} {ifs : List Expr} {scope : Scope} {own : List (Str × Nat)} {g : TG} {tt : TT} {te : TE}
/-- the rounds of a comprehension's block: from the block's state to what is behind the last round -/
theorem lcH_rounds {s3 : Shared} {H3 : Hp} {ce : Env} {fp : List Addr} {p : Addr × Obj} {tn : Nat → Heap → Prop} {J : It} {it D : Addr} {σ0 : L2.St} {W : Nat → Nat → Hp → Prop} {Q : VK} {R : Result → Shared → Prop} {pos : Pos} {vs : List Nat} {s4 : Shared} {m0 : Nat}
    (hot : HotC (blkP X s3 H3 scope ce fp p)) (T : TurnH X.prog X.w X.K tg J fp it tn) (pg : PG (blkP X s3 H3 scope ce fp p) tg g) (pt : PTs (blkP X s3 H3 scope ce fp p) ifs tt) (pe : PE (blkP X s3 H3 scope ce fp p) elt te)
    (npin : ∀ b ∈ fp, p.1 ≠ b)
    (I4 : Inv (blkP X s3 H3 scope ce fp p) [] (wipe σ0 vs) H3 s4) (st4 : tn 0 s4.heap) (n4 : ∀ b ∈ fp, H3 b = none) (w0 : W 0 m0 H3)
    (turn : ∀ i m H, W i m H → (J.stop i H ∧ Q (.ref D) H) ∨ (J.go i H ∧ ∃ Nx : Hp → Prop, (∀ H', Nx H' → ∃ m', m' < m ∧ W (i + 1) m' H') ∧ ∀ x H', J.yld i H x H' → g x (wipe σ0 vs) H' fun σ2 H2 => wipe σ2 vs = wipe σ0 vs ∧ tt σ2 H2 fun b H3 =>
      if b = true then te σ2 H3 fun y H4 => ∃ acc, H4 D = some (.lst acc) ∧ acc.length < sizeLine ∧ Nx (upd H4 D (.lst (acc ++ [y]))) else Nx H3))
    (fin : ∀ H5 s6, Inv (blkP X s3 H3 scope ce fp p) [] (wipe σ0 vs) H5 s6 → Q (.ref D) H5 → R (.ok .next) s6) :
    codeAny (model X.prog X.w) X.A (.compLoop (.ListComp elt [⟨tg, iter, ifs, 0⟩] scope pos) 0 (.ref it) (.ref D) ce) R s4 := by
  have fpk : ∀ {σ' : L2.St} {H' : Hp} {s' : Shared}, Inv (blkP X s3 H3 scope ce fp p) [] σ' H' s' → (∀ b ∈ fp, H' b = none) → ∀ b ∈ fp, FpOk (blkP X s3 H3 scope ce fp p) [] H' b := fun {σ' H' s'} I n b hb =>
    ⟨n b hb, (I.ok.exf b hb).1, I.ok.exfs b hb, .inl hb, fun x c e => (I.ok.exf b hb).2 x c e, fun q hq => by
      have e : q = p := by simpa using (show q ∈ [p] ++ ([] : List (Addr × Obj)) from hq)
      rw [e]; exact npin b hb⟩
  refine compLoop_any (fun n s' => ∃ i H', Inv (blkP X s3 H3 scope ce fp p) [] (wipe σ0 vs) H' s' ∧ tn i s'.heap ∧ (∀ b ∈ fp, H' b = none) ∧ W i n H') ?_ m0 ⟨0, H3, I4, st4, n4, w0⟩
  rintro n s5 ⟨i, H5, I5, st5, n5, w5⟩
  rcases turn i n H5 w5 with ⟨stop, qe⟩ | ⟨go, Nx, less, step⟩
  · refine thnF (T.done (blkP X s3 H3 scope ce fp p) rfl rfl rfl hot i [] s5 _ H5 (fun _ _ => False) I5 (fpk I5 n5) st5 stop) ?_
    rintro r s6 ⟨rfl, I6⟩
    exact fin H5 s6 I6 qe
  · refine thnF (T.item (blkP X s3 H3 scope ce fp p) rfl rfl rfl hot i [] s5 _ H5 (fun _ _ => False) I5 (fpk I5 n5) st5 go) ?_
    rintro r s6 ⟨u, rfl, h6⟩
    refine thnF h6 ?_
    rintro _ s7 ⟨x, H7, I7, r7, y7, st7, n7⟩
    refine thnF (pg.run _ s7 _ H7 x u _ (I7.pinned (fpk I7 n7) (T.obj _ _ st7)) r7 (step x H7 y7)) ?_
    rintro _ s8 ⟨σ8, H8, I8, e8, q8⟩
    refine thnF (pt.run _ s8 σ8 H8 _ I8 q8) ?_
    rintro b s9 ⟨H9, I9, q9⟩
    have again : ∀ {s' : Shared} {H' : Hp}, Inv (blkP X s3 H3 scope ce fp p) ([] ++ pinsAt fp s7.heap) σ8 H' s' → Nx H' → ∃ m, m < n ∧ ∃ i H', Inv (blkP X s3 H3 scope ce fp p) [] (wipe σ0 vs) H' s' ∧ tn i s'.heap ∧ (∀ b ∈ fp, H' b = none) ∧ W i m H' := fun {s' H'} I' nx => by
      obtain ⟨m', lt, w'⟩ := less H' nx
      have pinned : ∀ b ∈ fp, ∀ o, s7.heap.get? b = some o → s'.heap.get? b = some o ∧ H' b = none := fun b hb o e => by
        have z := I'.pin (b, o) (List.mem_append_right _ (List.mem_append_right _ (mem_pinsAt hb e)))
        exact ⟨z.1, z.2.1⟩
      refine ⟨m', lt, i + 1, H', (I'.unpinned (pins := [])).weak (by rw [← e8, wipe_length]) (fun j v e => ?_), T.keep _ _ _ st7 fun b hb o e => (pinned b hb o e).1, fun b hb => ?_, w'⟩
      · rw [← e8] at e
        exact (wipe_some e).1
      · obtain ⟨o, e, _⟩ := T.obj _ _ st7 b hb
        exact (pinned b hb o e).2
    cases b with
    | false =>
      rw [if_neg (by decide)] at q9 ⊢
      exact again I9 q9
    | true =>
      rw [if_pos rfl] at q9 ⊢
      refine thnF (pe.run _ s9 σ8 H9 _ I9 q9) ?_
      rintro z sA ⟨y, HA, IA, rA, acc, eD, ln, nx⟩
      exact app_ok (X := blkP X s3 H3 scope ce fp p) IA eD ln rA fun sB IB => again IB nx
/-- [elt for target in iter if ..] as a value, while an exception is handled -/
theorem pe_lcH {pos : Pos} {wi : TI} (hc : HotC X) (hN : X.N.Nodup) (hi : PIH X tg iter wi) (ok : BlkOk X.N X.env.scope scope own)
    (hg : ∀ (s : Shared) (H : Hp) (C : Addr) (cl : List (Str × Addr)) (fp : List Addr) (p : Addr × Obj), Hot1 X.A p → PG (blkP X s H scope (compEnvC scope cl C X.env) fp p) tg g)
    (ht : ∀ (s : Shared) (H : Hp) (C : Addr) (cl : List (Str × Addr)) (fp : List Addr) (p : Addr × Obj), Hot1 X.A p → PTs (blkP X s H scope (compEnvC scope cl C X.env) fp p) ifs tt)
    (he : ∀ (s : Shared) (H : Hp) (C : Addr) (cl : List (Str × Addr)) (fp : List Addr) (p : Addr × Obj), Hot1 X.A p → PE (blkP X s H scope (compEnvC scope cl C X.env) fp p) elt te)
    (hs : ∀ x, foldedSetIterable iter X.env x = pure x := by intro _; rfl) : PE X (.ListComp elt [⟨tg, iter, ifs, 0⟩] scope pos) (tLc wi g tt te (own.map (·.2))) := by
  refine ⟨fun pins s σ H Q I h => ?_⟩
  obtain ⟨p, hot, hp⟩ := hc
  rw [eval_ListComp]
  have fre : ∀ y ∈ scope.names, y.2 = .free → ∃ c, X.env.cells.lookup y.1 = some c := fun y hy e => (ok.free y hy e).elim (fun k => I.ok.has _ (.inl k)) fun k => I.ok.has _ (.inr k)
  refine wpAny_comprehension_free (use := none) rfl hs (closure_ok fre) ok.kind (fun y hy e => by rw [ok.uniq y hy, e]) (thn (hi.run pins s σ H _ I h) fun xv s1 hx => thn hx ?_)
  rintro itv s2 ⟨it, fp, tn, J, H2, rfl, I2, T, st2, f2, q⟩
  refine wpAny_newObj_type (newEnv_comp ?_) (by show 0 ≤ sizeLine; decide)
  obtain ⟨W, ⟨m0, w0⟩, turn⟩ := q s2.heap.objs.size (I2.hok.fresh (Nat.le_refl _))
  have lt : ∀ b ∈ fp, b < s2.heap.objs.size := fun b hb => by
    obtain ⟨o, e, _⟩ := T.obj _ _ st2 b hb
    exact Heap.lt_size e
  obtain ⟨s3, hs3⟩ : ∃ s3 : Shared, s3 = { s2 with heap := s2.heap.push { cls := .type "list", data := .seq ([] : List Value).toArray } } := ⟨_, rfl⟩
  have I3 : Inv X pins σ (upd H2 s2.heap.objs.size (.lst [])) s3 := by
    rw [hs3]
    exact I2.laid (t' := s2.toks) (fun b o e => Heap.get?_push_of_some _ e) (Nat.le_refl _) ⟨Nat.zero_le _, [], 0, .nil, Heap.get?_push_size _ rfl⟩
  have up : ∀ b o, s2.heap.get? b = some o → s3.heap.get? b = some o := fun b o e => by rw [hs3]; exact Heap.get?_push_of_some _ e
  have sz3 : s3.heap.objs.size = s2.heap.objs.size + 1 := by rw [hs3]; exact Heap.size_push _ _
  have f3 : ∀ b ∈ fp, FpOk X pins (upd H2 s2.heap.objs.size (.lst [])) b ∧ b < s3.heap.objs.size := fun b hb => by
    refine ⟨⟨?_, (f2 b hb).2⟩, by rw [sz3]; exact Nat.lt_succ_of_lt (lt b hb)⟩
    rw [upd_ne (Nat.ne_of_lt (lt b hb))]
    exact (f2 b hb).1
  rw [← hs3]
  obtain ⟨H3, hH3⟩ : ∃ H3 : Hp, H3 = upd H2 s2.heap.objs.size (.lst []) := ⟨_, rfl⟩
  rw [← hH3] at I3 f3 w0
  have I4 := block_start I3 ok hN f3
  have P1 := I3.pin p (List.mem_append_left _ hp)
  have I5 := inv_blkP (p := p) I4 ⟨pushCells_keeps _ _ _ _ (Heap.get?_push_of_some _ P1.1), P1.2.1, Nat.ne_of_lt (Heap.lt_size P1.1), fun m => (List.mem_cons.mp (I3.stkSub p.1 m)).elim P1.2.2.1 P1.2.2.2.1, P1.2.2.2.2⟩
  have st4 : tn 0 (pushCells (s3.heap.push { cls := .type "dict", data := .dict #[] }) scope.names) := T.keep _ _ _ st2 fun b _ o e => pushCells_keeps _ _ _ _ (Heap.get?_push_of_some _ (up _ _ e))
  have loop : codeAny (model X.prog X.w) X.A (.compLoop (.ListComp elt [⟨tg, iter, ifs, 0⟩] scope pos) 0 (.ref it) (.ref s2.heap.objs.size) (compEnvC scope (cellsFrom (s3.heap.objs.size + 1) scope.names (cloFrom X.env.cells scope.names [])) s3.heap.objs.size X.env))
      (compPost (model X.prog X.w) X.A X.xe none (EP X pins σ Q) (.ref s2.heap.objs.size) s3.heap.objs.size) { s3 with heap := pushCells (s3.heap.push { cls := .type "dict", data := .dict #[] }) scope.names } := by
    refine lcH_rounds (vs := own.map (·.2)) ⟨p, hot, List.mem_singleton.mpr rfl⟩ T (hg _ _ _ _ _ p hot) (ht _ _ _ _ _ p hot) (he _ _ _ _ _ p hot) (fun b hb => (f2 b hb).2.2.2.2.2 p (List.mem_append_left _ hp)) I5 st4 (fun b hb => (f3 b hb).1.1) w0 turn ?_
    intro H6 s6 I6 q6
    have I7 : Inv X pins σ H6 s6 := I3.call' (ch := fp) I6.os I6.base I6.hok I6.bare fun b hb => ⟨(f3 b hb).1.2.2.2.1, (f3 b hb).1.2.1, (f3 b hb).1.2.2.2.2.1, (f3 b hb).1.2.2.2.2.2⟩
    obtain ⟨m, ns, _⟩ := I6.loc
    obtain ⟨k0, k1, k2, k3, k4, k5⟩ := I3.fpOk (Nat.le_refl _) (show H6 s3.heap.objs.size = none from I6.free)
    exact ⟨m, ns, fun h'' sb => ⟨.ref s2.heap.objs.size, H6, I7.turned (t' := s6.toks) (fun b o nb e => (sb.2 b nb).trans e) k0 k1 k3 k4 k5, rfl, q6⟩⟩
  exact codeAny_compStart_list loop (T.self X.A 0 _ _ _ st4 loop)
end
end FW
namespace FW
open PySem PySem.Spec PyProof.Rows L2
/-! ### operators on ints, by short names -/
abbrev rAdd : R2 := rI0 fun i j => .int (i + j)
abbrev rSub : R2 := rI0 fun i j => .int (i - j)
abbrev rMul : R2 := rI CMulW fun i j => .int (i * j)
abbrev rDiv : R2 := rI CDivW fun i j => .int (i / j)
abbrev rMod : R2 := rI (fun _ j => 0 < j) fun i j => .int (i % j)
abbrev rPow : R2 := rI CPow fun i j => .int (i ^ j.toNat)
abbrev rShr : R2 := rI (fun _ j => 0 ≤ j) fun i j => .int (i / 2 ^ j.toNat)
abbrev rNeg : V → Hp → VK → Prop := rU fun i => .int (-i)
abbrev rLt : R2 := rI0 fun i j => .bl (decide (i < j))
abbrev rLe : R2 := rI0 fun i j => .bl (decide (i ≤ j))
abbrev rGt : R2 := rI0 fun i j => .bl (decide (j < i))
abbrev rGe : R2 := rI0 fun i j => .bl (decide (j ≤ i))
abbrev rIsN : R2 := fun x y H Q => y = .non ∧ Q (.bl (decide (x = .non))) H
abbrev rNotN : R2 := fun x y H Q => y = .non ∧ Q (.bl (!decide (x = .non))) H
abbrev rAddS : R2 := fun x y H Q => ∃ i j, x = .str i ∧ y = .str j ∧ i.length + j.length ≤ sizeLine ∧ Q (.str (i ++ j)) H
abbrev rAbs : List V → Hp → VK → Prop := fun xs H Q => ∃ i, xs = [.int i] ∧ Q (.int (if i < 0 then -i else i)) H
abbrev rMax2 : List V → Hp → VK → Prop := fun xs H Q => ∃ i j, xs = [.int i, .int j] ∧ Q (.int (if j > i then j else i)) H
abbrev rMin2 : List V → Hp → VK → Prop := fun xs H Q => ∃ i j, xs = [.int i, .int j] ∧ Q (.int (if j < i then j else i)) H
abbrev rInt1 : List V → Hp → VK → Prop := fun xs H Q => (∃ i, xs = [.int i] ∧ Q (.int i) H) ∨ ∃ k, xs = [.bl k] ∧ Q (.int (if k then 1 else 0)) H
abbrev rStrI : List V → Hp → VK → Prop := fun xs H Q => ∃ i, xs = [.int i] ∧ i.natAbs.log2 < 1920 ∧ Q (.str (toString i)) H
abbrev rLenStr : List V → Hp → VK → Prop := fun xs H Q => ∃ z, xs = [.str z] ∧ z.length ≤ sizeLine ∧ Q (.int z.length) H
abbrev rTupS (K : PySem.W.Frag) : List V → Hp → VK → Prop := fun xs H Q => ∃ p ys, xs = [.ref p] ∧ ((SqL K H p ys ∧ ∀ l, H l = none → Q (.ref l) (upd H l (.tup ys))) ∨ (SqT K H p ys ∧ Q (.ref p) H))
abbrev tTru (K : PySem.W.Frag) (ta : TE) : TT := fun σ H Q => ta σ H fun x H' => ∃ k, TruV K x H' k ∧ Q k H'
/-- x op= y -/
abbrev iAdd : TIp := ipI fun i j => i + j
abbrev iSub : TIp := ipI fun i j => i - j
abbrev iMul : TIp := rI CMulW fun i j => .int (i * j)
section
variable {X : Cx}
theorem opAdd : OpR X (binaryOp .Add) rAdd := op_add
theorem opSub : OpR X (binaryOp .Sub) rSub := op_sub
theorem opMul : OpR X (binaryOp .Mult) rMul := op_mulW
theorem opDiv : OpR X (binaryOp .FloorDiv) rDiv := op_fdivW
theorem opMod : OpR X (binaryOp .Mod) rMod := op_mod
theorem opPow : OpR X (binaryOp .Pow) rPow := op_pow
theorem opShr : OpR X (binaryOp .RShift) rShr := op_shr
theorem op_addS : OpR X (binaryOp .Add) rAddS := op_add_str
theorem ipAdd : PIp X .Add iAdd := ip_add
theorem ipSub : PIp X .Sub iSub := ip_sub
theorem ipMul : PIp X .Mult iMul := fun pins s σ H x y v u Q I rx ry h => by
  obtain ⟨i, j, rfl, rfl, hc, q⟩ := h
  obtain ⟨t, rfl⟩ := rx
  obtain ⟨t', rfl⟩ := ry
  exact imul_int ⟨.int (i * j), H, I.tok _, ⟨_, rfl⟩, q⟩ hc.ok
end
/-! ### defs by their promises -/
/-- a def that may be called by its name -/
structure Fn (P : Program) (w : World) (K : PySem.W.Frag) (mg : Str → Option Value) (base : Heap) (CX : CXT) (k : Nat) (x : Str) (sp : Sp) (dvs : List V) : Prop where
  ex : ∃ (f : Addr) (fd : FuncData) (ps : List Str) (ds : List Value), FnOk P w K mg base CX k f fd ps sp ∧ mg x = some (.ref f) ∧ PySem.W.keepIn K (.ref f) = true ∧ Binds K fd ps ds ∧ Vals dvs ds
/-- a method of the class at C -/
structure Mt (P : Program) (w : World) (K : PySem.W.Frag) (mg : Str → Option Value) (base : Heap) (CX : CXT) (k : Nat) (C : Addr) (m : Str) (sp : Sp) (dvs : List V) : Prop where
  ex : ∃ (f : Addr) (fd : FuncData) (ps : List Str) (ds : List Value), Cls K C ∧ Meth K C m f ∧ FnOk P w K mg base CX k f fd ps sp ∧ Binds K fd ps ds ∧ Vals dvs ds
/-- a class that may be made by its name -/
structure Mkr (P : Program) (w : World) (K : PySem.W.Frag) (mg : Str → Option Value) (base : Heap) (CX : CXT) (k : Nat) (x : Str) (C : Addr) (sp : Sp) (dvs : List V) : Prop where
  ex : ∃ (f : Addr) (fd : FuncData) (ps : List Str) (ds : List Value), Mk K C f ∧ FnOk P w K mg base CX k f fd ps sp ∧ mg x = some (.ref C) ∧ Binds K fd ps ds ∧ Vals dvs ds
section
variable {X : Cx} {CX : CXT} {k j : Nat} {C : Addr} {x m : Str} {sp : Sp} {dvs : List V} {p pos apos : Pos} {e o : Expr} {es : List Expr} {ta : TE} {t : TA} {E : XK}
theorem pe_f (c : Fn X.prog X.w X.K X.mg X.base CX0 k x sp dvs) (hr : Room j X.A) (hk : k ≤ j) (hg : Gl X x) (ha : PA X (e :: es) t)
    (hdb : (x == ("__debug__" : Str)) = false := by decide) (he : starEach (e :: es) X.env = (false, eval e X.env) :: starEach es X.env := by rfl) (hpl : (backTo pos (starEach es X.env)).any (·.1) = false := by rfl) :
    PE X (.Call (.Name x p) (e :: es) [] pos) (tCall sp dvs E0 t) := by
  obtain ⟨f, fd, ps, ds, F, hm, kp, b, d⟩ := c.ex
  exact pe_call F (hr.mono hk) hg hm kp b d pass0 ha hdb he hpl
theorem pe_f0 (c : Fn X.prog X.w X.K X.mg X.base CX0 k x sp dvs) (hr : Room j X.A) (hk : k ≤ j) (hg : Gl X x)
    (hdb : (x == ("__debug__" : Str)) = false := by decide) : PE X (.Call (.Name x p) [] [] pos) (tCall sp dvs E0 tNil) := by
  obtain ⟨f, fd, ps, ds, F, hm, kp, b, d⟩ := c.ex
  exact pe_call0 F (hr.mono hk) hg hm kp b d pass0 hdb
theorem pe_m (c : Mkr X.prog X.w X.K X.mg X.base CX0 k x C sp dvs) (hr : Room j X.A) (hk : k + 1 ≤ j) (hg : Gl X x) (ha : PA X (e :: es) t)
    (hdb : (x == ("__debug__" : Str)) = false := by decide) (he : starEach (e :: es) X.env = (false, eval e X.env) :: starEach es X.env := by rfl) (hpl : (backTo pos (starEach es X.env)).any (·.1) = false := by rfl) :
    PE X (.Call (.Name x p) (e :: es) [] pos) (tMake C sp dvs E0 t) := by
  obtain ⟨f, fd, ps, ds, M, F, hm, b, d⟩ := c.ex
  exact pe_make M F (hr.mono hk) hg hm b d pass0 ha hdb he hpl
theorem pe_o {pl : Sem Bool} (c : Mt X.prog X.w X.K X.mg X.base CX0 k C m sp dvs) (hr : Room j X.A) (hk : k ≤ j) (he : PE X o ta) (ha : PA X (e :: es) t)
    (hst : starEach (e :: es) X.env = (false, eval e X.env) :: starEach es X.env := by rfl) (hpl : (backTo pos (starEach es X.env)).any (·.1) = false := by rfl)
    (ht : eval (.Call (.Attribute o m apos) (e :: es) [] pos) X.env = (do
      let ov ← eval o X.env
      standAt apos.atName
      let (f, first) ← holding [ov] (getMethod ov m pl)
      callWith pos f first (backTo pos (starEach (e :: es) X.env)) (backToKw pos (keywordEach [] X.env))) := by rfl) :
    PE X (.Call (.Attribute o m apos) (e :: es) [] pos) (tMeth C m sp dvs E0 ta t) := by
  obtain ⟨f, fd, ps, ds, hc, hm, F, b, d⟩ := c.ex
  exact pe_meth (pl := pl) he hc hm F (hr.mono hk) b d pass0 ha hst hpl ht
theorem pe_o0 {pl : Sem Bool} (c : Mt X.prog X.w X.K X.mg X.base CX0 k C m sp dvs) (hr : Room j X.A) (hk : k ≤ j) (he : PE X o ta)
    (ht : eval (.Call (.Attribute o m apos) [] [] pos) X.env = (do
      let ov ← eval o X.env
      standAt apos.atName
      let (f, first) ← holding [ov] (getMethod ov m pl)
      callWith pos f first (backTo pos (starEach [] X.env)) (backToKw pos (keywordEach [] X.env))) := by rfl) :
    PE X (.Call (.Attribute o m apos) [] [] pos) (tMeth C m sp dvs E0 ta tNil) := by
  obtain ⟨f, fd, ps, ds, hc, hm, F, b, d⟩ := c.ex
  exact pe_meth0 (pl := pl) he hc hm F (hr.mono hk) b d pass0 ht
/-- a module's name that is an int -/
theorem pe_gcI {i : Int} (hg : Gl X x) (h : ∃ t, X.mg x = some (.int i t)) (hd : (x == ("__debug__" : Str)) = false := by decide) : PE X (.Name x pos) (tC (.int i)) := by
  obtain ⟨t, hm⟩ := h
  exact pe_glob hg hm ⟨t, rfl⟩ hd
end
/-! ### defs of the head, by their data -/
section
variable {P : Program} {w : World} {K : PySem.W.Frag} {mg : Str → Option Value} {base : Heap}
/-- a def of the module (no defaults), from its body -/
theorem Fn.mk0 {x : Str} {params : Arguments} {body : List Stmt} {scope : Scope} {f : Addr} {N ps : List Str} {k : Nat} {sp : Sp}
    (F : ∃ fd, FunD K x x params body scope [] [] f fd) (g : mg x = some (.ref f)) (S : FnScope N ps scope)
    (hb : ∀ (kV doc pm : Value) (an : Option Addr) (cdv ct : Value) (us : List Value), us.length = ps.length → bindArgs (PySem.W.fnOf x x params body scope .none kV doc pm an cdv ct) ⟨us, []⟩ = pure (ps.zip us))
    (len : ∀ vs H Q E, sp vs H Q E → vs.length = ps.length)
    (hbody : ∀ (cdv : Value) (A : Around) (outer : List Env) (s : Shared) (H : Hp) (vs : List V) (Q : VK) (E : XK), Room k (A.deeper (envOfC x scope s.heap.objs.size f cdv)) → sp vs H Q E →
      ∃ t, PSs (cxOf CX0 P w K mg base N x scope f cdv A outer s H E).nox body t ∧ t { nx := fun _ H' => Q .non H', rt := Q } (start N vs) H) : Fn P w K mg base CX0 (k + 1) x sp [] := by
  obtain ⟨fd, F⟩ := F
  refine ⟨f, fd, ps, [], ?_, g, F.kp, ?_, .nil⟩
  · refine F.ok S len fun cdv A outer s H vs Q E hr h => ?_
    obtain ⟨t, h1, h2⟩ := hbody cdv A outer s H vs Q E hr h
    exact ⟨t, h1.nox, h2⟩
  · exact F.bindsN fun kV doc pm an cdv ct us hl => hb kV doc pm an cdv ct us hl
/-- a method (no defaults) -/
theorem Mt.mk0 {m qual : Str} {C : Addr} {params : Arguments} {body : List Stmt} {scope : Scope} {f : Addr} {N ps : List Str} {k : Nat} {sp : Sp}
    (c : Cls K C) (me : Meth K C m f) (F : ∃ fd, FunD K m qual params body scope [] [] f fd) (S : FnScope N ps scope)
    (hb : ∀ (kV doc pm : Value) (an : Option Addr) (cdv ct : Value) (us : List Value), us.length = ps.length → bindArgs (PySem.W.fnOf m qual params body scope .none kV doc pm an cdv ct) ⟨us, []⟩ = pure (ps.zip us))
    (len : ∀ vs H Q E, sp vs H Q E → vs.length = ps.length)
    (hbody : ∀ (cdv : Value) (A : Around) (outer : List Env) (s : Shared) (H : Hp) (vs : List V) (Q : VK) (E : XK), Room k (A.deeper (envOfC qual scope s.heap.objs.size f cdv)) → sp vs H Q E →
      ∃ t, PSs (cxOf CX0 P w K mg base N qual scope f cdv A outer s H E).nox body t ∧ t { nx := fun _ H' => Q .non H', rt := Q } (start N vs) H) : Mt P w K mg base CX0 (k + 1) C m sp [] := by
  obtain ⟨fd, F⟩ := F
  refine ⟨f, fd, ps, [], c, me, ?_, ?_, .nil⟩
  · refine F.ok S len fun cdv A outer s H vs Q E hr h => ?_
    obtain ⟨t, h1, h2⟩ := hbody cdv A outer s H vs Q E hr h
    exact ⟨t, h1.nox, h2⟩
  · exact F.bindsN hb
/-- a class by its __init__ (no defaults) -/
theorem Mkr.mk0 {x qual : Str} {C : Addr} {params : Arguments} {body : List Stmt} {scope : Scope} {f : Addr} {N ps : List Str} {k : Nat} {sp : Sp}
    (M : Mk K C f) (g : mg x = some (.ref C)) (F : ∃ fd, FunD K "__init__" qual params body scope [] [] f fd) (S : FnScope N ps scope)
    (hb : ∀ (kV doc pm : Value) (an : Option Addr) (cdv ct : Value) (us : List Value), us.length = ps.length → bindArgs (PySem.W.fnOf "__init__" qual params body scope .none kV doc pm an cdv ct) ⟨us, []⟩ = pure (ps.zip us))
    (len : ∀ vs H Q E, sp vs H Q E → vs.length = ps.length)
    (hbody : ∀ (cdv : Value) (A : Around) (outer : List Env) (s : Shared) (H : Hp) (vs : List V) (Q : VK) (E : XK), Room k (A.deeper (envOfC qual scope s.heap.objs.size f cdv)) → sp vs H Q E →
      ∃ t, PSs (cxOf CX0 P w K mg base N qual scope f cdv A outer s H E).nox body t ∧ t { nx := fun _ H' => Q .non H', rt := Q } (start N vs) H) : Mkr P w K mg base CX0 (k + 1) x C sp [] := by
  obtain ⟨fd, F⟩ := F
  refine ⟨f, fd, ps, [], M, ?_, g, ?_, .nil⟩
  · refine F.ok S len fun cdv A outer s H vs Q E hr h => ?_
    obtain ⟨t, h1, h2⟩ := hbody cdv A outer s H vs Q E hr h
    exact ⟨t, h1.nox, h2⟩
  · exact F.bindsN hb
/-- .. with defaults dvs, of which those behind the first j fill up -/
theorem Mkr.mkD {x qual : Str} {C : Addr} {params : Arguments} {body : List Stmt} {scope : Scope} {f : Addr} {N ps : List Str} {k : Nat} {sp : Sp} {dvs : List V}
    (n j : Nat) (M : Mk K C f) (g : mg x = some (.ref C)) (F : ∃ fd, FunD K "__init__" qual params body scope dvs [] f fd) (S : FnScope N ps scope) (hd : dvs ≠ []) (hn : n + (dvs.length - j) = ps.length)
    (hb : ∀ (T : Addr) (kV doc pm : Value) (an : Option Addr) (cdv ct : Value) (us its : List Value), us.length = n → its.length = dvs.length →
      ∃ k, bindArgs (PySem.W.fnOf "__init__" qual params body scope (.ref T) kV doc pm an cdv ct) ⟨us, []⟩ = seqItems? (.ref T) >>= k ∧ k (some its.toArray) = pure (ps.zip (us ++ its.drop j)))
    (len : ∀ vs H Q E, sp vs H Q E → vs.length = ps.length)
    (hbody : ∀ (cdv : Value) (A : Around) (outer : List Env) (s : Shared) (H : Hp) (vs : List V) (Q : VK) (E : XK), Room k (A.deeper (envOfC qual scope s.heap.objs.size f cdv)) → sp vs H Q E →
      ∃ t, PSs (cxOf CX0 P w K mg base N qual scope f cdv A outer s H E).nox body t ∧ t { nx := fun _ H' => Q .non H', rt := Q } (start N vs) H) : Mkr P w K mg base CX0 (k + 1) x C sp (dvs.drop j) := by
  obtain ⟨fd, F⟩ := F
  obtain ⟨ds, hv, hbn⟩ := F.binds1 (ps := ps) n j hd hn hb
  refine ⟨f, fd, ps, ds, M, ?_, g, hbn, hv⟩
  refine F.ok S len fun cdv A outer s H vs Q E hr h => ?_
  obtain ⟨t, h1, h2⟩ := hbody cdv A outer s H vs Q E hr h
  exact ⟨t, h1.nox, h2⟩
end
/-! ### the head's facts, with one more Bool -/
abbrev AlX : Type := He.AlD × Bool
def obsX (fa : List He.Fa) (fn : List He.DefD) (ex : PySem.W.Frag → Bool) (K : PySem.W.Frag) : AlX := (He.obsD fa fn K, ex K)
def obsXG (n : Nat) (fa : List He.Fa) (fn : List He.DefD) (ex : PySem.W.Frag → Bool) (g : Addr → Option Obj) : AlX := obsX fa fn ex (He.frG g (He.asD g n))
def hookX (n : Nat) (fa : List He.Fa) (fn : List He.DefD) (ex : PySem.W.Frag → Bool) : PySem.W.Hook where
  α := AlX
  obs := fun s => obsXG n fa fn ex s.heap.get?
  val := fun _ => (He.valD fn, true)
  says := fun _ h => ∃ K : PySem.W.Frag, K.In h ∧ He.SaysD fa fn K ∧ ex K = true
  of := fun _ _ e => ⟨_, He.frG_in, congrArg (fun z : AlX => z.1) e, congrArg (fun z : AlX => z.2) e⟩
  keeps := fun _ _ _ ⟨K, hK, c⟩ k => ⟨K, PySem.W.Frag.In.keeps hK k, c⟩
theorem obsXG_eq {n : Nat} {fa : List He.Fa} {fn : List He.DefD} {ex : PySem.W.Frag → Bool} {g : Addr → Option Obj} {s : Shared} (h : ∀ a, g a = s.heap.get? a) : obsXG n fa fn ex g = (hookX n fa fn ex).obs s := by
  have e : g = s.heap.get? := funext h
  rw [e] <;> rfl
end FW
namespace FW
open PySem PySem.Spec PyProof.Rows L2
/-! ### readings, step by step: the main goal first, the side goals behind it -/
section
variable {K : PySem.W.Frag} {σ : L2.St} {H : Hp} {Q : VK} {D : Ends} {ta tb tc te : TE} {tt tu : TT} {ts tv : TS} {tA tA' : TA} {v : V} {i j : Int} {n : Nat} {a : Addr} {xs ys : List V}
theorem s_seq (k : ts { D with nx := tv D } σ H) : tSeq ts tv D σ H := k
theorem s_next (k : D.nx σ H) : tNext D σ H := k
theorem s_asg (k : te σ H fun v H1 => D.nx (σ.set n (some v)) H1) : tAsg te (gName n) D σ H := k
theorem s_asgG {g : TG} (k : te σ H fun v H1 => g v σ H1 D.nx) : tAsg te g D σ H := k
theorem s_ret (k : te σ H D.rt) : tRet te D σ H := k
theorem s_if (k : tt σ H fun b H1 => if b = true then ts D σ H1 else tv D σ H1) : tIfS tt ts tv D σ H := k
theorem s_drop (k : te σ H fun _ H1 => D.nx σ H1) : tDrop te D σ H := k
theorem s_par {m : Nat} (k : tA σ H fun vs H1 => ∃ v w, vs = [v, w] ∧ D.nx ((σ.set n (some v)).set m (some w)) H1) : tPar n m tA D σ H := k
theorem s_par2 {R : V → V → Prop} {x y : V} (k : R x y) : ∃ v w, [x, y] = [v, w] ∧ R v w := ⟨x, y, rfl, k⟩
theorem s_aug {ti : TIp} {x : V} (k : te σ H fun y H1 => ti x y H1 fun z H2 => D.nx (σ.set n (some z)) H2) (h : σ[n]? = some (some x)) : tAug n te ti D σ H := ⟨x, h, k⟩
theorem s_fld {f : Str} (k : te σ H fun y H1 => ta σ H1 fun x H2 => ∃ a C dx fs, x = .ref a ∧ H2 a = some (.ins C dx fs) ∧ Cls K C ∧ NoAttr K C f ∧ fs.length < 1000 ∧ D.nx σ (upd H2 a (.ins C dx (putF f y fs)))) : sFld K ta te f D σ H := k
theorem e_var (k : Q v H) (h : σ[n]? = some (some v)) : tVar n σ H Q := ⟨v, h, k⟩
theorem e_c (k : Q v H) : tC v σ H Q := k
theorem e_op {r : R2} (k : ta σ H fun x H1 => tb σ H1 fun y H2 => r x y H2 Q) : tOp r ta tb σ H Q := k
theorem e_un {r : V → Hp → VK → Prop} (k : ta σ H fun x H1 => r x H1 Q) : tUn r ta σ H Q := k
theorem e_U {g : Int → V} (k : Q (g i) H) : rU g (.int i) H Q := ⟨i, rfl, k⟩
theorem e_I0 {g : Int → Int → V} (k : Q (g i j) H) : rI0 g (.int i) (.int j) H Q := ⟨i, j, rfl, rfl, k⟩
theorem e_I {C : Int → Int → Prop} {g : Int → Int → V} (k : Q (g i j) H) (c : C i j) : rI C g (.int i) (.int j) H Q := ⟨i, j, rfl, rfl, c, k⟩
theorem e_ip {f : Int → Int → Int} (k : Q (.int (f i j)) H) : ipI f (.int i) (.int j) H Q := ⟨i, j, rfl, rfl, k⟩
theorem e_eq {x y : V} (k : Q (.bl (decide (x = y))) H) (h : scal x y = true) : rEq x y H Q := ⟨h, k⟩
theorem e_ne {x y : V} (k : Q (.bl (!decide (x = y))) H) (h : scal x y = true) : rNe x y H Q := ⟨h, k⟩
theorem e_test {R : Bool → Hp → Prop} (k : te σ H fun x H' => ∃ k, x = .bl k ∧ R k H') : tTest te σ H R := k
theorem e_tB {R : Bool → Hp → Prop} (k : te σ H fun x H' => ∃ k, x = .bl k ∧ R k H') : L2.tB te σ H R := k
theorem e_bl {R : Bool → Prop} {b : Bool} (k : R b) : ∃ k, V.bl b = .bl k ∧ R k := ⟨b, rfl, k⟩
theorem e_not {R : Bool → Hp → Prop} (k : tt σ H fun c H1 => R (!c) H1) : tNot tt σ H R := k
theorem e_and {R : Bool → Hp → Prop} (k : tt σ H fun c H1 => if c = true then tu σ H1 R else R false H1) : tAnd tt tu σ H R := k
theorem e_or {R : Bool → Hp → Prop} (k : tt σ H fun c H1 => if c = true then R true H1 else tu σ H1 R) : tOr tt tu σ H R := k
theorem e_andV (k : ta σ H fun x H1 => ∃ c, x = .bl c ∧ if c = true then tb σ H1 Q else Q (.bl false) H1) : tAndV ta tb σ H Q := k
theorem e_orV (k : ta σ H fun x H1 => ∃ c, x = .bl c ∧ if c = true then Q (.bl true) H1 else tb σ H1 Q) : tOrV ta tb σ H Q := k
theorem e_notV (k : ta σ H fun x H1 => ∃ c, x = .bl c ∧ Q (.bl (!c)) H1) : tNotV ta σ H Q := k
theorem e_ifx (k : tt σ H fun c H1 => if c = true then ta σ H1 Q else tb σ H1 Q) : tIf tt ta tb σ H Q := k
theorem e_nil {R : List V → Hp → Prop} (k : R [] H) : tNil σ H R := k
theorem e_cons {R : List V → Hp → Prop} (k : te σ H fun x H1 => tA σ H1 fun xs H2 => R (x :: xs) H2) : tCons te tA σ H R := k
theorem e_call {sp : Sp} {E : XK} (k : tA σ H fun vs H1 => sp vs H1 Q E) : tCall sp [] E tA σ H Q := by
  unfold tCall
  have e : (fun vs H1 => sp (vs ++ []) H1 Q E) = fun vs H1 => sp vs H1 Q E := by funext vs H1; rw [List.append_nil]
  rw [e]; exact k
theorem e_cb {r : List V → Hp → VK → Prop} (k : tA σ H fun vs H1 => r vs H1 Q) : tCB r tA σ H Q := k
theorem e_lst (k : tA σ H fun xs H1 => xs.length ≤ sizeLine ∧ ∀ p, H1 p = none → Q (.ref p) (upd H1 p (.lst xs))) : tLst tA σ H Q := k
theorem e_tup (k : tA σ H fun xs H1 => xs.length ≤ sizeLine ∧ ∀ p, H1 p = none → Q (.ref p) (upd H1 p (.tup xs))) : tTup tA σ H Q := k
theorem e_ixL (k : Q v H) (h : SqL K H a xs) (ha : atI xs i = some v) : rIxL K (.ref a) (.int i) H Q := ⟨a, xs, i, v, rfl, rfl, h, ha, k⟩
theorem e_ixT (k : Q v H) (h : SqT K H a xs) (ha : atI xs i = some v) : rIxT K (.ref a) (.int i) H Q := ⟨a, xs, i, v, rfl, rfl, h, ha, k⟩
theorem e_len (k : Q (.int xs.length) H) (h : SqL K H a xs ∨ SqT K H a xs) : Evl.rLenS K [.ref a] H Q := ⟨a, xs, rfl, h, k⟩
theorem e_int (k : Q (.int i) H) : rInt1 [.int i] H Q := .inl ⟨i, rfl, k⟩
theorem e_intB {b : Bool} (k : Q (.int (if b then 1 else 0)) H) : rInt1 [.bl b] H Q := .inr ⟨b, rfl, k⟩
theorem e_abs (k : Q (.int (if i < 0 then -i else i)) H) : rAbs [.int i] H Q := ⟨i, rfl, k⟩
theorem e_max2 (k : Q (.int (if j > i then j else i)) H) : rMax2 [.int i, .int j] H Q := ⟨i, j, rfl, k⟩
theorem e_min2 (k : Q (.int (if j < i then j else i)) H) : rMin2 [.int i, .int j] H Q := ⟨i, j, rfl, k⟩
theorem e_isN {x : V} (k : Q (.bl (decide (x = .non))) H) : rIsN x .non H Q := ⟨rfl, k⟩
theorem e_notN {x : V} (k : Q (.bl (!decide (x = .non))) H) : rNotN x .non H Q := ⟨rfl, k⟩
theorem e_in {x : V} {neg : Bool} (k : Q (.bl (if neg then !inV x xs else inV x xs)) H) (h : SqL K H a xs ∨ SqT K H a xs) (hx : flatV x = true) (ha : xs.all flatV = true) : rIn K neg x (.ref a) H Q := ⟨a, xs, rfl, h, hx, ha, k⟩
theorem e_chain {r r' : R2} (k : ta σ H fun x H1 => tb σ H1 fun y H2 => r x y H2 fun z H3 => ∃ k, z = .bl k ∧ (if k = true then tc σ H3 fun w' H4 => r' y w' H4 Q else Q (.bl false) H3)) : tChain r r' ta tb tc σ H Q := k
theorem e_fld {f : Str} {C dx : Addr} {fs : List (Str × V)} (k : ta σ H fun x H1 => ∃ a C dx fs v, x = .ref a ∧ H1 a = some (.ins C dx fs) ∧ Cls K C ∧ NoAttr K C f ∧ fs.lookup f = some v ∧ Q v H1) : tFld K ta f σ H Q := k
/-- what a for asks behind its walked thing -/
def ForK (g : TG) (tb : TS) (D : Ends) (σ : L2.St) (J : It) (H : Hp) : Prop := ∃ W : Nat → Nat → L2.St → Hp → Prop, (∃ m, W 0 m σ H) ∧ ∀ i m σ H, W i m σ H →
  (J.stop i H ∧ D.nx σ H) ∨ (J.go i H ∧ ∃ N : L2.St → Hp → Prop, (∀ σ' H', N σ' H' → ∃ m', m' < m ∧ W (i + 1) m' σ' H') ∧ ∀ x H', J.yld i H x H' → g x σ H' fun σ2 H2 => tb { D with nx := N, ct := N, bk := D.nx } σ2 H2)
theorem s_for {wi : TI} {g : TG} (k : wi σ H fun J H1 => ForK g ts D σ J H1) : tFor wi g ts D σ H := k
theorem i_rng1 {R : It → Hp → Prop} (k : tA σ H fun vs H1 => ∃ j : Int, vs = [.int j] ∧ -(2 ^ 62) ≤ j ∧ j < 2 ^ 62 ∧ R (Itr 0 j.toNat) H1) : iRng1 tA σ H R := k
theorem i_rng1' {R : Int → Prop} (k : R j) (h : -(2 ^ 62) ≤ j ∧ j < 2 ^ 62) : ∃ j' : Int, [V.int j] = [.int j'] ∧ -(2 ^ 62) ≤ j' ∧ j' < 2 ^ 62 ∧ R j' := ⟨j, rfl, h.1, h.2, k⟩
theorem i_rng2 {R : It → Hp → Prop} (k : tA σ H fun vs H1 => ∃ i j : Int, vs = [.int i, .int j] ∧ (-(2 ^ 62) ≤ i ∧ i < 2 ^ 62 ∧ -(2 ^ 62) ≤ j ∧ j < 2 ^ 62) ∧ R (Itr i (j - i).toNat) H1) : iRng2 tA σ H R := k
theorem i_rng2' {R : Int → Int → Prop} (k : R i j) (h : -(2 ^ 62) ≤ i ∧ i < 2 ^ 62 ∧ -(2 ^ 62) ≤ j ∧ j < 2 ^ 62) : ∃ i' j' : Int, [V.int i, V.int j] = [.int i', .int j'] ∧ (-(2 ^ 62) ≤ i' ∧ i' < 2 ^ 62 ∧ -(2 ^ 62) ≤ j' ∧ j' < 2 ^ 62) ∧ R i' j' := ⟨i, j, rfl, h, k⟩
theorem i_list {R : It → Hp → Prop} (k : te σ H fun x H1 => ∃ a, x = .ref a ∧ (∃ xs, SqL K H1 a xs) ∧ R (Itl K a) H1) : iList K te σ H R := k
theorem i_tup {R : It → Hp → Prop} (k : te σ H fun x H1 => ∃ a, x = .ref a ∧ (∃ xs, SqT K H1 a xs) ∧ R (Itt K a) H1) : iTup K te σ H R := k
theorem i_list' {R : Addr → Prop} (xs : List V) (k : R a) (h : SqL K H a xs) : ∃ a', V.ref a = .ref a' ∧ (∃ xs, SqL K H a' xs) ∧ R a' := ⟨a, rfl, ⟨xs, h⟩, k⟩
theorem i_tup' {R : Addr → Prop} (xs : List V) (k : R a) (h : SqT K H a xs) : ∃ a', V.ref a = .ref a' ∧ (∃ xs, SqT K H a' xs) ∧ R a' := ⟨a, rfl, ⟨xs, h⟩, k⟩
theorem s_while (W : Nat → L2.St → Hp → Prop) (m : Nat) (h0 : W m σ H) (hs : ∀ m σ H, W m σ H → tt σ H fun b H1 => if b = true then ∃ N : L2.St → Hp → Prop, (∀ σ' H', N σ' H' → ∃ m', m' < m ∧ W m' σ' H') ∧ ts { D with nx := N, ct := N, bk := D.nx } σ H1 else D.nx σ H1) : tWhile tt ts D σ H := ⟨W, ⟨m, h0⟩, hs⟩
/-- what a comprehension asks behind its walked thing -/
def LcK (g : TG) (tt : TT) (te : TE) (vs : List Nat) (σ : L2.St) (Q : VK) (J : It) (H1 : Hp) : Prop := ∀ D, H1 D = none → ∃ W : Nat → Nat → Hp → Prop, (∃ m, W 0 m (upd H1 D (.lst []))) ∧ ∀ i m H, W i m H →
  (J.stop i H ∧ Q (.ref D) H) ∨ (J.go i H ∧ ∃ Nx : Hp → Prop, (∀ H', Nx H' → ∃ m', m' < m ∧ W (i + 1) m' H') ∧ ∀ x H', J.yld i H x H' → g x (wipe σ vs) H' fun σ2 H2 => wipe σ2 vs = wipe σ vs ∧ tt σ2 H2 fun b H3 =>
    if b = true then te σ2 H3 fun y H4 => ∃ acc, H4 D = some (.lst acc) ∧ acc.length < sizeLine ∧ Nx (upd H4 D (.lst (acc ++ [y]))) else Nx H3)
theorem e_lc {wi : TI} {g : TG} {vs : List Nat} (k : wi σ H fun J H1 => LcK g tt te vs σ Q J H1) : tLc wi g tt te vs σ H Q := k
theorem g_sub {t : TSet} {R : L2.St → Hp → Prop} (k : ta σ H fun o H1 => tb σ H1 fun i H2 => t o i v H2 fun H3 => R σ H3) : gSub ta tb t v σ H R := k
theorem g_name {R : L2.St → Hp → Prop} (k : R (σ.set n (some v)) H) : gName n v σ H R := k
theorem g_nil {R : L2.St → Hp → Prop} (k : R σ H) : gNil [] σ H R := ⟨rfl, k⟩
theorem g_cons {g : TG} {gs : TGs} {R : L2.St → Hp → Prop} (k : g v σ H fun σ' H' => gs xs σ' H' R) : gCons g gs (v :: xs) σ H R := ⟨v, xs, rfl, k⟩
theorem g_tup {gs : TGs} {R : L2.St → Hp → Prop} (k : gs xs σ H R) (h : SqT K H a xs) (hl : xs.length = n) : gTup K n gs (.ref a) σ H R := ⟨a, xs, rfl, h, hl, k⟩
theorem e_setL {R : Hp → Prop} {m : Nat} (k : R (upd H a (.lst (xs.set m v)))) (h : H a = some (.lst xs)) (hi : ixN xs.length i = some m) : rSetL (.ref a) (.int i) v H R := ⟨a, xs, i, m, rfl, rfl, h, hi, k⟩
theorem e_yes {R : Bool → Hp → Prop} (k : R true H) : tYes σ H R := k
theorem e_bm {T : String} {r : V → List V → Hp → VK → Prop} (k : ta σ H fun x H1 => tyV K T x H1 ∧ tA σ H1 fun xs H2 => r x xs H2 Q) : tBM K T r ta tA σ H Q := k
theorem e_bm0 {T : String} {r : V → List V → Hp → VK → Prop} (k : ta σ H fun x H1 => tyV K T x H1 ∧ r x [] H1 Q) : tBM0 K T r ta σ H Q := k
theorem e_mk {C : Addr} {sp : Sp} {dvs : List V} {E : XK} (k : tA σ H fun vs H1 => ∀ x dx, H1 x = none → H1 dx = none → dx ≠ x → sp (.ref x :: (vs ++ dvs)) (upd (upd H1 dx (.own x)) x (.ins C dx [])) (fun v H2 => v = .non ∧ Q (.ref x) H2) E) : tMake C sp dvs E tA σ H Q := k
theorem e_mt {C : Addr} {m : Str} {sp : Sp} {dvs : List V} {E : XK} (k : ta σ H fun x H1 => ∃ a dx fs, x = .ref a ∧ H1 a = some (.ins C dx fs) ∧ fs.lookup m = none ∧ tA σ H1 fun vs H2 => sp (x :: (vs ++ dvs)) H2 Q E) : tMeth C m sp dvs E ta tA σ H Q := k
theorem e_fldk {f : Str} (k : ta σ H fun x H1 => ∃ a C dx fs v, x = .ref a ∧ H1 a = some (.ins C dx fs) ∧ Cls K C ∧ NoAttr K C f ∧ fs.lookup f = some v ∧ Q v H1) : tFld K ta f σ H Q := k
theorem e_ite {p : Prop} [Decidable p] {A B : Prop} (h1 : p → A) (h2 : ¬ p → B) : if decide p = true then A else B := by
  by_cases h : p
  · rw [if_pos (decide_eq_true h)]; exact h1 h
  · rw [if_neg (by rw [decide_eq_false h]; decide)]; exact h2 h
theorem e_iteN {p : Prop} [Decidable p] {A B : Prop} (h1 : ¬ p → A) (h2 : p → B) : if (!decide p) = true then A else B := by
  by_cases h : p
  · rw [if_neg (by rw [decide_eq_true h]; decide)]; exact h2 h
  · rw [if_pos (by rw [decide_eq_false h]; decide)]; exact h1 h
theorem e_iteB {b : Bool} {A B : Prop} (h1 : b = true → A) (h2 : b = false → B) : if b = true then A else B := by
  cases b
  · rw [if_neg (by decide)]; exact h2 rfl
  · rw [if_pos rfl]; exact h1 rfl
theorem e_T {A B : Prop} (h : A) : if true = true then A else B := by rw [if_pos rfl]; exact h
theorem e_nT {A B : Prop} (h : B) : if (!true) = true then A else B := by rw [if_neg (by decide)]; exact h
theorem e_nF {A B : Prop} (h : A) : if (!false) = true then A else B := by rw [if_pos (by decide)]; exact h
theorem e_F {A B : Prop} (h : B) : if false = true then A else B := by rw [if_neg (by decide)]; exact h
end
/-! ### extensions -/
abbrev Ext (H H' : Hp) : Prop := ∀ a o, H a = some o → H' a = some o
/-- all but the object at p is kept -/
def ExtB (p : Addr) (H H' : Hp) : Prop := ∀ a o, a ≠ p → H a = some o → H' a = some o
theorem Ext.rfl' {H : Hp} : Ext H H := fun _ _ h => h
theorem Ext.tr {H H1 H2 : Hp} (a : Ext H H1) (b : Ext H1 H2) : Ext H H2 := fun x o h => b x o (a x o h)
theorem Ext.new {H : Hp} {p : Addr} {o : HO} (h : H p = none) : Ext H (upd H p o) := fun a u e => by
  rw [upd_ne (ne_of_none e h)]; exact e
theorem Ext.non {H H' : Hp} {p : Addr} (e : Ext H H') (h : H' p = none) : H p = none := by
  cases q : H p with
  | none => rfl
  | some o => rw [e p o q] at h; cases h
theorem Ext.sqL {K : PySem.W.Frag} {H H' : Hp} {a : Addr} {xs : List V} (e : Ext H H') (h : SqL K H a xs) : SqL K H' a xs := Evl.ex_l e h
theorem Ext.sqT {K : PySem.W.Frag} {H H' : Hp} {a : Addr} {xs : List V} (e : Ext H H') (h : SqT K H a xs) : SqT K H' a xs := Evl.ex_t e h
theorem ExtB.of {p : Addr} {H H' : Hp} (e : Ext H H') : ExtB p H H' := fun a o _ h => e a o h
theorem ExtB.tr {p : Addr} {H H1 H2 : Hp} (a : ExtB p H H1) (b : ExtB p H1 H2) : ExtB p H H2 := fun x o n h => b x o n (a x o n h)
theorem ExtB.upd {p : Addr} {H : Hp} {o : HO} : ExtB p H (upd H p o) := fun a u n e => by rw [upd_ne n]; exact e
theorem Ext.upds {H H' : Hp} {p : Addr} {o : HO} (e : Ext H H') (h : H p = Option.none) : Ext H (upd H' p o) := fun a u q => by
  rw [upd_ne (ne_of_none q h)]; exact e a u q
end FW
/-! own errors: class X(FloorError): def __init__(self, f): super().__init__('..'); self.f = f -/
namespace PySem
namespace ErrX
open PySem.W PySem.Calls PyProof.Rows PySem.HandSPX
def eA1 (f : Str) (p1 p2 : Pos) : Arguments := { posonlyargs := [], args := [{ arg := "self", annotation := none, pos := p1 }, { arg := f, annotation := none, pos := p2 }], vararg := none, kwonlyargs := [], kw_defaults := [], kwarg := none, defaults := [] }
def eB1 (f txt : Str) (q1 q2 q3 q4 q5 q6 q7 q8 q9 q10 : Pos) : List Stmt := [.Expr (.Call (.Attribute (.Call (.Name "super" q1) [] [] q2) "__init__" q3) [.Constant (.str txt) 0 q4] [] q5) q6, .Assign [.Attribute (.Name "self" q7) f q8] (.Name f q9) q10]
def eS1 (f : Str) : Scope := { kind := .function, names := [("self", .local), (f, .local), ("__class__", .free), ("super", .globalImplicit)], isGenerator := false, isCoroutine := false, more := [] }
/-- what the written part says of a class at C and of its __init__ at fI -/
structure ErrC (prog : Program) (K : Frag) (C fI : Addr) (f : Str) : Prop where
  cls : ∃ nm q N bs bm sn sub ab col dd k0 k1 k2 k3 k5, K.lookup C = some (excClassObj nm q C N bs bm true sn sub ab col dd k0 k1 k2 k3 k5 "ValueError.__new__") ∧ refsVE bm = true
  sa : findIn K (.ref C) "__setattr__" = some (some (.builtin "object.__setattr__"))
  ga : findIn K (.ref C) "__getattribute__" = some (some (.builtin "BaseException.__getattribute__"))
  gg : findIn K (.ref C) "__getattr__" = some none
  noN : findIn K (.ref C) f = some none
  iC : findIn K (.ref C) "__init__" = some (some (.ref fI))
  tC : typeIn K (.ref fI) = some (.type "function")
  kC : keepIn K (.ref C) = true
  exC : subIn K (.ref C) (.type "BaseException") = some true
  veC : subIn K (.ref C) (.type "ValueError") = some true
  tyC : typeIn K (.ref C) = some (.type "type")
  hdC : hasDictIn K C = true
  mro : mroIn K C (.ref C) = some true
  sup : nsIn K mainGlobals "super" = some none
  tp : nsIn K cStatics "thirdparty.any" = some none
  si : ks_superIn K C C "__init__" = some (some (.builtin "ValueError.__init__"))
  top : (prog.main.scope.names.lookup ("super" : Str)).isSome = false
  fn : ∃ (cc cda : Addr) (qual : Str) (oc : Value) (od : Option Addr) (kV doc pm : Value) (an : Option Addr) (ct : Value) (osl : Array (Option Value)) (txt : Str) (p1 p2 q1 q2 q3 q4 q5 q6 q7 q8 q9 q10 : Pos) (cl ccl : Value) (cld cdd : Option Addr) (csl ccs : Array (Option Value)) (vs : Array Value) (tf : Tok), (q3.endLine == q5.line) = true ∧
    K.lookup fI = some ⟨oc, od, .func (ksFn "__init__" qual (eA1 f p1 p2) (eB1 f txt q1 q2 q3 q4 q5 q6 q7 q8 q9 q10) (eS1 f) .none kV doc pm an (.ref cda) ct cc), osl⟩ ∧ codeIn K (.ref cda) qual = true ∧
    K.lookup cc = some ⟨cl, cld, .cell (some (.ref C)), csl⟩ ∧ K.lookup cda = some ⟨ccl, cdd, .fields vs, ccs⟩ ∧ vs[2]? = some (.str prog.main.file tf)
/-- what __init__ leaves of a fresh exception at x -/
structure InitEnd (h h' : Heap) (x C dx t1 : Addr) (f : Str) (v : Value) : Prop where
  keep : ∀ b o, b ≠ x → h.get? b = some o → h'.get? b = some o
  obj : h'.get? x = some { cls := .ref C, dict := some dx, data := .fields #[.ref t1, .none, .none, .none, .bool false, .none] }
  dbig : h.objs.size ≤ dx
  dne : dx ≠ x
  ns : h'.Ns1 dx (fun y => if y = f then some v else none)
/-- a made one -/
structure OwnMade (h h' : Heap) (e C d : Addr) (f : Str) (v : Value) : Prop where
  keep : ∀ b o, h.get? b = some o → h'.get? b = some o
  new : h.objs.size ≤ e
  obj : ∃ oe vs, h'.get? e = some oe ∧ oe.cls = .ref C ∧ oe.dict = some d ∧ oe.data = .fields vs ∧ vs[1]? = some .none ∧ vs[2]? = some .none
  dbig : h.objs.size ≤ d
  dne : d ≠ e
  ns : h'.Ns1 d (fun y => if y = f then some v else none)
section
variable {prog : Program} {w : World} {A : Around} {E : Value → Shared → Prop} {R : Result → Shared → Prop} {s : Shared} {K : Frag} {mg mb : Str → Option Value} {C fI : Addr} {f : Str}
/-- the bound __init__ called -/
theorem call_mw {h : Heap} {g : Array GenState} {d : Drawn} {tk : Nat} {os : OsState} {u x t0 : Addr} {rest : List Value} {Q : Value → Shared → Prop} {nm q : Str} {N : Addr} {bs bm : List Value} {sn : List Str} {sub : List Value} {ab : Bool} {col : Option Bool} {dd : Option Addr} {k0 k1 k2 k3 k5 : Option Value}
    (hC : h.get? C = some (excClassObj nm q C N bs bm true sn sub ab col dd k0 k1 k2 k3 k5 "ValueError.__new__")) (hx : h.get? x = some (excO C t0)) (hu : h.get? u = some (kxs_mw "ValueError.__init__" x)) (hz : rest.length ≤ sizeLine)
    (hq : ∀ h' t1, (∀ b o, b ≠ x → h.get? b = some o → h'.get? b = some o) → h'.get? x = some (excO C t1) → Q .none ⟨h', g, d, tk, os⟩) :
    wpAny (model prog w) A (call (.ref u) rest) Q E ⟨h, g, d, tk, os⟩ := by
  refine wpAny_call (codeAny_of_tree ?_)
  show wpAny _ A.in1 (callAny (.ref u) ⟨rest, []⟩) _ _ _
  simp only [callAny]
  refine wpAny_bind (wpAny_load hu ?_)
  simp only [kxs_mw, show (Value.type "method-wrapper" == Value.type "method" || Value.type "method-wrapper" == Value.type "builtin_function_or_method" || Value.type "method-wrapper" == Value.type "method-wrapper") = true by decide, if_true]
  refine KFB.if_so (by decide) ?_
  refine wpAny_bind (check_bound_init F.excBase_ValueError.toExcCallFacts hC hx rfl ?_)
  refine wpAny_bind (wpAny_pure (wpAny_pure ?_))
  refine ⟨plainId_quiet F.excBase_ValueError.init.plain _, codeAny_builtin F.excBase_ValueError.initEntry ?_⟩
  exact exc_init_tree (cls := .ref C) (t0 := t0) (dv := none) (c2 := .none) (c3 := .none) (b4 := .bool false) hx hz fun h' k e' _ => hq h' _ k e'
theorem ns_keep {h h' : Heap} {L : Addr} {m : Str → Option Value} (hn : h.Ns L m) (k : ∀ o, h.get? L = some o → h'.get? L = some o) : h'.Ns L m := by
  obtain ⟨oL, esL, epL, eL, rL⟩ := hn
  exact ⟨oL, esL, epL, k _ eL, rL⟩
/-- a method call whose name stands in the row of the call -/
theorem eval_mc {env : Env} {o : Expr} {name txt : Str} {q3 q4 q5 : Pos} (hl : (q3.endLine == q5.line) = true) : eval (.Call (.Attribute o name q3) [.Constant (.str txt) 0 q4] [] q5) env = (do
    let ov ← attributeBase o name env (eval o env)
    standAt q3.atName
    let (f, first) ← holding [ov] (getMethod ov name (do return (← importBound o env).getD true))
    callWith q5 f first (backTo q5 (starEach [.Constant (.str txt) 0 q4] env)) []) := by
  show (do
    let ov ← attributeBase o name env (eval o env)
    standAt q3.atName
    methodCall o name q3 q5 env ov 1 (backTo q5 (starEach [.Constant (.str txt) 0 q4] env)) []) = _
  have hf : methodCallForm 1 (backTo q5 (starEach [.Constant (.str txt) 0 q4] env)) [] = true := rfl
  have hp : methodCallPos true o env q3 q5 = pure q5 := by
    unfold methodCallPos
    rw [hl]
    rfl
  unfold methodCall calleeOf
  rw [hf, hp]
  rfl
theorem err_init (T : ErrC prog K C fI f) (hf : f = "value" ∨ f = "word" ∨ f = "field") {x t0 : Addr} {v : Value} (X : K.In s.heap) (hlim : s.heap.NoLimit) (G : s.heap.Ns mainGlobals mg) (B : s.heap.Ns builtinsNs mb) (hB : ∀ x : Str, x ≠ "__name__" → mb x = bootBuiltins x)
    (hx : s.heap.get? x = some (excO C t0)) (hnx : ¬ (K.lookup x).isSome = true) (hroom : A.depth < recursionLimit)
    (hq : ∀ h' tk dx t1, InitEnd s.heap h' x C dx t1 f v → R (.ok (.ret .none)) { s with heap := h', toks := tk }) :
    codeAny (model prog w) A (.call (.ref fI) ⟨[.ref x, v], []⟩) R s := by
  obtain ⟨cc, cda, qual, oc, od, kV, doc, pm, an, ct, osl, txt, p1, p2, q1, q2, q3, q4, q5, q6, q7, q8, q9, q10, cl, ccl, cld, cdd, csl, ccs, vs, tf, hln, ho, hcd, hcc, hcda, hvs⟩ := T.fn
  obtain ⟨nm, q, N, bs, bm, sn, sub, ab, col, dd, k0, k1, k2, k3, k5, hC, hbm⟩ := T.cls
  have hcl : clsIn K C = some { name := nm, bases := bs, mro := .ref C :: bm, ns := N, qualname := q, hasDict := true, slotNames := sn, subclasses := sub, abstract := ab, collection := col, hasDel := false } := by unfold clsIn; rw [hC] <;> rfl
  obtain ⟨hp, g, d, tk, os⟩ := s
  have hsi : alongIn K "__init__" ((((Value.ref C :: bm)).dropWhile (· != .ref C)).drop 1) = some (some (.builtin "ValueError.__init__")) := by
    have z := T.si
    unfold ks_superIn at z
    rw [hcl] at z
    exact z
  rcases hf with rfl | rfl | rfl
  all_goals
    refine ks_codeAny_call_defAt (fd := ksFn "__init__" qual (eA1 _ p1 p2) (eB1 _ txt q1 q2 q3 q4 q5 q6 q7 q8 q9 q10) (eS1 _) .none kV doc pm an (.ref cda) ct cc) (body := eB1 _ txt q1 q2 q3 q4 q5 q6 q7 q8 q9 q10) (binds := [("self", .ref x), (_, v)])
      hroom (X _ _ ho) rfl hlim (codeRec_of X hcd) rfl (BindsTo.of_eq (by first | rfl | with_unfolding_all rfl)) (fun y hy => (show ∀ y ∈ (eS1 _).names, y.2 ≠ .cell by decide) y hy)
      (fun y hy => by
        rcases List.mem_cons.mp hy with rfl | hy
        · rfl
        · rcases List.mem_cons.mp hy with rfl | hy
          · rfl
          · cases hy) (fun h₁ hns hk₁ => ?_) rfl rfl rfl
    have X₁ : K.In h₁ := X.keeps hk₁
    have hx₁ := hk₁ _ _ hx
    have zL : hp.objs.size < h₁.objs.size := hns.lt
    have hxL : hp.objs.size ≠ x := Nat.ne_of_gt (Heap.lt_size hx)
    -- super().__init__('..')
    show wpAt _ _ _ (execs (_ :: _) _) _ _ _
    refine ks_wpAt_execs_cons (ks_wpAt_Expr_any (ks_wpAt_MethodCall ?_ (eval_mc hln)))
    refine ks_wpAt_super_base (f := fI) (cc := cda) (ar := { arg := "self", annotation := none, pos := p1 }) rfl rfl (by decide) rfl (X₁ _ _ ho) rfl rfl rfl (X₁ _ _ hcda) rfl hvs (beq_self_eq_true _) T.top ?_
    refine ks_loadName_global rfl rfl (loadGlobal_builtin (G.keeps hk₁) (mg_none_of X G T.sup) (B.keeps hk₁) ((hB _ (by decide)).trans (by first | boot_by_name | rfl | kernel_rfl)) ⟨rfl, ?_⟩)
    refine wpAny_loadName_free rfl rfl rfl ⟨_, X₁ _ _ hcc, rfl⟩ ?_
    refine wpAny_loadName_local rfl rfl hns (by rfl) ?_
    refine ks_wpAny_isType_cls (X₁ _ _ hC) rfl ⟨rfl, ?_⟩
    refine ks_wpAny_call_super (X₁ _ _ hC) rfl hx₁ rfl (fun c e => by cases e) (looks_mroIn X₁ T.mro) (fun h₂ hso k₂ => ?_)
    have X₂ : K.In h₂ := X₁.keeps k₂
    have hx₂ := k₂ _ _ hx₁
    have I₂ : InstAt h₂ x (excO C t0) C none := ⟨hx₂, rfl, rfl, trivial⟩
    refine kxs_getMethod kxs_ValueError hso (looks_opaque X₂ T.tp) (l₀ := .ref C :: bm) (fun A Q E s k q => wpAny_bind ((looks_clsIn X₂ hcl) A _ E s k (wpAny_pure q))) rfl X₂ hsi (I₂.type.andThen (looks_subIn X₂ T.veC)) (ks_ne X₂ I₂ hcl) (by decide) ?_
    have k₃ : ∀ b o, h₂.get? b = some o → (h₂.push (kxs_mw "ValueError.__init__" x)).get? b = some o := fun b o e => Heap.get?_push_of_some _ e
    have hmw : (h₂.push (kxs_mw "ValueError.__init__" x)).get? h₂.objs.size = some (kxs_mw "ValueError.__init__" x) := Heap.get?_push_at rfl rfl
    refine kxs_callWith (i := "ValueError.__init__") (x := x) rfl (evalArgs_plain (Calls.spliced_cons ?_))
    show wpAny _ _ (eval (.Constant (.str txt) 0 q4) _) _ _ _
    refine Calls.Constant_str (Calls.spliced_nil ⟨hmw, ?_⟩)
    refine call_mw ((X₂.keeps k₃) _ _ hC) (k₃ _ _ hx₂) hmw (by show 1 ≤ sizeLine; decide) (fun h₄ t1 k₄ hx₄ => ?_)
    -- self.f = f
    have k14 : ∀ b o, b ≠ x → h₁.get? b = some o → h₄.get? b = some o := fun b o hb e => k₄ b o hb (k₃ _ _ (k₂ _ _ e))
    have hn4 := ns_keep hns (k14 _ · hxL)
    have X₄ : K.In h₄ := fun a o e => by
      by_cases ha : a = x
      · subst ha
        have z := X _ _ e
        rw [hx] at z
        exact absurd z (fun z => hnx (by rw [e]; rfl))
      · exact k14 _ _ ha (X₁ _ _ e)
    refine wpAt_of_wpAny ?_
    show wpAny _ _ (execs (_ :: _) _) _ _ _
    refine wpAny_execs_cons (plainObj_wpAny_Assign_Attribute ?_)
    refine wpAny_Name (wpAny_loadName_local rfl rfl hn4 (by rfl) ?_)
    refine wpAny_Name (wpAny_loadName_local rfl rfl hn4 (by rfl) ?_)
    refine set_plain X₄ (ox := excO C t1) (od := none) ⟨hx₄, rfl, rfl, trivial⟩ T.sa ?_
    refine exc_osa X₄ hx₄ hcl (show refsVE (.ref C :: bm) = true from hbm) rfl T.noN (fun h₅ tk₅ dx k₅ dn dne hx₅ hn₅ => ?_)
    show wpAny _ _ (execs _ _) _ _ _
    refine wpAny_execs_nil (hq h₅ tk₅ dx t1 ⟨fun b o hb e => k₅ b o hb (k14 b o hb (hk₁ b o e)), hx₅, ?_, dne, hn₅⟩)
    have z4 : hp.objs.size < h₄.objs.size := hn4.lt
    exact Nat.le_of_lt (Nat.lt_of_lt_of_le z4 dn)
theorem err_made (T : ErrC prog K C fI f) (hf : f = "value" ∨ f = "word" ∨ f = "field") {v : Value} (X : K.In s.heap) (hlim : s.heap.NoLimit) (G : s.heap.Ns mainGlobals mg) (B : s.heap.Ns builtinsNs mb) (hB : ∀ x : Str, x ≠ "__name__" → mb x = bootBuiltins x) (hroom : A.depth + 1 < recursionLimit)
    (hq : ∀ h' tk e d, OwnMade s.heap h' e C d f v → R (.ok (.ret (.ref e))) { s with heap := h', toks := tk }) :
    codeAny (model prog w) A (.call (.ref C) ⟨[v], []⟩) R s := by
  obtain ⟨nm, q, N, bs, bm, sn, sub, ab, col, dd, k0, k1, k2, k3, k5, hC, hbm⟩ := T.cls
  obtain ⟨hp, g, dr, tk, os⟩ := s
  have k : ∀ b o, hp.get? b = some o → ((hp.push (kdv_tup [v])).push (excO C hp.objs.size)).get? b = some o := fun b o e => Heap.get?_push_of_some _ (Heap.get?_push_of_some _ e)
  have hget : ((hp.push (kdv_tup [v])).push (excO C hp.objs.size)).get? (hp.objs.size + 1) = some (excO C hp.objs.size) := by heap_get
  have hnx : ¬ (K.lookup (hp.objs.size + 1)).isSome = true := by
    cases e : K.lookup (hp.objs.size + 1) with
    | none => intro z; cases z
    | some o =>
      have z : hp.get? (hp.objs.size + 1) = some o := X _ _ e
      exact absurd (Nat.lt_of_succ_lt (Heap.lt_size z)) (Nat.lt_irrefl _)
  refine call_own F.excBase_ValueError (fun X => refsVE_contains X bm hbm) (X _ _ hC) (looks_findIn X T.iC) (fun self => bind_fn X self T.tC) (by show 1 ≤ sizeLine; decide) ?_
  refine err_init (s := ⟨(hp.push (kdv_tup [v])).push (excO C hp.objs.size), g, dr, tk, os⟩) T hf (X.keeps k) (hlim.keeps k) (G.keeps k) (B.keeps k) hB hget hnx ?_ fun h' tk' dx t1 ⟨k', hx, dn, dne, hns⟩ => ?_
  · show A.depth + 1 < recursionLimit
    exact hroom
  · have old : ∀ b o, hp.get? b = some o → h'.get? b = some o := fun b o e => k' b o (Nat.ne_of_lt (Nat.lt_succ_of_lt (Heap.lt_size e))) (k b o e)
    have z : hp.objs.size + 1 + 1 ≤ dx := by
      have q := dn
      rw [Heap.size_push, Heap.size_push] at q
      exact q
    exact ⟨rfl, hq h' tk' (hp.objs.size + 1) dx ⟨old, Nat.le_succ _, ⟨_, _, hx, rfl, rfl, rfl, rfl, rfl⟩, Nat.le_trans (Nat.le_trans (Nat.le_succ _) (Nat.le_succ _)) z, dne, hns⟩⟩
end
end ErrX
end PySem
namespace FW
open PySem PySem.Spec PyProof.Rows L2
theorem relO_err {f : Str} {v : V} {v' : Value} (r : RelV v v') (g : Str) : RelO (List.lookup g [(f, v)]) (if g = f then some v' else none) := by
  by_cases hw : g = f
  · subst hw
    rw [if_pos rfl]
    have q : List.lookup g [(g, v)] = some v := by simp [List.lookup]
    rw [q]
    exact r
  · rw [if_neg hw]
    have qw : (g == f) = false := by simpa using hw
    have q2 : List.lookup g [(f, v)] = none := by simp [List.lookup, qw]
    rw [q2]
    trivial
/-- the fields' names -/
def ErrF (f : Str) : Prop := f = "value" ∨ f = "word" ∨ f = "field"
/-- C(e), C an own error with the field f -/
def tMkE (C : Addr) (f : Str) (ta : TA) : L2.St → Hp → XK → Prop := fun σ H Q => ta σ H fun vs H1 => ∃ v, vs = [v] ∧ ∀ d, H1 d = none → Q (.ref C) (some d) (upd H1 d (.xd [(f, v)]))
section
variable {X : Cx} {C fI : Addr} {f x : Str}
theorem pmk_err {a : Expr} {ta : TA} {p pos : Pos} {k : Nat} (T : PySem.ErrX.ErrC X.prog X.K C fI f) (hf : ErrF f) (gC : X.mg x = some (.ref C)) (hr : Room k X.A) (ha : PA X [a] ta) (hg : Gl X x) (hdb : (x == ("__debug__" : Str)) = false := by decide)
    (he : starEach (a :: []) X.env = (false, eval a X.env) :: starEach [] X.env := by rfl) (hpl : (backTo pos (starEach [] X.env)).any (·.1) = false := by rfl) :
    PMk X (.Call (.Name x p) [a] [] pos) (tMkE C f ta) := by
  intro pins s σ H Q I h
  refine wpAny_Call_Name_kw (ld_glob I hg gC ?_ hdb)
  refine PySem.W.callWith_K (h₀ := X.base) I.ok.mod.kin T.kC (thn (ha.run pos pins s σ H _ I h) fun us s1 hh => ?_) he hpl
  obtain ⟨vs, H1, I1, r1, v, ev, q1⟩ := hh
  subst ev
  refine ⟨I1.kIn, ?_⟩
  cases r1 with
  | cons rv rn =>
    rename_i v' us'
    cases rn
    show wpAny _ _ (call (.ref C) [v']) _ _ _
    have hlim := I1.nolimit
    have hG := I1.mod.glob.keeps I1.bk
    obtain ⟨mb, hb1, hb2⟩ := I1.mod.blt
    have hB := hb1.keeps I1.bk
    obtain ⟨hp, g, dr, tk, os⟩ := s1
    refine wpAny_call (PySem.ErrX.err_made T hf I1.kIn hlim hG hB hb2 (by have := hr.dp; omega) fun h' tk' e d M => ?_)
    show MkP X pins σ Q (.ref e) ⟨h', g, dr, tk', os⟩
    obtain ⟨oe, fv, hoe, hc, hd, hdat, h1, _⟩ := M.obj
    have hns := M.ns
    obtain ⟨G', g1, g2⟩ := restrict h' fun b => decide (b ≠ e)
    have gk : ∀ b, b ≠ e → G'.get? b = h'.get? b := fun b hb => g1 b (decide_eq_true hb)
    have ge : G'.get? e = none := g2 e (by simp)
    have old : ∀ b o, hp.get? b = some o → G'.get? b = some o := fun b o q => (gk b (Nat.ne_of_lt (Nat.lt_of_lt_of_le (Heap.lt_size q) M.new))).trans (M.keep b o q)
    have ob : ObjOk X.prog X.w (upd H1 d (.xd [(f, v)])) G' d (.xd [(f, v)]) :=
      ⟨_, hns.at (fun o q => (gk d M.dne).trans q), fun f => relO_err rv f⟩
    have J : Inv X pins σ (upd H1 d (.xd [(f, v)])) ⟨G', g, dr, tk', os⟩ := I1.laid (t' := tk') old M.dbig ob
    refine ⟨e, oe, fv, ⟨G', g, dr, tk', os⟩, _, .ref C, some d, rfl, J, fun b o q => ?_, ge, hoe, ⟨hc, hd⟩, hdat, h1, ?_, rfl, I1.bare, raises_own T.exC T.tyC, q1 d (I1.hok.fresh M.dbig)⟩
    · by_cases hb : b = e
      · have q' : G'.get? b = some o := q
        rw [hb, ge] at q'; cases q'
      · exact (gk b hb).symm.trans q
    · rw [upd_ne (Ne.symm M.dne)]
      exact I1.hok.fresh M.new
/-- raise C(e) -/
def tRaiseE (C : Addr) (f : Str) (W : WX) (ta : TA) : TS := fun _ σ H => tMkE C f ta σ H fun cls d H' => W cls d σ H'
theorem ps_raiseE {a : Expr} {ta : TA} {W : WX} {p pos pos2 : Pos} {k : Nat} (hc : X.calm = true) (T : PySem.ErrX.ErrC X.prog X.K C fI f) (hf : ErrF f) (gC : X.mg x = some (.ref C)) (hr : Room k X.A) (tk : Takes X W) (ha : PA X [a] ta) (hg : Gl X x) (hdb : (x == ("__debug__" : Str)) = false := by decide)
    (he : starEach (a :: []) X.env = (false, eval a X.env) :: starEach [] X.env := by rfl) (hpl : (backTo pos (starEach [] X.env)).any (·.1) = false := by rfl) :
    PS X (.Raise (some (.Call (.Name x p) [a] [] pos)) none pos2) (tRaiseE C f W ta) := ps_raise hc tk (pmk_err T hf gC hr ha hg hdb he hpl)
/-- e.f, e the exception that the suite holds (at a; its class cls, its dict d) -/
def tByE (C : Addr) (f : Str) (a : Addr) (cls : Value) (d : Option Addr) (te : TE) : TE := fun σ H Q => te σ H fun x H1 => x = .ref a ∧ cls = .ref C ∧ ∃ (dd : Addr) (v : V), d = some dd ∧ H1 dd = some (.xd [(f, v)]) ∧ Q v H1
theorem pe_byE {prog : Program} {a : Addr} {oe : Obj} {cls : Value} {d : Option Addr} {pn : List (Addr × Obj)} {e : Expr} {te : TE} {pos : Pos} (T : PySem.ErrX.ErrC prog X.K C fI f) (hz : Zc cls d oe) (hfl : ∃ vs, oe.data = .fields vs) (he : PE (X.suite a ((a, oe) :: pn)) e te)
    (hb : attributeBase e f X.env (eval e X.env) = eval e X.env := by rfl) :
    PE (X.suite a ((a, oe) :: pn)) (.Attribute e f pos) (tByE C f a cls d te) := by
  refine ⟨fun pins s σ H Q I h => ?_⟩
  refine attr_of hb (thn (he.run pins s σ H _ I h) fun u s1 hh => ?_)
  obtain ⟨x, H1, I1, rx, ex, ec, dd, v, ed, ea, q⟩ := hh
  subst ex
  obtain rfl : u = Value.ref a := rx
  subst ec
  subst ed
  obtain ⟨ha, _⟩ := I1.pin (a, oe) (List.mem_append_left _ List.mem_cons_self)
  obtain ⟨vs, hd⟩ := hfl
  have hx : ObjOk X.prog X.w H1 s1.heap dd (.xd [(f, v)]) := I1.hok dd _ ea
  obtain ⟨mA, hns, hr⟩ := hx
  obtain ⟨od, ho, hl⟩ := lookIn_ns hns
  have l : List.lookup f [(f, v)] = some v := by simp [List.lookup]
  obtain ⟨u, hu, ru⟩ := RelO.some_of (v := v) (o := mA f) (by rw [← l]; exact hr f)
  have J : PySem.W.InstAt s1.heap a oe C (some od) := ⟨ha, hz.1, by unfold PySem.W.notCls; rw [hd] <;> rfl, by rw [hz.2]; exact ho⟩
  exact HandSPX.exc_get I1.kIn J T.ga T.gg T.exC (PySem.W.findObj_own T.hdC T.noN rfl (by rw [hl, hu])) (handed_of ru) ⟨v, H1, I1.tok _, ru, q⟩
end
end FW
namespace FW
open PySem PySem.Spec PyProof.Rows L2 PySem.W PySem.HandSPX PySem.ErrX
/-! ### what the head looks at of an own error -/
abbrev FnE : Type := Option (Str × Str × Arguments × FuncBody × Scope × Addr × Value × Addr)
def fnE (K : Frag) (x : Str) : FnE := match K.lookup (He.ma K (He.ga K x) "__init__") with
  | some ⟨_, _, .func fd, _⟩ => some (fd.name, fd.qualname, fd.params, fd.body, fd.scope, fd.globals, fd.defaults, fd.builtins)
  | _ => none
def clsE (K : Frag) (C : Addr) : Bool := match K.lookup C with
  | some ⟨.type "type", _, .cls cd, sl⟩ => (match cd.mro, sl.toList with
    | .ref C' :: bm, [_, _, _, _, some (.builtin n), _] => C' == C && n == "ValueError.__new__" && !cd.hasDel && cd.hasDict && refsVE bm
    | _, _ => false)
  | _ => false
theorem clsE_ok {K : Frag} {C : Addr} (q : clsE K C = true) : ∃ nm q N bs bm sn sub ab col dd k0 k1 k2 k3 k5, K.lookup C = some (excClassObj nm q C N bs bm true sn sub ab col dd k0 k1 k2 k3 k5 "ValueError.__new__") ∧ refsVE bm = true := by
  unfold clsE at q
  split at q
  · rename_i dd cd sl ho
    split at q
    · rename_i C' bm k0 k1 k2 k3 n k5 hm hs
      simp only [Bool.and_eq_true, beq_iff_eq, Bool.not_eq_true'] at q
      obtain ⟨⟨⟨⟨rfl, rfl⟩, hdel⟩, hdd⟩, ht⟩ := q
      obtain ⟨nm, bs, mro, ns, qn, hd, sn, sub, ab, col, del⟩ := cd
      dsimp only at hm hdel hdd
      subst hm hdel hdd
      have hsl : sl = #[k0, k1, k2, k3, some (.builtin "ValueError.__new__"), k5] := by
        obtain ⟨l⟩ := sl
        simp only at hs
        rw [hs]
      subst hsl
      exact ⟨nm, qn, ns, bs, bm, sn, sub, ab, col, dd, k0, k1, k2, k3, k5, ho, ht⟩
    · cases q
  · cases q
def codeE (K : Frag) (file : Str) (x : Str) : Bool := match K.lookup (He.ma K (He.ga K x) "__init__") with
  | some ⟨_, _, .func fd, _⟩ => (match fd.code, fd.closure with
    | .ref cda, [(n, cc)] => codeIn K (.ref cda) fd.qualname && (decide (n = "__class__") && ((match K.lookup cda with
        | some ⟨_, _, .fields vs, _⟩ => (match (vs[2]? : Option Value) with
          | some (Value.str z _) => decide (z = file)
          | _ => false)
        | _ => false) && (match K.lookup cc with
        | some ⟨_, _, .cell (some (.ref D)), _⟩ => decide (D = He.ga K x)
        | _ => false)))
    | _, _ => false)
  | _ => false
def errB (K : Frag) (file x f : Str) : Bool := ([clsE K (He.ga K x), He.eqO (findIn K (.ref (He.ga K x)) "__setattr__") (some (some (.builtin "object.__setattr__"))), He.eqO (findIn K (.ref (He.ga K x)) "__getattribute__") (some (some (.builtin "BaseException.__getattribute__"))),
  He.eqO (findIn K (.ref (He.ga K x)) "__getattr__") (some none), He.eqO (findIn K (.ref (He.ga K x)) f) (some none), He.eqO (findIn K (.ref (He.ga K x)) "__init__") (some (some (.ref (He.ma K (He.ga K x) "__init__")))), decide (typeIn K (.ref (He.ma K (He.ga K x) "__init__")) = some (.type "function")),
  keepIn K (.ref (He.ga K x)), decide (subIn K (.ref (He.ga K x)) (.type "BaseException") = some true), decide (subIn K (.ref (He.ga K x)) (.type "ValueError") = some true), decide (typeIn K (.ref (He.ga K x)) = some (.type "type")), hasDictIn K (He.ga K x), decide (mroIn K (He.ga K x) (.ref (He.ga K x)) = some true),
  He.eqO (nsIn K mainGlobals "super") (some none), He.eqO (nsIn K cStatics "thirdparty.any") (some none), He.eqO (ks_superIn K (He.ga K x) (He.ga K x) "__init__") (some (some (.builtin "ValueError.__init__"))), codeE K file x] : List Bool).all id
theorem errB_at {K : Frag} {file x f : Str} (h : errB K file x f = true) {b : Bool} (i : Nat) (hb : ([clsE K (He.ga K x), He.eqO (findIn K (.ref (He.ga K x)) "__setattr__") (some (some (.builtin "object.__setattr__"))), He.eqO (findIn K (.ref (He.ga K x)) "__getattribute__") (some (some (.builtin "BaseException.__getattribute__"))),
  He.eqO (findIn K (.ref (He.ga K x)) "__getattr__") (some none), He.eqO (findIn K (.ref (He.ga K x)) f) (some none), He.eqO (findIn K (.ref (He.ga K x)) "__init__") (some (some (.ref (He.ma K (He.ga K x) "__init__")))), decide (typeIn K (.ref (He.ma K (He.ga K x) "__init__")) = some (.type "function")),
  keepIn K (.ref (He.ga K x)), decide (subIn K (.ref (He.ga K x)) (.type "BaseException") = some true), decide (subIn K (.ref (He.ga K x)) (.type "ValueError") = some true), decide (typeIn K (.ref (He.ga K x)) = some (.type "type")), hasDictIn K (He.ga K x), decide (mroIn K (He.ga K x) (.ref (He.ga K x)) = some true),
  He.eqO (nsIn K mainGlobals "super") (some none), He.eqO (nsIn K cStatics "thirdparty.any") (some none), He.eqO (ks_superIn K (He.ga K x) (He.ga K x) "__init__") (some (some (.builtin "ValueError.__init__"))), codeE K file x] : List Bool)[i]? = some b) : b = true :=
  List.all_eq_true.mp h b (List.mem_of_getElem? hb)
theorem errC_of {prog : Program} {K : Frag} {x f qual : Str} {params : Arguments} {body : List Stmt} {scope : Scope} (e : fnE K x = (some (("__init__" : Str), qual, params, FuncBody.stmts body, scope, mainGlobals, Value.none, builtinsNs) : FnE)) (h : errB K prog.main.file x f = true)
    (h1 : ∃ p1 p2, params = eA1 f p1 p2) (h2 : ∃ txt q1 q2 q3 q4 q5 q6 q7 q8 q9 q10, body = eB1 f txt q1 q2 q3 q4 q5 q6 q7 q8 q9 q10 ∧ (q3.endLine == q5.line) = true) (h3 : scope = eS1 f) (top : (prog.main.scope.names.lookup ("super" : Str)).isSome = false) :
    ErrC prog K (He.ga K x) (He.ma K (He.ga K x) "__init__") f := by
  have hc : codeE K prog.main.file x = true := errB_at h 16 rfl
  refine ⟨clsE_ok (errB_at h 0 rfl), He.eqO_ok (errB_at h 1 rfl), He.eqO_ok (errB_at h 2 rfl), He.eqO_ok (errB_at h 3 rfl), He.eqO_ok (errB_at h 4 rfl), He.eqO_ok (errB_at h 5 rfl), of_decide_eq_true (errB_at h 6 rfl), errB_at h 7 rfl, of_decide_eq_true (errB_at h 8 rfl), of_decide_eq_true (errB_at h 9 rfl),
    of_decide_eq_true (errB_at h 10 rfl), errB_at h 11 rfl, of_decide_eq_true (errB_at h 12 rfl), He.eqO_ok (errB_at h 13 rfl), He.eqO_ok (errB_at h 14 rfl), He.eqO_ok (errB_at h 15 rfl), top, ?_⟩
  obtain ⟨p1, p2, rfl⟩ := h1
  obtain ⟨txt, q1, q2, q3, q4, q5, q6, q7, q8, q9, q10, rfl, hl⟩ := h2
  subst h3
  unfold codeE at hc
  unfold fnE at e
  cases q : K.lookup (He.ma K (He.ga K x) "__init__") with
  | none => rw [q] at hc; cases hc
  | some o =>
    obtain ⟨oc, od, dt, osl⟩ := o
    rw [q] at hc e
    cases dt with
    | func fd =>
      obtain ⟨n1, n2, n3, n4, n5, n6, n7, n8, n9, n10, n11, n12, n13, n14, n15⟩ := fd
      have e2 : (some (n1, n2, n3, n4, n5, n6, n8, n15) : FnE) = (some (("__init__" : Str), qual, eA1 f p1 p2, FuncBody.stmts (eB1 f txt q1 q2 q3 q4 q5 q6 q7 q8 q9 q10), eS1 f, mainGlobals, Value.none, builtinsNs) : FnE) := e
      simp only [Option.some.injEq, Prod.mk.injEq] at e2
      obtain ⟨g1, g2, g3, g4, g5, g6, g7, g8⟩ := e2
      subst g1 g2 g3 g4 g5 g6 g7 g8
      dsimp only at hc
      split at hc
      · rename_i c0 l0 cda n cc
        simp only [Bool.and_eq_true, decide_eq_true_eq] at hc
        obtain ⟨hc1, rfl, hc2, hc3⟩ := hc
        split at hc2
        · rename_i ccl cdd vs ccs hcda
          split at hc2
          · rename_i z tf hvs
            have hz := of_decide_eq_true hc2
            subst hz
            split at hc3
            · rename_i cl cld D csl hcc
              have hD := of_decide_eq_true hc3
              subst hD
              exact ⟨cc, cda, _, oc, od, n9, n10, n11, n12, n14, osl, txt, p1, p2, q1, q2, q3, q4, q5, q6, q7, q8, q9, q10, cl, ccl, cld, cdd, csl, ccs, vs, tf, hl, rfl, hc1, hcc, hcda, hvs⟩
            · cases hc3
          · cases hc2
        · cases hc2
      · cases hc
    | _ => cases hc
/-- an own error's __init__, as the text has it -/
structure ErrD where
  x : Str
  qual : Str
  params : Arguments
  body : List Stmt
  scope : Scope
def ErrD.val (d : ErrD) : FnE := some (("__init__" : Str), d.qual, d.params, FuncBody.stmts d.body, d.scope, mainGlobals, Value.none, builtinsNs)
abbrev AlY : Type := He.AlD × Bool × List FnE
def obsY (fa : List He.Fa) (fn : List He.DefD) (ex : Frag → Bool) (er : List ErrD) (K : Frag) : AlY := (He.obsD fa fn K, ex K, er.map fun d => fnE K d.x)
def obsYG (n : Nat) (fa : List He.Fa) (fn : List He.DefD) (ex : Frag → Bool) (er : List ErrD) (g : Addr → Option Obj) : AlY := obsY fa fn ex er (He.frG g (He.asD g n ++ [cStatics]))
def hookY (n : Nat) (fa : List He.Fa) (fn : List He.DefD) (ex : Frag → Bool) (er : List ErrD) : PySem.W.Hook where
  α := AlY
  obs := fun s => obsYG n fa fn ex er s.heap.get?
  val := fun _ => (He.valD fn, true, er.map ErrD.val)
  says := fun _ h => ∃ K : Frag, K.In h ∧ He.SaysD fa fn K ∧ ex K = true ∧ er.map (fun d => fnE K d.x) = er.map ErrD.val
  of := fun _ _ e => ⟨_, He.frG_in, congrArg (fun z : AlY => z.1) e, congrArg (fun z : AlY => z.2.1) e, congrArg (fun z : AlY => z.2.2) e⟩
  keeps := fun _ _ _ ⟨K, hK, c⟩ k => ⟨K, PySem.W.Frag.In.keeps hK k, c⟩
theorem obsYG_eq {n : Nat} {fa : List He.Fa} {fn : List He.DefD} {ex : Frag → Bool} {er : List ErrD} {g : Addr → Option Obj} {s : Shared} (h : ∀ a, g a = s.heap.get? a) : obsYG n fa fn ex er g = (hookY n fa fn ex er).obs s := by
  have e : g = s.heap.get? := funext h
  rw [e] <;> rfl
theorem errs_at {K : Frag} {er : List ErrD} (h : er.map (fun d => fnE K d.x) = er.map ErrD.val) (i : Nat) {d : ErrD} (hd : er[i]? = some d) : fnE K d.x = d.val := by
  have e2 : (er.map fun d => fnE K d.x)[i]? = (er.map ErrD.val)[i]? := by rw [h]
  rw [List.getElem?_map, List.getElem?_map, hd] at e2
  exact Option.some.inj e2
end FW
namespace FW
open PySem PySem.Spec PyProof.Rows L2
/-! ### several clauses «except X as n» -/
/-- an exception that a try of X has caught; s: the state in which the clauses are asked -/
structure Cau (X : Cx) (pins : List (Addr × Obj)) (a : Addr) (B : Heap) (sI : Shared) (σ : L2.St) (H : Hp) (cls : Value) (d : Option Addr) (s : Shared) : Prop where
  hs : X.stack = X.env :: X.outer
  hf : X.env.frame = some X.env.locals
  inv : Inv X pins σ H sI
  nb : ∀ b o, sI.heap.get? b = some o → b ∉ frs X.stack → B.get? b = some o
  up : sI.heap.UpToSlots s.heap
  fly : HandSPX.FlyingZ B (X.env :: X.outer) a (Zc cls d) s.heap
  na : H a = none
  os : s.os = sI.os
  ag : AllBare s.gens
section
variable {X : Cx} {pins : List (Addr × Obj)} {a : Addr} {B : Heap} {sI s : Shared} {σ : L2.St} {H : Hp} {cls : Value} {d : Option Addr}
theorem Cau.now (c : Cau X pins a B sI σ H cls d s) : Inv X pins σ H s := c.inv.landed c.nb c.fly.1 c.up c.os c.ag
theorem Cau.on (c : Cau X pins a B sI σ H cls d s) {g : Heap} (f : HandSPX.FlyingZ B (X.env :: X.outer) a (Zc cls d) g) (u : s.heap.UpToSlots g) : Cau X pins a B sI σ H cls d { s with heap := g } :=
  ⟨c.hs, c.hf, c.inv, c.nb, c.up.trans u, f, c.na, c.os, c.ag⟩
theorem Cau.apart (c : Cau X pins a B sI σ H cls d s) : a ≠ X.env.locals ∧ a ∉ X.fs := by
  have no : a ∉ frs (X.env :: X.outer) := fun m => by
    obtain ⟨ox, vx, hx, _, dx⟩ := c.fly.there
    obtain ⟨_, ox', hx', nx⟩ := c.fly.2.2.1.mem m
    rw [hx] at hx'
    cases hx'
    exact nx _ dx
  have m0 : X.env.locals ∈ frs (X.env :: X.outer) := List.mem_filterMap.mpr ⟨X.env, List.mem_cons_self, c.hf⟩
  refine ⟨fun z => no (by rw [z]; exact m0), fun m => no ?_⟩
  obtain ⟨en, me, q⟩ := List.mem_filterMap.mp m
  exact List.mem_filterMap.mpr ⟨en, List.mem_cons_of_mem _ me, q⟩
theorem Cau.hold (c : Cau X pins a B sI σ H cls d s) : ∃ oe, Zc cls d oe ∧ (∃ vs, oe.data = .fields vs) ∧ s.heap.get? a = some oe ∧ Inv (X.suite a ((a, oe) :: (X.pn ++ pins))) [] σ H s := by
  obtain ⟨oe, vs, he, hz, hd⟩ := c.fly.there
  exact ⟨oe, hz, ⟨vs, hd⟩, he, c.now.suite he hd c.na c.apart.1 c.apart.2⟩
/-- a clause: its class, the slot of its name, its suite's reading -/
structure Cl where
  c : Value
  i : Nat
  ts : Addr → Value → Option Addr → TS
/-- what is wanted where clause after clause is asked -/
def wCls (K : PySem.W.Frag) (Wout : WX) (D : Ends) : List Cl → WX
  | [] => Wout
  | k :: r => fun cls d σ H => ∃ b, PySem.W.exmOne K cls k.c = some b ∧
      (b = true → ∀ a, H a = none → k.ts a cls d { nx := fun τ G => D.nx (τ.set k.i none) G, rt := D.rt, bk := fun τ G => D.bk (τ.set k.i none) G, ct := fun τ G => D.ct (τ.set k.i none) G } (σ.set k.i (some (.ref a))) H) ∧
      (b = false → wCls K Wout D r cls d σ H)
inductive Hds (X : Cx) : List ExceptHandler → List Cl → Prop
  | nil : Hds X [] []
  | cons {x n : Str} {k : Cl} {b₀ : Stmt} {suite : List Stmt} {np pos' : Pos} {hds : List ExceptHandler} {l : List Cl} (hN : X.N.Nodup) (hi : X.N[k.i]? = some n) (hln : X.env.kindOf n = some .local) (hc : Names X x k.c)
      (hsu : ∀ (a : Addr) (oe : Obj) (cls : Value) (d : Option Addr) (pn : List (Addr × Obj)), Zc cls d oe → (∃ vs, oe.data = .fields vs) → PSs (X.suite a ((a, oe) :: pn)) (b₀ :: suite) (k.ts a cls d)) (r : Hds X hds l) :
      Hds X (.ExceptHandler (some (.Name x np)) (some n) (b₀ :: suite) pos' :: hds) (k :: l)
/-- no clause takes it: it goes on -/
theorem Cau.pass (c : Cau X pins a B sI σ H cls d s) {Wout : WX} {Q : Flow → Shared → Prop} (tk : Takes X Wout) (w : Wout cls d σ H) : wpAny (model X.prog X.w) X.A (handleBy (.ref a) X.env []) Q X.xe s := by
  refine wpAny_handleBy_nil ?_
  have up0 : wpAny (model X.prog X.w) X.A (setFlight (.ref a) X.env.frame) (fun _ s4 => wpAny (model X.prog X.w) X.A (throw (.ref a) : Sem Flow) Q X.xe s4) X.xe s := by
    rw [c.hf]
    refine HandSPX.setFlight_upZ c.fly fun g gh gu => wpAny_throw (tk _ _ ?_)
    exact ⟨a, B, sI, pins, σ, H, cls, d, rfl, c.inv, c.nb, c.up.trans gu, .inr (.inr (by rw [c.hs]; exact gh)), c.na, c.os, c.ag, w⟩
  obtain ⟨_, _, _, oe, vs, Tb, oT, us, he, _, hd, h1, _⟩ := c.fly
  unfold PySem.passOn
  refine wpAny_bind (wpAny_field he hd h1 ?_)
  rw [if_neg (by simp)]
  first
    | exact wpAny_bind (wpAny_pure (wpAny_bind up0))
    | exact wpAny_bind up0
/-- the clauses, one behind the other -/
theorem Cau.ask {D : Ends} {Wout : WX} (tk : Takes X Wout) : ∀ {hds : List ExceptHandler} {l : List Cl}, Hds X hds l → Cau X pins a B sI σ H cls d s → wCls X.K Wout D l cls d σ H →
    wpAny (model X.prog X.w) X.A (handleBy (.ref a) X.env hds) (SP X pins D) X.xe s := by
  intro hds l hk c
  induction hk with
  | nil => exact fun w => c.pass tk w
  | @cons x n k b₀ suite np pos' hds' l' hN hi hln hc hsu _ ih =>
    rintro ⟨b, hb, yes, no⟩
    obtain ⟨oe, hz, hfl, he, S⟩ := c.hold
    refine wpAny_handleBy_cons (codeAny_handlers_test ?_) (by intro q; cases q)
    have lt : PySem.W.Looks (model X.prog X.w) s.heap (typeOf (.ref a)) cls := fun _ _ _ _ kp q => wpAny_typeOf_ref (kp _ _ he) (by rw [hz.1]; exact q)
    have lm := PySem.W.exm_one (M := model X.prog X.w) c.now.kIn lt hb
    have name : ∀ {Q : Value → Shared → Prop} {E : Value → Shared → Prop}, Q k.c s → wpAny (model X.prog X.w) (X.A.mark (some (.ref a))) (eval (.Name x np) X.env) Q E s := fun {Q E} q => by
      rcases hc with ⟨hg, hdb, hm | ⟨hm, hv, hnn⟩⟩
      · exact ld_glob (X := X.suite a ((a, oe) :: (X.pn ++ pins))) S hg hm q hdb
      · exact ld_blt (X := X.suite a ((a, oe) :: (X.pn ++ pins))) S hg hm hv q hnn hdb
    refine name (lm.here ?_)
    cases b with
    | false =>
      show wpAny _ X.A (handleBy (.ref a) X.env hds') _ _ _
      exact ih (no rfl)
    | true =>
      refine codeAny_handlers_suite_as (HandSPX.lands_againZ c.fly fun g gf gu => ?_)
      have c' := c.on gf gu
      obtain ⟨o2, z2, f2, e2, S2⟩ := c'.hold
      refine store_ok (X := X.suite a ((a, o2) :: (X.pn ++ pins))) (v := .ref a) S2 hN hi (.inl hln) rfl (fun s5 S5 => ?_) (.inr hln)
      refine wpAny_mono ((hsu a o2 cls d (X.pn ++ pins) z2 f2).run [] s5 _ H _ S5 (yes rfl a c.na)) (fun fl s6 hsp => ?_) (fun _ _ z => False.elim z)
      have leave : ∀ {τ : L2.St} {G : Hp} {Q : Shared → Prop}, Inv (X.suite a ((a, o2) :: (X.pn ++ pins))) [] τ G s6 → (∀ s7, Inv X pins (τ.set k.i none) G s7 → Q s7) →
          wpAny (model X.prog X.w) X.A (do bindName X.env n .none; unbindBehindTheSuite X.env n pos') (fun _ s7 => Q s7) X.xe s6 := fun {τ G Q} S6 hq => gone_ok (S6.unsuite c.inv.ok) hN hi hln hq
      cases fl with
      | ret u =>
        obtain ⟨v6, τ, G, S6, r6, q6⟩ := hsp
        exact leave S6 fun s7 J7 => ⟨_, _, _, J7, r6, q6⟩
      | next =>
        obtain ⟨τ, G, S6, q6⟩ := hsp
        exact leave S6 fun s7 J7 => ⟨_, _, J7, q6⟩
      | brk =>
        obtain ⟨τ, G, S6, q6⟩ := hsp
        exact leave S6 fun s7 J7 => ⟨_, _, J7, q6⟩
      | cont =>
        obtain ⟨τ, G, S6, q6⟩ := hsp
        exact leave S6 fun s7 J7 => ⟨_, _, J7, q6⟩
end
section
variable {X : Cx} {body : List Stmt} {h₀ : ExceptHandler} {hds : List ExceptHandler} {l : List Cl} {pos : Pos} {tb : WX → TS} {Wout : WX}
/-- try: body except X1 as n1: .. except X2 as n2: .. -/
def tTryA (K : PySem.W.Frag) (tb : WX → TS) (l : List Cl) (Wout : WX) : TS := fun D σ H => tb (wCls K Wout D l) D σ H
theorem ps_tryA (hs : X.stack = X.env :: X.outer) (hf : X.env.frame = some X.env.locals) (tk : Takes X Wout)
    (hb : ∀ (W : WX) (pn : List (Addr × Obj)) (xe : Value → Shared → Prop), Takes (X.tr pn xe) W → PassesOwn (model X.prog X.w) X.A X.env xe → PSs (X.tr pn xe) body (tb W))
    (hh : Hds X (h₀ :: hds) l) : PS X (.Try body (h₀ :: hds) [] [] pos) (tTryA X.K tb l Wout) := by
  refine ⟨fun pins s σ H D I h => wpAny_Try_except ?_⟩
  have fr : X.A.frames = some (X.env :: X.outer) := by rw [I.ok.frames, hs]
  have run := (hb (wCls X.K Wout D l) (X.pn ++ pins) (fun e s₁ => wpAny (model X.prog X.w) X.A (noteFrame e X.env) (fun _ s₂ => wpAny (model X.prog X.w) X.A (setFlight e none)
    (fun _ s₃ => wpAny (model X.prog X.w) X.A (handleBy e X.env (h₀ :: hds)) (SP X pins D) X.xe s₃) X.xe s₂) X.xe s₁) ?_ PassesOwn.looking).run [] s σ H D (I.toTry _) h
  · refine wpAny_mono run (fun fl s1 hsp => ?_) (fun _ _ he => he)
    cases fl with
    | ret u =>
      obtain ⟨v, τ, G, J, r, q⟩ := hsp
      exact ⟨v, τ, G, J.ofTry I.ok, r, q⟩
    | next =>
      obtain ⟨τ, G, J, q⟩ := hsp
      exact wpAny_execs_nil ⟨τ, G, J.ofTry I.ok, q⟩
    | brk =>
      obtain ⟨τ, G, J, q⟩ := hsp
      exact ⟨τ, G, J.ofTry I.ok, q⟩
    | cont =>
      obtain ⟨τ, G, J, q⟩ := hsp
      exact ⟨τ, G, J.ofTry I.ok, q⟩
  · rintro u s1 ⟨a, B, sI, ps, τ, G, cls, d, rfl, J, nb, up, sky, na, os, ag, w⟩
    have sky' : Sky B (X.env :: X.outer) a (Zc cls d) X.env.locals s1.heap := by rw [← hs]; exact sky
    show wpAny (model X.prog X.w) X.A (noteFrame (.ref a) X.env) _ _ _
    refine Sky.land Zc.steady fr hf sky' fun g gf gu => ?_
    exact Cau.ask (s := { s1 with heap := g }) tk hh ⟨hs, hf, J.ofTry I.ok, nb, up.trans gu, gf, na, os, ag⟩ w
/-- no exception leaves: a def that may raise, called where E0 is wanted -/
theorem passNo {P : Program} {w : World} {X : Cx} : Passes (L2.CX P w) X E0 := fun _ _ _ _ _ _ _ ⟨_, _, _, _, _, _, _, _, _, _, _, _, z⟩ => z.elim
theorem takesNo {X : Cx} : Takes X (fun _ _ _ _ => False) := fun _ _ ⟨_, _, _, _, _, _, _, _, _, _, _, _, _, _, _, _, z⟩ => z.elim
end
/-! ### calls of defs that may raise -/
section
variable {X : Cx} {k j : Nat} {C : Addr} {x m : Str} {sp : Sp} {dvs : List V} {p pos apos : Pos} {e o : Expr} {es : List Expr} {ta : TE} {t : TA} {E : XK} {W : WX}
abbrev CXX (X : Cx) : CXT := L2.CX X.prog X.w
/-- where nothing is raised -/
theorem pe_fN (c : Fn X.prog X.w X.K X.mg X.base (CXX X) k x sp dvs) (hr : Room j X.A) (hk : k ≤ j) (hg : Gl X x) (ha : PA X (e :: es) t)
    (hdb : (x == ("__debug__" : Str)) = false := by decide) (he : starEach (e :: es) X.env = (false, eval e X.env) :: starEach es X.env := by rfl) (hpl : (backTo pos (starEach es X.env)).any (·.1) = false := by rfl) :
    PE X (.Call (.Name x p) (e :: es) [] pos) (tCall sp dvs E0 t) := by
  obtain ⟨f, fd, ps, ds, F, hm, kp, b, d⟩ := c.ex
  exact pe_call F (hr.mono hk) hg hm kp b d passNo ha hdb he hpl
theorem pe_fX (tk : Takes X (fun cls d _ H => E cls d H)) (c : Fn X.prog X.w X.K X.mg X.base (CXX X) k x sp dvs) (hr : Room j X.A) (hk : k ≤ j) (hg : Gl X x) (ha : PA X (e :: es) t)
    (hdb : (x == ("__debug__" : Str)) = false := by decide) (he : starEach (e :: es) X.env = (false, eval e X.env) :: starEach es X.env := by rfl) (hpl : (backTo pos (starEach es X.env)).any (·.1) = false := by rfl) :
    PE X (.Call (.Name x p) (e :: es) [] pos) (tCall sp dvs E t) := by
  obtain ⟨f, fd, ps, ds, F, hm, kp, b, d⟩ := c.ex
  exact pe_call F (hr.mono hk) hg hm kp b d (passes_call tk fun _ _ _ _ h => h) ha hdb he hpl
theorem pe_fS (tk : Takes X W) (c : Fn X.prog X.w X.K X.mg X.base (CXX X) k x sp []) (hr : Room j X.A) (hk : k ≤ j) (hg : Gl X x) (ha : PA X (e :: es) t)
    (hdb : (x == ("__debug__" : Str)) = false := by decide) (he : starEach (e :: es) X.env = (false, eval e X.env) :: starEach es X.env := by rfl) (hpl : (backTo pos (starEach es X.env)).any (·.1) = false := by rfl) :
    PE X (.Call (.Name x p) (e :: es) [] pos) (tCallS sp (WE W) t) := by
  obtain ⟨f, fd, ps, ds, F, hm, kp, b, d⟩ := c.ex
  cases d
  exact pe_callS F (hr.mono hk) hg hm kp b (fun σ => passAt tk σ) ha hdb he hpl
theorem pe_mN (c : Mkr X.prog X.w X.K X.mg X.base (CXX X) k x C sp dvs) (hr : Room j X.A) (hk : k + 1 ≤ j) (hg : Gl X x) (ha : PA X (e :: es) t)
    (hdb : (x == ("__debug__" : Str)) = false := by decide) (he : starEach (e :: es) X.env = (false, eval e X.env) :: starEach es X.env := by rfl) (hpl : (backTo pos (starEach es X.env)).any (·.1) = false := by rfl) :
    PE X (.Call (.Name x p) (e :: es) [] pos) (tMake C sp dvs E0 t) := by
  obtain ⟨f, fd, ps, ds, M, F, hm, b, d⟩ := c.ex
  exact pe_make M F (hr.mono hk) hg hm b d passNo ha hdb he hpl
theorem pe_mX (tk : Takes X (fun cls d _ H => E cls d H)) (c : Mkr X.prog X.w X.K X.mg X.base (CXX X) k x C sp dvs) (hr : Room j X.A) (hk : k + 1 ≤ j) (hg : Gl X x) (ha : PA X (e :: es) t)
    (hdb : (x == ("__debug__" : Str)) = false := by decide) (he : starEach (e :: es) X.env = (false, eval e X.env) :: starEach es X.env := by rfl) (hpl : (backTo pos (starEach es X.env)).any (·.1) = false := by rfl) :
    PE X (.Call (.Name x p) (e :: es) [] pos) (tMake C sp dvs E t) := by
  obtain ⟨f, fd, ps, ds, M, F, hm, b, d⟩ := c.ex
  exact pe_make M F (hr.mono hk) hg hm b d (passes_call tk fun _ _ _ _ h => h) ha hdb he hpl
/-- the shape of o.m(..) in the model's words -/
abbrev MTree (X : Cx) (o : Expr) (m : Str) (apos pos : Pos) (args : List Expr) (pl : Sem Bool) : Prop := eval (.Call (.Attribute o m apos) args [] pos) X.env = (do
  let ov ← eval o X.env; standAt apos.atName; let (f, first) ← holding [ov] (getMethod ov m pl); callWith pos f first (backTo pos (starEach args X.env)) (backToKw pos (keywordEach [] X.env)))
theorem pe_oN {pl : Sem Bool} (c : Mt X.prog X.w X.K X.mg X.base (CXX X) k C m sp dvs) (hr : Room j X.A) (hk : k ≤ j) (he : PE X o ta) (ha : PA X (e :: es) t)
    (hst : starEach (e :: es) X.env = (false, eval e X.env) :: starEach es X.env := by rfl) (hpl : (backTo pos (starEach es X.env)).any (·.1) = false := by rfl) (ht : MTree X o m apos pos (e :: es) pl := by rfl) :
    PE X (.Call (.Attribute o m apos) (e :: es) [] pos) (tMeth C m sp dvs E0 ta t) := by
  obtain ⟨f, fd, ps, ds, hc, hm, F, b, d⟩ := c.ex
  exact pe_meth (pl := pl) he hc hm F (hr.mono hk) b d passNo ha hst hpl ht
theorem pe_oX {pl : Sem Bool} (tk : Takes X (fun cls d _ H => E cls d H)) (c : Mt X.prog X.w X.K X.mg X.base (CXX X) k C m sp dvs) (hr : Room j X.A) (hk : k ≤ j) (he : PE X o ta) (ha : PA X (e :: es) t)
    (hst : starEach (e :: es) X.env = (false, eval e X.env) :: starEach es X.env := by rfl) (hpl : (backTo pos (starEach es X.env)).any (·.1) = false := by rfl) (ht : MTree X o m apos pos (e :: es) pl := by rfl) :
    PE X (.Call (.Attribute o m apos) (e :: es) [] pos) (tMeth C m sp dvs E ta t) := by
  obtain ⟨f, fd, ps, ds, hc, hm, F, b, d⟩ := c.ex
  exact pe_meth (pl := pl) he hc hm F (hr.mono hk) b d (passes_call tk fun _ _ _ _ h => h) ha hst hpl ht
/-- in a try's body: what is raised is wished for at the slots as they stand -/
def tMethW (C : Addr) (m : Str) (sp : Sp) (W : WX) (ta : TE) (t : TA) : TE := fun σ H Q => ta σ H fun x H1 => ∃ a dx fs, x = .ref a ∧ H1 a = some (.ins C dx fs) ∧ fs.lookup m = none ∧ t σ H1 fun vs H2 => sp (x :: vs) H2 Q (WE W σ)
theorem pe_oS {pl : Sem Bool} (tk : Takes X W) (c : Mt X.prog X.w X.K X.mg X.base (CXX X) k C m sp []) (hr : Room j X.A) (hk : k ≤ j) (he : PE X o ta) (ha : PA X (e :: es) t)
    (hst : starEach (e :: es) X.env = (false, eval e X.env) :: starEach es X.env := by rfl) (hpl : (backTo pos (starEach es X.env)).any (·.1) = false := by rfl) (ht : MTree X o m apos pos (e :: es) pl := by rfl) :
    PE X (.Call (.Attribute o m apos) (e :: es) [] pos) (tMethW C m sp W ta t) := by
  obtain ⟨f, fd, ps, ds, hc, hm, F, b, d⟩ := c.ex
  cases d
  refine ⟨fun pins s σ H Q I h => PySem.W.methodCall_KW (pl := pl) (thn (he.run pins s σ H _ I h) ?_) ht⟩
  rintro u s1 ⟨x, H1, I1, rx, a, dx, fs, rfl, ea, l, q⟩
  obtain rfl : u = Value.ref a := rx
  refine getmeth_ok I1 ea hc hm l (PySem.W.callWith_K (first := [.ref a]) (h₀ := X.base) I.ok.mod.kin hm.kp (thn (ha.run pos pins s1 σ H1 _ I1 q) ?_) hst hpl)
  rintro us s2 ⟨vs, H2, I2, r, q2⟩
  exact ⟨I2.kIn, run_fnS (us := .ref a :: us) (vs := .ref a :: vs) F (hr.mono hk) b (passAt tk σ) I2 (.cons rfl r) q2⟩
end
section
variable {P : Program} {w : World} {K : PySem.W.Frag} {mg : Str → Option Value} {base : Heap}
abbrev CXP (P : Program) (w : World) : CXT := L2.CX P w
theorem Fn.mkX {x : Str} {params : Arguments} {body : List Stmt} {scope : Scope} {f : Addr} {N ps : List Str} {k : Nat} {sp : Sp}
    (F : ∃ fd, FunD K x x params body scope [] [] f fd) (g : mg x = some (.ref f)) (S : FnScope N ps scope)
    (hb : ∀ (kV doc pm : Value) (an : Option Addr) (cdv ct : Value) (us : List Value), us.length = ps.length → bindArgs (PySem.W.fnOf x x params body scope .none kV doc pm an cdv ct) ⟨us, []⟩ = pure (ps.zip us))
    (len : ∀ vs H Q E, sp vs H Q E → vs.length = ps.length)
    (hbody : ∀ (cdv : Value) (A : Around) (outer : List Env) (s : Shared) (H : Hp) (vs : List V) (Q : VK) (E : XK), Room k (A.deeper (envOfC x scope s.heap.objs.size f cdv)) → sp vs H Q E →
      ∃ t, PSs (cxOf (CXP P w) P w K mg base N x scope f cdv A outer s H E) body t ∧ t { nx := fun _ H' => Q .non H', rt := Q } (start N vs) H) : Fn P w K mg base (CXP P w) (k + 1) x sp [] := by
  obtain ⟨fd, F⟩ := F
  exact ⟨f, fd, ps, [], F.ok S len hbody, g, F.kp, F.bindsN hb, .nil⟩
theorem Mt.mkX {m qual : Str} {C : Addr} {params : Arguments} {body : List Stmt} {scope : Scope} {f : Addr} {N ps : List Str} {k : Nat} {sp : Sp}
    (c : Cls K C) (me : Meth K C m f) (F : ∃ fd, FunD K m qual params body scope [] [] f fd) (S : FnScope N ps scope)
    (hb : ∀ (kV doc pm : Value) (an : Option Addr) (cdv ct : Value) (us : List Value), us.length = ps.length → bindArgs (PySem.W.fnOf m qual params body scope .none kV doc pm an cdv ct) ⟨us, []⟩ = pure (ps.zip us))
    (len : ∀ vs H Q E, sp vs H Q E → vs.length = ps.length)
    (hbody : ∀ (cdv : Value) (A : Around) (outer : List Env) (s : Shared) (H : Hp) (vs : List V) (Q : VK) (E : XK), Room k (A.deeper (envOfC qual scope s.heap.objs.size f cdv)) → sp vs H Q E →
      ∃ t, PSs (cxOf (CXP P w) P w K mg base N qual scope f cdv A outer s H E) body t ∧ t { nx := fun _ H' => Q .non H', rt := Q } (start N vs) H) : Mt P w K mg base (CXP P w) (k + 1) C m sp [] := by
  obtain ⟨fd, F⟩ := F
  exact ⟨f, fd, ps, [], c, me, F.ok S len hbody, F.bindsN hb, .nil⟩
theorem Mkr.mkX {x qual : Str} {C : Addr} {params : Arguments} {body : List Stmt} {scope : Scope} {f : Addr} {N ps : List Str} {k : Nat} {sp : Sp} {dvs : List V}
    (n j : Nat) (M : Mk K C f) (g : mg x = some (.ref C)) (F : ∃ fd, FunD K "__init__" qual params body scope dvs [] f fd) (S : FnScope N ps scope) (hd : dvs ≠ []) (hn : n + (dvs.length - j) = ps.length)
    (hb : ∀ (T : Addr) (kV doc pm : Value) (an : Option Addr) (cdv ct : Value) (us its : List Value), us.length = n → its.length = dvs.length →
      ∃ k, bindArgs (PySem.W.fnOf "__init__" qual params body scope (.ref T) kV doc pm an cdv ct) ⟨us, []⟩ = seqItems? (.ref T) >>= k ∧ k (some its.toArray) = pure (ps.zip (us ++ its.drop j)))
    (len : ∀ vs H Q E, sp vs H Q E → vs.length = ps.length)
    (hbody : ∀ (cdv : Value) (A : Around) (outer : List Env) (s : Shared) (H : Hp) (vs : List V) (Q : VK) (E : XK), Room k (A.deeper (envOfC qual scope s.heap.objs.size f cdv)) → sp vs H Q E →
      ∃ t, PSs (cxOf (CXP P w) P w K mg base N qual scope f cdv A outer s H E) body t ∧ t { nx := fun _ H' => Q .non H', rt := Q } (start N vs) H) : Mkr P w K mg base (CXP P w) (k + 1) x C sp (dvs.drop j) := by
  obtain ⟨fd, F⟩ := F
  obtain ⟨ds, hv, hbn⟩ := F.binds1 (ps := ps) n j hd hn hb
  exact ⟨f, fd, ps, ds, M, F.ok S len hbody, g, hbn, hv⟩
theorem Mkr.mkX0 {x qual : Str} {C : Addr} {params : Arguments} {body : List Stmt} {scope : Scope} {f : Addr} {N ps : List Str} {k : Nat} {sp : Sp}
    (M : Mk K C f) (g : mg x = some (.ref C)) (F : ∃ fd, FunD K "__init__" qual params body scope [] [] f fd) (S : FnScope N ps scope)
    (hb : ∀ (kV doc pm : Value) (an : Option Addr) (cdv ct : Value) (us : List Value), us.length = ps.length → bindArgs (PySem.W.fnOf "__init__" qual params body scope .none kV doc pm an cdv ct) ⟨us, []⟩ = pure (ps.zip us))
    (len : ∀ vs H Q E, sp vs H Q E → vs.length = ps.length)
    (hbody : ∀ (cdv : Value) (A : Around) (outer : List Env) (s : Shared) (H : Hp) (vs : List V) (Q : VK) (E : XK), Room k (A.deeper (envOfC qual scope s.heap.objs.size f cdv)) → sp vs H Q E →
      ∃ t, PSs (cxOf (CXP P w) P w K mg base N qual scope f cdv A outer s H E) body t ∧ t { nx := fun _ H' => Q .non H', rt := Q } (start N vs) H) : Mkr P w K mg base (CXP P w) (k + 1) x C sp [] := by
  obtain ⟨fd, F⟩ := F
  exact ⟨f, fd, ps, [], M, F.ok S len hbody, g, F.bindsN hb, .nil⟩
end
end FW
namespace FW
open PySem PySem.Spec PyProof.Rows L2 PySem.W PySem.HandSPX PySem.ErrX
/-! ### the head's facts, with empty tables left out -/
abbrev AlZ : Type := He.AlD × Bool × List FnE
def obsZK (fa : List He.Fa) (fn : List He.DefD) (ex : Frag → Bool) (er : List ErrD) (tf : List He.Defn) (g : Addr → Option Obj) (K : Frag) : AlZ := (He.obsD fa fn K, ex K && He.tabsB g tf K, er.map fun d => fnE K d.x)
def obsZ (n : Nat) (fa : List He.Fa) (fn : List He.DefD) (ex : Frag → Bool) (er : List ErrD) (tf : List He.Defn) (g : Addr → Option Obj) : AlZ := obsZK fa fn ex er tf g (He.frT g (He.asD g n ++ [cStatics, sysModules]))
structure SaysZ (fa : List He.Fa) (fn : List He.DefD) (ex : Frag → Bool) (er : List ErrD) (tf : List He.Defn) (h : Heap) (K : Frag) : Prop where
  d : He.SaysD fa fn K
  ex : ex K = true
  er : er.map (fun d => fnE K d.x) = er.map ErrD.val
  hd : ∀ p ∈ tf, codeHdIn K (He.cT K p).1 (He.cT K p).2 = true
  out : ∀ p ∈ tf, K.lookup (He.cT K p).2 = none
  empty : ∀ p ∈ tf, h.get? (He.cT K p).2 = some { cls := .none, data := .fields #[] }
def valZ (fn : List He.DefD) (er : List ErrD) : AlZ := (He.valD fn, true, er.map ErrD.val)
theorem saysZ_of {fa : List He.Fa} {fn : List He.DefD} {ex : Frag → Bool} {er : List ErrD} {tf : List He.Defn} {h : Heap} {as : List Addr} (e : obsZK fa fn ex er tf h.get? (He.frT h.get? as) = valZ fn er) : SaysZ fa fn ex er tf h (He.frT h.get? as) := by
  have e2 : (ex (He.frT h.get? as) && He.tabsB h.get? tf (He.frT h.get? as)) = true := congrArg (fun z : AlZ => z.2.1) e
  obtain ⟨h1, h2⟩ := He.ba e2
  have key : ∀ p ∈ tf, codeHdIn (He.frT h.get? as) (He.cT (He.frT h.get? as) p).1 (He.cT (He.frT h.get? as) p).2 = true ∧ ∃ o, h.get? (He.cT (He.frT h.get? as) p).2 = some o ∧ He.emptyTab o = true := fun p hp => by
    obtain ⟨h3, h4⟩ := He.ba (List.all_eq_true.mp h2 p hp)
    refine ⟨h3, ?_⟩
    cases q : h.get? (He.cT (He.frT h.get? as) p).2 with
    | none => rw [q] at h4; cases h4
    | some o => rw [q] at h4; exact ⟨o, rfl, h4⟩
  exact ⟨congrArg (fun z : AlZ => z.1) e, h1, congrArg (fun z : AlZ => z.2.2) e, fun p hp => (key p hp).1, fun p hp => by
    obtain ⟨_, o, q, z⟩ := key p hp
    exact He.frT_none q z, fun p hp => by
    obtain ⟨_, o, q, z⟩ := key p hp
    rw [q, He.emptyTab_eq z]⟩
def hookZ (n : Nat) (fa : List He.Fa) (fn : List He.DefD) (ex : Frag → Bool) (er : List ErrD) (tf : List He.Defn) : PySem.W.Hook where
  α := AlZ
  obs := fun s => obsZ n fa fn ex er tf s.heap.get?
  val := fun _ => valZ fn er
  says := fun _ h => ∃ K : Frag, K.In h ∧ SaysZ fa fn ex er tf h K
  of := fun _ _ e => ⟨_, He.frT_in, saysZ_of e⟩
  keeps := fun _ _ _ ⟨K, hK, c⟩ k => ⟨K, PySem.W.Frag.In.keeps hK k, ⟨c.d, c.ex, c.er, c.hd, c.out, fun p hp => k _ _ (c.empty p hp)⟩⟩
theorem obsZ_eq {n : Nat} {fa : List He.Fa} {fn : List He.DefD} {ex : Frag → Bool} {er : List ErrD} {tf : List He.Defn} {g : Addr → Option Obj} {s : Shared} (h : ∀ a, g a = s.heap.get? a) : obsZ n fa fn ex er tf g = (hookZ n fa fn ex er tf).obs s := by
  have e : g = s.heap.get? := funext h
  rw [e] <;> rfl
/-! ### a def whose code object is known -/
section
variable {P : Program} {w : World} {K : PySem.W.Frag} {mg : Str → Option Value} {base : Heap}
theorem funD_okC {CX : CXT} {x qual : Str} {params : Arguments} {body : List Stmt} {scope : Scope} {dvs : List V} {kws : List (Str × V)} {fd : FuncData} {p : He.Defn} {N ps : List Str} {k : Nat} {sp : Sp}
    (F : FunD K x qual params body scope dvs kws (He.fAd K p) fd) (S : FnScope N ps scope) (len : ∀ vs H Q E, sp vs H Q E → vs.length = ps.length)
    (hbody : ∀ (A : Around) (outer : List Env) (s : Shared) (H : Hp) (vs : List V) (Q : VK) (E : XK), Room k (A.deeper (envOfC qual scope s.heap.objs.size (He.fAd K p) (.ref (He.codeOf K p)))) → sp vs H Q E →
      ∃ t, PSs (cxOf CX P w K mg base N qual scope (He.fAd K p) (.ref (He.codeOf K p)) A outer s H E) body t ∧ t { nx := fun _ H' => Q .non H', rt := Q } (start N vs) H) : FnOk P w K mg base CX (k + 1) (He.fAd K p) fd ps sp := by
  obtain ⟨oc, od, dV, kV, doc, pm, an, cdv, ct, osl, rfl, lk, hcd, _, _⟩ := F.ex
  obtain ⟨c, rfl⟩ := He.codeIn_ref hcd
  have e : He.codeOf K p = c := He.codeOf_eq lk rfl
  exact fn_of lk hcd S len fun A outer s H vs Q E hr hsp => by
    rw [← e] at hr ⊢
    exact hbody A outer s H vs Q E hr hsp
/-- a def of the module that makes lambdas -/
theorem Fn.mkC {x : Str} {params : Arguments} {body : List Stmt} {scope : Scope} {N ps : List Str} {k : Nat} {sp : Sp}
    (F : ∃ fd, FunD K x x params body scope [] [] (He.fAd K (x, none)) fd) (g : mg x = some (.ref (He.fAd K (x, none)))) (S : FnScope N ps scope)
    (hb : ∀ (kV doc pm : Value) (an : Option Addr) (cdv ct : Value) (us : List Value), us.length = ps.length → bindArgs (PySem.W.fnOf x x params body scope .none kV doc pm an cdv ct) ⟨us, []⟩ = pure (ps.zip us))
    (len : ∀ vs H Q E, sp vs H Q E → vs.length = ps.length)
    (hbody : ∀ (A : Around) (outer : List Env) (s : Shared) (H : Hp) (vs : List V) (Q : VK) (E : XK), Room k (A.deeper (envOfC x scope s.heap.objs.size (He.fAd K (x, none)) (.ref (He.codeOf K (x, none))))) → sp vs H Q E →
      ∃ t, PSs (cxOf CX0 P w K mg base N x scope (He.fAd K (x, none)) (.ref (He.codeOf K (x, none))) A outer s H E).nox body t ∧ t { nx := fun _ H' => Q .non H', rt := Q } (start N vs) H) : Fn P w K mg base CX0 (k + 1) x sp [] := by
  obtain ⟨fd, F⟩ := F
  refine ⟨_, fd, ps, [], funD_okC F S len fun A outer s H vs Q E hr h => ?_, g, F.kp, F.bindsN hb, .nil⟩
  obtain ⟨t, h1, h2⟩ := hbody A outer s H vs Q E hr h
  exact ⟨t, h1.nox, h2⟩
end
/-! ### a body that may raise what W takes, whatever the slots -/
def wLen (n : Nat) (W : WX) : WX := fun cls d σ H => σ.length = n → W cls d σ H
theorem takes_len {X : Cx} {W : WX} {n : Nat} (h : X.N.length = n) (t : Takes X W) : Takes X (wLen n W) := fun u s' ⟨a, B, sI, pins, σ, H, cls, d, e, I, nb, up, sky, na, os, ag, w⟩ =>
  t u s' ⟨a, B, sI, pins, σ, H, cls, d, e, I, nb, up, sky, na, os, ag, w (I.len.trans h)⟩
def tWithE (n : Nat) (t : XK → TS) (W : WX) : TS := fun D σ H => ∃ Ech : XK, (∀ cls d σ' H', Ech cls d H' → wLen n W cls d σ' H') ∧ t Ech D σ H
theorem pss_withE {X : Cx} {body : List Stmt} {n : Nat} {t : XK → TS} {W : WX} (h : ∀ Ech : XK, (∀ cls d σ' H', Ech cls d H' → wLen n W cls d σ' H') → PSs X body (t Ech)) : PSs X body (tWithE n t W) :=
  ⟨fun pins s σ H D I ⟨Ech, hW, q⟩ => (h Ech hW).run pins s σ H D I q⟩
/-- a() where a is the lambda at f, in slot 0 -/
def tAsk (f c : Addr) (q : Str) (tl : XK → Hp → VK → Prop) (E : XK) : TE := fun σ H Q => σ[0]? = some (some (.ref f)) ∧ H c = some (LamX.CodeO c q) ∧ tl E H Q
section
variable {X : Cx}
/-- x(lambda: body): the def x by its data -/
theorem pe_lam {T : List (Addr × Str)} {TT : (XK → Hp → VK → Prop) → Hp → VK → Prop} {x a : Str} {g c P : Addr} {k j : Nat} {pg : Arguments} {bg : List Stmt} {sg : Scope} {Ng : List Str}
    {params : Arguments} {body : Expr} {scope : Scope} {t : XK → TE} {p lpos pos : Pos} (F : ∃ fd, FunD X.K x x pg bg sg [] [] g fd) (hm : X.mg x = some (.ref g)) (hg : Gl X x)
    (hb : ∀ (kV doc pm : Value) (an : Option Addr) (cdv ct : Value) (us : List Value), us.length = [a].length → bindArgs (PySem.W.fnOf x x pg bg sg .none kV doc pm an cdv ct) ⟨us, []⟩ = pure ([a].zip us)) (Sg : FnScope Ng [a] sg) (hNg : Ng[0]? = some a) (hva : Vis sg a)
    (hG : ∀ cdv, LamX.GivesTo X Ng x sg g cdv bg a (X.env.qual ++ "<lambda>") TT)
    (TB : LamX.TabB X.base X.mg c P) (hcode : X.env.code = .ref c) (hmT : (P, X.env.qual ++ "<lambda>") ∈ T) (hu : ∀ p ∈ T, p.1 = P → p.2 = X.env.qual ++ "<lambda>") (hr : Room j X.A) (hk : k + 2 ≤ j) (L : LamX.LamS X.env.scope scope) (hdef : defaultsOf params X.env = ([], []))
    (hbind : ∀ (q : Str) (cl : List (Str × Addr)) (pm cv ctv : Value), bindArgs (PySem.W.kla_fn "<lambda>" q params body scope cl pm cv ctv) ⟨[], []⟩ = pure [])
    (hbody : ∀ (A : Around) (outer : List Env) (s : Shared) (H : Hp) (E : XK) (f c' : Addr), Room k (A.deeper (LamX.lamEnv X scope s.heap.objs.size f c')) → PE (LamX.lamCx X A outer s H E scope f c') body (t E))
    (hdb : (x == ("__debug__" : Str)) = false := by decide) (hd : (a == ("__debug__" : Str)) = false := by decide) (hcd : (a == ("__classdict__" : Str)) = false := by decide) :
    PE X (.Call (.Name x p) [.Lambda params body scope lpos] [] pos) (LamX.tLam T TT t) := by
  obtain ⟨fd, F⟩ := F
  have hbn := F.bindsN (ps := [a]) hb
  obtain ⟨oc, od, dV, kV, doc, pm, an, cdv, ct, osl, rfl, lk, hcd', _, _⟩ := F.ex
  exact LamX.pe_lamcall hg hm F.kp lk hcd' hbn Sg hNg hva (hG cdv) TB hcode hmT hu (hr.mono hk) L hdef hbind hbody hdb hd hcd
end
/-! ### what stays where lambdas are made -/
theorem extN_sqL {K : PySem.W.Frag} {H H' : Hp} {a : Addr} {xs : List V} (e : LamX.ExtN H H') (h : SqL K H a xs) : SqL K H' a xs := by
  rcases h with h | h
  · rcases h with h | ⟨o, h⟩
    · exact .inl (.inl (e _ _ h (fun _ z => by cases z)))
    · exact .inl (.inr ⟨o, e _ _ h (fun _ z => by cases z)⟩)
  · exact .inr h
theorem extN_tr {H H1 H2 : Hp} (a : LamX.ExtN H H1) (b : LamX.ExtN H1 H2) : LamX.ExtN H H2 := a.trans b
end FW
namespace FWN
open PySem PySem.Spec PyProof.Rows L2 FW
/-! ### several clauses «except X as n» -/
/-- an exception that a try of X has caught; s: the state in which the clauses are asked -/
structure Cau (X : Cx) (pins : List (Addr × Obj)) (a : Addr) (B : Heap) (sI : Shared) (σ : L2.St) (H : Hp) (cls : Value) (d : Option Addr) (s : Shared) : Prop where
  hs : X.stack = X.env :: X.outer
  hf : X.env.frame = some X.env.locals
  inv : Inv X pins σ H sI
  nb : ∀ b o, sI.heap.get? b = some o → b ∉ frs X.stack → B.get? b = some o
  up : sI.heap.UpToSlots s.heap
  fly : HandSPX.FlyingZ B (X.env :: X.outer) a (L2N.Zn cls d) s.heap
  na : H a = none
  os : s.os = sI.os
  ag : AllBare s.gens
section
variable {X : Cx} {pins : List (Addr × Obj)} {a : Addr} {B : Heap} {sI s : Shared} {σ : L2.St} {H : Hp} {cls : Value} {d : Option Addr}
theorem Cau.now (c : Cau X pins a B sI σ H cls d s) : Inv X pins σ H s := c.inv.landed c.nb c.fly.1 c.up c.os c.ag
theorem Cau.on (c : Cau X pins a B sI σ H cls d s) {g : Heap} (f : HandSPX.FlyingZ B (X.env :: X.outer) a (L2N.Zn cls d) g) (u : s.heap.UpToSlots g) : Cau X pins a B sI σ H cls d { s with heap := g } :=
  ⟨c.hs, c.hf, c.inv, c.nb, c.up.trans u, f, c.na, c.os, c.ag⟩
theorem Cau.apart (c : Cau X pins a B sI σ H cls d s) : a ≠ X.env.locals ∧ a ∉ X.fs := by
  have no : a ∉ frs (X.env :: X.outer) := fun m => by
    obtain ⟨ox, vx, hx, _, dx⟩ := c.fly.there
    obtain ⟨_, ox', hx', nx⟩ := c.fly.2.2.1.mem m
    rw [hx] at hx'
    cases hx'
    exact nx _ dx
  have m0 : X.env.locals ∈ frs (X.env :: X.outer) := List.mem_filterMap.mpr ⟨X.env, List.mem_cons_self, c.hf⟩
  refine ⟨fun z => no (by rw [z]; exact m0), fun m => no ?_⟩
  obtain ⟨en, me, q⟩ := List.mem_filterMap.mp m
  exact List.mem_filterMap.mpr ⟨en, List.mem_cons_of_mem _ me, q⟩
theorem Cau.hold (c : Cau X pins a B sI σ H cls d s) : ∃ oe, L2N.Zn cls d oe ∧ (∃ vs, oe.data = .fields vs) ∧ s.heap.get? a = some oe ∧ Inv (X.suite a ((a, oe) :: (X.pn ++ pins))) [] σ H s := by
  obtain ⟨oe, vs, he, hz, hd⟩ := c.fly.there
  exact ⟨oe, hz, ⟨vs, hd⟩, he, c.now.suite he hd c.na c.apart.1 c.apart.2⟩
inductive Hds (X : Cx) : List ExceptHandler → List Cl → Prop
  | nil : Hds X [] []
  | cons {x n : Str} {k : Cl} {b₀ : Stmt} {suite : List Stmt} {np pos' : Pos} {hds : List ExceptHandler} {l : List Cl} (hN : X.N.Nodup) (hi : X.N[k.i]? = some n) (hln : X.env.kindOf n = some .local) (hc : Names X x k.c)
      (hsu : ∀ (a : Addr) (oe : Obj) (cls : Value) (d : Option Addr) (pn : List (Addr × Obj)), L2N.Zn cls d oe → (∃ vs, oe.data = .fields vs) → PSs (X.suite a ((a, oe) :: pn)) (b₀ :: suite) (k.ts a cls d)) (r : Hds X hds l) :
      Hds X (.ExceptHandler (some (.Name x np)) (some n) (b₀ :: suite) pos' :: hds) (k :: l)
/-- no clause takes it: it goes on -/
theorem Cau.pass (c : Cau X pins a B sI σ H cls d s) {Wout : WX} {Q : Flow → Shared → Prop} (tk : L2N.Takes X Wout) (w : Wout cls d σ H) : wpAny (model X.prog X.w) X.A (handleBy (.ref a) X.env []) Q X.xe s := by
  refine wpAny_handleBy_nil ?_
  have up0 : wpAny (model X.prog X.w) X.A (setFlight (.ref a) X.env.frame) (fun _ s4 => wpAny (model X.prog X.w) X.A (throw (.ref a) : Sem Flow) Q X.xe s4) X.xe s := by
    rw [c.hf]
    refine HandSPX.setFlight_upZ c.fly fun g gh gu => wpAny_throw (tk _ _ ?_)
    exact ⟨a, B, sI, pins, σ, H, cls, d, rfl, c.inv, c.nb, c.up.trans gu, .inr (.inr (by rw [c.hs]; exact gh)), c.na, c.os, c.ag, w⟩
  obtain ⟨_, _, _, oe, vs, Tb, oT, us, he, _, hd, h1, _⟩ := c.fly
  unfold PySem.passOn
  refine wpAny_bind (wpAny_field he hd h1 ?_)
  rw [if_neg (by simp)]
  first
    | exact wpAny_bind (wpAny_pure (wpAny_bind up0))
    | exact wpAny_bind up0
/-- the clauses, one behind the other -/
theorem Cau.ask {D : Ends} {Wout : WX} (tk : L2N.Takes X Wout) : ∀ {hds : List ExceptHandler} {l : List Cl}, Hds X hds l → Cau X pins a B sI σ H cls d s → wCls X.K Wout D l cls d σ H →
    wpAny (model X.prog X.w) X.A (handleBy (.ref a) X.env hds) (SP X pins D) X.xe s := by
  intro hds l hk c
  induction hk with
  | nil => exact fun w => c.pass tk w
  | @cons x n k b₀ suite np pos' hds' l' hN hi hln hc hsu _ ih =>
    rintro ⟨b, hb, yes, no⟩
    obtain ⟨oe, hz, hfl, he, S⟩ := c.hold
    refine wpAny_handleBy_cons (codeAny_handlers_test ?_) (by intro q; cases q)
    have lt : PySem.W.Looks (model X.prog X.w) s.heap (typeOf (.ref a)) cls := fun _ _ _ _ kp q => wpAny_typeOf_ref (kp _ _ he) (by rw [hz.1]; exact q)
    have lm := PySem.W.exm_one (M := model X.prog X.w) c.now.kIn lt hb
    have name : ∀ {Q : Value → Shared → Prop} {E : Value → Shared → Prop}, Q k.c s → wpAny (model X.prog X.w) (X.A.mark (some (.ref a))) (eval (.Name x np) X.env) Q E s := fun {Q E} q => by
      rcases hc with ⟨hg, hdb, hm | ⟨hm, hv, hnn⟩⟩
      · exact ld_glob (X := X.suite a ((a, oe) :: (X.pn ++ pins))) S hg hm q hdb
      · exact ld_blt (X := X.suite a ((a, oe) :: (X.pn ++ pins))) S hg hm hv q hnn hdb
    refine name (lm.here ?_)
    cases b with
    | false =>
      show wpAny _ X.A (handleBy (.ref a) X.env hds') _ _ _
      exact ih (no rfl)
    | true =>
      refine codeAny_handlers_suite_as (HandSPX.lands_againZ c.fly fun g gf gu => ?_)
      have c' := c.on gf gu
      obtain ⟨o2, z2, f2, e2, S2⟩ := c'.hold
      refine store_ok (X := X.suite a ((a, o2) :: (X.pn ++ pins))) (v := .ref a) S2 hN hi (.inl hln) rfl (fun s5 S5 => ?_) (.inr hln)
      refine wpAny_mono ((hsu a o2 cls d (X.pn ++ pins) z2 f2).run [] s5 _ H _ S5 (yes rfl a c.na)) (fun fl s6 hsp => ?_) (fun _ _ z => False.elim z)
      have leave : ∀ {τ : L2.St} {G : Hp} {Q : Shared → Prop}, Inv (X.suite a ((a, o2) :: (X.pn ++ pins))) [] τ G s6 → (∀ s7, Inv X pins (τ.set k.i none) G s7 → Q s7) →
          wpAny (model X.prog X.w) X.A (do bindName X.env n .none; unbindBehindTheSuite X.env n pos') (fun _ s7 => Q s7) X.xe s6 := fun {τ G Q} S6 hq => gone_ok (S6.unsuite c.inv.ok) hN hi hln hq
      cases fl with
      | ret u =>
        obtain ⟨v6, τ, G, S6, r6, q6⟩ := hsp
        exact leave S6 fun s7 J7 => ⟨_, _, _, J7, r6, q6⟩
      | next =>
        obtain ⟨τ, G, S6, q6⟩ := hsp
        exact leave S6 fun s7 J7 => ⟨_, _, J7, q6⟩
      | brk =>
        obtain ⟨τ, G, S6, q6⟩ := hsp
        exact leave S6 fun s7 J7 => ⟨_, _, J7, q6⟩
      | cont =>
        obtain ⟨τ, G, S6, q6⟩ := hsp
        exact leave S6 fun s7 J7 => ⟨_, _, J7, q6⟩
end
section
variable {X : Cx} {body : List Stmt} {h₀ : ExceptHandler} {hds : List ExceptHandler} {l : List Cl} {pos : Pos} {tb : WX → TS} {Wout : WX}
/-- try: body except X1 as n1: .. except X2 as n2: .. -/
theorem ps_tryA (hs : X.stack = X.env :: X.outer) (hf : X.env.frame = some X.env.locals) (tk : L2N.Takes X Wout)
    (hb : ∀ (W : WX) (pn : List (Addr × Obj)) (xe : Value → Shared → Prop), L2N.Takes (X.tr pn xe) W → PassesOwn (model X.prog X.w) X.A X.env xe → PSs (X.tr pn xe) body (tb W))
    (hh : Hds X (h₀ :: hds) l) : PS X (.Try body (h₀ :: hds) [] [] pos) (tTryA X.K tb l Wout) := by
  refine ⟨fun pins s σ H D I h => wpAny_Try_except ?_⟩
  have fr : X.A.frames = some (X.env :: X.outer) := by rw [I.ok.frames, hs]
  have run := (hb (wCls X.K Wout D l) (X.pn ++ pins) (fun e s₁ => wpAny (model X.prog X.w) X.A (noteFrame e X.env) (fun _ s₂ => wpAny (model X.prog X.w) X.A (setFlight e none)
    (fun _ s₃ => wpAny (model X.prog X.w) X.A (handleBy e X.env (h₀ :: hds)) (SP X pins D) X.xe s₃) X.xe s₂) X.xe s₁) ?_ PassesOwn.looking).run [] s σ H D (I.toTry _) h
  · refine wpAny_mono run (fun fl s1 hsp => ?_) (fun _ _ he => he)
    cases fl with
    | ret u =>
      obtain ⟨v, τ, G, J, r, q⟩ := hsp
      exact ⟨v, τ, G, J.ofTry I.ok, r, q⟩
    | next =>
      obtain ⟨τ, G, J, q⟩ := hsp
      exact wpAny_execs_nil ⟨τ, G, J.ofTry I.ok, q⟩
    | brk =>
      obtain ⟨τ, G, J, q⟩ := hsp
      exact ⟨τ, G, J.ofTry I.ok, q⟩
    | cont =>
      obtain ⟨τ, G, J, q⟩ := hsp
      exact ⟨τ, G, J.ofTry I.ok, q⟩
  · rintro u s1 ⟨a, B, sI, ps, τ, G, cls, d, rfl, J, nb, up, sky, na, os, ag, w⟩
    have sky' : Sky B (X.env :: X.outer) a (L2N.Zn cls d) X.env.locals s1.heap := by rw [← hs]; exact sky
    show wpAny (model X.prog X.w) X.A (noteFrame (.ref a) X.env) _ _ _
    refine L2N.Sky.land L2N.Zn.steady fr hf sky' fun g gf gu => ?_
    exact Cau.ask (s := { s1 with heap := g }) tk hh ⟨hs, hf, J.ofTry I.ok, nb, up.trans gu, gf, na, os, ag⟩ w
/-- no exception leaves: a def that may raise, called where E0 is wanted -/
theorem passNo {P : Program} {w : World} {X : Cx} : Passes (L2N.CX P w) X E0 := fun _ _ _ _ _ _ _ ⟨_, _, _, _, _, _, _, _, _, _, _, _, z⟩ => z.elim
theorem takesNo {X : Cx} : L2N.Takes X (fun _ _ _ _ => False) := fun _ _ ⟨_, _, _, _, _, _, _, _, _, _, _, _, _, _, _, _, z⟩ => z.elim
end
/-! ### calls of defs that may raise -/
section
variable {X : Cx} {k j : Nat} {C : Addr} {x m : Str} {sp : Sp} {dvs : List V} {p pos apos : Pos} {e o : Expr} {es : List Expr} {ta : TE} {t : TA} {E : XK} {W : WX}
abbrev CXX (X : Cx) : CXT := L2N.CX X.prog X.w
/-- where nothing is raised -/
theorem pe_fN (c : Fn X.prog X.w X.K X.mg X.base (CXX X) k x sp dvs) (hr : Room j X.A) (hk : k ≤ j) (hg : Gl X x) (ha : PA X (e :: es) t)
    (hdb : (x == ("__debug__" : Str)) = false := by decide) (he : starEach (e :: es) X.env = (false, eval e X.env) :: starEach es X.env := by rfl) (hpl : (backTo pos (starEach es X.env)).any (·.1) = false := by rfl) :
    PE X (.Call (.Name x p) (e :: es) [] pos) (tCall sp dvs E0 t) := by
  obtain ⟨f, fd, ps, ds, F, hm, kp, b, d⟩ := c.ex
  exact pe_call F (hr.mono hk) hg hm kp b d passNo ha hdb he hpl
theorem pe_fX (tk : L2N.Takes X (fun cls d _ H => E cls d H)) (c : Fn X.prog X.w X.K X.mg X.base (CXX X) k x sp dvs) (hr : Room j X.A) (hk : k ≤ j) (hg : Gl X x) (ha : PA X (e :: es) t)
    (hdb : (x == ("__debug__" : Str)) = false := by decide) (he : starEach (e :: es) X.env = (false, eval e X.env) :: starEach es X.env := by rfl) (hpl : (backTo pos (starEach es X.env)).any (·.1) = false := by rfl) :
    PE X (.Call (.Name x p) (e :: es) [] pos) (tCall sp dvs E t) := by
  obtain ⟨f, fd, ps, ds, F, hm, kp, b, d⟩ := c.ex
  exact pe_call F (hr.mono hk) hg hm kp b d (L2N.passes_call tk fun _ _ _ _ h => h) ha hdb he hpl
theorem pe_fS (tk : L2N.Takes X W) (c : Fn X.prog X.w X.K X.mg X.base (CXX X) k x sp []) (hr : Room j X.A) (hk : k ≤ j) (hg : Gl X x) (ha : PA X (e :: es) t)
    (hdb : (x == ("__debug__" : Str)) = false := by decide) (he : starEach (e :: es) X.env = (false, eval e X.env) :: starEach es X.env := by rfl) (hpl : (backTo pos (starEach es X.env)).any (·.1) = false := by rfl) :
    PE X (.Call (.Name x p) (e :: es) [] pos) (tCallS sp (WE W) t) := by
  obtain ⟨f, fd, ps, ds, F, hm, kp, b, d⟩ := c.ex
  cases d
  exact pe_callS F (hr.mono hk) hg hm kp b (fun σ => L2N.passAt tk σ) ha hdb he hpl
theorem pe_mN (c : Mkr X.prog X.w X.K X.mg X.base (CXX X) k x C sp dvs) (hr : Room j X.A) (hk : k + 1 ≤ j) (hg : Gl X x) (ha : PA X (e :: es) t)
    (hdb : (x == ("__debug__" : Str)) = false := by decide) (he : starEach (e :: es) X.env = (false, eval e X.env) :: starEach es X.env := by rfl) (hpl : (backTo pos (starEach es X.env)).any (·.1) = false := by rfl) :
    PE X (.Call (.Name x p) (e :: es) [] pos) (tMake C sp dvs E0 t) := by
  obtain ⟨f, fd, ps, ds, M, F, hm, b, d⟩ := c.ex
  exact pe_make M F (hr.mono hk) hg hm b d passNo ha hdb he hpl
theorem pe_mX (tk : L2N.Takes X (fun cls d _ H => E cls d H)) (c : Mkr X.prog X.w X.K X.mg X.base (CXX X) k x C sp dvs) (hr : Room j X.A) (hk : k + 1 ≤ j) (hg : Gl X x) (ha : PA X (e :: es) t)
    (hdb : (x == ("__debug__" : Str)) = false := by decide) (he : starEach (e :: es) X.env = (false, eval e X.env) :: starEach es X.env := by rfl) (hpl : (backTo pos (starEach es X.env)).any (·.1) = false := by rfl) :
    PE X (.Call (.Name x p) (e :: es) [] pos) (tMake C sp dvs E t) := by
  obtain ⟨f, fd, ps, ds, M, F, hm, b, d⟩ := c.ex
  exact pe_make M F (hr.mono hk) hg hm b d (L2N.passes_call tk fun _ _ _ _ h => h) ha hdb he hpl
theorem pe_oN {pl : Sem Bool} (c : Mt X.prog X.w X.K X.mg X.base (CXX X) k C m sp dvs) (hr : Room j X.A) (hk : k ≤ j) (he : PE X o ta) (ha : PA X (e :: es) t)
    (hst : starEach (e :: es) X.env = (false, eval e X.env) :: starEach es X.env := by rfl) (hpl : (backTo pos (starEach es X.env)).any (·.1) = false := by rfl) (ht : MTree X o m apos pos (e :: es) pl := by rfl) :
    PE X (.Call (.Attribute o m apos) (e :: es) [] pos) (tMeth C m sp dvs E0 ta t) := by
  obtain ⟨f, fd, ps, ds, hc, hm, F, b, d⟩ := c.ex
  exact pe_meth (pl := pl) he hc hm F (hr.mono hk) b d passNo ha hst hpl ht
theorem pe_oX {pl : Sem Bool} (tk : L2N.Takes X (fun cls d _ H => E cls d H)) (c : Mt X.prog X.w X.K X.mg X.base (CXX X) k C m sp dvs) (hr : Room j X.A) (hk : k ≤ j) (he : PE X o ta) (ha : PA X (e :: es) t)
    (hst : starEach (e :: es) X.env = (false, eval e X.env) :: starEach es X.env := by rfl) (hpl : (backTo pos (starEach es X.env)).any (·.1) = false := by rfl) (ht : MTree X o m apos pos (e :: es) pl := by rfl) :
    PE X (.Call (.Attribute o m apos) (e :: es) [] pos) (tMeth C m sp dvs E ta t) := by
  obtain ⟨f, fd, ps, ds, hc, hm, F, b, d⟩ := c.ex
  exact pe_meth (pl := pl) he hc hm F (hr.mono hk) b d (L2N.passes_call tk fun _ _ _ _ h => h) ha hst hpl ht
theorem pe_oS {pl : Sem Bool} (tk : L2N.Takes X W) (c : Mt X.prog X.w X.K X.mg X.base (CXX X) k C m sp []) (hr : Room j X.A) (hk : k ≤ j) (he : PE X o ta) (ha : PA X (e :: es) t)
    (hst : starEach (e :: es) X.env = (false, eval e X.env) :: starEach es X.env := by rfl) (hpl : (backTo pos (starEach es X.env)).any (·.1) = false := by rfl) (ht : MTree X o m apos pos (e :: es) pl := by rfl) :
    PE X (.Call (.Attribute o m apos) (e :: es) [] pos) (tMethW C m sp W ta t) := by
  obtain ⟨f, fd, ps, ds, hc, hm, F, b, d⟩ := c.ex
  cases d
  refine ⟨fun pins s σ H Q I h => PySem.W.methodCall_KW (pl := pl) (thn (he.run pins s σ H _ I h) ?_) ht⟩
  rintro u s1 ⟨x, H1, I1, rx, a, dx, fs, rfl, ea, l, q⟩
  obtain rfl : u = Value.ref a := rx
  refine getmeth_ok I1 ea hc hm l (PySem.W.callWith_K (first := [.ref a]) (h₀ := X.base) I.ok.mod.kin hm.kp (thn (ha.run pos pins s1 σ H1 _ I1 q) ?_) hst hpl)
  rintro us s2 ⟨vs, H2, I2, r, q2⟩
  exact ⟨I2.kIn, run_fnS (us := .ref a :: us) (vs := .ref a :: vs) F (hr.mono hk) b (L2N.passAt tk σ) I2 (.cons rfl r) q2⟩
end
section
variable {P : Program} {w : World} {K : PySem.W.Frag} {mg : Str → Option Value} {base : Heap}
abbrev CXP (P : Program) (w : World) : CXT := L2N.CX P w
theorem Fn.mkX {x : Str} {params : Arguments} {body : List Stmt} {scope : Scope} {f : Addr} {N ps : List Str} {k : Nat} {sp : Sp}
    (F : ∃ fd, FunD K x x params body scope [] [] f fd) (g : mg x = some (.ref f)) (S : FnScope N ps scope)
    (hb : ∀ (kV doc pm : Value) (an : Option Addr) (cdv ct : Value) (us : List Value), us.length = ps.length → bindArgs (PySem.W.fnOf x x params body scope .none kV doc pm an cdv ct) ⟨us, []⟩ = pure (ps.zip us))
    (len : ∀ vs H Q E, sp vs H Q E → vs.length = ps.length)
    (hbody : ∀ (cdv : Value) (A : Around) (outer : List Env) (s : Shared) (H : Hp) (vs : List V) (Q : VK) (E : XK), Room k (A.deeper (envOfC x scope s.heap.objs.size f cdv)) → sp vs H Q E →
      ∃ t, PSs (cxOf (CXP P w) P w K mg base N x scope f cdv A outer s H E) body t ∧ t { nx := fun _ H' => Q .non H', rt := Q } (start N vs) H) : Fn P w K mg base (CXP P w) (k + 1) x sp [] := by
  obtain ⟨fd, F⟩ := F
  exact ⟨f, fd, ps, [], F.ok S len hbody, g, F.kp, F.bindsN hb, .nil⟩
theorem Mt.mkX {m qual : Str} {C : Addr} {params : Arguments} {body : List Stmt} {scope : Scope} {f : Addr} {N ps : List Str} {k : Nat} {sp : Sp}
    (c : Cls K C) (me : Meth K C m f) (F : ∃ fd, FunD K m qual params body scope [] [] f fd) (S : FnScope N ps scope)
    (hb : ∀ (kV doc pm : Value) (an : Option Addr) (cdv ct : Value) (us : List Value), us.length = ps.length → bindArgs (PySem.W.fnOf m qual params body scope .none kV doc pm an cdv ct) ⟨us, []⟩ = pure (ps.zip us))
    (len : ∀ vs H Q E, sp vs H Q E → vs.length = ps.length)
    (hbody : ∀ (cdv : Value) (A : Around) (outer : List Env) (s : Shared) (H : Hp) (vs : List V) (Q : VK) (E : XK), Room k (A.deeper (envOfC qual scope s.heap.objs.size f cdv)) → sp vs H Q E →
      ∃ t, PSs (cxOf (CXP P w) P w K mg base N qual scope f cdv A outer s H E) body t ∧ t { nx := fun _ H' => Q .non H', rt := Q } (start N vs) H) : Mt P w K mg base (CXP P w) (k + 1) C m sp [] := by
  obtain ⟨fd, F⟩ := F
  exact ⟨f, fd, ps, [], c, me, F.ok S len hbody, F.bindsN hb, .nil⟩
theorem Mkr.mkX {x qual : Str} {C : Addr} {params : Arguments} {body : List Stmt} {scope : Scope} {f : Addr} {N ps : List Str} {k : Nat} {sp : Sp} {dvs : List V}
    (n j : Nat) (M : Mk K C f) (g : mg x = some (.ref C)) (F : ∃ fd, FunD K "__init__" qual params body scope dvs [] f fd) (S : FnScope N ps scope) (hd : dvs ≠ []) (hn : n + (dvs.length - j) = ps.length)
    (hb : ∀ (T : Addr) (kV doc pm : Value) (an : Option Addr) (cdv ct : Value) (us its : List Value), us.length = n → its.length = dvs.length →
      ∃ k, bindArgs (PySem.W.fnOf "__init__" qual params body scope (.ref T) kV doc pm an cdv ct) ⟨us, []⟩ = seqItems? (.ref T) >>= k ∧ k (some its.toArray) = pure (ps.zip (us ++ its.drop j)))
    (len : ∀ vs H Q E, sp vs H Q E → vs.length = ps.length)
    (hbody : ∀ (cdv : Value) (A : Around) (outer : List Env) (s : Shared) (H : Hp) (vs : List V) (Q : VK) (E : XK), Room k (A.deeper (envOfC qual scope s.heap.objs.size f cdv)) → sp vs H Q E →
      ∃ t, PSs (cxOf (CXP P w) P w K mg base N qual scope f cdv A outer s H E) body t ∧ t { nx := fun _ H' => Q .non H', rt := Q } (start N vs) H) : Mkr P w K mg base (CXP P w) (k + 1) x C sp (dvs.drop j) := by
  obtain ⟨fd, F⟩ := F
  obtain ⟨ds, hv, hbn⟩ := F.binds1 (ps := ps) n j hd hn hb
  exact ⟨f, fd, ps, ds, M, F.ok S len hbody, g, hbn, hv⟩
theorem Mkr.mkX0 {x qual : Str} {C : Addr} {params : Arguments} {body : List Stmt} {scope : Scope} {f : Addr} {N ps : List Str} {k : Nat} {sp : Sp}
    (M : Mk K C f) (g : mg x = some (.ref C)) (F : ∃ fd, FunD K "__init__" qual params body scope [] [] f fd) (S : FnScope N ps scope)
    (hb : ∀ (kV doc pm : Value) (an : Option Addr) (cdv ct : Value) (us : List Value), us.length = ps.length → bindArgs (PySem.W.fnOf "__init__" qual params body scope .none kV doc pm an cdv ct) ⟨us, []⟩ = pure (ps.zip us))
    (len : ∀ vs H Q E, sp vs H Q E → vs.length = ps.length)
    (hbody : ∀ (cdv : Value) (A : Around) (outer : List Env) (s : Shared) (H : Hp) (vs : List V) (Q : VK) (E : XK), Room k (A.deeper (envOfC qual scope s.heap.objs.size f cdv)) → sp vs H Q E →
      ∃ t, PSs (cxOf (CXP P w) P w K mg base N qual scope f cdv A outer s H E) body t ∧ t { nx := fun _ H' => Q .non H', rt := Q } (start N vs) H) : Mkr P w K mg base (CXP P w) (k + 1) x C sp [] := by
  obtain ⟨fd, F⟩ := F
  exact ⟨f, fd, ps, [], M, F.ok S len hbody, g, F.bindsN hb, .nil⟩
end
end FWN
namespace FWN
open PySem PySem.Spec PyProof.Rows L2 FW
section
variable {X : Cx} {C fI : Addr} {f x : Str}
theorem pmk_err {a : Expr} {ta : TA} {p pos : Pos} {k : Nat} (T : PySem.ErrX.ErrC X.prog X.K C fI f) (hf : ErrF f) (gC : X.mg x = some (.ref C)) (hr : Room k X.A) (ha : PA X [a] ta) (hg : Gl X x) (hdb : (x == ("__debug__" : Str)) = false := by decide)
    (he : starEach (a :: []) X.env = (false, eval a X.env) :: starEach [] X.env := by rfl) (hpl : (backTo pos (starEach [] X.env)).any (·.1) = false := by rfl) :
    L2N.PMk X (.Call (.Name x p) [a] [] pos) (tMkE C f ta) := by
  intro pins s σ H Q I h
  refine wpAny_Call_Name_kw (ld_glob I hg gC ?_ hdb)
  refine PySem.W.callWith_K (h₀ := X.base) I.ok.mod.kin T.kC (thn (ha.run pos pins s σ H _ I h) fun us s1 hh => ?_) he hpl
  obtain ⟨vs, H1, I1, r1, v, ev, q1⟩ := hh
  subst ev
  refine ⟨I1.kIn, ?_⟩
  cases r1 with
  | cons rv rn =>
    rename_i v' us'
    cases rn
    show wpAny _ _ (call (.ref C) [v']) _ _ _
    have hlim := I1.nolimit
    have hG := I1.mod.glob.keeps I1.bk
    obtain ⟨mb, hb1, hb2⟩ := I1.mod.blt
    have hB := hb1.keeps I1.bk
    obtain ⟨hp, g, dr, tk, os⟩ := s1
    refine wpAny_call (PySem.ErrX.err_made T hf I1.kIn hlim hG hB hb2 (by have := hr.dp; omega) fun h' tk' e d M => ?_)
    show L2N.MkP X pins σ Q (.ref e) ⟨h', g, dr, tk', os⟩
    obtain ⟨oe, fv, hoe, hc, hd, hdat, h1, h2⟩ := M.obj
    have hns := M.ns
    obtain ⟨G', g1, g2⟩ := restrict h' fun b => decide (b ≠ e)
    have gk : ∀ b, b ≠ e → G'.get? b = h'.get? b := fun b hb => g1 b (decide_eq_true hb)
    have ge : G'.get? e = none := g2 e (by simp)
    have old : ∀ b o, hp.get? b = some o → G'.get? b = some o := fun b o q => (gk b (Nat.ne_of_lt (Nat.lt_of_lt_of_le (Heap.lt_size q) M.new))).trans (M.keep b o q)
    have ob : ObjOk X.prog X.w (upd H1 d (.xd [(f, v)])) G' d (.xd [(f, v)]) :=
      ⟨_, hns.at (fun o q => (gk d M.dne).trans q), fun f => relO_err rv f⟩
    have J : Inv X pins σ (upd H1 d (.xd [(f, v)])) ⟨G', g, dr, tk', os⟩ := I1.laid (t' := tk') old M.dbig ob
    refine ⟨e, oe, fv, ⟨G', g, dr, tk', os⟩, _, .ref C, some d, rfl, J, fun b o q => ?_, ge, hoe, ⟨hc, hd, fun vs q => by rw [hdat] at q; cases q; exact h2⟩, hdat, h1, ?_, rfl, I1.bare, raises_own T.exC T.tyC, q1 d (I1.hok.fresh M.dbig)⟩
    · by_cases hb : b = e
      · have q' : G'.get? b = some o := q
        rw [hb, ge] at q'; cases q'
      · exact (gk b hb).symm.trans q
    · rw [upd_ne (Ne.symm M.dne)]
      exact I1.hok.fresh M.new
theorem ps_raiseE {a : Expr} {ta : TA} {W : WX} {p pos pos2 : Pos} {k : Nat} (hc : X.calm = true) (T : PySem.ErrX.ErrC X.prog X.K C fI f) (hf : ErrF f) (gC : X.mg x = some (.ref C)) (hr : Room k X.A) (tk : L2N.Takes X W) (ha : PA X [a] ta) (hg : Gl X x) (hdb : (x == ("__debug__" : Str)) = false := by decide)
    (he : starEach (a :: []) X.env = (false, eval a X.env) :: starEach [] X.env := by rfl) (hpl : (backTo pos (starEach [] X.env)).any (·.1) = false := by rfl) :
    PS X (.Raise (some (.Call (.Name x p) [a] [] pos)) none pos2) (tRaiseE C f W ta) := L2N.ps_raise hc tk (pmk_err T hf gC hr ha hg hdb he hpl)
end
end FWN
namespace FWN
open PySem PySem.Spec PyProof.Rows L2 FW LamX
/-! ### lambdas without parameters; what is raised has no context -/
theorem inv_xe {X : Cx} {g : Value → Shared → Prop} {pins : List (Addr × Obj)} {σ : L2.St} {H : Hp} {s : Shared} (I : Inv X pins σ H s) : Inv { X with xe := g } pins σ H s :=
  ⟨⟨I.ok.mod, I.ok.kind, I.ok.glob, I.ok.blt, I.ok.above, I.ok.inj, I.ok.has, I.ok.cab, I.ok.hd, I.ok.frames, I.ok.stk, I.ok.exf, I.ok.bs, I.ok.bsz, I.ok.noex, I.ok.exfs, I.ok.funs, I.ok.frf⟩, I.os, I.bare, I.base, I.loc, I.cell, I.free, I.freeC, I.pin, I.hok, I.len⟩
def lamCxN (X : Cx) (A : Around) (outer : List Env) (s : Shared) (H : Hp) (E : XK) (scope : Scope) (f c' : Addr) : Cx :=
  { lamCx X A outer s H E scope f c' with xe := fun e s' => wpAny (model X.prog X.w) (A.deeper (lamEnv X scope s.heap.objs.size f c')) (leaving (lamEnv X scope s.heap.objs.size f c') e) (fun _ s2 => L2N.CX X.prog X.w outer H s E e s2) (fun e2 s2 => L2N.CX X.prog X.w outer H s E e2 s2) s' }
/-- the def's context in which the lambda is called -/
abbrev defCx (X : Cx) (Ng : List Str) (qg : Str) (sg : Scope) (g : Addr) (cdg : Value) (s : Shared) (H : Hp) (pn : List (Addr × Obj)) (xe : Value → Shared → Prop) : Cx := (cxOf CX0 X.prog X.w X.K X.mg X.base Ng qg sg g cdg X.A X.stack s H E0).tr pn xe
section
variable {X : Cx} {pins : List (Addr × Obj)} {σ : L2.St} {H : Hp} {s : Shared}
theorem pe_actN {Ng : List Str} {qg : Str} {sg : Scope} {g f c' : Addr} {cdg pm ctv : Value} {params : Arguments} {body : Expr} {scope : Scope} {k i : Nat} {a : Str} {pn : List (Addr × Obj)} {xe : Value → Shared → Prop} {W : WX} {E : XK} {tb : TE} {p1 p2 : Pos}
    (I : Inv X pins σ H s) (L : LamS X.env.scope scope) (hf : s.heap.get? f = some (PySem.W.kla_obj "<lambda>" (X.env.qual ++ "<lambda>") params body scope (cloFrom X.env.cells scope.names []) pm c' ctv)) (hfn : H f = none) (hfr : f ∉ frs X.stack)
    (hbind : bindArgs (PySem.W.kla_fn "<lambda>" (X.env.qual ++ "<lambda>") params body scope (cloFrom X.env.cells scope.names []) pm (.ref c') ctv) ⟨[], []⟩ = pure [])
    (tk : L2N.Takes (defCx X Ng qg sg g cdg s H pn xe) W) (hW : ∀ cls d σ' H', E cls d H' → W cls d σ' H') (hr : Room (k + 1) (X.A.deeper (envOfC qg sg s.heap.objs.size g cdg)))
    (hbody : ∀ (A : Around) (outer : List Env) (s : Shared) (H : Hp), Room k (A.deeper (lamEnv X scope s.heap.objs.size f c')) → PE (lamCxN X A outer s H E scope f c') body tb)
    (hN : Ng[i]? = some a) (hv : Vis sg a) (hd : (a == ("__debug__" : Str)) = false) (hcd : (a == ("__classdict__" : Str)) = false) :
    PE (defCx X Ng qg sg g cdg s H pn xe) (.Call (.Name a p1) [] [] p2) (fun σZ HZ Q => σZ[i]? = some (some (.ref f)) ∧ HZ c' = some (CodeO c' (X.env.qual ++ "<lambda>")) ∧ tb σ HZ Q) := by
  refine ⟨?_⟩
  rintro pinsZ sZ σZ HZ Q IZ ⟨es, ec, et⟩
  refine wpAny_Call_Name_kw (thn ((pe_var (pos := p1) (i := i) hN hv hd hcd).run pinsZ sZ σZ HZ (fun v H1 => v = .ref f ∧ H1 = HZ) IZ ⟨.ref f, es, rfl, rfl⟩) ?_)
  rintro u s1 ⟨v, H1, I1, r1, rfl, rfl⟩
  obtain rfl : u = Value.ref f := r1
  have keptF := I1.base.keep f _ hf hfn hfr (fun z => nomatch (show f ∈ ([] : List Addr) from z))
  refine PySem.W.callWith_F0 ⟨_, _, _, _, keptF⟩ (wpAny_call ?_)
  obtain ⟨⟨oc, vs, t, hoc, hdc, hvc⟩, _, _⟩ := I1.hok c' _ ec
  have ran : codeAny (model X.prog X.w) (X.A.deeper (envOfC qg sg s.heap.objs.size g cdg)) (.call (.ref f) ⟨[], []⟩) (CR (L2N.CX X.prog X.w) (envOfC qg sg s.heap.objs.size g cdg :: X.stack) X.prog X.w H1 s1 Q E) s1 := by
    refine PySem.W.kla_callFunE hr.depth keptF rfl L.co L.gen rfl ⟨c', oc, vs, t, rfl, hoc, hdc, hvc⟩ ?_
    rw [hbind]
    refine wpAny_pure (wpAny_newFunctionEnv (fun y hy => (L.own y hy).2) (fun y hy => absurd hy (by simp)) (fun h₁ hns hsb => ⟨I1.nolimit.fresh _ hsb, ?_⟩) L.kind)
    show codeAny _ _ (.expr body (lamEnv X scope s1.heap.objs.size f c')) _ _
    have J0 := lam_start2 (E := E) (f := f) (c' := c') (tk := s1.toks + ([] : List (Str × Value)).length) I L I1.env0 hr.hd I1.base hns (fun b o e => hsb.extBut b o (Nat.ne_of_lt (Heap.lt_size e)) (Heap.get?_push_of_some _ e))
    refine PySem.W.kla_codeExpr (wpAny_mono ((hbody _ _ s1 H1 (hr.deeper _)).run [] _ _ H1 Q (inv_xe J0) et) ?_ fun e s' hq => hq)
    rintro v s' ⟨w', H', J', rv, q⟩
    exact ⟨w', H', J'.os, J'.bare, J'.base, J'.hok, rv, q⟩
  have pass := L2N.passes_call tk hW
  refine codeAny_mono ran fun r s' hq => ?_
  match r, hq with
  | .error e, hq => exact pass pinsZ σZ H1 s1 e s' I1 hq
  | .ok (.ret u), hq => exact I1.after hq
  | .ok .next, hq => exact False.elim hq
  | .ok .brk, hq => exact False.elim hq
  | .ok .cont, hq => exact False.elim hq
/-- the def that calls what it got -/
def GivesToN (X : Cx) (Ng : List Str) (x : Str) (sg : Scope) (g : Addr) (cdg : Value) (bg : List Stmt) (a : Str) (q : Str) (TT : (XK → Hp → VK → Prop) → Hp → VK → Prop) : Prop :=
  ∀ (f c' : Addr) (s : Shared) (H : Hp) (Q : VK) (tl : XK → Hp → VK → Prop) (j : Nat), Room j (X.A.deeper (envOfC x sg s.heap.objs.size g cdg)) →
    (∀ (W : WX) (pn : List (Addr × Obj)) (xe : Value → Shared → Prop) (E : XK) (p1 p2 : Pos), L2N.Takes (defCx X Ng x sg g cdg s H pn xe) W → (∀ cls d σ' H', E cls d H' → W cls d σ' H') →
      PE (defCx X Ng x sg g cdg s H pn xe) (.Call (.Name a p1) [] [] p2) (fun σZ HZ Q => σZ[0]? = some (some (.ref f)) ∧ HZ c' = some (CodeO c' q) ∧ tl E HZ Q)) →
    H c' = some (CodeO c' q) → TT tl H Q → 8 ≤ j →
    ∃ t, PSs (cxOf CX0 X.prog X.w X.K X.mg X.base Ng x sg g cdg X.A X.stack s H E0).nox bg t ∧ t { nx := fun _ H' => Q .non H', rt := Q } (L2.start Ng [.ref f]) H
end
section
variable {X : Cx}
/-- x(lambda: body): the def x by its data -/
theorem pe_lamN {T : List (Addr × Str)} {TT : (XK → Hp → VK → Prop) → Hp → VK → Prop} {x a : Str} {g c P : Addr} {k j : Nat} {pg : Arguments} {bg : List Stmt} {sg : Scope} {Ng : List Str}
    {params : Arguments} {body : Expr} {scope : Scope} {t : XK → TE} {p lpos pos : Pos} (F : ∃ fd, FunD X.K x x pg bg sg [] [] g fd) (hm : X.mg x = some (.ref g)) (hg : Gl X x)
    (hb : ∀ (kV doc pm : Value) (an : Option Addr) (cdv ct : Value) (us : List Value), us.length = [a].length → bindArgs (PySem.W.fnOf x x pg bg sg .none kV doc pm an cdv ct) ⟨us, []⟩ = pure ([a].zip us)) (Sg : FnScope Ng [a] sg) (hNg : Ng[0]? = some a) (hva : Vis sg a)
    (hG : ∀ cdv, GivesToN X Ng x sg g cdv bg a (X.env.qual ++ "<lambda>") TT)
    (TB : TabB X.base X.mg c P) (hcode : X.env.code = .ref c) (hmT : (P, X.env.qual ++ "<lambda>") ∈ T) (hu : ∀ p ∈ T, p.1 = P → p.2 = X.env.qual ++ "<lambda>") (hr : Room j X.A) (hk : k + 2 ≤ j) (hk8 : 10 ≤ j) (L : LamS X.env.scope scope) (hdef : defaultsOf params X.env = ([], []))
    (hbind : ∀ (q : Str) (cl : List (Str × Addr)) (pm cv ctv : Value), bindArgs (PySem.W.kla_fn "<lambda>" q params body scope cl pm cv ctv) ⟨[], []⟩ = pure [])
    (hbody : ∀ (A : Around) (outer : List Env) (s : Shared) (H : Hp) (E : XK) (f c' : Addr), Room k (A.deeper (lamEnv X scope s.heap.objs.size f c')) → PE (lamCxN X A outer s H E scope f c') body (t E))
    (hdb : (x == ("__debug__" : Str)) = false := by decide) (hd : (a == ("__debug__" : Str)) = false := by decide) (hcd : (a == ("__classdict__" : Str)) = false := by decide) :
    PE X (.Call (.Name x p) [.Lambda params body scope lpos] [] pos) (LamX.tLam T TT t) := by
  obtain ⟨fd, F⟩ := F
  have bnd := F.bindsN (ps := [a]) hb
  obtain ⟨oc, od, dV, kV, doc, pm, an, cdv, ct, osl, rfl, lk, hcd', _, _⟩ := F.ex
  refine ⟨?_⟩
  rintro pins s σ H Q I ⟨hT, h⟩
  refine wpAny_Call_Name_kw (ld_glob I hg hm (PySem.W.callWith_K (h₀ := X.base) I.ok.mod.kin F.kp ?_ (by rfl) (by rfl)) hdb)
  show wpAny _ _ (spliced ((false, eval (.Lambda params body scope lpos) X.env) :: backTo pos (starEach [] X.env))) _ _ s
  refine Calls.spliced_cons (lam_make2 I TB hcode hmT hu hT hdef (L.has I.ok) fun f c' pm' ctv H1 s' I1 eN T1 hf hfn hfr hco => Calls.spliced_nil ⟨I1.kIn, wpAny_call ?_⟩)
  have ran : codeAny (model X.prog X.w) X.A (.call (.ref g) ⟨[.ref f], []⟩) (CR CX0 X.stack X.prog X.w H1 s' Q E0) s' := by
    obtain ⟨j', rfl⟩ : ∃ j', j = j' + 1 := ⟨j - 1, by omega⟩
    refine run_ofS (N := Ng) (ps := [a]) (us := [.ref f]) (vs := [.ref f]) lk hcd' Sg hr I1.env0 (bnd s' [.ref f] I1.kIn rfl) (.cons rfl .nil) rfl fun hr' => ?_
    obtain ⟨t', ht', hq'⟩ := hG cdv f c' s' H1 Q (fun E H' Q' => t E σ H' Q') j' hr' (fun W pn xe E p1 p2 tk hW => pe_actN (k := k) (i := 0) I1 L hf hfn hfr (hbind _ _ _ _ _) tk hW (hr'.mono (by omega)) (fun A outer s H hr2 => hbody A outer s H E f c' hr2) hNg hva hd hcd) hco (h H1 eN T1) (by omega)
    exact ⟨t', ht'.nox, hq'⟩
  refine codeAny_mono ran fun r s2 hq => ?_
  match r, hq with
  | .error e, hq => exact (show False from hq).elim
  | .ok (.ret u), hq => exact I1.after hq
  | .ok .next, hq => exact False.elim hq
  | .ok .brk, hq => exact False.elim hq
  | .ok .cont, hq => exact False.elim hq
end
theorem takes_len {X : Cx} {W : WX} {n : Nat} (h : X.N.length = n) (t : L2N.Takes X W) : L2N.Takes X (wLen n W) := fun u s' ⟨a, B, sI, pins, σ, H, cls, d, e, I, nb, up, sky, na, os, ag, w⟩ =>
  t u s' ⟨a, B, sI, pins, σ, H, cls, d, e, I, nb, up, sky, na, os, ag, w (I.len.trans h)⟩
end FWN
namespace FW
open PySem PySem.Spec PyProof.Rows L2 L2H HotX PySem.W PySem.Calls
/-! ### isinstance of a held exception, with or without a dict -/
section
variable {prog : Program} {w : World} {A : Around} {E : Value → Shared → Prop} {s : Shared} {K : Frag} {x D : Addr} {ox : Obj} {od : Option Obj}
theorem exc_class {Q : Option Value → Shared → Prop} (T : ExcC K D) (X : K.In s.heap) (I : InstAt s.heap x ox D od) (h : Q (some (.ref D)) { s with toks := s.toks + 1 }) : wpAny (model prog w) A (getAttr? (.ref x) "__class__") Q E s := by
  have fo : findObj K D od "__class__" = some (.bind (.builtin "getset_descriptor.__get__") (.builtin "object.__class__")) := by
    obtain ⟨cd, hc, _⟩ := any_some T.hd
    unfold findObj
    rw [hc, Option.bind_some, T.ha, Option.bind_some]
    simp [T.hn, T.ht]
  obtain ⟨hp, g, d, t, os⟩ := s
  have lt := I.type (M := model prog w)
  have lf := looks_find (M := model prog w) X I fo
  have isB : Looks (model prog w) hp (isInstance (.ref x) (.type "BaseException")) true := lt.andThen (looks_subIn X T.hs)
  have no : (onTheHeap (Value.ref D) && Value.builtin "BaseException.__getattribute__" == Value.builtin "object.__getattribute__") = false := by
    rw [show (Value.builtin "BaseException.__getattribute__" == Value.builtin "object.__getattribute__") = false by decide +kernel]; rfl
  unfold getAttr? getAttrBy? getAttrBy
  refine wpAny_bind (wpAny_mkText (wpAny_bind (wpAny_attempt (wpAny_holding (wpAny_bind (lt.at (wpAny_bind ((looks_findIn (M := model prog w) X T.hg).at ?_))))))))
  show wpAny _ _ (if (onTheHeap (Value.ref D) && Value.builtin "BaseException.__getattribute__" == Value.builtin "object.__getattribute__") = true then _ else _) _ _ _
  rw [no, if_neg Bool.false_ne_true]
  unfold getAttrByItsOwn hookBefore
  refine wpAny_bind ?_
  rw [if_pos (show onTheHeap (Value.ref D) = true from rfl)]
  refine (looks_findIn (M := model prog w) X T.hk).at (wpAny_bind (wpAny_attempt (wpAny_holding ?_)))
  unfold callGetattribute
  rw [if_neg (show ¬ (false && onTheHeap (Value.builtin "BaseException.__getattribute__")) = true from Bool.false_ne_true)]
  unfold boundAndCalled
  rw [PySem.F.excAttr_ValueError.ga.bind (.ref x)]
  refine wpAny_bind (wpAny_pure ?_)
  show wpAny _ _ (call (.builtin "BaseException.__getattribute__") [.ref x, .str "__class__" t]) _ _ _
  refine wpAny_call (codeAny_call_builtin PySem.F.excAttr_ValueError.ga.plain PySem.F.entry_bexc_ga (@check_slot (model prog w) _ _ ⟨hp, g, d, t + 1, os⟩ "BaseException.__getattribute__" "BaseException" "__getattribute__" (.ref x) [.str "__class__" t] [] _ (by decide +kernel) (by decide +kernel) isB (PySem.F.args_bexc_ga (.ref x) (.str "__class__" t)) ?_))
  unfold Builtin.«object.__getattribute__»
  refine wpAny_bind (wpAny_of_eq (a := ((Value.ref x : Value), [Value.str "__class__" t])) (by first | rfl | (simp only [slotArgs]; rfl)) (wpAny_bind (wpAny_pure (wpAny_bind (lt.at (wpAny_bind (lf.at ?_)))))))
  show wpAny _ _ (holding [Value.builtin "object.__class__"] (call (.builtin "getset_descriptor.__get__") [.builtin "object.__class__", .ref x, .ref D]) >>= ret) _ _ _
  refine wpAny_bind (wpAny_holding (wpAny_call (class_get (s := ⟨hp, g, d, t + 1, os⟩) (ox := ox) (od := od) X I T.hm (wpAny_pure ?_))))
  show wpAny _ _ (handedOut (.ref D)) _ _ _
  rw [handedOut_of (v := .ref D) rfl]
  first
    | exact wpAny_pure (wpAny_pure h)
    | exact wpAny_pure h
    | exact wpAny_pure (wpAny_bind (wpAny_pure (wpAny_pure h)))
theorem kitx_exc (T : ExcC K D) : KitX K (.ref x) (.ref D) (fun h => InstAt h x ox D od) where
  ty := fun _ _ _ I => I.type
  it := fun M h X _ => by
    obtain ⟨cd, hc, _⟩ := any_some T.hd
    unfold clsIn at hc
    split at hc
    · rename_i c2 d2 cd2 sl2 ho
      intro A2 Q2 E2 s2 kk q
      unfold isType loadHead
      exact wpAny_bind (wpAny_loadPart (kk _ _ (X _ _ ho)) (wpAny_pure q))
    · cases hc
  ne := (handS_kitx_exc (x := x) (ox := ox) T.hg T.hk T.hs T.hd T.ha T.hn T.ht T.hm).ne
  ca := fun X I k => exc_class T X I k
end
/-- the context holds an exception that is handled: at a, of class cls, with the dict d -/
structure HX (Y : Cx) (a : Addr) (oe : Obj) (cls : Value) (d : Option Addr) : Prop where
  mem : (a, oe) ∈ Y.pn
  hh : Y.A.handled = some (.ref a)
  z : L2N.Zn cls d oe
  fl : ∃ vs, oe.data = .fields vs
theorem HX.hot1 {Y : Cx} {a : Addr} {oe : Obj} {cls : Value} {d : Option Addr} (h : HX Y a oe cls d) : Hot1 Y.A (a, oe) := by
  obtain ⟨vs, e⟩ := h.fl
  exact ⟨h.hh, vs, e, h.z.2.2 vs e⟩
theorem HX.hot {Y : Cx} {a : Addr} {oe : Obj} {cls : Value} {d : Option Addr} (h : HX Y a oe cls d) : HotC Y := ⟨_, h.hot1, h.mem⟩
/-- its dict, if it has one, is tracked -/
def DX (d : Option Addr) (H : Hp) : Prop := d = none ∨ ∃ dd fs, d = some dd ∧ H dd = some (.xd fs)
theorem HX.inst {Y : Cx} {a D : Addr} {oe : Obj} {d : Option Addr} {pins : List (Addr × Obj)} {σ : L2.St} {H : Hp} {s : Shared} (h : HX Y a oe (.ref D) d) (dx : DX d H) (I : Inv Y pins σ H s) : ∃ od, InstAt s.heap a oe D od := by
  have g := (I.pin (a, oe) (List.mem_append_left _ h.mem)).1
  obtain ⟨vs, e⟩ := h.fl
  have no : notCls oe = true := by unfold notCls; rw [e] <;> rfl
  rcases dx with rfl | ⟨dd, fs, rfl, hd⟩
  · exact ⟨none, g, h.z.1, no, by rw [h.z.2.1]; trivial⟩
  · obtain ⟨mA, hns, hr⟩ := (show ObjOk Y.prog Y.w H s.heap dd (.xd fs) from I.hok dd _ hd)
    obtain ⟨od, ho, _⟩ := lookIn_ns hns
    exact ⟨some od, g, h.z.1, no, by rw [h.z.2.1]; exact ho⟩
def rIsX (K : Frag) (a : Addr) (cls : Value) (d : Option Addr) : List V → Hp → VK → Prop := fun xs H Q => ∃ (D : Addr) (c : V) (u : Value) (b : Bool), cls = .ref D ∧ ExcC K D ∧ DX d H ∧ xs = [.ref a, c] ∧ ClsV c u ∧ kitOne K cls u = some b ∧ Q (.bl b) H
def rIsXT (K : Frag) (a : Addr) (cls : Value) (d : Option Addr) : List V → Hp → VK → Prop := fun xs H Q => ∃ (D : Addr) (tp : Addr) (cs : List V) (us : List Value) (b : Bool), cls = .ref D ∧ ExcC K D ∧ DX d H ∧ xs = [.ref a, .ref tp] ∧ H tp = some (.tup cs) ∧ Paired ClsV cs us ∧ kitAny K cls us = some b ∧ Q (.bl b) H
section
variable {Y : Cx} {a : Addr} {oe : Obj} {cls : Value} {d : Option Addr}
theorem call_isX (h : HX Y a oe cls d) : CallR Y (.builtin "isinstance") (rIsX Y.K a cls d) := by
  rintro pins s σ H xs us Q I r ⟨D, c, u, b, rfl, T, dx, rfl, k, e, q⟩
  obtain ⟨u1, u2, rfl, r1, r2⟩ := vals2 r
  obtain rfl : u1 = Value.ref a := r1
  obtain rfl := k.eq r2
  obtain ⟨od, J⟩ := h.inst dx I
  exact kia_one (kitx_exc T) I.kIn J e (fun z => nomatch z) fun tk => ⟨.bl b, H, I.tok tk, rfl, q⟩
theorem call_isXT (h : HX Y a oe cls d) : CallR Y (.builtin "isinstance") (rIsXT Y.K a cls d) := by
  rintro pins s σ H xs us Q I r ⟨D, tp, cs, ws, b, rfl, T, dx, rfl, et, k, e, q⟩
  obtain ⟨u1, u2, rfl, r1, r2⟩ := vals2 r
  obtain rfl : u1 = Value.ref a := r1
  obtain rfl : u2 = Value.ref tp := r2
  obtain ⟨od, J⟩ := h.inst dx I
  obtain ⟨_, its, rv, o, ho, hc, n, hdat⟩ := (show ObjOk Y.prog Y.w H s.heap tp (.tup cs) from I.hok tp _ et)
  have ei := ClsV.all k rv
  subst ei
  obtain ⟨oc, odd, odt, osl⟩ := o
  have hc : oc = .type "tuple" := hc
  have hdat : odt = .seq its.toArray n := hdat
  subst hc hdat
  exact kia_tup (kitx_exc T) I.kIn J ho e (fun z => nomatch z) fun tk => ⟨.bl b, H, I.tok tk, rfl, q⟩
/-- what reading a field of an own error asks -/
structure ErrG (K : Frag) (C : Addr) (f : Str) : Prop where
  ga : findIn K (.ref C) "__getattribute__" = some (some (.builtin "BaseException.__getattribute__"))
  gg : findIn K (.ref C) "__getattr__" = some none
  ex : subIn K (.ref C) (.type "BaseException") = some true
  hd : hasDictIn K C = true
  no : findIn K (.ref C) f = some none
theorem ErrG.of {prog : Program} {K : Frag} {C fI : Addr} {f : Str} (T : PySem.ErrX.ErrC prog K C fI f) : ErrG K C f := ⟨T.ga, T.gg, T.exC, T.hdC, T.noN⟩
def tByX (K : Frag) (f : Str) (a : Addr) (cls : Value) (d : Option Addr) (te : TE) : TE := fun σ H Q => te σ H fun x H1 => x = .ref a ∧ ∃ (C dd : Addr) (v : V), cls = .ref C ∧ ErrG K C f ∧ d = some dd ∧ H1 dd = some (.xd [(f, v)]) ∧ Q v H1
theorem pe_byX {e : Expr} {te : TE} {f : Str} {pos : Pos} (h : HX Y a oe cls d) (he : PE Y e te) (hb : attributeBase e f Y.env (eval e Y.env) = eval e Y.env := by rfl) : PE Y (.Attribute e f pos) (tByX Y.K f a cls d te) := by
  refine ⟨fun pins s σ H Q I hq => attr_of hb (thn (he.run pins s σ H _ I hq) ?_)⟩
  rintro u s1 ⟨x, H1, I1, rx, rfl, C, dd, v, rfl, T, rfl, ed, q⟩
  obtain rfl : u = Value.ref a := rx
  have g := (I1.pin (a, oe) (List.mem_append_left _ h.mem)).1
  obtain ⟨vs, hd⟩ := h.fl
  obtain ⟨mA, hns, hr⟩ := (show ObjOk Y.prog Y.w H1 s1.heap dd (.xd [(f, v)]) from I1.hok dd _ ed)
  obtain ⟨od, ho, hl⟩ := lookIn_ns hns
  obtain ⟨u, hu, ru⟩ := RelO.some_of (v := v) (o := mA f) (by rw [← show List.lookup f [(f, v)] = some v by simp [List.lookup]]; exact hr f)
  have J : InstAt s1.heap a oe C (some od) := ⟨g, h.z.1, by unfold notCls; rw [hd] <;> rfl, by rw [h.z.2.1]; exact ho⟩
  exact HandSPX.exc_get I1.kIn J T.ga T.gg T.ex (findObj_own T.hd T.no rfl (by rw [hl, hu])) (handed_of ru) ⟨v, H1, I1.tok _, ru, q⟩
end
/-! ### a def called with the held exception -/
section
variable {P : Program} {w : World} {K : Frag} {mg : Str → Option Value} {base : Heap}
theorem run_ofX {k : Nat} {f : Addr} {name qual : Str} {params : Arguments} {body : List Stmt} {scope : Scope} {dV kV doc pm cdv ct oc : Value} {an od : Option Addr} {osl : Array (Option Value)} {N ps : List Str}
    (lk : K.lookup f = some ⟨oc, od, .func (fnOf name qual params body scope dV kV doc pm an cdv ct), osl⟩) (hcd : codeIn K cdv qual = true) (S : FnScope N ps scope) {A : Around} {outer : List Env} {s : Shared} {H : Hp} {args : Args} {us : List Value} {vs : List V} {Q : VK} {p : Addr × Obj}
    (hr : RoomH (k + 1) A) (hp : PinOk outer H s p) (e0 : Env0 P w K mg base A outer s H) (hb : BindsTo s (fnOf name qual params body scope dV kV doc pm an cdv ct) args (ps.zip us)) (r : Vals vs us) (hl : vs.length = ps.length)
    (hbody : RoomH k (A.deeper (envOfC qual scope s.heap.objs.size f cdv)) → ∃ t, PSs (cxH CX0 P w K mg base N qual scope f cdv A outer s H E0 p) body t ∧ t { nx := fun _ H' => Q .non H', rt := Q } (L2.start N vs) H) :
    codeAny (model P w) A (.call (.ref f) args) (CR CX0 outer P w H s Q E0) s := by
  have kin : K.In s.heap := e0.mod.kin.keeps fun b o e => (e0.bs b o e).1
  have lim : s.heap.NoLimit := e0.mod.nolimit.keeps fun b o e => (e0.bs b o e).1
  refine codeAny_call_function hr.depth (kin _ _ lk) rfl S.co S.gen rfl (codeRec_of kin hcd) (hb _ _ _ _ (wpAny_newFunctionEnv_cells S.kind (fun ⟨n, v⟩ hy => ?_) fun env he s1 x => ?_))
  · rcases S.par n (List.of_mem_zip hy).1 with q | q
    · exact .inl q
    · exact .inr ⟨q, cellsFrom_some _ _ _ (.inl q)⟩
  · subst he
    refine ⟨lim.keeps x.toInCall.keep, codeAny_func ?_⟩
    obtain ⟨t, ht, hq⟩ := hbody (hr.deeper _)
    refine wpAny_mono (ht.run [] s1 (L2.start N vs) H _ (inv_startH S hp e0 hl r x) hq) (fun fl s' hs => ?_) fun e s' hs => hs
    match fl, hs with
    | .ret u, ⟨v, σ', H', J, rv, q⟩ => exact ⟨v, H', J.os, J.bare, J.base, J.hok, rv, q⟩
    | .next, ⟨σ', H', J, q⟩ => exact ⟨V.non, H', J.os, J.bare, J.base, J.hok, rfl, q⟩
    | .brk, ⟨_, _, _, q⟩ => exact False.elim q
    | .cont, ⟨_, _, _, q⟩ => exact False.elim q
theorem hx_cxH {N : List Str} {qual : Str} {scope : Scope} {f : Addr} {cd : Value} {A : Around} {outer : List Env} {s : Shared} {H : Hp} {a : Addr} {oe : Obj} {cls : Value} {d : Option Addr} (hh : A.handled = some (.ref a)) (z : L2N.Zn cls d oe) (fl : ∃ vs, oe.data = .fields vs) :
    HX (cxH CX0 P w K mg base N qual scope f cd A outer s H E0 (a, oe)) a oe cls d := ⟨List.mem_singleton.mpr rfl, hh, z, fl⟩
end
section
variable {Y : Cx} {a : Addr} {oe : Obj} {cls : Value} {d : Option Addr}
/-- x(e), e the held exception: the def's reading itself -/
def tCallX (a : Addr) (N : List Str) (t : TS) (te : TE) : TE := fun σ H Q => te σ H fun v H1 => v = .ref a ∧ t { nx := fun _ H' => Q .non H', rt := Q } (L2.start N [.ref a]) H1
theorem pe_callX {x pn : Str} {params : Arguments} {body : List Stmt} {scope : Scope} {f : Addr} {N : List Str} {k : Nat} {t : TS} {te : TE} {e : Expr} {q pos : Pos} (h : HX Y a oe cls d) (F : ∃ fd, FunD Y.K x x params body scope [] [] f fd) (hm : Y.mg x = some (.ref f)) (hg : Gl Y x) (S : FnScope N [pn] scope)
    (hb : ∀ (kV doc pm : Value) (an : Option Addr) (cdv ct : Value) (us : List Value), us.length = [pn].length → bindArgs (fnOf x x params body scope .none kV doc pm an cdv ct) ⟨us, []⟩ = pure ([pn].zip us))
    (hr : RoomH (k + 1) Y.A) (he : PE Y e te)
    (hbody : ∀ (cdv : Value) (s : Shared) (H : Hp), RoomH k (Y.A.deeper (envOfC x scope s.heap.objs.size f cdv)) → PSs (cxH CX0 Y.prog Y.w Y.K Y.mg Y.base N x scope f cdv Y.A Y.stack s H E0 (a, oe)) body t)
    (hdb : (x == ("__debug__" : Str)) = false := by decide) (hs : starEach [e] Y.env = (false, eval e Y.env) :: starEach [] Y.env := by rfl) (hpl : (backTo pos (starEach [] Y.env)).any (·.1) = false := by rfl) :
    PE Y (.Call (.Name x q) [e] [] pos) (tCallX a N t te) := by
  obtain ⟨fd, F⟩ := F
  have bnd := F.bindsN (ps := [pn]) hb
  obtain ⟨oc, od, dV, kV, doc, pm, an, cdv, ct, osl, rfl, lk, hcd', _, _⟩ := F.ex
  refine ⟨fun pins s σ H Q I hq => wpAny_Call_Name_kw (ld_glob I hg hm (callWith_K (h₀ := Y.base) I.ok.mod.kin F.kp (thn ((pa_cons he pa_nil hs).run pos pins s σ H (fun vs H1 => vs = [.ref a] ∧ t { nx := fun _ H' => Q .non H', rt := Q } (L2.start N [.ref a]) H1) I ?_) ?_) hs hpl) hdb)⟩
  · show te σ H _
    refine (show te σ H _ = te σ H _ from congrArg (te σ H) ?_) ▸ hq
    funext v H1
    simp [tNil]
  · rintro us s1 ⟨vs, H1, I1, r1, rfl, q1⟩
    have P1 := I1.pin (a, oe) (List.mem_append_left _ h.mem)
    refine ⟨I1.kIn, wpAny_call (codeAny_mono (run_ofX (k := k) (N := N) (ps := [pn]) (p := (a, oe)) (vs := [.ref a]) (us := us) lk hcd' S hr ⟨P1.1, P1.2.1, fun m => (List.mem_cons.mp (I1.stkSub a m)).elim P1.2.2.1 P1.2.2.2.1, P1.2.2.2.2⟩ I1.env0 (by have b := bnd s1 us I1.kIn (by rw [List.append_nil, ← r1.length]; rfl); rw [List.append_nil] at b; exact b) r1 rfl fun hr' => ⟨t, hbody cdv s1 H1 hr', q1⟩) fun r s2 hq2 => ?_)⟩
    match r, hq2 with
    | .error e, hq2 => exact (show False from hq2).elim
    | .ok (.ret u), hq2 => exact I1.after hq2
    | .ok .next, hq2 => exact False.elim hq2
    | .ok .brk, hq2 => exact False.elim hq2
    | .ok .cont, hq2 => exact False.elim hq2
end
end FW
namespace FW
open PySem PySem.Spec PyProof.Rows L2 L2H HotX PySem.W PySem.Calls
theorem roomS {j k : Nat} {A : Around} {v : Option Value} (r : Room j A) (h : k ≤ j) : RoomH k (A.mark v) := ⟨(r.mono h).dp, (r.mono h).un⟩
theorem hx_suite {X : Cx} {a : Addr} {oe : Obj} {cls : Value} {d : Option Addr} {pn : List (Addr × Obj)} (z : L2N.Zn cls d oe) (fl : ∃ vs, oe.data = .fields vs) : HX (X.suite a ((a, oe) :: pn)) a oe cls d := ⟨List.mem_cons_self, rfl, z, fl⟩
abbrev rJoin (K : Frag) : V → List V → Hp → VK → Prop := fun x xs H Q => ∃ a p, ∃ ys : List Str, x = .str a ∧ xs = [.ref p] ∧ (SqL K H p (ys.map V.str) ∨ SqT K H p (ys.map V.str)) ∧ (ys.map (·.length)).sum + ys.length * a.length ≤ 16777216 ∧ Q (.str (Txt.join a ys)) H
/-- what the head looks at of an error's class, for isinstance -/
def excB (K : Frag) (x : Str) : Bool := ([He.eqO (findIn K (.ref (He.ga K x)) "__getattribute__") (some (some (.builtin "BaseException.__getattribute__"))), He.eqO (findIn K (.ref (He.ga K x)) "__getattr__") (some none), decide (subIn K (.ref (He.ga K x)) (.type "BaseException") = some true), hasDictIn K (He.ga K x),
  He.eqO (findIn K (.ref (He.ga K x)) "__class__") (some (some (.builtin "object.__class__"))), He.eqO (specialIn K (.builtin "object.__class__") "__get__") (some (some (.builtin "getset_descriptor.__get__"))), decide (takesIn K (.builtin "object.__class__") = some true), decide (mroIn K (He.ga K x) (.type "object") = some true)] : List Bool).all id
theorem excB_ok {K : Frag} {x : Str} (h : excB K x = true) : ExcC K (He.ga K x) := by
  unfold excB at h
  simp only [List.all_cons, List.all_nil, id, Bool.and_true, Bool.and_eq_true] at h
  obtain ⟨h1, h2, h3, h4, h5, h6, h7, h8⟩ := h
  exact ⟨He.eqO_ok h1, He.eqO_ok h2, of_decide_eq_true h3, h4, He.eqO_ok h5, He.eqO_ok h6, of_decide_eq_true h7, of_decide_eq_true h8⟩
theorem DX.ext {d : Option Addr} {H H' : Hp} (h : DX d H) (e : Ext H H') : DX d H' := h.imp id fun ⟨dd, fs, a, b⟩ => ⟨dd, fs, a, e _ _ b⟩
theorem pss_hx {Y : Cx} {a : Addr} {oe : Obj} {cls : Value} {d : Option Addr} {body : List Stmt} {t : TS} (h : HX Y a oe cls d) (k : HX Y a oe cls d → PSs Y body t) : PSs Y body t := k h
theorem pe_gref {X : Cx} {x : Str} {a : Addr} {pos : Pos} (hg : Gl X x) (hm : X.mg x = some (.ref a)) (hd : (x == ("__debug__" : Str)) = false := by decide) : PE X (.Name x pos) (tC (.ref a)) := pe_glob hg hm rfl hd
end FW
namespace FW
open PySem PySem.Spec PyProof.Rows L2 PySem.W
/-! ### the head's run with less memory: what is reached from the globals, each address once, by a bit set -/
def hasZ (seen a : Nat) : Bool := Nat.beq (Nat.land (Nat.shiftRight seen a) 1) 1
def addZ : List Addr → List Addr → Nat → (List Addr → Nat → List Addr) → List Addr
  | [], acc, seen, k => k acc seen
  | a :: r, acc, seen, k => match hasZ seen a with
    | true => addZ r acc seen k
    | false => addZ r (a :: acc) (Nat.lor seen (Nat.shiftLeft 1 a)) k
def kidsZ (g : Addr → Option Obj) : List Addr → List Addr → Nat → (List Addr → Nat → List Addr) → List Addr
  | [], acc, seen, k => k acc seen
  | a :: r, acc, seen, k => match g a with
    | some o => addZ (He.refsD o) acc seen fun acc' seen' => kidsZ g r acc' seen' k
    | none => kidsZ g r acc seen k
def levZ (g : Addr → Option Obj) : Nat → List Addr → List Addr → Nat → List Addr
  | 0, _, tot, _ => tot
  | n + 1, fr, tot, seen => kidsZ g fr [] seen fun new seen' => levZ g n new (new ++ tot) seen'
def asZ (n : Nat) (g : Addr → Option Obj) : List Addr := levZ g n [mainGlobals] [mainGlobals] (Nat.shiftLeft 1 mainGlobals)
def obsV (n : Nat) (fa : List He.Fa) (fn : List He.DefD) (ex : Frag → Bool) (er : List ErrD) (tf : List He.Defn) (g : Addr → Option Obj) : AlZ := obsZK fa fn ex er tf g (He.frT g (asZ n g ++ [cStatics, sysModules]))
def hookV (n : Nat) (fa : List He.Fa) (fn : List He.DefD) (ex : Frag → Bool) (er : List ErrD) (tf : List He.Defn) : PySem.W.Hook where
  α := AlZ
  obs := fun s => obsV n fa fn ex er tf s.heap.get?
  val := fun _ => valZ fn er
  says := fun _ h => ∃ K : Frag, K.In h ∧ SaysZ fa fn ex er tf h K
  of := fun _ _ e => ⟨_, He.frT_in, saysZ_of e⟩
  keeps := fun _ _ _ ⟨K, hK, c⟩ k => ⟨K, PySem.W.Frag.In.keeps hK k, ⟨c.d, c.ex, c.er, c.hd, c.out, fun p hp => k _ _ (c.empty p hp)⟩⟩
theorem obsV_eq {n : Nat} {fa : List He.Fa} {fn : List He.DefD} {ex : Frag → Bool} {er : List ErrD} {tf : List He.Defn} {g : Addr → Option Obj} {s : Shared} (h : ∀ a, g a = s.heap.get? a) : obsV n fa fn ex er tf g = (hookV n fa fn ex er tf).obs s := by
  have e : g = s.heap.get? := funext h
  rw [e] <;> rfl
end FW
namespace FWL
open PySem PySem.Spec PyProof.Rows L2 FW
def top (i : Nat) : Stmt := PySem.Challenge.pw_floorward_k52_whole_led_put_and_taken_ba.main.body.getD i (.Pass ⟨0, 0, 0, 0⟩)
def clsBody : Stmt → List Stmt | .ClassDef (body := b) .. => b | _ => []
def meth (i j : Nat) : Stmt := (clsBody (top i)).getD j (.Pass ⟨0, 0, 0, 0⟩)
abbrev st_is_whole : Stmt := FWL.top 14
abbrev N_is_whole : List Str := ["thing"]
theorem sc_is_whole : FnScope N_is_whole ["thing"] (defScope st_is_whole) := ⟨rfl, rfl, rfl, by decide +kernel, rfl, by decide +kernel, by decide +kernel⟩
abbrev st_is_whole_from : Stmt := FWL.top 15
abbrev N_is_whole_from : List Str := ["thing", "least"]
theorem sc_is_whole_from : FnScope N_is_whole_from ["thing", "least"] (defScope st_is_whole_from) := ⟨rfl, rfl, rfl, by decide +kernel, rfl, by decide +kernel, by decide +kernel⟩
abbrev st_check_number : Stmt := FWL.top 16
abbrev N_check_number : List Str := ["n"]
theorem sc_check_number : FnScope N_check_number ["n"] (defScope st_check_number) := ⟨rfl, rfl, rfl, by decide +kernel, rfl, by decide +kernel, by decide +kernel⟩
abbrev st_power : Stmt := FWL.top 17
abbrev N_power : List Str := ["x", "k", "found", "turn"]
theorem sc_power : FnScope N_power ["x", "k"] (defScope st_power) := ⟨rfl, rfl, rfl, by decide +kernel, rfl, by decide +kernel, by decide +kernel⟩
abbrev st_is_word_of : Stmt := FWL.top 23
abbrev N_is_word_of : List Str := ["thing", "words"]
theorem sc_is_word_of : FnScope N_is_word_of ["thing", "words"] (defScope st_is_word_of) := ⟨rfl, rfl, rfl, by decide +kernel, rfl, by decide +kernel, by decide +kernel⟩
abbrev st_wrong_part : Stmt := FWL.top 24
abbrev N_wrong_part : List Str := ["k", "a", "c", "d", "stop", "told", "mend"]
theorem sc_wrong_part : FnScope N_wrong_part ["k", "a", "c", "d", "stop", "told", "mend"] (defScope st_wrong_part) := ⟨rfl, rfl, rfl, by decide +kernel, rfl, by decide +kernel, by decide +kernel⟩
abbrev st_Average_init : Stmt := FWL.meth 25 0
abbrev N_Average_init : List Str := ["self", "k", "a", "c", "d", "stop", "told", "mend", "wrong"]
theorem sc_Average_init : FnScope N_Average_init ["self", "k", "a", "c", "d", "stop", "told", "mend"] (defScope st_Average_init) := ⟨rfl, rfl, rfl, by decide +kernel, rfl, by decide +kernel, by decide +kernel⟩
abbrev st_Average_led : Stmt := FWL.meth 25 4
abbrev N_Average_led : List Str := ["self", "n", "x", "quotient"]
theorem sc_Average_led : FnScope N_Average_led ["self", "n", "x"] (defScope st_Average_led) := ⟨rfl, rfl, rfl, by decide +kernel, rfl, by decide +kernel, by decide +kernel⟩
abbrev st_Average_looks : Stmt := FWL.meth 25 6
abbrev N_Average_looks : List Str := ["self", "n", "x"]
theorem sc_Average_looks : FnScope N_Average_looks ["self", "n", "x"] (defScope st_Average_looks) := ⟨rfl, rfl, rfl, by decide +kernel, rfl, by decide +kernel, by decide +kernel⟩
abbrev st_Average_ends : Stmt := FWL.meth 25 7
abbrev N_Average_ends : List Str := ["self", "x", "y", "before"]
theorem sc_Average_ends : FnScope N_Average_ends ["self", "x", "y", "before"] (defScope st_Average_ends) := ⟨rfl, rfl, rfl, by decide +kernel, rfl, by decide +kernel, by decide +kernel⟩
abbrev st_Average_nearness : Stmt := FWL.meth 25 8
abbrev N_Average_nearness : List Str := ["self"]
theorem sc_Average_nearness : FnScope N_Average_nearness ["self"] (defScope st_Average_nearness) := ⟨rfl, rfl, rfl, by decide +kernel, rfl, by decide +kernel, by decide +kernel⟩
abbrev st_Average_chosen : Stmt := FWL.meth 25 9
abbrev N_Average_chosen : List Str := ["self", "x", "y"]
theorem sc_Average_chosen : FnScope N_Average_chosen ["self", "x", "y"] (defScope st_Average_chosen) := ⟨rfl, rfl, rfl, by decide +kernel, rfl, by decide +kernel, by decide +kernel⟩
abbrev st_Average_mended : Stmt := FWL.meth 25 10
abbrev N_Average_mended : List Str := ["self", "n", "t"]
theorem sc_Average_mended : FnScope N_Average_mended ["self", "n", "t"] (defScope st_Average_mended) := ⟨rfl, rfl, rfl, by decide +kernel, rfl, by decide +kernel, by decide +kernel⟩
abbrev st_check_start : Stmt := FWL.top 27
abbrev N_check_start : List Str := ["x"]
theorem sc_check_start : FnScope N_check_start ["x"] (defScope st_check_start) := ⟨rfl, rfl, rfl, by decide +kernel, rfl, by decide +kernel, by decide +kernel⟩
abbrev st_Led_init : Stmt := FWL.meth 30 0
abbrev N_Led_init : List Str := ["self", "loop", "n", "start"]
theorem sc_Led_init : FnScope N_Led_init ["self", "loop", "n", "start"] (defScope st_Led_init) := ⟨rfl, rfl, rfl, by decide +kernel, rfl, by decide +kernel, by decide +kernel⟩
abbrev st_Led_noted : Stmt := FWL.meth 30 1
abbrev N_Led_noted : List Str := ["self"]
theorem sc_Led_noted : FnScope N_Led_noted ["self"] (defScope st_Led_noted) := ⟨rfl, rfl, rfl, by decide +kernel, rfl, by decide +kernel, by decide +kernel⟩
abbrev st_Led_put_back : Stmt := FWL.meth 30 2
abbrev N_Led_put_back : List Str := ["self", "guess", "before", "told"]
theorem sc_Led_put_back : FnScope N_Led_put_back ["self", "guess", "before", "told"] (defScope st_Led_put_back) := ⟨rfl, rfl, rfl, by decide +kernel, rfl, by decide +kernel, by decide +kernel⟩
abbrev st_Led_tell : Stmt := FWL.meth 30 3
abbrev N_Led_tell : List Str := ["self", "number"]
theorem sc_Led_tell : FnScope N_Led_tell ["self", "number"] (defScope st_Led_tell) := ⟨rfl, rfl, rfl, by decide +kernel, rfl, by decide +kernel, by decide +kernel⟩
abbrev st_Led_round : Stmt := FWL.meth 30 4
abbrev N_Led_round : List Str := ["self", "x", "y"]
theorem sc_Led_round : FnScope N_Led_round ["self"] (defScope st_Led_round) := ⟨rfl, rfl, rfl, by decide +kernel, rfl, by decide +kernel, by decide +kernel⟩
abbrev st_Led_put : Stmt := FWL.meth 30 5
abbrev N_Led_put : List Str := ["self", "guess"]
theorem sc_Led_put : FnScope N_Led_put ["self", "guess"] (defScope st_Led_put) := ⟨rfl, rfl, rfl, by decide +kernel, rfl, by decide +kernel, by decide +kernel⟩
abbrev st_Led_undo : Stmt := FWL.meth 30 6
abbrev N_Led_undo : List Str := ["self", "guess", "before", "told"]
theorem sc_Led_undo : FnScope N_Led_undo ["self"] (defScope st_Led_undo) := ⟨rfl, rfl, rfl, by decide +kernel, rfl, by decide +kernel, by decide +kernel⟩
abbrev st_Led_trial : Stmt := FWL.meth 30 7
abbrev N_Led_trial : List Str := ["self", "work", "guess", "before", "told", "past"]
theorem sc_Led_trial : FnScope N_Led_trial ["self", "work"] (defScope st_Led_trial) := ⟨rfl, rfl, rfl, by decide +kernel, rfl, by decide +kernel, by decide +kernel⟩
abbrev st_Led_twin : Stmt := FWL.meth 30 8
abbrev N_Led_twin : List Str := ["self", "other"]
theorem sc_Led_twin : FnScope N_Led_twin ["self"] (defScope st_Led_twin) := ⟨rfl, rfl, rfl, by decide +kernel, rfl, by decide +kernel, by decide +kernel⟩
abbrev st_l_cell_at : Stmt := FWL.top 32
abbrev N_l_cell_at : List Str := ["_law_script", "_law_k"]
theorem sc_l_cell_at : FnScope N_l_cell_at ["_law_script", "_law_k"] (defScope st_l_cell_at) := ⟨rfl, rfl, rfl, by decide +kernel, rfl, by decide +kernel, by decide +kernel⟩
abbrev st_l_mixed : Stmt := FWL.top 33
abbrev N_l_mixed : List Str := ["_law_cell", "_law_k", "_law_spread"]
theorem sc_l_mixed : FnScope N_l_mixed ["_law_cell", "_law_k"] (defScope st_l_mixed) := ⟨rfl, rfl, rfl, by decide +kernel, rfl, by decide +kernel, by decide +kernel⟩
abbrev st_l_row : Stmt := FWL.top 34
abbrev N_l_row : List Str := ["_law_cell", "_law_many", "_law_left", "_law_row_here", "_law_k"]
theorem sc_l_row : FnScope N_l_row ["_law_cell", "_law_many"] (defScope st_l_row) := ⟨rfl, rfl, rfl, by decide +kernel, rfl, by decide +kernel, by decide +kernel⟩
abbrev st_l_apart : Stmt := FWL.top 35
abbrev N_l_apart : List Str := ["_law_cell", "_law_k"]
theorem sc_l_apart : FnScope N_l_apart ["_law_cell", "_law_k"] (defScope st_l_apart) := ⟨rfl, rfl, rfl, by decide +kernel, rfl, by decide +kernel, by decide +kernel⟩
abbrev st_l_power : Stmt := FWL.top 36
abbrev N_l_power : List Str := ["_law_x", "_law_k", "_law_found", "_law_turn"]
theorem sc_l_power : FnScope N_l_power ["_law_x", "_law_k"] (defScope st_l_power) := ⟨rfl, rfl, rfl, by decide +kernel, rfl, by decide +kernel, by decide +kernel⟩
abbrev st_l_great : Stmt := FWL.top 37
abbrev N_l_great : List Str := ["_law_row_here", "_law_at", "_law_many", "_law_found", "_law_k"]
theorem sc_l_great : FnScope N_l_great ["_law_row_here", "_law_at", "_law_many"] (defScope st_l_great) := ⟨rfl, rfl, rfl, by decide +kernel, rfl, by decide +kernel, by decide +kernel⟩
abbrev st_l_weights2 : Stmt := FWL.top 38
abbrev N_l_weights2 : List Str := ["_law_k", "_law_found", "_law_a", "_law_c"]
theorem sc_l_weights2 : FnScope N_l_weights2 ["_law_k"] (defScope st_l_weights2) := ⟨rfl, rfl, rfl, by decide +kernel, rfl, by decide +kernel, by decide +kernel⟩
abbrev st_l_loop_parts : Stmt := FWL.top 39
abbrev N_l_loop_parts : List Str := ["_law_row_here", "_law_at", "_law_k", "_law_some", "_law_a", "_law_c", "_law_d", "_law_stop", "_law_told"]
theorem sc_l_loop_parts : FnScope N_l_loop_parts ["_law_row_here", "_law_at"] (defScope st_l_loop_parts) := ⟨rfl, rfl, rfl, by decide +kernel, rfl, by decide +kernel, by decide +kernel⟩
abbrev st_l_loop2 : Stmt := FWL.top 40
abbrev N_l_loop2 : List Str := ["_law_parts"]
theorem sc_l_loop2 : FnScope N_l_loop2 ["_law_parts"] (defScope st_l_loop2) := ⟨rfl, rfl, rfl, by decide +kernel, rfl, by decide +kernel, by decide +kernel⟩
abbrev st_l_led_to : Stmt := FWL.top 41
abbrev N_l_led_to : List Str := ["_law_parts", "_law_n", "_law_x", "_law_k", "_law_a", "_law_c", "_law_d"]
theorem sc_l_led_to : FnScope N_l_led_to ["_law_parts", "_law_n", "_law_x"] (defScope st_l_led_to) := ⟨rfl, rfl, rfl, by decide +kernel, rfl, by decide +kernel, by decide +kernel⟩
abbrev st_l_looks2 : Stmt := FWL.top 42
abbrev N_l_looks2 : List Str := ["_law_parts", "_law_n", "_law_x", "_law_k", "_law_stop"]
theorem sc_l_looks2 : FnScope N_l_looks2 ["_law_parts", "_law_n", "_law_x"] (defScope st_l_looks2) := ⟨rfl, rfl, rfl, by decide +kernel, rfl, by decide +kernel, by decide +kernel⟩
abbrev st_l_ends2 : Stmt := FWL.top 43
abbrev N_l_ends2 : List Str := ["_law_parts", "_law_x", "_law_y", "_law_before", "_law_stop"]
theorem sc_l_ends2 : FnScope N_l_ends2 ["_law_parts", "_law_x", "_law_y", "_law_before"] (defScope st_l_ends2) := ⟨rfl, rfl, rfl, by decide +kernel, rfl, by decide +kernel, by decide +kernel⟩
abbrev st_l_mended2 : Stmt := FWL.top 44
abbrev N_l_mended2 : List Str := ["_law_parts", "_law_n", "_law_t", "_law_k", "_law_mend"]
theorem sc_l_mended2 : FnScope N_l_mended2 ["_law_parts", "_law_n", "_law_t"] (defScope st_l_mended2) := ⟨rfl, rfl, rfl, by decide +kernel, rfl, by decide +kernel, by decide +kernel⟩
abbrev st_l_chosen2 : Stmt := FWL.top 45
abbrev N_l_chosen2 : List Str := ["_law_parts", "_law_x", "_law_y"]
theorem sc_l_chosen2 : FnScope N_l_chosen2 ["_law_parts", "_law_x", "_law_y"] (defScope st_l_chosen2) := ⟨rfl, rfl, rfl, by decide +kernel, rfl, by decide +kernel, by decide +kernel⟩
abbrev st_l_refusedH : Stmt := FWL.top 46
abbrev N_l_refusedH : List Str := ["_law_ask", "_law_e", "_law_word"]
theorem sc_l_refusedH : FnScope N_l_refusedH ["_law_ask"] (defScope st_l_refusedH) := ⟨rfl, rfl, rfl, by decide +kernel, rfl, by decide +kernel, by decide +kernel⟩
abbrev st_l_class : Stmt := FWL.top 47
abbrev N_l_class : List Str := ["_law_e", "_law_some", "_law_names", "_law_name", "_law_is_it"]
theorem sc_l_class : FnScope N_l_class ["_law_e"] (defScope st_l_class) := ⟨rfl, rfl, rfl, by decide +kernel, rfl, by decide +kernel, by decide +kernel⟩
abbrev st_l_round : Stmt := FWL.top 48
abbrev N_l_round : List Str := ["_law_own", "_law_parts", "_law_n", "_law_guess", "_law_before", "_law_told", "_law_number", "_law_y"]
theorem sc_l_round : FnScope N_l_round ["_law_own", "_law_parts", "_law_n"] (defScope st_l_round) := ⟨rfl, rfl, rfl, by decide +kernel, rfl, by decide +kernel, by decide +kernel⟩
abbrev st_l_tried : Stmt := FWL.top 49
abbrev N_l_tried : List Str := ["_law_led"]
theorem sc_l_tried : FnScope N_l_tried ["_law_led"] (defScope st_l_tried) := ⟨rfl, rfl, rfl, by decide +kernel, rfl, by decide +kernel, by decide +kernel⟩
abbrev st_l_put : Stmt := FWL.top 50
abbrev N_l_put : List Str := ["_law_own", "_law_led", "_law_guess"]
theorem sc_l_put : FnScope N_l_put ["_law_own", "_law_led", "_law_guess"] (defScope st_l_put) := ⟨rfl, rfl, rfl, by decide +kernel, rfl, by decide +kernel, by decide +kernel⟩
abbrev st_l_undone : Stmt := FWL.top 51
abbrev N_l_undone : List Str := ["_law_own", "_law_led"]
theorem sc_l_undone : FnScope N_l_undone ["_law_own", "_law_led"] (defScope st_l_undone) := ⟨rfl, rfl, rfl, by decide +kernel, rfl, by decide +kernel, by decide +kernel⟩
abbrev st_l_showsO : Stmt := FWL.top 52
abbrev N_l_showsO : List Str := ["_law_own", "_law_led"]
theorem sc_l_showsO : FnScope N_l_showsO ["_law_own", "_law_led"] (defScope st_l_showsO) := ⟨rfl, rfl, rfl, by decide +kernel, rfl, by decide +kernel, by decide +kernel⟩
abbrev st_l_busy : Stmt := FWL.top 53
abbrev N_l_busy : List Str := ["_law_own", "_law_led", "_law_parts", "_law_n", "_law_draws", "_law_draw", "_law_way"]
theorem sc_l_busy : FnScope N_l_busy ["_law_own", "_law_led", "_law_parts", "_law_n", "_law_draws"] (defScope st_l_busy) := ⟨rfl, rfl, rfl, by decide +kernel, rfl, by decide +kernel, by decide +kernel⟩
abbrev st_l_trial_right : Stmt := FWL.top 54
abbrev N_l_trial_right : List Str := ["_law_own", "_law_led", "_law_parts", "_law_n", "_law_draws", "_law_inner", "_law_told", "_law_other"]
theorem sc_l_trial_right : FnScope N_l_trial_right ["_law_own", "_law_led", "_law_parts", "_law_n", "_law_draws"] (defScope st_l_trial_right) := ⟨rfl, rfl, rfl, by decide +kernel, rfl, by decide +kernel, by decide +kernel⟩
abbrev st_l_deeper : Stmt := FWL.top 55
abbrev N_l_deeper : List Str := ["_law_own", "_law_one", "_law_parts", "_law_n", "_law_draws", "_law_inner", "_law_deeper_here", "_law_apart_here", "_law_other"]
theorem sc_l_deeper : FnScope N_l_deeper ["_law_own", "_law_one", "_law_parts", "_law_n", "_law_draws"] (defScope st_l_deeper) := ⟨rfl, rfl, rfl, by decide +kernel, rfl, by decide +kernel, by decide +kernel⟩
abbrev st_l_twin_right : Stmt := FWL.top 56
abbrev N_l_twin_right : List Str := ["_law_own", "_law_led", "_law_parts", "_law_n", "_law_draws", "_law_other", "_law_apart_here", "_law_kept", "_law_third", "_law_k"]
theorem sc_l_twin_right : FnScope N_l_twin_right ["_law_own", "_law_led", "_law_parts", "_law_n", "_law_draws"] (defScope st_l_twin_right) := ⟨rfl, rfl, rfl, by decide +kernel, rfl, by decide +kernel, by decide +kernel⟩
abbrev st_law : Stmt := FWL.top 57
abbrev N_law : List Str := ["_law_script", "_law_j", "_law_row_here", "_law_parts", "_law_n", "_law_start", "_law_led", "_law_own", "_law_k", "_law_draws", "_law_draw"]
theorem sc_law : FnScope N_law ["_law_script"] (defScope st_law) := ⟨rfl, rfl, rfl, by decide +kernel, rfl, by decide +kernel, by decide +kernel⟩
abbrev st_BadNumber_init : Stmt := FWL.meth 2 0
abbrev st_BadStart_init : Stmt := FWL.meth 5 0
abbrev st_NoGuess_init : Stmt := FWL.meth 12 0
open PySem.W PySem.HandSPX PySem.ErrX in
def errB0z (K : Frag) (file x : Str) : Bool := ([clsE K (He.ga K x), He.eqO (findIn K (.ref (He.ga K x)) "__init__") (some (some (.ref (He.ma K (He.ga K x) "__init__")))), decide (typeIn K (.ref (He.ma K (He.ga K x) "__init__")) = some (.type "function")),
  keepIn K (.ref (He.ga K x)), decide (subIn K (.ref (He.ga K x)) (.type "BaseException") = some true), decide (subIn K (.ref (He.ga K x)) (.type "ValueError") = some true), decide (typeIn K (.ref (He.ga K x)) = some (.type "type")), decide (mroIn K (He.ga K x) (.ref (He.ga K x)) = some true),
  He.eqO (nsIn K mainGlobals "super") (some none), He.eqO (nsIn K cStatics "thirdparty.any") (some none), He.eqO (ks_superIn K (He.ga K x) (He.ga K x) "__init__") (some (some (.builtin "ValueError.__init__"))), codeE K file x] : List Bool).all id
def fn : List He.DefD := [⟨("is_whole", none), "is_whole", "is_whole", defArgs st_is_whole, defBody st_is_whole, defScope st_is_whole, [], []⟩,
  ⟨("is_whole_from", none), "is_whole_from", "is_whole_from", defArgs st_is_whole_from, defBody st_is_whole_from, defScope st_is_whole_from, [], []⟩,
  ⟨("check_number", none), "check_number", "check_number", defArgs st_check_number, defBody st_check_number, defScope st_check_number, [], []⟩,
  ⟨("power", none), "power", "power", defArgs st_power, defBody st_power, defScope st_power, [], []⟩,
  ⟨("is_word_of", none), "is_word_of", "is_word_of", defArgs st_is_word_of, defBody st_is_word_of, defScope st_is_word_of, [], []⟩,
  ⟨("wrong_part", none), "wrong_part", "wrong_part", defArgs st_wrong_part, defBody st_wrong_part, defScope st_wrong_part, [], []⟩,
  ⟨("Average", some "__init__"), "__init__", "Average.__init__", defArgs st_Average_init, defBody st_Average_init, defScope st_Average_init, [.str "old", .str "none"], []⟩,
  ⟨("Average", some "led"), "led", "Average.led", defArgs st_Average_led, defBody st_Average_led, defScope st_Average_led, [], []⟩,
  ⟨("Average", some "looks"), "looks", "Average.looks", defArgs st_Average_looks, defBody st_Average_looks, defScope st_Average_looks, [], []⟩,
  ⟨("Average", some "ends"), "ends", "Average.ends", defArgs st_Average_ends, defBody st_Average_ends, defScope st_Average_ends, [], []⟩,
  ⟨("Average", some "nearness"), "nearness", "Average.nearness", defArgs st_Average_nearness, defBody st_Average_nearness, defScope st_Average_nearness, [], []⟩,
  ⟨("Average", some "chosen"), "chosen", "Average.chosen", defArgs st_Average_chosen, defBody st_Average_chosen, defScope st_Average_chosen, [], []⟩,
  ⟨("Average", some "mended"), "mended", "Average.mended", defArgs st_Average_mended, defBody st_Average_mended, defScope st_Average_mended, [], []⟩,
  ⟨("check_start", none), "check_start", "check_start", defArgs st_check_start, defBody st_check_start, defScope st_check_start, [], []⟩,
  ⟨("Led", some "__init__"), "__init__", "Led.__init__", defArgs st_Led_init, defBody st_Led_init, defScope st_Led_init, [], []⟩,
  ⟨("Led", some "noted"), "noted", "Led.noted", defArgs st_Led_noted, defBody st_Led_noted, defScope st_Led_noted, [], []⟩,
  ⟨("Led", some "put_back"), "put_back", "Led.put_back", defArgs st_Led_put_back, defBody st_Led_put_back, defScope st_Led_put_back, [], []⟩,
  ⟨("Led", some "tell"), "tell", "Led.tell", defArgs st_Led_tell, defBody st_Led_tell, defScope st_Led_tell, [], []⟩,
  ⟨("Led", some "round"), "round", "Led.round", defArgs st_Led_round, defBody st_Led_round, defScope st_Led_round, [], []⟩,
  ⟨("Led", some "put"), "put", "Led.put", defArgs st_Led_put, defBody st_Led_put, defScope st_Led_put, [], []⟩,
  ⟨("Led", some "undo"), "undo", "Led.undo", defArgs st_Led_undo, defBody st_Led_undo, defScope st_Led_undo, [], []⟩,
  ⟨("Led", some "trial"), "trial", "Led.trial", defArgs st_Led_trial, defBody st_Led_trial, defScope st_Led_trial, [], []⟩,
  ⟨("Led", some "twin"), "twin", "Led.twin", defArgs st_Led_twin, defBody st_Led_twin, defScope st_Led_twin, [], []⟩,
  ⟨("_law_cell_at", none), "_law_cell_at", "_law_cell_at", defArgs st_l_cell_at, defBody st_l_cell_at, defScope st_l_cell_at, [], []⟩,
  ⟨("_law_mixed", none), "_law_mixed", "_law_mixed", defArgs st_l_mixed, defBody st_l_mixed, defScope st_l_mixed, [], []⟩,
  ⟨("_law_row", none), "_law_row", "_law_row", defArgs st_l_row, defBody st_l_row, defScope st_l_row, [], []⟩,
  ⟨("_law_apart", none), "_law_apart", "_law_apart", defArgs st_l_apart, defBody st_l_apart, defScope st_l_apart, [], []⟩,
  ⟨("_law_power", none), "_law_power", "_law_power", defArgs st_l_power, defBody st_l_power, defScope st_l_power, [], []⟩,
  ⟨("_law_great", none), "_law_great", "_law_great", defArgs st_l_great, defBody st_l_great, defScope st_l_great, [], []⟩,
  ⟨("_law_weights", none), "_law_weights", "_law_weights", defArgs st_l_weights2, defBody st_l_weights2, defScope st_l_weights2, [], []⟩,
  ⟨("_law_loop_parts", none), "_law_loop_parts", "_law_loop_parts", defArgs st_l_loop_parts, defBody st_l_loop_parts, defScope st_l_loop_parts, [], []⟩,
  ⟨("_law_loop", none), "_law_loop", "_law_loop", defArgs st_l_loop2, defBody st_l_loop2, defScope st_l_loop2, [], []⟩,
  ⟨("_law_led_to", none), "_law_led_to", "_law_led_to", defArgs st_l_led_to, defBody st_l_led_to, defScope st_l_led_to, [], []⟩,
  ⟨("_law_looks", none), "_law_looks", "_law_looks", defArgs st_l_looks2, defBody st_l_looks2, defScope st_l_looks2, [], []⟩,
  ⟨("_law_ends", none), "_law_ends", "_law_ends", defArgs st_l_ends2, defBody st_l_ends2, defScope st_l_ends2, [], []⟩,
  ⟨("_law_mended", none), "_law_mended", "_law_mended", defArgs st_l_mended2, defBody st_l_mended2, defScope st_l_mended2, [], []⟩,
  ⟨("_law_chosen", none), "_law_chosen", "_law_chosen", defArgs st_l_chosen2, defBody st_l_chosen2, defScope st_l_chosen2, [], []⟩,
  ⟨("_law_refused", none), "_law_refused", "_law_refused", defArgs st_l_refusedH, defBody st_l_refusedH, defScope st_l_refusedH, [], []⟩,
  ⟨("_law_class", none), "_law_class", "_law_class", defArgs st_l_class, defBody st_l_class, defScope st_l_class, [], []⟩,
  ⟨("_law_round", none), "_law_round", "_law_round", defArgs st_l_round, defBody st_l_round, defScope st_l_round, [], []⟩,
  ⟨("_law_tried", none), "_law_tried", "_law_tried", defArgs st_l_tried, defBody st_l_tried, defScope st_l_tried, [], []⟩,
  ⟨("_law_put", none), "_law_put", "_law_put", defArgs st_l_put, defBody st_l_put, defScope st_l_put, [], []⟩,
  ⟨("_law_undone", none), "_law_undone", "_law_undone", defArgs st_l_undone, defBody st_l_undone, defScope st_l_undone, [], []⟩,
  ⟨("_law_shows", none), "_law_shows", "_law_shows", defArgs st_l_showsO, defBody st_l_showsO, defScope st_l_showsO, [], []⟩,
  ⟨("_law_busy", none), "_law_busy", "_law_busy", defArgs st_l_busy, defBody st_l_busy, defScope st_l_busy, [], []⟩,
  ⟨("_law_trial_right", none), "_law_trial_right", "_law_trial_right", defArgs st_l_trial_right, defBody st_l_trial_right, defScope st_l_trial_right, [], []⟩,
  ⟨("_law_deeper", none), "_law_deeper", "_law_deeper", defArgs st_l_deeper, defBody st_l_deeper, defScope st_l_deeper, [], []⟩,
  ⟨("_law_twin_right", none), "_law_twin_right", "_law_twin_right", defArgs st_l_twin_right, defBody st_l_twin_right, defScope st_l_twin_right, [], []⟩,
  ⟨("law", none), "law", "law", defArgs st_law, defBody st_law, defScope st_law, [], []⟩]
def fa : List He.Fa := [.free "KeyError", .free "abs", .free "bool", .free "int", .free "isinstance", .free "len", .free "list", .free "max", .free "min", .free "range", .free "str", .free "zip", .glo "BadBeginning", .glo "BadBracket", .glo "BadGuesses", .glo "BadKind", .glo "BadLoop", .glo "BadNumber", .glo "BadPower", .glo "BadSought", .glo "BadStart", .glo "BadText", .glo "FloorError", .glo "LOOKS", .glo "Led", .glo "MENDS", .glo "NoGuess", .glo "STOPS", .glo "TOLDS", .glo "_law_class", .glo "_law_shows", .glo "is_whole", .glo "is_whole_from", .glo "check_number", .glo "power", .glo "is_word_of", .glo "wrong_part", .glo "check_start", .glo "_law_cell_at", .glo "_law_mixed", .glo "_law_row", .glo "_law_apart", .glo "_law_power", .glo "_law_great", .glo "_law_weights", .glo "_law_loop_parts", .glo "_law_loop", .glo "_law_led_to", .glo "_law_looks", .glo "_law_ends", .glo "_law_mended", .glo "_law_chosen", .glo "_law_refused", .glo "_law_round", .glo "_law_tried", .glo "_law_put", .glo "_law_undone", .glo "_law_busy", .glo "_law_trial_right", .glo "_law_deeper", .glo "_law_twin_right", .glo "law", .glo "Average", .glo "Run", .cls "Average", .mkr "Average", .meth "Average" "led", .meth "Average" "looks", .meth "Average" "ends", .meth "Average" "nearness", .meth "Average" "chosen", .meth "Average" "mended", .noat "Average" "k", .noat "Average" "a", .noat "Average" "c", .noat "Average" "d", .noat "Average" "stop", .noat "Average" "told", .noat "Average" "mend", .cls "Run", .cls "Led", .mkr "Led", .meth "Led" "noted", .meth "Led" "put_back", .meth "Led" "tell", .meth "Led" "round", .meth "Led" "put", .meth "Led" "undo", .meth "Led" "trial", .meth "Led" "twin", .noat "Led" "loop", .noat "Led" "n", .noat "Led" "first", .noat "Led" "guess", .noat "Led" "before", .noat "Led" "told", .noat "Led" "past", .exm "BadNumber" "BadNumber" true, .exm "BadNumber" "BadStart" false, .exm "BadNumber" "NoGuess" false, .exm "BadStart" "BadNumber" false, .exm "BadStart" "BadStart" true, .exm "BadStart" "NoGuess" false, .exm "NoGuess" "BadNumber" false, .exm "NoGuess" "BadStart" false, .exm "NoGuess" "NoGuess" true, .exm "BadStart" "FloorError" true]
def ex (K : PySem.W.Frag) : Bool := ([errB K PySem.Challenge.pw_floorward_k52_whole_led_put_and_taken_ba.main.file "BadNumber" "value", errB K PySem.Challenge.pw_floorward_k52_whole_led_put_and_taken_ba.main.file "BadStart" "value", errB0z K PySem.Challenge.pw_floorward_k52_whole_led_put_and_taken_ba.main.file "NoGuess", FW.excB K "BadStart", decide (PySem.W.kitOne K (.ref (He.ga K "BadStart")) (.ref (He.ga K "BadNumber")) = some false), decide (PySem.W.kitOne K (.ref (He.ga K "BadStart")) (.ref (He.ga K "BadPower")) = some false), decide (PySem.W.kitOne K (.ref (He.ga K "BadStart")) (.ref (He.ga K "BadLoop")) = some false), decide (PySem.W.kitOne K (.ref (He.ga K "BadStart")) (.ref (He.ga K "BadStart")) = some true), decide (PySem.W.kitOne K (.ref (He.ga K "BadStart")) (.ref (He.ga K "BadGuesses")) = some false), decide (PySem.W.kitOne K (.ref (He.ga K "BadStart")) (.ref (He.ga K "BadBeginning")) = some false), decide (PySem.W.kitOne K (.ref (He.ga K "BadStart")) (.ref (He.ga K "BadSought")) = some false), decide (PySem.W.kitOne K (.ref (He.ga K "BadStart")) (.ref (He.ga K "BadBracket")) = some false), decide (PySem.W.kitOne K (.ref (He.ga K "BadStart")) (.ref (He.ga K "BadKind")) = some false), decide (PySem.W.kitOne K (.ref (He.ga K "BadStart")) (.ref (He.ga K "BadText")) = some false), decide (PySem.W.kitOne K (.ref (He.ga K "BadStart")) (.ref (He.ga K "NoGuess")) = some false), He.tupB K "STOPS" [.str "notless", .str "equal", .str "near1", .str "near2", .str "back", .str "under", .str "held"], He.tupB K "TOLDS" [.str "old", .str "new", .str "less", .str "more"], He.tupB K "MENDS" [.str "none", .str "down", .str "up", .str "both"], He.tupB K "LOOKS" [.str "under", .str "held"], (He.eqO (PySem.W.findIn K (.ref (He.ga K "Led")) "__class__") (some (some (.builtin "object.__class__"))) && (He.eqO (PySem.W.specialIn K (.builtin "object.__class__") "__get__") (some (some (.builtin "getset_descriptor.__get__"))) && (decide (PySem.W.takesIn K (.builtin "object.__class__") = some true) && decide (PySem.W.mroIn K (He.ga K "Led") (.type "object") = some true)))), decide ((He.cT K ("_law_put", none)).2 ≠ (He.cT K ("_law_trial_right", none)).2), decide ((He.cT K ("_law_put", none)).2 ≠ (He.cT K ("_law_deeper", none)).2), decide ((He.cT K ("_law_trial_right", none)).2 ≠ (He.cT K ("_law_deeper", none)).2)] : List Bool).all id
abbrev R : PySem.W.OpenRow := PySem.W.OpenLaw.row PySem.Challenge.rw_floorward_k52_whole_led_put_and_taken_ba
def er : List FW.ErrD := [⟨"BadNumber", "BadNumber.__init__", defArgs st_BadNumber_init, defBody st_BadNumber_init, defScope st_BadNumber_init⟩,
  ⟨"BadStart", "BadStart.__init__", defArgs st_BadStart_init, defBody st_BadStart_init, defScope st_BadStart_init⟩,
  ⟨"NoGuess", "NoGuess.__init__", defArgs st_NoGuess_init, defBody st_NoGuess_init, defScope st_NoGuess_init⟩]
def tf : List He.Defn := [("_law_put", none), ("_law_trial_right", none), ("_law_deeper", none)]
abbrev hk : PySem.W.Hook := FW.hookV 4 fa fn ex er tf
def ob (s : PySem.W.SharedT) : FW.AlZ := FW.obsV 4 fa fn ex er tf (HandSHeadRun.getT s)
theorem ob_eq (s : PySem.W.SharedT) : ob s = hk.obs s.abs := FW.obsV_eq (HandSHeadRun.getT_eq s)
def loose0 : List Str := ["FloorError", "BadNumber", "BadPower", "BadLoop", "BadStart", "BadGuesses", "BadBeginning", "BadSought", "BadBracket", "BadKind", "BadText", "NoGuess", "is_whole", "is_whole_from", "check_number", "power", "STOPS", "TOLDS", "MENDS", "LOOKS", "is_word_of", "wrong_part", "Average", "Run", "check_start", "course_of", "Led", "_law_cell_at", "_law_mixed", "_law_row"]
def loose1 : List Str := ["_law_apart", "_law_power", "_law_great", "_law_weights", "_law_loop_parts", "_law_loop", "_law_led_to", "_law_looks", "_law_ends", "_law_mended", "_law_chosen", "_law_refused", "_law_class", "_law_round", "_law_tried", "_law_put", "_law_undone", "_law_shows", "_law_busy", "_law_trial_right", "_law_deeper", "_law_twin_right"]
def loose : List Str := loose0 ++ loose1
theorem map3 {σ α β γ : Type} {o : Option σ} {f : σ → α} {g : σ → β} {h : σ → γ} {a : α} {b : β} {c : γ} (h1 : o.map f = some a) (h2 : o.map g = some b) (h3 : o.map h = some c) : o.map (fun s => (f s, g s, h s)) = some (a, b, c) := by
  cases o with
  | none => cases h1
  | some s => cases h1; cases h2; cases h3; rfl
open PySem PySem.W PySem.Calls PyProof.Rows HandSHeadRun in
theorem runA (w : World) : ∀ os : OsState, (endF (stepQ (denQ tabQ) R.prog w) 30000 R.prog w os).map (fun s => looksF R.prog (boot_heap w.params) s.abs) = some true := by
  intro os
  kernel_rfl
open PySem PySem.W PySem.Calls PyProof.Rows HandSHeadRun in
theorem runB (w : World) : ∀ os : OsState, (endF (stepQ (denQ tabQ) R.prog w) 30000 R.prog w os).map (fun s => seenQ (view R.prog [57]) loose (importedModules R.prog.main.body) (fun s => xlAt (view R.prog [57]) [] s && recOk R.toRowW.records s) s.abs) = some (openGood (view R.prog [57]) loose) := by
  intro os
  kernel_rfl
open PySem PySem.W PySem.Calls PyProof.Rows HandSHeadRun in
theorem runC (w : World) : ∀ os : OsState, (endF (stepQ (denQ tabQ) R.prog w) 30000 R.prog w os).map (fun s => ob s) = some (hk.val w) := by
  intro os
  kernel_rfl
theorem run (w : World) : HandSHeadRun.RunEq R (PySem.W.view R.prog [57]) hk ob 30000 loose w := fun os => map3 (runA w os) (runB w os) (runC w os)
end FWL
local macro_rules | `(tactic| walk_at "re1") => `(tactic| with_reducible first
  | refine FW.e_var ?_ (by with_unfolding_all rfl) | refine FW.e_c ?_ | refine FW.e_op ?_ | refine FW.e_un ?_ | refine FW.e_U ?_ | refine FW.e_I0 ?_ | refine FW.e_I ?_ ?_ | refine FW.e_ip ?_
  | refine FW.e_test ?_ | refine FW.e_tB ?_ | refine FW.e_bl ?_ | refine FW.e_not ?_ | refine FW.e_and ?_ | refine FW.e_or ?_ | refine FW.e_andV ?_ | refine FW.e_orV ?_ | refine FW.e_notV ?_ | refine FW.e_ifx ?_
  | refine FW.e_nil ?_ | refine FW.e_cons ?_ | refine FW.e_call ?_ | refine FW.e_cb ?_ | refine FW.e_lst ?_ | refine FW.e_tup ?_ | refine FW.e_int ?_ | refine FW.e_intB ?_ | refine FW.e_abs ?_ | refine FW.e_max2 ?_ | refine FW.e_min2 ?_
  | refine FW.e_eq ?_ rfl | refine FW.e_ne ?_ rfl | refine FW.e_isN ?_ | refine FW.e_notN ?_ | refine FW.e_chain ?_ | refine FW.e_T ?_ | refine FW.e_F ?_ | refine FW.e_nT ?_ | refine FW.e_nF ?_ | refine FW.s_par2 ?_ | refine FW.i_rng1' ?_ ?_ | refine FW.i_rng2' ?_ ?_ | refine FW.g_sub ?_ | refine FW.e_lc ?_ | refine FW.e_yes ?_ | refine FW.e_bm ?_ | refine FW.e_bm0 ?_ | refine FW.e_mk ?_ | refine FW.e_mt ?_ | refine FW.e_fldk ?_ | refine FW.g_name ?_ | refine FW.g_nil ?_ | refine FW.g_cons ?_)
local macro_rules | `(tactic| walk_at "rs1") => `(tactic| with_reducible first
  | refine FW.s_seq ?_ | refine FW.s_asg ?_ | refine FW.s_ret ?_ | refine FW.s_if ?_ | refine FW.s_next ?_ | refine FW.s_drop ?_ | refine FW.s_fld ?_ | refine FW.s_par ?_ | refine FW.s_aug ?_ (by with_unfolding_all rfl) | refine FW.s_asgG ?_ | refine FW.s_for ?_ | refine FW.i_rng1 ?_ | refine FW.i_rng2 ?_ | refine FW.i_list ?_ | refine FW.i_tup ?_)
local macro_rules | `(tactic| walk_at "re") => `(tactic| repeat (walk_at "re1"))
local macro_rules | `(tactic| walk_at "rd") => `(tactic| repeat (first | walk_at "rs1" | walk_at "re1"))
namespace FWL
open PySem PySem.Spec PyProof.Rows L2 FW
/-! ### is_whole, is_whole_from -/
def tyNames : List String := ["NoneType", "bool", "int", "str", "float", "list", "tuple", "dict"]
/-- a thing of a built-in kind -/
def WT (K : PySem.W.Frag) (H : Hp) (v : V) (n : String) : Prop := TyX K H v (.type n) ∧ n ∈ tyNames
def isInt : V → Bool
  | .int _ => true
  | _ => false
def isStr : V → Bool
  | .str _ => true
  | _ => false
def iv : V → Int
  | .int i => i
  | _ => 0
def fromI (v : V) (l : Int) : Bool := isInt v && decide (l ≤ iv v)
theorem WT.isInt {K : PySem.W.Frag} {H : Hp} {v : V} {n : String} (h : WT K H v n) : isInt v = decide (n = "int") := by
  obtain ⟨h, _⟩ := h
  generalize ht : Value.type n = t at h
  cases h with
  | base b => cases b <;> first | (cases ht; rfl) | (injection ht with e; subst e; rfl) | cases ht
  | _ => injection ht with e; subst e; rfl
theorem WT.isStr {K : PySem.W.Frag} {H : Hp} {v : V} {n : String} (h : WT K H v n) : isStr v = decide (n = "str") := by
  obtain ⟨h, _⟩ := h
  generalize ht : Value.type n = t at h
  cases h with
  | base b => cases b <;> first | (cases ht; rfl) | (injection ht with e; subst e; rfl) | cases ht
  | _ => injection ht with e; subst e; rfl
theorem isInt_of {v : V} (h : isInt v = true) : ∃ i, v = .int i := by cases v <;> first | exact ⟨_, rfl⟩ | cases h
theorem isStr_of {v : V} (h : isStr v = true) : ∃ i, v = .str i := by cases v <;> first | exact ⟨_, rfl⟩ | cases h
theorem WT.i {K : PySem.W.Frag} {H : Hp} (i : Int) : WT K H (.int i) "int" := ⟨.base (.int i), by decide⟩
theorem WT.s {K : PySem.W.Frag} {H : Hp} (i : Str) : WT K H (.str i) "str" := ⟨.base (.str i), by decide⟩
theorem WT.non {K : PySem.W.Frag} {H : Hp} : WT K H .non "NoneType" := ⟨.base .non, by decide⟩
theorem WT.bl {K : PySem.W.Frag} {H : Hp} (b : Bool) : WT K H (.bl b) "bool" := ⟨.base (.bl b), by decide⟩
theorem WT.lst {K : PySem.W.Frag} {H : Hp} {a : Addr} {xs : List V} (h : H a = some (.lst xs)) : WT K H (.ref a) "list" := ⟨.base (.lst h), by decide⟩
theorem WT.tup {K : PySem.W.Frag} {H : Hp} {a : Addr} {xs : List V} (h : H a = some (.tup xs)) : WT K H (.ref a) "tuple" := ⟨.base (.tup h), by decide⟩
theorem kitI {n : String} (h : n ∈ tyNames) : kitB n "int" = some (decide (n = "int" ∨ n = "bool")) := by
  simp only [tyNames, List.mem_cons, List.not_mem_nil, or_false] at h
  rcases h with rfl | rfl | rfl | rfl | rfl | rfl | rfl | rfl <;> decide +kernel
theorem kitBl {n : String} (h : n ∈ tyNames) : kitB n "bool" = some (decide (n = "bool")) := by
  simp only [tyNames, List.mem_cons, List.not_mem_nil, or_false] at h
  rcases h with rfl | rfl | rfl | rfl | rfl | rfl | rfl | rfl <;> decide +kernel
theorem kitS {n : String} (h : n ∈ tyNames) : kitB n "str" = some (decide (n = "str")) := by
  simp only [tyNames, List.mem_cons, List.not_mem_nil, or_false] at h
  rcases h with rfl | rfl | rfl | rfl | rfl | rfl | rfl | rfl <;> decide +kernel
theorem e_isi {K : PySem.W.Frag} {H : Hp} {Q : VK} {v : V} {n m : String} {b : Bool} (k : Q (.bl b) H) (h : WT K H v n) (hk : kitB n m = some b) : rIsi K [v, .ty m] H Q :=
  ⟨v, .ty m, .type n, .type m, b, rfl, .ty m, h.1, kit_ty hk, k⟩
def sp_is_whole (K : PySem.W.Frag) : Sp := fun vs H Q _ => ∃ (v : V) (n : String), vs = [v] ∧ WT K H v n ∧ Q (.bl (isInt v)) H
def rd_is_whole (K : PySem.W.Frag) : TS := tRet (tAndV (tCB (rIsi K) (tCons (tVar 0) (tCons (tC (.ty "int")) (tNil)))) (tNotV (tCB (rIsi K) (tCons (tVar 0) (tCons (tC (.ty "bool")) (tNil))))))
theorem pure_is_whole (K : PySem.W.Frag) (vs : List V) (H : Hp) (Q : VK) (E : XK) (h : sp_is_whole K vs H Q E) : rd_is_whole K { nx := fun _ H' => Q .non H', rt := Q } (start ["thing"] vs) H := by
  obtain ⟨v, n, rfl, hv, q⟩ := h
  have e := hv.isInt
  unfold rd_is_whole
  walk_at "rd"
  refine e_isi ?_ hv (kitI hv.2)
  refine ?_
  walk_at "rd"
  refine e_ite (fun h => ?_) (fun h => ?_)
  · walk_at "rd"
    refine e_isi ?_ hv (kitBl hv.2)
    walk_at "rd"
    show Q (.bl (!decide (n = "bool"))) H
    have : (!decide (n = "bool")) = isInt v := by
      rw [e]
      rcases h with rfl | rfl <;> decide
    rw [this]; exact q
  · have : isInt v = false := by
      rw [e]; exact decide_eq_false fun z => h (.inl z)
    rw [this] at q; exact q
def sp_is_whole_from (K : PySem.W.Frag) : Sp := fun vs H Q _ => ∃ (v : V) (n : String) (l : Int), vs = [v, .int l] ∧ WT K H v n ∧ Q (.bl (fromI v l)) H
def rd_is_whole_from (K : PySem.W.Frag) : TS := tRet (tAndV (tCall (sp_is_whole K) [] E0 (tCons (tVar 0) (tNil))) (tOp FW.rGe (tVar 0) (tVar 1)))
theorem pure_is_whole_from (K : PySem.W.Frag) (vs : List V) (H : Hp) (Q : VK) (E : XK) (h : sp_is_whole_from K vs H Q E) : rd_is_whole_from K { nx := fun _ H' => Q .non H', rt := Q } (start ["thing", "least"] vs) H := by
  obtain ⟨v, n, l, rfl, hv, q⟩ := h
  unfold rd_is_whole_from
  walk_at "rd"
  refine ⟨v, n, rfl, hv, ?_⟩
  walk_at "rd"
  refine e_iteB (fun h => ?_) (fun h => ?_)
  · obtain ⟨i, rfl⟩ := isInt_of h
    walk_at "rd"
    have : fromI (.int i) l = decide (l ≤ i) := Bool.true_and _
    rw [this] at q; exact q
  · have : fromI v l = false := by simp [fromI, h]
    rw [this] at q; exact q
/-! ### check_number, check_start where nothing is raised -/
def sp_check_number (K : PySem.W.Frag) : Sp := fun vs H Q _ => ∃ n : Int, vs = [.int n] ∧ 0 ≤ n ∧ Q .non H
def sp_check_start (K : PySem.W.Frag) : Sp := fun vs H Q _ => ∃ n : Int, vs = [.int n] ∧ 1 ≤ n ∧ Q .non H
def rd_check_number (K : PySem.W.Frag) : TS := tIfS (tNot (tB (tCall (sp_is_whole_from K) [] E0 (tCons (tVar 0) (tCons (tC (.int 0)) (tNil)))))) (tNever) (tNext)
def rd_check_start (K : PySem.W.Frag) : TS := tIfS (tNot (tB (tCall (sp_is_whole_from K) [] E0 (tCons (tVar 0) (tCons (tC (.int 1)) (tNil)))))) (tNever) (tNext)
theorem pure_check_number (K : PySem.W.Frag) (vs : List V) (H : Hp) (Q : VK) (E : XK) (h : sp_check_number K vs H Q E) : rd_check_number K { nx := fun _ H' => Q .non H', rt := Q } (start ["n"] vs) H := by
  obtain ⟨n, rfl, hn, q⟩ := h
  unfold rd_check_number
  walk_at "rd"
  refine ⟨_, _, _, rfl, WT.i n, ?_⟩
  have : fromI (.int n) 0 = true := by simp [fromI, isInt, iv, hn]
  rw [this]
  walk_at "rd"
  exact q
theorem pure_check_start (K : PySem.W.Frag) (vs : List V) (H : Hp) (Q : VK) (E : XK) (h : sp_check_start K vs H Q E) : rd_check_start K { nx := fun _ H' => Q .non H', rt := Q } (start ["x"] vs) H := by
  obtain ⟨n, rfl, hn, q⟩ := h
  unfold rd_check_start
  walk_at "rd"
  refine ⟨_, _, _, rfl, WT.i n, ?_⟩
  have : fromI (.int n) 1 = true := by simp [fromI, isInt, iv, hn]
  rw [this]
  walk_at "rd"
  exact q

def rd_power_L1 (K : PySem.W.Frag) : TS := tAug 2 (tVar 0) FW.iMul
def rd_power (K : PySem.W.Frag) : TS := tSeq (tAsg (tC (.int 1)) (gName 2)) (tSeq (tFor (iRng1 (tCons (tVar 1) (tNil))) (gName 3) (rd_power_L1 K)) (tRet (tVar 2)))
/-- x ^ k, x below 2 ^ b -/
def sp_power (K : PySem.W.Frag) : Sp := fun vs H Q _ => ∃ (x k : Int) (b : Nat), vs = [.int x, .int k] ∧ 0 ≤ k ∧ x.natAbs < 2 ^ b ∧ 0 < b ∧ (k.toNat + 1) * b ≤ 900000 ∧ Q (.int (x ^ k.toNat)) H
theorem pow_lt {x : Int} {b : Nat} (h : x.natAbs < 2 ^ b) (hb : 0 < b) : ∀ n : Nat, (x ^ n).natAbs < 2 ^ (n * b + 1)
  | 0 => by simp
  | n + 1 => by
    have ih := pow_lt h hb n
    rw [Int.pow_succ, Int.natAbs_mul, Nat.add_mul, Nat.one_mul, Nat.add_right_comm, Nat.pow_add]
    exact Nat.mul_lt_mul'' ih h
theorem pure_power (K : PySem.W.Frag) (vs : List V) (H : Hp) (Q : VK) (E : XK) (h : sp_power K vs H Q E) : rd_power K { nx := fun _ H' => Q .non H', rt := Q } (start ["x", "k", "found", "turn"] vs) H := by
  obtain ⟨x, k, b, rfl, hk, hx, hb, hz, q⟩ := h
  unfold rd_power
  walk_at "rd"
  refine for_range (lo := 0) (n := k.toNat) (fun i σ H' => H' = H ∧ ∃ v, σ = [some (.int x), some (.int k), some (.int (x ^ i)), v]) ⟨rfl, _, by rw [Int.pow_zero]; rfl⟩ ?_ ?_
  · rintro i σ H' hi ⟨rfl, v, rfl⟩
    show rd_power_L1 K _ _ _
    unfold rd_power_L1
    walk_at "rd"
    · exact ⟨rfl, _, by rw [Int.pow_succ]; rfl⟩
    · refine wide_mul (pow_lt hx hb i) hx (by omega) hb ?_
      have : (i + 1) * b ≤ (k.toNat + 1) * b := Nat.mul_le_mul_right _ (by omega)
      rw [Nat.add_mul] at this
      omega
  · rintro σ H' ⟨rfl, v, rfl⟩
    walk_at "rd"
    exact q
  · have : k.toNat * 1 ≤ k.toNat * b := Nat.mul_le_mul_left _ hb
    rw [Nat.add_mul] at hz
    omega

/-! ### words -/
def wordOf (v : V) (ws : List V) : Bool := isStr v && inV v ws
def sp_is_word_of (K : PySem.W.Frag) : Sp := fun vs H Q _ => ∃ (v : V) (n : String) (a : Addr) (ws : List V), vs = [v, .ref a] ∧ WT K H v n ∧ SqT K H a ws ∧ ws.all flatV = true ∧ Q (.bl (wordOf v ws)) H
def rd_is_word_of (K : PySem.W.Frag) : TS := tRet (tAndV (tCB (rIsi K) (tCons (tVar 0) (tCons (tC (.ty "str")) (tNil)))) (tOp (rIn K false) (tVar 0) (tVar 1)))
theorem pure_is_word_of (K : PySem.W.Frag) (vs : List V) (H : Hp) (Q : VK) (E : XK) (h : sp_is_word_of K vs H Q E) : rd_is_word_of K { nx := fun _ H' => Q .non H', rt := Q } (start ["thing", "words"] vs) H := by
  obtain ⟨v, n, a, ws, rfl, hv, hw, hf, q⟩ := h
  have e := hv.isStr
  unfold rd_is_word_of
  walk_at "rd"
  refine e_isi ?_ hv (kitS hv.2)
  refine ?_
  walk_at "rd"
  refine e_ite (fun h => ?_) (fun h => ?_)
  · rw [decide_eq_true h] at e
    obtain ⟨x, rfl⟩ := isStr_of e
    walk_at "rd"
    refine e_in ?_ (.inr hw) rfl hf
    exact q
  · rw [decide_eq_false h] at e
    have : wordOf v ws = false := by simp [wordOf, e]
    rw [this] at q; exact q
def stopsV : List V := [.str "notless", .str "equal", .str "near1", .str "near2", .str "back", .str "under", .str "held"]
def toldsV : List V := [.str "old", .str "new", .str "less", .str "more"]
def mendsV : List V := [.str "none", .str "down", .str "up", .str "both"]
def looksV : List V := [.str "under", .str "held"]
/-- what the text's top holds for averages -/
structure AvK (K : PySem.W.Frag) : Prop where
  cls : Cls K (He.ga K "Average")
  n_k : NoAttr K (He.ga K "Average") "k"
  n_a : NoAttr K (He.ga K "Average") "a"
  n_c : NoAttr K (He.ga K "Average") "c"
  n_d : NoAttr K (He.ga K "Average") "d"
  n_stop : NoAttr K (He.ga K "Average") "stop"
  n_told : NoAttr K (He.ga K "Average") "told"
  n_mend : NoAttr K (He.ga K "Average") "mend"
  stops : ∀ H, SqT K H (He.ga K "STOPS") stopsV
  tolds : ∀ H, SqT K H (He.ga K "TOLDS") toldsV
  mends : ∀ H, SqT K H (He.ga K "MENDS") mendsV
  looks : ∀ H, SqT K H (He.ga K "LOOKS") looksV
/-- the first part that is not so -/
def wrongP (k a c d s t m : V) : V :=
  if (!isInt k || !inV k [.int 2, .int 3, .int 4]) = true then .str "k"
  else if (!isInt a || !(decide (1 ≤ iv a) && decide (iv a ≤ 5))) = true then .str "a"
  else if (!fromI c 1 || (decide (iv a < iv c * (iv k - 1)) || decide (6 < iv a + iv c))) = true then .str "c"
  else if (!isInt d || !(decide (-iv a ≤ iv d) && decide (iv d ≤ iv a + iv c))) = true then .str "d"
  else if (!wordOf s stopsV) = true then .str "stop"
  else if (!wordOf t toldsV || (inV s looksV && !decide (t = .str "old"))) = true then .str "told"
  else if wordOf m mendsV = true then .non else .str "mend"
def sp_wrong_part (K : PySem.W.Frag) : Sp := fun vs H Q _ => ∃ k a c d s t m : V, vs = [k, a, c, d, s, t, m] ∧ (∀ v ∈ [k, a, c, d, s, t, m], ∃ n, WT K H v n) ∧ (iv c).natAbs < 2 ^ 900 ∧
  ∀ H', Ext H H' → Q (wrongP k a c d s t m) H'
theorem WT.ext {K : PySem.W.Frag} {H H' : Hp} {v : V} {n : String} (e : Ext H H') (h : WT K H v n) : WT K H' v n := by
  obtain ⟨h, hn⟩ := h
  refine ⟨?_, hn⟩
  cases h with
  | base b =>
    refine .base ?_
    cases b with
    | non => exact .non
    | bl x => exact .bl x
    | int x => exact .int x
    | str x => exact .str x
    | flt x => exact .flt x
    | lst q => exact .lst (e _ _ q)
    | frz q => exact .frz (e _ _ q)
    | tup q => exact .tup (e _ _ q)
    | dK q => exact .dK (e _ _ q)
    | dT q => exact .dT (e _ _ q)
  | byt x => exact .byt x
  | set q => exact .set (e _ _ q)
  | kList q c => exact .kList q c
  | kTuple q c => exact .kTuple q c
  | kDict q c => exact .kDict q c
  | fTuple q => exact .fTuple (e _ _ q)
  | fDict q => exact .fDict (e _ _ q)
theorem or_ite {a b : Bool} {A B C : Prop} (h1 : (a || b) = true → A) (h2 : (a || b) = false → B) : if a = true then A else (if b = true then A else B) := by
  cases a <;> cases b <;> simp_all
def rd_wrong_part (K : PySem.W.Frag) : TS := tSeq (tIfS (tOr (tNot (tB (tCall (sp_is_whole K) [] E0 (tCons (tVar 0) (tNil))))) (tTest (tOp (rIn K true) (tVar 0) (tTup (tCons (tC (.int 2)) (tCons (tC (.int 3)) (tCons (tC (.int 4)) (tNil)))))))) (tRet (tC (.str "k"))) (tNext)) (tSeq (tIfS (tOr (tNot (tB (tCall (sp_is_whole K) [] E0 (tCons (tVar 1) (tNil))))) (tNot (tTest (tChain FW.rLe FW.rLe (tC (.int 1)) (tVar 1) (tC (.int 5)))))) (tRet (tC (.str "a"))) (tNext)) (tSeq (tIfS (tOr (tNot (tB (tCall (sp_is_whole_from K) [] E0 (tCons (tVar 2) (tCons (tC (.int 1)) (tNil)))))) (tOr (tTest (tOp FW.rLt (tVar 1) (tOp FW.rMul (tVar 2) (tOp FW.rSub (tVar 0) (tC (.int 1)))))) (tTest (tOp FW.rGt (tOp FW.rAdd (tVar 1) (tVar 2)) (tC (.int 6)))))) (tRet (tC (.str "c"))) (tNext)) (tSeq (tIfS (tOr (tNot (tB (tCall (sp_is_whole K) [] E0 (tCons (tVar 3) (tNil))))) (tNot (tTest (tChain FW.rLe FW.rLe (tUn FW.rNeg (tVar 1)) (tVar 3) (tOp FW.rAdd (tVar 1) (tVar 2)))))) (tRet (tC (.str "d"))) (tNext)) (tSeq (tIfS (tNot (tB (tCall (sp_is_word_of K) [] E0 (tCons (tVar 4) (tCons (tC (.ref (He.ga K "STOPS"))) (tNil)))))) (tRet (tC (.str "stop"))) (tNext)) (tSeq (tIfS (tOr (tNot (tB (tCall (sp_is_word_of K) [] E0 (tCons (tVar 5) (tCons (tC (.ref (He.ga K "TOLDS"))) (tNil)))))) (tAnd (tTest (tOp (rIn K false) (tVar 4) (tC (.ref (He.ga K "LOOKS"))))) (tTest (tOp rNe (tVar 5) (tC (.str "old")))))) (tRet (tC (.str "told"))) (tNext)) (tRet (tIf (tB (tCall (sp_is_word_of K) [] E0 (tCons (tVar 6) (tCons (tC (.ref (He.ga K "MENDS"))) (tNil))))) (tC .non) (tC (.str "mend")))))))))
set_option maxHeartbeats 8000000 in
theorem pure_wrong_part (K : PySem.W.Frag) (A : AvK K) (vs : List V) (H : Hp) (Q : VK) (E : XK) (h : sp_wrong_part K vs H Q E) : rd_wrong_part K { nx := fun _ H' => Q .non H', rt := Q } (start ["k", "a", "c", "d", "stop", "told", "mend"] vs) H := by
  obtain ⟨k, a, c, d, s, t, m, rfl, hW, hc, q⟩ := h
  obtain ⟨nk, wk⟩ := hW k (by simp)
  obtain ⟨na, wa⟩ := hW a (by simp)
  obtain ⟨nc, wc⟩ := hW c (by simp)
  obtain ⟨nd, wd⟩ := hW d (by simp)
  obtain ⟨ns, ws⟩ := hW s (by simp)
  obtain ⟨nt, wt⟩ := hW t (by simp)
  obtain ⟨nm, wm⟩ := hW m (by simp)
  unfold wrongP at q
  unfold rd_wrong_part
  walk_at "rd"
  refine ⟨_, _, rfl, wk, ?_⟩
  walk_at "rd"
  refine e_iteB (fun h1 => ?_) (fun h1 => ?_)
  · walk_at "rd"
    rw [if_pos (by rw [h1]; rfl)] at q
    exact q _ Ext.rfl'
  rw [h1, Bool.false_or] at q
  have h1' : isInt k = true := by simpa using h1
  obtain ⟨k, rfl⟩ := isInt_of h1'
  walk_at "rd"
  refine ⟨by show 3 ≤ sizeLine; decide, fun p hp => ?_⟩
  refine e_in ?_ (.inr (SqT.of upd_same)) rfl rfl
  have eH : Ext H (upd H p (.tup [.int 2, .int 3, .int 4])) := Ext.new hp
  generalize upd H p (.tup [.int 2, .int 3, .int 4]) = H1 at *
  rw [if_pos rfl]
  refine ?_
  walk_at "rd"
  refine e_iteB (fun h2 => ?_) (fun h2 => ?_)
  · walk_at "rd"
    rw [if_pos h2] at q
    exact q _ eH
  rw [if_neg (by rw [h2]; decide)] at q
  have hk : k = 2 ∨ k = 3 ∨ k = 4 := by
    simp [inV, eqV] at h2
    omega
  walk_at "rd"
  refine ⟨_, _, rfl, wa.ext eH, ?_⟩
  walk_at "rd"
  refine e_iteB (fun h3 => ?_) (fun h3 => ?_)
  · walk_at "rd"
    rw [if_pos (by rw [h3]; rfl)] at q
    exact q _ eH
  rw [h3, Bool.false_or] at q
  have h3' : isInt a = true := by simpa using h3
  obtain ⟨a, rfl⟩ := isInt_of h3'
  walk_at "rd"
  have ha : (1 ≤ a ∧ a ≤ 5) ∨ ¬ (1 ≤ a ∧ a ≤ 5) := Classical.em _
  rcases ha with ha | ha
  · rw [decide_eq_true ha.1]
    walk_at "rd"
    rw [decide_eq_true ha.2]
    walk_at "rd"
    rw [if_neg (by simp [iv, ha.1, ha.2])] at q
    refine ⟨_, _, _, rfl, wc.ext eH, ?_⟩
    walk_at "rd"
    refine e_iteB (fun h4 => ?_) (fun h4 => ?_)
    · walk_at "rd"
      rw [if_pos (by rw [h4]; rfl)] at q
      exact q _ eH
    rw [h4, Bool.false_or] at q
    have h4' : fromI c 1 = true := by simpa using h4
    have h4i : isInt c = true := by
      unfold fromI at h4'
      rw [Bool.and_eq_true] at h4'
      exact h4'.1
    obtain ⟨c, rfl⟩ := isInt_of h4i
    walk_at "rd"
    rotate_left 1
    · exact wide_mul (a := 900) (b := 10) hc (by omega) (by decide) (by decide) (by decide)
    refine e_ite (fun h5 => ?_) (fun h5 => ?_)
    · walk_at "rd"
      rw [if_pos (by rw [decide_eq_true (by exact h5)]; rfl)] at q
      exact q _ eH
    rw [decide_eq_false (by exact h5), Bool.false_or] at q
    walk_at "rd"
    refine e_ite (fun h6 => ?_) (fun h6 => ?_)
    · walk_at "rd"
      rw [if_pos (decide_eq_true (by exact h6))] at q
      exact q _ eH
    rw [if_neg (by rw [decide_eq_false (by exact h6)]; decide)] at q
    walk_at "rd"
    refine ⟨_, _, rfl, wd.ext eH, ?_⟩
    walk_at "rd"
    refine e_iteB (fun h7 => ?_) (fun h7 => ?_)
    · walk_at "rd"
      rw [if_pos (by rw [h7]; rfl)] at q
      exact q _ eH
    rw [h7, Bool.false_or] at q
    have h7' : isInt d = true := by simpa using h7
    obtain ⟨d, rfl⟩ := isInt_of h7'
    walk_at "rd"
    have hd : (-a ≤ d ∧ d ≤ a + c) ∨ ¬ (-a ≤ d ∧ d ≤ a + c) := Classical.em _
    rcases hd with hd | hd
    · rw [decide_eq_true hd.1]
      walk_at "rd"
      rw [decide_eq_true hd.2]
      walk_at "rd"
      rw [if_neg (by simp [iv, hd.1, hd.2])] at q
      refine ⟨_, _, _, _, rfl, ws.ext eH, A.stops _, by decide, ?_⟩
      walk_at "rd"
      refine e_iteB (fun h8 => ?_) (fun h8 => ?_)
      · walk_at "rd"
        rw [if_pos h8] at q
        exact q _ eH
      rw [if_neg (by rw [h8]; decide)] at q
      have h8' : wordOf s stopsV = true := by simpa using h8
      have h8s : isStr s = true := by
        unfold wordOf at h8'
        rw [Bool.and_eq_true] at h8'
        exact h8'.1
      obtain ⟨s, rfl⟩ := isStr_of h8s
      walk_at "rd"
      refine ⟨_, _, _, _, rfl, wt.ext eH, A.tolds _, by decide, ?_⟩
      walk_at "rd"
      refine e_iteB (fun h9 => ?_) (fun h9 => ?_)
      · walk_at "rd"
        rw [if_pos (by rw [h9]; rfl)] at q
        exact q _ eH
      rw [h9, Bool.false_or] at q
      have h9' : wordOf t toldsV = true := by simpa using h9
      have h9s : isStr t = true := by
        unfold wordOf at h9'
        rw [Bool.and_eq_true] at h9'
        exact h9'.1
      obtain ⟨t, rfl⟩ := isStr_of h9s
      walk_at "rd"
      refine e_in ?_ (.inr (A.looks _)) rfl (by decide)
      rw [if_neg (by decide)]
      refine ?_
      walk_at "rd"
      refine e_iteB (fun h10 => ?_) (fun h10 => ?_)
      · rw [h10, Bool.true_and] at q
        walk_at "rd"
        refine e_iteB (fun h11 => ?_) (fun h11 => ?_)
        · walk_at "rd"
          rw [if_pos h11] at q
          exact q _ eH
        rw [if_neg (by rw [h11]; decide)] at q
        walk_at "rd"
        refine ⟨_, _, _, _, rfl, wm.ext eH, A.mends _, by decide, ?_⟩
        walk_at "rd"
        refine e_iteB (fun h12 => ?_) (fun h12 => ?_)
        · walk_at "rd"
          rw [if_pos h12] at q
          exact q _ eH
        · walk_at "rd"
          rw [if_neg (by rw [h12]; decide)] at q
          exact q _ eH
      · rw [h10, Bool.false_and, if_neg (by decide)] at q
        walk_at "rd"
        refine ⟨_, _, _, _, rfl, wm.ext eH, A.mends _, by decide, ?_⟩
        walk_at "rd"
        refine e_iteB (fun h12 => ?_) (fun h12 => ?_)
        · walk_at "rd"
          rw [if_pos h12] at q
          exact q _ eH
        · walk_at "rd"
          rw [if_neg (by rw [h12]; decide)] at q
          exact q _ eH
    · by_cases h : -a ≤ d
      · have h' : ¬ d ≤ a + c := fun z => hd ⟨h, z⟩
        rw [if_pos (by show (!(decide (-a ≤ d) && decide (d ≤ a + c))) = true; rw [decide_eq_false h', Bool.and_false]; rfl)] at q
        rw [decide_eq_true h]
        walk_at "rd"
        rw [decide_eq_false h']
        walk_at "rd"
        exact q _ eH
      · rw [if_pos (by show (!(decide (-a ≤ d) && decide (d ≤ a + c))) = true; rw [decide_eq_false h]; rfl)] at q
        rw [decide_eq_false h]
        walk_at "rd"
        exact q _ eH
  · by_cases h : 1 ≤ a
    · have h' : ¬ a ≤ 5 := fun z => ha ⟨h, z⟩
      rw [if_pos (by show (!(decide (1 ≤ a) && decide (a ≤ 5))) = true; rw [decide_eq_false h', Bool.and_false]; rfl)] at q
      rw [decide_eq_true h]
      walk_at "rd"
      rw [decide_eq_false h']
      walk_at "rd"
      exact q _ eH
    · rw [if_pos (by show (!(decide (1 ≤ a) && decide (a ≤ 5))) = true; rw [decide_eq_false h]; rfl)] at q
      rw [decide_eq_false h]
      walk_at "rd"
      exact q _ eH
end FWL
namespace FWL
open PySem PySem.Spec PyProof.Rows L2 FW
/-! ### the check of a number -/
abbrev clsN (K : PySem.W.Frag) : Value := .ref (He.ga K "BadNumber")
def sp_check_numberX (K : PySem.W.Frag) : Sp := fun vs H Q E => ∃ (v : V) (n : String), vs = [v] ∧ WT K H v n ∧ (fromI v 0 = true → Q .non H) ∧ (fromI v 0 = false → ∀ d, H d = none → E (clsN K) (some d) (upd H d (.xd [("value", v)])))
def rd_check_numberX (K : PySem.W.Frag) (E : XK) : TS := tIfS (tNot (tB (tCall (sp_is_whole_from K) [] E0 (tCons (tVar 0) (tCons (tC (.int 0)) (tNil)))))) (FW.tRaiseE (He.ga K "BadNumber") "value" (fun cls d _ H => E cls d H) (tCons (tVar 0) (tNil))) (tNext)
theorem pure_check_numberX (K : PySem.W.Frag) (vs : List V) (H : Hp) (Q : VK) (E : XK) (h : sp_check_numberX K vs H Q E) : rd_check_numberX K E { nx := fun _ H' => Q .non H', rt := Q } (start ["n"] vs) H := by
  obtain ⟨v, n, rfl, hv, q1, q2⟩ := h
  unfold rd_check_numberX
  walk_at "rd"
  refine ⟨v, n, 0, rfl, hv, ?_⟩
  walk_at "rd"
  cases hb : fromI v 0 with
  | true =>
    walk_at "rd"
    exact q1 hb
  | false =>
    walk_at "rd"
    unfold tRaiseE tMkE
    walk_at "rd"
    exact ⟨v, rfl, q2 hb⟩
theorem fromI_of {v : V} {l : Int} (h : fromI v l = true) : ∃ i, v = .int i ∧ l ≤ i := by
  cases v <;> first | (simp [fromI, isInt] at h; done) | skip
  rename_i i
  exact ⟨i, rfl, of_decide_eq_true h⟩
theorem fromI_int {i l : Int} (h : l ≤ i) : fromI (.int i) l = true := by simp [fromI, isInt, iv, h]
theorem e_byE {C : Addr} {f : Str} {a : Addr} {cls : Value} {d : Option Addr} {te : TE} {σ : L2.St} {H : Hp} {Q : VK} (k : te σ H fun x H1 => x = .ref a ∧ cls = .ref C ∧ ∃ (dd : Addr) (v : V), d = some dd ∧ H1 dd = some (.xd [(f, v)]) ∧ Q v H1) : tByE C f a cls d te σ H Q := k
abbrev clsS (K : PySem.W.Frag) : Value := .ref (He.ga K "BadStart")
def sp_check_startX (K : PySem.W.Frag) : Sp := fun vs H Q E => ∃ (v : V) (n : String), vs = [v] ∧ WT K H v n ∧ (fromI v 1 = true → Q .non H) ∧ (fromI v 1 = false → ∀ d, H d = none → E (clsS K) (some d) (upd H d (.xd [("value", v)])))
def rd_check_startX (K : PySem.W.Frag) (E : XK) : TS := tIfS (tNot (tB (tCall (sp_is_whole_from K) [] E0 (tCons (tVar 0) (tCons (tC (.int 1)) (tNil)))))) (FW.tRaiseE (He.ga K "BadStart") "value" (fun cls d _ H => E cls d H) (tCons (tVar 0) (tNil))) (tNext)
theorem pure_check_startX (K : PySem.W.Frag) (vs : List V) (H : Hp) (Q : VK) (E : XK) (h : sp_check_startX K vs H Q E) : rd_check_startX K E { nx := fun _ H' => Q .non H', rt := Q } (start ["x"] vs) H := by
  obtain ⟨v, n, rfl, hv, q1, q2⟩ := h
  unfold rd_check_startX
  walk_at "rd"
  refine ⟨v, n, 1, rfl, hv, ?_⟩
  walk_at "rd"
  cases hb : fromI v 1 with
  | true =>
    walk_at "rd"
    exact q1 hb
  | false =>
    walk_at "rd"
    unfold tRaiseE tMkE
    walk_at "rd"
    exact ⟨v, rfl, q2 hb⟩
end FWL
namespace FWL
open PySem PySem.Spec PyProof.Rows L2 FW
/-! ### a stream: three ints; n bounds the draws so far -/
def Strm (H : Hp) (p : Addr) (n : Nat) : Prop := ∃ a b c : Int, H p = some (.lst [.int a, .int b, .int c]) ∧ 0 ≤ a ∧ 0 ≤ b ∧ b < 2 ^ 40 ∧ 0 ≤ c ∧ c ≤ n
theorem Strm.mono {H : Hp} {p : Addr} {n m : Nat} (h : Strm H p n) (l : n ≤ m) : Strm H p m := by
  obtain ⟨a, b, c, h1, h2, h3, h4, h5, h6⟩ := h
  exact ⟨a, b, c, h1, h2, h3, h4, h5, by omega⟩
theorem Strm.ext {H H' : Hp} {p : Addr} {n : Nat} (h : Strm H p n) (e : Ext H H') : Strm H' p n := by
  obtain ⟨a, b, c, h1, h2⟩ := h
  exact ⟨a, b, c, e _ _ h1, h2⟩
theorem Strm.ne {H : Hp} {p q : Addr} {n : Nat} (h : Strm H p n) (e : H q = none) : q ≠ p := by
  obtain ⟨a, b, c, h1, h2⟩ := h
  exact (ne_of_none h1 e).symm
def sp_l_stream (K : PySem.W.Frag) : Sp := fun vs H Q _ => ∃ (a : Addr) (ns : List Int) (k : Int), vs = [.ref a, .int k] ∧ SqL K H a (ns.map V.int) ∧ 0 ≤ k ∧ k < 1000 ∧
  ∀ p H', H p = none → Ext H H' → Strm H' p 0 → Q (.ref p) H'
def sp_l_draw (K : PySem.W.Frag) : Sp := fun vs H Q _ => ∃ (p : Addr) (many : Int) (n : Nat), vs = [.ref p, .int many] ∧ Strm H p n ∧ n < 1000000 ∧ 0 < many ∧ many.natAbs.log2 < 9000 ∧
  ∀ d H', 0 ≤ d → d < many → ExtB p H H' → Strm H' p (n + 1) → Q (.int d) H'
def sp_l_pick (K : PySem.W.Frag) : Sp := fun vs H Q _ => ∃ (p q : Addr) (xs : List V) (n : Nat), vs = [.ref p, .ref q] ∧ Strm H p n ∧ n < 1000000 ∧ q ≠ p ∧ H q = some (.lst xs) ∧ xs ≠ [] ∧ xs.length < 1000 ∧
  ∀ v H', v ∈ xs → ExtB p H H' → Strm H' p (n + 1) → Q v H'
def rd_l_stream (K : PySem.W.Frag) : TS := tSeq (tAsg (tIf (tTest (tOp FW.rLt (tVar 1) (tCB (Evl.rLenS K) (tCons (tVar 0) (tNil))))) (tCB FW.rAbs (tCons (tOp (rIxL K) (tVar 0) (tVar 1)) (tNil))) (tC (.int 0))) (gName 2)) (tRet (tLst (tCons (tIf (tTest (tOp FW.rGe (tVar 2) (tOp FW.rPow (tC (.int 10)) (tC (.int 18))))) (tVar 2) (tC (.int 0))) (tCons (tOp FW.rAdd (tOp FW.rMod (tCB FW.rInt1 (tCons (tVar 2) (tNil))) (tC (.int 2147483647))) (tOp FW.rMul (tC (.int 31)) (tVar 1))) (tCons (tC (.int 0)) (tNil))))))
def rd_l_draw (K : PySem.W.Frag) : TS := tSeq (tIfS (tTest (tOp FW.rGt (tOp (rIxL K) (tVar 0) (tC (.int 0))) (tC (.int 0)))) (tSeq (tAsg (tOp FW.rMod (tCB FW.rInt1 (tCons (tOp (rIxL K) (tVar 0) (tC (.int 0))) (tNil))) (tVar 1)) (gName 2)) (tSeq (tAsg (tOp FW.rDiv (tOp (rIxL K) (tVar 0) (tC (.int 0))) (tVar 1)) (gSub (tVar 0) (tC (.int 0)) rSetL)) (tRet (tVar 2)))) (tNext)) (tSeq (tAsg (tOp FW.rAdd (tOp (rIxL K) (tVar 0) (tC (.int 2))) (tC (.int 1))) (gSub (tVar 0) (tC (.int 2)) rSetL)) (tSeq (tAsg (tOp FW.rMod (tOp FW.rPow (tCB FW.rInt1 (tCons (tOp FW.rAdd (tOp FW.rAdd (tOp (rIxL K) (tVar 0) (tC (.int 1))) (tOp FW.rMul (tC (.int 7919)) (tOp (rIxL K) (tVar 0) (tC (.int 2))))) (tC (.int 104729))) (tNil))) (tC (.int 5))) (tC (.int 2147483647))) (gName 3)) (tRet (tOp FW.rMod (tOp FW.rDiv (tOp FW.rMod (tCB FW.rInt1 (tCons (tOp FW.rMul (tOp FW.rAdd (tVar 3) (tOp (rIxL K) (tVar 0) (tC (.int 2)))) (tC (.int 40692))) (tNil))) (tC (.int 2147483629))) (tC (.int 7))) (tVar 1)))))
def rd_l_pick (K : PySem.W.Frag) : TS := tRet (tOp (rIxL K) (tVar 1) (tCall (sp_l_draw K) [] E0 (tCons (tVar 0) (tCons (tCB (Evl.rLenS K) (tCons (tVar 1) (tNil))) (tNil)))))
theorem at_map {ns : List Int} {k : Int} (h0 : 0 ≤ k) (h : k < (ns.length : Int)) : ∃ i, atI (ns.map V.int) k = some (.int i) := by
  obtain ⟨k, rfl⟩ := Int.eq_ofNat_of_zero_le h0
  have hk : k < ns.length := by omega
  refine ⟨ns[k], atI_nat ?_⟩
  rw [List.getElem?_map, List.getElem?_eq_getElem hk]
  rfl
theorem pure_l_stream (K : PySem.W.Frag) (vs : List V) (H : Hp) (Q : VK) (E : XK) (h : sp_l_stream K vs H Q E) : rd_l_stream K { nx := fun _ H' => Q .non H', rt := Q } (start ["_law_script", "_law_k", "_law_cell"] vs) H := by
  obtain ⟨a, ns, k, rfl, hS, h0, hk, q⟩ := h
  have fin : ∀ cell : Int, 0 ≤ cell → (tRet (tLst (tCons (tIf (tTest (tOp FW.rGe (tVar 2) (tOp FW.rPow (tC (.int 10)) (tC (.int 18))))) (tVar 2) (tC (.int 0))) (tCons (tOp FW.rAdd (tOp FW.rMod (tCB FW.rInt1 (tCons (tVar 2) (tNil))) (tC (.int 2147483647))) (tOp FW.rMul (tC (.int 31)) (tVar 1))) (tCons (tC (.int 0)) (tNil)))))) { nx := fun _ H' => Q .non H', rt := Q } [some (.ref a), some (.int k), some (.int cell)] H := by
    intro cell hc
    have hm : 0 ≤ cell % 2147483647 := Int.emod_nonneg _ (by decide)
    have hm2 : cell % 2147483647 < 2147483647 := Int.emod_lt_of_pos _ (by decide)
    walk_at "rd"
    · refine e_ite (fun h => ?_) (fun h => ?_)
      · walk_at "rd"
        · refine ⟨by show 3 ≤ sizeLine; decide, fun p hp => q p _ hp (Ext.new hp) ⟨_, _, _, upd_same, hc, by omega, by omega, by decide, by decide⟩⟩
        · exact wide_mul (a := 10) (b := 10) (by decide) (by omega) (by decide) (by decide) (by decide)
        · decide
      · walk_at "rd"
        · refine ⟨by show 3 ≤ sizeLine; decide, fun p hp => q p _ hp (Ext.new hp) ⟨_, _, _, upd_same, by decide, by omega, by omega, by decide, by decide⟩⟩
        · exact wide_mul (a := 10) (b := 10) (by decide) (by omega) (by decide) (by decide) (by decide)
        · decide
    · exact ⟨by decide, by decide, by decide⟩
  unfold rd_l_stream
  walk_at "rd"
  refine e_len ?_ (.inl hS)
  walk_at "rd"
  refine e_ite (fun h => ?_) (fun h => ?_)
  · rw [List.length_map] at h
    obtain ⟨i, hi⟩ := at_map h0 h
    walk_at "rd"
    refine e_ixL ?_ hS hi
    walk_at "re"
    exact fin (if i < 0 then -i else i) (by split <;> omega)
  · walk_at "re"
    exact fin 0 (by decide)
theorem pure_l_draw (K : PySem.W.Frag) (vs : List V) (H : Hp) (Q : VK) (E : XK) (h : sp_l_draw K vs H Q E) : rd_l_draw K { nx := fun _ H' => Q .non H', rt := Q } (start ["_law_stream_here", "_law_many", "_law_digit", "_law_spread"] vs) H := by
  obtain ⟨p, many, n, rfl, ⟨a, b, c, hp, ha, hb, hb2, hc, hcn⟩, hn, hm, hml, q⟩ := h
  unfold rd_l_draw
  walk_at "rd"
  refine e_ixL ?_ (SqL.of hp) rfl
  walk_at "rd"
  refine e_ite (fun h => ?_) (fun h => ?_)
  · walk_at "rd"
    refine e_ixL ?_ (SqL.of hp) rfl
    walk_at "rd"
    · refine e_ixL ?_ (SqL.of hp) rfl
      walk_at "rd"
      · refine e_setL (m := 0) ?_ hp rfl
        walk_at "rd"
        refine q _ _ (Int.emod_nonneg _ (by omega)) (Int.emod_lt_of_pos _ hm) ExtB.upd ⟨_, _, _, upd_same, Int.ediv_nonneg ha (by omega), hb, hb2, hc, by omega⟩
      · exact ⟨hm, hml⟩
    · exact hm
  · walk_at "rd"
    refine e_ixL ?_ (SqL.of hp) rfl
    walk_at "rd"
    refine e_setL (m := 2) ?_ hp rfl
    have hp' : (upd H p (.lst ([V.int a, V.int b, V.int c].set 2 (.int (c + 1))))) p = some (.lst [.int a, .int b, .int (c + 1)]) := upd_same
    have eB : ExtB p H (upd H p (.lst ([V.int a, V.int b, V.int c].set 2 (.int (c + 1))))) := ExtB.upd
    generalize upd H p (.lst ([V.int a, V.int b, V.int c].set 2 (.int (c + 1)))) = H1 at *
    walk_at "rd"
    refine e_ixL ?_ (SqL.of hp') rfl
    walk_at "rd"
    refine e_ixL ?_ (SqL.of hp') rfl
    walk_at "rd"
    · refine e_ixL ?_ (SqL.of hp') rfl
      have hs : 0 ≤ ((b + 7919 * (c + 1) + 104729) ^ (5 : Int).toNat) % 2147483647 := Int.emod_nonneg _ (by decide)
      have hs2 : ((b + 7919 * (c + 1) + 104729) ^ (5 : Int).toNat) % 2147483647 < 2147483647 := Int.emod_lt_of_pos _ (by decide)
      walk_at "rd"
      · refine q _ _ (Int.emod_nonneg _ (by omega)) (Int.emod_lt_of_pos _ hm) eB ⟨_, _, _, hp', ha, hb, hb2, by omega, by omega⟩
      · exact hm
      · exact ⟨by decide, by decide⟩
      · decide
      · exact wide_mul (a := 60) (b := 20) (by omega) (by decide) (by decide) (by decide) (by decide)
    · decide
    · exact ⟨by decide, by decide, by omega⟩
    · exact wide_mul (a := 20) (b := 40) (by decide) (by omega) (by decide) (by decide) (by decide)
theorem log2_small {n : Nat} (h : n < 1000) : n.log2 < 9000 := by
  have : n.log2 ≤ n := Nat.log2_le_self n
  omega
theorem pure_l_pick (K : PySem.W.Frag) (vs : List V) (H : Hp) (Q : VK) (E : XK) (h : sp_l_pick K vs H Q E) : rd_l_pick K { nx := fun _ H' => Q .non H', rt := Q } (start ["_law_stream_here", "_law_things"] vs) H := by
  obtain ⟨p, a, xs, n, rfl, hS, hn, hne, ha, hx, hl, q⟩ := h
  have h0 : 0 < xs.length := List.length_pos_iff.mpr hx
  unfold rd_l_pick
  walk_at "rd"
  refine e_len ?_ (.inl (SqL.of ha))
  walk_at "rd"
  refine ⟨p, _, n, rfl, hS, hn, by omega, by rw [Int.natAbs_natCast]; exact log2_small hl, fun d H' d0 d1 e s => ?_⟩
  obtain ⟨d, rfl⟩ := Int.eq_ofNat_of_zero_le d0
  have hd : d < xs.length := by omega
  refine e_ixL (v := xs[d]) ?_ (SqL.of (e _ _ hne ha)) (atI_nat (List.getElem?_eq_getElem hd))
  exact q _ _ (List.getElem_mem _) e s
end FWL
namespace FWL
open PySem PySem.Spec PyProof.Rows L2 FW

/-! ### weights -/
def okW (k a c : Int) : Bool := decide (c * (k - 1) ≤ a) && decide (a + c ≤ 6)
def wRow (k a : Int) (cs : List Int) : List (Int × Int) := (cs.filter (okW k a)).map fun c => (a, c)
def wAll (k : Int) : Nat → List (Int × Int)
  | 0 => []
  | n + 1 => wAll k n ++ wRow k (1 + (n : Int)) [1, 2, 3]
def weightsL (k : Int) : List (Int × Int) := wAll k 5
/-- tuples of two ints -/
def Prs (H : Hp) : List V → List (Int × Int) → Prop
  | [], [] => True
  | v :: vs, w :: ws => (∃ t, v = .ref t ∧ H t = some (.tup [.int w.1, .int w.2])) ∧ Prs H vs ws
  | _, _ => False
theorem Prs.ext {H H' : Hp} (e : Ext H H') : ∀ {vs : List V} {ws : List (Int × Int)}, Prs H vs ws → Prs H' vs ws
  | [], [], _ => True.intro
  | _ :: _, _ :: _, ⟨⟨t, h1, h2⟩, r⟩ => ⟨⟨t, h1, e _ _ h2⟩, Prs.ext e r⟩
theorem Prs.upd {H : Hp} {D : Addr} {xs ys : List V} (hD : H D = some (.lst xs)) : ∀ {vs : List V} {ws : List (Int × Int)}, Prs H vs ws → Prs (upd H D (.lst ys)) vs ws
  | [], [], _ => True.intro
  | _ :: _, _ :: _, ⟨⟨t, h1, h2⟩, r⟩ => ⟨⟨t, h1, by rw [upd_ne (ne_of h2 hD (by intro z; cases z))]; exact h2⟩, Prs.upd hD r⟩
theorem Prs.app {H : Hp} : ∀ {vs vs' : List V} {ws ws' : List (Int × Int)}, Prs H vs ws → Prs H vs' ws' → Prs H (vs ++ vs') (ws ++ ws')
  | [], _, [], _, _, h => h
  | _ :: _, _, _ :: _, _, ⟨a, r⟩, h => ⟨a, Prs.app r h⟩
theorem Prs.len {H : Hp} : ∀ {vs : List V} {ws : List (Int × Int)}, Prs H vs ws → vs.length = ws.length
  | [], [], _ => rfl
  | _ :: _, _ :: _, ⟨_, r⟩ => congrArg Nat.succ (Prs.len r)
theorem Prs.mem {H : Hp} {v : V} : ∀ {vs : List V} {ws : List (Int × Int)}, Prs H vs ws → v ∈ vs → ∃ w ∈ ws, ∃ t, v = .ref t ∧ H t = some (.tup [.int w.1, .int w.2])
  | [], [], _, h => by cases h
  | x :: xs, w :: ws, ⟨a, r⟩, h => by
    rcases List.mem_cons.mp h with rfl | h
    · exact ⟨w, List.mem_cons_self, a⟩
    · obtain ⟨w', m, q⟩ := Prs.mem r h
      exact ⟨w', List.mem_cons_of_mem _ m, q⟩
theorem wRow_snoc (k a c : Int) (cs : List Int) : wRow k a (cs ++ [c]) = if okW k a c = true then wRow k a cs ++ [(a, c)] else wRow k a cs := by
  unfold wRow
  rw [List.filter_append]
  cases h : okW k a c <;> simp [List.filter_cons, h]
theorem wRow_len (k a : Int) (cs : List Int) : (wRow k a cs).length ≤ cs.length := by
  unfold wRow
  rw [List.length_map]
  exact List.length_filter_le _ _
theorem wAll_len (k : Int) : ∀ n, (wAll k n).length ≤ 3 * n
  | 0 => by simp [wAll]
  | n + 1 => by
    have := wAll_len k n
    have := wRow_len k (1 + (n : Int)) [1, 2, 3]
    simp only [wAll, List.length_append, List.length_cons, List.length_nil] at *
    omega
def sp_l_weights (K : PySem.W.Frag) : Sp := fun vs H Q _ => ∃ k : Int, vs = [.int k] ∧ 2 ≤ k ∧ k ≤ 4 ∧
  ∀ l ts H', H l = none → Ext H H' → H' l = some (.lst ts) → Prs H' ts (weightsL k) → Q (.ref l) H'
def rd_l_weights_L1 (K : PySem.W.Frag) : TS := tDrop (tBM K "list" rExtend (tVar 1) (tCons (tLc (iTup K (tTup (tCons (tC (.int 1)) (tCons (tC (.int 2)) (tCons (tC (.int 3)) (tNil)))))) (gName 3) (tAnd (tTest (tOp FW.rGe (tVar 2) (tOp FW.rMul (tVar 3) (tOp FW.rSub (tVar 0) (tC (.int 1)))))) (tTest (tOp FW.rLe (tOp FW.rAdd (tVar 2) (tVar 3)) (tC (.int 6))))) (tTup (tCons (tVar 2) (tCons (tVar 3) (tNil)))) [3]) (tNil)))
def rd_l_weights (K : PySem.W.Frag) : TS := tSeq (tAsg (tLst (tNil)) (gName 1)) (tSeq (tFor (iRng2 (tCons (tC (.int 1)) (tCons (tC (.int 6)) (tNil)))) (gName 2) (rd_l_weights_L1 K)) (tRet (tVar 1)))
theorem pure_l_weights (K : PySem.W.Frag) (vs : List V) (H : Hp) (Q : VK) (E : XK) (h : sp_l_weights K vs H Q E) : rd_l_weights K { nx := fun _ H' => Q .non H', rt := Q } (start ["_law_k", "_law_found", "_law_a", "_law_c"] vs) H := by
  obtain ⟨k, rfl, h2, h4, q⟩ := h
  unfold rd_l_weights
  walk_at "rd"
  refine ⟨by decide, fun l hl => ?_⟩
  walk_at "rd"
  · refine for_range (lo := 1) (n := 5) (fun i σ H' => Ext H H' ∧ (∃ ts, H' l = some (.lst ts) ∧ Prs H' ts (wAll k i)) ∧ ∃ u v, σ = [some (.int k), some (.ref l), u, v]) ⟨Ext.new hl, ⟨[], upd_same, True.intro⟩, _, _, rfl⟩ ?_ ?_
    · rintro i σ H' hi ⟨e, ⟨ts, hts, hp⟩, u, v, rfl⟩
      have hlen := hp.len
      have hwl := wAll_len k i
      walk_at "re"
      unfold rd_l_weights_L1
      walk_at "rd"
      refine ⟨.inl ⟨rfl, _, SqL.of hts⟩, ?_⟩
      walk_at "rd"
      refine ⟨by decide, fun c hc => ?_⟩
      have eC : Ext H' (upd H' c (.tup [.int 1, .int 2, .int 3])) := Ext.new hc
      have hC : (upd H' c (.tup [.int 1, .int 2, .int 3])) c = some (.tup [.int 1, .int 2, .int 3]) := upd_same
      generalize upd H' c (.tup [.int 1, .int 2, .int 3]) = H1 at *
      refine i_tup' [.int 1, .int 2, .int 3] ?_ (SqT.of hC)
      intro D hD
      refine lc_tup (xs := [.int 1, .int 2, .int 3]) (fun j H2 => Ext H1 H2 ∧ ∃ as, H2 D = some (.lst as) ∧ Prs H2 as (wRow k (1 + (i : Int)) ([(1 : Int), 2, 3].take j))) ⟨Ext.new hD, [], upd_same, True.intro⟩ (fun j H2 _ p => SqT.of (p.1 _ _ hC)) ?_ ?_
      · rintro j x H2 hx ⟨e2, as, has, hpr⟩
        have hal : as.length ≤ 3 := by
          rw [hpr.len]
          exact Nat.le_trans (wRow_len _ _ _) (by rw [List.length_take]; exact Nat.min_le_right _ _)
        obtain ⟨c0, hc0, rfl, hb⟩ : ∃ c0 : Int, [(1 : Int), 2, 3].take (j + 1) = [(1 : Int), 2, 3].take j ++ [c0] ∧ x = .int c0 ∧ 1 ≤ c0 ∧ c0 ≤ 3 := by
          match j, hx with
          | 0, hx => exact ⟨1, rfl, (Option.some.inj hx).symm, by decide, by decide⟩
          | 1, hx => exact ⟨2, rfl, (Option.some.inj hx).symm, by decide, by decide⟩
          | 2, hx => exact ⟨3, rfl, (Option.some.inj hx).symm, by decide, by decide⟩
          | (n + 3), hx => simp at hx
        have fin : ∀ b : Bool, okW k (1 + (i : Int)) c0 = b → (if b = true then tTup (tCons (tVar 2) (tCons (tVar 3) tNil)) [some (.int k), some (.ref l), some (.int (1 + (i : Int))), some (.int c0)] H2 fun y H4 => ∃ acc, H4 D = some (.lst acc) ∧ acc.length < sizeLine ∧ (Ext H1 (L2.upd H4 D (.lst (acc ++ [y]))) ∧ ∃ as, (L2.upd H4 D (.lst (acc ++ [y]))) D = some (.lst as) ∧ Prs (L2.upd H4 D (.lst (acc ++ [y]))) as (wRow k (1 + (i : Int)) ([(1 : Int), 2, 3].take (j + 1)))) else (Ext H1 H2 ∧ ∃ as, H2 D = some (.lst as) ∧ Prs H2 as (wRow k (1 + (i : Int)) ([(1 : Int), 2, 3].take (j + 1))))) := by
          intro b hb'
          rw [hc0, wRow_snoc, hb']
          cases b with
          | true =>
            rw [if_pos rfl, if_pos rfl]
            walk_at "rd"
            refine ⟨by show 2 ≤ sizeLine; decide, fun t ht => ⟨as, (Ext.new ht) _ _ has, Nat.lt_of_le_of_lt hal (by decide), (e2.tr (Ext.new ht)).upds hD, _, upd_same, ?_⟩⟩
            refine Prs.upd ((Ext.new ht) _ _ has) (Prs.app (hpr.ext (Ext.new ht)) ⟨⟨t, rfl, upd_same⟩, True.intro⟩)
          | false =>
            rw [if_neg (by decide), if_neg (by decide)]
            exact ⟨e2, as, has, hpr⟩
        walk_at "re"
        refine ⟨rfl, ?_⟩
        walk_at "re"
        · refine e_ite (fun h1 => ?_) (fun h1 => ?_)
          · walk_at "re"
            exact fin _ (by unfold okW; rw [decide_eq_true h1, Bool.true_and])
          · exact fin false (by unfold okW; rw [decide_eq_false h1, Bool.false_and])
        · exact wide_mul (a := 10) (b := 10) (by omega) (by omega) (by decide) (by decide) (by decide)
      · rintro H2 ⟨e2, as, has, hpr⟩
        have el : H2 l = some (.lst ts) := e2 _ _ (eC _ _ hts)
        have hne : D ≠ l := ((ne_of_none (eC _ _ hts) hD)).symm
        refine ⟨l, D, ts, as, rfl, rfl, el, has, ?_, ?_⟩
        · have hpr' : Prs H2 as (wRow k (1 + (i : Int)) [1, 2, 3]) := hpr
          have := hpr'.len
          have := wRow_len k (1 + (i : Int)) [1, 2, 3]
          simp only [List.length_cons, List.length_nil] at *
          exact Nat.le_trans (show ts.length + as.length ≤ 100 by omega) (by decide)
        · walk_at "rd"
          refine ⟨((e.tr eC).tr e2).upds hl, ⟨_, upd_same, ?_⟩, _, _, rfl⟩
          exact Prs.upd el (Prs.app ((hp.ext eC).ext e2) hpr)
    · rintro σ H' ⟨e, ⟨ts, hts, hp⟩, u, v, rfl⟩
      walk_at "rd"
      exact q _ _ _ hl e hts hp
  · decide
theorem weights_ok {k : Int} (h2 : 2 ≤ k) (h4 : k ≤ 4) : ∀ w ∈ weightsL k, 1 ≤ w.2 ∧ w.2 ≤ 3 ∧ w.2 * (k - 1) ≤ w.1 ∧ w.1 + w.2 ≤ 6 ∧ 1 ≤ w.1 ∧ w.1 ≤ 5 := by
  have : k = 2 ∨ k = 3 ∨ k = 4 := by omega
  rcases this with rfl | rfl | rfl <;> decide
theorem weights_ne {k : Int} (h2 : 2 ≤ k) (h4 : k ≤ 4) : weightsL k ≠ [] ∧ (weightsL k).length ≤ 15 := by
  have : k = 2 ∨ k = 3 ∨ k = 4 := by omega
  rcases this with rfl | rfl | rfl <;> decide
end FWL
namespace FWL
open PySem PySem.Spec PyProof.Rows L2 FW

/-! ### a loop's parts -/
structure Lp where
  k : Int
  a : Int
  c : Int
  d : Int
  stop : Str
  told : Str
  mend : Str
structure Lp.Ok (l : Lp) : Prop where
  hk : l.k = 2 ∨ l.k = 3 ∨ l.k = 4
  a1 : 1 ≤ l.a
  a5 : l.a ≤ 5
  c1 : 1 ≤ l.c
  c3 : l.c ≤ 3
  ca : l.c * (l.k - 1) ≤ l.a
  ac : l.a + l.c ≤ 6
  d0 : -l.a ≤ l.d
  d1 : l.d ≤ l.a + l.c
  hs : V.str l.stop ∈ stopsV
  ht : V.str l.told ∈ toldsV
  hl : V.str l.stop ∈ looksV → l.told = "old"
  hm : V.str l.mend ∈ mendsV
abbrev Lp.V (l : Lp) : List V := [.int l.k, .int l.a, .int l.c, .int l.d, .str l.stop, .str l.told, .str l.mend]
abbrev Lp.F (l : Lp) : List (Str × L2.V) := [("k", .int l.k), ("a", .int l.a), ("c", .int l.c), ("d", .int l.d), ("stop", .str l.stop), ("told", .str l.told), ("mend", .str l.mend)]
theorem eqV_str (a b : Str) : eqV (.str a) (.str b) = decide (a = b) := by
  show (a == b) = decide (a = b)
  by_cases h : a = b
  · subst h; simp
  · rw [decide_eq_false h]; exact beq_eq_false_iff_ne.mpr h
theorem inV_str (s : Str) : ∀ {xs : List V}, (∀ v ∈ xs, ∃ x, v = V.str x) → inV (.str s) xs = decide (V.str s ∈ xs)
  | [], _ => rfl
  | v :: vs, h => by
    obtain ⟨x, rfl⟩ := h v List.mem_cons_self
    have ih := inV_str s fun v hv => h v (List.mem_cons_of_mem _ hv)
    show (eqV (.str x) (.str s) || inV (.str s) vs) = _
    rw [ih, eqV_str]
    by_cases e : x = s
    · subst e; simp
    · have e' : ¬ s = x := fun z => e z.symm
      simp [e, e']
theorem strs_stops : ∀ v ∈ stopsV, ∃ x, v = V.str x := by
  intro v h
  simp only [stopsV, List.mem_cons, List.not_mem_nil, or_false] at h
  rcases h with rfl | rfl | rfl | rfl | rfl | rfl | rfl <;> exact ⟨_, rfl⟩
theorem strs_tolds : ∀ v ∈ toldsV, ∃ x, v = V.str x := by
  intro v h
  simp only [toldsV, List.mem_cons, List.not_mem_nil, or_false] at h
  rcases h with rfl | rfl | rfl | rfl <;> exact ⟨_, rfl⟩
theorem strs_mends : ∀ v ∈ mendsV, ∃ x, v = V.str x := by
  intro v h
  simp only [mendsV, List.mem_cons, List.not_mem_nil, or_false] at h
  rcases h with rfl | rfl | rfl | rfl <;> exact ⟨_, rfl⟩
theorem strs_looks : ∀ v ∈ looksV, ∃ x, v = V.str x := by
  intro v h
  simp only [looksV, List.mem_cons, List.not_mem_nil, or_false] at h
  rcases h with rfl | rfl <;> exact ⟨_, rfl⟩
theorem Lp.Ok.right {l : Lp} (o : l.Ok) : wrongP (.int l.k) (.int l.a) (.int l.c) (.int l.d) (.str l.stop) (.str l.told) (.str l.mend) = .non := by
  have h1 : inV (.int l.k) [.int 2, .int 3, .int 4] = true := by
    rcases o.hk with e | e | e <;> rw [e] <;> decide
  have h2 : wordOf (.str l.stop) stopsV = true := by
    show (true && inV (.str l.stop) stopsV) = true
    rw [Bool.true_and, inV_str _ strs_stops]; exact decide_eq_true o.hs
  have h3 : wordOf (.str l.told) toldsV = true := by
    show (true && inV (.str l.told) toldsV) = true
    rw [Bool.true_and, inV_str _ strs_tolds]; exact decide_eq_true o.ht
  have h4 : wordOf (.str l.mend) mendsV = true := by
    show (true && inV (.str l.mend) mendsV) = true
    rw [Bool.true_and, inV_str _ strs_mends]; exact decide_eq_true o.hm
  have h5 : (inV (.str l.stop) looksV && !decide (V.str l.told = .str "old")) = false := by
    rw [inV_str _ strs_looks]
    by_cases h : V.str l.stop ∈ looksV
    · rw [o.hl h]; simp
    · simp [h]
  have a1 := o.a1; have a5 := o.a5; have c1 := o.c1; have ca := o.ca; have ac := o.ac; have d0 := o.d0; have d1 := o.d1
  have e3 : ((decide (l.a < l.c * (l.k - 1)) || decide (6 < l.a + l.c))) = false := by
    rw [decide_eq_false (by omega), decide_eq_false (by omega)]; rfl
  have e1 : (decide (1 ≤ l.a) && decide (l.a ≤ 5)) = true := by rw [decide_eq_true a1, decide_eq_true a5]; rfl
  have e2 : (decide (-l.a ≤ l.d) && decide (l.d ≤ l.a + l.c)) = true := by rw [decide_eq_true d0, decide_eq_true d1]; rfl
  have e4 : fromI (.int l.c) 1 = true := by show (true && decide (1 ≤ l.c)) = true; rw [decide_eq_true c1]; rfl
  unfold wrongP
  rw [if_neg (by rw [h1]; show ¬ ((!true || !true) = true); decide), if_neg (by show ¬ ((!true || !(decide (1 ≤ l.a) && decide (l.a ≤ 5))) = true); rw [e1]; decide),
    if_neg (by show ¬ ((!fromI (.int l.c) 1 || (decide (l.a < l.c * (l.k - 1)) || decide (6 < l.a + l.c))) = true); rw [e4, e3]; decide),
    if_neg (by show ¬ ((!true || !(decide (-l.a ≤ l.d) && decide (l.d ≤ l.a + l.c))) = true); rw [e2]; decide),
    if_neg (by rw [h2]; decide), if_neg (by rw [h3, h5]; decide), if_pos h4]
/-- a loop as an object -/
def IsLp (K : PySem.W.Frag) (H : Hp) (x : Addr) (l : Lp) : Prop := ∃ dx, H x = some (.ins (He.ga K "Average") dx l.F)
theorem IsLp.ext {K : PySem.W.Frag} {H H' : Hp} {x : Addr} {l : Lp} (e : Ext H H') : IsLp K H x l → IsLp K H' x l
  | ⟨dx, h⟩ => ⟨dx, e _ _ h⟩
def sp_Average_init (K : PySem.W.Frag) : Sp := fun vs H Q _ => ∃ (x dx : Addr) (l : Lp), vs = .ref x :: l.V ∧ l.Ok ∧ H x = some (.ins (He.ga K "Average") dx []) ∧
  ∀ H', ExtB x H H' → H' x = some (.ins (He.ga K "Average") dx l.F) → Q .non H'
def rd_Average_init (K : PySem.W.Frag) : TS := tSeq (tAsg (tCall (sp_wrong_part K) [] E0 (tCons (tVar 1) (tCons (tVar 2) (tCons (tVar 3) (tCons (tVar 4) (tCons (tVar 5) (tCons (tVar 6) (tCons (tVar 7) (tNil))))))))) (gName 8)) (tSeq (tIfS (tTest (tOp FW.rNotN (tVar 8) (tC .non))) (tNever) (tNext)) (tSeq (sFld K (tVar 0) (tVar 1) "k") (tSeq (sFld K (tVar 0) (tVar 2) "a") (tSeq (sFld K (tVar 0) (tVar 3) "c") (tSeq (sFld K (tVar 0) (tVar 4) "d") (tSeq (sFld K (tVar 0) (tVar 5) "stop") (tSeq (sFld K (tVar 0) (tVar 6) "told") (sFld K (tVar 0) (tVar 7) "mend"))))))))
theorem e_sF {K : PySem.W.Frag} {H : Hp} {a C dx : Addr} {f : Str} {fs : List (Str × V)} {R : Hp → Prop} {y : V} (k : R (upd H a (.ins C dx (putF f y fs)))) (h : H a = some (.ins C dx fs)) (c : Cls K C) (n : NoAttr K C f) (hl : fs.length < 1000) :
    ∃ a' C dx fs, V.ref a = .ref a' ∧ H a' = some (.ins C dx fs) ∧ Cls K C ∧ NoAttr K C f ∧ fs.length < 1000 ∧ R (upd H a' (.ins C dx (putF f y fs))) := ⟨a, C, dx, fs, rfl, h, c, n, hl, k⟩
theorem pure_Average_init (K : PySem.W.Frag) (A : AvK K) (vs : List V) (H : Hp) (Q : VK) (E : XK) (h : sp_Average_init K vs H Q E) : rd_Average_init K { nx := fun _ H' => Q .non H', rt := Q } (start ["self", "k", "a", "c", "d", "stop", "told", "mend", "wrong"] vs) H := by
  obtain ⟨x, dx, l, rfl, o, hx, q⟩ := h
  unfold rd_Average_init
  walk_at "rd"
  refine ⟨_, _, _, _, _, _, _, rfl, ?_, ?_, fun H1 e1 => ?_⟩
  · intro v hv
    simp only [List.mem_cons, List.not_mem_nil, or_false] at hv
    rcases hv with rfl | rfl | rfl | rfl | rfl | rfl | rfl
    · exact ⟨_, WT.i _⟩
    · exact ⟨_, WT.i _⟩
    · exact ⟨_, WT.i _⟩
    · exact ⟨_, WT.i _⟩
    · exact ⟨_, WT.s _⟩
    · exact ⟨_, WT.s _⟩
    · exact ⟨_, WT.s _⟩
  · have := o.c1; have := o.c3
    exact Nat.lt_of_lt_of_le (show (iv (.int l.c)).natAbs < 2 ^ 3 by show l.c.natAbs < 8; omega) (Nat.pow_le_pow_right (by decide) (by decide))
  · rw [o.right]
    walk_at "rd"
    refine e_iteN (fun h => absurd rfl h) (fun _ => ?_)
    walk_at "rd"
    refine e_sF ?_ (e1 _ _ hx) A.cls A.n_k (by decide)
    walk_at "rd"
    refine e_sF ?_ upd_same A.cls A.n_a (by show 1 < 1000; decide)
    walk_at "rd"
    refine e_sF ?_ upd_same A.cls A.n_c (by show 2 < 1000; decide)
    walk_at "rd"
    refine e_sF ?_ upd_same A.cls A.n_d (by show 3 < 1000; decide)
    walk_at "rd"
    refine e_sF ?_ upd_same A.cls A.n_stop (by show 4 < 1000; decide)
    walk_at "rd"
    refine e_sF ?_ upd_same A.cls A.n_told (by show 5 < 1000; decide)
    walk_at "rd"
    refine e_sF ?_ upd_same A.cls A.n_mend (by show 6 < 1000; decide)
    refine q _ ?_ upd_same
    intro a o' ne h
    rw [upd_ne ne, upd_ne ne, upd_ne ne, upd_ne ne, upd_ne ne, upd_ne ne, upd_ne ne]
    exact e1 _ _ h
/-! ### led, step -/
theorem e_fL {K : PySem.W.Frag} {H : Hp} {x : Addr} {l : Lp} {f : Str} {R : V → Prop} {v : V} (k : R v) (A : AvK K) (h : IsLp K H x l) (n : NoAttr K (He.ga K "Average") f) (hl : l.F.lookup f = some v) :
    ∃ a C dx fs v, V.ref x = .ref a ∧ H a = some (.ins C dx fs) ∧ Cls K C ∧ NoAttr K C f ∧ fs.lookup f = some v ∧ R v := by
  obtain ⟨dx, h⟩ := h
  exact ⟨x, _, dx, _, v, rfl, h, A.cls, n, hl, k⟩
/-- the guess to which the step leads -/
def Lp.led (l : Lp) (n x : Int) : Int := (l.a * x + l.c * (n / x ^ (l.k - 1).toNat) + l.d) / (l.a + l.c)
def sp_Average_led (K : PySem.W.Frag) : Sp := fun vs H Q _ => ∃ (p : Addr) (l : Lp) (n x : Int), vs = [.ref p, .int n, .int x] ∧ IsLp K H p l ∧ l.Ok ∧ 1 ≤ x ∧ 0 ≤ n ∧ n.natAbs < 2 ^ 2000 ∧ x.natAbs < 2 ^ 2000 ∧ Q (.int (l.led n x)) H
def rd_Average_led (K : PySem.W.Frag) : TS := tSeq (tAsg (tOp FW.rDiv (tVar 1) (tCall (sp_power K) [] E0 (tCons (tVar 2) (tCons (tOp FW.rSub (tFld K (tVar 0) "k") (tC (.int 1))) (tNil))))) (gName 3)) (tRet (tOp FW.rDiv (tOp FW.rAdd (tOp FW.rAdd (tOp FW.rMul (tFld K (tVar 0) "a") (tVar 2)) (tOp FW.rMul (tFld K (tVar 0) "c") (tVar 3))) (tFld K (tVar 0) "d")) (tOp FW.rAdd (tFld K (tVar 0) "a") (tFld K (tVar 0) "c"))))
theorem pow_pos' {x : Int} (h : 1 ≤ x) : ∀ n : Nat, 1 ≤ x ^ n
  | 0 => by rw [Int.pow_zero]; omega
  | n + 1 => by
    have ih := pow_pos' h n
    rw [Int.pow_succ]
    have : 1 * 1 ≤ x ^ n * x := Int.mul_le_mul ih h (by decide) (by omega)
    simpa using this
theorem ediv_abs {a b : Int} (ha : 0 ≤ a) (hb : 1 ≤ b) : (a / b).natAbs ≤ a.natAbs := by
  have h1 : 0 ≤ a / b := Int.ediv_nonneg ha (by omega)
  have h2 : a / b ≤ a := Int.ediv_le_self _ ha
  omega
theorem pure_Average_led (K : PySem.W.Frag) (A : AvK K) (vs : List V) (H : Hp) (Q : VK) (E : XK) (h : sp_Average_led K vs H Q E) : rd_Average_led K { nx := fun _ H' => Q .non H', rt := Q } (start ["self", "n", "x", "quotient"] vs) H := by
  obtain ⟨p, l, n, x, rfl, hp, o, hx, hn, hnb, hxb, q⟩ := h
  have hk := o.hk; have a1 := o.a1; have a5 := o.a5; have c1 := o.c1; have c3 := o.c3
  have hk1 : 0 ≤ l.k - 1 ∧ l.k - 1 ≤ 3 := by omega
  have hpw := pow_lt hxb (by decide) (l.k - 1).toNat
  have hpp := pow_pos' hx (l.k - 1).toNat
  have hq : (n / x ^ (l.k - 1).toNat).natAbs < 2 ^ 2000 := Nat.lt_of_le_of_lt (ediv_abs hn hpp) hnb
  unfold rd_Average_led
  walk_at "rd"
  refine e_fL ?_ A hp A.n_k rfl
  walk_at "rd"
  refine ⟨x, l.k - 1, 2000, rfl, hk1.1, hxb, by decide, ?_, ?_⟩
  · have : (l.k - 1).toNat + 1 ≤ 4 := by omega
    have := Nat.mul_le_mul_right 2000 this
    omega
  walk_at "rd"
  · refine e_fL ?_ A hp A.n_a rfl
    walk_at "rd"
    · refine e_fL ?_ A hp A.n_c rfl
      walk_at "rd"
      · refine e_fL ?_ A hp A.n_d rfl
        walk_at "rd"
        refine e_fL ?_ A hp A.n_a rfl
        walk_at "rd"
        refine e_fL ?_ A hp A.n_c rfl
        walk_at "rd"
        · exact q
        · refine wide_div (b := 10) (by omega) ?_ (by decide) (by decide)
          show (l.a + l.c).natAbs < 1024
          omega
      · exact wide_mul (a := 10) (b := 2000) (by show l.c.natAbs < 1024; omega) hq (by decide) (by decide) (by decide)
    · exact wide_mul (a := 10) (b := 2000) (by show l.a.natAbs < 1024; omega) hxb (by decide) (by decide) (by decide)
  · refine wide_div (b := (l.k - 1).toNat * 2000 + 1) (by omega) hpw (by omega) ?_
    have : (l.k - 1).toNat ≤ 3 := by omega
    have := Nat.mul_le_mul_right 2000 this
    omega
def sp_Average_step (K : PySem.W.Frag) : Sp := sp_Average_led K
def rd_Average_step (K : PySem.W.Frag) : TS := tSeq (tDrop (tCall (sp_check_number K) [] E0 (tCons (tVar 1) (tNil)))) (tSeq (tDrop (tCall (sp_check_start K) [] E0 (tCons (tVar 2) (tNil)))) (tRet (tMeth (He.ga K "Average") "led" (sp_Average_led K) [] E0 (tVar 0) (tCons (tVar 1) (tCons (tVar 2) (tNil))))))
theorem pure_Average_step (K : PySem.W.Frag) (vs : List V) (H : Hp) (Q : VK) (E : XK) (h : sp_Average_step K vs H Q E) : rd_Average_step K { nx := fun _ H' => Q .non H', rt := Q } (start ["self", "n", "x"] vs) H := by
  obtain ⟨p, l, n, x, rfl, hp, o, hx, hn, hnb, hxb, q⟩ := h
  unfold rd_Average_step
  walk_at "rd"
  refine ⟨_, rfl, hn, ?_⟩
  walk_at "rd"
  refine ⟨_, rfl, hx, ?_⟩
  walk_at "rd"
  have hp' := hp
  obtain ⟨dx, hp'⟩ := hp'
  refine ⟨p, dx, _, rfl, hp', rfl, ?_⟩
  walk_at "rd"
  exact ⟨p, l, n, x, rfl, hp, o, hx, hn, hnb, hxb, q⟩
/-! ### parts drawn -/
theorem Strm.neT {H : Hp} {p t : Addr} {n : Nat} {xs : List V} (h : Strm H p n) (ht : H t = some (.tup xs)) : t ≠ p := by
  obtain ⟨a, b, c, h1, _⟩ := h
  exact ne_of ht h1 (by intro z; cases z)
theorem ExtB.non {p t : Addr} {H H' : Hp} {n : Nat} (e : ExtB p H H') (s : Strm H' p n) (h : H' t = none) : H t = none := by
  cases q : H t with
  | none => rfl
  | some o => rw [e t o (s.ne h) q] at h; cases h
def sp_l_parts (K : PySem.W.Frag) : Sp := fun vs H Q _ => ∃ (p : Addr) (n : Nat), vs = [.ref p] ∧ Strm H p n ∧ n + 10 < 1000000 ∧
  ∀ t l H', l.Ok → H t = none → ExtB p H H' → Strm H' p (n + 7) → H' t = some (.tup (Lp.V l)) → Q (.ref t) H'
def rd_l_parts (K : PySem.W.Frag) : TS := tSeq (tAsg (tOp FW.rAdd (tC (.int 2)) (tCall (sp_l_draw K) [] E0 (tCons (tVar 0) (tCons (tC (.int 3)) (tNil))))) (gName 1)) (tSeq (tAsg (tCall (sp_l_pick K) [] E0 (tCons (tVar 0) (tCons (tCall (sp_l_weights K) [] E0 (tCons (tVar 1) (tNil))) (tNil)))) (gTup K 2 (gCons (gName 2) (gCons (gName 3) (gNil))))) (tSeq (tAsg (tCall (sp_l_pick K) [] E0 (tCons (tVar 0) (tCons (tLst (tCons (tC (.int 0)) (tCons (tC (.int 0)) (tCons (tC (.int 1)) (tCons (tOp FW.rSub (tVar 3) (tC (.int 1))) (tCons (tVar 3) (tCons (tUn FW.rNeg (tC (.int 1))) (tCons (tOp FW.rSub (tCall (sp_l_draw K) [] E0 (tCons (tVar 0) (tCons (tOp FW.rAdd (tOp FW.rAdd (tOp FW.rMul (tC (.int 2)) (tVar 2)) (tVar 3)) (tC (.int 1))) (tNil)))) (tVar 2)) (tNil))))))))) (tNil)))) (gName 4)) (tSeq (tAsg (tCall (sp_l_pick K) [] E0 (tCons (tVar 0) (tCons (tLst (tCons (tC (.str "notless")) (tCons (tC (.str "equal")) (tCons (tC (.str "near1")) (tCons (tC (.str "near2")) (tCons (tC (.str "back")) (tCons (tC (.str "under")) (tCons (tC (.str "held")) (tNil))))))))) (tNil)))) (gName 5)) (tSeq (tAsg (tCall (sp_l_pick K) [] E0 (tCons (tVar 0) (tCons (tLst (tCons (tC (.str "old")) (tCons (tC (.str "new")) (tCons (tC (.str "less")) (tCons (tC (.str "more")) (tNil)))))) (tNil)))) (gName 6)) (tSeq (tAsg (tCall (sp_l_pick K) [] E0 (tCons (tVar 0) (tCons (tLst (tCons (tC (.str "none")) (tCons (tC (.str "none")) (tCons (tC (.str "down")) (tCons (tC (.str "up")) (tCons (tC (.str "both")) (tNil))))))) (tNil)))) (gName 7)) (tRet (tTup (tCons (tVar 1) (tCons (tVar 2) (tCons (tVar 3) (tCons (tVar 4) (tCons (tVar 5) (tCons (tIf (tTest (tOp (rIn K false) (tVar 5) (tTup (tCons (tC (.str "under")) (tCons (tC (.str "held")) (tNil)))))) (tC (.str "old")) (tVar 6)) (tCons (tVar 7) (tNil)))))))))))))))
theorem pure_l_parts (K : PySem.W.Frag) (vs : List V) (H : Hp) (Q : VK) (E : XK) (h : sp_l_parts K vs H Q E) : rd_l_parts K { nx := fun _ H' => Q .non H', rt := Q } (start ["_law_stream_here", "_law_k", "_law_a", "_law_c", "_law_d", "_law_stop", "_law_told", "_law_mend"] vs) H := by
  obtain ⟨p, n, rfl, hS, hn, q⟩ := h
  unfold rd_l_parts
  walk_at "rd"
  refine ⟨p, 3, n, rfl, hS, by omega, by decide, by decide, fun d H1 d0 d1 e1 s1 => ?_⟩
  walk_at "rd"
  refine ⟨2 + d, rfl, by omega, by omega, fun l ts H2 hl e2 hts hpr => ?_⟩
  obtain ⟨w1, w2⟩ := weights_ne (k := 2 + d) (by omega) (by omega)
  have hlen := hpr.len
  walk_at "rd"
  refine ⟨p, l, ts, n + 1, rfl, s1.ext e2, by omega, s1.ne hl, hts, ?_, by omega, fun v H3 hv e3 s3 => ?_⟩
  · intro z; rw [z] at hlen; exact w1 (List.length_eq_zero_iff.mp hlen.symm)
  obtain ⟨⟨a, c⟩, hw, t, rfl, ht⟩ := hpr.mem hv
  obtain ⟨c1, c3, ca, ac, a1, a5⟩ := weights_ok (k := 2 + d) (by omega) (by omega) _ hw
  dsimp only at c1 c3 ca ac a1 a5 ht
  refine g_tup ?_ (SqT.of (e3 _ _ ((s1.ext e2).neT ht) ht)) rfl
  walk_at "rd"
  · refine ⟨p, 2 * a + c + 1, n + 2, rfl, s3, by omega, by omega, log2_small (by omega), fun d' H4 d0' d1' e4 s4 => ?_⟩
    walk_at "rd"
    refine ⟨by show 7 ≤ sizeLine; decide, fun ql hq => ?_⟩
    walk_at "rd"
    refine ⟨p, ql, _, n + 3, rfl, s4.ext (Ext.new hq), by omega, s4.ne hq, upd_same, by simp, by show 7 < 1000; decide, fun v H5 hv5 e5 s5 => ?_⟩
    obtain ⟨dd, rfl, dd0, dd1⟩ : ∃ dd : Int, v = .int dd ∧ -a ≤ dd ∧ dd ≤ a + c := by
      simp only [List.mem_cons, List.not_mem_nil, or_false] at hv5
      rcases hv5 with rfl | rfl | rfl | rfl | rfl | rfl | rfl
      · exact ⟨_, rfl, by omega, by omega⟩
      · exact ⟨_, rfl, by omega, by omega⟩
      · exact ⟨_, rfl, by omega, by omega⟩
      · exact ⟨_, rfl, by omega, by omega⟩
      · exact ⟨_, rfl, by omega, by omega⟩
      · exact ⟨_, rfl, by omega, by omega⟩
      · exact ⟨_, rfl, by omega, by omega⟩
    walk_at "rd"
    refine ⟨by show 7 ≤ sizeLine; decide, fun q6 hq6 => ?_⟩
    walk_at "rd"
    refine ⟨p, q6, stopsV, n + 4, rfl, s5.ext (Ext.new hq6), by omega, s5.ne hq6, upd_same, by simp [stopsV], by show 7 < 1000; decide, fun v H7 hv7 e7 s7 => ?_⟩
    obtain ⟨ws, rfl⟩ := strs_stops v hv7
    walk_at "rd"
    refine ⟨by show 4 ≤ sizeLine; decide, fun q8 hq8 => ?_⟩
    walk_at "rd"
    refine ⟨p, q8, toldsV, n + 5, rfl, s7.ext (Ext.new hq8), by omega, s7.ne hq8, upd_same, by simp [toldsV], by show 4 < 1000; decide, fun v H9 hv9 e9 s9 => ?_⟩
    obtain ⟨wt, rfl⟩ := strs_tolds v hv9
    walk_at "rd"
    refine ⟨by show 5 ≤ sizeLine; decide, fun q10 hq10 => ?_⟩
    walk_at "rd"
    refine ⟨p, q10, _, n + 6, rfl, s9.ext (Ext.new hq10), by omega, s9.ne hq10, upd_same, by simp, by show 5 < 1000; decide, fun v H11 hv11 e11 s11 => ?_⟩
    obtain ⟨wm, rfl, hwm⟩ : ∃ x, v = .str x ∧ V.str x ∈ mendsV := by
      simp only [List.mem_cons, List.not_mem_nil, or_false] at hv11
      rcases hv11 with rfl | rfl | rfl | rfl | rfl <;> exact ⟨_, rfl, by simp [mendsV]⟩
    walk_at "rd"
    refine ⟨by show 2 ≤ sizeLine; decide, fun q12 hq12 => ?_⟩
    have eB : ExtB p H H11 := e1.tr ((ExtB.of e2).tr (e3.tr (e4.tr ((ExtB.of (Ext.new hq)).tr (e5.tr ((ExtB.of (Ext.new hq6)).tr (e7.tr ((ExtB.of (Ext.new hq8)).tr (e9.tr ((ExtB.of (Ext.new hq10)).tr e11))))))))))
    refine e_in ?_ (.inr (SqT.of upd_same)) rfl rfl
    rw [if_neg (by decide)]
    have fin : ∀ tt : Str, V.str tt ∈ toldsV → (V.str ws ∈ looksV → tt = "old") → ∀ r, (upd H11 q12 (.tup [.str "under", .str "held"])) r = none → Q (.ref r) (upd (upd H11 q12 (.tup [.str "under", .str "held"])) r (.tup [.int (2 + d), .int a, .int c, .int dd, .str ws, .str tt, .str wm])) := by
      intro tt htt hlk r hr
      have s12 : Strm (upd H11 q12 (.tup [.str "under", .str "held"])) p (n + 7) := s11.ext (Ext.new hq12)
      have eB12 : ExtB p H (upd H11 q12 (.tup [.str "under", .str "held"])) := eB.tr (ExtB.of (Ext.new hq12))
      exact q r ⟨2 + d, a, c, dd, ws, tt, wm⟩ _ ⟨by show 2 + d = 2 ∨ 2 + d = 3 ∨ 2 + d = 4; omega, a1, a5, c1, c3, ca, ac, dd0, dd1, hv7, htt, hlk, hwm⟩ (FWL.ExtB.non eB12 s12 hr) (eB12.tr (ExtB.of (Ext.new hr))) (s12.ext (Ext.new hr)) upd_same
    walk_at "rd"
    refine e_iteB (fun hb => ?_) (fun hb => ?_)
    · walk_at "rd"
      exact ⟨by show 7 ≤ sizeLine; decide, fin "old" (by simp [toldsV]) (fun _ => rfl)⟩
    · walk_at "rd"
      refine ⟨by show 7 ≤ sizeLine; decide, fin wt hv9 (fun hx => ?_)⟩
      have e := inV_str ws strs_looks
      rw [decide_eq_true hx] at e
      rw [show inV (V.str ws) [V.str "under", V.str "held"] = inV (V.str ws) looksV from rfl, e] at hb
      cases hb
  · exact wide_mul (a := 10) (b := 10) (by decide) (by omega) (by decide) (by decide) (by decide)
end FWL
namespace FWL
open PySem PySem.Spec PyProof.Rows L2 FW

/-! ### the law's power -/
def sp_l_power (K : PySem.W.Frag) : Sp := sp_power K
def rd_l_power_L1 (K : PySem.W.Frag) : TS := tAsg (tOp FW.rMul (tVar 2) (tVar 0)) (gName 2)
def rd_l_power (K : PySem.W.Frag) : TS := tSeq (tAsg (tC (.int 1)) (gName 2)) (tSeq (tFor (iRng1 (tCons (tVar 1) (tNil))) (gName 3) (rd_l_power_L1 K)) (tRet (tVar 2)))
theorem pure_l_power (K : PySem.W.Frag) (vs : List V) (H : Hp) (Q : VK) (E : XK) (h : sp_l_power K vs H Q E) : rd_l_power K { nx := fun _ H' => Q .non H', rt := Q } (start ["_law_x", "_law_k", "_law_found", "_law_turn"] vs) H := by
  obtain ⟨x, k, b, rfl, hk, hx, hb, hz, q⟩ := h
  unfold rd_l_power
  walk_at "rd"
  refine for_range (lo := 0) (n := k.toNat) (fun i σ H' => H' = H ∧ ∃ v, σ = [some (.int x), some (.int k), some (.int (x ^ i)), v]) ⟨rfl, _, by rw [Int.pow_zero]; rfl⟩ ?_ ?_
  · rintro i σ H' hi ⟨rfl, v, rfl⟩
    walk_at "re"
    unfold rd_l_power_L1
    walk_at "rd"
    · exact ⟨rfl, _, by rw [Int.pow_succ]; rfl⟩
    · refine wide_mul (pow_lt hx hb i) hx (by omega) hb ?_
      have : (i + 1) * b ≤ (k.toNat + 1) * b := Nat.mul_le_mul_right _ (by omega)
      rw [Nat.add_mul] at this
      omega
  · rintro σ H' ⟨rfl, v, rfl⟩
    walk_at "rd"
    exact q
  · have : k.toNat * 1 ≤ k.toNat * b := Nat.mul_le_mul_left _ hb
    rw [Nat.add_mul] at hz
    omega
end FWL
namespace FWL
open PySem PySem.Spec PyProof.Rows L2 FW
/-! ### sizes -/
abbrev Sz (b : Nat) (x : Int) : Prop := x.natAbs < 2 ^ b
theorem Sz.mono {a b : Nat} {x : Int} (h : Sz a x) (l : a ≤ b) : Sz b x := Nat.lt_of_lt_of_le h (Nat.pow_le_pow_right (by decide) l)
theorem Sz.add {a : Nat} {x y : Int} (h : Sz a x) (h' : Sz a y) : Sz (a + 1) (x + y) := by
  show (x + y).natAbs < 2 ^ (a + 1)
  rw [Nat.pow_succ]
  have h1 : x.natAbs < 2 ^ a := h
  have h2 : y.natAbs < 2 ^ a := h'
  omega
theorem Sz.sub {a : Nat} {x y : Int} (h : Sz a x) (h' : Sz a y) : Sz (a + 1) (x - y) := by
  show (x - y).natAbs < 2 ^ (a + 1)
  rw [Nat.pow_succ]
  have h1 : x.natAbs < 2 ^ a := h
  have h2 : y.natAbs < 2 ^ a := h'
  omega
theorem Sz.mul {a b : Nat} {x y : Int} (h : Sz a x) (h' : Sz b y) : Sz (a + b) (x * y) := wide_lt h h'
theorem Sz.of_le {a : Nat} {x y : Int} (h0 : 0 ≤ x) (h : x ≤ y) (hy : Sz a y) : Sz a x := wide_le h0 h hy
theorem Sz.pow {b : Nat} {x : Int} (h : Sz b x) (hb : 0 < b) (n : Nat) : Sz (n * b + 1) (x ^ n) := pow_lt h hb n
theorem Sz.log2 {b : Nat} {x : Int} (h : Sz b x) (hb : 0 < b) (h9 : b ≤ 9000) : x.natAbs.log2 < 9000 := Nat.lt_of_lt_of_le (PySem.Flt.log2_lt_of hb h) h9
theorem Sz.powk {b : Nat} {x k : Int} (h : Sz b x) (hb : 0 < b) (hk : k ≤ 4) : Sz (4 * b + 1) (x ^ k.toNat) :=
  (h.pow hb k.toNat).mono (by have : k.toNat ≤ 4 := by omega
                              have := Nat.mul_le_mul_right b this
                              omega)
theorem pow_room {k : Int} {b : Nat} (hk : k ≤ 4) (hb : b ≤ 1000) : (k.toNat + 1) * b ≤ 900000 := by
  have : k.toNat + 1 ≤ 5 := by omega
  have := Nat.mul_le_mul this hb
  omega
end FWL
namespace FWL
open PySem PySem.Spec PyProof.Rows L2 FW

/-! ### the law's own root: the greatest number whose power is at most n -/
def sp_l_root (K : PySem.W.Frag) : Sp := fun vs H Q _ => ∃ n k : Int, vs = [.int n, .int k] ∧ 0 ≤ n ∧ 1 ≤ k ∧ k ≤ 4 ∧ Sz 2000 n ∧ ∀ (r : Int) H', 0 ≤ r → r ^ k.toNat ≤ n → n < (r + 1) ^ k.toNat → Ext H H' → Q (.int r) H'
def rd_l_root_L1 (K : PySem.W.Frag) : TS := tAsg (tOp FW.rMul (tVar 3) (tC (.int 2))) (gName 3)
def rd_l_root_L2 (K : PySem.W.Frag) : TS := tSeq (tAsg (tOp FW.rDiv (tOp FW.rAdd (tVar 2) (tVar 3)) (tC (.int 2))) (gName 4)) (tIfS (tTest (tOp FW.rLe (tCall (sp_l_power K) [] E0 (tCons (tVar 4) (tCons (tVar 1) (tNil)))) (tVar 0))) (tAsg (tVar 4) (gName 2)) (tAsg (tVar 4) (gName 3)))
def rd_l_root (K : PySem.W.Frag) : TS := tSeq (tAsg (tTup (tCons (tC (.int 0)) (tCons (tC (.int 1)) (tNil)))) (gTup K 2 (gCons (gName 2) (gCons (gName 3) (gNil))))) (tSeq (tWhile (tTest (tOp FW.rLe (tCall (sp_l_power K) [] E0 (tCons (tVar 3) (tCons (tVar 1) (tNil)))) (tVar 0))) (rd_l_root_L1 K)) (tSeq (tWhile (tTest (tOp FW.rGt (tOp FW.rSub (tVar 3) (tVar 2)) (tC (.int 1)))) (rd_l_root_L2 K)) (tRet (tVar 2))))
theorem pow_ge_self {x : Int} (h : 1 ≤ x) (n : Nat) (hn : 1 ≤ n) : x ≤ x ^ n := by
  obtain ⟨m, rfl⟩ : ∃ m, n = m + 1 := ⟨n - 1, by omega⟩
  have hp := pow_pos' h m
  rw [Int.pow_succ]
  have : 1 * x ≤ x ^ m * x := Int.mul_le_mul_of_nonneg_right hp (by omega)
  omega
theorem pow_mono {x y : Int} (h0 : 0 ≤ x) (h : x ≤ y) : ∀ n : Nat, x ^ n ≤ y ^ n
  | 0 => by simp
  | n + 1 => by
    have ih := pow_mono h0 h n
    have hx : 0 ≤ x ^ n := Int.pow_nonneg h0
    rw [Int.pow_succ, Int.pow_succ]
    exact Int.mul_le_mul ih h h0 (by omega)
theorem pow_lt_inv {x y : Int} (h0 : 0 ≤ y) {n : Nat} (h : x ^ n < y ^ n) (hx : 0 ≤ x) : x < y := by
  rcases Int.lt_or_le x y with h1 | h1
  · exact h1
  · have := pow_mono h0 h1 n
    omega
theorem pure_l_root (K : PySem.W.Frag) (vs : List V) (H : Hp) (Q : VK) (E : XK) (h : sp_l_root K vs H Q E) : rd_l_root K { nx := fun _ H' => Q .non H', rt := Q } (start ["_law_n", "_law_k", "_law_least", "_law_most", "_law_middle"] vs) H := by
  obtain ⟨n, k, rfl, hn, hk1, hk4, hs, q⟩ := h
  have hnb : n.natAbs < 2 ^ 2000 := hs
  unfold rd_l_root
  walk_at "rd"
  refine ⟨by show 2 ≤ sizeLine; decide, fun q1 hq1 => ?_⟩
  refine g_tup ?_ (SqT.of upd_same) rfl
  have eE := Ext.new (o := .tup [V.int 0, V.int 1]) hq1
  generalize upd H q1 (.tup [V.int 0, V.int 1]) = H at *
  walk_at "rd"
  refine s_while (fun m σ H' => H' = H ∧ ∃ (most : Int) (v : Option V), 1 ≤ most ∧ most ≤ 2 * n + 1 ∧ m = (n + 1 - most).toNat + 1 ∧ σ = [some (.int n), some (.int k), some (.int 0), some (.int most), v]) _ ⟨rfl, 1, none, by decide, by omega, rfl, rfl⟩ ?_
  rintro m σ H' ⟨rfl, most, v, h1, h2, rfl, rfl⟩
  have hms : Sz 2002 most := by
    show most.natAbs < 2 ^ 2002
    rw [show (2 : Nat) ^ 2002 = 4 * 2 ^ 2000 from by rw [Nat.pow_add 2 2000 2, Nat.mul_comm]]
    have : 0 < 2 ^ 2000 := Nat.pow_pos (by decide)
    omega
  walk_at "rd"
  refine ⟨most, k, 2002, rfl, by omega, hms, by decide, ?_, ?_⟩
  · have : k.toNat + 1 ≤ 5 := by omega
    have := Nat.mul_le_mul_right 2002 this
    omega
  walk_at "rd"
  refine e_ite (fun hle => ?_) (fun hgt => ?_)
  · have hself := pow_ge_self h1 k.toNat (by omega)
    refine ⟨fun σ' H'' => ∃ m', m' < (n + 1 - most).toNat + 1 ∧ (H'' = H' ∧ ∃ (most : Int) (v : Option V), 1 ≤ most ∧ most ≤ 2 * n + 1 ∧ m' = (n + 1 - most).toNat + 1 ∧ σ' = [some (.int n), some (.int k), some (.int 0), some (.int most), v]), fun _ _ h => h, ?_⟩
    unfold rd_l_root_L1
    walk_at "rd"
    · exact ⟨_, by omega, rfl, most * 2, v, by omega, by omega, rfl, rfl⟩
    · exact wide_mul hms (b := 10) (by decide) (by decide) (by decide) (by decide)
  · walk_at "rd"
    have h0k : (0 : Int) ^ k.toNat ≤ n := by
      rw [Int.zero_pow (by omega)]; exact hn
    refine s_while (fun m σ H'' => H'' = H' ∧ ∃ (lo hi : Int) (v : Option V), 0 ≤ lo ∧ lo < hi ∧ hi ≤ most ∧ lo ^ k.toNat ≤ n ∧ n < hi ^ k.toNat ∧ m = (hi - lo).toNat ∧ σ = [some (.int n), some (.int k), some (.int lo), some (.int hi), v]) _ ⟨rfl, 0, most, v, by decide, by omega, by omega, h0k, by omega, rfl, rfl⟩ ?_
    rintro m σ H'' ⟨rfl, lo, hi, v, l0, llt, lm, p1, p2, rfl, rfl⟩
    walk_at "rd"
    refine e_ite (fun hgo => ?_) (fun hno => ?_)
    · refine ⟨fun σ' H2 => ∃ m', m' < (hi - lo).toNat ∧ (H2 = H'' ∧ ∃ (lo hi : Int) (v : Option V), 0 ≤ lo ∧ lo < hi ∧ hi ≤ most ∧ lo ^ k.toNat ≤ n ∧ n < hi ^ k.toNat ∧ m' = (hi - lo).toNat ∧ σ' = [some (.int n), some (.int k), some (.int lo), some (.int hi), v]), fun _ _ h => h, ?_⟩
      unfold rd_l_root_L2
      walk_at "rd"
      · have hmid : lo < (lo + hi) / 2 ∧ (lo + hi) / 2 < hi := by omega
        generalize (lo + hi) / 2 = mid at *
        have hmds : Sz 2002 mid := Sz.of_le (by omega) (by omega : mid ≤ most) hms
        refine ⟨mid, k, 2002, rfl, by omega, hmds, by decide, ?_, ?_⟩
        · have : k.toNat + 1 ≤ 5 := by omega
          have := Nat.mul_le_mul_right 2002 this
          omega
        walk_at "rd"
        refine e_ite (fun hle => ?_) (fun hgt => ?_)
        · walk_at "rd"
          exact ⟨_, by omega, rfl, mid, hi, _, by omega, by omega, by omega, hle, p2, rfl, rfl⟩
        · walk_at "rd"
          exact ⟨_, by omega, rfl, lo, mid, _, by omega, by omega, by omega, p1, by omega, rfl, rfl⟩
      · exact ⟨by decide, by decide⟩
    · walk_at "rd"
      have e : hi = lo + 1 := by omega
      subst e
      exact q lo _ l0 p1 p2 eE
/-! ### led over a tuple of parts, a loop made of it -/
def sp_l_led (K : PySem.W.Frag) : Sp := fun vs H Q _ => ∃ (t : Addr) (l : Lp) (n x : Int), vs = [.ref t, .int n, .int x] ∧ H t = some (.tup l.V) ∧ l.Ok ∧ 1 ≤ x ∧ 0 ≤ n ∧ n.natAbs < 2 ^ 2000 ∧ x.natAbs < 2 ^ 2000 ∧ Q (.int (l.led n x)) H
def rd_l_led (K : PySem.W.Frag) : TS := tRet (tOp FW.rDiv (tOp FW.rAdd (tOp FW.rAdd (tOp FW.rMul (tOp (rIxT K) (tVar 0) (tC (.int 1))) (tVar 2)) (tOp FW.rMul (tOp (rIxT K) (tVar 0) (tC (.int 2))) (tOp FW.rDiv (tVar 1) (tCall (sp_l_power K) [] E0 (tCons (tVar 2) (tCons (tOp FW.rSub (tOp (rIxT K) (tVar 0) (tC (.int 0))) (tC (.int 1))) (tNil))))))) (tOp (rIxT K) (tVar 0) (tC (.int 3)))) (tOp FW.rAdd (tOp (rIxT K) (tVar 0) (tC (.int 1))) (tOp (rIxT K) (tVar 0) (tC (.int 2)))))
theorem pure_l_led (K : PySem.W.Frag) (vs : List V) (H : Hp) (Q : VK) (E : XK) (h : sp_l_led K vs H Q E) : rd_l_led K { nx := fun _ H' => Q .non H', rt := Q } (start ["_law_parts_here", "_law_n", "_law_x"] vs) H := by
  obtain ⟨t, l, n, x, rfl, ht, o, hx, hn, hnb, hxb, q⟩ := h
  have hk := o.hk; have a1 := o.a1; have a5 := o.a5; have c1 := o.c1; have c3 := o.c3
  have hpw := pow_lt hxb (by decide) (l.k - 1).toNat
  have hpp := pow_pos' hx (l.k - 1).toNat
  have hq : (n / x ^ (l.k - 1).toNat).natAbs < 2 ^ 2000 := Nat.lt_of_le_of_lt (ediv_abs hn hpp) hnb
  unfold rd_l_led
  walk_at "rd"
  refine e_ixT ?_ (SqT.of ht) rfl
  walk_at "rd"
  · refine e_ixT ?_ (SqT.of ht) rfl
    walk_at "rd"
    refine e_ixT ?_ (SqT.of ht) rfl
    walk_at "rd"
    refine ⟨x, l.k - 1, 2000, rfl, by omega, hxb, by decide, ?_, ?_⟩
    · have : (l.k - 1).toNat + 1 ≤ 4 := by omega
      have := Nat.mul_le_mul_right 2000 this
      omega
    walk_at "rd"
    · refine e_ixT ?_ (SqT.of ht) rfl
      walk_at "rd"
      refine e_ixT ?_ (SqT.of ht) rfl
      walk_at "rd"
      refine e_ixT ?_ (SqT.of ht) rfl
      walk_at "rd"
      · exact q
      · refine wide_div (b := 10) (by omega) ?_ (by decide) (by decide)
        show (l.a + l.c).natAbs < 1024
        omega
    · exact wide_mul (a := 10) (b := 2000) (by show l.c.natAbs < 1024; omega) hq (by decide) (by decide) (by decide)
    · refine wide_div (b := (l.k - 1).toNat * 2000 + 1) (by omega) hpw (by omega) ?_
      have : (l.k - 1).toNat ≤ 3 := by omega
      have := Nat.mul_le_mul_right 2000 this
      omega
  · exact wide_mul (a := 10) (b := 2000) (by show l.a.natAbs < 1024; omega) hxb (by decide) (by decide) (by decide)
def sp_l_loop (K : PySem.W.Frag) : Sp := fun vs H Q _ => ∃ (t : Addr) (l : Lp), vs = [.ref t] ∧ H t = some (.tup l.V) ∧ l.Ok ∧ ∀ x H', H x = none → Ext H H' → IsLp K H' x l → Q (.ref x) H'
def rd_l_loop (K : PySem.W.Frag) : TS := tRet (tMake (He.ga K "Average") (sp_Average_init K) [] E0 (tCons (tOp (rIxT K) (tVar 0) (tC (.int 0))) (tCons (tOp (rIxT K) (tVar 0) (tC (.int 1))) (tCons (tOp (rIxT K) (tVar 0) (tC (.int 2))) (tCons (tOp (rIxT K) (tVar 0) (tC (.int 3))) (tCons (tOp (rIxT K) (tVar 0) (tC (.int 4))) (tCons (tOp (rIxT K) (tVar 0) (tC (.int 5))) (tCons (tOp (rIxT K) (tVar 0) (tC (.int 6))) (tNil)))))))))
theorem pure_l_loop (K : PySem.W.Frag) (vs : List V) (H : Hp) (Q : VK) (E : XK) (h : sp_l_loop K vs H Q E) : rd_l_loop K { nx := fun _ H' => Q .non H', rt := Q } (start ["_law_parts_here"] vs) H := by
  obtain ⟨t, l, rfl, ht, o, q⟩ := h
  unfold rd_l_loop
  walk_at "rd"
  refine e_ixT ?_ (SqT.of ht) rfl
  walk_at "rd"
  refine e_ixT ?_ (SqT.of ht) rfl
  walk_at "rd"
  refine e_ixT ?_ (SqT.of ht) rfl
  walk_at "rd"
  refine e_ixT ?_ (SqT.of ht) rfl
  walk_at "rd"
  refine e_ixT ?_ (SqT.of ht) rfl
  walk_at "rd"
  refine e_ixT ?_ (SqT.of ht) rfl
  walk_at "rd"
  refine e_ixT ?_ (SqT.of ht) rfl
  walk_at "rd"
  intro x dx hx hdx hne
  have e3 : Ext H (upd (upd H dx (.own x)) x (.ins (He.ga K "Average") dx [])) := (Ext.new hdx).tr (Ext.new (by rw [upd_ne hne.symm]; exact hx))
  refine ⟨x, dx, l, rfl, o, upd_same, fun H4 e4 h4 => ⟨rfl, q x H4 hx (fun b ob q => e4 _ _ (ne_of_none q hx) (e3 _ _ q)) ⟨dx, h4⟩⟩⟩
end FWL
namespace FWL
open PySem PySem.Spec PyProof.Rows L2 FW
/-! ### a number to try -/
theorem ExtB.ext {p : Addr} {H H' : Hp} (e : ExtB p H H') (h : H p = none) : Ext H H' := fun a o q => e a o (ne_of_none q h) q
theorem pow_lt_succ {r : Int} (hr : 1 ≤ r) : ∀ n : Nat, 1 ≤ n → r ^ n + 1 ≤ (r + 1) ^ n
  | 0, h => absurd h (by decide)
  | 1, _ => by rw [Int.pow_succ, Int.pow_succ, Int.pow_zero, Int.pow_zero]; omega
  | n + 2, _ => by
    have ih := pow_lt_succ hr (n + 1) (by omega)
    have hp : 1 ≤ r ^ (n + 1) := pow_pos' hr (n + 1)
    have e1 : (r + 1) ^ (n + 2) = (r + 1) ^ (n + 1) * (r + 1) := Int.pow_succ ..
    have e2 : r ^ (n + 2) = r ^ (n + 1) * r := Int.pow_succ ..
    rw [e1, e2]
    have h1 : (r ^ (n + 1) + 1) * (r + 1) ≤ (r + 1) ^ (n + 1) * (r + 1) := Int.mul_le_mul_of_nonneg_right ih (by omega)
    have h2 : (r ^ (n + 1) + 1) * (r + 1) = r ^ (n + 1) * r + r ^ (n + 1) + r + 1 := by grind
    omega
def sp_l_number (K : PySem.W.Frag) : Sp := fun vs H Q _ => ∃ (p : Addr) (k : Int) (n : Nat), vs = [.ref p, .int k] ∧ Strm H p n ∧ n + 10 < 1000000 ∧ 2 ≤ k ∧ k ≤ 4 ∧
  ∀ m H', 1 ≤ m → Sz 440 m → ExtB p H H' → Strm H' p (n + 10) → Q (.int m) H'
def rd_l_number_tl (K : PySem.W.Frag) : TS := tSeq (tAsg (tOp FW.rSub (tCall (sp_l_power K) [] E0 (tCons (tOp FW.rAdd (tVar 3) (tC (.int 1))) (tCons (tVar 1) (tNil)))) (tCall (sp_l_power K) [] E0 (tCons (tVar 3) (tCons (tVar 1) (tNil))))) (gName 4)) (tSeq (tAsg (tOp FW.rSub (tCall (sp_l_draw K) [] E0 (tCons (tVar 0) (tCons (tC (.int 9)) (tNil)))) (tC (.int 2))) (gName 5)) (tSeq (tAsg (tOp FW.rMul (tOp FW.rSub (tOp FW.rAdd (tVar 3) (tCB FW.rInt1 (tCons (tCall (sp_l_draw K) [] E0 (tCons (tVar 0) (tCons (tOp FW.rAdd (tVar 1) (tC (.int 2))) (tNil)))) (tNil)))) (tOp FW.rMul (tOp FW.rSub (tVar 1) (tC (.int 1))) (tVar 5))) (tCall (sp_l_power K) [] E0 (tCons (tOp FW.rAdd (tVar 3) (tVar 5)) (tCons (tOp FW.rSub (tVar 1) (tC (.int 1))) (tNil))))) (gName 6)) (tSeq (tAsg (tOp FW.rSub (tOp FW.rAdd (tOp FW.rSub (tVar 6) (tCall (sp_l_power K) [] E0 (tCons (tVar 3) (tCons (tVar 1) (tNil))))) (tCall (sp_l_draw K) [] E0 (tCons (tVar 0) (tCons (tC (.int 3)) (tNil))))) (tC (.int 1))) (gName 6)) (tSeq (tAsg (tCall (sp_l_pick K) [] E0 (tCons (tVar 0) (tCons (tLst (tCons (tC (.int 0)) (tCons (tC (.int 1)) (tCons (tOp FW.rSub (tVar 4) (tC (.int 1))) (tCons (tOp FW.rSub (tVar 4) (tC (.int 2))) (tCons (tCall (sp_l_draw K) [] E0 (tCons (tVar 0) (tCons (tVar 4) (tNil)))) (tCons (tVar 6) (tCons (tVar 6) (tNil))))))))) (tNil)))) (gName 7)) (tRet (tOp FW.rAdd (tCall (sp_l_power K) [] E0 (tCons (tVar 3) (tCons (tVar 1) (tNil)))) (tCB FW.rMax2 (tCons (tC (.int 0)) (tCons (tCB FW.rMin2 (tCons (tVar 7) (tCons (tOp FW.rSub (tVar 4) (tC (.int 1))) (tNil)))) (tNil)))))))))) 
def rd_l_number (K : PySem.W.Frag) : TS := tSeq (tAsg (tCall (sp_l_draw K) [] E0 (tCons (tVar 0) (tCons (tC (.int 5)) (tNil)))) (gName 2)) (tSeq (tIfS (tTest (tOp rEq (tVar 2) (tC (.int 0)))) (tRet (tOp FW.rAdd (tC (.int 1)) (tCall (sp_l_draw K) [] E0 (tCons (tVar 0) (tCons (tC (.int 120)) (tNil)))))) (tNext)) (tSeq (tAsg (tOp FW.rAdd (tC (.int 1)) (tCall (sp_l_draw K) [] E0 (tCons (tVar 0) (tCons (tC (.int 60)) (tNil))))) (gName 3)) (tSeq (tIfS (tTest (tOp FW.rGt (tVar 2) (tC (.int 2)))) (tAsg (tOp FW.rAdd (tVar 3) (tOp FW.rMul (tCB FW.rInt1 (tCons (tCall (sp_l_draw K) [] E0 (tCons (tVar 0) (tCons (tOp FW.rPow (tC (.int 10)) (tC (.int 12))) (tNil)))) (tNil))) (tCall (sp_l_pick K) [] E0 (tCons (tVar 0) (tCons (tLst (tCons (tC (.int 1)) (tCons (tOp FW.rPow (tC (.int 10)) (tC (.int 9))) (tCons (tOp FW.rPow (tC (.int 10)) (tC (.int 20))) (tNil))))) (tNil)))))) (gName 3)) (tNext)) (rd_l_number_tl K))))
theorem number_tl {K : PySem.W.Frag} {H : Hp} {D : Ends} {p : Addr} {k r : Int} {n : Nat} {u2 u4 u5 u6 u7 : Option V} (hS : Strm H p n) (hn : n + 5 < 1000000) (hk1 : 2 ≤ k) (hk4 : k ≤ 4) (hr : 1 ≤ r) (hrs : Sz 108 r)
    (q : ∀ m H', 1 ≤ m → Sz 440 m → ExtB p H H' → Strm H' p (n + 5) → D.rt (.int m) H') : rd_l_number_tl K D [some (.ref p), some (.int k), u2, some (.int r), u4, u5, u6, u7] H := by
  have hr1 : Sz 109 (r + 1) := hrs.add (by show (1 : Int).natAbs < 2 ^ 108; decide)
  have hrk : Sz 437 (r ^ k.toNat) := (hrs.mono (by decide : 108 ≤ 109)).powk (by decide) hk4
  have hrk1 : Sz 437 ((r + 1) ^ k.toNat) := hr1.powk (by decide) hk4
  have hp0 := pow_lt_succ hr k.toNat (by omega)
  have hp1 : 1 ≤ r ^ k.toNat := pow_pos' hr _
  unfold rd_l_number_tl
  walk_at "rd"
  refine ⟨r + 1, k, 109, rfl, by omega, hr1, by decide, pow_room hk4 (by decide), ?_⟩
  walk_at "rd"
  refine ⟨r, k, 108, rfl, by omega, hrs, by decide, pow_room hk4 (by decide), ?_⟩
  walk_at "rd"
  refine ⟨p, 9, n, rfl, hS, by omega, by decide, by decide, fun d1 H1 d10 d11 e1 s1 => ?_⟩
  walk_at "rd"
  refine ⟨p, k + 2, n + 1, rfl, s1, by omega, by omega, log2_small (by omega), fun d2 H2 d20 d21 e2 s2 => ?_⟩
  have his : Sz 108 (d1 - 2) := by
    show (d1 - 2).natAbs < 2 ^ 108
    have : 2 ^ 4 ≤ 2 ^ 108 := Nat.pow_le_pow_right (by decide) (by decide)
    omega
  have hris : Sz 109 (r + (d1 - 2)) := hrs.add his
  have k1s : Sz 10 (k - 1) := by show (k - 1).natAbs < 1024; omega
  have i1s : Sz 10 (d1 - 2) := by show (d1 - 2).natAbs < 1024; omega
  have d2s : Sz 108 d2 := Sz.mono (by show d2.natAbs < 2 ^ 10; omega) (by decide : 10 ≤ 108)
  walk_at "rd"
  · refine ⟨r + (d1 - 2), k - 1, 109, rfl, by omega, hris, by decide, pow_room (by omega) (by decide), ?_⟩
    have hrik : Sz 437 ((r + (d1 - 2)) ^ (k - 1).toNat) := hris.powk (by decide) (by omega)
    have h1 : Sz 110 (r + d2 - (k - 1) * (d1 - 2)) := ((hrs.add d2s).sub ((k1s.mul i1s).mono (by decide)))
    walk_at "rd"
    · refine ⟨r, k, 108, rfl, by omega, hrs, by decide, pow_room hk4 (by decide), ?_⟩
      walk_at "rd"
      refine ⟨p, 3, n + 2, rfl, s2, by omega, by omega, by decide, fun d3 H3 d30 d31 e3 s3 => ?_⟩
      walk_at "rd"
      generalize (r + d2 - (k - 1) * (d1 - 2)) * (r + (d1 - 2)) ^ (k - 1).toNat - r ^ k.toNat + d3 - 1 = turn
      refine ⟨p, (r + 1) ^ k.toNat - r ^ k.toNat, n + 3, rfl, s3, by omega, by omega, (hrk1.sub hrk).log2 (by decide) (by decide), fun d4 H4 d40 d41 e4 s4 => ?_⟩
      walk_at "rd"
      refine ⟨by show 7 ≤ sizeLine; decide, fun q5 hq5 => ?_⟩
      walk_at "rd"
      refine ⟨p, q5, _, n + 4, rfl, s4.ext (Ext.new hq5), by omega, s4.ne hq5, upd_same, by simp, by show 7 < 1000; decide, fun v H6 hv e6 s6 => ?_⟩
      obtain ⟨y, rfl⟩ : ∃ y : Int, v = .int y := by
        simp only [List.mem_cons, List.not_mem_nil, or_false] at hv
        rcases hv with rfl | rfl | rfl | rfl | rfl | rfl | rfl <;> exact ⟨_, rfl⟩
      walk_at "rd"
      refine ⟨r, k, 108, rfl, by omega, hrs, by decide, pow_room hk4 (by decide), ?_⟩
      walk_at "rd"
      refine q _ H6 ?_ ?_ (e1.tr (e2.tr (e3.tr (e4.tr ((ExtB.of (Ext.new hq5)).tr e6))))) s6
      · split <;> split <;> omega
      · refine Sz.of_le ?_ ?_ (hrk1.mono (by decide))
        · split <;> split <;> omega
        · split <;> split <;> omega
    · exact wide_mul h1 hrik (by decide) (by decide) (by decide)
  · exact wide_mul k1s i1s (by decide) (by decide) (by decide)
theorem pure_l_number (K : PySem.W.Frag) (vs : List V) (H : Hp) (Q : VK) (E : XK) (h : sp_l_number K vs H Q E) : rd_l_number K { nx := fun _ H' => Q .non H', rt := Q } (start ["_law_stream_here", "_law_k", "_law_way", "_law_floor", "_law_end", "_law_i", "_law_turn", "_law_some"] vs) H := by
  obtain ⟨p, k, n, rfl, hS, hn, hk1, hk4, q⟩ := h
  unfold rd_l_number
  walk_at "rd"
  refine ⟨p, 5, n, rfl, hS, by omega, by decide, by decide, fun d1 H1 d10 d11 e1 s1 => ?_⟩
  walk_at "rd"
  have hd : decide (V.int d1 = V.int 0) = decide (d1 = 0) := decide_eq_decide.mpr ⟨fun z => by injection z, fun z => by rw [z]⟩
  rw [hd]
  refine e_ite (fun h0 => ?_) (fun h0 => ?_)
  · walk_at "rd"
    refine ⟨p, 120, n + 1, rfl, s1, by omega, by decide, by decide, fun d2 H2 d20 d21 e2 s2 => ?_⟩
    walk_at "rd"
    refine q _ _ (by omega) ?_ (e1.tr e2) (s2.mono (by omega))
    exact Sz.mono (by show (1 + d2).natAbs < 2 ^ 10; omega) (by decide : 10 ≤ 440)
  · walk_at "rd"
    refine ⟨p, 60, n + 1, rfl, s1, by omega, by decide, by decide, fun d2 H2 d20 d21 e2 s2 => ?_⟩
    walk_at "rd"
    refine e_ite (fun h2 => ?_) (fun h2 => ?_)
    · walk_at "rd"
      · refine ⟨p, _, n + 2, rfl, s2, by omega, by decide, by decide, fun d3 H3 d30 d31 e3 s3 => ?_⟩
        have d31' : d3 < 10 ^ 12 := d31
        walk_at "rd"
        · refine ⟨by show 3 ≤ sizeLine; decide, fun q4 hq4 => ?_⟩
          walk_at "rd"
          refine ⟨p, q4, _, n + 3, rfl, s3.ext (Ext.new hq4), by omega, s3.ne hq4, upd_same, by simp, by show 3 < 1000; decide, fun v H5 hv e5 s5 => ?_⟩
          obtain ⟨y, rfl, y0, y1⟩ : ∃ y : Int, v = .int y ∧ 1 ≤ y ∧ y ≤ 10 ^ 20 := by
            simp only [List.mem_cons, List.not_mem_nil, or_false] at hv
            rcases hv with rfl | rfl | rfl <;> exact ⟨_, rfl, by decide, by decide⟩
          have hm0 : 0 ≤ d3 * y := Int.mul_nonneg d30 (by omega)
          have hm1 : d3 * y ≤ 10 ^ 12 * 10 ^ 20 := Int.mul_le_mul (by omega) y1 (by omega) (by decide)
          walk_at "rd"
          · refine number_tl (n := n + 4) s5 (by omega) hk1 hk4 (by omega) ?_ (fun m H' m1 ms e' s' => q m H' m1 ms (e1.tr (e2.tr (e3.tr ((ExtB.of (Ext.new hq4)).tr (e5.tr e'))))) (s'.mono (by omega)))
            show (1 + d2 + d3 * y).natAbs < 2 ^ 108
            have : (10 : Int) ^ 12 * 10 ^ 20 + 100 < 2 ^ 108 := by decide
            omega
          · refine wide_mul (a := 108) (b := 108) ?_ ?_ (by decide) (by decide) (by decide)
            · show d3.natAbs < 2 ^ 108
              have : (10 : Int) ^ 12 < 2 ^ 108 := by decide
              omega
            · show y.natAbs < 2 ^ 108
              have : (10 : Int) ^ 20 < 2 ^ 108 := by decide
              omega
        · exact ⟨by decide, by decide, by decide⟩
        · exact ⟨by decide, by decide, by decide⟩
      · exact ⟨by decide, by decide, by decide⟩
    · walk_at "rd"
      refine number_tl (n := n + 2) s2 (by omega) hk1 hk4 (by omega) ?_ (fun m H' m1 ms e' s' => q m H' m1 ms (e1.tr (e2.tr e')) (s'.mono (by omega)))
      exact Sz.mono (by show (1 + d2).natAbs < 2 ^ 10; omega) (by decide : 10 ≤ 108)
end FWL
/-! tuples turned about, counted, and things that are a list or a tuple -/
namespace PySem
namespace SeqX
open PyProof.Rows PySem.W
theorem adjust_rev (n : Nat) : Builtin.Slice.sliceAdjust none none (-1) (n : Int) = ((n : Int) - 1, -1) := by
  unfold Builtin.Slice.sliceAdjust
  rfl
theorem places_rev (n : Nat) : Builtin.Slice.slicePlaces ((n : Int) - 1) (-1) (-1) = n := by
  unfold Builtin.Slice.slicePlaces
  have h1 : ¬ ((-1 : Int) > 0) := by omega
  simp only [h1, if_false, show (- -1 : Int) = 1 from rfl, Int.ediv_one]
  split <;> omega
section
variable {prog : Program} {w : World} {A : Around} {E : Value → Shared → Prop} {s : Shared}
theorem sliceApplied_rev {sl : Addr} {vl vu vs : Value} {n : Nat} {Q : Int × Int × Nat → Shared → Prop} (hs : s.heap.IsSliceOf sl vl vu vs) (pl : IsPart vl none) (pu : IsPart vu none) (ps : IsPart vs (some (-1)))
    (h : Q ((n : Int) - 1, -1, n) s) : wpAny (model prog w) A (Builtin.Slice.sliceApplied (.ref sl) (pure (n : Int))) Q E s := by
  obtain ⟨os, hos, hcs, hds⟩ := id hs
  unfold Builtin.Slice.sliceApplied Builtin.Slice.sliceFields
  refine wpAny_bind (wpAny_bind (wpAny_field hos hds (x := vl) rfl (wpAny_bind (wpAny_field hos hds (x := vu) rfl (wpAny_bind (wpAny_field hos hds (x := vs) rfl (wpAny_pure ?_)))))))
  refine wpAny_bind (HT.slicePart_ ps ?_)
  show wpAny _ _ (if ((-1 : Int) == 0) = true then _ else _) _ _ s
  rw [if_neg (by decide)]
  refine wpAny_bind (HT.slicePart_ pl (wpAny_bind (HT.slicePart_ pu (wpAny_bind (wpAny_pure ?_)))))
  show wpAny _ _ (match Builtin.Slice.sliceAdjust none none (-1) (n : Int) with | (lo, hi) => pure (lo, (-1 : Int), Builtin.Slice.slicePlaces lo hi (-1))) _ _ s
  rw [adjust_rev n]
  show wpAny _ _ (pure ((n : Int) - 1, (-1 : Int), Builtin.Slice.slicePlaces ((n : Int) - 1) (-1) (-1))) _ _ s
  rw [places_rev]
  exact wpAny_pure h
theorem pick_rev (xs : Array Value) : ((List.range xs.size).filterMap fun (m : Nat) => xs[(((xs.size : Nat) : Int) - 1 + (m : Int) * (-1)).toNat]?).toArray = xs.toList.reverse.toArray := by
  have e : (List.range xs.size).filterMap (fun (m : Nat) => xs[(((xs.size : Nat) : Int) - 1 + (m : Int) * (-1)).toNat]?) = ((List.range xs.size).map fun k => xs.size - 1 - k).filterMap (xs[·]?) := by
    rw [List.filterMap_map]
    congr 1
    funext m
    show xs[(((xs.size : Nat) : Int) - 1 + (m : Int) * (-1)).toNat]? = xs[xs.size - 1 - m]?
    have q : (((xs.size : Nat) : Int) - 1 + (m : Int) * (-1)).toNat = xs.size - 1 - m := by omega
    rw [q]
  rw [e, krv_range, List.filterMap_reverse, krv_all]
theorem getItem_tuple_rev {t sl : Addr} {items : Array Value} {vl vu vs : Value} {Q : Value → Shared → Prop} (ht : IsTup s.heap t items) (hs : s.heap.IsSliceOf sl vl vu vs) (pl : IsPart vl none) (pu : IsPart vu none) (ps : IsPart vs (some (-1)))
    (h : Q (.ref s.heap.objs.size) { s with heap := s.heap.push { cls := .type "tuple", data := .seq items.toList.reverse.toArray } })
    (hsz : items.size ≤ sizeLine) : wpAny (model prog w) A (getItem (.ref t) (.ref sl)) Q E s := by
  have htake : sizeOk (.seq items.toList.reverse.toArray) := by
    show items.toList.reverse.toArray.size ≤ sizeLine
    rw [List.size_toArray, List.length_reverse, Array.length_toList]
    exact hsz
  obtain ⟨os, hos, hcs, hds⟩ := id hs
  have hTs : s.TypeIs (.ref sl) "slice" := ⟨os, hos, hcs⟩
  unfold getItem
  try with_reducible refine wpAny_holding ?_
  first | refine wpAny_bind (wpAny_pure ?_) | skip
  refine wpAny_bind (wpAny_sequenceKey ht.typeIs (by decide) ?_)
  refine wpAny_bind (wpAny_callSpecial?_slot (name := Str.ofString "__getitem__") ht.typeIs PyProof.Rows.slot_tuple_getitem
    (wpAny_call_entry PyProof.Rows.slot_tuple_getitem ht.typeIs entry_tuple_getitem ?_ (args_tuple_getitem _ _)))
  show wpAny _ _ (Builtin.Tuple.tupleItemsOf (.ref t) >>= _) _ _ s
  refine wpAny_bind (tupleItemsOf_ ht ?_)
  refine wpAny_bind (wpAny_typeOf hTs ?_)
  rw [if_pos (by decide)]
  refine wpAny_bind (sliceApplied_rev hs pl pu ps ?_)
  show wpAny _ _ (if ((((items.size : Nat) : Int) - 1) == 0 && (-1 : Int) == 1 && items.size == items.size) = true then _ else _) _ _ s
  rw [if_neg (by rw [show ((-1 : Int) == 1) = false from rfl, Bool.and_false, Bool.false_and]; exact Bool.false_ne_true), pick_rev]
  first
    | exact wpAny_bind (m := Builtin.Tuple.tupleExact _) (wpAny_newObj_type (wpAny_pure ⟨_, rfl, wpAny_pure h⟩) htake)
    | exact wpAny_bind (m := Builtin.Tuple.tupleExact _) (wpAny_newObj_type (wpAny_bind (wpAny_pure (wpAny_pure ⟨_, rfl, wpAny_pure h⟩))) htake)
    | exact wpAny_bind (wpAny_bind (m := Builtin.Tuple.tupleExact _) (wpAny_newObj_type (wpAny_pure (wpAny_pure ⟨_, rfl, wpAny_pure h⟩)) htake))
    | exact wpAny_bind (wpAny_bind (m := Builtin.Tuple.tupleExact _) (wpAny_newObj_type (wpAny_pure ⟨_, rfl, wpAny_pure h⟩) htake))
end
set_option maxHeartbeats 1000000 in
theorem meets_enumerate_newT {v : Value} {o : Obj} {H : Heap → Prop} (B : Begins v o H) :
    Meets (Builtin.«enumerate.__new__» ⟨[.type "enumerate", v], []⟩) (fun _ R s => H s.heap ∧
      R (.ok (.ret (.ref (s.heap.push o).objs.size))) { s with heap := (s.heap.push o).push { cls := .type "enumerate", data := .fields #[.none, .bool false, .ref s.heap.objs.size, rawInt 0, .none, .none] } }) :=
  .of_wp fun prog w A R s h => by
    obtain ⟨hp, g, d, tk, os⟩ := s; obtain ⟨h1, h⟩ := h
    have hsub := sub_enumerate
    have q1 : ∀ {A' : Around} {E : Value → Shared → Prop} {Q : Value → Shared → Prop}, Q (.ref hp.objs.size) ⟨hp.push o, g, d, tk, os⟩ → wpAny (model prog w) A' (pyIter v) Q E ⟨hp, g, d, tk, os⟩ :=
      fun q => B.iter prog w _ _ ⟨hp, g, d, tk, os⟩ _ h1 q
    wp_walk using q1
    refine wpAny_stack_any fun st => wpAny_pure ?_
    split
    · rename_i c _ _ _ _ _
      cases (c == Value.type "enumerate")
      · wp_walk using q1
        exact ⟨_, rfl, h⟩
      · wp_walk using q1
        exact ⟨_, rfl, h⟩
    · wp_walk using q1
      exact ⟨_, rfl, h⟩
section
variable {prog : Program} {w : World} {A : Around} {E : Value → Shared → Prop} {s : Shared}
theorem call_enumerate_tuple {t : Addr} {items : Array Value} {Q : Value → Shared → Prop} (hL : s.heap.IsTuple t items)
    (h : ∀ h', IsEnum h' (s.heap.objs.size + 1) s.heap.objs.size 0 .none → h'.IsTupleIter s.heap.objs.size t 0 → h'.objs.size = s.heap.objs.size + 2 →
      (∀ b o, s.heap.get? b = some o → h'.get? b = some o) → Q (.ref (s.heap.objs.size + 1)) { s with heap := h' }) :
    wpAny (model prog w) A (call (.type "enumerate") [.ref t]) Q E s := by
  refine callType_new F.called_enumerate (by decide) (F.typeCall_enumerate_1 _) (F.newCall_enumerate_1 _) (fun obj => F.args_object_init_2 obj _) F.entry_enumerate_new
    (meets_enumerate_newT (begins_tuple t items)) ⟨hL, ?_⟩
  have hz : (s.heap.push { cls := .type "tuple_iterator", data := .fields #[.ref t, .int 0 0] }).objs.size = s.heap.objs.size + 1 := Heap.size_push ..
  show _ ∧ _
  rw [hz]
  have he : IsEnum ((s.heap.push { cls := .type "tuple_iterator", data := .fields #[.ref t, .int 0 0] }).push
      { cls := .type "enumerate", data := .fields #[.none, .bool false, .ref s.heap.objs.size, rawInt 0, .none, .none] }) (s.heap.objs.size + 1) s.heap.objs.size 0 .none := by
    have := Heap.get?_push_size (s.heap.push { cls := .type "tuple_iterator", data := .fields #[.ref t, .int 0 0] })
      (o := { cls := .type "enumerate", data := .fields #[.none, .bool false, .ref s.heap.objs.size, rawInt 0, .none, .none] }) rfl
    rw [hz] at this; exact this
  refine ⟨⟨_, he, rfl⟩, h _ he ⟨_, Heap.get?_push_of_some _ (Heap.get?_push_size _ rfl), rfl, rfl⟩ (by rw [Heap.size_push, hz]) fun b o x => Heap.get?_push_of_some _ (Heap.get?_push_of_some _ x)⟩
end
end SeqX
end PySem
namespace FW
open PySem PySem.Spec PyProof.Rows L2
section
variable {X : Cx}
/-- t[::-1] of a tuple -/
def tRevT (K : PySem.W.Frag) (te : TE) : TE := fun σ H Q => te σ H fun x H1 => ∃ a xs, x = .ref a ∧ SqT K H1 a xs ∧ ∀ p, H1 p = none → Q (.ref p) (upd H1 p (.tup xs.reverse))
theorem pe_revT {e : Expr} {te : TE} {k : Nat} {p1 p2 p3 pos : Pos} (he : PE X e te) : PE X (.Subscript e (.Slice none none (some (.UnaryOp .USub (.Constant (.int 1) k p1) p2)) p3) pos) (tRevT X.K te) := by
  refine ⟨fun pins s σ H Q I h => ?_⟩
  refine Subscript_ (thn (he.run pins s σ H _ I h) fun v s1 ⟨x, H1, I1, r1, q1⟩ => ?_)
  obtain ⟨a, xs, ex, hx, q⟩ := q1
  subst ex
  cases r1
  have hst : PO X (some (.UnaryOp .USub (.Constant (.int 1) k p1) p2)) (tPart (tUn (rU fun i => .int (-i)) (tC (.int 1)))) := po_some (pe_un un_neg pe_int)
  refine wpAny_Slice (thn (po_none.run pins s1 σ H1 (fun o H2 => o = none ∧ H2 = H1) I1 ⟨rfl, rfl⟩) fun vl s2 ⟨l, H2, I2, pl, el, e2⟩ => ?_)
  subst el e2
  refine thn (po_none.run pins s2 σ H2 (fun o H3 => o = none ∧ H3 = H2) I2 ⟨rfl, rfl⟩) fun vu s3 ⟨u, H3, I3, pu, eu, e3⟩ => ?_
  subst eu e3
  refine thn (hst.run pins s3 σ H3 (fun o H4 => o = some (-1) ∧ H4 = H3) I3 ⟨1, rfl, -1, rfl, rfl, rfl⟩) fun vs s4 ⟨o, H4, I4, ps, eo, e4⟩ => ?_
  subst eo e4
  have I5 : Inv X pins σ H4 { s4 with heap := s4.heap.push { cls := .type "slice", data := .fields #[vl, vu, vs] } } := I4.kept (t' := s4.toks) fun b ob q => Heap.get?_push_of_some _ q
  obtain ⟨its, r, ht, hz⟩ := I5.tuple hx
  have hlen := r.length
  show wpAny (model X.prog X.w) X.A (subscriptTail e (.Slice none none (some (.UnaryOp .USub (.Constant (.int 1) k p1) p2)) p3) (.ref a) (.ref s4.heap.objs.size)) (EP X pins σ Q) X.xe { s4 with heap := s4.heap.push { cls := .type "slice", data := .fields #[vl, vu, vs] } }
  refine tail_any (ops := [.ref a, .ref s4.heap.objs.size]) ht.typeIs (PyProof.Rows.slot_tuple_getitem.lookup) ?_ (by with_unfolding_all rfl)
  refine SeqX.getItem_tuple_rev ht (Heap.IsSliceOf.new _ vl vu vs) pl pu ps ?_ (by rw [List.size_toArray]; omega)
  refine ⟨.ref _, _, I5.laid (t' := s4.toks) (o := .tup xs.reverse) (fun b ob q => Heap.get?_push_of_some _ q) (Nat.le_refl _) ?_, rfl, q _ (I5.hok.fresh (Nat.le_refl _))⟩
  exact ⟨by rw [List.length_reverse]; exact hz, _, r.reverse, IsTup.new _ _⟩
/-- one reading or another -/
def tEither (t u : TE) : TE := fun σ H Q => t σ H Q ∨ u σ H Q
theorem pe_either {e : Expr} {t u : TE} (h1 : PE X e t) (h2 : PE X e u) : PE X e (tEither t u) := ⟨fun pins s σ H Q I h => by
  rcases h with h | h
  · exact h1.run pins s σ H Q I h
  · exact h2.run pins s σ H Q I h⟩
def iEither (t u : TI) : TI := fun σ H Q => t σ H Q ∨ u σ H Q
theorem pi_either {tg e : Expr} {t u : TI} (h1 : PI X tg e t) (h2 : PI X tg e u) : PI X tg e (iEither t u) := ⟨fun pins s σ H Q I h => by
  rcases h with h | h
  · exact h1.run pins s σ H Q I h
  · exact h2.run pins s σ H Q I h⟩
/-! ### enumerate(tuple) -/
def IteT (K : PySem.W.Frag) (a : Addr) : It :=
  ⟨fun i H => ∃ (xs : List V) (x : V), SqT K H a xs ∧ xs[i]? = some x, fun i H v H' => ∃ T x, v = .ref T ∧ H T = none ∧ H' = upd H T (.tup [.int (i : Nat), x]) ∧ ∀ xs, SqT K H a xs → xs[i]? = some x, fun i H => ∃ xs : List V, SqT K H a xs ∧ xs.length = i⟩
theorem turn_enumT {P : Program} {w : World} {K : PySem.W.Frag} {elts : List Expr} {kk : Nat} {tpos : Pos} (a e it : Addr) :
    Turn P w K (.Tuple elts kk tpos) (IteT K a) [e, it] e (fun i h => (∃ old, IsEnum h e it ((i : Nat) : Int) old) ∧ h.IsTupleIter it a i ∧ e ≠ it) where
  mem := by simp
  obj := fun i h st b hb => by
    obtain ⟨⟨old, he⟩, ⟨o, ho, hc, hd⟩, _⟩ := st
    have e' : b = e ∨ b = it := by simpa using hb
    rcases e' with z | z
    · rw [z]; exact ⟨_, he, fun v q => nomatch q⟩
    · rw [z]; exact ⟨o, ho, fun v q => by rw [hd] at q; cases q⟩
  keep := fun i h h' st k => let ⟨⟨old, he⟩, hi, hne⟩ := st; ⟨⟨old, k e (by simp) _ he⟩, hi.at fun o q => k it (by simp) o q, hne⟩
  item := by
    intro X hP hw hK hc i pins s σ H E I hf st hg
    subst hP hw hK
    obtain ⟨⟨old, he⟩, hit, hne⟩ := st
    obtain ⟨xs, x, hq, hx⟩ := hg
    obtain ⟨its, rv, p, hz⟩ := I.tuple hq
    obtain ⟨u, hu, ru⟩ := rv.get hx
    have hel : e < s.heap.objs.size := Heap.lt_size he
    have hil : it < s.heap.objs.size := by obtain ⟨_, q, _⟩ := hit; exact Heap.lt_size q
    have hia : a ≠ it := by
      obtain ⟨o1, q1, c1, _⟩ := hit
      obtain ⟨o2, q2, c2, _⟩ := p
      intro z
      rw [z, q1] at q2
      cases q2
      rw [c1] at c2
      exact absurd c2 (by decide)
    have hea : e ∉ [it, a] := by
      intro z
      rcases List.mem_cons.mp z with z | z
      · exact hne z
      · have z := List.mem_singleton.mp z
        obtain ⟨o2, q2, c2, _⟩ := p
        rw [← z, he] at q2
        cases q2
        exact absurd (show Value.type "enumerate" = Value.type "tuple" from c2) (by decide)
    have hilen : i < its.toArray.size := by
      have := (List.getElem?_eq_some_iff.mp hu).1
      rw [List.size_toArray]; exact this
    refine wpAny_pyNext_enum_itemD (Draws.tuple (A := X.A.in1) (show X.A.in1.handled = none from I.ok.hd hc) it a hia its.toArray) he ⟨hit, p⟩ hilen hne hea fun y h' tk hy ho hst hT hsz hk => ?_
    obtain ⟨hit', _⟩ := hst
    have ey : y = u := by
      have : its[i]? = some y := by simpa using hy
      rw [hu] at this; injection this with z; exact z.symm
    subst ey
    refine ⟨_, rfl, wpAny_letOwnedTupleGo_enum (s := { s with heap := h', toks := tk + 1 }) ho fun h'' he' sb => ?_⟩
    have hT2 : h''.get? s.heap.objs.size = some { cls := .type "tuple", data := .seq #[.int i tk, y] } := (sb.2 _ (Nat.ne_of_gt hel)).trans hT
    have new : ObjOk X.prog X.w (upd H s.heap.objs.size (.tup [.int (i : Nat), x])) h'' s.heap.objs.size (.tup [.int (i : Nat), x]) :=
      ⟨by show 2 ≤ sizeLine; decide, [.int i tk, y], .cons ⟨_, rfl⟩ (.cons ru .nil), ⟨_, hT2, rfl, _, rfl⟩⟩
    have I1 : Inv X pins σ (upd H s.heap.objs.size (.tup [.int (i : Nat), x])) { s with heap := h'', toks := tk + 1 } :=
      I.turnedNew (ch := [e, it]) (fun b ob hb q => (sb.2 b (fun z => hb (by simp [z]))).trans (hk b ob (fun z => hb (by simp [z])) (fun z => hb (by simp [z])) q)) hf (Nat.le_refl _) new
    refine ⟨.ref s.heap.objs.size, _, I1, rfl, ⟨_, x, rfl, I.hok.fresh (Nat.le_refl _), rfl, fun ys hy => by rw [I.tuple_inj hy hq]; exact hx⟩, ⟨⟨y, ?_⟩, hit'.at fun o q => (sb.2 it (Ne.symm hne)).trans q, hne⟩, fun b hb => ?_⟩
    · have e1 : ((i + 1 : Nat) : Int) = (i : Int) + 1 := by omega
      rw [e1]; exact he'
    · have hb' : b < s.heap.objs.size := by
        have e' : b = e ∨ b = it := by simpa using hb
        rcases e' with z | z
        · rw [z]; exact hel
        · rw [z]; exact hil
      rw [upd_ne (Nat.ne_of_lt hb')]
      exact (hf b hb).1
  done := by
    intro X hP hw hK hc i pins s σ H E I hf st hg
    subst hP hw hK
    obtain ⟨⟨old, he⟩, hit, hne⟩ := st
    obtain ⟨xs, hq, hx⟩ := hg
    obtain ⟨its, rv, p, hz⟩ := I.tuple hq
    obtain ⟨f0, f1, f2, f3, f4, f5⟩ := hf it (by simp)
    have hl := rv.length
    have hia : a ≠ it := by
      obtain ⟨o1, q1, c1, _⟩ := hit
      obtain ⟨o2, q2, c2, _⟩ := p
      intro z
      rw [z, q1] at q2
      cases q2
      rw [c1] at c2
      exact absurd c2 (by decide)
    have hn : its.toArray.size = i := by rw [List.size_toArray]; omega
    exact wpAny_pyNext_enum_endD (Draws.tuple (A := X.A.in1) (show X.A.in1.handled = none from I.ok.hd hc) it a hia its.toArray) he ⟨by rw [hn]; exact hit, p⟩ fun h' eb => ⟨rfl, I.turned (t' := s.toks) (fun b o hb q => eb b o hb q) f0 f1 f3 f4 f5⟩
  self := fun A i s Q E st h => let ⟨⟨_, he⟩, _⟩ := st; wpAny_pyIter_enum he h
def iEnumT (K : PySem.W.Frag) (ta : TA) : TI := fun σ H R => ta σ H fun vs H1 => ∃ a xs, vs = [.ref a] ∧ SqT K H1 a xs ∧ R (IteT K a) H1
theorem pi_enumT {e : Expr} {ta : TA} {p pos tpos : Pos} {elts : List Expr} {kk : Nat} (hg : Gl X "enumerate") (hm : X.mg "enumerate" = none) (ha : PA X [e] ta) (hs : starEach [e] X.env = [(false, eval e X.env)] := by rfl) :
    PI X (.Tuple elts kk tpos) (.Call (.Name "enumerate" p) [e] [] pos) (iEnumT X.K ta) := by
  refine ⟨fun pins s σ H R I h => ?_⟩
  refine Call_ (ld_blt I hg hm boot_enumerate (PyProof.Rows.callWith_type1 (thn (ha.run pos pins s σ H _ I h) fun us s1 ⟨vs, H1, I1, r1, q1⟩ => ?_) hs rfl))
  obtain ⟨a, xs, ex, hq, q⟩ := q1
  subst ex
  cases r1 with
  | cons r rr =>
    cases rr
    cases r
    obtain ⟨its, rv, p', hz⟩ := I1.tuple hq
    refine SeqX.call_enumerate_tuple p' fun h' he hit hsz hk => wpAny_pyIter_enum he ?_
    have I2 : Inv X pins σ H1 { s1 with heap := h' } := I1.kept (t' := s1.toks) hk
    refine ⟨s1.heap.objs.size + 1, [s1.heap.objs.size + 1, s1.heap.objs.size], _, _, H1, rfl, I2, turn_enumT a (s1.heap.objs.size + 1) s1.heap.objs.size, ⟨⟨.none, he⟩, hit, Nat.succ_ne_self _⟩, fun b hb => ?_, q⟩
    have e' : b = s1.heap.objs.size + 1 ∨ b = s1.heap.objs.size := by simpa using hb
    have hle : s1.heap.objs.size ≤ b := by
      rcases e' with z | z
      · rw [z]; exact Nat.le_add_right _ _
      · rw [z]; exact Nat.le_refl _
    exact I1.fpOk hle (I1.hok.fresh hle)
end
end FW
namespace FW
open PySem PySem.Spec PyProof.Rows L2
section
variable {X : Cx}
theorem get_list : PGet X (rIxL X.K) := by
  intro pins s σ H x y v u Q I rx ry h
  obtain ⟨p, xs, i, z, rfl, rfl, hq, he, q⟩ := h
  cases rx
  obtain ⟨t, rfl⟩ := ry
  obtain ⟨its, r, pl, hz⟩ := I.list hq
  obtain ⟨j, h1, h2, h3, h4, h5⟩ := atI_get he
  obtain ⟨w, ew, rw'⟩ := r.get h2
  have hl := r.length
  have hn := line63
  have fin : EP X pins σ Q w s := ⟨z, H, I, rw', q⟩
  by_cases h0 : 0 ≤ i
  · have hj : i.toNat = j := by
      rw [seqIndex_of h0 h5] at h1
      exact Option.some.inj h1
    exact wpAny_getItem_list pl.isList h0 (by omega) (by rw [hj]; simpa using ew) fin
  · have hj : (i + (its.toArray.size : Int)).toNat = j := by
      rw [seqIndex_neg (by omega) h4] at h1
      rw [List.size_toArray, ← hl]
      exact Option.some.inj h1
    exact wpAny_getItem_list_neg pl.isList (by omega) (by rw [List.size_toArray] <;> omega) (by omega) (by rw [hj]; simpa using ew) fin
theorem walk_enumT {K : PySem.W.Frag} {a : Addr} {xs : List V} : Walk (IteT K a) xs.length (fun H => SqT K H a xs) (YPair (fun i => some (.int (i : Nat))) (fun i => xs[i]?)) := by
  refine ⟨fun i _ hi q => ⟨xs, xs[i], q, by simp [hi]⟩, fun _ q => ⟨xs, q, rfl⟩, fun i H v H' _ q y => ?_⟩
  obtain ⟨T, x, h1, h2, h3, h4⟩ := y
  exact ⟨T, .int (i : Nat), x, h1, h2, h3, rfl, h4 xs q⟩
end
abbrev rShl : R2 := rI CPow fun i j => .int (i * 2 ^ j.toNat)
theorem opShl {X : Cx} : OpR X (binaryOp .LShift) rShl := op_shl
end FW
namespace FWL
open PySem PySem.Spec PyProof.Rows L2 FW
/-! ### more readings -/
section
variable {K : PySem.W.Frag} {σ : L2.St} {H : Hp} {Q : VK} {D : Ends} {ta tb tc te : TE} {tA : TA} {v : V} {i j : Int} {n : Nat} {a b : Addr} {xs ys : List V}
theorem e_rep (q : ∀ p, H p = none → Q (.ref p) (upd H p (.lst (List.replicate i.toNat v)))) (h : H a = some (.lst [v])) (hz : i ≤ 1000) (h0 : -1000 ≤ i) : rRep (.ref a) (.int i) H Q := by
  refine ⟨a, i, [v], rfl, rfl, h, by omega, by omega, ?_, fun p hp => ?_⟩
  · show 1 * i.toNat ≤ 2 ^ 24
    omega
  · have e : (List.replicate i.toNat [v]).flatten = List.replicate i.toNat v := by
      induction i.toNat with
      | zero => rfl
      | succ m ih => rw [List.replicate_succ, List.flatten_cons, ih, List.replicate_succ]; rfl
    rw [e]
    exact q p hp
theorem e_cat (q : ∀ p, H p = none → Q (.ref p) (upd H p (.lst (xs ++ ys)))) (h : H a = some (.lst xs)) (h' : H b = some (.lst ys)) (hz : xs.length + ys.length ≤ sizeLine) : rCat (.ref a) (.ref b) H Q := ⟨a, b, xs, ys, rfl, rfl, h, h', hz, q⟩
theorem e_listS (q : ∀ p, H p = none → Q (.ref p) (upd H p (.lst xs))) (h : SqL K H a xs ∨ SqT K H a xs) : Evl.rListS K [.ref a] H Q := ⟨a, xs, rfl, h, q⟩
theorem e_tupL (q : ∀ p, H p = none → Q (.ref p) (upd H p (.tup xs))) (h : SqL K H a xs) : FW.rTupS K [.ref a] H Q := ⟨a, xs, rfl, .inl ⟨h, q⟩⟩
theorem e_sl {r : V → Option Int → Option Int → Hp → VK → Prop} {tl th : L2.TO} (k : te σ H fun x H1 => tl σ H1 fun l H2 => th σ H2 fun u H3 => r x l u H3 Q) : L2.tSl r te tl th σ H Q := k
theorem e_noP {R : Option Int → Hp → Prop} (k : R none H) : tNoPart σ H R := k
theorem e_part {R : Option Int → Hp → Prop} (k : te σ H fun x H1 => ∃ i, x = .int i ∧ R (some i) H1) : tPart te σ H R := k
theorem e_part' {R : Int → Prop} (k : R i) : ∃ j, V.int i = .int j ∧ R j := ⟨i, rfl, k⟩
theorem e_slL {lo hi : Option Int} (q : ∀ p, H p = none → Q (.ref p) (upd H p (.lst (cutV xs lo hi)))) (h : SqL K H a xs) : rSlL K (.ref a) lo hi H Q := ⟨a, xs, rfl, h, q⟩
theorem e_sum {ns : List Int} (q : Q (.int ns.sum) H) (h : SqL K H a (ns.map V.int)) : rSum K [.ref a] H Q := ⟨a, ns, rfl, h, q⟩
theorem e_all {bs : List Bool} (q : Q (.bl (bs.all id)) H) (h : SqL K H a (bs.map V.bl)) : rAll K [.ref a] H Q := ⟨a, bs, rfl, h, q⟩
theorem e_eqD {d e : PyData} (q : Q (.bl (PyData.eqv d e)) H) {x y : V} (h1 : Dp K H x d) (h2 : Dp K H y e) (s1 : SeqAt.shaped d = true) (s2 : SeqAt.shaped e = true) : rEqD K x y H Q := ⟨d, e, h1, h2, s1, s2, q⟩
theorem e_neD {d e : PyData} (q : Q (.bl (!PyData.eqv d e)) H) {x y : V} (h1 : Dp K H x d) (h2 : Dp K H y e) (s1 : SeqAt.shaped d = true) (s2 : SeqAt.shaped e = true) : rNeD K x y H Q := ⟨d, e, h1, h2, s1, s2, q⟩
theorem e_rev (q : ∀ p, H p = none → Q (.ref p) (upd H p (.lst xs.reverse))) (q' : ∀ p, H p = none → Q (.ref p) (upd H p (.tup xs.reverse))) (hv : σ[n]? = some (some (.ref a))) (h : SqL K H a xs ∨ SqT K H a xs) : FW.tEither (tRevL K (tVar n)) (FW.tRevT K (tVar n)) σ H Q := by
  rcases h with h | h
  · exact .inl ⟨_, hv, a, xs, rfl, h, q⟩
  · exact .inr ⟨_, hv, a, xs, rfl, h, q'⟩
theorem i_zip {R : It → Hp → Prop} (k : tA σ H fun vs H1 => ∃ a b xs ys, vs = [.ref a, .ref b] ∧ SqL K H1 a xs ∧ SqL K H1 b ys ∧ R (Itz K a b) H1) : iZip K tA σ H R := k
theorem i_enum {R : It → Hp → Prop} (k : tA σ H fun vs H1 => ∃ a xs, vs = [.ref a] ∧ SqL K H1 a xs ∧ R (Ite K a) H1) : iEnum K tA σ H R := k
theorem i_enumT {R : It → Hp → Prop} (k : tA σ H fun vs H1 => ∃ a xs, vs = [.ref a] ∧ SqT K H1 a xs ∧ R (FW.IteT K a) H1) : FW.iEnumT K tA σ H R := k
theorem s_augS {to ti : TE} {tget : V → V → Hp → VK → Prop} {tip : TIp} {tset : TSet} (k : to σ H fun o H1 => ti σ H1 fun i H2 => tget o i H2 fun x H3 => te σ H3 fun y H4 => tip x y H4 fun z H5 => tset o i z H5 fun H6 => D.nx σ H6) : tAugS to ti te tget tip tset D σ H := k
end
/-- a list or a tuple -/
abbrev SqA (K : PySem.W.Frag) (H : Hp) (a : Addr) (xs : List V) : Prop := SqL K H a xs ∨ SqT K H a xs
theorem SqA.ext {K : PySem.W.Frag} {H H' : Hp} {a : Addr} {xs : List V} (e : Ext H H') (h : SqA K H a xs) : SqA K H' a xs := h.elim (fun h => .inl (e.sqL h)) (fun h => .inr (e.sqT h))
/-- for x in s, s a list or a tuple -/
theorem for_seq {K : PySem.W.Frag} {tl : TE} {g : TG} {tb : TS} {D : Ends} {σ : L2.St} {H H1 : Hp} {a : Addr} {xs : List V} (Pv : Nat → L2.St → Hp → Prop)
    (hl : ∀ R : V → Hp → Prop, R (.ref a) H1 → tl σ H R) (hq : SqA K H1 a xs) (h0 : Pv 0 σ H1) (hk : ∀ i σ H', Pv i σ H' → Ext H1 H')
    (hs : ∀ i x σ H', xs[i]? = some x → Pv i σ H' → g x σ H' fun σ2 H2 => tb { D with nx := Pv (i + 1), ct := Pv (i + 1), bk := D.nx } σ2 H2) (hd : ∀ σ H', Pv xs.length σ H' → D.nx σ H') :
    tFor (FW.iEither (iList K tl) (iTup K tl)) g tb D σ H := by
  rcases hq with hq | hq
  · refine s_for (.inl (i_list (hl _ (i_list' xs ?_ hq))))
    exact for_list (xs := xs) Pv h0 (fun i σ H' _ p => (hk i σ H' p).sqL hq) hs hd
  · refine s_for (.inr (i_tup (hl _ (i_tup' xs ?_ hq))))
    exact for_tup (xs := xs) Pv h0 (fun i σ H' _ p => (hk i σ H' p).sqT hq) hs hd
/-- for i, x in enumerate(s), s a list or a tuple at slot n -/
theorem for_enumA {K : PySem.W.Frag} {n : Nat} {g : TG} {tb : TS} {D : Ends} {σ : L2.St} {H0 H : Hp} {a : Addr} {xs : List V} (Pv : Nat → L2.St → Hp → Prop)
    (hv : σ[n]? = some (some (.ref a))) (hq : SqA K H0 a xs) (h0 : Pv 0 σ H) (hk : ∀ i σ H', Pv i σ H' → Ext H0 H')
    (hs : ∀ i x σ H' T, xs[i]? = some x → Pv i σ H' → H' T = none → g (.ref T) σ (upd H' T (.tup [.int (i : Nat), x])) fun σ2 H2 => tb { D with nx := Pv (i + 1), ct := Pv (i + 1), bk := D.nx } σ2 H2) (hd : ∀ σ H', Pv xs.length σ H' → D.nx σ H') :
    tFor (FW.iEither (iEnum K (tCons (tVar n) tNil)) (FW.iEnumT K (tCons (tVar n) tNil))) g tb D σ H := by
  rcases hq with hq | hq
  · refine s_for (.inl ?_)
    refine ⟨_, hv, a, xs, rfl, (hk _ _ _ h0).sqL hq, ?_⟩
    refine for_it (walk_enum (K := K) (a := a) (xs := xs)) Pv h0 (fun i σ H' _ p => (hk i σ H' p).sqL hq) ?_ hd
    rintro i x σ H' H'' hi p ⟨T, y, z, rfl, hT, rfl, e1, e2⟩
    cases e1
    exact hs i z σ H' T e2 p hT
  · refine s_for (.inr ?_)
    refine ⟨_, hv, a, xs, rfl, (hk _ _ _ h0).sqT hq, ?_⟩
    refine for_it (FW.walk_enumT (K := K) (a := a) (xs := xs)) Pv h0 (fun i σ H' _ p => (hk i σ H' p).sqT hq) ?_ hd
    rintro i x σ H' H'' hi p ⟨T, y, z, rfl, hT, rfl, e1, e2⟩
    cases e1
    exact hs i z σ H' T e2 p hT
/-! data of ints -/
theorem dpI {K : PySem.W.Frag} {H : Hp} : ∀ ns : List Int, DpAll K H (ns.map V.int) (ns.map PyData.int)
  | [] => .nil
  | n :: ns => .cons (.int n) (dpI ns)
theorem layI : ∀ ns : List Int, PyData.canLayAll0 (ns.map PyData.int) = true
  | [] => rfl
  | n :: ns => by rw [List.map_cons, PyData.canLayAll0, layI ns]; rfl
theorem depI : ∀ ns : List Int, PyData.depthAll (ns.map PyData.int) = 0
  | [] => rfl
  | n :: ns => by rw [List.map_cons, PyData.depthAll, depI ns]; rfl
theorem shL (ns : List Int) : SeqAt.shaped (.list (ns.map PyData.int)) = true := by
  unfold SeqAt.shaped
  rw [PyData.canLay0, layI, PyData.depth, depI]; rfl
theorem shT (ns : List Int) : SeqAt.shaped (.tuple (ns.map PyData.int)) = true := by
  unfold SeqAt.shaped
  rw [PyData.canLay0, layI, PyData.depth, depI]; rfl
theorem eqvI (ns ms : List Int) : PyData.eqvAll (ns.map PyData.int) (ms.map PyData.int) = decide (ns = ms) := by
  induction ns generalizing ms with
  | nil => cases ms <;> simp [PyData.eqvAll]
  | cons n ns ih =>
    cases ms with
    | nil => simp [PyData.eqvAll]
    | cons m ms =>
      simp [PyData.eqvAll, PyData.eqv, ih, Bool.and_comm]
      rfl
end FWL
namespace FWL
open PySem PySem.Spec PyProof.Rows L2 FW
/-! ### the law -/
mutual
theorem Dp.ext {K : PySem.W.Frag} {H H' : Hp} (e : Ext H H') : ∀ (d : PyData) (v : V), Dp K H v d → Dp K H' v d
  | .none, _, h => by cases h; exact .non
  | .bool b, _, h => by cases h; exact .bl b
  | .int i, _, h => by cases h; exact .int i
  | .str x, _, h => by cases h; exact .str x
  | .list ds, _, h => by
    cases h with
    | lst hs ha => exact .lst (e.sqL hs) (DpAll.ext e ds _ ha)
  | .tuple ds, _, h => by
    cases h with
    | tup hs ha => exact .tup (e.sqT hs) (DpAll.ext e ds _ ha)
  | .dict _, _, h => by cases h
theorem DpAll.ext {K : PySem.W.Frag} {H H' : Hp} (e : Ext H H') : ∀ (ds : List PyData) (vs : List V), DpAll K H vs ds → DpAll K H' vs ds
  | [], _, h => by cases h; exact .nil
  | d :: ds, _, h => by
    cases h with
    | cons h1 h2 => exact .cons (Dp.ext e d _ h1) (DpAll.ext e ds _ h2)
end
/-- a thing that may be told of, and compared -/
def Odd (K : PySem.W.Frag) (H : Hp) (v : V) : Prop := ∃ n d, WT K H v n ∧ Dp K H v d ∧ SeqAt.shaped (.tuple [.str "number", d]) = true ∧ SeqAt.shaped (.tuple [.str "start", d]) = true
theorem Odd.ext {K : PySem.W.Frag} {H H' : Hp} {v : V} (e : Ext H H') (h : Odd K H v) : Odd K H' v := by
  obtain ⟨n, d, h1, h2, h3⟩ := h
  exact ⟨n, d, h1.ext e, Dp.ext e d v h2, h3⟩
theorem Odd.i {K : PySem.W.Frag} {H : Hp} (i : Int) : Odd K H (.int i) := ⟨_, .int i, WT.i i, .int i, by kernel_rfl, by kernel_rfl⟩
theorem Odd.b {K : PySem.W.Frag} {H : Hp} (i : Bool) : Odd K H (.bl i) := ⟨_, .bool i, WT.bl i, .bl i, by kernel_rfl, by kernel_rfl⟩
theorem Odd.n {K : PySem.W.Frag} {H : Hp} : Odd K H .non := ⟨_, .none, WT.non, .non, by kernel_rfl, by kernel_rfl⟩
theorem Odd.s9 {K : PySem.W.Frag} {H : Hp} : Odd K H (.str "9") := ⟨_, .str "9", WT.s _, .str _, by kernel_rfl, by kernel_rfl⟩
theorem Odd.s1 {K : PySem.W.Frag} {H : Hp} : Odd K H (.str "1") := ⟨_, .str "1", WT.s _, .str _, by kernel_rfl, by kernel_rfl⟩
theorem Odd.l {K : PySem.W.Frag} {H : Hp} {a : Addr} {i : Int} (h : H a = some (.lst [.int i])) : Odd K H (.ref a) := ⟨_, .list [.int i], WT.lst h, .lst (SqL.of h) (.cons (.int i) .nil), by kernel_rfl, by kernel_rfl⟩
theorem Odd.t {K : PySem.W.Frag} {H : Hp} {a : Addr} {i : Int} (h : H a = some (.tup [.int i])) : Odd K H (.ref a) := ⟨_, .tuple [.int i], WT.tup h, .tup (SqT.of h) (.cons (.int i) .nil), by kernel_rfl, by kernel_rfl⟩
theorem Strm.neI {H : Hp} {p x : Addr} {n : Nat} {K : PySem.W.Frag} {l : Lp} (h : Strm H p n) (hx : IsLp K H x l) : x ≠ p := by
  obtain ⟨dx, hx⟩ := hx
  obtain ⟨a, b, c, h1, _⟩ := h
  exact ne_of hx h1 (by intro z; cases z)
theorem IsLp.extB {H H' : Hp} {p x : Addr} {n : Nat} {K : PySem.W.Frag} {l : Lp} (hx : IsLp K H x l) (h : Strm H p n) (e : ExtB p H H') : IsLp K H' x l := by
  have := h.neI hx
  obtain ⟨dx, hx⟩ := hx
  exact ⟨dx, e _ _ this hx⟩
/-! monotone steps from behind the root on -/
theorem quot_step {m : Nat} {n x : Int} (hm : m = 1 ∨ m = 2 ∨ m = 3) (hn : 0 ≤ n) (hx : 1 ≤ x) (h : n < x ^ (m + 1)) : n / x ^ m ≤ n / (x + 1) ^ m + m := by
  have hp : 1 ≤ x ^ m := pow_pos' hx m
  have hp1 : 1 ≤ (x + 1) ^ m := pow_pos' (by omega) m
  have q1 : n / x ^ m * x ^ m ≤ n := Int.ediv_mul_le _ (by omega)
  have q2 : n / x ^ m < x := by
    rw [Int.ediv_lt_iff_lt_mul (by omega)]
    rw [Int.pow_succ, Int.mul_comm] at h
    exact h
  have q0 : 0 ≤ n / x ^ m := Int.ediv_nonneg hn (by omega)
  have r0 : 0 ≤ n / (x + 1) ^ m := Int.ediv_nonneg hn (by omega)
  generalize n / x ^ m = q at *
  rcases Int.lt_or_le (m : Int) q with hq | hq
  · have : q - m ≤ n / (x + 1) ^ m := by
      rw [Int.le_ediv_iff_mul_le (by omega)]
      refine Int.le_trans ?_ q1
      have hxq : x * (q - x) ≤ 0 := Int.mul_nonpos_of_nonneg_of_nonpos (by omega) (by omega)
      have hxx : x * x * (q - x) ≤ 0 := Int.mul_nonpos_of_nonneg_of_nonpos (Int.mul_nonneg (by omega) (by omega)) (by omega)
      have hx2 : 0 ≤ x * x := Int.mul_nonneg (by omega) (by omega)
      rcases hm with rfl | rfl | rfl
      · have e : (q - ((1 : Nat) : Int)) * (x + 1) ^ 1 = q * x ^ 1 + (q - x - 1) := by grind
        rw [e]; omega
      · have e : (q - ((2 : Nat) : Int)) * (x + 1) ^ 2 = q * x ^ 2 + 2 * (x * (q - x)) + (q - 4 * x - 2) := by grind
        rw [e]; omega
      · have e : (q - ((3 : Nat) : Int)) * (x + 1) ^ 3 = q * x ^ 3 + 3 * (x * x * (q - x)) + 3 * (x * (q - x)) - 6 * (x * x) + (q - 9 * x - 3) := by grind
        rw [e]; omega
    omega
  · omega
theorem led_nonneg {l : Lp} (o : l.Ok) {n x : Int} (hn : 0 ≤ n) (hx : 1 ≤ x) : 0 ≤ l.led n x := by
  have a1 := o.a1; have c1 := o.c1; have d0 := o.d0
  have hp : 1 ≤ x ^ (l.k - 1).toNat := pow_pos' hx _
  have q0 : 0 ≤ n / x ^ (l.k - 1).toNat := Int.ediv_nonneg hn (by omega)
  have h1 : l.a * 1 ≤ l.a * x := Int.mul_le_mul_of_nonneg_left hx (by omega)
  have h2 : 0 ≤ l.c * (n / x ^ (l.k - 1).toNat) := Int.mul_nonneg (by omega) q0
  unfold Lp.led
  exact Int.ediv_nonneg (by omega) (by omega)
theorem led_step {l : Lp} (o : l.Ok) {n x : Int} (hn : 0 ≤ n) (hx : 1 ≤ x) (h : n < x ^ l.k.toNat) : l.led n x ≤ l.led n (x + 1) := by
  have a1 := o.a1; have c1 := o.c1; have ca := o.ca; have hk := o.hk
  obtain ⟨m, hm, hm3⟩ : ∃ m : Nat, (l.k - 1).toNat = m ∧ (m = 1 ∨ m = 2 ∨ m = 3) := ⟨_, rfl, by omega⟩
  have hkm : l.k.toNat = m + 1 := by omega
  rw [hkm] at h
  have qs := quot_step hm3 hn hx h
  unfold Lp.led
  rw [hm]
  refine Int.ediv_le_ediv (by omega) ?_
  have h1 : l.c * (n / x ^ m) ≤ l.c * (n / (x + 1) ^ m + m) := Int.mul_le_mul_of_nonneg_left qs (by omega)
  have hmk : (m : Int) = l.k - 1 := by omega
  rw [hmk, Int.mul_add] at h1
  have h2 : l.a * (x + 1) = l.a * x + l.a := by rw [Int.mul_add, Int.mul_one]
  omega
theorem led_mono {l : Lp} (o : l.Ok) {n x : Int} (hn : 0 ≤ n) (hx : 1 ≤ x) (h : n < x ^ l.k.toNat) : ∀ j : Nat, l.led n x ≤ l.led n (x + j)
  | 0 => by simp
  | j + 1 => by
    refine Int.le_trans (led_mono o hn hx h j) ?_
    have e : x + ((j + 1 : Nat) : Int) = x + j + 1 := by omega
    rw [e]
    refine led_step o hn (by omega) (Int.lt_of_lt_of_le h (pow_mono (by omega) (by omega) _))
end FWL
namespace FWL
open PySem PySem.Spec PyProof.Rows L2 FW
/-! ### polynomials: their values -/
def pvl : List Int → Int → Int
  | [], _ => 0
  | c :: cs, r => c + r * pvl cs r
theorem pv_append (xs ys : List Int) (r : Int) : pvl (xs ++ ys) r = pvl xs r + r ^ xs.length * pvl ys r := by
  induction xs with
  | nil => simp [pvl]
  | cons x xs ih => simp only [List.cons_append, pvl, ih, List.length_cons]; grind
theorem pv_zeros {xs : List Int} (h : ∀ c ∈ xs, c = 0) (r : Int) : pvl xs r = 0 := by
  induction xs with
  | nil => rfl
  | cons x xs ih => rw [pvl, ih fun c hc => h c (List.mem_cons_of_mem _ hc), h x List.mem_cons_self]; simp
theorem pv_zip : ∀ (xs ys : List Int), xs.length = ys.length → ∀ r, pvl (List.zipWith (· + ·) xs ys) r = pvl xs r + pvl ys r
  | [], [], _, r => by simp [pvl]
  | x :: xs, y :: ys, h, r => by
    have ih := pv_zip xs ys (by simpa using h) r
    simp only [List.zipWith_cons_cons, pvl, ih]; grind
  | [], _ :: _, h, _ => by simp at h
  | _ :: _, [], h, _ => by simp at h
theorem pv_set : ∀ (xs : List Int) (k : Nat) (c d r : Int), xs[k]? = some c → pvl (xs.set k (c + d)) r = pvl xs r + d * r ^ k
  | x :: xs, 0, c, d, r, h => by
    simp only [List.getElem?_cons_zero, Option.some.injEq] at h
    subst h
    simp only [List.set_cons_zero, pvl]; grind
  | x :: xs, k + 1, c, d, r, h => by
    have ih := pv_set xs k c d r (by simpa using h)
    simp only [List.set_cons_succ, pvl, ih, Int.pow_succ]; grind
  | [], k, c, d, r, h => by simp at h
/-! trimmed -/
def sp_trimmedL (K : PySem.W.Frag) : Sp := fun vs H Q _ => ∃ (a : Addr) (ns : List Int), vs = [.ref a] ∧ SqL K H a (ns.map V.int) ∧
  ∀ t cs H', H t = none → Ext H H' → H' t = some (.tup (cs.map V.int)) → (∀ r, pvl cs r = pvl ns r) → cs.getLast? ≠ some 0 → (∀ c ∈ cs, c ∈ ns) → cs.length ≤ ns.length → Q (.ref t) H'
def rd_trimmed_L1 (K : PySem.W.Frag) : TS := tAug 1 (tC (.int 1)) FW.iSub
def sp_trimmedT (K : PySem.W.Frag) : Sp := fun vs H Q _ => ∃ (a : Addr) (ns : List Int), vs = [.ref a] ∧ SqT K H a (ns.map V.int) ∧
  ∀ t cs H', Ext H H' → SqT K H' t (cs.map V.int) → (∀ r, pvl cs r = pvl ns r) → cs.getLast? ≠ some 0 → (∀ c ∈ cs, c ∈ ns) → cs.length ≤ ns.length → Q (.ref t) H'
def sp_trimmed (K : PySem.W.Frag) : Sp := fun vs H Q E => sp_trimmedL K vs H Q E ∨ sp_trimmedT K vs H Q E
def rd_trimmed (K : PySem.W.Frag) : TS := tSeq (tAsg (tCB (Evl.rLenS K) (tCons (tVar 0) (tNil))) (gName 1)) (tSeq (tWhile (tAnd (tTest (tOp FW.rGt (tVar 1) (tC (.int 0)))) (tTest (tOp rEq (tOp (rIx K) (tVar 0) (tOp FW.rSub (tVar 1) (tC (.int 1)))) (tC (.int 0))))) (rd_trimmed_L1 K)) (tRet (tCB (FW.rTupS K) (tCons (FW.tEither (tSl (rSlL K) (tVar 0) (tNoPart) (tPart (tVar 1))) (tSl (rSlA K) (tVar 0) (tNoPart) (tPart (tVar 1)))) (tNil)))))
theorem cut_take (ns : List Int) (m : Nat) : cutV (ns.map V.int) none (some (m : Int)) = (ns.take m).map V.int := by
  unfold cutV
  rw [HT.sIx_none, HT.sIx_nat]
  rw [List.drop_zero, List.length_map, Nat.sub_zero, List.map_take]
  rcases Nat.le_total m ns.length with h | h
  · rw [Nat.min_eq_left h]
  · rw [Nat.min_eq_right h, List.take_of_length_le (by simp), List.take_of_length_le (by simpa using h)]
theorem at_int {ns : List Int} {k : Nat} (h : k < ns.length) : atI (ns.map V.int) (k : Int) = some (.int ns[k]) := atI_nat (by simp [h])
theorem e_ixA {K : PySem.W.Frag} {H : Hp} {Q : VK} {a : Addr} {xs : List V} {i : Int} {v : V} (k : Q v H) (h : SqL K H a xs ∨ SqT K H a xs) (ha : atI xs i = some v) : rIx K (.ref a) (.int i) H Q :=
  h.elim (fun h => .inl (e_ixL k h ha)) fun h => .inr (.inl (e_ixT k h ha))
theorem trimmed_gen {K : PySem.W.Frag} {H : Hp} {Q : VK} {a : Addr} {ns : List Int} (hA : SqL K H a (ns.map V.int) ∨ SqT K H a (ns.map V.int))
    (fin0 : ∀ m : Nat, m ≤ ns.length → (∀ c ∈ ns.drop m, c = 0) → (ns.take m).getLast? ≠ some 0 → tRet (tCB (FW.rTupS K) (tCons (FW.tEither (tSl (rSlL K) (tVar 0) (tNoPart) (tPart (tVar 1))) (tSl (rSlA K) (tVar 0) (tNoPart) (tPart (tVar 1)))) (tNil))) { nx := fun _ H' => Q .non H', rt := Q } [some (.ref a), some (.int (m : Int))] H) :
    rd_trimmed K { nx := fun _ H' => Q .non H', rt := Q } (start ["coefficients", "many"] [.ref a]) H := by
  unfold rd_trimmed
  walk_at "rd"
  refine e_len ?_ hA
  walk_at "rd"
  rw [List.length_map]
  refine s_while (fun m σ H' => H' = H ∧ m ≤ ns.length ∧ (∀ c ∈ ns.drop m, c = 0) ∧ σ = [some (.ref a), some (.int (m : Int))]) ns.length ⟨rfl, Nat.le_refl _, by simp, rfl⟩ ?_
  rintro m σ H' ⟨rfl, hm, hz, rfl⟩
  have fin := fin0 m hm hz
  walk_at "rd"
  refine e_ite (fun hpos => ?_) (fun hno => ?_)
  · obtain ⟨k, rfl⟩ : ∃ k, m = k + 1 := ⟨m - 1, by omega⟩
    have hk : k < ns.length := by omega
    walk_at "rd"
    rw [show (((k + 1 : Nat) : Int) - 1) = (k : Int) by omega]
    refine e_ixA ?_ hA (at_int hk)
    walk_at "rd"
    have hd : decide (V.int ns[k] = V.int 0) = decide (ns[k] = 0) := decide_eq_decide.mpr ⟨fun z => by injection z, fun z => by rw [z]⟩
    rw [hd]
    refine e_ite (fun h0 => ?_) (fun h0 => ?_)
    · refine ⟨fun σ' H'' => H'' = H' ∧ k ≤ ns.length ∧ (∀ c ∈ ns.drop k, c = 0) ∧ σ' = [some (.ref a), some (.int (k : Int))], fun σ' H'' h => ⟨k, by omega, h⟩, ?_⟩
      unfold rd_trimmed_L1
      walk_at "rd"
      refine ⟨rfl, by omega, ?_, by rw [show (((k + 1 : Nat) : Int) - 1) = (k : Int) by omega]; rfl⟩
      intro c hc
      rw [List.drop_eq_getElem_cons hk] at hc
      rcases List.mem_cons.mp hc with rfl | hc
      · exact h0
      · exact hz c hc
    · refine fin ?_
      rw [List.getLast?_eq_getElem?, List.length_take, Nat.min_eq_left hm, Nat.add_sub_cancel, List.getElem?_take]
      simp [hk]
      exact h0
  · have : m = 0 := by omega
    subst this
    exact fin (by simp)
theorem pure_trimmed (K : PySem.W.Frag) (vs : List V) (H : Hp) (Q : VK) (E : XK) (h : sp_trimmed K vs H Q E) : rd_trimmed K { nx := fun _ H' => Q .non H', rt := Q } (start ["coefficients", "many"] vs) H := by
  have pvt : ∀ {ns : List Int} {m : Nat}, (∀ c ∈ ns.drop m, c = 0) → ∀ r, pvl (ns.take m) r = pvl ns r := fun {ns m} hz r => by
    have := pv_append (ns.take m) (ns.drop m) r
    rw [List.take_append_drop, pv_zeros hz r] at this
    simp at this
    exact this.symm
  rcases h with ⟨a, ns, rfl, hA, q⟩ | ⟨a, ns, rfl, hA, q⟩
  · refine trimmed_gen (.inl hA) fun m hm hz hl => ?_
    walk_at "rd"
    refine .inl ?_
    refine e_sl ?_
    walk_at "rd"
    refine e_noP ?_
    refine e_part ?_
    walk_at "rd"
    refine e_part' ?_
    refine e_slL (fun p hp => ?_) hA
    rw [cut_take]
    walk_at "rd"
    refine e_tupL (fun t ht => ?_) (SqL.of upd_same)
    have e1 := Ext.new (o := .lst ((ns.take m).map V.int)) hp
    exact q t (ns.take m) _ (e1.non ht) (e1.tr (Ext.new ht)) upd_same (pvt hz) hl (fun c hc => List.mem_of_mem_take hc) (by rw [List.length_take]; omega)
  · refine trimmed_gen (.inr hA) fun m hm hz hl => ?_
    have fin : ∀ (p : Addr) (H' : Hp), Ext H H' → SqT K H' p ((ns.take m).map V.int) → tCB (FW.rTupS K) (tCons (tC (.ref p)) tNil) [] H' Q := fun p H' e h => by
      walk_at "rd"
      exact ⟨p, _, rfl, .inr ⟨h, q p (ns.take m) H' e h (pvt hz) hl (fun c hc => List.mem_of_mem_take hc) (by rw [List.length_take]; omega)⟩⟩
    walk_at "rd"
    refine .inr ?_
    refine e_sl ?_
    walk_at "rd"
    refine e_noP ?_
    refine e_part ?_
    walk_at "rd"
    refine e_part' ?_
    refine ⟨a, _, rfl, hA, fun z => ?_, fun z p hp => ?_⟩
    · walk_at "rd"
      refine fin a H Ext.rfl' ?_
      have z2 := z.2
      rw [HT.sIx_nat, List.length_map] at z2
      have hml : ns.length ≤ m := by omega
      rw [List.take_of_length_le hml]; exact hA
    · rw [cut_take]
      walk_at "rd"
      exact fin p _ (Ext.new hp) (SqT.of upd_same)
/-! the value of a polynomial -/
theorem pv_sz : ∀ (cs : List Int) (r : Int) (b : Nat), (∀ c ∈ cs, Sz b c) → Sz b r → Sz (cs.length * (b + 1)) (pvl cs r)
  | [], r, b, _, _ => by show Sz (0 * (b + 1)) 0; rw [Nat.zero_mul]; decide
  | c :: cs, r, b, h, hr => by
    have ih := pv_sz cs r b (fun c hc => h c (List.mem_cons_of_mem _ hc)) hr
    have hm := Sz.mul hr ih
    have hc := h c List.mem_cons_self
    have e : (c :: cs).length * (b + 1) = (b + cs.length * (b + 1)) + 1 := by rw [List.length_cons, Nat.add_mul]; omega
    rw [e, pvl]
    exact (hc.mono (by omega)).add hm
def sp_poly_value (K : PySem.W.Frag) : Sp := fun vs H Q _ => ∃ (a : Addr) (ns : List Int) (r : Int) (b : Nat), vs = [.ref a, .int r] ∧ SqA K H a (ns.map V.int) ∧ (∀ c ∈ ns, Sz b c) ∧ Sz b r ∧ (ns.length + 2) * (b + 1) ≤ 900000 ∧
  ∀ H', Ext H H' → Q (.int (pvl ns r)) H'
def rd_poly_value_L1 (K : PySem.W.Frag) : TS := tAsg (tOp FW.rAdd (tOp FW.rMul (tVar 2) (tVar 1)) (tVar 3)) (gName 2)
def rd_poly_value (K : PySem.W.Frag) : TS := tSeq (tAsg (tC (.int 0)) (gName 2)) (tSeq (tFor (FW.iEither (iList K (FW.tEither (tRevL K (tVar 0)) (FW.tRevT K (tVar 0)))) (iTup K (FW.tEither (tRevL K (tVar 0)) (FW.tRevT K (tVar 0))))) (gName 3) (rd_poly_value_L1 K)) (tRet (tVar 2)))
theorem take_succ' {xs : List Int} {i : Nat} {x : Int} (h : xs[i]? = some x) : xs.take (i + 1) = xs.take i ++ [x] := by
  rw [List.take_add_one, h]; rfl
theorem rev_take {ns : List Int} {i : Nat} {x : Int} (h : ns.reverse[i]? = some x) : (ns.reverse.take (i + 1)).reverse = x :: (ns.reverse.take i).reverse := by
  rw [take_succ' h, List.reverse_append]; rfl
theorem rev_all {ns : List Int} {n : Nat} (h : n = ns.length) : (ns.reverse.take n).reverse = ns := by
  rw [h, List.take_of_length_le (by simp), List.reverse_reverse]
theorem int_at {ns : List Int} {i : Nat} {x : V} (h : (ns.map V.int).reverse[i]? = some x) : ∃ c, x = .int c ∧ ns.reverse[i]? = some c := by
  rw [← List.map_reverse, List.getElem?_map] at h
  cases e : ns.reverse[i]? with
  | none => rw [e] at h; cases h
  | some c => rw [e] at h; cases h; exact ⟨c, rfl, rfl⟩
theorem pure_poly_value (K : PySem.W.Frag) (vs : List V) (H : Hp) (Q : VK) (E : XK) (h : sp_poly_value K vs H Q E) : rd_poly_value K { nx := fun _ H' => Q .non H', rt := Q } (start ["poly", "r", "found", "coefficient"] vs) H := by
  obtain ⟨a, ns, r, b, rfl, hA, hc, hr, hsz, q⟩ := h
  unfold rd_poly_value
  walk_at "rd"
  have main : ∀ p o H1, H p = none → (o = HO.lst (ns.map V.int).reverse ∨ o = HO.tup (ns.map V.int).reverse) → H1 = upd H p o → ∃ Pv : Nat → L2.St → Hp → Prop, Pv 0 [some (.ref a), some (.int r), some (.int 0), none] H1 ∧ (∀ i σ H', Pv i σ H' → H' = H1) ∧
      (∀ i x σ H', (ns.map V.int).reverse[i]? = some x → Pv i σ H' → gName 3 x σ H' fun σ2 H2 => rd_poly_value_L1 K { nx := Pv (i + 1), ct := Pv (i + 1), bk := fun σ' H' => tRet (tVar 2) { nx := fun _ H' => Q .non H', rt := Q } σ' H', rt := Q } σ2 H2) ∧
      (∀ σ H', Pv (ns.map V.int).reverse.length σ H' → tRet (tVar 2) { nx := fun _ H' => Q .non H', rt := Q } σ H') := by
    intro p o H1 hp ho e1
    refine ⟨fun i σ H' => H' = H1 ∧ i ≤ ns.length ∧ ∃ v, σ = [some (.ref a), some (.int r), some (.int (pvl (ns.reverse.take i).reverse r)), v], ⟨rfl, Nat.zero_le _, none, rfl⟩, fun _ _ _ h => h.1, ?_, ?_⟩
    · rintro i x σ H' hx ⟨rfl, hi, v, rfl⟩
      obtain ⟨c, rfl, hci⟩ := int_at hx
      have hlt : i < ns.length := by
        have := (List.getElem?_eq_some_iff.mp hci).1
        simpa using this
      unfold rd_poly_value_L1
      walk_at "rd"
      · refine ⟨rfl, by omega, some (.int c), ?_⟩
        rw [rev_take hci, pvl]
        rw [show pvl (ns.reverse.take i).reverse r * r + c = c + r * pvl (ns.reverse.take i).reverse r by grind]
        rfl
      · have hs := pv_sz (ns.reverse.take i).reverse r b (fun c hc' => hc c (by
          have := List.mem_reverse.mp hc'
          exact List.mem_reverse.mp (List.mem_of_mem_take this))) hr
        have hlen : (ns.reverse.take i).reverse.length = i := by simp; omega
        rw [hlen] at hs
        have h1 : (i + 1) * (b + 1) ≤ (ns.length + 1) * (b + 1) := Nat.mul_le_mul_right _ (by omega)
        have h2 : (ns.length + 2) * (b + 1) = (ns.length + 1) * (b + 1) + (b + 1) := by rw [Nat.add_mul (ns.length + 1) 1, Nat.one_mul]
        have h3 : (i + 1) * (b + 1) = i * (b + 1) + (b + 1) := by rw [Nat.add_mul, Nat.one_mul]
        refine wide_mul (a := i * (b + 1) + 1) (b := b + 1) (hs.mono (by omega)) (hr.mono (by omega)) (by omega) (by omega) (by omega)
    · rintro σ H' ⟨rfl, _, v, rfl⟩
      walk_at "rd"
      rw [rev_all (by simp)]
      rw [e1]
      exact q _ (Ext.new hp)
  have hl0 : [some (V.ref a), some (V.int r), some (V.int 0), (none : Option V)][0]? = some (some (.ref a)) := rfl
  rcases hA with hA | hA
  · refine Or.inl (i_list (Or.inl ⟨_, hl0, a, _, rfl, hA, fun p hp => ?_⟩))
    obtain ⟨Pv, h0, hk, hs, hd⟩ := main p _ _ hp (.inl rfl) rfl
    refine i_list' _ ?_ (SqL.of upd_same)
    exact for_list (xs := (ns.map V.int).reverse) Pv h0 (fun i σ H' _ p => by rw [hk i σ H' p]; exact SqL.of upd_same) hs hd
  · refine Or.inr (i_tup (Or.inr ⟨_, hl0, a, _, rfl, hA, fun p hp => ?_⟩))
    obtain ⟨Pv, h0, hk, hs, hd⟩ := main p _ _ hp (.inr rfl) rfl
    refine i_tup' _ ?_ (SqT.of upd_same)
    exact for_tup (xs := (ns.map V.int).reverse) Pv h0 (fun i σ H' _ p => by rw [hk i σ H' p]; exact SqT.of upd_same) hs hd
end FWL
namespace FWL
open PySem PySem.Spec PyProof.Rows L2 FW
/-! ### cells and rows -/
theorem list_at {xs : List V} {i : Int} (h0 : 0 ≤ i) (h : i < (xs.length : Int)) : ∃ v, v ∈ xs ∧ atI xs i = some v := by
  obtain ⟨k, rfl⟩ := Int.eq_ofNat_of_zero_le h0
  have hk : k < xs.length := by omega
  exact ⟨xs[k], List.getElem_mem _, atI_nat (List.getElem?_eq_getElem hk)⟩
def sp_l_cell_at (K : PySem.W.Frag) : Sp := fun vs H Q _ => ∃ (a : Addr) (ns : List Int) (k : Int), vs = [.ref a, .int k] ∧ SqL K H a (ns.map V.int) ∧ 0 ≤ k ∧ ∀ c, Q (.int c) H
def rd_l_cell_at (K : PySem.W.Frag) : TS := tSeq (tIfS (tTest (tOp FW.rLt (tVar 1) (tCB (Evl.rLenS K) (tCons (tVar 0) (tNil))))) (tRet (tOp (rIxL K) (tVar 0) (tVar 1))) (tNext)) (tRet (tC (.int 0)))
theorem pure_l_cell_at (K : PySem.W.Frag) (vs : List V) (H : Hp) (Q : VK) (E : XK) (h : sp_l_cell_at K vs H Q E) : rd_l_cell_at K { nx := fun _ H' => Q .non H', rt := Q } (start ["_law_script", "_law_k"] vs) H := by
  obtain ⟨a, ns, k, rfl, hA, hk, q⟩ := h
  unfold rd_l_cell_at
  walk_at "rd"
  refine e_len ?_ (.inl hA)
  walk_at "rd"
  refine e_ite (fun h => ?_) (fun h => ?_)
  · rw [List.length_map] at h
    obtain ⟨i, hi⟩ := at_map hk h
    walk_at "rd"
    refine e_ixL ?_ hA hi
    exact q _
  · walk_at "rd"
    exact q _
def sp_l_mixed (K : PySem.W.Frag) : Sp := fun vs H Q _ => ∃ c k : Int, vs = [.int c, .int k] ∧ 0 ≤ k ∧ k < 100000 ∧ ∀ v, 0 ≤ v → Q (.int v) H
def rd_l_mixed (K : PySem.W.Frag) : TS := tSeq (tAsg (tOp FW.rMod (tCB FW.rInt1 (tCons (tOp FW.rPow (tOp FW.rAdd (tOp FW.rAdd (tOp FW.rMod (tCB FW.rInt1 (tCons (tVar 0) (tNil))) (tC (.int 2147483647))) (tOp FW.rMul (tC (.int 7919)) (tVar 1))) (tC (.int 104729))) (tC (.int 5))) (tNil))) (tC (.int 2147483647))) (gName 2)) (tRet (tOp FW.rMod (tCB FW.rInt1 (tCons (tOp FW.rMul (tOp FW.rAdd (tVar 2) (tVar 1)) (tC (.int 40692))) (tNil))) (tC (.int 2147483629))))
theorem pure_l_mixed (K : PySem.W.Frag) (vs : List V) (H : Hp) (Q : VK) (E : XK) (h : sp_l_mixed K vs H Q E) : rd_l_mixed K { nx := fun _ H' => Q .non H', rt := Q } (start ["_law_cell", "_law_k", "_law_spread"] vs) H := by
  obtain ⟨c, k, rfl, hk, hk1, q⟩ := h
  have h0 : 0 ≤ c % 2147483647 := Int.emod_nonneg _ (by decide)
  have h1 : c % 2147483647 < 2147483647 := Int.emod_lt_of_pos _ (by decide)
  have hs : 0 ≤ ((c % 2147483647 + 7919 * k + 104729) ^ (5 : Int).toNat) % 2147483647 := Int.emod_nonneg _ (by decide)
  have hs2 : ((c % 2147483647 + 7919 * k + 104729) ^ (5 : Int).toNat) % 2147483647 < 2147483647 := Int.emod_lt_of_pos _ (by decide)
  unfold rd_l_mixed
  walk_at "rd"
  · walk_at "rd"
    · exact q _ (Int.emod_nonneg _ (by decide))
  · decide
  · exact wide_mul (a := 60) (b := 20) (by omega) (by decide) (by decide) (by decide) (by decide)
  · decide
  · refine ⟨by decide, by decide, ?_⟩
    have : (2 : Nat) ^ 64 = 18446744073709551616 := by decide
    omega
  · exact wide_mul (a := 20) (b := 40) (by decide) (by omega) (by decide) (by decide) (by decide)
  · decide
def sp_l_apart (K : PySem.W.Frag) : Sp := fun vs H Q _ => ∃ c k : Int, vs = [.int c, .int k] ∧ 0 ≤ k ∧ k < 100000 ∧ ∀ v, Q (.int v) H
def rd_l_apart (K : PySem.W.Frag) : TS := tSeq (tIfS (tTest (tOp FW.rGe (tCB FW.rAbs (tCons (tVar 0) (tNil))) (tOp FW.rPow (tC (.int 10)) (tC (.int 18))))) (tRet (tVar 0)) (tNext)) (tRet (tOp FW.rAdd (tVar 0) (tOp FW.rMul (tC (.int 1000003)) (tVar 1))))
theorem pure_l_apart (K : PySem.W.Frag) (vs : List V) (H : Hp) (Q : VK) (E : XK) (h : sp_l_apart K vs H Q E) : rd_l_apart K { nx := fun _ H' => Q .non H', rt := Q } (start ["_law_cell", "_law_k"] vs) H := by
  obtain ⟨c, k, rfl, hk, hk1, q⟩ := h
  unfold rd_l_apart
  walk_at "rd"
  · refine e_ite (fun h => ?_) (fun h => ?_)
    · walk_at "rd"
      exact q _
    · walk_at "rd"
      · exact q _
      · exact wide_mul (a := 20) (b := 40) (by decide) (by omega) (by decide) (by decide) (by decide)
  · exact ⟨by decide, by decide, by decide⟩
/-- a row: numbers from 0 to 999 -/
def Row (xs : List Int) (n : Nat) : Prop := xs.length = n ∧ ∀ x ∈ xs, 0 ≤ x ∧ x < 1000
def sp_l_row (K : PySem.W.Frag) : Sp := fun vs H Q _ => ∃ (c : Int) (m : Nat), vs = [.int c, .int (m : Int)] ∧ m < 1000 ∧ ∀ (L : Addr) (xs : List Int) (H' : Hp), H L = none → Ext H H' → H' L = some (.lst (xs.map V.int)) → Row xs m → Q (.ref L) H'
def rd_l_row_L1 (K : PySem.W.Frag) : TS := tSeq (tDrop (tBM K "list" rAppend (tVar 3) (tCons (tOp FW.rMod (tCB FW.rInt1 (tCons (tIf (tTest (tOp FW.rGt (tVar 2) (tC (.int 0)))) (tVar 2) (tCall (sp_l_mixed K) [] E0 (tCons (tVar 0) (tCons (tVar 4) (tNil))))) (tNil))) (tC (.int 1000))) (tNil)))) (tAsg (tOp FW.rDiv (tVar 2) (tC (.int 1000))) (gName 2))
def rd_l_row (K : PySem.W.Frag) : TS := tSeq (tAsg (tIf (tTest (tOp FW.rGe (tCB FW.rAbs (tCons (tVar 0) (tNil))) (tOp FW.rPow (tC (.int 10)) (tC (.int 18))))) (tCB FW.rAbs (tCons (tVar 0) (tNil))) (tC (.int 0))) (gName 2)) (tSeq (tAsg (tLst (tNil)) (gName 3)) (tSeq (tFor (iRng1 (tCons (tVar 1) (tNil))) (gName 4) (rd_l_row_L1 K)) (tRet (tVar 3))))
theorem pure_l_row (K : PySem.W.Frag) (vs : List V) (H : Hp) (Q : VK) (E : XK) (h : sp_l_row K vs H Q E) : rd_l_row K { nx := fun _ H' => Q .non H', rt := Q } (start ["_law_cell", "_law_many", "_law_left", "_law_row_here", "_law_k"] vs) H := by
  obtain ⟨c, m, rfl, hm, q⟩ := h
  have main : ∀ left : Int, 0 ≤ left → (tSeq (tAsg (tLst (tNil)) (gName 3)) (tSeq (tFor (iRng1 (tCons (tVar 1) (tNil))) (gName 4) (rd_l_row_L1 K)) (tRet (tVar 3)))) { nx := fun _ H' => Q .non H', rt := Q } [some (.int c), some (.int (m : Int)), some (.int left), none, none] H := by
    intro left hleft
    walk_at "rd"
    refine ⟨by show 0 ≤ sizeLine; decide, fun L hL => ?_⟩
    walk_at "rd"
    · refine for_range (lo := 0) (n := (m : Int).toNat) (fun i σ H' => Ext H H' ∧ ∃ (left : Int) (xs : List Int) (v : Option V), 0 ≤ left ∧ H' L = some (.lst (xs.map V.int)) ∧ Row xs i ∧ σ = [some (.int c), some (.int (m : Int)), some (.int left), some (.ref L), v]) ⟨Ext.new hL, left, [], _, hleft, upd_same, ⟨rfl, by simp⟩, rfl⟩ ?_ ?_
      · rintro i σ H' hi ⟨e, left, xs, v, hl, hx, hr, rfl⟩
        have fin : ∀ y : Int, 0 ≤ y → y < 1000 → rAppend (.ref L) [.int y] H' fun _ H1 => (tAsg (tOp FW.rDiv (tVar 2) (tC (.int 1000))) (gName 2)) { nx := fun σ H' => Ext H H' ∧ ∃ (left : Int) (xs : List Int) (v : Option V), 0 ≤ left ∧ H' L = some (.lst (xs.map V.int)) ∧ Row xs (i + 1) ∧ σ = [some (.int c), some (.int (m : Int)), some (.int left), some (.ref L), v], ct := fun σ H' => Ext H H' ∧ ∃ (left : Int) (xs : List Int) (v : Option V), 0 ≤ left ∧ H' L = some (.lst (xs.map V.int)) ∧ Row xs (i + 1) ∧ σ = [some (.int c), some (.int (m : Int)), some (.int left), some (.ref L), v], bk := fun σ' H' => tRet (tVar 3) { nx := fun _ H' => Q .non H', rt := Q } σ' H', rt := Q } [some (.int c), some (.int (m : Int)), some (.int left), some (.ref L), some (.int (0 + (i : Int)))] H1 := by
          intro y y0 y1
          refine ⟨L, _, _, rfl, rfl, hx, ?_, ?_⟩
          · rw [List.length_map, hr.1]; show _ < 2 ^ 24; omega
          walk_at "rd"
          · refine ⟨e.upds hL, left / 1000, xs ++ [y], _, by omega, by rw [upd_same, List.map_append]; rfl, ⟨by simp [hr.1], fun x hx' => ?_⟩, rfl⟩
            rcases List.mem_append.mp hx' with h | h
            · exact hr.2 x h
            · rw [List.mem_singleton.mp h]; exact ⟨y0, y1⟩
          · exact ⟨by decide, by decide⟩
        walk_at "re"
        unfold rd_l_row_L1
        walk_at "rd"
        refine ⟨Or.inl ⟨rfl, _, SqL.of hx⟩, ?_⟩
        walk_at "rd"
        refine e_ite (fun h => ?_) (fun h => ?_)
        · walk_at "re"
          · exact fin _ (Int.emod_nonneg _ (by decide)) (Int.emod_lt_of_pos _ (by decide))
          · decide
        · walk_at "re"
          refine ⟨c, 0 + (i : Int), rfl, by omega, by omega, fun w hw => ?_⟩
          walk_at "re"
          · exact fin _ (Int.emod_nonneg _ (by decide)) (Int.emod_lt_of_pos _ (by decide))
          · decide
      · rintro σ H' ⟨e, left, xs, v, hl, hx, hr, rfl⟩
        walk_at "rd"
        exact q L xs H' hL e hx (by simpa using hr)
    · omega
  unfold rd_l_row
  walk_at "rd"
  · refine e_ite (fun h => ?_) (fun h => ?_)
    · walk_at "re"
      refine main (if c < 0 then -c else c) (by split <;> omega)
    · walk_at "re"
      exact main 0 (by decide)
  · exact ⟨by decide, by decide, by decide⟩
theorem row_at {xs : List Int} {n : Nat} {i : Int} (h : Row xs n) (h0 : 0 ≤ i) (h1 : i < n) : ∃ x, 0 ≤ x ∧ x < 1000 ∧ atI (xs.map V.int) i = some (.int x) := by
  obtain ⟨k, rfl⟩ := Int.eq_ofNat_of_zero_le h0
  have hk : k < xs.length := by rw [h.1]; omega
  obtain ⟨a, b⟩ := h.2 xs[k] (List.getElem_mem _)
  exact ⟨xs[k], a, b, at_int hk⟩
def sp_l_great (K : PySem.W.Frag) : Sp := fun vs H Q _ => ∃ (L : Addr) (xs : List Int) (n : Nat) (a m : Int), vs = [.ref L, .int a, .int m] ∧ H L = some (.lst (xs.map V.int)) ∧ Row xs n ∧ 0 ≤ a ∧ 0 ≤ m ∧ m ≤ 100 ∧ a + m ≤ n ∧ ∀ v : Int, 0 ≤ v → v < 1000 ^ m.toNat → Q (.int v) H
def rd_l_great_L1 (K : PySem.W.Frag) : TS := tAsg (tOp FW.rAdd (tOp FW.rMul (tC (.int 1000)) (tVar 3)) (tCB FW.rInt1 (tCons (tOp (rIxL K) (tVar 0) (tOp FW.rAdd (tVar 1) (tVar 4))) (tNil)))) (gName 3)
def rd_l_great (K : PySem.W.Frag) : TS := tSeq (tAsg (tC (.int 0)) (gName 3)) (tSeq (tFor (iRng1 (tCons (tVar 2) (tNil))) (gName 4) (rd_l_great_L1 K)) (tRet (tVar 3)))
theorem pure_l_great (K : PySem.W.Frag) (vs : List V) (H : Hp) (Q : VK) (E : XK) (h : sp_l_great K vs H Q E) : rd_l_great K { nx := fun _ H' => Q .non H', rt := Q } (start ["_law_row_here", "_law_at", "_law_many", "_law_found", "_law_k"] vs) H := by
  obtain ⟨L, xs, n, a, m, rfl, hL, hr, ha, hm, hm1, ham, q⟩ := h
  unfold rd_l_great
  walk_at "rd"
  · refine for_range (lo := 0) (n := m.toNat) (fun i σ H' => H' = H ∧ ∃ (f : Int) (v : Option V), 0 ≤ f ∧ f < 1000 ^ i ∧ σ = [some (.ref L), some (.int a), some (.int m), some (.int f), v]) ⟨rfl, 0, _, by decide, by decide, rfl⟩ ?_ ?_
    · rintro i σ H' hi ⟨rfl, f, v, f0, f1, rfl⟩
      obtain ⟨x, x0, x1, hx⟩ := row_at (i := a + (0 + (i : Int))) hr (by omega) (by omega)
      have hp : (1000 : Int) ^ (i + 1) = 1000 ^ i * 1000 := Int.pow_succ ..
      walk_at "re"
      unfold rd_l_great_L1
      walk_at "rd"
      · refine e_ixL ?_ (SqL.of hL) hx
        walk_at "rd"
        refine ⟨rfl, 1000 * f + x, _, by omega, ?_, rfl⟩
        rw [hp]; omega
      · refine wide_mul (a := 10) (b := 1001) (by decide) ?_ (by decide) (by decide) (by decide)
        exact (Sz.of_le f0 (by omega : f ≤ 1000 ^ i) (Sz.pow (b := 10) (by decide) (by decide) i)).mono (by omega)
    · rintro σ H' ⟨rfl, f, v, f0, f1, rfl⟩
      walk_at "rd"
      exact q f f0 f1
  · omega
theorem e_max1 {K : PySem.W.Frag} {H : Hp} {Q : VK} {a : Addr} {i j : Int} (k : ∀ m, (m = i ∨ m = j) → i ≤ m → j ≤ m → Q (.int m) H) (h : H a = some (.lst [.int i, .int j])) : rMax K [.ref a] H Q :=
  ⟨a, [i, j], rfl, SqL.of h, by show 0 < 2; decide, fun m hm hy => k m (by simpa using hm) (hy i (by simp)) (hy j (by simp))⟩
theorem e_min1 {K : PySem.W.Frag} {H : Hp} {Q : VK} {a : Addr} {i j : Int} (k : ∀ m, (m = i ∨ m = j) → m ≤ i → m ≤ j → Q (.int m) H) (h : H a = some (.lst [.int i, .int j])) : rMin K [.ref a] H Q :=
  ⟨a, [i, j], rfl, SqL.of h, by show 0 < 2; decide, fun m hm hy => k m (by simpa using hm) (hy i (by simp)) (hy j (by simp))⟩
end FWL
namespace FWL
open PySem PySem.Spec PyProof.Rows L2 FW
/-! ### sign, bits -/
def sgn (i : Int) : Int := (if i > 0 then 1 else 0) - (if i < 0 then 1 else 0)
def sp_sign (K : PySem.W.Frag) : Sp := fun vs H Q _ => ∃ i : Int, vs = [.int i] ∧ Q (.int (sgn i)) H
def rd_sign (K : PySem.W.Frag) : TS := tRet (tOp FW.rSub (tCB FW.rInt1 (tCons (tOp FW.rGt (tVar 0) (tC (.int 0))) (tNil))) (tCB FW.rInt1 (tCons (tOp FW.rLt (tVar 0) (tC (.int 0))) (tNil))))
theorem ite_dec (p : Prop) [Decidable p] : (if decide p = true then (1 : Int) else 0) = if p then 1 else 0 := by
  by_cases h : p <;> simp [h]
theorem pure_sign (K : PySem.W.Frag) (vs : List V) (H : Hp) (Q : VK) (E : XK) (h : sp_sign K vs H Q E) : rd_sign K { nx := fun _ H' => Q .non H', rt := Q } (start ["number"] vs) H := by
  obtain ⟨i, rfl, q⟩ := h
  unfold rd_sign
  walk_at "rd"
  rw [ite_dec, ite_dec]
  exact q
theorem two_pow_pos (n : Nat) : (1 : Int) ≤ 2 ^ n := pow_pos' (by decide) n
theorem shr_pos {n : Int} {j : Nat} : (0 < n / 2 ^ j) ↔ 2 ^ j ≤ n := by
  have := two_pow_pos j
  constructor
  · intro h
    have h1 : (1 : Int) ≤ n / 2 ^ j := h
    rw [Int.le_ediv_iff_mul_le (by omega)] at h1
    omega
  · intro h
    have : (1 : Int) ≤ n / 2 ^ j := by
      rw [Int.le_ediv_iff_mul_le (by omega)]
      omega
    omega
theorem pow_le_right {x : Int} (hx : 1 ≤ x) {a b : Nat} (h : a ≤ b) : x ^ a ≤ x ^ b := by
  obtain ⟨c, rfl⟩ := Nat.le.dest h
  rw [Int.pow_add]
  have h1 := pow_pos' hx a
  have h2 := pow_pos' hx c
  have : x ^ a * 1 ≤ x ^ a * x ^ c := Int.mul_le_mul_of_nonneg_left h2 (by omega)
  omega
theorem two_le_inv {a b : Nat} (h : (2 : Int) ^ a < 2 ^ b) : a < b := by
  rcases Nat.lt_or_ge a b with h1 | h1
  · exact h1
  · have : (2 : Int) ^ b ≤ 2 ^ a := pow_le_right (by decide) h1
    omega
def sp_bits (K : PySem.W.Frag) : Sp := fun vs H Q _ => ∃ n : Int, vs = [.int n] ∧ 0 ≤ n ∧ Sz 2000 n ∧ ∀ (b : Nat) H', n < 2 ^ b → (b = 0 ∨ 2 ^ (b - 1) ≤ n) → Ext H H' → Q (.int (b : Int)) H'
def rd_bits_L1 (K : PySem.W.Frag) : TS := tAug 2 (tC (.int 2)) FW.iMul
def rd_bits_L2 (K : PySem.W.Frag) : TS := tSeq (tAsg (tOp FW.rDiv (tOp FW.rAdd (tVar 1) (tVar 2)) (tC (.int 2))) (gName 3)) (tIfS (tTest (tOp FW.rGt (tOp FW.rShr (tVar 0) (tVar 3)) (tC (.int 0)))) (tAsg (tOp FW.rAdd (tVar 3) (tC (.int 1))) (gName 1)) (tAsg (tVar 3) (gName 2)))
def rd_bits (K : PySem.W.Frag) : TS := tSeq (tAsg (tTup (tCons (tC (.int 0)) (tCons (tC (.int 1)) (tNil)))) (gTup K 2 (gCons (gName 1) (gCons (gName 2) (gNil))))) (tSeq (tWhile (tTest (tOp FW.rGt (tOp FW.rShr (tVar 0) (tVar 2)) (tC (.int 0)))) (rd_bits_L1 K)) (tSeq (tWhile (tTest (tOp FW.rLt (tVar 1) (tVar 2))) (rd_bits_L2 K)) (tRet (tVar 1))))
theorem pure_bits (K : PySem.W.Frag) (vs : List V) (H : Hp) (Q : VK) (E : XK) (h : sp_bits K vs H Q E) : rd_bits K { nx := fun _ H' => Q .non H', rt := Q } (start ["n", "low", "high", "middle"] vs) H := by
  obtain ⟨n, rfl, hn, hs, q⟩ := h
  have hnb : n < 2 ^ 2000 := by
    have : n.natAbs < 2 ^ 2000 := hs
    have e : ((2 ^ 2000 : Nat) : Int) = 2 ^ 2000 := by rw [Int.natCast_pow]; rfl
    omega
  unfold rd_bits
  walk_at "rd"
  refine ⟨by show 2 ≤ sizeLine; decide, fun q1 hq1 => ?_⟩
  refine g_tup ?_ (SqT.of upd_same) rfl
  have eE := Ext.new (o := .tup [V.int 0, V.int 1]) hq1
  generalize upd H q1 (.tup [V.int 0, V.int 1]) = H at *
  walk_at "rd"
  refine s_while (fun m σ H' => H' = H ∧ ∃ (j : Nat) (v : Option V), 1 ≤ j ∧ j ≤ 4000 ∧ m = 4000 - j ∧ σ = [some (.int n), some (.int 0), some (.int (j : Int)), v]) _ ⟨rfl, 1, none, by decide, by decide, rfl, rfl⟩ ?_
  rintro m σ H' ⟨rfl, j, v, j1, j2, rfl, rfl⟩
  walk_at "rd"
  · rw [Int.toNat_natCast]
    refine e_ite (fun hgo => ?_) (fun hno => ?_)
    · have hle : (2 : Int) ^ j ≤ n := shr_pos.mp hgo
      have hj : j < 2000 := two_le_inv (by omega)
      refine ⟨fun σ' H'' => H'' = H' ∧ ∃ (j' : Nat) (v : Option V), 1 ≤ j' ∧ j' ≤ 4000 ∧ j < j' ∧ σ' = [some (.int n), some (.int 0), some (.int (j' : Int)), v], fun σ' H'' h => ?_, ?_⟩
      · obtain ⟨h1, j', v', a1, a2, a3, a4⟩ := h
        exact ⟨4000 - j', by omega, h1, j', v', a1, a2, rfl, a4⟩
      unfold rd_bits_L1
      walk_at "rd"
      · refine ⟨rfl, 2 * j, v, by omega, by omega, by omega, ?_⟩
        rw [show ((j : Int) * 2) = ((2 * j : Nat) : Int) by omega]; rfl
      · exact wide_mul (a := 20) (b := 10) (by omega) (by decide) (by decide) (by decide) (by decide)
    · have hlt : n < 2 ^ j := by
        rcases Int.lt_or_le n (2 ^ j) with h | h
        · exact h
        · exact absurd (shr_pos.mpr h) hno
      walk_at "rd"
      refine s_while (fun m σ H'' => H'' = H' ∧ ∃ (lo hi : Nat) (v : Option V), lo ≤ hi ∧ hi ≤ 4000 ∧ n < 2 ^ hi ∧ (lo = 0 ∨ 2 ^ (lo - 1) ≤ n) ∧ m = hi - lo ∧ σ = [some (.int n), some (.int (lo : Int)), some (.int (hi : Int)), v]) _ ⟨rfl, 0, j, v, by omega, by omega, hlt, .inl rfl, rfl, rfl⟩ ?_
      rintro m σ H'' ⟨rfl, lo, hi, v, l1, l2, p1, p2, rfl, rfl⟩
      walk_at "rd"
      refine e_ite (fun hgo => ?_) (fun hno => ?_)
      · refine ⟨fun σ' H2 => H2 = H'' ∧ ∃ (lo' hi' : Nat) (v : Option V), lo' ≤ hi' ∧ hi' ≤ 4000 ∧ n < 2 ^ hi' ∧ (lo' = 0 ∨ 2 ^ (lo' - 1) ≤ n) ∧ hi' - lo' < hi - lo ∧ σ' = [some (.int n), some (.int (lo' : Int)), some (.int (hi' : Int)), v], fun σ' H2 h => ?_, ?_⟩
        · obtain ⟨h1, lo', hi', v', a1, a2, a3, a4, a5, a6⟩ := h
          exact ⟨_, a5, h1, lo', hi', v', a1, a2, a3, a4, rfl, a6⟩
        unfold rd_bits_L2
        walk_at "rd"
        · have em : ((lo : Int) + (hi : Int)) / 2 = (((lo + hi) / 2 : Nat) : Int) := by omega
          rw [em, Int.toNat_natCast]
          refine e_ite (fun hg => ?_) (fun hg => ?_)
          · have hle := shr_pos.mp hg
            walk_at "rd"
            refine ⟨rfl, (lo + hi) / 2 + 1, hi, some (.int (((lo + hi) / 2 : Nat) : Int)), by omega, l2, p1, .inr ?_, by omega, ?_⟩
            · rw [Nat.add_sub_cancel]; exact hle
            · rw [show ((((lo + hi) / 2 : Nat) : Int) + 1) = (((lo + hi) / 2 + 1 : Nat) : Int) by omega]; rfl
          · have hlt' : n < 2 ^ ((lo + hi) / 2) := by
              rcases Int.lt_or_le n (2 ^ ((lo + hi) / 2)) with h | h
              · exact h
              · exact absurd (shr_pos.mpr h) hg
            walk_at "rd"
            exact ⟨rfl, lo, (lo + hi) / 2, _, by omega, by omega, hlt', p2, by omega, rfl⟩
        · omega
        · exact ⟨by decide, by decide⟩
      · walk_at "rd"
        have : lo = hi := by omega
        subst this
        exact q lo _ p1 p2 eE
  · omega
/-! ### the whole root, by Newton's steps -/
theorem conv (g r : Int) (hg : 0 ≤ g) (hr : 0 ≤ r) : ∀ k : Nat, g ^ (k + 1) + (k + 1 : Int) * g ^ k * (r - g) ≤ r ^ (k + 1)
  | 0 => by
    have e1 : g ^ (0 + 1) = g := by rw [Int.pow_succ, Int.pow_zero, Int.one_mul]
    have e2 : r ^ (0 + 1) = r := by rw [Int.pow_succ, Int.pow_zero, Int.one_mul]
    rw [e1, e2, Int.pow_zero]; simp; omega
  | k + 1 => by
    have ih := conv g r hg hr k
    have h1 : r * (g ^ (k + 1) + (k + 1 : Int) * g ^ k * (r - g)) ≤ r * r ^ (k + 1) := Int.mul_le_mul_of_nonneg_left ih hr
    have h2 : 0 ≤ (k + 1 : Int) * g ^ k * ((r - g) * (r - g)) := by
      have a1 : 0 ≤ g ^ k := Int.pow_nonneg hg
      have a2 : 0 ≤ (r - g) * (r - g) := by
        rcases Int.le_total 0 (r - g) with h | h
        · exact Int.mul_nonneg h h
        · exact Int.mul_nonneg_of_nonpos_of_nonpos h h
      exact Int.mul_nonneg (Int.mul_nonneg (by omega) a1) a2
    have e1 : r ^ (k + 1 + 1) = r * r ^ (k + 1) := by rw [Int.pow_succ, Int.mul_comm]
    have e2 : g ^ (k + 1 + 1) = g * g * g ^ k := by rw [Int.pow_succ, Int.pow_succ]; grind
    have e3 : g ^ (k + 1) = g * g ^ k := by rw [Int.pow_succ, Int.mul_comm]
    rw [e1]
    have e4 : g ^ (k + 1 + 1) + ((k + 1 : Nat) + 1 : Int) * g ^ (k + 1) * (r - g) = r * (g ^ (k + 1) + (k + 1 : Int) * g ^ k * (r - g)) - (k + 1 : Int) * g ^ k * ((r - g) * (r - g)) := by
      rw [e2, e3]; push_cast; grind
    rw [e4]
    omega
/-- a step of Newton's leads to no guess below the root -/
theorem newton_ge {n g r : Int} {k : Nat} (hg : 1 ≤ g) (hr : 0 ≤ r) (hn : r ^ (k + 1) ≤ n) : r ≤ ((k : Int) * g + n / g ^ k) / (k + 1) := by
  have hp : 1 ≤ g ^ k := pow_pos' hg k
  rw [Int.le_ediv_iff_mul_le (by omega)]
  have h := conv g r (by omega) hr k
  have hq : (k + 1 : Int) * (r - g) + g ≤ n / g ^ k := by
    rw [Int.le_ediv_iff_mul_le (by omega)]
    have e : ((k + 1 : Int) * (r - g) + g) * g ^ k = g ^ (k + 1) + (k + 1 : Int) * g ^ k * (r - g) := by rw [Int.pow_succ]; grind
    rw [e]; omega
  have e : r * (k + 1 : Int) = (k : Int) * g + ((k + 1 : Int) * (r - g) + g) := by grind
  rw [e]; omega
theorem newton_stop {n g : Int} {k : Nat} (hg : 1 ≤ g) (h : g ≤ ((k : Int) * g + n / g ^ k) / (k + 1)) : g ^ (k + 1) ≤ n := by
  have hp : 1 ≤ g ^ k := pow_pos' hg k
  rw [Int.le_ediv_iff_mul_le (by omega)] at h
  have e : g * (k + 1 : Int) = (k : Int) * g + g := by grind
  rw [e] at h
  have hq : g ≤ n / g ^ k := by omega
  rw [Int.le_ediv_iff_mul_le (by omega)] at hq
  rw [Int.pow_succ, Int.mul_comm]; exact hq
theorem root_exists (n : Int) (hn : 0 ≤ n) (k : Nat) : ∃ r : Int, 0 ≤ r ∧ r ^ (k + 1) ≤ n ∧ n < (r + 1) ^ (k + 1) := by
  have key : ∀ m : Nat, (∃ r : Int, 0 ≤ r ∧ r ^ (k + 1) ≤ n ∧ n < (r + 1) ^ (k + 1)) ∨ ((m : Int) ^ (k + 1) ≤ n) := by
    intro m
    induction m with
    | zero =>
      refine .inr ?_
      show (0 : Int) ^ (k + 1) ≤ n
      rw [Int.zero_pow (by omega)]; exact hn
    | succ m ih =>
      rcases ih with h | h
      · exact .inl h
      · rcases Int.lt_or_le n (((m : Int) + 1) ^ (k + 1)) with h1 | h1
        · exact .inl ⟨m, by omega, h, h1⟩
        · exact .inr (by push_cast; exact h1)
  rcases key (n.toNat + 1) with h | h
  · exact h
  · have := pow_ge_self (x := ((n.toNat + 1 : Nat) : Int)) (by omega) (k + 1) (by omega)
    omega
theorem root_unique {n r s : Int} {k : Nat} (hr : 0 ≤ r) (hs : 0 ≤ s) (r1 : r ^ k ≤ n) (r2 : n < (r + 1) ^ k) (s1 : s ^ k ≤ n) (s2 : n < (s + 1) ^ k) : r = s := by
  have h1 := pow_lt_inv (x := r) (y := s + 1) (n := k) (by omega) (by omega) hr
  have h2 := pow_lt_inv (x := s) (y := r + 1) (n := k) (by omega) (by omega) hs
  omega
def sp_whole_root (K : PySem.W.Frag) : Sp := fun vs H Q _ => ∃ n k : Int, vs = [.int n, .int k] ∧ 0 ≤ n ∧ 1 ≤ k ∧ k ≤ 64 ∧ Sz 2000 n ∧ ∀ (r : Int) H', 0 ≤ r → r ^ k.toNat ≤ n → n < (r + 1) ^ k.toNat → Ext H H' → Q (.int r) H'
def rd_whole_root_L1 (K : PySem.W.Frag) : TS := tSeq (tAsg (tVar 3) (gName 2)) (tAsg (tOp FW.rDiv (tOp FW.rAdd (tOp FW.rMul (tOp FW.rSub (tVar 1) (tC (.int 1))) (tVar 2)) (tOp FW.rDiv (tVar 0) (tCall (sp_power K) [] E0 (tCons (tVar 2) (tCons (tOp FW.rSub (tVar 1) (tC (.int 1))) (tNil)))))) (tVar 1)) (gName 3))
def rd_whole_root (K : PySem.W.Frag) : TS := tSeq (tIfS (tOr (tTest (tOp rEq (tVar 0) (tC (.int 0)))) (tTest (tOp rEq (tVar 1) (tC (.int 1))))) (tRet (tVar 0)) (tNext)) (tSeq (tAsg (tOp FW.rShl (tC (.int 1)) (tOp FW.rDiv (tOp FW.rSub (tOp FW.rAdd (tCall (sp_bits K) [] E0 (tCons (tVar 0) (tNil))) (tVar 1)) (tC (.int 1))) (tVar 1))) (gName 2)) (tSeq (tAsg (tOp FW.rDiv (tOp FW.rAdd (tOp FW.rMul (tOp FW.rSub (tVar 1) (tC (.int 1))) (tVar 2)) (tOp FW.rDiv (tVar 0) (tCall (sp_power K) [] E0 (tCons (tVar 2) (tCons (tOp FW.rSub (tVar 1) (tC (.int 1))) (tNil)))))) (tVar 1)) (gName 3)) (tSeq (tWhile (tTest (tOp FW.rLt (tVar 3) (tVar 2))) (rd_whole_root_L1 K)) (tRet (tVar 2)))))
theorem ceil_pow {n : Int} {b k : Nat} (hk : 1 ≤ k) (h : n < 2 ^ b) : n < (2 ^ ((b + k - 1) / k)) ^ k := by
  rw [← Int.pow_mul]
  refine Int.lt_of_lt_of_le h (pow_le_right (by decide) ?_)
  have h1 := Nat.div_add_mod (b + k - 1) k
  have h2 := Nat.mod_lt (b + k - 1) hk
  rw [Nat.mul_comm]
  omega
theorem pure_whole_root (K : PySem.W.Frag) (vs : List V) (H : Hp) (Q : VK) (E : XK) (h : sp_whole_root K vs H Q E) : rd_whole_root K { nx := fun _ H' => Q .non H', rt := Q } (start ["n", "k", "guess", "below"] vs) H := by
  obtain ⟨n, k, rfl, hn, hk1, hk64, hs, q⟩ := h
  have hd1 : decide (V.int n = V.int 0) = decide (n = 0) := decide_eq_decide.mpr ⟨fun z => by injection z, fun z => by rw [z]⟩
  have hd2 : decide (V.int k = V.int 1) = decide (k = 1) := decide_eq_decide.mpr ⟨fun z => by injection z, fun z => by rw [z]⟩
  unfold rd_whole_root
  walk_at "rd"
  rw [hd1]
  refine e_ite (fun h0 => ?_) (fun h0 => ?_)
  · walk_at "rd"
    subst h0
    refine q 0 H (by decide) ?_ ?_ Ext.rfl'
    · rw [Int.zero_pow (by omega)]; decide
    · show (0 : Int) < (0 + 1) ^ k.toNat
      rw [show (0 : Int) + 1 = 1 by decide, Int.one_pow]; decide
  walk_at "rd"
  rw [hd2]
  refine e_ite (fun h1 => ?_) (fun h1 => ?_)
  · walk_at "rd"
    subst h1
    refine q n H hn ?_ ?_ Ext.rfl'
    · show n ^ 1 ≤ n
      rw [Int.pow_succ, Int.pow_zero, Int.one_mul]; exact Int.le_refl _
    · show n < (n + 1) ^ 1
      rw [Int.pow_succ, Int.pow_zero, Int.one_mul]; omega
  obtain ⟨j, rfl⟩ : ∃ j : Nat, k = (j : Int) + 1 := ⟨(k - 1).toNat, by omega⟩
  have hj1 : 1 ≤ j := by omega
  have hj64 : j ≤ 63 := by omega
  have hkn : ((j : Int) + 1).toNat = j + 1 := by omega
  rw [hkn] at q
  have e1 : ((j : Int) + 1 - 1) = (j : Int) := by omega
  obtain ⟨r, r0, rle, rlt⟩ := root_exists n hn j
  walk_at "rd"
  refine ⟨n, rfl, hn, hs, fun b H1 hb hb2 eb => ?_⟩
  · have hbn : b ≤ 2000 := by
      rcases hb2 with rfl | hb2
      · decide
      · have hnb : n < 2 ^ 2000 := by
          have : n.natAbs < 2 ^ 2000 := hs
          have e : ((2 ^ 2000 : Nat) : Int) = 2 ^ 2000 := by rw [Int.natCast_pow]; rfl
          omega
        have := two_le_inv (a := b - 1) (b := 2000) (by omega)
        omega
    have ec : (((b : Int) + ((j : Int) + 1) - 1) / ((j : Int) + 1)) = (((b + (j + 1) - 1) / (j + 1) : Nat) : Int) := by
      rw [Int.natCast_ediv]; congr 1
      all_goals omega
    have hcp := ceil_pow (k := j + 1) (by omega) hb
    have hck : (b + (j + 1) - 1) / (j + 1) * (j + 1) ≤ b + j := by
      have := Nat.div_mul_le_self (b + (j + 1) - 1) (j + 1)
      omega
    have hc1 : (b + (j + 1) - 1) / (j + 1) ≤ 2100 := by
      have : (b + (j + 1) - 1) / (j + 1) * 1 ≤ (b + (j + 1) - 1) / (j + 1) * (j + 1) := Nat.mul_le_mul_left _ (by omega)
      omega
    have hc2 : (b + (j + 1) - 1) / (j + 1) * j ≤ 2100 := by
      have : (b + (j + 1) - 1) / (j + 1) * j ≤ (b + (j + 1) - 1) / (j + 1) * (j + 1) := Nat.mul_le_mul_left _ (by omega)
      omega
    generalize (b + (j + 1) - 1) / (j + 1) = c at *
    have hGp : (1 : Int) ≤ 2 ^ c := two_pow_pos _
    have two_sz : ∀ x : Nat, x ≤ 2100 → Sz 2101 ((2 : Int) ^ x) := fun x hx => by
      show ((2 : Int) ^ x).natAbs < 2 ^ 2101
      rw [Int.natAbs_pow]
      exact Nat.pow_lt_pow_right (by decide) (by omega)
    have hGs := two_sz c hc1
    have hGj : Sz 2101 (((2 : Int) ^ c) ^ j) := by rw [← Int.pow_mul]; exact two_sz _ hc2
    obtain ⟨G, eG⟩ : ∃ G : Int, G = 2 ^ c := ⟨_, rfl⟩
    rw [← eG] at hGp hGs hGj hcp
    have hrG : r ≤ G := by
      have := pow_lt_inv (x := r) (y := G) (n := j + 1) (by omega) (by omega) r0
      omega
    have hr1 : 1 ≤ r := by
      rcases Int.lt_or_le r 1 with z | z
      · have : r = 0 := by omega
        subst this
        rw [show (0 : Int) + 1 = 1 by decide, Int.one_pow] at rlt
        omega
      · exact z
    have room : ((j : Int).toNat + 1) * 2101 ≤ 900000 := by
      have : (j : Int).toNat + 1 ≤ 64 := by omega
      have := Nat.mul_le_mul_right 2101 this
      omega
    have gpow : ∀ g : Int, 1 ≤ g → g ≤ G → 1 ≤ g ^ j ∧ Sz 2101 (g ^ j) := fun g g1 g2 => ⟨pow_pos' g1 j, Sz.of_le (by have := pow_pos' g1 j; omega) (pow_mono (by omega) g2 j) hGj⟩
    have gsz : ∀ g : Int, 1 ≤ g → g ≤ G → Sz 2101 g := fun g g1 g2 => Sz.of_le (by omega) g2 hGs
    have stepOk : ∀ (g : Int) (σ : L2.St) (H' : Hp) (R : VK), 1 ≤ g → g ≤ G → σ[0]? = some (some (.int n)) → σ[1]? = some (some (.int ((j : Int) + 1))) → σ[2]? = some (some (.int g)) → R (.int (((j : Int) * g + n / g ^ j) / ((j : Int) + 1))) H' →
        (tOp FW.rDiv (tOp FW.rAdd (tOp FW.rMul (tOp FW.rSub (tVar 1) (tC (.int 1))) (tVar 2)) (tOp FW.rDiv (tVar 0) (tCall (sp_power K) [] E0 (tCons (tVar 2) (tCons (tOp FW.rSub (tVar 1) (tC (.int 1))) (tNil)))))) (tVar 1)) σ H' R := by
      intro g σ H' R g1 g2 s0 s1 s2 hR
      obtain ⟨pg1, pg2⟩ := gpow g g1 g2
      refine e_op (e_op (e_op (e_op (e_var (e_c (e_I0 ?_)) s1))))
      refine e_var (e_I ?_ ?_) s2
      · refine e_op (e_var (e_call (e_cons (e_var (e_cons (e_op (e_var (e_c (e_I0 (e_nil ?_))) s1))) s2))) s0)
        rw [e1]
        refine ⟨g, (j : Int), 2101, rfl, by omega, gsz g g1 g2, by decide, room, ?_⟩
        rw [Int.toNat_natCast]
        refine e_I (e_I0 (e_var (e_I hR ?_) s1)) ?_
        · exact wide_div (b := 10) (by omega) (by show ((j : Int) + 1).natAbs < 1024; omega) (by decide) (by decide)
        · exact wide_div (b := 2101) (by omega) pg2 (by decide) (by decide)
      · rw [e1]
        exact wide_mul (a := 10) (b := 2101) (by show (j : Int).natAbs < 1024; omega) (gsz g g1 g2) (by decide) (by decide) (by decide)
    walk_at "re"
    · rw [ec, Int.toNat_natCast, Int.one_mul, ← eG]
      with_reducible refine s_seq ?_
      with_reducible refine s_asg ?_
      refine stepOk G _ _ _ hGp (Int.le_refl _) rfl rfl rfl ?_
      with_reducible refine s_seq ?_
      refine s_while (fun m σ H' => H' = H1 ∧ ∃ g : Int, r ≤ g ∧ g ≤ G ∧ m = g.toNat ∧ σ = [some (.int n), some (.int ((j : Int) + 1)), some (.int g), some (.int (((j : Int) * g + n / g ^ j) / ((j : Int) + 1)))]) _ ⟨rfl, G, hrG, Int.le_refl _, rfl, rfl⟩ ?_
      rintro m σ H' ⟨rfl, g, g1, g2, rfl, rfl⟩
      have hnew := newton_ge (n := n) (g := g) (r := r) (k := j) (by omega) r0 rle
      walk_at "rd"
      refine e_ite (fun hgo => ?_) (fun hno => ?_)
      · refine ⟨fun σ' H'' => H'' = H' ∧ ∃ g' : Int, r ≤ g' ∧ g' ≤ G ∧ g' < g ∧ σ' = [some (.int n), some (.int ((j : Int) + 1)), some (.int g'), some (.int (((j : Int) * g' + n / g' ^ j) / ((j : Int) + 1)))], fun σ' H'' h => ?_, ?_⟩
        · obtain ⟨h1, g', a1, a2, a3, a4⟩ := h
          exact ⟨g'.toNat, by omega, h1, g', a1, a2, rfl, a4⟩
        unfold rd_whole_root_L1
        with_reducible refine s_seq ?_
        with_reducible refine s_asg ?_
        refine e_var ?_ rfl
        with_reducible refine s_asg ?_
        refine stepOk _ _ _ _ (Int.le_trans hr1 hnew) (by omega) rfl rfl rfl ?_
        exact ⟨rfl, _, hnew, by omega, hgo, rfl⟩
      · have hst := newton_stop (n := n) (g := g) (k := j) (by omega) (by omega)
        have : g < r + 1 := pow_lt_inv (n := j + 1) (by omega) (by omega) (by omega)
        have e : g = r := by omega
        subst e
        walk_at "rd"
        exact q g _ r0 rle rlt eb
    · exact ⟨by omega, by omega, by decide⟩
    · exact ⟨by omega, by
        have : ((j : Int) + 1).natAbs.log2 ≤ ((j : Int) + 1).natAbs := Nat.log2_le_self _
        omega⟩
end FWL
namespace FWL
open PySem PySem.Spec PyProof.Rows L2 FW
/-! ### how far steps lead -/
theorem Lp.Ok.cases {l : Lp} (o : l.Ok) : (l.k, l.a, l.c) ∈ ([(2, 1, 1), (2, 2, 1), (2, 2, 2), (2, 3, 1), (2, 3, 2), (2, 3, 3), (2, 4, 1), (2, 4, 2), (2, 5, 1), (3, 2, 1), (3, 3, 1), (3, 4, 1), (3, 4, 2), (3, 5, 1), (4, 3, 1), (4, 4, 1), (4, 5, 1)] : List (Int × Int × Int)) := by
  obtain ⟨k, a, c, d, st, td, md⟩ := l
  have hk := o.hk; have a1 := o.a1; have a5 := o.a5; have c1 := o.c1; have c3 := o.c3; have ca := o.ca; have ac := o.ac
  dsimp only at *
  have ha : a = 1 ∨ a = 2 ∨ a = 3 ∨ a = 4 ∨ a = 5 := by omega
  have hc : c = 1 ∨ c = 2 ∨ c = 3 := by omega
  clear o
  rcases hk with rfl | rfl | rfl <;> rcases ha with rfl | rfl | rfl | rfl | rfl <;> rcases hc with rfl | rfl | rfl <;> first | (exfalso; omega) | simp
theorem q_up {n r x : Int} {j : Nat} (hr : 0 ≤ r) (h2 : n < (r + 1) ^ (j + 1)) (hx : r + 1 ≤ x) : n / x ^ j ≤ r := by
  have hp : 1 ≤ x ^ j := pow_pos' (by omega) j
  have h : n / x ^ j < r + 1 := by
    rw [Int.ediv_lt_iff_lt_mul (by omega)]
    refine Int.lt_of_lt_of_le h2 ?_
    rw [Int.pow_succ, Int.mul_comm]
    exact Int.mul_le_mul_of_nonneg_left (pow_mono (by omega) hx j) (by omega)
  omega
theorem q_lo {n r x : Int} {j : Nat} (hr : 0 ≤ r) (h1 : r ^ (j + 1) ≤ n) (hx : 1 ≤ x) : (j + 1 : Int) * r - j * x ≤ n / x ^ j := by
  have hp : 1 ≤ x ^ j := pow_pos' hx j
  rw [Int.le_ediv_iff_mul_le (by omega)]
  have h := conv x r (by omega) hr j
  have e : ((j + 1 : Int) * r - j * x) * x ^ j = x ^ (j + 1) + (j + 1 : Int) * x ^ j * (r - x) := by rw [Int.pow_succ]; grind
  rw [e]; omega
theorem q_near {n r x : Int} {j : Nat} (hj : j = 1 ∨ j = 2 ∨ j = 3) (hr : 0 ≤ r) (h2 : n < (r + 1) ^ (j + 1)) (hx : 1 ≤ x) (hx6 : r - 6 ≤ x) : n / x ^ j ≤ r + 4100 := by
  have hp : 1 ≤ x ^ j := pow_pos' hx j
  have h : n / x ^ j < r + 4101 := by
    rw [Int.ediv_lt_iff_lt_mul (by omega)]
    refine Int.lt_of_lt_of_le h2 ?_
    rcases Int.lt_or_le r 8 with h8 | h8
    · have : (r + 1) ^ (j + 1) ≤ 8 ^ (j + 1) := pow_mono (by omega) (by omega) _
      have h3 : (8 : Int) ^ (j + 1) ≤ 4096 := by rcases hj with rfl | rfl | rfl <;> decide
      have h4 : (r + 4101) * 1 ≤ (r + 4101) * x ^ j := Int.mul_le_mul_of_nonneg_left hp (by omega)
      omega
    · obtain ⟨t, rfl⟩ : ∃ t : Nat, r = (t : Int) + 8 := ⟨(r - 8).toNat, by omega⟩
      have hxt : ((t : Int) + 2) ^ j ≤ x ^ j := pow_mono (by omega) (by omega) j
      have h4 : ((t : Int) + 8 + 4101) * ((t : Int) + 2) ^ j ≤ ((t : Int) + 8 + 4101) * x ^ j := Int.mul_le_mul_of_nonneg_left hxt (by omega)
      refine Int.le_trans ?_ h4
      have t0 : (0 : Int) ≤ t := by omega
      have t2 : (0 : Int) ≤ (t : Int) * t := Int.mul_nonneg t0 t0
      have t3 : (0 : Int) ≤ (t : Int) * t * t := Int.mul_nonneg t2 t0
      rcases hj with rfl | rfl | rfl
      · have e : ((t : Int) + 8 + 4101) * ((t : Int) + 2) ^ 1 = ((t : Int) + 8 + 1) ^ (1 + 1) + (4093 * t + 8137) := by grind
        rw [e]; omega
      · have e : ((t : Int) + 8 + 4101) * ((t : Int) + 2) ^ 2 = ((t : Int) + 8 + 1) ^ (2 + 1) + (4086 * (t * t) + 16197 * t + 15707) := by grind
        rw [e]; omega
      · have e : ((t : Int) + 8 + 4101) * ((t : Int) + 2) ^ 3 = ((t : Int) + 8 + 1) ^ (3 + 1) + (4079 * (t * t * t) + 24180 * (t * t) + 46400 * t + 26311) := by grind
        rw [e]; omega
  omega
/-- a number and its root -/
structure RootOf (k n r : Int) : Prop where
  r0 : 0 ≤ r
  lo : r ^ k.toNat ≤ n
  hi : n < (r + 1) ^ k.toNat
theorem led_up {l : Lp} (o : l.Ok) {n r x : Int} (R : RootOf l.k n r) (hx : r + 1 ≤ x) : 6 * (l.led n x - r) ≤ 5 * (x - r) + 6 := by
  obtain ⟨r0, h1, h2⟩ := R
  have hc := o.cases
  have d0 := o.d0; have d1 := o.d1
  unfold Lp.led
  obtain ⟨k, a, c, d, st, td, md⟩ := l
  dsimp only at *
  simp only [List.mem_cons, Prod.mk.injEq, List.not_mem_nil, or_false] at hc
  rcases hc with ⟨rfl, rfl, rfl⟩ | ⟨rfl, rfl, rfl⟩ | ⟨rfl, rfl, rfl⟩ | ⟨rfl, rfl, rfl⟩ | ⟨rfl, rfl, rfl⟩ | ⟨rfl, rfl, rfl⟩ | ⟨rfl, rfl, rfl⟩ | ⟨rfl, rfl, rfl⟩ | ⟨rfl, rfl, rfl⟩ | ⟨rfl, rfl, rfl⟩ | ⟨rfl, rfl, rfl⟩ | ⟨rfl, rfl, rfl⟩ | ⟨rfl, rfl, rfl⟩ | ⟨rfl, rfl, rfl⟩ | ⟨rfl, rfl, rfl⟩ | ⟨rfl, rfl, rfl⟩ | ⟨rfl, rfl, rfl⟩
  all_goals
    first
    | (have q := q_up (j := 1) r0 h2 hx; change _ at q; generalize hq : n / x ^ 1 = qq at q; show 6 * ((_ * x + _ * (n / x ^ 1) + d) / (_ + _) - r) ≤ _; rw [hq]; omega)
    | (have q := q_up (j := 2) r0 h2 hx; generalize hq : n / x ^ 2 = qq at q; show 6 * ((_ * x + _ * (n / x ^ 2) + d) / (_ + _) - r) ≤ _; rw [hq]; omega)
    | (have q := q_up (j := 3) r0 h2 hx; generalize hq : n / x ^ 3 = qq at q; show 6 * ((_ * x + _ * (n / x ^ 3) + d) / (_ + _) - r) ≤ _; rw [hq]; omega)
/-- the quotient of a step, and its ends -/
theorem led_q {l : Lp} (o : l.Ok) {n r x : Int} (R : RootOf l.k n r) (hx : 1 ≤ x) : ∃ q : Int, l.led n x = (l.a * x + l.c * q + l.d) / (l.a + l.c) ∧ l.k * r - (l.k - 1) * x ≤ q ∧ 0 ≤ q ∧ (r + 1 ≤ x → q ≤ r) ∧ (r - 6 ≤ x → q ≤ r + 4100) ∧ q ≤ n := by
  obtain ⟨r0, h1, h2⟩ := R
  have hk := o.hk
  obtain ⟨j, hj, hj3⟩ : ∃ j : Nat, l.k = (j : Int) + 1 ∧ (j = 1 ∨ j = 2 ∨ j = 3) := ⟨(l.k - 1).toNat, by omega, by omega⟩
  have e1 : (l.k - 1).toNat = j := by omega
  have e2 : l.k.toNat = j + 1 := by omega
  have n0 : 0 ≤ n := Int.le_trans (Int.pow_nonneg r0) h1
  rw [e2] at h1 h2
  have hp : 1 ≤ x ^ j := pow_pos' hx j
  refine ⟨n / x ^ j, ?_, ?_, Int.ediv_nonneg n0 (by omega), fun h => q_up r0 h2 h, fun h => q_near hj3 r0 h2 hx h, Int.ediv_le_self _ n0⟩
  · unfold Lp.led; rw [e1]
  · have := q_lo r0 h1 hx
    rw [hj]
    have e : ((j : Int) + 1 - 1) = j := by omega
    rw [e]; exact this
theorem led_lo {l : Lp} (o : l.Ok) {n r x : Int} (R : RootOf l.k n r) (hx : 1 ≤ x) : 3 * (r - l.led n x) ≤ 2 * (r - x) + 6 ∨ r ≤ x := by
  obtain ⟨q, e, q1, q0, q2, q3, qn⟩ := led_q o R hx
  rw [e]
  have hc := o.cases
  have d0 := o.d0; have d1 := o.d1
  clear e o R
  obtain ⟨k, a, c, d, st, td, md⟩ := l
  dsimp only at *
  rcases Int.lt_or_le x r with h | h
  · refine .inl ?_
    simp only [List.mem_cons, Prod.mk.injEq, List.not_mem_nil, or_false] at hc
    rcases hc with ⟨rfl, rfl, rfl⟩ | ⟨rfl, rfl, rfl⟩ | ⟨rfl, rfl, rfl⟩ | ⟨rfl, rfl, rfl⟩ | ⟨rfl, rfl, rfl⟩ | ⟨rfl, rfl, rfl⟩ | ⟨rfl, rfl, rfl⟩ | ⟨rfl, rfl, rfl⟩ | ⟨rfl, rfl, rfl⟩ | ⟨rfl, rfl, rfl⟩ | ⟨rfl, rfl, rfl⟩ | ⟨rfl, rfl, rfl⟩ | ⟨rfl, rfl, rfl⟩ | ⟨rfl, rfl, rfl⟩ | ⟨rfl, rfl, rfl⟩ | ⟨rfl, rfl, rfl⟩ | ⟨rfl, rfl, rfl⟩
    all_goals omega
  · exact .inr h
theorem led_lo1 {l : Lp} (o : l.Ok) {n r x : Int} (R : RootOf l.k n r) (hx : 1 ≤ x) (h : r ≤ x) : r - 1 ≤ l.led n x := by
  obtain ⟨q, e, q1, q0, q2, q3, qn⟩ := led_q o R hx
  rw [e]
  have hc := o.cases
  have d0 := o.d0; have d1 := o.d1
  clear e o R
  obtain ⟨k, a, c, d, st, td, md⟩ := l
  dsimp only at *
  simp only [List.mem_cons, Prod.mk.injEq, List.not_mem_nil, or_false] at hc
  rcases hc with ⟨rfl, rfl, rfl⟩ | ⟨rfl, rfl, rfl⟩ | ⟨rfl, rfl, rfl⟩ | ⟨rfl, rfl, rfl⟩ | ⟨rfl, rfl, rfl⟩ | ⟨rfl, rfl, rfl⟩ | ⟨rfl, rfl, rfl⟩ | ⟨rfl, rfl, rfl⟩ | ⟨rfl, rfl, rfl⟩ | ⟨rfl, rfl, rfl⟩ | ⟨rfl, rfl, rfl⟩ | ⟨rfl, rfl, rfl⟩ | ⟨rfl, rfl, rfl⟩ | ⟨rfl, rfl, rfl⟩ | ⟨rfl, rfl, rfl⟩ | ⟨rfl, rfl, rfl⟩ | ⟨rfl, rfl, rfl⟩
  all_goals omega
/-- the window -/
def Win (r x : Int) : Prop := r - 6 ≤ x ∧ x ≤ r + 4200
theorem led_win {l : Lp} (o : l.Ok) {n r x : Int} (R : RootOf l.k n r) (hx : 1 ≤ x) (h : Win r x) : Win r (l.led n x) := by
  obtain ⟨q, e, q1, q0, q2, q3, qn⟩ := led_q o R hx
  obtain ⟨w1, w2⟩ := h
  have q3 := q3 w1
  unfold Win
  rw [e]
  have hc := o.cases
  have d0 := o.d0; have d1 := o.d1
  clear e o R
  obtain ⟨k, a, c, d, st, td, md⟩ := l
  dsimp only at *
  simp only [List.mem_cons, Prod.mk.injEq, List.not_mem_nil, or_false] at hc
  rcases hc with ⟨rfl, rfl, rfl⟩ | ⟨rfl, rfl, rfl⟩ | ⟨rfl, rfl, rfl⟩ | ⟨rfl, rfl, rfl⟩ | ⟨rfl, rfl, rfl⟩ | ⟨rfl, rfl, rfl⟩ | ⟨rfl, rfl, rfl⟩ | ⟨rfl, rfl, rfl⟩ | ⟨rfl, rfl, rfl⟩ | ⟨rfl, rfl, rfl⟩ | ⟨rfl, rfl, rfl⟩ | ⟨rfl, rfl, rfl⟩ | ⟨rfl, rfl, rfl⟩ | ⟨rfl, rfl, rfl⟩ | ⟨rfl, rfl, rfl⟩ | ⟨rfl, rfl, rfl⟩ | ⟨rfl, rfl, rfl⟩
  all_goals omega
theorem led_most {l : Lp} (o : l.Ok) {n r x M : Int} (R : RootOf l.k n r) (hx : 1 ≤ x) (h1 : x ≤ M) (h2 : n + 10 ≤ M) : l.led n x ≤ M := by
  obtain ⟨q, e, q1, q0, q2, q3, qn⟩ := led_q o R hx
  rw [e]
  have hc := o.cases
  have d0 := o.d0; have d1 := o.d1
  clear e o R
  obtain ⟨k, a, c, d, st, td, md⟩ := l
  dsimp only at *
  simp only [List.mem_cons, Prod.mk.injEq, List.not_mem_nil, or_false] at hc
  rcases hc with ⟨rfl, rfl, rfl⟩ | ⟨rfl, rfl, rfl⟩ | ⟨rfl, rfl, rfl⟩ | ⟨rfl, rfl, rfl⟩ | ⟨rfl, rfl, rfl⟩ | ⟨rfl, rfl, rfl⟩ | ⟨rfl, rfl, rfl⟩ | ⟨rfl, rfl, rfl⟩ | ⟨rfl, rfl, rfl⟩ | ⟨rfl, rfl, rfl⟩ | ⟨rfl, rfl, rfl⟩ | ⟨rfl, rfl, rfl⟩ | ⟨rfl, rfl, rfl⟩ | ⟨rfl, rfl, rfl⟩ | ⟨rfl, rfl, rfl⟩ | ⟨rfl, rfl, rfl⟩ | ⟨rfl, rfl, rfl⟩
  all_goals omega
/-- the guesses from a start -/
def itr (l : Lp) (n x : Int) : Nat → Int
  | 0 => x
  | j + 1 => l.led n (itr l n x j)
theorem itr_add (l : Lp) (n x : Int) (i : Nat) : ∀ j, itr l n x (i + j) = itr l n (itr l n x i) j
  | 0 => rfl
  | j + 1 => by
    show l.led n (itr l n x (i + j)) = l.led n (itr l n (itr l n x i) j)
    rw [itr_add l n x i j]
theorem itr_most {l : Lp} (o : l.Ok) {n r x M : Int} (R : RootOf l.k n r) (h1 : x ≤ M) (h2 : n + 10 ≤ M) : ∀ j, (∀ i, i < j → 1 ≤ itr l n x i) → itr l n x j ≤ M
  | 0, _ => h1
  | j + 1, h => led_most o R (h j (by omega)) (itr_most o R h1 h2 j fun i hi => h i (by omega)) h2
theorem itr_win {l : Lp} (o : l.Ok) {n r x : Int} (R : RootOf l.k n r) (hw : Win r x) : ∀ j, (∀ i, i < j → 1 ≤ itr l n x i) → Win r (itr l n x j)
  | 0, _ => hw
  | j + 1, h => led_win o R (h j (by omega)) (itr_win o R hw j fun i hi => h i (by omega))
theorem below_run {l : Lp} (o : l.Ok) {n r x : Int} (R : RootOf l.k n r) (hx : 0 ≤ x) : ∀ j, (∀ i, i < j → 1 ≤ itr l n x i ∧ itr l n x i < r - 6) → (21 : Int) ^ j * (r - itr l n x j) ≤ 20 ^ j * r
  | 0, _ => by
    show (1 : Int) * (r - x) ≤ 1 * r
    omega
  | j + 1, h => by
    have ih := below_run o R hx j fun i hi => h i (by omega)
    obtain ⟨h1, h2⟩ := h j (by omega)
    have hl : 3 * (r - itr l n x (j + 1)) ≤ 2 * (r - itr l n x j) + 6 := by
      rcases led_lo o R h1 with z | z
      · exact z
      · omega
    have h3 : 21 * (r - itr l n x (j + 1)) ≤ 20 * (r - itr l n x j) := by omega
    have p : (0 : Int) ≤ 21 ^ j := Int.pow_nonneg (by decide)
    have h4 := Int.mul_le_mul_of_nonneg_left h3 p
    have e1 : (21 : Int) ^ (j + 1) * (r - itr l n x (j + 1)) = 21 ^ j * (21 * (r - itr l n x (j + 1))) := by rw [Int.pow_succ, Int.mul_assoc]
    have e2 : (20 : Int) ^ (j + 1) * r = 20 * (20 ^ j * r) := by rw [Int.pow_succ]; grind
    have e3 : (21 : Int) ^ j * (20 * (r - itr l n x j)) = 20 * (21 ^ j * (r - itr l n x j)) := by grind
    rw [e1, e2]
    rw [e3] at h4
    omega
theorem above_run {l : Lp} (o : l.Ok) {n r x : Int} (R : RootOf l.k n r) : ∀ j, (∀ i, i < j → r + 4200 < itr l n x i) → (8 : Int) ^ j * (itr l n x j - r) ≤ 7 ^ j * (x - r)
  | 0, _ => by
    show (1 : Int) * (x - r) ≤ 1 * (x - r)
    omega
  | j + 1, h => by
    have ih := above_run o R j fun i hi => h i (by omega)
    have h2 := h j (by omega)
    have hl : 6 * (itr l n x (j + 1) - r) ≤ 5 * (itr l n x j - r) + 6 := led_up o R (by omega)
    have h3 : 8 * (itr l n x (j + 1) - r) ≤ 7 * (itr l n x j - r) := by omega
    have p : (0 : Int) ≤ 8 ^ j := Int.pow_nonneg (by decide)
    have h4 := Int.mul_le_mul_of_nonneg_left h3 p
    have e1 : (8 : Int) ^ (j + 1) * (itr l n x (j + 1) - r) = 8 ^ j * (8 * (itr l n x (j + 1) - r)) := by rw [Int.pow_succ, Int.mul_assoc]
    have e2 : (7 : Int) ^ (j + 1) * (x - r) = 7 * (7 ^ j * (x - r)) := by rw [Int.pow_succ]; grind
    have e3 : (8 : Int) ^ j * (7 * (itr l n x j - r)) = 7 * (8 ^ j * (itr l n x j - r)) := by grind
    rw [e1, e2]
    rw [e3] at h4
    omega
theorem pow_cmp1 : 20 ^ 14300 * 2 ^ 1000 < 7 * 21 ^ 14300 := by decide +kernel
theorem pow_cmp2 : 7 ^ 5300 * 2 ^ 1001 < 4200 * 8 ^ 5300 := by decide +kernel
/-- the first index with a property -/
theorem first_of {p : Nat → Prop} [DecidablePred p] : ∀ N, (∀ i, i < N → ¬ p i) ∨ ∃ j, j < N ∧ p j ∧ ∀ i, i < j → ¬ p i
  | 0 => .inl fun i hi => absurd hi (by omega)
  | N + 1 => by
    rcases first_of (p := p) N with h | ⟨j, h1, h2⟩
    · by_cases hN : p N
      · exact .inr ⟨N, by omega, hN, h⟩
      · refine .inl fun i hi => ?_
        rcases Nat.lt_or_ge i N with z | z
        · exact h i z
        · have : i = N := by omega
          subst this; exact hN
    · exact .inr ⟨j, by omega, h2⟩
instance (r x : Int) : Decidable (Win r x) := inferInstanceAs (Decidable (_ ∧ _))
theorem root_le {k n r : Int} (hk : 1 ≤ k) (R : RootOf k n r) : r ≤ n := by
  obtain ⟨r0, h1, h2⟩ := R
  rcases Int.lt_or_le r 1 with h | h
  · have : 0 ≤ r ^ k.toNat := Int.pow_nonneg r0
    omega
  · have := pow_ge_self h k.toNat (by omega)
    omega
/-- the window is come to -/
theorem come {l : Lp} (o : l.Ok) {n r x : Int} (R : RootOf l.k n r) (hx : 0 ≤ x) (hn : n < 2 ^ 1000) (hxs : x < 2 ^ 1000) (hall : ∀ i, i < 20000 → 1 ≤ itr l n x i) : ∃ j, j < 19700 ∧ Win r (itr l n x j) := by
  have hk := o.hk
  have hrn := root_le (by omega) R
  have r0 := R.r0
  have e1 : ∃ j, j < 14301 ∧ r - 6 ≤ itr l n x j := by
    rcases first_of (p := fun j => r - 6 ≤ itr l n x j) 14301 with h | ⟨j, h1, h2, _⟩
    · exfalso
      have hb := below_run o R hx 14300 fun i hi => ⟨hall i (by omega), by have := h i (by omega); omega⟩
      have hl := h 14300 (by omega)
      have c : (20 : Int) ^ 14300 * 2 ^ 1000 < 7 * 21 ^ 14300 := by exact_mod_cast pow_cmp1
      have p1 : (0 : Int) ≤ 20 ^ 14300 := Int.pow_nonneg (by decide)
      have p2 : (0 : Int) ≤ 21 ^ 14300 := Int.pow_nonneg (by decide)
      have h3 : (20 : Int) ^ 14300 * r ≤ 20 ^ 14300 * 2 ^ 1000 := Int.mul_le_mul_of_nonneg_left (by omega) p1
      have h4 : (21 : Int) ^ 14300 * 7 ≤ 21 ^ 14300 * (r - itr l n x 14300) := Int.mul_le_mul_of_nonneg_left (by omega) p2
      generalize (21 : Int) ^ 14300 * (r - itr l n x 14300) = u at *
      generalize (20 : Int) ^ 14300 * r = v at *
      generalize (20 : Int) ^ 14300 * 2 ^ 1000 = w at *
      generalize (21 : Int) ^ 14300 = z at *
      omega
    · exact ⟨j, h1, h2⟩
  obtain ⟨j1, hj1, hge⟩ := e1
  have hM : itr l n x j1 ≤ 2 ^ 1000 + 10 := itr_most o R (by omega) (by omega) j1 fun i hi => hall i (by omega)
  obtain ⟨y, hy⟩ : ∃ y, y = itr l n x j1 := ⟨_, rfl⟩
  have hally : ∀ i, i < 5302 → 1 ≤ itr l n y i := fun i hi => by
    rw [hy, ← itr_add]; exact hall _ (by omega)
  rw [← hy] at hge hM
  have e2 : ∃ j, j < 5301 ∧ itr l n y j ≤ r + 4200 ∧ ∀ i, i < j → ¬ itr l n y i ≤ r + 4200 := by
    rcases first_of (p := fun j => itr l n y j ≤ r + 4200) 5301 with h | h
    · exfalso
      have hb := above_run o R (x := y) 5300 fun i hi => by have := h i (by omega); omega
      have hl := h 5300 (by omega)
      have c : (7 : Int) ^ 5300 * 2 ^ 1001 < 4200 * 8 ^ 5300 := by exact_mod_cast pow_cmp2
      have p1 : (0 : Int) ≤ 7 ^ 5300 := Int.pow_nonneg (by decide)
      have p2 : (0 : Int) ≤ 8 ^ 5300 := Int.pow_nonneg (by decide)
      have e3 : (2 : Int) ^ 1001 = 2 * 2 ^ 1000 := by rw [Int.pow_succ, Int.mul_comm]
      have e4 : (10 : Int) ≤ 2 ^ 1000 := Int.le_trans (by decide : (10 : Int) ≤ 2 ^ 10) (pow_le_right (by decide) (by decide))
      have h3 : (7 : Int) ^ 5300 * (y - r) ≤ 7 ^ 5300 * 2 ^ 1001 := Int.mul_le_mul_of_nonneg_left (by omega) p1
      have h4 : (8 : Int) ^ 5300 * 4200 ≤ 8 ^ 5300 * (itr l n y 5300 - r) := Int.mul_le_mul_of_nonneg_left (by omega) p2
      generalize (8 : Int) ^ 5300 * (itr l n y 5300 - r) = u at *
      generalize (7 : Int) ^ 5300 * (y - r) = v at *
      generalize (7 : Int) ^ 5300 * 2 ^ 1001 = w at *
      generalize (8 : Int) ^ 5300 = z at *
      omega
    · exact h
  obtain ⟨j2, hj2, hle, hno⟩ := e2
  refine ⟨j1 + j2, by omega, ?_⟩
  rw [itr_add, ← hy]
  refine ⟨?_, hle⟩
  cases j2 with
  | zero => exact hge
  | succ i =>
    have h1 := hno i (by omega)
    have := led_lo1 o R (x := itr l n y i) (hally i (by omega)) (by omega)
    show r - 6 ≤ l.led n (itr l n y i)
    omega
/-! ### no more unlike numbers than there are -/
theorem filter_ne_len (v : Int) : ∀ l : List Int, l.Nodup → l.length ≤ (l.filter fun x => decide (x ≠ v)).length + 1
  | [], _ => by simp
  | x :: t, h => by
    rw [List.nodup_cons] at h
    by_cases e : x = v
    · subst e
      have : t.filter (fun y => decide (y ≠ x)) = t := List.filter_eq_self.mpr fun y hy => decide_eq_true fun z => h.1 (z ▸ hy)
      rw [List.filter_cons_of_neg (by simp), this]
      simp
    · have ih := filter_ne_len v t h.2
      rw [List.filter_cons_of_pos (by simp [e])]
      simp only [List.length_cons]
      omega
theorem nodup_le : ∀ (m : Nat) (l : List Int) (lo : Int), l.Nodup → (∀ x ∈ l, lo ≤ x ∧ x < lo + m) → l.length ≤ m
  | 0, l, lo, _, h => by
    cases l with
    | nil => simp
    | cons x t => have := h x List.mem_cons_self; omega
  | m + 1, l, lo, hn, h => by
    have h1 := filter_ne_len (lo + m) l hn
    have h2 := nodup_le m (l.filter fun x => decide (x ≠ lo + m)) lo (hn.filter _) fun x hx => by
      rw [List.mem_filter] at hx
      have := h x hx.1
      have h3 : x ≠ lo + m := of_decide_eq_true hx.2
      omega
    omega
theorem itr_eq {l : Lp} {n x : Int} {p q : Nat} (h : itr l n x p = itr l n x q) : itr l n x (p + 1) = itr l n x (q + 1) := by
  show l.led n _ = l.led n _
  rw [h]
/-- soon two guesses are the same -/
theorem same_two {l : Lp} (o : l.Ok) {n r x : Int} (R : RootOf l.k n r) (hx : 0 ≤ x) (hn : n < 2 ^ 1000) (hxs : x < 2 ^ 1000) (hall : ∀ i, i < 30000 → 1 ≤ itr l n x i) : ∃ p q, p < q ∧ q < 29000 ∧ itr l n x p = itr l n x q := by
  obtain ⟨j, hj, hw⟩ := come o R hx hn hxs fun i hi => hall i (by omega)
  have win : ∀ i, i < 4300 → Win r (itr l n x (j + i)) := fun i hi => by
    rw [itr_add]
    exact itr_win o R hw i fun k hk => by rw [← itr_add]; exact hall _ (by omega)
  by_cases hd : ((List.range 4300).map fun i => itr l n x (j + i)).Nodup
  · exfalso
    have := nodup_le 4207 _ (r - 6) hd fun y hy => by
      obtain ⟨i, hi, rfl⟩ := List.mem_map.mp hy
      obtain ⟨w1, w2⟩ := win i (List.mem_range.mp hi)
      omega
    rw [List.length_map, List.length_range] at this
    omega
  · have key : ∀ m, m ≤ 4300 → ((List.range m).map fun i => itr l n x (j + i)).Nodup ∨ ∃ p q, p < q ∧ q < m ∧ itr l n x (j + p) = itr l n x (j + q) := by
      intro m
      induction m with
      | zero => intro _; exact .inl (by simp)
      | succ m ih =>
        intro hm
        rcases ih (by omega) with h | ⟨p, q, h1, h2, h3⟩
        · by_cases hmem : itr l n x (j + m) ∈ (List.range m).map fun i => itr l n x (j + i)
          · obtain ⟨p, hp, e⟩ := List.mem_map.mp hmem
            exact .inr ⟨p, m, List.mem_range.mp hp, by omega, e⟩
          · refine .inl ?_
            rw [List.range_succ, List.map_append, List.nodup_append]
            refine ⟨h, by simp, fun a ha b hb => ?_⟩
            simp only [List.map_cons, List.map_nil, List.mem_singleton] at hb
            subst hb
            exact fun z => hmem (z ▸ ha)
        · exact .inr ⟨p, q, h1, by omega, h3⟩
    rcases key 4300 (by omega) with h | ⟨p, q, h1, h2, h3⟩
    · exact absurd h hd
    · exact ⟨j + p, j + q, by omega, by omega, h3⟩
end FWL
namespace FW
open PySem PySem.Spec PyProof.Rows L2
theorem u1 {j : Nat} {A : Around} (hr : Room j A) : A.units + 1 < cLine := by have := hr.un; omega
/-! ### dicts whose keys are tuples of ints and None -/
abbrev NK := Option Int
def nkIs : NK → Value → Bool
  | none, .none => true
  | none, _ => false
  | some k, v => Value.isInt k v
def nkH : NK → Int
  | none => 0xFCA86420
  | some k => hashInt k
def nkV : NK → V
  | none => .non
  | some i => .int i
theorem nkIs_shape {k : NK} {v : Value} (h : nkIs k v = true) : (k = none ∧ v = .none) ∨ ∃ i t, k = some i ∧ v = .int i t := by
  cases k with
  | none => cases v <;> first | exact .inl ⟨rfl, rfl⟩ | exact nomatch h
  | some i =>
    obtain ⟨t, e⟩ := Value.isInt_shape (k := i) (v := v) h
    exact .inr ⟨i, t, rfl, e⟩
theorem wpAny_pyHash_none {prog : Program} {w : World} {A : Around} {E : Value → Shared → Prop} {s : Shared} {Q : Int → Shared → Prop} (h : Q 0xFCA86420 { s with toks := s.toks + 1 }) : wpAny (model prog w) A (pyHash .none) Q E s := by
  have hT : s.TypeIs .none "NoneType" := rfl
  unfold pyHash
  have hv : [Value.none].any Value.onHeap = false := rfl
  refine wpAny_bind ?_
  rw [cRoomFor, if_neg (by rw [hv]; exact Bool.false_ne_true)]; refine wpAny_pure ?_
  refine wpAny_bind (wpAny_specialOf hT F.slot_NoneType_hash.lookup ?_)
  show wpAny _ _ (if (some (Value.builtin "NoneType.__hash__") == some Value.none) = true then _ else _) Q E s
  rw [if_neg (by rw [beq_builtin_none]; exact Bool.false_ne_true)]
  refine wpAny_bind (wpAny_specialOf hT F.slot_NoneType_hash.lookup ?_)
  show wpAny _ _ (callSpecialIfBoundUnlessNone? .none "__hash__" _ >>= _) Q E s
  refine wpAny_bind (wpAny_callSpecialIfBoundUnlessNone?_slot hT F.slot_NoneType_hash
    (wpAny_call_entry F.slot_NoneType_hash hT F.entry_NoneType_hash
      (show wpAny _ _ (do ret (← mkInt 0xFCA86420)) _ _ s from wpAny_ret_mkInt ?_) (F.args_NoneType_hash_1 _)))
  show wpAny _ _ (if (decide (-(2 : Int) ^ 63 ≤ 0xFCA86420) && decide ((0xFCA86420 : Int) < 2 ^ 63)) = true then _ else _) Q E _
  rw [if_pos (by decide)]
  exact wpAny_pure h
theorem eq_none_none {prog : Program} {w : World} {A : Around} {E : Value → Shared → Prop} {s : Shared} {Q : Bool → Shared → Prop} (h : Q true s) : wpAny (model prog w) A (eqBool .none .none) Q E s := by
  unfold eqBool
  refine wpAny_holding ?_
  refine wpAny_ite_split (fun _ => ?_) (fun hab => absurd rfl hab)
  exact wpAny_bind (wpAny_rule (wpAny_pure h))
def nKind (prog : Program) (w : World) : PySem.KeyKind prog w NK where
  is := nkIs
  hash := nkH
  inj := fun v a b ha hb => by
    rcases nkIs_shape ha with ⟨rfl, rfl⟩ | ⟨i, t, rfl, rfl⟩
    · rcases nkIs_shape hb with ⟨rfl, _⟩ | ⟨j, u, rfl, e⟩
      · rfl
      · exact nomatch e
    · rcases nkIs_shape hb with ⟨rfl, e⟩ | ⟨j, u, rfl, e⟩
      · exact nomatch e
      · injection e with e1 _; rw [e1]
  byValue := fun k v h => by
    rcases nkIs_shape h with ⟨rfl, rfl⟩ | ⟨i, t, rfl, rfl⟩ <;> rfl
  pyHash := fun hv h => by
    rcases nkIs_shape hv with ⟨rfl, rfl⟩ | ⟨i, t, rfl, rfl⟩
    · exact wpAny_pyHash_none h
    · exact wpAny_pyHash_int h
  eqBool := fun {A E s a b u v Q} hu hv h => by
    rcases nkIs_shape hu with ⟨rfl, rfl⟩ | ⟨i, t, rfl, rfl⟩
    · rcases nkIs_shape hv with ⟨rfl, rfl⟩ | ⟨j, u, rfl, rfl⟩
      · exact eq_none_none h
      · rw [decide_eq_false (fun z => nomatch z)] at h
        exact SeqAt.EqAt.none_int j u _ _ _ _ h
    · rcases nkIs_shape hv with ⟨rfl, rfl⟩ | ⟨j, u, rfl, rfl⟩
      · rw [decide_eq_false (fun z => nomatch z)] at h
        exact SeqAt.EqAt.int_none i t _ _ _ _ h
      · have e : decide (some i = some j) = (i == j) := by
          by_cases z : i = j
          · subst z; simp
          · simp [z]
        rw [e] at h
        exact wpAny_eqBool_int h
  «strs» := fun k x t v h => by
    rcases nkIs_shape h with ⟨rfl, e⟩ | ⟨i, u, rfl, e⟩ <;> exact nomatch e
def hashN (ks : List NK) : Int := reduceHash (Builtin.Tuple.tupleHashOf (ks.map nkH))
def entN (x : List NK × Addr × Value) : DictEntry := ⟨hashN x.1, .ref x.2.1, x.2.2⟩
theorem entN_eq (P : Program) (w : World) (x : List NK × Addr × Value) : entryOfKey (tupleKind (nKind P w)) x = entN x := rfl
abbrev KvN := List NK × Addr × V
abbrev KN : List KvN → List (List NK × Addr × Value) → Prop := Paired fun p q => p.1 = q.1 ∧ p.2.1 = q.2.1 ∧ RelV p.2.2 q.2.2
def DNφ (a : Addr) (kvs : List KvN) : Heap → Prop := fun h => (a == sysModules) = false ∧ ∃ (xs : List (List NK × Addr × Value)) (o : Obj) (es : Array DictEntry) (ep : Nat), KN kvs xs ∧ h.get? a = some o ∧ o.ExactDict ∧ o.data = .dict es ep ∧ es.toList = xs.map entN ∧ (xs.map (·.1)).Nodup
def dN (a : Addr) (kvs : List KvN) : HO := .ext (DNφ a kvs)
structure IsDN (H : Hp) (a : Addr) (kvs : List KvN) : Prop where
  at' : H a = some (dN a kvs)
  keys : ∀ x ∈ kvs, H x.2.1 = some (.tup (x.1.map nkV))
  size : kvs.length ≤ sizeLine
def valN (kvs : List KvN) (k : List NK) : Option V := (kvs.find? fun x => decide (x.1 = k)).map (·.2.2)
theorem nk_items {P : Program} {w : World} : ∀ {ks : List NK} {us : List Value}, Vals (ks.map nkV) us → ItemsAre (nKind P w) ks us
  | [], _, .nil => .nil
  | none :: ks, _, .cons r t => by
    cases r
    exact .cons rfl (nk_items t)
  | some i :: ks, _, .cons r t => by
    obtain ⟨t', rfl⟩ := r
    exact .cons (by show nkIs (some i) (Value.int i t') = true; simp [nkIs, Value.isInt]) (nk_items t)
theorem keyN {P : Program} {w : World} {H : Hp} {h : Heap} {a : Addr} {ks : List NK} (ok : HOk P w H h) (e : H a = some (.tup (ks.map nkV))) : (tupleKind (nKind P w)).is h ks a := by
  obtain ⟨_, its, r, o, h1, h2, n, h3⟩ := (show ObjOk P w H h a (.tup (ks.map nkV)) from ok a _ e)
  exact ⟨o, its.toArray, n, h1, h2, h3, by simpa using nk_items r⟩
theorem KN.mem : ∀ {kvs : List KvN} {xs : List (List NK × Addr × Value)}, KN kvs xs → ∀ x ∈ xs, ∃ y ∈ kvs, y.1 = x.1 ∧ y.2.1 = x.2.1
  | _, _, .nil, x, hx => nomatch hx
  | _, _, .cons (a := p) r t, x, hx => by
    rcases List.mem_cons.mp hx with e | hx
    · subst e
      exact ⟨p, List.mem_cons_self, r.1, r.2.1⟩
    · obtain ⟨y, hy, h⟩ := KN.mem t x hx
      exact ⟨y, List.mem_cons_of_mem _ hy, h⟩
theorem dn_rd {P : Program} {w : World} {H : Hp} {h : Heap} {a : Addr} {kvs : List KvN} (ok : HOk P w H h) (e : IsDN H a kvs) : (a == sysModules) = false ∧ ∃ xs, KN kvs xs ∧ h.DictOfH (tupleKind (nKind P w)) a xs := by
  obtain ⟨⟨hd, xs, o, es, ep, r, h1, h2, h3, h4, h5⟩, _, _⟩ := (show ObjOk P w H h a (.ext (DNφ a kvs)) from ok a _ e.at')
  refine ⟨hd, xs, r, o, es, ep, h1, h2, h3, h4, fun x hx => ?_, h5⟩
  obtain ⟨y, hy, e1, e2⟩ := r.mem x hx
  rw [← e1, ← e2]
  exact keyN ok (e.keys y hy)
theorem KN.val : ∀ {kvs : List KvN} {xs : List (List NK × Addr × Value)}, KN kvs xs → ∀ k : List NK, RelO (valN kvs k) ((atKey xs k).map (·.2))
  | _, _, .nil, k => True.intro
  | _, _, .cons (a := p) (b := q) r t, k => by
    have ih := KN.val t k
    unfold valN atKey at ih ⊢
    rw [List.find?_cons, List.find?_cons]
    by_cases e : q.1 = k
    · have e' : p.1 = k := r.1.trans e
      simp only [e, e', decide_true, Option.map_some]
      exact r.2.2
    · have e' : ¬ p.1 = k := fun z => e (r.1.symm.trans z)
      simp only [e, e', decide_false]
      exact ih
theorem dn_ok {P : Program} {w : World} {H : Hp} {h : Heap} {a : Addr} {kvs : List KvN} (x : DNφ a kvs h) : ObjOk P w H h a (dN a kvs) := by
  refine ⟨x, ?_, ?_⟩
  · obtain ⟨_, xs, o, es, ep, _, h1, _⟩ := x
    exact ⟨o, h1⟩
  · rintro h1 h2 ⟨hd, xs, o, es, ep, r, g1, g2⟩ k
    exact ⟨hd, xs, o, es, ep, r, k _ g1, g2⟩
theorem KN.snoc : ∀ {kvs : List KvN} {xs : List (List NK × Addr × Value)} {p : KvN} {q : List NK × Addr × Value}, KN kvs xs → (p.1 = q.1 ∧ p.2.1 = q.2.1 ∧ RelV p.2.2 q.2.2) → KN (kvs ++ [p]) (xs ++ [q])
  | _, _, _, _, .nil, h => .cons h .nil
  | _, _, _, _, .cons r t, h => .cons r (KN.snoc t h)
section
variable {X : Cx} {o i value : Expr} {pos pos' : Pos} {td ty tv : TE}
def tNNew : TE := fun _ H Q => ∀ p, H p = none → Q (.ref p) (upd H p (dN p []))
def tNIn (ty td : TE) : TE := fun σ H Q => ty σ H fun y H1 => td σ H1 fun x H2 => ∃ a b kvs k, x = .ref a ∧ y = .ref b ∧ IsDN H2 a kvs ∧ H2 b = some (.tup (k.map nkV)) ∧ Q (.bl (valN kvs k).isSome) H2
def tNNotIn (ty td : TE) : TE := fun σ H Q => ty σ H fun y H1 => td σ H1 fun x H2 => ∃ a b kvs k, x = .ref a ∧ y = .ref b ∧ IsDN H2 a kvs ∧ H2 b = some (.tup (k.map nkV)) ∧ Q (.bl (!(valN kvs k).isSome)) H2
def tNGet (td ty : TE) : TE := fun σ H Q => td σ H fun x H1 => ty σ H1 fun y H2 => ∃ a b kvs k v, x = .ref a ∧ y = .ref b ∧ IsDN H2 a kvs ∧ H2 b = some (.tup (k.map nkV)) ∧ valN kvs k = some v ∧ Q v H2
def sNPut (td ty tv : TE) : TS := fun D σ H => tv σ H fun v H1 => td σ H1 fun x H2 => ty σ H2 fun y H3 => ∃ a b kvs k, x = .ref a ∧ y = .ref b ∧ IsDN H3 a kvs ∧ H3 b = some (.tup (k.map nkV)) ∧ valN kvs k = none ∧ kvs.length < sizeLine ∧ D.nx σ (upd H3 a (dN a (kvs ++ [(k, b, v)])))
theorem pe_nnew : PE X (.Dict [] [] pos) tNNew := ⟨fun pins s σ H Q I h =>
  wpAny_Dict_empty ⟨.ref s.heap.objs.size, _, I.laid (a := s.heap.objs.size) (o := dN s.heap.objs.size []) (t' := s.toks) (fun _ _ q => Heap.get?_push_of_some _ q) (Nat.le_refl _)
    (dn_ok ⟨(dk_empty (P := X.prog) (w := X.w) (H := H) s.heap I.big).2.1, [], _, #[], 0, .nil, Heap.get?_push_size _ rfl, ⟨rfl, rfl, rfl⟩, rfl, rfl, List.nodup_nil⟩), rfl, h _ (I.hok.fresh (Nat.le_refl _))⟩⟩
theorem pc_nin (hu : X.A.units + 1 < cLine) (hi : PE X i ty) (ho : PE X o td) : PC X .In i o (tNIn ty td) := by
  refine ⟨fun pins s σ H Q I h => ?_⟩
  refine thn (hi.run pins s σ H _ I h) fun iv s1 ⟨y, H1, I1, ry, q1⟩ => thn (ho.run pins s1 σ H1 _ I1 q1) fun u s2 ⟨x, H2, I2, rx, a, b, kvs, k, ex, ey, g, eb, q2⟩ => ?_
  subst ex ey
  obtain rfl : u = Value.ref a := rx
  obtain rfl : iv = Value.ref b := ry
  obtain ⟨hd, xs, rel, dd⟩ := dn_rd I2.hok g
  refine wpAny_in_heap (tupleKind_room_in1 hu) (keyN I2.hok eb) hd dd ?_
  have q := (rel.val k).isSome_eq
  rw [Option.isSome_map] at q
  rw [← q]
  exact ⟨.bl _, H2, I2.tok _, rfl, q2⟩
theorem pc_nnotin (hu : X.A.units + 1 < cLine) (hi : PE X i ty) (ho : PE X o td) : PC X .NotIn i o (tNNotIn ty td) := by
  refine ⟨fun pins s σ H Q I h => ?_⟩
  refine thn (hi.run pins s σ H _ I h) fun iv s1 ⟨y, H1, I1, ry, q1⟩ => thn (ho.run pins s1 σ H1 _ I1 q1) fun u s2 ⟨x, H2, I2, rx, a, b, kvs, k, ex, ey, g, eb, q2⟩ => ?_
  subst ex ey
  obtain rfl : u = Value.ref a := rx
  obtain rfl : iv = Value.ref b := ry
  obtain ⟨hd, xs, rel, dd⟩ := dn_rd I2.hok g
  refine wpAny_notIn_heap (tupleKind_room_in1 hu) (keyN I2.hok eb) hd dd ?_
  have q := (rel.val k).isSome_eq
  rw [Option.isSome_map] at q
  rw [← q]
  exact ⟨.bl _, H2, I2.tok _, rfl, q2⟩
theorem pe_nget (hu : X.A.units + 1 < cLine) (ho : PE X o td) (hi : PE X i ty) (hs : NoSl i) : PE X (.Subscript o i pos) (tNGet td ty) := by
  refine ⟨fun pins s σ H Q I h => ?_⟩
  refine subD_of PySem.F.slot_dict_getitem.lookup hs (thn (ho.run pins s σ H _ I h) fun u s1 ⟨x, H1, I1, rx, q1⟩ => thn (hi.run pins s1 σ H1 _ I1 q1) fun iv s2 ⟨y, H2, I2, ry, a, b, kvs, k, v, ex, ey, g, eb, l, q2⟩ => ?_)
  subst ex ey
  obtain rfl : u = Value.ref a := rx
  obtain rfl : iv = Value.ref b := ry
  obtain ⟨hd, xs, rel, dd⟩ := dn_rd I2.hok g
  obtain ⟨w', hw, rw'⟩ := RelO.some_of (v := v) (o := (atKey xs k).map (·.2)) (by rw [← l]; exact rel.val k)
  obtain ⟨p, hp, hp2⟩ := Option.map_eq_some_iff.mp hw
  refine ⟨dd.typeIs, wpAny_getItem_heap (tupleKind_room_in1 hu) (keyN I2.hok eb) dd hp ?_⟩
  rw [hp2]
  exact ⟨v, H2, I2.tok _, rw', q2⟩
theorem ps_nput (hu : X.A.units + 1 < cLine) (ho : PE X o td) (hi : PE X i ty) (hv : PE X value tv) (hs : swapsWith value (some (.Subscript o i pos')) pos.line X.env = pure false) :
    PS X (.Assign [.Subscript o i pos'] value pos) (sNPut td ty tv) := by
  refine ⟨fun pins s σ H D I h => ?_⟩
  refine wpAny_Assign_Subscript (thn (hv.run pins s σ H _ I h) fun r s1 ⟨v, H1, I1, rv, q1⟩ => thn (ho.run pins s1 σ H1 _ I1 q1) fun u s2 ⟨x, H2, I2, rx, q2⟩ => thn (hi.run pins s2 σ H2 _ I2 q2) fun iv s3 ⟨y, H3, I3, ry, a, b, kvs, k, ex, ey, g, eb, l, hl, q3⟩ => ?_) hs
  subst ex ey
  obtain rfl : u = Value.ref a := rx
  obtain rfl : iv = Value.ref b := ry
  obtain ⟨hd, xs, rel, dd⟩ := dn_rd I3.hok g
  have hz : xs.length ≤ sizeLine := by rw [← Paired.length rel]; exact g.size
  have hnone : atKey xs k = none := by
    have z := (rel.val k).isSome_eq
    rw [l, Option.isSome_map] at z
    cases q : atKey xs k with
    | none => rfl
    | some p => rw [q] at z; exact nomatch z
  refine wpAny_setItem_heap (hsz := hz) (tupleKind_room_in1 hu) (keyN I3.hok eb) dd fun h' dd' hs => ?_
  rw [storedH_new hnone] at dd'
  obtain ⟨q, es, ep, hq, h2, h3, h4, _, h5⟩ := dd'
  refine ⟨σ, _, d_write I3 (by rw [g.at']; exact True.intro) hs ⟨q, hq⟩ (dn_ok ⟨hd, _, q, es, ep, rel.snoc (q := (k, b, r)) ⟨rfl, rfl, rv⟩, hq, h2, h3, h4, h5⟩), q3⟩
end
end FW
namespace FW
open PySem PySem.Spec PyProof.Rows L2
/-! ### x == y, x != y of two instances of a class with its own __eq__ -/
section
variable {M : Model} {prog : Program} {w : World} {A : Around} {E : Value → Shared → Prop} {s : Shared} {K : PySem.W.Frag} {x y C f : Addr} {ox oy : Obj} {od oe : Option Obj}
theorem ifBound_objNe {args : List Value} {Q : Option Value → Shared → Prop} (X : K.In s.heap) (I : PySem.W.InstAt s.heap x ox C od) (hs : PySem.W.findIn K (.ref C) "__ne__" = some (some (.builtin "object.__ne__")))
    (h : wpAny M A (call (.builtin "object.__ne__") (.ref x :: args)) (fun v => Q (some v)) E s) : wpAny M A (callSpecialIfBound? (.ref x) "__ne__" args) Q E s := by
  simp only [callSpecialIfBound?, bindSpecialIfBound?]
  refine wpAny_holding (wpAny_bind (wpAny_bind (wpAny_bind (I.type.here ((PySem.W.looks_findIn X hs).here ?_)))))
  refine wpAny_bind (wpAny_askSetting (wpAny_ite ?_))
  have fin : wpAny M A (call (.builtin "object.__ne__") ([.ref x] ++ args) >>= fun v => pure (some v)) Q E s := wpAny_bind (wpAny_mono h (fun v s' h' => wpAny_pure h') fun _ _ h' => h')
  split
  · exact wpAny_bind (wpAny_of_eq (F.cmp_object.ne.bind _) (wpAny_pure (by exact fin)))
  · exact wpAny_tryCatch (wpAny_bind (wpAny_of_eq (F.cmp_object.ne.bind _) (wpAny_pure (by exact fin))))
theorem entry_objNe {Q : Fin → Shared → Prop} (hu : A.units < cLine) (X : K.In s.heap) (I : PySem.W.InstAt s.heap x ox C od) (hs : PySem.W.findIn K (.ref C) "__eq__" = some (some (.ref f))) (hf : PySem.W.isFn K (.ref f) = true)
    (hcall : wpAny (model prog w) A (call (.ref f) [.ref x, .ref y]) (fun v s' => ∃ b, v = .bool b ∧ Q (.done (.ret (.bool (!b)))) s') E s) :
    wpAny (model prog w) A (Builtin.«object.__ne__» ⟨[.ref x, .ref y], []⟩) Q E s := by
  obtain ⟨hp, g, d, t, os⟩ := s
  unfold Builtin.«object.__ne__»
  repeat (first
    | with_reducible refine wpAny_cRoomFor hu ?_
    | (refine wpAny_bind (m := callSpecialIfBound? (.ref x) (Str.ofString "__eq__") [.ref y])
        (PySem.W.ifBound_K X I hs hf (wpAny_mono hcall (fun r s' hr => by
          obtain ⟨b, rfl, hq⟩ := hr
          repeat (first | exact hq | exact wpAny_pure hq | exact wpAny_truthy_bool hq | (refine wpAny_bind (m := truthy (.bool _)) (wpAny_truthy_bool ?_)) | wp_step)) fun _ _ e => e)))
    | wp_step)
theorem rcNe {Q : Value → Shared → Prop} (hu : A.units + 1 < cLine) (X : K.In s.heap) (I : PySem.W.InstAt s.heap x ox C od) (J : PySem.W.InstAt s.heap y oy C oe) (hm : PySem.W.mroIn K C (.type "object") = some true)
    (hn : PySem.W.findIn K (.ref C) "__ne__" = some (some (.builtin "object.__ne__"))) (hs : PySem.W.findIn K (.ref C) "__eq__" = some (some (.ref f))) (hf : PySem.W.isFn K (.ref f) = true)
    (hcall : wpAny (model prog w) A.in1 (call (.ref f) [.ref x, .ref y]) (fun v s' => ∃ b, v = .bool b ∧ Q (.bool (!b)) s') E s) :
    wpAny (model prog w) A (richCompare .NotEq (.ref x) (.ref y)) Q E s := by
  have one : wpAny (model prog w) A (tryCompare (.ref x) "__ne__" (.ref y)) (fun r s' => ∃ v, r = some v ∧ Q v s') E s := by
    unfold tryCompare
    refine wpAny_bind (ifBound_objNe X I hn (wpAny_call (codeAny_call_builtin F.cmp_object.ne.plain F.cmpEntry_ne (PySem.W.check_slot F.cmpKind_ne F.cmpSplit_ne (I.type.andThen (PySem.W.looks_mroIn X hm)) (F.cmpArgs_ne _ _)
      (entry_objNe (A := A.in1) hu X I hs hf (wpAny_mono hcall (fun v s' hv => ?_) fun _ _ e => e))))))
    obtain ⟨b, rfl, hq⟩ := hv
    exact ⟨b, rfl, wpAny_pure ⟨_, rfl, hq⟩⟩
  unfold richCompare
  simp only [oneThing_ref]
  refine wpAny_holding (wpAny_bind (wpAny_cRoomFor (Nat.lt_of_succ_lt hu) ?_))
  rw [cmpInfo_NotEq]
  dsimp only
  refine wpAny_bind (I.type.here (wpAny_bind (J.type.here ?_)))
  rw [show (Value.ref C != Value.ref C) = false from by simp]
  simp only [Bool.false_eq_true, if_false]
  refine wpAny_bind (wpAny_pure ?_)
  simp only [Bool.false_eq_true, if_false]
  refine wpAny_bind (wpAny_mono one (fun r s' z => ?_) fun _ _ e => e)
  obtain ⟨v, rfl, hq⟩ := z
  exact wpAny_pure hq
end
/-- what the head tells of a class with its own __eq__ and no __ne__ -/
structure OwnE (K : PySem.W.Frag) (C : Addr) : Prop where
  mro : PySem.W.mroIn K C (.type "object") = some true
  ne : PySem.W.findIn K (.ref C) "__ne__" = some (some (.builtin "object.__ne__"))
def ownEB (K : PySem.W.Frag) (x : Str) : Bool := decide (PySem.W.mroIn K (He.ga K x) (.type "object") = some true) && He.eqO (PySem.W.findIn K (.ref (He.ga K x)) "__ne__") (some (some (.builtin "object.__ne__")))
theorem ownEB_ok {K : PySem.W.Frag} {x : Str} (h : ownEB K x = true) : OwnE K (He.ga K x) := by
  obtain ⟨h1, h2⟩ := He.ba h
  exact ⟨of_decide_eq_true h1, He.eqO_ok h2⟩
def rEqO (C : Addr) (sp : Sp) : R2 := fun x y H Q => ∃ a b dx dy fs gs, x = .ref a ∧ y = .ref b ∧ H a = some (.ins C dx fs) ∧ H b = some (.ins C dy gs) ∧ sp [x, y] H (fun v H' => ∃ k, v = .bl k ∧ Q (.bl k) H') E0
def rNeO (C : Addr) (sp : Sp) : R2 := fun x y H Q => ∃ a b dx dy fs gs, x = .ref a ∧ y = .ref b ∧ H a = some (.ins C dx fs) ∧ H b = some (.ins C dy gs) ∧ sp [x, y] H (fun v H' => ∃ k, v = .bl k ∧ Q (.bl (!k)) H') E0
section
variable {X : Cx} {C : Addr} {k j : Nat} {sp : Sp}
theorem run_eqO {pins : List (Addr × Obj)} {σ : L2.St} {H : Hp} {s : Shared} {A : Around} {a b : Addr} {f : Addr} {fd : FuncData} {ps : List Str} {Q : VK} {R : Value → Shared → Prop} (F : FnOk X.prog X.w X.K X.mg X.base CX0 k f fd ps sp) (hr : Room k A) (hfr : A.frames = X.A.frames) (hb : Binds X.K fd ps []) (I : Inv X pins σ H s)
    (h : sp [.ref a, .ref b] H Q E0) (hq : ∀ v H' u s', Inv X pins σ H' s' → RelV v u → Q v H' → R u s') : wpAny (model X.prog X.w) A (call (.ref f) [.ref a, .ref b]) R X.xe s := by
  have e0 : Env0 X.prog X.w X.K X.mg X.base A X.stack s H := by
    have e := I.env0
    exact ⟨by rw [hfr]; exact e.frames, e.mod, e.bs, e.bsz, e.funs, e.frf, e.hok, e.bare⟩
  have hl := F.len _ _ _ _ h
  have r2 : Vals [V.ref a, V.ref b] [Value.ref a, Value.ref b] := .cons rfl (.cons rfl .nil)
  refine wpAny_call (codeAny_mono (F.run A X.stack s H ⟨[.ref a, .ref b], []⟩ [.ref a, .ref b] [.ref a, .ref b] _ E0 hr e0 (by
    have := hb s [.ref a, .ref b] I.kIn (by simpa using hl)
    simpa using this) r2 h) fun r s' hz => ?_)
  cases r with
  | error e => exact (show False from hz).elim
  | ok fl =>
    cases fl with
    | ret w =>
      obtain ⟨z, H', I', rz, ez⟩ := I.after hz
      exact hq z H' w s' I' rz ez
    | next => exact False.elim hz
    | brk => exact False.elim hz
    | cont => exact False.elim hz
theorem op_eqO (c : Mt X.prog X.w X.K X.mg X.base CX0 k C "__eq__" sp []) (hr : Room j X.A) (hk : k ≤ j) : OpR X (compareOp .Eq) (rEqO C sp) := by
  intro pins s σ H x y v u Q I rx ry h
  obtain ⟨a, b, dx, dy, fs, gs, rfl, rfl, ha, hb', hsp⟩ := h
  cases rx
  cases ry
  obtain ⟨f, fd, ps, ds, hc, hm, F, bd, d⟩ := c.ex
  cases d
  obtain ⟨mA, J, _⟩ := ins_get I.hok ha
  obtain ⟨mB, J', _⟩ := ins_get I.hok hb'
  obtain ⟨od, J, _⟩ := J.look
  obtain ⟨od', J', _⟩ := J'.look
  obtain ⟨m, hF⟩ := I.fr
  show wpAny (model X.prog X.w) X.A (richCompare .Eq (.ref a) (.ref b)) (EP X pins σ Q) X.xe s
  refine PySem.W.cmp_K (op := .Eq) (tb := .ref C) (hr.mono hk).units0 hF I.ok.mod.kin J J'.type (by simp [PySem.W.notFirst]) hm.at_ hm.fn ?_
  refine run_eqO F (hr.mono hk) rfl bd I hsp fun v H' u s' I' rv q => ?_
  obtain ⟨kk, rfl, q⟩ := q
  cases rv
  exact ⟨.bl kk, H', I', rfl, q⟩
theorem op_neO (o : OwnE X.K C) (c : Mt X.prog X.w X.K X.mg X.base CX0 k C "__eq__" sp []) (hr : Room j X.A) (hk : k + 1 ≤ j) : OpR X (compareOp .NotEq) (rNeO C sp) := by
  intro pins s σ H x y v u Q I rx ry h
  obtain ⟨a, b, dx, dy, fs, gs, rfl, rfl, ha, hb', hsp⟩ := h
  cases rx
  cases ry
  obtain ⟨f, fd, ps, ds, hc, hm, F, bd, d⟩ := c.ex
  cases d
  obtain ⟨mA, J, _⟩ := ins_get I.hok ha
  obtain ⟨mB, J', _⟩ := ins_get I.hok hb'
  obtain ⟨od, J, _⟩ := J.look
  obtain ⟨od', J', _⟩ := J'.look
  show wpAny (model X.prog X.w) X.A (richCompare .NotEq (.ref a) (.ref b)) (EP X pins σ Q) X.xe s
  have hr' := hr.mono hk
  refine rcNe (by have := hr'.un; omega) I.kIn J J' o.mro o.ne hm.at_ hm.fn ?_
  refine run_eqO F hr'.in1 rfl bd I hsp fun v H' u s' I' rv q => ?_
  obtain ⟨kk, rfl, q⟩ := q
  cases rv
  exact ⟨kk, rfl, .bl (!kk), H', I', rfl, q⟩
end
/-- t.index(x) of a tuple of texts -/
def rTIdx (K : PySem.W.Frag) : V → List V → Hp → VK → Prop := fun x xs H Q => ∃ p, ∃ ys : List Str, ∃ z j, x = .ref p ∧ xs = [.str z] ∧ SqT K H p (ys.map V.str) ∧ ys[j]? = some z ∧ (∀ m, m < j → ys[m]? ≠ some z) ∧ Q (.int (j : Nat)) H
/-- a tuple of the written part -/
def TupK (K : PySem.W.Frag) (a : Addr) : Prop := ∃ o, K.lookup a = some o ∧ o.cls = .type "tuple" ∧ o.dict = none
def tupKB (K : PySem.W.Frag) (x : Str) : Bool := match K.lookup (He.ga K x) with
  | some o => decide (o.cls = .type "tuple") && o.dict.isNone
  | none => false
theorem tupKB_ok {K : PySem.W.Frag} {x : Str} (h : tupKB K x = true) : TupK K (He.ga K x) := by
  unfold tupKB at h
  split at h
  · rename_i o ho
    obtain ⟨h1, h2⟩ := He.ba h
    exact ⟨o, ho, of_decide_eq_true h1, by simpa using h2⟩
  · cases h
theorem mtTIdx {X : Cx} : MtR X "tuple.index" (rTIdx X.K) := mt_tup_index
end FW
namespace FWL
open PySem PySem.Spec PyProof.Rows L2 FW
/-! ### average loops of any parts: made or refused; parts, == -/
abbrev clsL (K : PySem.W.Frag) : Value := .ref (He.ga K "BadLoop")
abbrev clsF (K : PySem.W.Frag) : Value := .ref (He.ga K "BadField")
/-- seven parts as a loop -/
theorem wrong_ok {k a c d s t m : V} (h : wrongP k a c d s t m = .non) : ∃ l : Lp, l.Ok ∧ [k, a, c, d, s, t, m] = l.V := by
  unfold wrongP at h
  by_cases h1 : (!isInt k || !inV k [.int 2, .int 3, .int 4]) = true
  · rw [if_pos h1] at h; cases h
  rw [if_neg h1] at h
  by_cases h2 : (!isInt a || !(decide (1 ≤ iv a) && decide (iv a ≤ 5))) = true
  · rw [if_pos h2] at h; cases h
  rw [if_neg h2] at h
  by_cases h3 : (!fromI c 1 || (decide (iv a < iv c * (iv k - 1)) || decide (6 < iv a + iv c))) = true
  · rw [if_pos h3] at h; cases h
  rw [if_neg h3] at h
  by_cases h4 : (!isInt d || !(decide (-iv a ≤ iv d) && decide (iv d ≤ iv a + iv c))) = true
  · rw [if_pos h4] at h; cases h
  rw [if_neg h4] at h
  by_cases h5 : (!wordOf s stopsV) = true
  · rw [if_pos h5] at h; cases h
  rw [if_neg h5] at h
  by_cases h6 : (!wordOf t toldsV || (inV s looksV && !decide (t = .str "old"))) = true
  · rw [if_pos h6] at h; cases h
  rw [if_neg h6] at h
  by_cases h7 : wordOf m mendsV = true
  · have isI : ∀ {v : V}, isInt v = true → ∃ i, v = .int i := fun {v} q => by cases v <;> first | (cases q; done) | exact ⟨_, rfl⟩
    have isS : ∀ {v : V}, isStr v = true → ∃ i, v = .str i := fun {v} q => by cases v <;> first | (cases q; done) | exact ⟨_, rfl⟩
    simp only [Bool.or_eq_true, Bool.not_eq_true', Bool.and_eq_true, decide_eq_true_eq, decide_eq_false_iff_not, not_or, Bool.not_eq_false, fromI, wordOf, not_and, Bool.and_eq_false_iff, Classical.not_not] at h1 h2 h3 h4 h5 h6 h7
    obtain ⟨k, rfl⟩ := isI h1.1
    obtain ⟨a, rfl⟩ := isI h2.1
    obtain ⟨c, rfl⟩ := isI h3.1.1
    obtain ⟨d, rfl⟩ := isI h4.1
    obtain ⟨s, rfl⟩ := isS h5.1
    obtain ⟨t, rfl⟩ := isS h6.1.1
    obtain ⟨m, rfl⟩ := isS h7.1
    have mI : inV (.int k) [.int 2, .int 3, .int 4] = true := h1.2
    have hk : k = 2 ∨ k = 3 ∨ k = 4 := by
      have : (decide (2 = k) || (decide (3 = k) || (decide (4 = k) || false))) = true := mI
      simp at this
      omega
    have c1 : 1 ≤ c := h3.1.2
    have ca : c * (k - 1) ≤ a := by have := h3.2.1; show c * (k - 1) ≤ a; have e : iv (.int a) = a := rfl; have e2 : iv (.int c) = c := rfl; have e3 : iv (.int k) = k := rfl; rw [e, e2, e3] at this; omega
    have ac : a + c ≤ 6 := by have := h3.2.2; have e : iv (.int a) = a := rfl; have e2 : iv (.int c) = c := rfl; rw [e, e2] at this; omega
    have c3 : c ≤ 3 := by
      rcases hk with rfl | rfl | rfl <;> omega
    have hS : V.str s ∈ stopsV := by have := h5.2; rw [inV_str _ strs_stops] at this; exact of_decide_eq_true this
    have hT : V.str t ∈ toldsV := by have := h6.1.2; rw [inV_str _ strs_tolds] at this; exact of_decide_eq_true this
    have hM : V.str m ∈ mendsV := by have := h7.2; rw [inV_str _ strs_mends] at this; exact of_decide_eq_true this
    refine ⟨⟨k, a, c, d, s, t, m⟩, ⟨hk, h2.2.1, h2.2.2, c1, c3, ca, ac, h4.2.1, h4.2.2, hS, hT, fun z => ?_, hM⟩, rfl⟩
    have := h6.2
    rw [inV_str _ strs_looks] at this
    have q := this (decide_eq_true z)
    exact V.str.inj q
  · rw [if_neg h7] at h; cases h

/-- an instance's class -/
structure InsK (K : PySem.W.Frag) (C : Addr) : Prop where
  cls : PySem.W.findIn K (.ref C) "__class__" = some (some (.builtin "object.__class__"))
  get : PySem.W.specialIn K (.builtin "object.__class__") "__get__" = some (some (.builtin "getset_descriptor.__get__"))
  tk : PySem.W.takesIn K (.builtin "object.__class__") = some true
  mro : PySem.W.mroIn K C (.type "object") = some true
def insKB (K : PySem.W.Frag) (x : Str) : Bool := He.eqO (PySem.W.findIn K (.ref (He.ga K x)) "__class__") (some (some (.builtin "object.__class__"))) && (He.eqO (PySem.W.specialIn K (.builtin "object.__class__") "__get__") (some (some (.builtin "getset_descriptor.__get__"))) &&
  (decide (PySem.W.takesIn K (.builtin "object.__class__") = some true) && decide (PySem.W.mroIn K (He.ga K x) (.type "object") = some true)))
theorem insKB_ok {K : PySem.W.Frag} {x : Str} (h : insKB K x = true) : InsK K (He.ga K x) := by
  obtain ⟨h1, h2⟩ := He.ba h
  obtain ⟨h3, h4⟩ := He.ba h2
  obtain ⟨h5, h6⟩ := He.ba h4
  exact ⟨He.eqO_ok h1, He.eqO_ok h3, of_decide_eq_true h5, of_decide_eq_true h6⟩
theorem kitSelf {K : PySem.W.Frag} {C : Addr} : PySem.W.kitOne K (.ref C) (.ref C) = some true := by
  unfold PySem.W.kitOne
  rw [if_pos (beq_self_eq_true _)]
theorem e_isiO {K : PySem.W.Frag} {H : Hp} {Q : VK} {a C dx : Addr} {fs : List (Str × V)} (k : Q (.bl true) H) (h : H a = some (.ins C dx fs)) (c : Cls K C) (i : InsK K C) : rIsi K [.ref a, .ref C] H Q :=
  ⟨_, _, _, _, true, rfl, .own C, .base (.ins h c i.cls i.get i.tk i.mro), kitSelf, k⟩
def sp_Average_parts (K : PySem.W.Frag) : Sp := fun vs H Q _ => ∃ (p : Addr) (l : Lp), vs = [.ref p] ∧ IsLp K H p l ∧ ∀ t, H t = none → Q (.ref t) (upd H t (.tup l.V))
def rd_Average_parts (K : PySem.W.Frag) : TS := tRet (tTup (tCons (tFld K (tVar 0) "k") (tCons (tFld K (tVar 0) "a") (tCons (tFld K (tVar 0) "c") (tCons (tFld K (tVar 0) "d") (tCons (tFld K (tVar 0) "stop") (tCons (tFld K (tVar 0) "told") (tCons (tFld K (tVar 0) "mend") (tNil)))))))))
theorem pure_Average_parts (K : PySem.W.Frag) (A : AvK K) (vs : List V) (H : Hp) (Q : VK) (E : XK) (h : sp_Average_parts K vs H Q E) : rd_Average_parts K { nx := fun _ H' => Q .non H', rt := Q } (start ["self"] vs) H := by
  obtain ⟨p, l, rfl, hp, q⟩ := h
  unfold rd_Average_parts
  walk_at "rd"
  refine e_fL ?_ A hp A.n_k rfl
  walk_at "rd"
  refine e_fL ?_ A hp A.n_a rfl
  walk_at "rd"
  refine e_fL ?_ A hp A.n_c rfl
  walk_at "rd"
  refine e_fL ?_ A hp A.n_d rfl
  walk_at "rd"
  refine e_fL ?_ A hp A.n_stop rfl
  walk_at "rd"
  refine e_fL ?_ A hp A.n_told rfl
  walk_at "rd"
  refine e_fL ?_ A hp A.n_mend rfl
  walk_at "rd"
  exact ⟨by show 7 ≤ sizeLine; decide, fun t ht => q t ht⟩
def Lp.D (l : Lp) : PyData := .tuple [.int l.k, .int l.a, .int l.c, .int l.d, .str l.stop, .str l.told, .str l.mend]
theorem Lp.dp {K : PySem.W.Frag} {H : Hp} {t : Addr} {l : Lp} (h : SqT K H t l.V) : Dp K H (.ref t) l.D :=
  .tup h (.cons (.int _) (.cons (.int _) (.cons (.int _) (.cons (.int _) (.cons (.str _) (.cons (.str _) (.cons (.str _) .nil)))))))
theorem strs_ok {s : Str} {xs : List V} {P : Str → Prop} (h : V.str s ∈ xs) (hx : ∀ z, V.str z ∈ xs → P z) : P s := hx s h
theorem Lp.Ok.sh {l : Lp} (o : l.Ok) : SeqAt.shaped l.D = true := by
  obtain ⟨k, a, c, d, s, t, m⟩ := l
  have hs := o.hs; have ht := o.ht; have hm := o.hm
  simp only [stopsV, toldsV, mendsV, List.mem_cons, List.not_mem_nil, or_false, V.str.injEq] at hs ht hm
  rcases hs with rfl | rfl | rfl | rfl | rfl | rfl | rfl <;> rcases ht with rfl | rfl | rfl | rfl <;> rcases hm with rfl | rfl | rfl | rfl <;> kernel_rfl
theorem Lp.eqv {l m : Lp} : PyData.eqv l.D m.D = decide (l.V = m.V) := by
  unfold Lp.D
  simp only [PyData.eqv, PyData.eqvAll, Lp.V, List.cons.injEq, V.int.injEq, V.str.injEq, and_true]
  by_cases h1 : l.k = m.k <;> by_cases h2 : l.a = m.a <;> by_cases h3 : l.c = m.c <;> by_cases h4 : l.d = m.d <;> by_cases h5 : l.stop = m.stop <;> by_cases h6 : l.told = m.told <;> by_cases h7 : l.mend = m.mend <;> simp [h1, h2, h3, h4, h5, h6, h7]
def sp_Average_eq (K : PySem.W.Frag) : Sp := fun vs H Q _ => ∃ (p r : Addr) (l m : Lp), vs = [.ref p, .ref r] ∧ IsLp K H p l ∧ IsLp K H r m ∧ l.Ok ∧ m.Ok ∧ ∀ H', Ext H H' → Q (.bl (decide (l.V = m.V))) H'
def rd_Average_eq (K : PySem.W.Frag) : TS := tSeq (tIfS (tNot (tB (tCB (rIsi K) (tCons (tVar 1) (tCons (tC (.ref (He.ga K "Average"))) (tNil)))))) (tNever) (tNext)) (tRet (tOp (rEqD K) (tMeth (He.ga K "Average") "parts" (sp_Average_parts K) [] E0 (tVar 0) tNil) (tMeth (He.ga K "Average") "parts" (sp_Average_parts K) [] E0 (tVar 1) tNil)))
theorem pure_Average_eq (K : PySem.W.Frag) (A : AvK K) (B : InsK K (He.ga K "Average")) (vs : List V) (H : Hp) (Q : VK) (E : XK) (h : sp_Average_eq K vs H Q E) : rd_Average_eq K { nx := fun _ H' => Q .non H', rt := Q } (start ["self", "other"] vs) H := by
  obtain ⟨p, r, l, m, rfl, hp, hr, o, o', q⟩ := h
  obtain ⟨dr, hr'⟩ := id hr
  obtain ⟨dp, hp'⟩ := id hp
  unfold rd_Average_eq
  walk_at "rd"
  refine e_isiO ?_ hr' A.cls B
  walk_at "rd"
  refine ⟨p, dp, _, rfl, hp', rfl, ?_⟩
  walk_at "rd"
  refine ⟨p, l, rfl, hp, fun t1 h1 => ?_⟩
  have e1 : Ext H (upd H t1 (.tup l.V)) := Ext.new h1
  walk_at "rd"
  refine ⟨r, dr, _, rfl, e1 _ _ hr', rfl, ?_⟩
  walk_at "rd"
  refine ⟨r, m, rfl, hr.ext e1, fun t2 h2 => ?_⟩
  have e2 : Ext (upd H t1 (.tup l.V)) (upd (upd H t1 (.tup l.V)) t2 (.tup m.V)) := Ext.new h2
  refine e_eqD (d := l.D) (e := m.D) ?_ (Lp.dp (SqT.of (e2 _ _ upd_same))) (Lp.dp (SqT.of upd_same)) o.sh o'.sh
  rw [Lp.eqv]
  exact q _ (e1.tr e2)
def sp_Average_initX (K : PySem.W.Frag) : Sp := fun vs H Q E => ∃ (x dx : Addr) (k a c d s t m : V), vs = [.ref x, k, a, c, d, s, t, m] ∧ (∀ v ∈ [k, a, c, d, s, t, m], ∃ n, WT K H v n) ∧ (iv c).natAbs < 2 ^ 900 ∧ H x = some (.ins (He.ga K "Average") dx []) ∧
  (∀ l : Lp, l.Ok → [k, a, c, d, s, t, m] = l.V → ∀ H', ExtB x H H' → H' x = some (.ins (He.ga K "Average") dx l.F) → Q .non H') ∧
  (wrongP k a c d s t m ≠ .non → ∀ H' e, Ext H H' → H' e = none → E (clsL K) (some e) (upd H' e (.xd [("word", wrongP k a c d s t m)])))
def rd_Average_initX (K : PySem.W.Frag) (E : XK) : TS := tSeq (tAsg (tCall (sp_wrong_part K) [] E0 (tCons (tVar 1) (tCons (tVar 2) (tCons (tVar 3) (tCons (tVar 4) (tCons (tVar 5) (tCons (tVar 6) (tCons (tVar 7) (tNil))))))))) (gName 8)) (tSeq (tIfS (tTest (tOp FW.rNotN (tVar 8) (tC .non))) (FW.tRaiseE (He.ga K "BadLoop") "word" (fun cls d _ H => E cls d H) (tCons (tVar 8) (tNil))) (tNext)) (tSeq (sFld K (tVar 0) (tVar 1) "k") (tSeq (sFld K (tVar 0) (tVar 2) "a") (tSeq (sFld K (tVar 0) (tVar 3) "c") (tSeq (sFld K (tVar 0) (tVar 4) "d") (tSeq (sFld K (tVar 0) (tVar 5) "stop") (tSeq (sFld K (tVar 0) (tVar 6) "told") (sFld K (tVar 0) (tVar 7) "mend"))))))))
theorem pure_Average_initX (K : PySem.W.Frag) (A : AvK K) (vs : List V) (H : Hp) (Q : VK) (E : XK) (h : sp_Average_initX K vs H Q E) : rd_Average_initX K E { nx := fun _ H' => Q .non H', rt := Q } (start ["self", "k", "a", "c", "d", "stop", "told", "mend", "wrong"] vs) H := by
  obtain ⟨x, dx, k, a, c, d, s, t, m, rfl, hw, hc, hx, q, qE⟩ := h
  unfold rd_Average_initX
  walk_at "rd"
  refine ⟨_, _, _, _, _, _, _, rfl, hw, hc, fun H1 e1 => ?_⟩
  by_cases hn : wrongP k a c d s t m = .non
  · obtain ⟨l, o, el⟩ := wrong_ok hn
    obtain ⟨k', a', c', d', s', t', m'⟩ := l
    have el' : [k, a, c, d, s, t, m] = [V.int k', V.int a', V.int c', V.int d', V.str s', V.str t', V.str m'] := el
    injection el' with z1 el'; injection el' with z2 el'; injection el' with z3 el'; injection el' with z4 el'; injection el' with z5 el'; injection el' with z6 el'; injection el' with z7 el'
    subst z1 z2 z3 z4 z5 z6 z7
    rw [hn]
    walk_at "rd"
    refine e_iteN (fun h => absurd rfl h) (fun _ => ?_)
    walk_at "rd"
    refine e_sF ?_ (e1 _ _ hx) A.cls A.n_k (by decide)
    walk_at "rd"
    refine e_sF ?_ upd_same A.cls A.n_a (by show 1 < 1000; decide)
    walk_at "rd"
    refine e_sF ?_ upd_same A.cls A.n_c (by show 2 < 1000; decide)
    walk_at "rd"
    refine e_sF ?_ upd_same A.cls A.n_d (by show 3 < 1000; decide)
    walk_at "rd"
    refine e_sF ?_ upd_same A.cls A.n_stop (by show 4 < 1000; decide)
    walk_at "rd"
    refine e_sF ?_ upd_same A.cls A.n_told (by show 5 < 1000; decide)
    walk_at "rd"
    refine e_sF ?_ upd_same A.cls A.n_mend (by show 6 < 1000; decide)
    refine q _ o el _ ?_ upd_same
    intro a o' ne h
    rw [upd_ne ne, upd_ne ne, upd_ne ne, upd_ne ne, upd_ne ne, upd_ne ne, upd_ne ne]
    exact e1 _ _ h
  · walk_at "rd"
    refine e_iteN (fun _ => ?_) (fun h => absurd h hn)
    unfold tRaiseE tMkE
    walk_at "rd"
    exact ⟨_, rfl, fun e he => qE hn H1 e e1 he⟩
def sp_l_loopX (K : PySem.W.Frag) : Sp := fun vs H Q E => ∃ (p : Addr) (k a c d s t m : V), vs = [.ref p] ∧ SqT K H p [k, a, c, d, s, t, m] ∧ (∀ v ∈ [k, a, c, d, s, t, m], ∃ n, WT K H v n) ∧ (iv c).natAbs < 2 ^ 900 ∧
  (∀ l : Lp, l.Ok → [k, a, c, d, s, t, m] = l.V → ∀ x H', H x = none → Ext H H' → IsLp K H' x l → Q (.ref x) H') ∧
  (wrongP k a c d s t m ≠ .non → ∀ H' e, Ext H H' → H' e = none → E (clsL K) (some e) (upd H' e (.xd [("word", wrongP k a c d s t m)])))
def rd_l_loopX (K : PySem.W.Frag) (E : XK) : TS := tRet (tMake (He.ga K "Average") (sp_Average_initX K) [] E (tCons (tOp (rIxT K) (tVar 0) (tC (.int 0))) (tCons (tOp (rIxT K) (tVar 0) (tC (.int 1))) (tCons (tOp (rIxT K) (tVar 0) (tC (.int 2))) (tCons (tOp (rIxT K) (tVar 0) (tC (.int 3))) (tCons (tOp (rIxT K) (tVar 0) (tC (.int 4))) (tCons (tOp (rIxT K) (tVar 0) (tC (.int 5))) (tCons (tOp (rIxT K) (tVar 0) (tC (.int 6))) (tNil)))))))))
theorem make_av {K : PySem.W.Frag} {H : Hp} {Q : VK} {E : XK} {k a c d s t m : V} (hw : ∀ v ∈ [k, a, c, d, s, t, m], ∃ n, WT K H v n) (hc : (iv c).natAbs < 2 ^ 900)
    (q : ∀ l : Lp, l.Ok → [k, a, c, d, s, t, m] = l.V → ∀ x H', H x = none → Ext H H' → IsLp K H' x l → Q (.ref x) H')
    (qE : wrongP k a c d s t m ≠ .non → ∀ H' e, Ext H H' → H' e = none → E (clsL K) (some e) (upd H' e (.xd [("word", wrongP k a c d s t m)]))) (x dx : Addr) (hx : H x = none) (hdx : H dx = none) (hne : dx ≠ x) :
    sp_Average_initX K (.ref x :: ([k, a, c, d, s, t, m] ++ [])) (upd (upd H dx (.own x)) x (.ins (He.ga K "Average") dx [])) (fun v H2 => v = .non ∧ Q (.ref x) H2) E := by
  have e3 : Ext H (upd (upd H dx (.own x)) x (.ins (He.ga K "Average") dx [])) := (Ext.new hdx).tr (Ext.new (by rw [upd_ne hne.symm]; exact hx))
  refine ⟨x, dx, k, a, c, d, s, t, m, rfl, fun v hv => ?_, hc, upd_same, fun l o el H4 e4 h4 => ⟨rfl, q l o el x H4 hx (fun b ob z => e4 _ _ (ne_of_none z hx) (e3 _ _ z)) ⟨dx, h4⟩⟩, fun hn H' e e' he => qE hn H' e (e3.tr e') he⟩
  obtain ⟨n, z⟩ := hw v hv
  exact ⟨n, z.ext e3⟩
theorem pure_l_loopX (K : PySem.W.Frag) (A : AvK K) (vs : List V) (H : Hp) (Q : VK) (E : XK) (h : sp_l_loopX K vs H Q E) : rd_l_loopX K E { nx := fun _ H' => Q .non H', rt := Q } (start ["_law_parts_here"] vs) H := by
  obtain ⟨p, k, a, c, d, s, t, m, rfl, hp, hw, hc, q, qE⟩ := h
  unfold rd_l_loopX
  walk_at "rd"
  refine e_ixT ?_ hp rfl
  walk_at "rd"
  refine e_ixT ?_ hp rfl
  walk_at "rd"
  refine e_ixT ?_ hp rfl
  walk_at "rd"
  refine e_ixT ?_ hp rfl
  walk_at "rd"
  refine e_ixT ?_ hp rfl
  walk_at "rd"
  refine e_ixT ?_ hp rfl
  walk_at "rd"
  refine e_ixT ?_ hp rfl
  walk_at "rd"
  exact make_av hw hc q qE
theorem e_slA {K : PySem.W.Frag} {H : Hp} {Q : VK} {a : Addr} {xs : List V} {lo hi : Option Int} (q : ∀ p, H p = none → Q (.ref p) (upd H p (.tup (cutV xs lo hi)))) (h : SqT K H a xs) (hn : ¬ (HT.sIx xs.length 0 lo = 0 ∧ HT.sIx xs.length xs.length hi = xs.length)) : rSlA K (.ref a) lo hi H Q :=
  ⟨a, xs, rfl, h, fun z => absurd z hn, fun _ => q⟩
end FWL
namespace FWL
open PySem PySem.Spec PyProof.Rows L2 FW
/-! ### what a round asks -/
def Lp.near (l : Lp) : Int := if l.stop = "near1" then 1 else if l.stop = "near2" then 2 else 0
def Lp.looks (l : Lp) (n x : Int) : Bool := if l.stop = "under" then decide (x ^ l.k.toNat ≤ n) else decide (l.stop = "held") && (decide (x ^ l.k.toNat ≤ n) && decide (n < (x + 1) ^ l.k.toNat))
def absI (i : Int) : Int := if i < 0 then -i else i
def Lp.ends (l : Lp) (x y : Int) (b : Option Int) : Bool := if l.stop = "notless" then decide (x ≤ y) else if l.stop = "near1" ∨ l.stop = "near2" then decide (absI (x - y) ≤ l.near) else
  decide (l.stop = "equal" ∨ l.stop = "back") && (decide (y = x) || (decide (l.stop = "back") && decide (some y = b)))
def Lp.chosen (l : Lp) (x y : Int) : Int := if l.told = "old" then x else if l.told = "new" then y else if l.told = "less" then min x y else max x y
def Lp.mended (l : Lp) (n t : Int) : Int := if (l.mend = "down" ∨ l.mend = "both") ∧ n < t ^ l.k.toNat then t - 1 else if (l.mend = "up" ∨ l.mend = "both") ∧ (t + 1) ^ l.k.toNat ≤ n then t + 1 else t
def nearsK : List (L2.Key × V) := [(.inr "near1", .int 1), (.inr "near2", .int 2)]
theorem near_val (s : Str) : ((valV nearsK (.inr s)).getD (.int 0)) = .int (if s = "near1" then 1 else if s = "near2" then 2 else 0) := by
  by_cases h1 : s = "near1"
  · subst h1; rfl
  · by_cases h2 : s = "near2"
    · subst h2; rfl
    · rw [if_neg h1, if_neg h2]
      unfold nearsK
      rw [valV_neg (by intro z; exact h1 (Sum.inr.inj z).symm), valV_neg (by intro z; exact h2 (Sum.inr.inj z).symm)]
      rfl
def sp_Average_nearness (K : PySem.W.Frag) : Sp := fun vs H Q _ => ∃ (p : Addr) (l : Lp), vs = [.ref p] ∧ IsLp K H p l ∧ ∀ H', Ext H H' → Q (.int l.near) H'
def rd_Average_nearness (K : PySem.W.Frag) : TS := tRet (tDGet2 (tDisp [(tC (.str "near1"), tC (.int 1)), (tC (.str "near2"), tC (.int 2))]) (tFld K (tVar 0) "stop") (tC (.int 0)))
theorem e_get2 {td ty tx : TE} {σ : L2.St} {H : Hp} {Q : VK} (k : td σ H fun x H1 => ∃ a, x = .ref a ∧ IsD H1 a ∧ ty σ H1 fun y H2 => tx σ H2 fun z H3 => ∃ o, DGet H3 a y o ∧ Q (o.getD z) H3) : tDGet2 td ty tx σ H Q := k
theorem e_get {td ty : TE} {σ : L2.St} {H : Hp} {Q : VK} (k : td σ H fun x H1 => ty σ H1 fun y H2 => ∃ a v, x = .ref a ∧ DGet H2 a y (some v) ∧ Q v H2) : tDGet td ty σ H Q := k
theorem pure_Average_nearness (K : PySem.W.Frag) (A : AvK K) (vs : List V) (H : Hp) (Q : VK) (E : XK) (h : sp_Average_nearness K vs H Q E) : rd_Average_nearness K { nx := fun _ H' => Q .non H', rt := Q } (start ["self"] vs) H := by
  obtain ⟨p, l, rfl, ⟨dx, hp⟩, q⟩ := h
  unfold rd_Average_nearness
  walk_at "rd"
  refine e_get2 fun d hd => ?_
  unfold tPairs tPairs tPairs
  walk_at "rd"
  refine ⟨upd_same, nearsK, rfl, by decide, _, rfl, .inl ⟨_, .inl upd_same⟩, ?_⟩
  rw [upd_upd]
  have hp' : (upd H d (.dK (mergeK [] nearsK))) p = some (.ins (He.ga K "Average") dx l.F) := (Ext.new hd) _ _ hp
  walk_at "rd"
  refine ⟨p, _, dx, _, _, rfl, hp', A.cls, A.n_stop, rfl, ?_⟩
  walk_at "rd"
  refine ⟨_, .inl ⟨_, .inr l.stop, .inl upd_same, rfl, rfl⟩, ?_⟩
  have e : mergeK [] nearsK = nearsK := rfl
  rw [e, near_val]
  exact q _ (Ext.new hd)

def toldsK (x y : Int) : List (L2.Key × V) := [(.inr "old", .int x), (.inr "new", .int y), (.inr "less", .int (if y < x then y else x)), (.inr "more", .int (if x < y then y else x))]
theorem told_val {s : Str} (h : V.str s ∈ toldsV) (x y : Int) : valV (toldsK x y) (.inr s) = some (.int (if s = "old" then x else if s = "new" then y else if s = "less" then min x y else max x y)) := by
  simp only [toldsV, List.mem_cons, V.str.injEq, List.not_mem_nil, or_false] at h
  rcases h with rfl | rfl | rfl | rfl
  · rfl
  · rfl
  · show some (V.int (if y < x then y else x)) = some (V.int (min x y))
    congr 2; split <;> omega
  · show some (V.int (if x < y then y else x)) = some (V.int (max x y))
    congr 2; split <;> omega
def sp_Average_chosen (K : PySem.W.Frag) : Sp := fun vs H Q _ => ∃ (p : Addr) (l : Lp) (x y : Int), vs = [.ref p, .int x, .int y] ∧ IsLp K H p l ∧ l.Ok ∧ ∀ H', Ext H H' → Q (.int (l.chosen x y)) H'
def rd_Average_chosen (K : PySem.W.Frag) : TS := tRet (tDGet (tDisp [(tC (.str "old"), tVar 1), (tC (.str "new"), tVar 2), (tC (.str "less"), tCB FW.rMin2 (tCons (tVar 1) (tCons (tVar 2) (tNil)))), (tC (.str "more"), tCB FW.rMax2 (tCons (tVar 1) (tCons (tVar 2) (tNil))))]) (tFld K (tVar 0) "told"))
theorem pure_Average_chosen (K : PySem.W.Frag) (A : AvK K) (vs : List V) (H : Hp) (Q : VK) (E : XK) (h : sp_Average_chosen K vs H Q E) : rd_Average_chosen K { nx := fun _ H' => Q .non H', rt := Q } (start ["self", "x", "y"] vs) H := by
  obtain ⟨p, l, x, y, rfl, ⟨dx, hp⟩, o, q⟩ := h
  unfold rd_Average_chosen
  walk_at "rd"
  refine e_get fun d hd => ?_
  unfold tPairs tPairs tPairs tPairs tPairs
  walk_at "rd"
  refine ⟨upd_same, toldsK x y, rfl, by show 4 ≤ 15; decide, ?_⟩
  rw [upd_upd]
  have hp' : (upd H d (.dK (mergeK [] (toldsK x y)))) p = some (.ins (He.ga K "Average") dx l.F) := (Ext.new hd) _ _ hp
  walk_at "rd"
  refine ⟨p, _, dx, _, _, rfl, hp', A.cls, A.n_told, rfl, ?_⟩
  refine ⟨_, _, rfl, .inl ⟨_, .inr l.told, .inl upd_same, rfl, ?_⟩, q _ (Ext.new hd)⟩
  have e : mergeK [] (toldsK x y) = toldsK x y := rfl
  rw [e, told_val o.ht]
  rfl
theorem inV2 (s a b : Str) : inV (.str s) [.str a, .str b] = decide (s = a ∨ s = b) := by
  unfold inV
  simp only [List.any_cons, List.any_nil, eqV_str, Bool.or_false, Bool.decide_or]
  rw [show decide (a = s) = decide (s = a) from decide_eq_decide.mpr eq_comm, show decide (b = s) = decide (s = b) from decide_eq_decide.mpr eq_comm]
theorem decS (a b : Str) : decide (V.str a = V.str b) = decide (a = b) := decide_eq_decide.mpr ⟨fun z => by injection z, fun z => by rw [z]⟩
theorem decI (a b : Int) : decide (V.int a = V.int b) = decide (a = b) := decide_eq_decide.mpr ⟨fun z => by injection z, fun z => by rw [z]⟩
theorem Lp.Ok.k4 {l : Lp} (o : l.Ok) : 0 ≤ l.k ∧ l.k.toNat ≤ 4 := by have := o.hk; omega
theorem pw_ok {K : PySem.W.Frag} {l : Lp} (o : l.Ok) {x : Int} (hx : Sz 2002 x) {H : Hp} {Q : VK} {E : XK} (q : Q (.int (x ^ l.k.toNat)) H) : sp_power K [.int x, .int l.k] H Q E := by
  obtain ⟨k0, k4⟩ := o.k4
  refine ⟨x, l.k, 2002, rfl, k0, hx, by decide, ?_, q⟩
  have : (l.k.toNat + 1) * 2002 ≤ 5 * 2002 := Nat.mul_le_mul_right _ (by omega)
  omega
theorem Sz.inc {x : Int} {b : Nat} (h : Sz b x) (hx : 0 ≤ x) : Sz (b + 1) (x + 1) := by
  have h : x.natAbs < 2 ^ b := h
  show (x + 1).natAbs < 2 ^ (b + 1)
  rw [Nat.pow_succ]
  omega
def sp_Average_looks (K : PySem.W.Frag) : Sp := fun vs H Q _ => ∃ (p : Addr) (l : Lp) (n x : Int), vs = [.ref p, .int n, .int x] ∧ IsLp K H p l ∧ l.Ok ∧ 0 ≤ x ∧ Sz 2000 x ∧ Q (.bl (l.looks n x)) H
def rd_Average_looks (K : PySem.W.Frag) : TS := tSeq (tIfS (tTest (tOp rEq (tFld K (tVar 0) "stop") (tC (.str "under")))) (tRet (tOp FW.rLe (tCall (sp_power K) [] E0 (tCons (tVar 2) (tCons (tFld K (tVar 0) "k") (tNil)))) (tVar 1))) (tNext)) (tRet (tAndV (tOp rEq (tFld K (tVar 0) "stop") (tC (.str "held"))) (tChain FW.rLe FW.rLt (tCall (sp_power K) [] E0 (tCons (tVar 2) (tCons (tFld K (tVar 0) "k") (tNil)))) (tVar 1) (tCall (sp_power K) [] E0 (tCons (tOp FW.rAdd (tVar 2) (tC (.int 1))) (tCons (tFld K (tVar 0) "k") (tNil)))))))
theorem pure_Average_looks (K : PySem.W.Frag) (A : AvK K) (vs : List V) (H : Hp) (Q : VK) (E : XK) (h : sp_Average_looks K vs H Q E) : rd_Average_looks K { nx := fun _ H' => Q .non H', rt := Q } (start ["self", "n", "x"] vs) H := by
  obtain ⟨p, l, n, x, rfl, ⟨dx, hp⟩, o, x0, xs, q⟩ := h
  unfold Lp.looks at q
  unfold rd_Average_looks
  walk_at "rd"
  refine ⟨p, _, dx, _, _, rfl, hp, A.cls, A.n_stop, rfl, ?_⟩
  walk_at "rd"
  rw [decS]
  refine e_ite (fun h1 => ?_) (fun h1 => ?_)
  · rw [if_pos h1] at q
    walk_at "rd"
    refine ⟨p, _, dx, _, _, rfl, hp, A.cls, A.n_k, rfl, ?_⟩
    walk_at "rd"
    refine pw_ok o (xs.mono (by decide)) ?_
    walk_at "rd"
    exact q
  · rw [if_neg h1] at q
    walk_at "rd"
    refine ⟨p, _, dx, _, _, rfl, hp, A.cls, A.n_stop, rfl, ?_⟩
    walk_at "rd"
    rw [decS]
    by_cases h2 : l.stop = "held"
    · rw [decide_eq_true h2] at q ⊢
      walk_at "rd"
      refine ⟨p, _, dx, _, _, rfl, hp, A.cls, A.n_k, rfl, ?_⟩
      walk_at "rd"
      refine pw_ok o (xs.mono (by decide)) ?_
      walk_at "rd"
      by_cases h3 : x ^ l.k.toNat ≤ n
      · rw [decide_eq_true h3] at q ⊢
        rw [if_pos rfl]
        walk_at "rd"
        refine ⟨p, _, dx, _, _, rfl, hp, A.cls, A.n_k, rfl, ?_⟩
        walk_at "rd"
        refine pw_ok o (Sz.mono (xs.inc x0) (by decide)) ?_
        walk_at "rd"
        exact q
      · rw [decide_eq_false h3] at q ⊢
        rw [if_neg (by decide)]
        exact q
    · rw [decide_eq_false h2] at q ⊢
      walk_at "rd"
      exact q
def sp_Average_ends (K : PySem.W.Frag) : Sp := fun vs H Q _ => ∃ (p : Addr) (l : Lp) (x y : Int) (b : Option Int), vs = [.ref p, .int x, .int y, nkV b] ∧ IsLp K H p l ∧ l.Ok ∧ ∀ H', Ext H H' → Q (.bl (l.ends x y b)) H'
def rd_Average_ends (K : PySem.W.Frag) : TS := tSeq (tIfS (tTest (tOp rEq (tFld K (tVar 0) "stop") (tC (.str "notless")))) (tRet (tOp FW.rGe (tVar 2) (tVar 1))) (tNext)) (tSeq (tIfS (tTest (tOp (rIn K false) (tFld K (tVar 0) "stop") (tTup (tCons (tC (.str "near1")) (tCons (tC (.str "near2")) (tNil)))))) (tRet (tOp FW.rLe (tCB FW.rAbs (tCons (tOp FW.rSub (tVar 1) (tVar 2)) (tNil))) (tMeth (He.ga K "Average") "nearness" (sp_Average_nearness K) [] E0 (tVar 0) tNil))) (tNext)) (tRet (tAndV (tOp (rIn K false) (tFld K (tVar 0) "stop") (tTup (tCons (tC (.str "equal")) (tCons (tC (.str "back")) (tNil))))) (tOrV (tOp rEq (tVar 2) (tVar 1)) (tAndV (tOp rEq (tFld K (tVar 0) "stop") (tC (.str "back"))) (tOp rEq (tVar 2) (tVar 3)))))))
theorem decN (y : Int) (b : Option Int) : decide (V.int y = nkV b) = decide (some y = b) := by
  cases b with
  | none => rw [decide_eq_false (fun z => nomatch z), decide_eq_false (fun z => nomatch z)]
  | some i => exact decide_eq_decide.mpr ⟨fun z => by injection z with z; rw [z], fun z => by injection z with z; rw [z]; rfl⟩
theorem e_eqN {y : Int} {b : Option Int} {H : Hp} {Q : VK} (k : Q (.bl (decide (some y = b))) H) : rEq (.int y) (nkV b) H Q := by
  refine e_eq (by rw [decN]; exact k) ?_
  cases b <;> rfl
theorem pure_Average_ends (K : PySem.W.Frag) (A : AvK K) (vs : List V) (H : Hp) (Q : VK) (E : XK) (h : sp_Average_ends K vs H Q E) : rd_Average_ends K { nx := fun _ H' => Q .non H', rt := Q } (start ["self", "x", "y", "before"] vs) H := by
  obtain ⟨p, l, x, y, b, rfl, hL, o, q⟩ := h
  obtain ⟨dx, hp⟩ := id hL
  unfold Lp.ends at q
  unfold rd_Average_ends
  walk_at "rd"
  refine ⟨p, _, dx, _, _, rfl, hp, A.cls, A.n_stop, rfl, ?_⟩
  walk_at "rd"
  rw [decS]
  refine e_ite (fun h1 => ?_) (fun h1 => ?_)
  · simp only [if_pos h1] at q
    walk_at "rd"
    exact q H Ext.rfl'
  · simp only [if_neg h1] at q
    walk_at "rd"
    refine ⟨p, _, dx, _, _, rfl, hp, A.cls, A.n_stop, rfl, ?_⟩
    walk_at "rd"
    refine ⟨by show 2 ≤ sizeLine; decide, fun t ht => ?_⟩
    have e1 : Ext H (upd H t (.tup [V.str "near1", V.str "near2"])) := Ext.new ht
    refine e_in ?_ (.inr (SqT.of upd_same)) rfl rfl
    generalize upd H t (.tup [V.str "near1", V.str "near2"]) = H1 at *
    have hp1 := e1 _ _ hp
    rw [if_neg (by decide), inV2]
    walk_at "rd"
    refine e_ite (fun h2 => ?_) (fun h2 => ?_)
    · simp only [if_pos h2] at q
      walk_at "rd"
      refine ⟨p, dx, _, rfl, hp1, rfl, ?_⟩
      refine ⟨p, l, rfl, ⟨dx, hp1⟩, fun H2 e2 => ?_⟩
      walk_at "rd"
      exact q H2 (e1.tr e2)
    · simp only [if_neg h2] at q
      walk_at "rd"
      refine ⟨p, _, dx, _, _, rfl, hp1, A.cls, A.n_stop, rfl, ?_⟩
      walk_at "rd"
      refine ⟨by show 2 ≤ sizeLine; decide, fun t2 ht2 => ?_⟩
      have e2 : Ext H1 (upd H1 t2 (.tup [V.str "equal", V.str "back"])) := Ext.new ht2
      refine e_in ?_ (.inr (SqT.of upd_same)) rfl rfl
      generalize upd H1 t2 (.tup [V.str "equal", V.str "back"]) = H2 at *
      have hp2 := e2 _ _ hp1
      rw [if_neg (by decide), inV2]
      by_cases h3 : l.stop = "equal" ∨ l.stop = "back"
      · rw [decide_eq_true h3] at q ⊢
        walk_at "rd"
        rw [decI]
        by_cases h4 : y = x
        · rw [decide_eq_true h4] at q ⊢
          walk_at "rd"
          exact q H2 (e1.tr e2)
        · rw [decide_eq_false h4] at q ⊢
          walk_at "rd"
          refine ⟨p, _, dx, _, _, rfl, hp2, A.cls, A.n_stop, rfl, ?_⟩
          walk_at "rd"
          rw [decS]
          by_cases h5 : l.stop = "back"
          · rw [decide_eq_true h5] at q ⊢
            walk_at "rd"
            refine e_eqN ?_
            exact q H2 (e1.tr e2)
          · rw [decide_eq_false h5] at q ⊢
            walk_at "rd"
            exact q H2 (e1.tr e2)
      · rw [decide_eq_false h3] at q ⊢
        walk_at "rd"
        exact q H2 (e1.tr e2)
def sp_Average_mended (K : PySem.W.Frag) : Sp := fun vs H Q _ => ∃ (p : Addr) (l : Lp) (n t : Int), vs = [.ref p, .int n, .int t] ∧ IsLp K H p l ∧ l.Ok ∧ 0 ≤ t ∧ Sz 2000 t ∧ ∀ H', Ext H H' → Q (.int (l.mended n t)) H'
def rd_Average_mended (K : PySem.W.Frag) : TS := tSeq (tIfS (tAnd (tTest (tOp (rIn K false) (tFld K (tVar 0) "mend") (tTup (tCons (tC (.str "down")) (tCons (tC (.str "both")) (tNil)))))) (tTest (tOp FW.rGt (tCall (sp_power K) [] E0 (tCons (tVar 2) (tCons (tFld K (tVar 0) "k") (tNil)))) (tVar 1)))) (tRet (tOp FW.rSub (tVar 2) (tC (.int 1)))) (tNext)) (tSeq (tIfS (tAnd (tTest (tOp (rIn K false) (tFld K (tVar 0) "mend") (tTup (tCons (tC (.str "up")) (tCons (tC (.str "both")) (tNil)))))) (tTest (tOp FW.rLe (tCall (sp_power K) [] E0 (tCons (tOp FW.rAdd (tVar 2) (tC (.int 1))) (tCons (tFld K (tVar 0) "k") (tNil)))) (tVar 1)))) (tRet (tOp FW.rAdd (tVar 2) (tC (.int 1)))) (tNext)) (tRet (tVar 2)))
theorem pure_Average_mended (K : PySem.W.Frag) (A : AvK K) (vs : List V) (H : Hp) (Q : VK) (E : XK) (h : sp_Average_mended K vs H Q E) : rd_Average_mended K { nx := fun _ H' => Q .non H', rt := Q } (start ["self", "n", "t"] vs) H := by
  obtain ⟨p, l, n, x, rfl, hL, o, x0, xs, q⟩ := h
  obtain ⟨dx, hp⟩ := id hL
  unfold Lp.mended at q
  unfold rd_Average_mended
  have second : ¬ ((l.mend = "down" ∨ l.mend = "both") ∧ n < x ^ l.k.toNat) → ∀ H1, Ext H H1 → (tSeq (tIfS (tAnd (tTest (tOp (rIn K false) (tFld K (tVar 0) "mend") (tTup (tCons (tC (.str "up")) (tCons (tC (.str "both")) (tNil)))))) (tTest (tOp FW.rLe (tCall (sp_power K) [] E0 (tCons (tOp FW.rAdd (tVar 2) (tC (.int 1))) (tCons (tFld K (tVar 0) "k") (tNil)))) (tVar 1)))) (tRet (tOp FW.rAdd (tVar 2) (tC (.int 1)))) (tNext)) (tRet (tVar 2))) { nx := fun _ H' => Q .non H', rt := Q } (start ["self", "n", "t"] [.ref p, .int n, .int x]) H1 := by
    intro hno H1 e1
    simp only [if_neg hno] at q
    have hp1 := e1 _ _ hp
    walk_at "rd"
    refine ⟨p, _, dx, _, _, rfl, hp1, A.cls, A.n_mend, rfl, ?_⟩
    walk_at "rd"
    refine ⟨by show 2 ≤ sizeLine; decide, fun t2 ht2 => ?_⟩
    have e2 : Ext H1 (upd H1 t2 (.tup [V.str "up", V.str "both"])) := Ext.new ht2
    refine e_in ?_ (.inr (SqT.of upd_same)) rfl rfl
    generalize upd H1 t2 (.tup [V.str "up", V.str "both"]) = H2 at *
    have hp2 := e2 _ _ hp1
    rw [if_neg (by decide), inV2]
    walk_at "rd"
    refine e_ite (fun h1 => ?_) (fun h1 => ?_)
    · walk_at "rd"
      refine ⟨p, _, dx, _, _, rfl, hp2, A.cls, A.n_k, rfl, ?_⟩
      walk_at "rd"
      refine pw_ok o (Sz.mono (xs.inc x0) (by decide)) ?_
      walk_at "rd"
      refine e_ite (fun h2 => ?_) (fun h2 => ?_)
      · simp only [if_pos (And.intro h1 h2)] at q
        walk_at "rd"
        exact q H2 (e1.tr e2)
      · simp only [if_neg (fun z : (l.mend = "up" ∨ l.mend = "both") ∧ (x + 1) ^ l.k.toNat ≤ n => h2 z.2)] at q
        walk_at "rd"
        exact q H2 (e1.tr e2)
    · simp only [if_neg (fun z : (l.mend = "up" ∨ l.mend = "both") ∧ (x + 1) ^ l.k.toNat ≤ n => h1 z.1)] at q
      walk_at "rd"
      exact q H2 (e1.tr e2)
  with_reducible refine s_seq ?_
  walk_at "rd"
  refine ⟨p, _, dx, _, _, rfl, hp, A.cls, A.n_mend, rfl, ?_⟩
  walk_at "rd"
  refine ⟨by show 2 ≤ sizeLine; decide, fun t2 ht2 => ?_⟩
  have e2 : Ext H (upd H t2 (.tup [V.str "down", V.str "both"])) := Ext.new ht2
  refine e_in ?_ (.inr (SqT.of upd_same)) rfl rfl
  generalize upd H t2 (.tup [V.str "down", V.str "both"]) = H2 at *
  have hp2 := e2 _ _ hp
  rw [if_neg (by decide), inV2]
  walk_at "re"
  refine e_ite (fun h1 => ?_) (fun h1 => ?_)
  · walk_at "re"
    refine ⟨p, _, dx, _, _, rfl, hp2, A.cls, A.n_k, rfl, ?_⟩
    walk_at "re"
    refine pw_ok o (xs.mono (by decide)) ?_
    walk_at "re"
    refine e_ite (fun h2 => ?_) (fun h2 => ?_)
    · simp only [if_pos (And.intro h1 h2)] at q
      walk_at "rd"
      exact q H2 e2
    · with_reducible refine s_next ?_
      exact second (fun z => h2 z.2) H2 e2
  · walk_at "re"
    with_reducible refine s_next ?_
    exact second (fun z => h1 z.1) H2 e2
end FWL
namespace FWL
open PySem PySem.Spec PyProof.Rows L2 FW
/-! ### runs -/
structure Res where
  gs : List Int
  fin : Str
  told : Option Int
  ring : List Int
def prv (l : Lp) (n x : Int) : Nat → Option Int
  | 0 => none
  | j + 1 => some (itr l n x j)
def keyA (l : Lp) (n x : Int) (j : Nat) : List NK := [if l.stop = "back" then prv l n x j else none, some (itr l n x j)]
def gsA (l : Lp) (n x : Int) (i : Nat) : List Int := (List.range i).map (itr l n x)
/-- an earlier round with the key of round i -/
def seenA (l : Lp) (n x : Int) (i : Nat) : Option Nat := (List.range i).find? fun j => decide (keyA l n x j = keyA l n x i)
def crs (l : Lp) (n x : Int) (i : Nat) : Option Res :=
  match seenA l n x i with
  | some j => some ⟨gsA l n x i, "swings", none, (gsA l n x i).drop j⟩
  | none =>
    if l.looks n (itr l n x i) = true then some ⟨gsA l n x (i + 1), "told", some (l.mended n (itr l n x i)), []⟩
    else if itr l n x i = 0 then some ⟨gsA l n x (i + 1), "nought", none, []⟩
    else if l.ends (itr l n x i) (itr l n x (i + 1)) (prv l n x i) = true then some ⟨gsA l n x (i + 1), "told", some (l.mended n (l.chosen (itr l n x i) (itr l n x (i + 1)))), []⟩
    else none
def Crs (l : Lp) (n x : Int) (r : Res) : Prop := ∃ i, (∀ j, j < i → crs l n x j = none) ∧ crs l n x i = some r
theorem Crs.uniq {l : Lp} {n x : Int} {r s : Res} (h : Crs l n x r) (h' : Crs l n x s) : r = s := by
  obtain ⟨i, hi, e⟩ := h
  obtain ⟨j, hj, e'⟩ := h'
  rcases Nat.lt_trichotomy i j with z | z | z
  · rw [hj i z] at e; cases e
  · subst z; rw [e] at e'; cases e'; rfl
  · rw [hi j z] at e'; cases e'
theorem seen_none {l : Lp} {n x : Int} {i : Nat} (h : seenA l n x i = none) {j : Nat} (hj : j < i) : keyA l n x j ≠ keyA l n x i := by
  have := List.find?_eq_none.mp h j (List.mem_range.mpr hj)
  intro z
  rw [decide_eq_true z] at this
  exact this rfl
theorem seen_some {l : Lp} {n x : Int} {i j : Nat} (h : seenA l n x i = some j) : j < i ∧ keyA l n x j = keyA l n x i := by
  have h1 := List.find?_some h
  have h2 := List.mem_of_find?_eq_some h
  exact ⟨List.mem_range.mp h2, of_decide_eq_true h1⟩
/-- what is known while a run goes on -/
theorem crs_none {l : Lp} {n x : Int} {i : Nat} (h : crs l n x i = none) : seenA l n x i = none ∧ l.looks n (itr l n x i) = false ∧ itr l n x i ≠ 0 ∧ l.ends (itr l n x i) (itr l n x (i + 1)) (prv l n x i) = false := by
  unfold crs at h
  cases hs : seenA l n x i with
  | some j => rw [hs] at h; cases h
  | none =>
    rw [hs] at h
    dsimp only at h
    cases h1 : l.looks n (itr l n x i) with
    | true => rw [h1, if_pos rfl] at h; cases h
    | false =>
      rw [h1, if_neg (by decide)] at h
      by_cases h2 : itr l n x i = 0
      · rw [if_pos h2] at h; cases h
      · rw [if_neg h2] at h
        cases h3 : l.ends (itr l n x i) (itr l n x (i + 1)) (prv l n x i) with
        | true => rw [h3, if_pos rfl] at h; cases h
        | false => exact ⟨rfl, rfl, h2, rfl⟩
theorem itr_nonneg {l : Lp} (o : l.Ok) {n x : Int} (hn : 0 ≤ n) (hx : 0 ≤ x) : ∀ j, (∀ i, i < j → itr l n x i ≠ 0) → 0 ≤ itr l n x j
  | 0, _ => hx
  | j + 1, h => by
    have h0 := itr_nonneg o hn hx j fun i hi => h i (by omega)
    have h1 := h j (by omega)
    exact led_nonneg o hn (by omega)
/-- a run does not go on for ever -/
theorem crs_bound {l : Lp} (o : l.Ok) {n r x : Int} (R : RootOf l.k n r) (hx : 0 ≤ x) (hn : n < 2 ^ 1000) (hxs : x < 2 ^ 1000) {i : Nat} (h : ∀ j, j < i → crs l n x j = none) : i ≤ 30000 := by
  rcases Nat.lt_or_ge 30000 i with z | z
  · exfalso
    have n0 : 0 ≤ n := Int.le_trans (Int.pow_nonneg R.r0) R.lo
    have nz : ∀ j, j < i → itr l n x j ≠ 0 := fun j hj => (crs_none (h j hj)).2.2.1
    have pos : ∀ j, j < i → 1 ≤ itr l n x j := fun j hj => by
      have := itr_nonneg o n0 hx j fun k hk => nz k (by omega)
      have := nz j hj
      omega
    obtain ⟨p, q, hpq, hq, e⟩ := same_two o R hx hn hxs fun j hj => pos j (by omega)
    have hs := (crs_none (h (q + 1) (by omega))).1
    refine seen_none hs (j := p + 1) (by omega) ?_
    unfold keyA
    rw [itr_eq e]
    show [if l.stop = "back" then some (itr l n x p) else none, _] = [if l.stop = "back" then some (itr l n x q) else none, _]
    rw [e]
  · exact z
theorem itr_size {l : Lp} (o : l.Ok) {n r x : Int} (R : RootOf l.k n r) (hx : 0 ≤ x) (hn : n < 2 ^ 1000) (hxs : x < 2 ^ 1000) {i : Nat} (h : ∀ j, j < i → itr l n x j ≠ 0) : 0 ≤ itr l n x i ∧ Sz 1001 (itr l n x i) := by
  have n0 : 0 ≤ n := Int.le_trans (Int.pow_nonneg R.r0) R.lo
  have h0 := itr_nonneg o n0 hx i h
  have pos : ∀ j, j < i → 1 ≤ itr l n x j := fun j hj => by
    have := itr_nonneg o n0 hx j fun k hk => h k (by omega)
    have := h j hj
    omega
  have hM : itr l n x i ≤ 2 ^ 1000 + 10 := itr_most o R (by omega) (by omega) i pos
  refine ⟨h0, ?_⟩
  show (itr l n x i).natAbs < 2 ^ 1001
  omega
/-! ### the dict of places -/
theorem valN_range (f : Nat → List NK) (k : List NK) : ∀ (i : Nat) (kvs : List KvN), kvs.map (fun e => (e.1, e.2.2)) = (List.range i).map (fun j => (f j, V.int (j : Int))) → valN kvs k = ((List.range i).find? fun j => decide (f j = k)).map fun (j : Nat) => V.int (j : Int) := by
  intro i kvs h
  have h1 : valN kvs k = ((kvs.map (fun e => (e.1, e.2.2))).find? fun e => decide (e.1 = k)).map (·.2) := by
    unfold valN
    rw [List.find?_map, Option.map_map]
    rfl
  rw [h1, h, List.find?_map, Option.map_map]
  rfl
/-! ### the class Run -/
structure RnK (K : PySem.W.Frag) : Prop where
  cls : Cls K (He.ga K "Run")
  n_guesses : NoAttr K (He.ga K "Run") "guesses"
  n_end : NoAttr K (He.ga K "Run") "end"
  n_told : NoAttr K (He.ga K "Run") "told"
  n_ring : NoAttr K (He.ga K "Run") "ring"
def sp_Run_init (K : PySem.W.Frag) : Sp := fun vs H Q _ => ∃ (x dx : Addr) (v1 v2 v3 v4 : V), vs = [.ref x, v1, v2, v3, v4] ∧ H x = some (.ins (He.ga K "Run") dx []) ∧
  ∀ H', ExtB x H H' → H' x = some (.ins (He.ga K "Run") dx [("guesses", v1), ("end", v2), ("told", v3), ("ring", v4)]) → Q .non H'
def rd_Run_init (K : PySem.W.Frag) : TS := tSeq (sFld K (tVar 0) (tVar 1) "guesses") (tSeq (sFld K (tVar 0) (tVar 2) "end") (tSeq (sFld K (tVar 0) (tVar 3) "told") (sFld K (tVar 0) (tVar 4) "ring")))
theorem pure_Run_init (K : PySem.W.Frag) (A : RnK K) (vs : List V) (H : Hp) (Q : VK) (E : XK) (h : sp_Run_init K vs H Q E) : rd_Run_init K { nx := fun _ H' => Q .non H', rt := Q } (start ["self", "guesses", "end", "told", "ring"] vs) H := by
  obtain ⟨x, dx, v1, v2, v3, v4, rfl, hx, q⟩ := h
  unfold rd_Run_init
  walk_at "rd"
  refine e_sF ?_ hx A.cls A.n_guesses (by decide)
  walk_at "rd"
  refine e_sF ?_ upd_same A.cls A.n_end (by show 1 < 1000; decide)
  walk_at "rd"
  refine e_sF ?_ upd_same A.cls A.n_told (by show 2 < 1000; decide)
  walk_at "rd"
  refine e_sF ?_ upd_same A.cls A.n_ring (by show 3 < 1000; decide)
  refine q _ ?_ upd_same
  rw [upd_upd, upd_upd, upd_upd]
  exact ExtB.upd
def IsRn (K : PySem.W.Frag) (H : Hp) (x : Addr) (r : Res) : Prop := ∃ (dx g q : Addr), H x = some (.ins (He.ga K "Run") dx [("guesses", .ref g), ("end", .str r.fin), ("told", nkV r.told), ("ring", .ref q)]) ∧ H g = some (.tup (r.gs.map V.int)) ∧ H q = some (.tup (r.ring.map V.int))
theorem IsRn.ext {K : PySem.W.Frag} {H H' : Hp} {x : Addr} {r : Res} (e : Ext H H') : IsRn K H x r → IsRn K H' x r
  | ⟨dx, g, q, h1, h2, h3⟩ => ⟨dx, g, q, e _ _ h1, e _ _ h2, e _ _ h3⟩
/-- a run object is made -/
theorem make_rn {K : PySem.W.Frag} {H : Hp} {Q : VK} {g q : Addr} {r : Res} (hg : H g = some (.tup (r.gs.map V.int))) (hq : H q = some (.tup (r.ring.map V.int))) (k : ∀ x H', H x = none → Ext H H' → IsRn K H' x r → Q (.ref x) H') :
    ∀ x dx, H x = none → H dx = none → dx ≠ x → sp_Run_init K (.ref x :: ([V.ref g, V.str r.fin, nkV r.told, V.ref q] ++ [])) (upd (upd H dx (.own x)) x (.ins (He.ga K "Run") dx [])) (fun v H2 => v = .non ∧ Q (.ref x) H2) E0 := by
  intro x dx hx hdx hne
  have e3 : Ext H (upd (upd H dx (.own x)) x (.ins (He.ga K "Run") dx [])) := (Ext.new hdx).tr (Ext.new (by rw [upd_ne hne.symm]; exact hx))
  refine ⟨x, dx, _, _, _, _, rfl, upd_same, fun H4 e4 h4 => ⟨rfl, ?_⟩⟩
  have e5 : Ext H H4 := fun b ob q => e4 _ _ (ne_of_none q hx) (e3 _ _ q)
  exact k x H4 hx e5 ⟨dx, g, q, h4, e5 _ _ hg, e5 _ _ hq⟩
theorem _root_.FW.IsDN.ext {H H' : Hp} {a : Addr} {kvs : List KvN} (e : Ext H H') (h : IsDN H a kvs) : IsDN H' a kvs := ⟨e _ _ h.at', fun x hx => e _ _ (h.keys x hx), h.size⟩
theorem at_new {H H' : Hp} {g : Addr} {o : HO} (e : Ext H H') (hg : H g = none) : Ext H (upd H' g o) := fun b ob q => by
  rw [upd_ne (ne_of_none q hg)]
  exact e _ _ q
theorem cut_from (xs : List V) (j : Nat) (h : j ≤ xs.length) : cutV xs (some (j : Int)) none = xs.drop j := by
  unfold cutV
  rw [HT.sIx_nat, HT.sIx_none, Nat.min_eq_left h, List.take_of_length_le (by rw [List.length_drop]; omega)]
theorem _root_.FW.IsDN.put {H : Hp} {a b : Addr} {kvs : List KvN} {k : List NK} {v : V} (h : IsDN H a kvs) (hb : H b = some (.tup (k.map nkV))) (hl : kvs.length < sizeLine) : IsDN (upd H a (dN a (kvs ++ [(k, b, v)]))) a (kvs ++ [(k, b, v)]) := by
  have ne : ∀ c ys, H c = some (.tup ys) → c ≠ a := fun c ys hc => ne_of hc h.at' (fun z => nomatch z)
  refine ⟨upd_same, fun x hx => ?_, by rw [List.length_append, List.length_singleton]; omega⟩
  rcases List.mem_append.mp hx with hx | hx
  · rw [upd_ne (ne _ _ (h.keys x hx))]; exact h.keys x hx
  · rw [List.mem_singleton.mp hx]
    show (upd H a _) b = _
    rw [upd_ne (ne _ _ hb)]; exact hb
theorem _root_.FW.IsDN.upd {H : Hp} {a g : Addr} {kvs : List KvN} {xs : List V} {o : HO} (h : IsDN H a kvs) (hg : H g = some (.lst xs)) : IsDN (upd H g o) a kvs :=
  ⟨by rw [upd_ne (ne_of h.at' hg (fun z => nomatch z))]; exact h.at', fun x hx => by rw [upd_ne (ne_of (h.keys x hx) hg (fun z => nomatch z))]; exact h.keys x hx, h.size⟩
theorem n_big {n : Int} (n0 : 0 ≤ n) (hn : n < 2 ^ 1000) : n.natAbs < 2 ^ 2000 := by
  have h : n.natAbs < 2 ^ 1000 := by omega
  exact Nat.lt_of_lt_of_le h (Nat.pow_le_pow_right (by decide) (by decide))
theorem chosen_or (l : Lp) (x y : Int) : l.chosen x y = x ∨ l.chosen x y = y := by
  unfold Lp.chosen
  split
  · exact .inl rfl
  · split
    · exact .inr rfl
    · split
      · omega
      · omega
theorem place_p {K : PySem.W.Frag} (A : AvK K) {σ : L2.St} {H : Hp} {Q : VK} {p dx : Addr} {l : Lp} {n x : Int} {i : Nat} (h0 : σ[0]? = some (some (.ref p))) (h5 : σ[5]? = some (some (nkV (prv l n x i)))) (h6 : σ[6]? = some (some (.int (itr l n x i))))
    (hp : H p = some (.ins (He.ga K "Average") dx l.F)) (k : ∀ t, H t = none → Q (.ref t) (upd H t (.tup ((keyA l n x i).map nkV)))) : (tTup (tCons (tIf (tTest (tOp rEq (tFld K (tVar 0) "stop") (tC (.str "back")))) (tVar 5) (tC .non)) (tCons (tVar 6) (tNil)))) σ H Q := by
  refine e_tup (e_cons (e_ifx (e_test (e_op (e_fldk (e_var ⟨p, _, dx, _, _, rfl, hp, A.cls, A.n_stop, rfl, ?_⟩ h0))))))
  refine e_c (e_eq ?_ rfl)
  rw [decS]
  refine e_bl ?_
  refine e_ite (fun h => ?_) (fun h => ?_)
  · refine e_var (e_cons (e_var (e_nil ⟨by show 2 ≤ sizeLine; decide, ?_⟩) h6)) h5
    have e : (keyA l n x i).map nkV = [nkV (prv l n x i), .int (itr l n x i)] := by unfold keyA; rw [if_pos h]; rfl
    rw [← e]
    exact k
  · refine e_c (e_cons (e_var (e_nil ⟨by show 2 ≤ sizeLine; decide, ?_⟩) h6))
    have e : (keyA l n x i).map nkV = [.non, .int (itr l n x i)] := by unfold keyA; rw [if_neg h]; rfl
    rw [← e]
    exact k
theorem gsA_succ (l : Lp) (n x : Int) (i : Nat) : gsA l n x (i + 1) = gsA l n x i ++ [itr l n x i] := by
  unfold gsA; rw [List.range_succ, List.map_append]; rfl
theorem gsA_len (l : Lp) (n x : Int) (i : Nat) : (gsA l n x i).length = i := by unfold gsA; rw [List.length_map, List.length_range]
def sp_course_of (K : PySem.W.Frag) : Sp := fun vs H Q _ => ∃ (p : Addr) (l : Lp) (n x r : Int), vs = [.ref p, .int n, .int x] ∧ IsLp K H p l ∧ l.Ok ∧ RootOf l.k n r ∧ 0 ≤ x ∧ n < 2 ^ 1000 ∧ x < 2 ^ 1000 ∧ ∀ res y H', Crs l n x res → H y = none → Ext H H' → IsRn K H' y res → Q (.ref y) H'
def rd_course_of_L1 (K : PySem.W.Frag) : TS := tSeq (tAsg (tTup (tCons (tIf (tTest (tOp rEq (tFld K (tVar 0) "stop") (tC (.str "back")))) (tVar 5) (tC .non)) (tCons (tVar 6) (tNil)))) (gName 7)) (tSeq (tIfS (tB (FW.tNIn (tVar 7) (tVar 4))) (tRet (tMake (He.ga K "Run") (sp_Run_init K) [] E0 (tCons (tCB (FW.rTupS K) (tCons (tVar 3) (tNil))) (tCons (tC (.str "swings")) (tCons (tC .non) (tCons (tCB (FW.rTupS K) (tCons (tSl (rSlL K) (tVar 3) (tPart (FW.tNGet (tVar 4) (tVar 7))) (tNoPart)) (tNil))) (tNil))))))) (tNext)) (tSeq (FW.sNPut (tVar 4) (tVar 7) (tCB (Evl.rLenS K) (tCons (tVar 3) (tNil)))) (tSeq (tDrop (tBM K "list" rAppend (tVar 3) (tCons (tVar 6) (tNil)))) (tSeq (tIfS (tB (tMeth (He.ga K "Average") "looks" (sp_Average_looks K) [] E0 (tVar 0) (tCons (tVar 1) (tCons (tVar 6) (tNil))))) (tRet (tMake (He.ga K "Run") (sp_Run_init K) [] E0 (tCons (tCB (FW.rTupS K) (tCons (tVar 3) (tNil))) (tCons (tC (.str "told")) (tCons (tMeth (He.ga K "Average") "mended" (sp_Average_mended K) [] E0 (tVar 0) (tCons (tVar 1) (tCons (tVar 6) (tNil)))) (tCons (tTup (tNil)) (tNil))))))) (tNext)) (tSeq (tIfS (tTest (tOp rEq (tVar 6) (tC (.int 0)))) (tRet (tMake (He.ga K "Run") (sp_Run_init K) [] E0 (tCons (tCB (FW.rTupS K) (tCons (tVar 3) (tNil))) (tCons (tC (.str "nought")) (tCons (tC .non) (tCons (tTup (tNil)) (tNil))))))) (tNext)) (tSeq (tAsg (tMeth (He.ga K "Average") "led" (sp_Average_led K) [] E0 (tVar 0) (tCons (tVar 1) (tCons (tVar 6) (tNil)))) (gName 8)) (tSeq (tIfS (tB (tMeth (He.ga K "Average") "ends" (sp_Average_ends K) [] E0 (tVar 0) (tCons (tVar 6) (tCons (tVar 8) (tCons (tVar 5) (tNil)))))) (tRet (tMake (He.ga K "Run") (sp_Run_init K) [] E0 (tCons (tCB (FW.rTupS K) (tCons (tVar 3) (tNil))) (tCons (tC (.str "told")) (tCons (tMeth (He.ga K "Average") "mended" (sp_Average_mended K) [] E0 (tVar 0) (tCons (tVar 1) (tCons (tMeth (He.ga K "Average") "chosen" (sp_Average_chosen K) [] E0 (tVar 0) (tCons (tVar 6) (tCons (tVar 8) (tNil)))) (tNil)))) (tCons (tTup (tNil)) (tNil))))))) (tNext)) (tPar 5 6 (tCons (tVar 6) (tCons (tVar 8) (tNil)))))))))))
def rd_course_of (K : PySem.W.Frag) : TS := tSeq (tPar 3 4 (tCons (tLst (tNil)) (tCons (FW.tNNew) (tNil)))) (tSeq (tPar 5 6 (tCons (tC .non) (tCons (tVar 2) (tNil)))) (tWhile (tB (tC (.bl true))) (rd_course_of_L1 K)))
/-- the dict of places behind i rounds -/
def Plc (l : Lp) (n x : Int) (i : Nat) (kvs : List KvN) : Prop := kvs.map (fun e => (e.1, e.2.2)) = (List.range i).map (fun j => (keyA l n x j, V.int (j : Int)))
theorem Plc.val {l : Lp} {n x : Int} {i : Nat} {kvs : List KvN} (h : Plc l n x i kvs) : valN kvs (keyA l n x i) = (seenA l n x i).map fun (j : Nat) => V.int (j : Int) := valN_range _ _ i kvs h
theorem Plc.len {l : Lp} {n x : Int} {i : Nat} {kvs : List KvN} (h : Plc l n x i kvs) : kvs.length = i := by
  have := congrArg List.length h
  rw [List.length_map, List.length_map, List.length_range] at this
  exact this
theorem Plc.snoc {l : Lp} {n x : Int} {i : Nat} {kvs : List KvN} {t : Addr} (h : Plc l n x i kvs) : Plc l n x (i + 1) (kvs ++ [(keyA l n x i, t, .int (i : Int))]) := by
  unfold Plc at *
  rw [List.range_succ, List.map_append, List.map_append, h]
  rfl
theorem course_L1 {K : PySem.W.Frag} (A : AvK K) {H H' : Hp} {D : Ends} {p g d : Addr} {l : Lp} {n x r : Int} {i : Nat} {kvs : List KvN} {v7 v8 : Option V} (hL : IsLp K H p l) (o : l.Ok) (R : RootOf l.k n r) (x0 : 0 ≤ x) (hn : n < 2 ^ 1000) (hx : x < 2 ^ 1000)
    (hgo : ∀ j, j < i → crs l n x j = none) (hg0 : H g = none) (hd0 : H d = none) (e : Ext H H') (hg : H' g = some (.lst ((gsA l n x i).map V.int))) (hd : IsDN H' d kvs) (hpl : Plc l n x i kvs)
    (q : ∀ res y H2, crs l n x i = some res → H y = none → Ext H H2 → IsRn K H2 y res → D.rt (.ref y) H2)
    (k : ∀ H2 kvs' w7 w8, crs l n x i = none → Ext H H2 → H2 g = some (.lst ((gsA l n x (i + 1)).map V.int)) → IsDN H2 d kvs' → Plc l n x (i + 1) kvs' → D.nx [some (.ref p), some (.int n), some (.int x), some (.ref g), some (.ref d), some (nkV (prv l n x (i + 1))), some (.int (itr l n x (i + 1))), w7, w8] H2) :
    rd_course_of_L1 K D [some (.ref p), some (.int n), some (.int x), some (.ref g), some (.ref d), some (nkV (prv l n x i)), some (.int (itr l n x i)), v7, v8] H' := by
  obtain ⟨dx, hp⟩ := id hL
  have hi := crs_bound o R x0 hn hx hgo
  obtain ⟨y0, ys⟩ := itr_size o R x0 hn hx fun j hj => (crs_none (hgo j hj)).2.2.1
  unfold rd_course_of_L1
  with_reducible refine s_seq ?_
  with_reducible refine s_asg ?_
  refine place_p A rfl rfl rfl (e _ _ hp) fun t ht => ?_
  have e1 : Ext H' (upd H' t (.tup ((keyA l n x i).map nkV))) := Ext.new ht
  have h1t : (upd H' t (.tup ((keyA l n x i).map nkV))) t = some (.tup ((keyA l n x i).map nkV)) := upd_same
  generalize upd H' t (.tup ((keyA l n x i).map nkV)) = H1 at *
  have eH1 : Ext H H1 := e.tr e1
  have hg1 := e1 _ _ hg
  have hd1 := hd.ext e1
  walk_at "rd"
  unfold tNIn
  walk_at "rd"
  refine ⟨d, t, kvs, keyA l n x i, rfl, rfl, hd1, h1t, ?_⟩
  rw [hpl.val]
  walk_at "rd"
  cases hs : seenA l n x i with
  | some j =>
    obtain ⟨hji, _⟩ := seen_some hs
    have hres : crs l n x i = some ⟨gsA l n x i, "swings", none, (gsA l n x i).drop j⟩ := by unfold crs; rw [hs]
    show if true = true then _ else _
    walk_at "rd"
    refine e_tupL (fun t1 ht1 => ?_) (SqL.of hg1)
    have e2 : Ext H1 (upd H1 t1 (.tup ((gsA l n x i).map V.int))) := Ext.new ht1
    have h2t : (upd H1 t1 (.tup ((gsA l n x i).map V.int))) t1 = some (.tup ((gsA l n x i).map V.int)) := upd_same
    generalize upd H1 t1 (.tup ((gsA l n x i).map V.int)) = H2 at *
    walk_at "rd"
    refine e_sl ?_
    walk_at "rd"
    refine e_part ?_
    unfold tNGet
    walk_at "rd"
    refine ⟨d, t, kvs, keyA l n x i, .int (j : Int), rfl, rfl, hd1.ext e2, e2 _ _ h1t, by rw [hpl.val, hs]; rfl, ?_⟩
    refine e_part' (e_noP (e_slL (fun t2 ht2 => ?_) (SqL.of (e2 _ _ hg1))))
    rw [cut_from _ _ (by rw [List.length_map, gsA_len]; omega), ← List.map_drop]
    have e3 : Ext H2 (upd H2 t2 (.lst (((gsA l n x i).drop j).map V.int))) := Ext.new ht2
    have h3t : (upd H2 t2 (.lst (((gsA l n x i).drop j).map V.int))) t2 = some (.lst (((gsA l n x i).drop j).map V.int)) := upd_same
    generalize upd H2 t2 (.lst (((gsA l n x i).drop j).map V.int)) = H3 at *
    walk_at "rd"
    refine e_tupL (fun t3 ht3 => ?_) (SqL.of h3t)
    have e4 : Ext H3 (upd H3 t3 (.tup (((gsA l n x i).drop j).map V.int))) := Ext.new ht3
    have h4t : (upd H3 t3 (.tup (((gsA l n x i).drop j).map V.int))) t3 = some (.tup (((gsA l n x i).drop j).map V.int)) := upd_same
    generalize upd H3 t3 (.tup (((gsA l n x i).drop j).map V.int)) = H4 at *
    walk_at "rd"
    have e14 := e2.tr (e3.tr e4)
    exact make_rn (r := ⟨gsA l n x i, "swings", none, (gsA l n x i).drop j⟩) (e4 _ _ (e3 _ _ h2t)) h4t fun y H5 hy e5 hr => q _ y H5 hres ((eH1.tr e14).non hy) ((eH1.tr e14).tr e5) hr
  | none =>
    show if false = true then _ else _
    walk_at "rd"
    unfold sNPut
    walk_at "rd"
    refine e_len ?_ (.inl (SqL.of hg1))
    walk_at "rd"
    rw [List.length_map, gsA_len]
    refine ⟨d, t, kvs, keyA l n x i, rfl, rfl, hd1, h1t, by rw [hpl.val, hs]; rfl, by rw [hpl.len]; show i < 2 ^ 24; omega, ?_⟩
    have hdg : g ≠ d := ne_of hg1 hd1.at' (fun z => nomatch z)
    have eH2 : Ext H (upd H1 d (dN d (kvs ++ [(keyA l n x i, t, .int (i : Int))]))) := at_new eH1 hd0
    have hd2 : IsDN (upd H1 d (dN d (kvs ++ [(keyA l n x i, t, .int (i : Int))]))) d (kvs ++ [(keyA l n x i, t, .int (i : Int))]) := hd1.put h1t (by rw [hpl.len]; show i < 2 ^ 24; omega)
    have hg2 : (upd H1 d (dN d (kvs ++ [(keyA l n x i, t, .int (i : Int))]))) g = some (.lst ((gsA l n x i).map V.int)) := by rw [upd_ne hdg]; exact hg1
    generalize upd H1 d (dN d (kvs ++ [(keyA l n x i, t, .int (i : Int))])) = H2 at *
    walk_at "rd"
    refine ⟨.inl ⟨rfl, _, SqL.of hg2⟩, ?_⟩
    walk_at "rd"
    refine ⟨g, _, _, rfl, rfl, hg2, by rw [List.length_map, gsA_len]; show i < 2 ^ 24; omega, ?_⟩
    have eg : (gsA l n x i).map V.int ++ [V.int (itr l n x i)] = (gsA l n x (i + 1)).map V.int := by rw [gsA_succ, List.map_append]; rfl
    rw [eg]
    have eH3 : Ext H (upd H2 g (.lst ((gsA l n x (i + 1)).map V.int))) := at_new eH2 hg0
    have hd3 : IsDN (upd H2 g (.lst ((gsA l n x (i + 1)).map V.int))) d (kvs ++ [(keyA l n x i, t, .int (i : Int))]) := hd2.upd hg2
    have hg3 : (upd H2 g (.lst ((gsA l n x (i + 1)).map V.int))) g = some (.lst ((gsA l n x (i + 1)).map V.int)) := upd_same
    generalize upd H2 g (.lst ((gsA l n x (i + 1)).map V.int)) = H3 at *
    have hp3 := eH3 _ _ hp
    clear hg1 hd1 h1t e1 eH1 hg2 hd2 eH2 ht
    walk_at "rd"
    refine ⟨p, dx, _, rfl, hp3, rfl, ?_⟩
    walk_at "rd"
    refine ⟨p, l, n, itr l n x i, rfl, ⟨dx, hp3⟩, o, y0, ys.mono (by decide), ?_⟩
    walk_at "rd"
    cases hlk : l.looks n (itr l n x i) with
    | true =>
      have hres : crs l n x i = some ⟨gsA l n x (i + 1), "told", some (l.mended n (itr l n x i)), []⟩ := by unfold crs; rw [hs]; dsimp only; rw [hlk, if_pos rfl]
      walk_at "rd"
      refine e_tupL (fun t1 ht1 => ?_) (SqL.of hg3)
      have e2 : Ext H3 (upd H3 t1 (.tup ((gsA l n x (i + 1)).map V.int))) := Ext.new ht1
      have h2t : (upd H3 t1 (.tup ((gsA l n x (i + 1)).map V.int))) t1 = some (.tup ((gsA l n x (i + 1)).map V.int)) := upd_same
      generalize upd H3 t1 (.tup ((gsA l n x (i + 1)).map V.int)) = H4 at *
      walk_at "rd"
      refine ⟨p, dx, _, rfl, e2 _ _ hp3, rfl, ?_⟩
      walk_at "rd"
      refine ⟨p, l, n, itr l n x i, rfl, ⟨dx, e2 _ _ hp3⟩, o, y0, ys.mono (by decide), fun H5 e5 => ?_⟩
      walk_at "rd"
      refine ⟨by show 0 ≤ sizeLine; decide, fun t2 ht2 => ?_⟩
      have e6 : Ext H5 (upd H5 t2 (.tup [])) := Ext.new ht2
      have h6t : (upd H5 t2 (.tup [])) t2 = some (.tup []) := upd_same
      generalize upd H5 t2 (.tup []) = H6 at *
      walk_at "rd"
      have e36 := e2.tr (e5.tr e6)
      exact make_rn (r := ⟨gsA l n x (i + 1), "told", some (l.mended n (itr l n x i)), []⟩) (e6 _ _ (e5 _ _ h2t)) h6t fun y H7 hy e7 hr => q _ y H7 hres ((eH3.tr e36).non hy) ((eH3.tr e36).tr e7) hr
    | false =>
      walk_at "rd"
      rw [decI]
      refine e_ite (fun hz => ?_) (fun hz => ?_)
      · have hres : crs l n x i = some ⟨gsA l n x (i + 1), "nought", none, []⟩ := by unfold crs; rw [hs]; dsimp only; rw [hlk, if_neg (by decide), if_pos hz]
        walk_at "rd"
        refine e_tupL (fun t1 ht1 => ?_) (SqL.of hg3)
        have e2 : Ext H3 (upd H3 t1 (.tup ((gsA l n x (i + 1)).map V.int))) := Ext.new ht1
        have h2t : (upd H3 t1 (.tup ((gsA l n x (i + 1)).map V.int))) t1 = some (.tup ((gsA l n x (i + 1)).map V.int)) := upd_same
        generalize upd H3 t1 (.tup ((gsA l n x (i + 1)).map V.int)) = H4 at *
        walk_at "rd"
        refine ⟨by show 0 ≤ sizeLine; decide, fun t2 ht2 => ?_⟩
        have e6 : Ext H4 (upd H4 t2 (.tup [])) := Ext.new ht2
        have h6t : (upd H4 t2 (.tup [])) t2 = some (.tup []) := upd_same
        generalize upd H4 t2 (.tup []) = H6 at *
        walk_at "rd"
        have e36 := e2.tr e6
        exact make_rn (r := ⟨gsA l n x (i + 1), "nought", none, []⟩) (e6 _ _ h2t) h6t fun y H7 hy e7 hr => q _ y H7 hres ((eH3.tr e36).non hy) ((eH3.tr e36).tr e7) hr
      · have n0 : 0 ≤ n := Int.le_trans (Int.pow_nonneg R.r0) R.lo
        obtain ⟨z0, zs⟩ := itr_size (i := i + 1) o R x0 hn hx fun j hj => by
          rcases Nat.lt_or_ge j i with z | z
          · exact (crs_none (hgo j z)).2.2.1
          · have : j = i := by omega
            subst this; exact hz
        walk_at "rd"
        refine ⟨p, dx, _, rfl, hp3, rfl, ?_⟩
        walk_at "rd"
        refine ⟨p, l, n, itr l n x i, rfl, ⟨dx, hp3⟩, o, by omega, n0, n_big n0 hn, Sz.mono ys (by decide), ?_⟩
        walk_at "rd"
        refine ⟨p, dx, _, rfl, hp3, rfl, ?_⟩
        walk_at "rd"
        refine ⟨p, l, itr l n x i, l.led n (itr l n x i), prv l n x i, rfl, ⟨dx, hp3⟩, o, fun H4 e4 => ?_⟩
        walk_at "rd"
        have hg4 := e4 _ _ hg3
        have hp4 := e4 _ _ hp3
        cases hen : l.ends (itr l n x i) (l.led n (itr l n x i)) (prv l n x i) with
        | true =>
          have hres : crs l n x i = some ⟨gsA l n x (i + 1), "told", some (l.mended n (l.chosen (itr l n x i) (itr l n x (i + 1)))), []⟩ := by
            unfold crs; rw [hs]; dsimp only; rw [hlk, if_neg (by decide), if_neg hz, if_pos]
            exact hen
          walk_at "rd"
          refine e_tupL (fun t1 ht1 => ?_) (SqL.of hg4)
          have e2 : Ext H4 (upd H4 t1 (.tup ((gsA l n x (i + 1)).map V.int))) := Ext.new ht1
          have h2t : (upd H4 t1 (.tup ((gsA l n x (i + 1)).map V.int))) t1 = some (.tup ((gsA l n x (i + 1)).map V.int)) := upd_same
          generalize upd H4 t1 (.tup ((gsA l n x (i + 1)).map V.int)) = H5 at *
          walk_at "rd"
          refine ⟨p, dx, _, rfl, e2 _ _ hp4, rfl, ?_⟩
          walk_at "rd"
          refine ⟨p, dx, _, rfl, e2 _ _ hp4, rfl, ?_⟩
          walk_at "rd"
          refine ⟨p, l, itr l n x i, l.led n (itr l n x i), rfl, ⟨dx, e2 _ _ hp4⟩, o, fun H6 e6 => ?_⟩
          walk_at "rd"
          have hch : 0 ≤ l.chosen (itr l n x i) (itr l n x (i + 1)) ∧ Sz 2000 (l.chosen (itr l n x i) (itr l n x (i + 1))) := by
            rcases chosen_or l (itr l n x i) (itr l n x (i + 1)) with z | z <;> rw [z]
            · exact ⟨y0, ys.mono (by decide)⟩
            · exact ⟨z0, zs.mono (by decide)⟩
          refine ⟨p, l, n, l.chosen (itr l n x i) (itr l n x (i + 1)), rfl, ⟨dx, e6 _ _ (e2 _ _ hp4)⟩, o, hch.1, hch.2, fun H7 e7 => ?_⟩
          walk_at "rd"
          refine ⟨by show 0 ≤ sizeLine; decide, fun t2 ht2 => ?_⟩
          have e8 : Ext H7 (upd H7 t2 (.tup [])) := Ext.new ht2
          have h8t : (upd H7 t2 (.tup [])) t2 = some (.tup []) := upd_same
          generalize upd H7 t2 (.tup []) = H8 at *
          walk_at "rd"
          have e38 := e4.tr (e2.tr (e6.tr (e7.tr e8)))
          exact make_rn (r := ⟨gsA l n x (i + 1), "told", some (l.mended n (l.chosen (itr l n x i) (itr l n x (i + 1)))), []⟩) (e8 _ _ (e7 _ _ (e6 _ _ h2t))) h8t fun y H9 hy e9 hr => q _ y H9 hres ((eH3.tr e38).non hy) ((eH3.tr e38).tr e9) hr
        | false =>
          have hres : crs l n x i = none := by
            unfold crs; rw [hs]; dsimp only; rw [hlk, if_neg (by decide), if_neg hz, if_neg]
            show ¬ l.ends (itr l n x i) (l.led n (itr l n x i)) (prv l n x i) = true
            rw [hen]; decide
          walk_at "rd"
          exact k H4 _ _ _ hres (eH3.tr e4) hg4 (hd3.ext e4) hpl.snoc
theorem pure_course_of (K : PySem.W.Frag) (A : AvK K) (B : RnK K) (vs : List V) (H : Hp) (Q : VK) (E : XK) (h : sp_course_of K vs H Q E) : rd_course_of K { nx := fun _ H' => Q .non H', rt := Q } (start ["loop", "n", "start", "guesses", "places", "before", "x", "place", "y"] vs) H := by
  obtain ⟨p, l, n, x, r, rfl, hL, o, R, x0, hn, hx, q⟩ := h
  unfold rd_course_of
  walk_at "rd"
  refine ⟨by show 0 ≤ sizeLine; decide, fun g hg => ?_⟩
  have e1 : Ext H (upd H g (.lst [])) := Ext.new hg
  have h1 : (upd H g (.lst [])) g = some (.lst []) := upd_same
  generalize upd H g (.lst []) = H1 at *
  walk_at "rd"
  intro d hd
  have e2 : Ext H1 (upd H1 d (dN d [])) := Ext.new hd
  have h2 : (upd H1 d (dN d [])) d = some (dN d []) := upd_same
  generalize upd H1 d (dN d []) = H2 at *
  walk_at "rd"
  refine s_while (fun m σ H' => ∃ i kvs w7 w8, m = 40000 - i ∧ (∀ j, j < i → crs l n x j = none) ∧ Ext H H' ∧ H' g = some (.lst ((gsA l n x i).map V.int)) ∧ IsDN H' d kvs ∧ Plc l n x i kvs ∧ σ = [some (.ref p), some (.int n), some (.int x), some (.ref g), some (.ref d), some (nkV (prv l n x i)), some (.int (itr l n x i)), w7, w8]) _
    ⟨0, [], _, _, rfl, fun j hj => absurd hj (by omega), e1.tr e2, e2 _ _ h1, ⟨h2, (fun _ hx => nomatch hx), by show 0 ≤ sizeLine; decide⟩, rfl, rfl⟩ ?_
  rintro m σ H' ⟨i, kvs, w7, w8, rfl, hgo, e, hg', hd', hpl, rfl⟩
  have hi := crs_bound o R x0 hn hx hgo
  walk_at "rd"
  refine ⟨fun σ' H'' => ∃ kvs w7 w8, crs l n x i = none ∧ Ext H H'' ∧ H'' g = some (.lst ((gsA l n x (i + 1)).map V.int)) ∧ IsDN H'' d kvs ∧ Plc l n x (i + 1) kvs ∧ σ' = [some (.ref p), some (.int n), some (.int x), some (.ref g), some (.ref d), some (nkV (prv l n x (i + 1))), some (.int (itr l n x (i + 1))), w7, w8], fun σ' H'' h => ?_, ?_⟩
  · obtain ⟨kvs', u7, u8, a1, a2, a3, a4, a5, a6⟩ := h
    refine ⟨40000 - (i + 1), by omega, i + 1, kvs', u7, u8, rfl, fun j hj => ?_, a2, a3, a4, a5, a6⟩
    rcases Nat.lt_or_ge j i with z | z
    · exact hgo j z
    · have : j = i := by omega
      subst this; exact a1
  · refine course_L1 A hL o R x0 hn hx hgo hg (e1.non hd) e hg' hd' hpl (fun res y H2 a1 a2 a3 a4 => ?_) (fun H2 kvs' u7 u8 a1 a2 a3 a4 a5 => ⟨kvs', u7, u8, a1, a2, a3, a4, a5, rfl⟩)
    exact q res y H2 ⟨i, hgo, a1⟩ a2 a3 a4
end FWL
namespace FWL
open PySem PySem.Spec PyProof.Rows L2 FW
/-! ### _law_class and _law_refused -/
def clsNames : List Str := ["BadNumber", "BadPower", "BadLoop", "BadStart", "BadGuesses", "BadBeginning", "BadSought", "BadBracket", "BadKind", "BadText", "NoGuess"]
def clsWords : List Str := ["number", "power", "loop", "start", "guesses", "beginning", "sought", "bracket", "kind", "text", "nought"]
structure HotK (K : PySem.W.Frag) (x : Str) : Prop where
  xc : ExcC K (He.ga K x)
  fl : PySem.W.exmOne K (.ref (He.ga K x)) (.ref (He.ga K "FloorError")) = some true
  kit : ∀ y ∈ clsNames, PySem.W.kitOne K (.ref (He.ga K x)) (.ref (He.ga K y)) = some (decide (x = y))
def picked : List Str → List Bool → List Str
  | w :: ws, b :: bs => if b then w :: picked ws bs else picked ws bs
  | _, _ => []
def errWord (x : Str) : Str := Txt.join " " (picked clsWords (clsNames.map fun y => decide (x = y)))
theorem picked_snoc : ∀ (ws : List Str) (bs : List Bool) (w : Str) (b : Bool), ws.length = bs.length → picked (ws ++ [w]) (bs ++ [b]) = picked ws bs ++ (if b then [w] else [])
  | [], [], w, b, _ => by cases b <;> rfl
  | v :: ws, c :: bs, w, b, h => by
    have ih := picked_snoc ws bs w b (by simpa using h)
    rw [List.cons_append, List.cons_append, picked, picked, ih]
    cases c <;> simp
theorem picked_len : ∀ (ws : List Str) (bs : List Bool), (picked ws bs).length ≤ ws.length
  | [], bs => by cases bs <;> simp [picked]
  | w :: ws, [] => by simp [picked]
  | w :: ws, b :: bs => by
    have ih := picked_len ws bs
    cases b
    · simp [picked]; omega
    · simp [picked]; omega
theorem picked_sum : ∀ (ws : List Str) (bs : List Bool), ((picked ws bs).map (·.length)).sum ≤ (ws.map (·.length)).sum
  | [], bs => by cases bs <;> simp [picked]
  | w :: ws, [] => by simp [picked]
  | w :: ws, b :: bs => by
    have ih := picked_sum ws bs
    cases b
    · simp [picked]; omega
    · simp [picked]; omega
section
variable {K : PySem.W.Frag} {H : Hp} {Q : VK} {x : Str} {a : Addr} {d : Option Addr}
theorem e_m1 {r : V → List V → Hp → VK → Prop} {to te : TE} {σ : L2.St} (k : to σ H fun x H1 => (∃ a, x = .str a) ∧ te σ H1 fun y H2 => r x [y] H2 Q) : tM1 r to te σ H Q := k
theorem e_isX {y : Str} (hk : HotK K x) (hd : DX d H) (hy : y ∈ clsNames) (q : Q (.bl (decide (x = y))) H) : FW.rIsX K a (.ref (He.ga K x)) d [.ref a, .ref (He.ga K y)] H Q :=
  ⟨_, _, _, _, rfl, hk.xc, hd, rfl, .own _, hk.kit y hy, q⟩
theorem lc_zipW {b : Addr} {ws : List Str} {bs : List Bool} {v0 v1 v2 v3 v4 : Option V} (ha : H a = some (.lst (ws.map V.str))) (hb : H b = some (.lst (bs.map V.bl))) (hl : ws.length = bs.length) (hz : ws.length ≤ 1000)
    (q : ∀ D H', Ext H H' → H' D = some (.lst ((picked ws bs).map V.str)) → Q (.ref D) H') : LcK (gTup K 2 (gCons (gName 3) (gCons (gName 4) gNil))) (L2.tB (tVar 4)) (tVar 3) [3, 4] [v0, v1, v2, v3, v4] Q (Itz K a b) H := by
  intro D hD
  refine ⟨fun i m H' => m = ws.length - i ∧ i ≤ ws.length ∧ Ext H H' ∧ H' D = some (.lst ((picked (ws.take i) (bs.take i)).map V.str)), ⟨_, rfl, Nat.zero_le _, Ext.new hD, upd_same⟩, ?_⟩
  rintro i m H' ⟨rfl, hi, ex, eD⟩
  have sx : SqL K H' a (ws.map V.str) := .inl (.inl (ex _ _ ha))
  have sy : SqL K H' b (bs.map V.bl) := .inl (.inl (ex _ _ hb))
  by_cases lt : i < ws.length
  · have lt2 : i < bs.length := by omega
    refine .inr ⟨⟨_, _, .str ws[i], .bl bs[i], sx, sy, by simp [lt], by simp [lt2]⟩, fun H2 => Ext H H2 ∧ H2 D = some (.lst ((picked (ws.take (i + 1)) (bs.take (i + 1))).map V.str)), fun H2 h2 => ⟨ws.length - (i + 1), by omega, rfl, lt, h2.1, h2.2⟩, ?_⟩
    rintro v H2 ⟨T, y, z, rfl, hT, rfl, f1, f2⟩
    have e1 := f1 _ sx
    have e2 := f2 _ sy
    rw [List.getElem?_map, List.getElem?_eq_getElem lt] at e1
    rw [List.getElem?_map, List.getElem?_eq_getElem lt2] at e2
    cases e1
    cases e2
    have nD : D ≠ T := fun z => by rw [z, hT] at eD; cases eD
    have ex2 : Ext H (upd H' T (.tup [.str ws[i], .bl bs[i]])) := ex.tr (Ext.new hT)
    have eT : ws.take (i + 1) = ws.take i ++ [ws[i]] := by rw [List.take_add_one, List.getElem?_eq_getElem lt]; rfl
    have eB : bs.take (i + 1) = bs.take i ++ [bs[i]] := by rw [List.take_add_one, List.getElem?_eq_getElem lt2]; rfl
    have eP := picked_snoc (ws.take i) (bs.take i) ws[i] bs[i] (by rw [List.length_take, List.length_take]; omega)
    have pl := picked_len (ws.take i) (bs.take i)
    rw [List.length_take] at pl
    refine ⟨T, _, rfl, .inl (.inl upd_same), rfl, ?_⟩
    walk_at "rd"
    refine ⟨rfl, ?_⟩
    walk_at "rd"
    cases hbi : bs[i] with
    | true =>
      refine e_T ?_
      walk_at "rd"
      rw [hbi] at ex2
      refine ⟨_, by rw [upd_ne nD]; exact eD, ?_, Ext.upds ex2 hD, ?_⟩
      · rw [List.length_map]
        show _ < 2 ^ 24
        omega
      · rw [upd_same, eT, eB, eP, hbi, if_pos rfl, List.map_append]; rfl
    | false =>
      refine e_F ?_
      refine ⟨by rw [hbi] at ex2; exact ex2, ?_⟩
      rw [upd_ne nD, eT, eB, eP, hbi, if_neg (by decide), List.append_nil]
      exact eD
  · have ei : i = ws.length := by omega
    subst ei
    refine .inl ⟨⟨_, _, sx, sy, .inl (by rw [List.length_map]; exact Nat.le_refl _)⟩, q D H' ex ?_⟩
    rw [List.take_of_length_le (Nat.le_refl _), List.take_of_length_le (by omega)] at eD
    exact eD
end
def rd_l_class (K : PySem.W.Frag) (a : Addr) (cls : Value) (d : Option Addr) : TS := tSeq (tAsg (tLst (tCons (tCB (FW.rIsX K a cls d) (tCons (tVar 0) (tCons (tC (.ref (He.ga K "BadNumber"))) (tNil)))) (tCons (tCB (FW.rIsX K a cls d) (tCons (tVar 0) (tCons (tC (.ref (He.ga K "BadPower"))) (tNil)))) (tCons (tCB (FW.rIsX K a cls d) (tCons (tVar 0) (tCons (tC (.ref (He.ga K "BadLoop"))) (tNil)))) (tNil))))) (gName 1)) (tSeq (tAsg (tOp rCat (tVar 1) (tLst (tCons (tCB (FW.rIsX K a cls d) (tCons (tVar 0) (tCons (tC (.ref (He.ga K "BadStart"))) (tNil)))) (tCons (tCB (FW.rIsX K a cls d) (tCons (tVar 0) (tCons (tC (.ref (He.ga K "BadGuesses"))) (tNil)))) (tCons (tCB (FW.rIsX K a cls d) (tCons (tVar 0) (tCons (tC (.ref (He.ga K "BadBeginning"))) (tNil)))) (tNil)))))) (gName 1)) (tSeq (tAsg (tOp rCat (tVar 1) (tLst (tCons (tCB (FW.rIsX K a cls d) (tCons (tVar 0) (tCons (tC (.ref (He.ga K "BadSought"))) (tNil)))) (tCons (tCB (FW.rIsX K a cls d) (tCons (tVar 0) (tCons (tC (.ref (He.ga K "BadBracket"))) (tNil)))) (tCons (tCB (FW.rIsX K a cls d) (tCons (tVar 0) (tCons (tC (.ref (He.ga K "BadKind"))) (tNil)))) (tNil)))))) (gName 1)) (tSeq (tAsg (tOp rCat (tVar 1) (tLst (tCons (tCB (FW.rIsX K a cls d) (tCons (tVar 0) (tCons (tC (.ref (He.ga K "BadText"))) (tNil)))) (tCons (tCB (FW.rIsX K a cls d) (tCons (tVar 0) (tCons (tC (.ref (He.ga K "NoGuess"))) (tNil)))) (tNil))))) (gName 1)) (tSeq (tAsg (tLst (tCons (tC (.str "number")) (tCons (tC (.str "power")) (tCons (tC (.str "loop")) (tCons (tC (.str "start")) (tCons (tC (.str "guesses")) (tCons (tC (.str "beginning")) (tNil)))))))) (gName 2)) (tSeq (tAsg (tOp rCat (tVar 2) (tLst (tCons (tC (.str "sought")) (tCons (tC (.str "bracket")) (tCons (tC (.str "kind")) (tCons (tC (.str "text")) (tCons (tC (.str "nought")) (tNil)))))))) (gName 2)) (tRet (tM1 (FW.rJoin K) (tC (.str " ")) (tLc (iZip K (tCons (tVar 2) (tCons (tVar 1) (tNil)))) (gTup K 2 (gCons (gName 3) (gCons (gName 4) (gNil)))) (tB (tVar 4)) (tVar 3) [3, 4]))))))))
theorem pure_l_class (K : PySem.W.Frag) (x : Str) (hk : HotK K x) (a : Addr) (d : Option Addr) (H : Hp) (Q : VK) (hd : DX d H) (q : ∀ H', Ext H H' → Q (.str (errWord x)) H') :
    rd_l_class K a (.ref (He.ga K x)) d { nx := fun _ H' => Q .non H', rt := Q } (start ["_law_e", "_law_some", "_law_names", "_law_name", "_law_is_it"] [.ref a]) H := by
  unfold rd_l_class
  walk_at "rd"
  refine e_isX hk hd (by decide) ?_
  walk_at "rd"
  refine e_isX hk hd (by decide) ?_
  walk_at "rd"
  refine e_isX hk hd (by decide) ?_
  walk_at "rd"
  refine ⟨by show 3 ≤ sizeLine; decide, fun p1 h1 => ?_⟩
  walk_at "rd"
  refine e_isX hk (hd.ext (Ext.new h1)) (by decide) ?_
  walk_at "rd"
  refine e_isX hk (hd.ext (Ext.new h1)) (by decide) ?_
  walk_at "rd"
  refine e_isX hk (hd.ext (Ext.new h1)) (by decide) ?_
  walk_at "rd"
  refine ⟨by show 3 ≤ sizeLine; decide, fun p2 h2 => ?_⟩
  refine e_cat (fun p3 h3 => ?_) (by rw [upd_ne (ne_of_none upd_same h2)]; exact upd_same) upd_same (by show 6 ≤ sizeLine; decide)
  walk_at "rd"
  refine e_isX hk (((hd.ext (Ext.new h1)).ext (Ext.new h2)).ext (Ext.new h3)) (by decide) ?_
  walk_at "rd"
  refine e_isX hk (((hd.ext (Ext.new h1)).ext (Ext.new h2)).ext (Ext.new h3)) (by decide) ?_
  walk_at "rd"
  refine e_isX hk (((hd.ext (Ext.new h1)).ext (Ext.new h2)).ext (Ext.new h3)) (by decide) ?_
  walk_at "rd"
  refine ⟨by show 3 ≤ sizeLine; decide, fun p4 h4 => ?_⟩
  refine e_cat (fun p5 h5 => ?_) (by rw [upd_ne (ne_of_none upd_same h4)]; exact upd_same) upd_same (by show 9 ≤ sizeLine; decide)
  walk_at "rd"
  refine e_isX hk (((((hd.ext (Ext.new h1)).ext (Ext.new h2)).ext (Ext.new h3)).ext (Ext.new h4)).ext (Ext.new h5)) (by decide) ?_
  walk_at "rd"
  refine e_isX hk (((((hd.ext (Ext.new h1)).ext (Ext.new h2)).ext (Ext.new h3)).ext (Ext.new h4)).ext (Ext.new h5)) (by decide) ?_
  walk_at "rd"
  refine ⟨by show 2 ≤ sizeLine; decide, fun p6 h6 => ?_⟩
  refine e_cat (fun p7 h7 => ?_) (by rw [upd_ne (ne_of_none upd_same h6)]; exact upd_same) upd_same (by show 11 ≤ sizeLine; decide)
  walk_at "rd"
  refine ⟨by show 6 ≤ sizeLine; decide, fun p8 h8 => ?_⟩
  walk_at "rd"
  refine ⟨by show 5 ≤ sizeLine; decide, fun p9 h9 => ?_⟩
  refine e_cat (fun pA hA => ?_) (by rw [upd_ne (ne_of_none upd_same h9)]; exact upd_same) upd_same (by show 11 ≤ sizeLine; decide)
  walk_at "rd"
  refine e_m1 ?_
  walk_at "rd"
  refine ⟨⟨_, rfl⟩, ?_⟩
  walk_at "rd"
  refine i_zip ?_
  walk_at "rd"
  refine ⟨pA, p7, clsWords.map V.str, (clsNames.map fun y => decide (x = y)).map V.bl, rfl, .inl (.inl upd_same), .inl (.inl ((((Ext.new h8).tr (Ext.new h9)).tr (Ext.new hA)) _ _ upd_same)), ?_⟩
  refine lc_zipW (ws := clsWords) (bs := clsNames.map fun y => decide (x = y)) upd_same ((((Ext.new h8).tr (Ext.new h9)).tr (Ext.new hA)) _ _ upd_same) rfl (by decide) fun D H' ex eD => ?_
  refine ⟨" ", D, _, rfl, rfl, .inl (.inl (.inl eD)), ?_, q H' (((((((((((Ext.new h1).tr (Ext.new h2)).tr (Ext.new h3)).tr (Ext.new h4)).tr (Ext.new h5)).tr (Ext.new h6)).tr (Ext.new h7)).tr (Ext.new h8)).tr (Ext.new h9)).tr (Ext.new hA)).tr ex)⟩
  have b1 := picked_sum clsWords (clsNames.map fun y => decide (x = y))
  have b2 := picked_len clsWords (clsNames.map fun y => decide (x = y))
  have c1 : (clsWords.map (·.length)).sum ≤ 100 := by decide
  have c2 : clsWords.length = 11 := rfl
  have c3 : (" " : Str).length = 1 := rfl
  rw [c3]
  omega
/-! ### _law_refused -/
def valC : List Str := ["BadNumber", "BadPower", "BadStart", "BadKind"]
def wrdC : List Str := ["BadLoop", "BadSought", "BadBeginning"]
def nonC : List Str := ["BadGuesses", "BadBracket", "BadText", "NoGuess"]
theorem dis1 : ∀ x ∈ valC, x ∉ wrdC := by decide
theorem dis2 : ∀ x ∈ nonC, x ∉ wrdC := by decide
theorem dis3 : ∀ x ∈ nonC, x ∉ valC := by decide
/-- what is wished of an error that comes to _law_refused -/
def RefX (K : PySem.W.Frag) (Q : VK) (cls : Value) (d : Option Addr) (H : Hp) : Prop := ∃ x : Str, cls = .ref (He.ga K x) ∧ HotK K x ∧
  ((x ∈ valC ∧ ∃ (dd : Addr) (v : V), ErrG K (He.ga K x) "value" ∧ d = some dd ∧ H dd = some (.xd [("value", v)]) ∧ ∀ t H', Ext H H' → H' t = some (.tup [.str (errWord x), v]) → Q (.ref t) H') ∨
   (x ∈ wrdC ∧ ∃ (dd : Addr) (v : V), ErrG K (He.ga K x) "word" ∧ d = some dd ∧ H dd = some (.xd [("word", v)]) ∧ ∀ t H', Ext H H' → H' t = some (.tup [.str (errWord x), v]) → Q (.ref t) H') ∨
   (x ∈ nonC ∧ d = none ∧ ∀ t H', Ext H H' → H' t = some (.tup [.str (errWord x), .non]) → Q (.ref t) H'))
def TT_l_refusedH (K : PySem.W.Frag) : (XK → Hp → VK → Prop) → Hp → VK → Prop := fun tl H Q => ∃ Ech : XK, tl Ech H (fun _ H' => Q .non H') ∧ ∀ cls d H', Ech cls d H' → RefX K Q cls d H'
def rd_l_refusedH (K : PySem.W.Frag) (f c : Addr) (q : Str) (tl : XK → Hp → VK → Prop) : TS := tSeq (FW.tTryA K (fun W => FW.tWithE 3 (fun Ech => tDrop (FW.tAsk f c q tl Ech)) W) [⟨.ref (He.ga K "FloorError"), 1, fun a cls d => tSeq (tFor (iList K (tLst (tCons (tC (.str "word")) (tCons (tC (.str "value")) (tNil))))) (gName 2) (tSeq (tIfS (tAnd (tTest (tOp rEq (tVar 2) (tC (.str "word")))) (tB (tCB (FW.rIsXT K a cls d) (tCons (tVar 1) (tCons (tTup (tCons (tC (.ref (He.ga K "BadLoop"))) (tCons (tC (.ref (He.ga K "BadSought"))) (tCons (tC (.ref (He.ga K "BadBeginning"))) (tNil))))) (tNil)))))) (tRet (tTup (tCons (FW.tCallX a ["_law_e", "_law_some", "_law_names", "_law_name", "_law_is_it"] (rd_l_class K a cls d) (tVar 1)) (tCons (FW.tByX K "word" a cls d (tVar 1)) (tNil))))) (tNext)) (tIfS (tAnd (tTest (tOp rEq (tVar 2) (tC (.str "value")))) (tB (tCB (FW.rIsXT K a cls d) (tCons (tVar 1) (tCons (tTup (tCons (tC (.ref (He.ga K "BadNumber"))) (tCons (tC (.ref (He.ga K "BadPower"))) (tCons (tC (.ref (He.ga K "BadStart"))) (tCons (tC (.ref (He.ga K "BadKind"))) (tNil)))))) (tNil)))))) (tRet (tTup (tCons (FW.tCallX a ["_law_e", "_law_some", "_law_names", "_law_name", "_law_is_it"] (rd_l_class K a cls d) (tVar 1)) (tCons (FW.tByX K "value" a cls d (tVar 1)) (tNil))))) (tNext)))) (tRet (tTup (tCons (FW.tCallX a ["_law_e", "_law_some", "_law_names", "_law_name", "_law_is_it"] (rd_l_class K a cls d) (tVar 1)) (tCons (tC .non) (tNil)))))⟩] (fun _ _ _ _ => False)) (tRet (tC .non))
section
variable {K : PySem.W.Frag} {H : Hp} {Q : VK} {x : Str} {a : Addr} {d : Option Addr}
theorem kit_any (hk : HotK K x) : ∀ l : List Str, (∀ y ∈ l, y ∈ clsNames) → PySem.W.kitAny K (.ref (He.ga K x)) (l.map fun y => .ref (He.ga K y)) = some (l.any fun y => decide (x = y))
  | [], _ => rfl
  | y :: l, h => by
    have ih := kit_any hk l fun z hz => h z (List.mem_cons_of_mem _ hz)
    rw [List.map_cons, PySem.W.kitAny, hk.kit y (h y List.mem_cons_self), List.any_cons]
    cases e : decide (x = y)
    · rw [Bool.false_or]; exact ih
    · rfl
theorem clsV_all : ∀ l : List Str, Paired ClsV (l.map fun y => V.ref (He.ga K y)) (l.map fun y => Value.ref (He.ga K y))
  | [] => .nil
  | y :: l => .cons (.own _) (clsV_all l)
theorem e_isXT {tp : Addr} (l : List Str) (hk : HotK K x) (hd : DX d H) (ht : H tp = some (.tup (l.map fun y => V.ref (He.ga K y)))) (hl : ∀ y ∈ l, y ∈ clsNames) (q : Q (.bl (l.any fun y => decide (x = y))) H) : FW.rIsXT K a (.ref (He.ga K x)) d [.ref a, .ref tp] H Q :=
  ⟨_, tp, _, _, _, rfl, hk.xc, hd, rfl, ht, clsV_all l, kit_any hk l hl, q⟩
end
theorem e_callX {N : List Str} {t : TS} {te : TE} {σ : L2.St} {H : Hp} {Q : VK} {a : Addr} (k : te σ H fun v H1 => v = .ref a ∧ t { nx := fun _ H' => Q .non H', rt := Q } (L2.start N [.ref a]) H1) : FW.tCallX a N t te σ H Q := k
theorem e_byX {K : PySem.W.Frag} {f : Str} {a : Addr} {cls : Value} {d : Option Addr} {te : TE} {σ : L2.St} {H : Hp} {Q : VK} (k : te σ H fun x H1 => x = .ref a ∧ ∃ (C dd : Addr) (v : V), cls = .ref C ∧ ErrG K C f ∧ d = some dd ∧ H1 dd = some (.xd [(f, v)]) ∧ Q v H1) : FW.tByX K f a cls d te σ H Q := k
/-- return (_law_class(e), e.f) -/
theorem ret_f {K : PySem.W.Frag} {x f : Str} {a dd : Addr} {v : V} {s0 s2 : Option V} {H : Hp} {D : Ends} (hk : HotK K x) (hg : ErrG K (He.ga K x) f) (hd : H dd = some (.xd [(f, v)])) (q : ∀ t H', Ext H H' → H' t = some (.tup [.str (errWord x), v]) → D.rt (.ref t) H') :
    tRet (tTup (tCons (FW.tCallX a ["_law_e", "_law_some", "_law_names", "_law_name", "_law_is_it"] (rd_l_class K a (.ref (He.ga K x)) (some dd)) (tVar 1)) (tCons (FW.tByX K f a (.ref (He.ga K x)) (some dd) (tVar 1)) (tNil)))) D [s0, some (.ref a), s2] H := by
  walk_at "rd"
  refine e_callX ?_
  walk_at "rd"
  refine ⟨rfl, pure_l_class K x hk a (some dd) H _ (.inr ⟨dd, _, rfl, hd⟩) fun H' e => ?_⟩
  walk_at "rd"
  refine e_byX ?_
  walk_at "rd"
  refine ⟨rfl, _, dd, v, rfl, hg, rfl, e _ _ hd, ?_⟩
  walk_at "rd"
  exact ⟨by show 2 ≤ sizeLine; decide, fun p hp => q p _ (e.tr (Ext.new hp)) upd_same⟩
theorem pure_l_refusedH (K : PySem.W.Frag) (f c : Addr) (q : Str) (tl : XK → Hp → VK → Prop) (H : Hp) (Q : VK) (hc : H c = some (LamX.CodeO c q)) (h : TT_l_refusedH K tl H Q) : rd_l_refusedH K f c q tl { nx := fun _ H' => Q .non H', rt := Q } (start ["_law_ask", "_law_e", "_law_word"] [.ref f]) H := by
  obtain ⟨Ech, ht, he⟩ := h
  unfold rd_l_refusedH tTryA tWithE
  refine s_seq ⟨Ech, fun cls d σ' H' h1 hl => ?_, ?_⟩
  · match σ', hl with
    | [s0, s1, s2], _ =>
    obtain ⟨x, rfl, hk, hx⟩ := he _ _ _ h1
    refine ⟨true, hk.fl, fun _ a ha => ?_, fun z => by cases z⟩
    have hd : DX d H' := by
      rcases hx with ⟨_, dd, v, _, rfl, e, _⟩ | ⟨_, dd, v, _, rfl, e, _⟩ | ⟨_, rfl, _⟩
      · exact .inr ⟨dd, _, rfl, e⟩
      · exact .inr ⟨dd, _, rfl, e⟩
      · exact .inl rfl
    have xw : (wrdC.any fun y => decide (x = y)) = true ↔ x ∈ wrdC := by simp
    have xv : (valC.any fun y => decide (x = y)) = true ↔ x ∈ valC := by simp
    walk_at "rd"
    refine ⟨by show 2 ≤ sizeLine; decide, fun p hp => i_list' [.str "word", .str "value"] ?_ (.inl (.inl upd_same))⟩
    refine for_list (xs := [.str "word", .str "value"]) (fun i σ G => Ext H' G ∧ G p = some (.lst [.str "word", .str "value"]) ∧ (∃ z, σ = [s0, some (.ref a), z]) ∧ (1 ≤ i → x ∉ wrdC) ∧ (2 ≤ i → x ∉ valC)) ⟨Ext.new hp, upd_same, ⟨_, rfl⟩, by omega, by omega⟩ (fun i σ G _ h => .inl (.inl h.2.1)) ?_ ?_
    · rintro i y σ G hy ⟨eG, ep, ⟨z, rfl⟩, n1, n2⟩
      match i, hy with
      | 0, hy =>
        cases hy
        refine g_name ?_
        walk_at "rd"
        refine e_ite (fun _ => ?_) fun h => absurd rfl h
        walk_at "rd"
        refine ⟨by show 3 ≤ sizeLine; decide, fun t ht => ?_⟩
        walk_at "rd"
        refine e_isXT wrdC hk ((hd.ext eG).ext (Ext.new ht)) upd_same (by decide) ?_
        walk_at "rd"
        refine e_iteB (fun hb => ?_) fun hb => ?_
        · rcases hx with ⟨m, _⟩ | ⟨_, dd, v, hg, rfl, e, k⟩ | ⟨m, _⟩
          · exact absurd (xw.mp hb) (dis1 x m)
          · exact ret_f hk hg (Ext.new ht _ _ (eG _ _ e)) fun t' G' e' et => k t' G' ((eG.tr (Ext.new ht)).tr e') et
          · exact absurd (xw.mp hb) (dis2 x m)
        · have nw : x ∉ wrdC := fun m => by rw [xw.mpr m] at hb; cases hb
          walk_at "rd"
          refine e_ite (fun h => by cases h) fun h => ?_
          walk_at "rd"
          exact ⟨eG.tr (Ext.new ht), Ext.new ht _ _ ep, ⟨_, rfl⟩, fun _ => nw, by omega⟩
      | 1, hy =>
        cases hy
        refine g_name ?_
        walk_at "rd"
        refine e_ite (fun h => by cases h) fun h => ?_
        walk_at "rd"
        refine e_ite (fun _ => ?_) fun h => absurd rfl h
        walk_at "rd"
        refine ⟨by show 4 ≤ sizeLine; decide, fun t ht => ?_⟩
        walk_at "rd"
        refine e_isXT valC hk ((hd.ext eG).ext (Ext.new ht)) upd_same (by decide) ?_
        walk_at "rd"
        refine e_iteB (fun hb => ?_) fun hb => ?_
        · rcases hx with ⟨_, dd, v, hg, rfl, e, k⟩ | ⟨m, _⟩ | ⟨m, _⟩
          · exact ret_f hk hg (Ext.new ht _ _ (eG _ _ e)) fun t' G' e' et => k t' G' ((eG.tr (Ext.new ht)).tr e') et
          · exact absurd m (n1 (by omega))
          · exact absurd (xv.mp hb) (dis3 x m)
        · have nw : x ∉ valC := fun m => by rw [xv.mpr m] at hb; cases hb
          walk_at "rd"
          exact ⟨eG.tr (Ext.new ht), Ext.new ht _ _ ep, ⟨_, rfl⟩, fun _ => n1 (by omega), fun _ => nw⟩
    · rintro σ G ⟨eG, ep, ⟨z, rfl⟩, n1, n2⟩
      have nv := n2 (by decide)
      have nw := n1 (by decide)
      rcases hx with ⟨m, _⟩ | ⟨m, _⟩ | ⟨m, rfl, k⟩
      · exact absurd m nv
      · exact absurd m nw
      · walk_at "rd"
        refine e_callX ?_
        walk_at "rd"
        refine ⟨rfl, pure_l_class K x hk a none G _ (.inl rfl) fun G' e => ?_⟩
        walk_at "rd"
        exact ⟨by show 2 ≤ sizeLine; decide, fun p hp => k p _ ((eG.tr e).tr (Ext.new hp)) upd_same⟩
  · walk_at "rd"
    exact ⟨rfl, hc, ht⟩
end FWL
namespace FWL
open PySem PySem.Spec PyProof.Rows L2 FW
/-! ### the checks that may raise -/
def sp_Average_stepX (K : PySem.W.Frag) : Sp := fun vs H Q E => ∃ (p : Addr) (l : Lp) (vn vx : V) (nn nx : String), vs = [.ref p, vn, vx] ∧ IsLp K H p l ∧ l.Ok ∧ WT K H vn nn ∧ WT K H vx nx ∧
  (fromI vn 0 = false → ∀ d, H d = none → E (clsN K) (some d) (upd H d (.xd [("value", vn)]))) ∧
  (fromI vn 0 = true → fromI vx 1 = false → ∀ d, H d = none → E (clsS K) (some d) (upd H d (.xd [("value", vx)]))) ∧
  (fromI vn 0 = true → fromI vx 1 = true → Sz 2000 (iv vn) ∧ Sz 2000 (iv vx) ∧ Q (.int (l.led (iv vn) (iv vx))) H)
def rd_Average_stepX (K : PySem.W.Frag) (E : XK) : TS := tSeq (tDrop (tCall (sp_check_numberX K) [] E (tCons (tVar 1) (tNil)))) (tSeq (tDrop (tCall (sp_check_startX K) [] E (tCons (tVar 2) (tNil)))) (tRet (tMeth (He.ga K "Average") "led" (sp_Average_led K) [] E0 (tVar 0) (tCons (tVar 1) (tCons (tVar 2) (tNil))))))
theorem pure_Average_stepX (K : PySem.W.Frag) (vs : List V) (H : Hp) (Q : VK) (E : XK) (h : sp_Average_stepX K vs H Q E) : rd_Average_stepX K E { nx := fun _ H' => Q .non H', rt := Q } (start ["self", "n", "x"] vs) H := by
  obtain ⟨p, l, vn, vx, nn, nx, rfl, hp, o, wn, wx, q1, q2, q3⟩ := h
  unfold rd_Average_stepX
  walk_at "rd"
  refine ⟨vn, nn, rfl, wn, fun h1 => ?_, q1⟩
  walk_at "rd"
  refine ⟨vx, nx, rfl, wx, fun h2 => ?_, q2 h1⟩
  obtain ⟨n, rfl, hn⟩ := fromI_of h1
  obtain ⟨x, rfl, hx⟩ := fromI_of h2
  obtain ⟨s1, s2, q⟩ := q3 h1 h2
  obtain ⟨dx, hp'⟩ := id hp
  walk_at "rd"
  refine ⟨p, dx, _, rfl, hp', rfl, ?_⟩
  walk_at "rd"
  exact ⟨p, l, n, x, rfl, hp, o, hx, hn, s1, s2, q⟩
theorem stepX_ok {K : PySem.W.Frag} {H : Hp} {Q : VK} {E : XK} {p : Addr} {l : Lp} {n x : Int} (hp : IsLp K H p l) (o : l.Ok) (hn : 0 ≤ n) (hx : 1 ≤ x) (s1 : Sz 2000 n) (s2 : Sz 2000 x) (q : Q (.int (l.led n x)) H) : sp_Average_stepX K [.ref p, .int n, .int x] H Q E :=
  ⟨p, l, _, _, _, _, rfl, hp, o, WT.i n, WT.i x, (fun h => by rw [fromI_int hn] at h; cases h), (fun _ h => by rw [fromI_int hx] at h; cases h), fun _ _ => ⟨s1, s2, q⟩⟩
/-- which class a clause takes -/
structure ExK (K : PySem.W.Frag) : Prop where
  nn : PySem.W.exmOne K (clsN K) (clsN K) = some true
  sn : PySem.W.exmOne K (clsS K) (clsN K) = some false
  ss : PySem.W.exmOne K (clsS K) (clsS K) = some true
def sp_l_refused (K : PySem.W.Frag) : Sp := fun vs H Q _ => ∃ (p : Addr) (l : Lp) (vn vx : V) (nn nx : String), vs = [.ref p, vn, vx] ∧ IsLp K H p l ∧ l.Ok ∧ WT K H vn nn ∧ WT K H vx nx ∧
  (fromI vn 0 = false → ∀ t H', H t = none → Ext H H' → H' t = some (.tup [.str "number", vn]) → Q (.ref t) H') ∧
  (fromI vn 0 = true → fromI vx 1 = false → ∀ t H', H t = none → Ext H H' → H' t = some (.tup [.str "start", vx]) → Q (.ref t) H') ∧
  (fromI vn 0 = true → fromI vx 1 = true → Sz 2000 (iv vn) ∧ Sz 2000 (iv vx) ∧ Q .non H)
def rd_l_refused (K : PySem.W.Frag) : TS := tSeq (FW.tTryA K (fun W => tDrop (FW.tMethW (He.ga K "Average") "step" (sp_Average_stepX K) W (tVar 0) (tCons (tVar 1) (tCons (tVar 2) (tNil))))) [⟨.ref (He.ga K "BadNumber"), 3, fun a cls d => tRet (tTup (tCons (tC (.str "number")) (tCons (FW.tByE (He.ga K "BadNumber") "value" a cls d (tVar 3)) (tNil))))⟩, ⟨.ref (He.ga K "BadStart"), 3, fun a cls d => tRet (tTup (tCons (tC (.str "start")) (tCons (FW.tByE (He.ga K "BadStart") "value" a cls d (tVar 3)) (tNil))))⟩] (fun _ _ _ _ => False)) (tRet (tC .non))
theorem pure_l_refused (K : PySem.W.Frag) (X : ExK K) (vs : List V) (H : Hp) (Q : VK) (E : XK) (h : sp_l_refused K vs H Q E) : rd_l_refused K { nx := fun _ H' => Q .non H', rt := Q } (start ["_law_loop_here", "_law_n", "_law_x", "e"] vs) H := by
  obtain ⟨p, l, vn, vx, nn, nx, rfl, hp, o, wn, wx, q1, q2, q3⟩ := h
  obtain ⟨dx, hp'⟩ := id hp
  unfold rd_l_refused
  walk_at "rd"
  unfold tTryA
  walk_at "rd"
  unfold tMethW
  walk_at "rd"
  refine ⟨p, dx, _, rfl, hp', rfl, ?_⟩
  walk_at "rd"
  refine ⟨p, l, vn, vx, nn, nx, rfl, hp, o, wn, wx, fun h1 d hd => ?_, fun h1 h2 d hd => ?_, fun h1 h2 => ?_⟩
  · refine ⟨true, X.nn, fun _ a ha => ?_, fun z => by cases z⟩
    walk_at "rd"
    refine e_byE ?_
    walk_at "rd"
    refine ⟨rfl, rfl, d, vn, rfl, upd_same, ?_⟩
    walk_at "rd"
    refine ⟨by show 2 ≤ sizeLine; decide, fun t ht => ?_⟩
    have e1 : Ext H (upd H d (.xd [("value", vn)])) := Ext.new hd
    exact q1 h1 t _ (e1.non ht) (e1.tr (Ext.new ht)) upd_same
  · refine ⟨false, X.sn, (fun z => by cases z), fun _ => ⟨true, X.ss, fun _ a ha => ?_, fun z => by cases z⟩⟩
    walk_at "rd"
    refine e_byE ?_
    walk_at "rd"
    refine ⟨rfl, rfl, d, vx, rfl, upd_same, ?_⟩
    walk_at "rd"
    refine ⟨by show 2 ≤ sizeLine; decide, fun t ht => ?_⟩
    have e1 : Ext H (upd H d (.xd [("value", vx)])) := Ext.new hd
    exact q2 h1 h2 t _ (e1.non ht) (e1.tr (Ext.new ht)) upd_same
  · obtain ⟨s1, s2, q⟩ := q3 h1 h2
    refine ⟨s1, s2, ?_⟩
    walk_at "rd"
    exact q
end FWL
namespace FWL
open PySem PySem.Spec PyProof.Rows L2 FW
/-! ### things that are sought -/
structure So where
  kind : Str
  by_ : Int
  n : Int
structure So.Ok (s : So) : Prop where
  hk : s.kind = "root" ∨ s.kind = "share" ∨ s.kind = "log"
  b1 : 1 ≤ s.by_
  b64 : s.by_ ≤ 64
  bl : s.kind = "log" → 2 ≤ s.by_
  n0 : 0 ≤ s.n
  nl : s.kind = "log" → 1 ≤ s.n
  ns : Sz 700 s.n
def So.V (s : So) : List V := [.str s.kind, .int s.by_, .int s.n]
def So.F (s : So) : List (Str × L2.V) := [("kind", .str s.kind), ("by", .int s.by_), ("n", .int s.n)]
def So.me (s : So) (x : Int) : Int := if s.kind = "root" then x ^ s.by_.toNat else if s.kind = "share" then s.by_ * x else s.by_ ^ x.toNat
def So.side (s : So) (x : Int) : Int := sgn (s.me x - s.n)
/-- x is the answer -/
def So.Ans (s : So) (x : Int) : Prop := 0 ≤ x ∧ s.me x ≤ s.n ∧ s.n < s.me (x + 1)
theorem So.me_root {s : So} (h : s.kind = "root") (x : Int) : s.me x = x ^ s.by_.toNat := by unfold So.me; rw [if_pos h]
theorem So.me_share {s : So} (h : s.kind = "share") (x : Int) : s.me x = s.by_ * x := by unfold So.me; rw [if_neg (by rw [h]; decide), if_pos h]
theorem So.me_log {s : So} (h : s.kind = "log") (x : Int) : s.me x = s.by_ ^ x.toNat := by unfold So.me; rw [if_neg (by rw [h]; decide), if_neg (by rw [h]; decide)]
theorem So.mono {s : So} (o : s.Ok) {x y : Int} (h0 : 0 ≤ x) (h : x ≤ y) : s.me x ≤ s.me y := by
  have b1 := o.b1
  rcases o.hk with k | k | k
  · rw [So.me_root k, So.me_root k]; exact pow_mono h0 h _
  · rw [So.me_share k, So.me_share k]; exact Int.mul_le_mul_of_nonneg_left h (by omega)
  · rw [So.me_log k, So.me_log k]; exact pow_le_right b1 (by omega)
theorem So.Ans.unique {s : So} (o : s.Ok) {x y : Int} (hx : s.Ans x) (hy : s.Ans y) : x = y := by
  obtain ⟨x0, x1, x2⟩ := hx
  obtain ⟨y0, y1, y2⟩ := hy
  rcases Int.lt_trichotomy x y with h | h | h
  · have := So.mono o (x := x + 1) (y := y) (by omega) (by omega); omega
  · exact h
  · have := So.mono o (x := y + 1) (y := x) (by omega) (by omega); omega
structure SoK (K : PySem.W.Frag) : Prop where
  cls : Cls K (He.ga K "Sought")
  n_kind : NoAttr K (He.ga K "Sought") "kind"
  n_by : NoAttr K (He.ga K "Sought") "by"
  n_n : NoAttr K (He.ga K "Sought") "n"
  kinds : ∀ H, SqT K H (He.ga K "KINDS") [.str "root", .str "share", .str "log"]
def IsSo (K : PySem.W.Frag) (H : Hp) (x : Addr) (s : So) : Prop := ∃ dx, H x = some (.ins (He.ga K "Sought") dx s.F)
theorem IsSo.ext {K : PySem.W.Frag} {H H' : Hp} {x : Addr} {s : So} (e : Ext H H') : IsSo K H x s → IsSo K H' x s
  | ⟨dx, h⟩ => ⟨dx, e _ _ h⟩
theorem e_fS {K : PySem.W.Frag} {H : Hp} {x : Addr} {s : So} {f : Str} {R : L2.V → Prop} {v : L2.V} (k : R v) (A : SoK K) (h : IsSo K H x s) (n : NoAttr K (He.ga K "Sought") f) (hl : s.F.lookup f = some v) :
    ∃ a C dx fs v, L2.V.ref x = .ref a ∧ H a = some (.ins C dx fs) ∧ Cls K C ∧ NoAttr K C f ∧ fs.lookup f = some v ∧ R v := by
  obtain ⟨dx, h⟩ := h
  exact ⟨x, _, dx, _, v, rfl, h, A.cls, n, hl, k⟩
def sp_check_sought (K : PySem.W.Frag) : Sp := fun vs H Q _ => ∃ s : So, vs = s.V ∧ s.Ok ∧ Q .non H
def rd_check_sought (K : PySem.W.Frag) : TS := tSeq (tIfS (tOr (tNot (tB (tCB (rIsi K) (tCons (tVar 0) (tCons (tC (.ty "str")) (tNil)))))) (tTest (tOp (rIn K true) (tVar 0) (tC (.ref (He.ga K "KINDS")))))) (tNever) (tNext)) (tSeq (tAsg (tIf (tTest (tOp rEq (tVar 0) (tC (.str "log")))) (tC (.int 2)) (tC (.int 1))) (gName 3)) (tSeq (tIfS (tOr (tNot (tB (tCall (sp_is_whole K) [] E0 (tCons (tVar 1) (tNil))))) (tNot (tTest (tChain FW.rLe FW.rLe (tVar 3) (tVar 1) (tC (.int 64)))))) (tNever) (tNext)) (tIfS (tNot (tB (tCall (sp_is_whole_from K) [] E0 (tCons (tVar 2) (tCons (tOp FW.rSub (tVar 3) (tC (.int 1))) (tNil)))))) (tNever) (tNext))))
theorem inKinds {k : Str} (h : k = "root" ∨ k = "share" ∨ k = "log") : inV (.str k) [.str "root", .str "share", .str "log"] = true := by
  rcases h with rfl | rfl | rfl <;> decide +kernel
theorem pure_check_sought (K : PySem.W.Frag) (A : SoK K) (vs : List V) (H : Hp) (Q : VK) (E : XK) (h : sp_check_sought K vs H Q E) : rd_check_sought K { nx := fun _ H' => Q .non H', rt := Q } (start ["kind", "by", "n", "least"] vs) H := by
  obtain ⟨⟨kind, b, n⟩, rfl, ⟨hk, b1, b64, bl, n0, nl, ns⟩, q⟩ := h
  dsimp only at hk b1 b64 bl n0 nl ns
  unfold rd_check_sought So.V
  walk_at "rd"
  refine e_isi ?_ (WT.s kind) (kitS (by decide))
  rw [decide_eq_true rfl]
  walk_at "rd"
  refine e_in ?_ (.inr (A.kinds H)) rfl rfl
  rw [if_pos rfl, inKinds hk]
  walk_at "rd"
  have fin : ∀ least : Int, (least = 1 ∨ least = 2) → least ≤ b → least - 1 ≤ n → (tSeq (tIfS (tOr (tNot (tB (tCall (sp_is_whole K) [] E0 (tCons (tVar 1) (tNil))))) (tNot (tTest (tChain FW.rLe FW.rLe (tVar 3) (tVar 1) (tC (.int 64)))))) (tNever) (tNext)) (tIfS (tNot (tB (tCall (sp_is_whole_from K) [] E0 (tCons (tVar 2) (tCons (tOp FW.rSub (tVar 3) (tC (.int 1))) (tNil)))))) (tNever) (tNext))) { nx := fun _ H' => Q .non H', rt := Q } [some (.str kind), some (.int b), some (.int n), some (.int least)] H := by
    intro least hl h1 h2
    walk_at "rd"
    refine ⟨_, _, rfl, WT.i b, ?_⟩
    walk_at "rd"
    rw [show isInt (.int b) = true from rfl]
    walk_at "rd"
    rw [decide_eq_true h1]
    walk_at "rd"
    rw [decide_eq_true b64]
    walk_at "rd"
    refine ⟨_, _, _, rfl, WT.i n, ?_⟩
    rw [fromI_int h2]
    walk_at "rd"
    exact q
  rcases hk with rfl | rfl | rfl
  · refine e_ite (fun h => absurd (show V.str "root" = V.str "log" from h) (by decide)) (fun _ => ?_)
    walk_at "re"
    exact fin 1 (.inl rfl) b1 (by omega)
  · refine e_ite (fun h => absurd (show V.str "share" = V.str "log" from h) (by decide)) (fun _ => ?_)
    walk_at "re"
    exact fin 1 (.inl rfl) b1 (by omega)
  · refine e_ite (fun _ => ?_) (fun h => absurd rfl h)
    walk_at "re"
    have := bl rfl; have := nl rfl
    exact fin 2 (.inr rfl) (by omega) (by omega)
def sp_Sought_init (K : PySem.W.Frag) : Sp := fun vs H Q _ => ∃ (x dx : Addr) (s : So), vs = .ref x :: s.V ∧ s.Ok ∧ H x = some (.ins (He.ga K "Sought") dx []) ∧
  ∀ H', ExtB x H H' → H' x = some (.ins (He.ga K "Sought") dx s.F) → Q .non H'
def rd_Sought_init (K : PySem.W.Frag) : TS := tSeq (tDrop (tCall (sp_check_sought K) [] E0 (tCons (tVar 1) (tCons (tVar 2) (tCons (tVar 3) (tNil)))))) (tSeq (sFld K (tVar 0) (tVar 1) "kind") (tSeq (sFld K (tVar 0) (tVar 2) "by") (sFld K (tVar 0) (tVar 3) "n")))
theorem pure_Sought_init (K : PySem.W.Frag) (A : SoK K) (vs : List V) (H : Hp) (Q : VK) (E : XK) (h : sp_Sought_init K vs H Q E) : rd_Sought_init K { nx := fun _ H' => Q .non H', rt := Q } (start ["self", "kind", "by", "n"] vs) H := by
  obtain ⟨x, dx, s, rfl, o, hx, q⟩ := h
  unfold rd_Sought_init
  walk_at "rd"
  refine ⟨s, rfl, o, ?_⟩
  walk_at "rd"
  refine e_sF ?_ hx A.cls A.n_kind (by decide)
  walk_at "rd"
  refine e_sF ?_ upd_same A.cls A.n_by (by show 1 < 1000; decide)
  walk_at "rd"
  refine e_sF ?_ upd_same A.cls A.n_n (by show 2 < 1000; decide)
  refine q _ ?_ upd_same
  intro a o' ne h
  rw [upd_ne ne, upd_ne ne, upd_ne ne]
  exact h
def So.In (s : So) (x : Int) : Prop := 0 ≤ x ∧ Sz 710 x ∧ (s.kind = "log" → x ≤ 10000)
def sp_Sought_measure (K : PySem.W.Frag) : Sp := fun vs H Q _ => ∃ (p : Addr) (s : So) (x : Int), vs = [.ref p, .int x] ∧ IsSo K H p s ∧ s.Ok ∧ s.In x ∧ Q (.int (s.me x)) H
def rd_Sought_measure (K : PySem.W.Frag) : TS := tSeq (tIfS (tTest (tOp rEq (tFld K (tVar 0) "kind") (tC (.str "root")))) (tRet (tCall (sp_power K) [] E0 (tCons (tVar 1) (tCons (tFld K (tVar 0) "by") (tNil))))) (tNext)) (tSeq (tIfS (tTest (tOp rEq (tFld K (tVar 0) "kind") (tC (.str "share")))) (tRet (tOp FW.rMul (tFld K (tVar 0) "by") (tVar 1))) (tNext)) (tRet (tCall (sp_power K) [] E0 (tCons (tFld K (tVar 0) "by") (tCons (tVar 1) (tNil))))))
theorem pow_roomS {k : Int} {b : Nat} (hk : k ≤ 64) (hb : b ≤ 1000) : (k.toNat + 1) * b ≤ 900000 := by
  have : k.toNat + 1 ≤ 65 := by omega
  have := Nat.mul_le_mul this hb
  omega
theorem pure_Sought_measure (K : PySem.W.Frag) (A : SoK K) (vs : List V) (H : Hp) (Q : VK) (E : XK) (h : sp_Sought_measure K vs H Q E) : rd_Sought_measure K { nx := fun _ H' => Q .non H', rt := Q } (start ["self", "x"] vs) H := by
  obtain ⟨p, s, x, rfl, hp, o, ⟨x0, xs, xl⟩, q⟩ := h
  have b1 := o.b1; have b64 := o.b64
  have bs : Sz 10 s.by_ := by show s.by_.natAbs < 1024; omega
  unfold rd_Sought_measure
  walk_at "rd"
  refine e_fS ?_ A hp A.n_kind rfl
  walk_at "rd"
  rcases o.hk with k | k | k
  · rw [So.me_root k] at q
    rw [k]
    refine e_ite (fun _ => ?_) (fun h => absurd rfl h)
    walk_at "rd"
    refine e_fS ?_ A hp A.n_by rfl
    walk_at "rd"
    exact ⟨x, s.by_, 710, rfl, by omega, xs, by decide, pow_roomS b64 (by decide), q⟩
  · rw [So.me_share k] at q
    rw [k]
    refine e_ite (fun h => absurd h (by decide)) (fun _ => ?_)
    walk_at "rd"
    refine e_fS ?_ A hp A.n_kind rfl
    walk_at "rd"
    rw [k]
    refine e_ite (fun _ => ?_) (fun h => absurd rfl h)
    walk_at "rd"
    refine e_fS ?_ A hp A.n_by rfl
    walk_at "rd"
    · exact q
    · exact wide_mul bs xs (by decide) (by decide) (by decide)
  · rw [So.me_log k] at q
    have xl' := xl k
    rw [k]
    refine e_ite (fun h => absurd h (by decide)) (fun _ => ?_)
    walk_at "rd"
    refine e_fS ?_ A hp A.n_kind rfl
    walk_at "rd"
    rw [k]
    refine e_ite (fun h => absurd h (by decide)) (fun _ => ?_)
    walk_at "rd"
    refine e_fS ?_ A hp A.n_by rfl
    walk_at "rd"
    refine ⟨s.by_, x, 10, rfl, by omega, bs, by decide, by omega, q⟩
def sp_Sought_compare (K : PySem.W.Frag) : Sp := fun vs H Q _ => ∃ (p : Addr) (s : So) (x : Int), vs = [.ref p, .int x] ∧ IsSo K H p s ∧ s.Ok ∧ s.In x ∧ Q (.int (s.side x)) H
def rd_Sought_compare (K : PySem.W.Frag) : TS := tRet (tCall (sp_sign K) [] E0 (tCons (tOp FW.rSub (tMeth (He.ga K "Sought") "measure" (sp_Sought_measure K) [] E0 (tVar 0) (tCons (tVar 1) (tNil))) (tFld K (tVar 0) "n")) (tNil)))
theorem pure_Sought_compare (K : PySem.W.Frag) (A : SoK K) (vs : List V) (H : Hp) (Q : VK) (E : XK) (h : sp_Sought_compare K vs H Q E) : rd_Sought_compare K { nx := fun _ H' => Q .non H', rt := Q } (start ["self", "x"] vs) H := by
  obtain ⟨p, s, x, rfl, hp, o, hi, q⟩ := h
  obtain ⟨dx, hp'⟩ := id hp
  unfold rd_Sought_compare
  walk_at "rd"
  refine ⟨p, dx, _, rfl, hp', rfl, ?_⟩
  walk_at "rd"
  refine ⟨p, s, x, rfl, hp, o, hi, ?_⟩
  walk_at "rd"
  refine e_fS ?_ A hp A.n_n rfl
  walk_at "rd"
  exact ⟨_, rfl, q⟩
def sp_Sought_answer (K : PySem.W.Frag) : Sp := fun vs H Q _ => ∃ (p : Addr) (s : So), vs = [.ref p] ∧ IsSo K H p s ∧ s.Ok ∧ ∀ (x : Int) H', s.Ans x → Ext H H' → Q (.int x) H'
def rd_Sought_answer_L1 (K : PySem.W.Frag) : TS := tSeq (tAug 2 (tFld K (tVar 0) "by") FW.iMul) (tAug 1 (tC (.int 1)) FW.iAdd)
def rd_Sought_answer (K : PySem.W.Frag) : TS := tSeq (tIfS (tTest (tOp rEq (tFld K (tVar 0) "kind") (tC (.str "root")))) (tRet (tCall (sp_whole_root K) [] E0 (tCons (tFld K (tVar 0) "n") (tCons (tFld K (tVar 0) "by") (tNil))))) (tNext)) (tSeq (tIfS (tTest (tOp rEq (tFld K (tVar 0) "kind") (tC (.str "share")))) (tRet (tOp FW.rDiv (tFld K (tVar 0) "n") (tFld K (tVar 0) "by"))) (tNext)) (tSeq (tAsg (tC (.int 0)) (gName 1)) (tSeq (tAsg (tFld K (tVar 0) "by") (gName 2)) (tSeq (tWhile (tTest (tOp FW.rLe (tVar 2) (tFld K (tVar 0) "n"))) (rd_Sought_answer_L1 K)) (tRet (tVar 1))))))
theorem pure_Sought_answer (K : PySem.W.Frag) (A : SoK K) (vs : List V) (H : Hp) (Q : VK) (E : XK) (h : sp_Sought_answer K vs H Q E) : rd_Sought_answer K { nx := fun _ H' => Q .non H', rt := Q } (start ["self", "found", "above"] vs) H := by
  obtain ⟨p, s, rfl, hp, o, q⟩ := h
  have b1 := o.b1; have b64 := o.b64; have n0 := o.n0; have ns := o.ns
  have bs : Sz 10 s.by_ := by show s.by_.natAbs < 1024; omega
  unfold rd_Sought_answer
  walk_at "rd"
  refine e_fS ?_ A hp A.n_kind rfl
  walk_at "rd"
  rcases o.hk with k | k | k
  · rw [k]
    refine e_ite (fun _ => ?_) (fun h => absurd rfl h)
    walk_at "rd"
    refine e_fS ?_ A hp A.n_n rfl
    walk_at "rd"
    refine e_fS ?_ A hp A.n_by rfl
    walk_at "rd"
    refine ⟨s.n, s.by_, rfl, n0, b1, b64, ns.mono (by decide), fun r H' r0 r1 r2 e => q r H' ⟨r0, ?_, ?_⟩ e⟩
    · rw [So.me_root k]; exact r1
    · rw [So.me_root k]; exact r2
  · rw [k]
    refine e_ite (fun h => absurd h (by decide)) (fun _ => ?_)
    walk_at "rd"
    refine e_fS ?_ A hp A.n_kind rfl
    walk_at "rd"
    rw [k]
    refine e_ite (fun _ => ?_) (fun h => absurd rfl h)
    walk_at "rd"
    refine e_fS ?_ A hp A.n_n rfl
    walk_at "rd"
    refine e_fS ?_ A hp A.n_by rfl
    walk_at "rd"
    · have h1 := Int.mul_ediv_self_le (x := s.n) (k := s.by_) (by omega)
      have h2 := Int.lt_mul_ediv_self_add (x := s.n) (k := s.by_) (by omega)
      refine q _ H ⟨Int.ediv_nonneg n0 (by omega), ?_, ?_⟩ Ext.rfl'
      · rw [So.me_share k]; exact h1
      · rw [So.me_share k, Int.mul_add, Int.mul_one]; exact h2
    · exact wide_div (b := 10) (by omega) bs (by decide) (by decide)
  · have b2 := o.bl k; have n1 := o.nl k
    rw [k]
    refine e_ite (fun h => absurd h (by decide)) (fun _ => ?_)
    walk_at "rd"
    refine e_fS ?_ A hp A.n_kind rfl
    walk_at "rd"
    rw [k]
    refine e_ite (fun h => absurd h (by decide)) (fun _ => ?_)
    walk_at "rd"
    refine e_fS ?_ A hp A.n_by rfl
    walk_at "rd"
    have small : ∀ j : Nat, s.by_ ^ j ≤ s.n → j < 700 := by
      intro j hj
      have hnb : s.n < 2 ^ 700 := by
        have : s.n.natAbs < 2 ^ 700 := ns
        have e : ((2 ^ 700 : Nat) : Int) = 2 ^ 700 := by rw [Int.natCast_pow]; rfl
        omega
      have h2 : (2 : Int) ^ j ≤ s.by_ ^ j := pow_mono (by decide) b2 j
      exact two_le_inv (by omega)
    refine s_while (fun m σ H' => H' = H ∧ ∃ f : Nat, s.by_ ^ f ≤ s.n ∧ m = 700 - f ∧ σ = [some (.ref p), some (.int (f : Int)), some (.int (s.by_ ^ (f + 1)))]) _ ⟨rfl, 0, by rw [Int.pow_zero]; exact n1, rfl, by rw [Int.pow_succ, Int.pow_zero, Int.one_mul]; rfl⟩ ?_
    rintro m σ H' ⟨rfl, f, hf, rfl, rfl⟩
    have hf7 := small f hf
    walk_at "rd"
    refine e_fS ?_ A hp A.n_n rfl
    walk_at "rd"
    refine e_ite (fun hgo => ?_) (fun hno => ?_)
    · have hf8 := small (f + 1) hgo
      refine ⟨fun σ' H'' => H'' = H' ∧ σ' = [some (.ref p), some (.int ((f + 1 : Nat) : Int)), some (.int (s.by_ ^ (f + 1 + 1)))], fun σ' H'' h => ⟨700 - (f + 1), by omega, h.1, f + 1, hgo, rfl, h.2⟩, ?_⟩
      unfold rd_Sought_answer_L1
      walk_at "rd"
      refine e_fS ?_ A hp A.n_by rfl
      walk_at "rd"
      · refine ⟨rfl, ?_⟩
        rw [← Int.pow_succ, show ((f : Int) + 1) = ((f + 1 : Nat) : Int) by omega]; rfl
      · refine wide_mul (a := 10000) (b := 10) ((Sz.pow bs (by decide) (f + 1)).mono (by omega)) bs (by decide) (by decide) (by decide)
    · walk_at "rd"
      refine q f H' ⟨by omega, ?_, ?_⟩ Ext.rfl'
      · rw [So.me_log k, Int.toNat_natCast]; exact hf
      · rw [So.me_log k, show ((f : Int) + 1).toNat = f + 1 by omega]; omega
theorem So.Ans.le {s : So} (o : s.Ok) {x : Int} (h : s.Ans x) : x ≤ s.n := by
  obtain ⟨x0, x1, x2⟩ := h
  have b1 := o.b1
  rcases Int.lt_or_le x 1 with hx | hx
  · have := o.n0; omega
  refine Int.le_trans ?_ x1
  rcases o.hk with k | k | k
  · rw [So.me_root k]; exact pow_ge_self hx _ (by omega)
  · rw [So.me_share k]
    have : 1 * x ≤ s.by_ * x := Int.mul_le_mul_of_nonneg_right b1 (by omega)
    omega
  · rw [So.me_log k]
    have b2 := o.bl k
    have h2 : (2 : Int) ^ x.toNat ≤ s.by_ ^ x.toNat := pow_mono (by decide) b2 _
    have h3 : ((x.toNat : Nat) : Int) < 2 ^ x.toNat := by
      have := Nat.lt_two_pow_self (n := x.toNat)
      have e : ((2 ^ x.toNat : Nat) : Int) = 2 ^ x.toNat := by rw [Int.natCast_pow]; rfl
      omega
    omega
theorem So.Ans.log {s : So} (o : s.Ok) {x : Int} (h : s.Ans x) (k : s.kind = "log") : x < 700 := by
  obtain ⟨x0, x1, x2⟩ := h
  rw [So.me_log k] at x1
  have hnb : s.n < 2 ^ 700 := by
    have : s.n.natAbs < 2 ^ 700 := o.ns
    have e : ((2 ^ 700 : Nat) : Int) = 2 ^ 700 := by rw [Int.natCast_pow]; rfl
    omega
  have h2 : (2 : Int) ^ x.toNat ≤ s.by_ ^ x.toNat := pow_mono (by decide) (o.bl k) _
  have := two_le_inv (a := x.toNat) (b := 700) (by omega)
  omega
theorem So.Ans.in {s : So} (o : s.Ok) {x : Int} (h : s.Ans x) : s.In x := ⟨h.1, (Sz.of_le h.1 (h.le o) o.ns).mono (by decide), fun k => by have := h.log o k; omega⟩
def sp_Sought_is_hit (K : PySem.W.Frag) : Sp := fun vs H Q _ => ∃ (p : Addr) (s : So), vs = [.ref p] ∧ IsSo K H p s ∧ s.Ok ∧ ∀ (x : Int) H', s.Ans x → Ext H H' → Q (.bl (decide (s.side x = 0))) H'
def rd_Sought_is_hit (K : PySem.W.Frag) : TS := tRet (tOp rEq (tMeth (He.ga K "Sought") "compare" (sp_Sought_compare K) [] E0 (tVar 0) (tCons (tMeth (He.ga K "Sought") "answer" (sp_Sought_answer K) [] E0 (tVar 0) tNil) (tNil))) (tC (.int 0)))
theorem dec_int (i j : Int) : decide (V.int i = V.int j) = decide (i = j) := decide_eq_decide.mpr ⟨fun z => by injection z, fun z => by rw [z]⟩
theorem pure_Sought_is_hit (K : PySem.W.Frag) (vs : List V) (H : Hp) (Q : VK) (E : XK) (h : sp_Sought_is_hit K vs H Q E) : rd_Sought_is_hit K { nx := fun _ H' => Q .non H', rt := Q } (start ["self"] vs) H := by
  obtain ⟨p, s, rfl, hp, o, q⟩ := h
  obtain ⟨dx, hp'⟩ := id hp
  unfold rd_Sought_is_hit
  walk_at "rd"
  refine ⟨p, dx, _, rfl, hp', rfl, ?_⟩
  walk_at "rd"
  refine ⟨p, dx, _, rfl, hp', rfl, ?_⟩
  walk_at "rd"
  refine ⟨p, s, rfl, hp, o, fun x H' hx e => ?_⟩
  walk_at "rd"
  refine ⟨p, s, x, rfl, hp.ext e, o, hx.in o, ?_⟩
  walk_at "rd"
  rw [dec_int]
  exact q x H' hx e
end FWL
namespace FWL
open PySem PySem.Spec PyProof.Rows L2 FW
/-! ### the law's sought things -/
theorem sgn_sub (a b : Int) : ((if a > b then 1 else 0) - (if a < b then 1 else 0) : Int) = sgn (a - b) := by
  unfold sgn
  by_cases h1 : a > b
  · rw [if_pos h1, if_neg (by omega), if_pos (by omega), if_neg (by omega)]
  · by_cases h2 : a < b
    · rw [if_neg h1, if_pos h2, if_neg (by omega), if_pos (by omega)]
    · rw [if_neg h1, if_neg h2, if_neg (by omega), if_neg (by omega)]
def sp_l_side (K : PySem.W.Frag) : Sp := fun vs H Q _ => ∃ (t : Addr) (s : So) (x : Int), vs = [.ref t, .int x] ∧ H t = some (.tup s.V) ∧ s.Ok ∧ s.In x ∧ Q (.int (s.side x)) H
def rd_l_side (K : PySem.W.Frag) : TS := tSeq (tAsg (tVar 0) (gTup K 3 (gCons (gName 2) (gCons (gName 3) (gCons (gName 4) (gNil)))))) (tSeq (tAsg (tCall (sp_l_power K) [] E0 (tCons (tVar 1) (tCons (tVar 3) (tNil)))) (gName 5)) (tSeq (tIfS (tTest (tOp rEq (tVar 2) (tC (.str "share")))) (tAsg (tOp FW.rMul (tVar 3) (tVar 1)) (gName 5)) (tNext)) (tSeq (tIfS (tTest (tOp rEq (tVar 2) (tC (.str "log")))) (tAsg (tCall (sp_l_power K) [] E0 (tCons (tVar 3) (tCons (tVar 1) (tNil)))) (gName 5)) (tNext)) (tRet (tOp FW.rSub (tCB FW.rInt1 (tCons (tOp FW.rGt (tVar 5) (tVar 4)) (tNil))) (tCB FW.rInt1 (tCons (tOp FW.rLt (tVar 5) (tVar 4)) (tNil))))))))
theorem pure_l_side (K : PySem.W.Frag) (vs : List V) (H : Hp) (Q : VK) (E : XK) (h : sp_l_side K vs H Q E) : rd_l_side K { nx := fun _ H' => Q .non H', rt := Q } (start ["_law_sought_here", "_law_x", "_law_kind", "_law_by", "_law_n", "_law_measure"] vs) H := by
  obtain ⟨t, s, x, rfl, ht, o, ⟨x0, xs, xl⟩, q⟩ := h
  have b1 := o.b1; have b64 := o.b64
  have bs : Sz 10 s.by_ := by show s.by_.natAbs < 1024; omega
  have fin : ∀ m : Int, m = s.me x → (tRet (tOp FW.rSub (tCB FW.rInt1 (tCons (tOp FW.rGt (tVar 5) (tVar 4)) (tNil))) (tCB FW.rInt1 (tCons (tOp FW.rLt (tVar 5) (tVar 4)) (tNil))))) { nx := fun _ H' => Q .non H', rt := Q } [some (.ref t), some (.int x), some (.str s.kind), some (.int s.by_), some (.int s.n), some (.int m)] H := by
    rintro m rfl
    walk_at "rd"
    rw [ite_dec, ite_dec]
    have := sgn_sub (s.me x) s.n
    rw [this]
    exact q
  unfold rd_l_side
  walk_at "rd"
  refine g_tup (xs := [.str s.kind, .int s.by_, .int s.n]) ?_ (SqT.of ht) rfl
  walk_at "rd"
  refine ⟨x, s.by_, 710, rfl, by omega, xs, by decide, pow_roomS b64 (by decide), ?_⟩
  walk_at "rd"
  rcases o.hk with k | k | k
  · refine e_ite (fun h => absurd h (by rw [k]; decide)) (fun _ => ?_)
    walk_at "rd"
    refine e_ite (fun h => absurd h (by rw [k]; decide)) (fun _ => ?_)
    with_reducible refine s_next ?_
    exact fin _ (So.me_root k x).symm
  · refine e_ite (fun _ => ?_) (fun h => absurd (by rw [k]) h)
    walk_at "rd"
    · refine e_ite (fun h => absurd h (by rw [k]; decide)) (fun _ => ?_)
      with_reducible refine s_next ?_
      exact fin _ (So.me_share k x).symm
    · exact wide_mul bs xs (by decide) (by decide) (by decide)
  · refine e_ite (fun h => absurd h (by rw [k]; decide)) (fun _ => ?_)
    walk_at "rd"
    refine e_ite (fun _ => ?_) (fun h => absurd (by rw [k]) h)
    have xl' := xl k
    walk_at "rd"
    refine ⟨s.by_, x, 10, rfl, by omega, bs, by decide, by omega, ?_⟩
    exact fin _ (So.me_log k x).symm
/-- what the law draws -/
def So.Dr (s : So) : Prop := s.Ok ∧ (s.kind ≠ "log" → s.n < 2 ^ 139) ∧ (s.kind = "log" → s.n < s.by_ ^ 150)
def So.Dt (s : So) : Prop := s.Ok ∧ (s.kind ≠ "log" → s.n < s.me (2 ^ 140))
theorem So.Dr.dt {s : So} (h : s.Dr) : s.Dt := by
  obtain ⟨o, nb, _⟩ := h
  refine ⟨o, fun z => ?_⟩
  have b1 := o.b1
  have := nb z
  have b9 : (2 : Int) ^ 139 < 2 ^ 140 := by decide
  rcases o.hk with k | k | k
  · rw [So.me_root k]
    have := pow_ge_self (x := 2 ^ 140) (by decide) s.by_.toNat (by omega)
    omega
  · rw [So.me_share k]
    have : 1 * (2 : Int) ^ 140 ≤ s.by_ * 2 ^ 140 := Int.mul_le_mul_of_nonneg_right b1 (by decide)
    omega
  · exact absurd k z
def sp_l_answer (K : PySem.W.Frag) : Sp := fun vs H Q _ => ∃ (t : Addr) (s : So), vs = [.ref t] ∧ H t = some (.tup s.V) ∧ s.Dt ∧ ∀ x, s.Ans x → Q (.int x) H
def rd_l_answer_L1 (K : PySem.W.Frag) : TS := tSeq (tIfS (tOr (tTest (tOp rNe (tOp (rIxT K) (tVar 0) (tC (.int 0))) (tC (.str "log")))) (tTest (tOp FW.rLe (tOp FW.rAdd (tVar 1) (tVar 2)) (tC (.int 1000))))) (tIfS (tTest (tOp FW.rLe (tCall (sp_l_side K) [] E0 (tCons (tVar 0) (tCons (tOp FW.rAdd (tVar 1) (tVar 2)) (tNil)))) (tC (.int 0)))) (tAsg (tOp FW.rAdd (tVar 1) (tVar 2)) (gName 1)) (tNext)) (tNext)) (tAsg (tOp FW.rDiv (tVar 2) (tC (.int 2))) (gName 2))
def rd_l_answer (K : PySem.W.Frag) : TS := tSeq (tPar 1 2 (tCons (tC (.int 0)) (tCons (tCall (sp_l_power K) [] E0 (tCons (tC (.int 2)) (tCons (tC (.int 139)) (tNil)))) (tNil)))) (tSeq (tWhile (tTest (tOp FW.rGt (tVar 2) (tC (.int 0)))) (rd_l_answer_L1 K)) (tRet (tVar 1)))
theorem sgn_le {a : Int} : sgn a ≤ 0 ↔ a ≤ 0 := by
  unfold sgn
  by_cases h1 : a > 0
  · rw [if_pos h1, if_neg (by omega)]; omega
  · rw [if_neg h1]
    constructor
    · intro _; omega
    · intro _; split <;> omega
theorem pure_l_answer (K : PySem.W.Frag) (vs : List V) (H : Hp) (Q : VK) (E : XK) (h : sp_l_answer K vs H Q E) : rd_l_answer K { nx := fun _ H' => Q .non H', rt := Q } (start ["_law_sought_here", "_law_found", "_law_more"] vs) H := by
  obtain ⟨t, s, rfl, ht, ⟨o, nb⟩, q⟩ := h
  have b1 := o.b1; have n0 := o.n0
  -- below the bound: what the law may take
  have p0 : s.me 0 ≤ s.n := by
    rcases o.hk with k | k | k
    · rw [So.me_root k, Int.zero_pow (by omega)]; exact n0
    · rw [So.me_share k, Int.mul_zero]; exact n0
    · rw [So.me_log k]; show s.by_ ^ 0 ≤ _; rw [Int.pow_zero]; exact o.nl k
  have pTop : ¬ ((s.kind ≠ "log" ∨ (2 ^ 140 : Int) ≤ 1000) ∧ s.me (2 ^ 140) ≤ s.n) := by
    rintro ⟨h1, h2⟩
    rcases o.hk with k | k | k
    · have := nb (by rw [k]; decide)
      omega
    · have := nb (by rw [k]; decide)
      omega
    · rcases h1 with h1 | h1
      · exact h1 k
      · exact absurd h1 (by decide)
  unfold rd_l_answer
  walk_at "rd"
  refine ⟨2, 139, 10, rfl, by decide, by decide, by decide, by decide, ?_⟩
  walk_at "rd"
  rw [show ((139 : Int).toNat) = 139 from rfl]
  refine s_while (fun m σ H' => H' = H ∧ ∃ f : Int, 0 ≤ f ∧ f + 2 ^ m ≤ 2 ^ 140 ∧ (s.kind ≠ "log" ∨ f ≤ 1000) ∧ s.me f ≤ s.n ∧ ¬ ((s.kind ≠ "log" ∨ f + 2 ^ m ≤ 1000) ∧ s.me (f + 2 ^ m) ≤ s.n) ∧ σ = [some (.ref t), some (.int f), some (.int (2 ^ m / 2))]) 140 ⟨rfl, 0, by decide, by decide, .inr (by decide), p0, by rw [Int.zero_add]; exact pTop, by rw [show (2 : Int) ^ 140 / 2 = 2 ^ 139 by decide]; rfl⟩ ?_
  rintro m σ H' ⟨rfl, f, f0, fm, fk, hf, hn, rfl⟩
  walk_at "rd"
  refine e_ite (fun hgo => ?_) (fun hno => ?_)
  · obtain ⟨m, rfl⟩ : ∃ m', m = m' + 1 := by
      cases m with
      | zero => rw [Int.pow_zero] at hgo; exact absurd hgo (by decide)
      | succ m => exact ⟨m, rfl⟩
    have e2 : (2 : Int) ^ (m + 1) = 2 ^ m * 2 := Int.pow_succ ..
    have e3 : (2 : Int) ^ (m + 1) / 2 = 2 ^ m := by rw [e2]; omega
    have hp := two_pow_pos m
    rw [e3]
    refine ⟨fun σ' H'' => H'' = H' ∧ ∃ f : Int, 0 ≤ f ∧ f + 2 ^ m ≤ 2 ^ 140 ∧ (s.kind ≠ "log" ∨ f ≤ 1000) ∧ s.me f ≤ s.n ∧ ¬ ((s.kind ≠ "log" ∨ f + 2 ^ m ≤ 1000) ∧ s.me (f + 2 ^ m) ≤ s.n) ∧ σ' = [some (.ref t), some (.int f), some (.int (2 ^ m / 2))], fun σ' H'' h => ⟨m, by omega, h⟩, ?_⟩
    have hstep : ∀ g : Int, 0 ≤ g → g + 2 ^ m ≤ 2 ^ 140 → (s.kind ≠ "log" ∨ g ≤ 1000) → s.me g ≤ s.n → ¬ ((s.kind ≠ "log" ∨ g + 2 ^ m ≤ 1000) ∧ s.me (g + 2 ^ m) ≤ s.n) →
        (tAsg (tOp FW.rDiv (tVar 2) (tC (.int 2))) (gName 2)) { nx := fun σ' H'' => H'' = H' ∧ ∃ f : Int, 0 ≤ f ∧ f + 2 ^ m ≤ 2 ^ 140 ∧ (s.kind ≠ "log" ∨ f ≤ 1000) ∧ s.me f ≤ s.n ∧ ¬ ((s.kind ≠ "log" ∨ f + 2 ^ m ≤ 1000) ∧ s.me (f + 2 ^ m) ≤ s.n) ∧ σ' = [some (.ref t), some (.int f), some (.int (2 ^ m / 2))], ct := fun σ' H'' => H'' = H' ∧ ∃ f : Int, 0 ≤ f ∧ f + 2 ^ m ≤ 2 ^ 140 ∧ (s.kind ≠ "log" ∨ f ≤ 1000) ∧ s.me f ≤ s.n ∧ ¬ ((s.kind ≠ "log" ∨ f + 2 ^ m ≤ 1000) ∧ s.me (f + 2 ^ m) ≤ s.n) ∧ σ' = [some (.ref t), some (.int f), some (.int (2 ^ m / 2))], bk := fun σ' H' => tRet (tVar 1) { nx := fun _ H' => Q .non H', rt := Q } σ' H', rt := Q } [some (.ref t), some (.int g), some (.int (2 ^ m))] H' := by
      intro g g0 gm gk hg hgn
      walk_at "rd"
      · exact ⟨rfl, g, g0, gm, gk, hg, hgn, rfl⟩
      · exact ⟨by decide, by decide⟩
    unfold rd_l_answer_L1
    walk_at "rd"
    refine e_ixT ?_ (SqT.of ht) rfl
    walk_at "rd"
    have dk : decide (V.str s.kind = V.str "log") = decide (s.kind = "log") := decide_eq_decide.mpr ⟨fun z => by injection z, fun z => by rw [z]⟩
    rw [dk]
    have test : (s.kind ≠ "log" ∨ f + 2 ^ m ≤ 1000) → (tIfS (tTest (tOp FW.rLe (tCall (sp_l_side K) [] E0 (tCons (tVar 0) (tCons (tOp FW.rAdd (tVar 1) (tVar 2)) (tNil)))) (tC (.int 0)))) (tAsg (tOp FW.rAdd (tVar 1) (tVar 2)) (gName 1)) (tNext)) { nx := (tAsg (tOp FW.rDiv (tVar 2) (tC (.int 2))) (gName 2)) { nx := fun σ' H'' => H'' = H' ∧ ∃ f : Int, 0 ≤ f ∧ f + 2 ^ m ≤ 2 ^ 140 ∧ (s.kind ≠ "log" ∨ f ≤ 1000) ∧ s.me f ≤ s.n ∧ ¬ ((s.kind ≠ "log" ∨ f + 2 ^ m ≤ 1000) ∧ s.me (f + 2 ^ m) ≤ s.n) ∧ σ' = [some (.ref t), some (.int f), some (.int (2 ^ m / 2))], ct := fun σ' H'' => H'' = H' ∧ ∃ f : Int, 0 ≤ f ∧ f + 2 ^ m ≤ 2 ^ 140 ∧ (s.kind ≠ "log" ∨ f ≤ 1000) ∧ s.me f ≤ s.n ∧ ¬ ((s.kind ≠ "log" ∨ f + 2 ^ m ≤ 1000) ∧ s.me (f + 2 ^ m) ≤ s.n) ∧ σ' = [some (.ref t), some (.int f), some (.int (2 ^ m / 2))], bk := fun σ' H' => tRet (tVar 1) { nx := fun _ H' => Q .non H', rt := Q } σ' H', rt := Q }, ct := fun σ' H'' => H'' = H' ∧ ∃ f : Int, 0 ≤ f ∧ f + 2 ^ m ≤ 2 ^ 140 ∧ (s.kind ≠ "log" ∨ f ≤ 1000) ∧ s.me f ≤ s.n ∧ ¬ ((s.kind ≠ "log" ∨ f + 2 ^ m ≤ 1000) ∧ s.me (f + 2 ^ m) ≤ s.n) ∧ σ' = [some (.ref t), some (.int f), some (.int (2 ^ m / 2))], bk := fun σ' H' => tRet (tVar 1) { nx := fun _ H' => Q .non H', rt := Q } σ' H', rt := Q } [some (.ref t), some (.int f), some (.int (2 ^ m))] H' := by
      intro hk
      have hsz : Sz 710 (f + 2 ^ m) := by
        refine Sz.mono (a := 141) ?_ (by decide)
        show (f + 2 ^ m).natAbs < 2 ^ 141
        have : ((2 ^ 141 : Nat) : Int) = 2 ^ 140 * 2 := by decide
        omega
      walk_at "rd"
      refine ⟨t, s, f + 2 ^ m, rfl, ht, o, ⟨by omega, hsz, fun k => ?_⟩, ?_⟩
      · rcases hk with hk | hk
        · exact absurd k hk
        · omega
      walk_at "rd"
      refine e_ite (fun hle => ?_) (fun hgt => ?_)
      · have hme : s.me (f + 2 ^ m) ≤ s.n := by
          have := sgn_le.mp hle
          omega
        with_reducible refine s_asg ?_
        walk_at "re"
        refine hstep (f + 2 ^ m) (by omega) (by omega) hk hme ?_
        rw [show f + 2 ^ m + 2 ^ m = f + 2 ^ (m + 1) by omega]; exact hn
      · have hme : ¬ s.me (f + 2 ^ m) ≤ s.n := fun h => hgt (sgn_le.mpr (by omega))
        with_reducible refine s_next ?_
        exact hstep f f0 (by omega) fk hf (fun h => hme h.2)
    refine e_iteN (fun hne => ?_) (fun heq => ?_)
    · walk_at "re"
      exact test (.inl hne)
    · walk_at "re"
      refine e_ite (fun hle => ?_) (fun hgt => ?_)
      · exact test (.inr hle)
      · with_reducible refine s_next ?_
        exact hstep f f0 (by omega) fk hf (fun h => h.1.elim (fun z => z heq) (fun z => hgt z))
  · cases m with
    | succ m =>
      have e2 : (2 : Int) ^ (m + 1) = 2 ^ m * 2 := Int.pow_succ ..
      have := two_pow_pos m
      omega
    | zero =>
      walk_at "rd"
      rw [Int.pow_zero] at hn
      refine q f ⟨f0, hf, ?_⟩
      rcases Int.lt_or_le s.n (s.me (f + 1)) with h | h
      · exact h
      · exfalso
        refine hn ⟨?_, h⟩
        by_cases k : s.kind = "log"
        · right
          rw [So.me_log k] at h
          have hnb : s.n < 2 ^ 700 := by
            have : s.n.natAbs < 2 ^ 700 := o.ns
            have e : ((2 ^ 700 : Nat) : Int) = 2 ^ 700 := by rw [Int.natCast_pow]; rfl
            omega
          have h2 : (2 : Int) ^ (f + 1).toNat ≤ s.by_ ^ (f + 1).toNat := pow_mono (by decide) (o.bl k) _
          have := two_le_inv (a := (f + 1).toNat) (b := 700) (by omega)
          omega
        · exact .inl k
end FWL
namespace FW
open PySem PySem.Spec PyProof.Rows L2
/-! ### one of two readings -/
section
variable {X : Cx}
theorem pc_either {op : CmpOp} {a b : Expr} {t u : TE} (h1 : PC X op a b t) (h2 : PC X op a b u) : PC X op a b (tEither t u) := ⟨fun pins s σ H Q I h => h.elim (fun h => h1.run pins s σ H Q I h) fun h => h2.run pins s σ H Q I h⟩
def sEither (t u : TS) : TS := fun D σ H => t D σ H ∨ u D σ H
theorem ps_either {st : Stmt} {t u : TS} (h1 : PS X st t) (h2 : PS X st u) : PS X st (sEither t u) := ⟨fun pins s σ H D I h => h.elim (fun h => h1.run pins s σ H D I h) fun h => h2.run pins s σ H D I h⟩
end
abbrev rIntS : List V → Hp → VK → Prop := fun xs H Q => ∃ a n, xs = [.str a] ∧ PySem.intText? a = some n ∧ a.length ≤ 640 ∧ Q (.int n) H
end FW
namespace FWL
open PySem PySem.Spec PyProof.Rows L2 FW
/-! ### the law's own loop: parts as a list -/
def sp_l_led_to (K : PySem.W.Frag) : Sp := fun vs H Q _ => ∃ (t : Addr) (l : Lp) (n x : Int), vs = [.ref t, .int n, .int x] ∧ SqL K H t l.V ∧ l.Ok ∧ 1 ≤ x ∧ 0 ≤ n ∧ n.natAbs < 2 ^ 2000 ∧ x.natAbs < 2 ^ 2000 ∧ ∀ H', Ext H H' → Q (.int (l.led n x)) H'
def rd_l_led_to (K : PySem.W.Frag) : TS := tSeq (tAsg (tSl (rSlL K) (tVar 0) (tNoPart) (tPart (tC (.int 4)))) (gLst K 4 (gCons (gName 3) (gCons (gName 4) (gCons (gName 5) (gCons (gName 6) (gNil))))))) (tRet (tOp FW.rDiv (tOp FW.rAdd (tOp FW.rAdd (tOp FW.rMul (tVar 4) (tVar 2)) (tOp FW.rMul (tVar 5) (tOp FW.rDiv (tVar 1) (tCall (sp_l_power K) [] E0 (tCons (tVar 2) (tCons (tOp FW.rSub (tVar 3) (tC (.int 1))) (tNil))))))) (tVar 6)) (tOp FW.rAdd (tVar 4) (tVar 5))))
theorem g_lst {K : PySem.W.Frag} {gs : TGs} {R : L2.St → Hp → Prop} {σ : L2.St} {H : Hp} {a : Addr} {xs : List V} {n : Nat} (k : gs xs σ H R) (h : SqL K H a xs) (hl : xs.length = n) : gLst K n gs (.ref a) σ H R := ⟨a, xs, rfl, h, hl, k⟩
theorem pure_l_led_to (K : PySem.W.Frag) (vs : List V) (H : Hp) (Q : VK) (E : XK) (h : sp_l_led_to K vs H Q E) : rd_l_led_to K { nx := fun _ H' => Q .non H', rt := Q } (start ["_law_parts", "_law_n", "_law_x", "_law_k", "_law_a", "_law_c", "_law_d"] vs) H := by
  obtain ⟨t, l, n, x, rfl, ht, o, hx, hn, hnb, hxb, q⟩ := h
  have hk := o.hk; have a1 := o.a1; have a5 := o.a5; have c1 := o.c1; have c3 := o.c3
  have hpw := pow_lt hxb (by decide) (l.k - 1).toNat
  have hpp := pow_pos' hx (l.k - 1).toNat
  have hq : (n / x ^ (l.k - 1).toNat).natAbs < 2 ^ 2000 := Nat.lt_of_le_of_lt (ediv_abs hn hpp) hnb
  unfold rd_l_led_to
  walk_at "rd"
  refine e_sl ?_
  walk_at "rd"
  refine e_noP ?_
  refine e_part ?_
  walk_at "rd"
  refine e_part' (e_slL (fun p hp => ?_) ht)
  have ec : cutV l.V none (some 4) = [.int l.k, .int l.a, .int l.c, .int l.d] := rfl
  rw [ec]
  refine g_lst ?_ (SqL.of upd_same) rfl
  have eP := Ext.new (o := .lst [.int l.k, .int l.a, .int l.c, .int l.d]) hp
  walk_at "rd"
  · refine ⟨x, l.k - 1, 2000, rfl, by omega, hxb, by decide, ?_, ?_⟩
    · have : (l.k - 1).toNat + 1 ≤ 4 := by omega
      have := Nat.mul_le_mul_right 2000 this
      omega
    walk_at "rd"
    · exact q _ eP
    · refine wide_div (b := 10) (by omega) ?_ (by decide) (by decide)
      show (l.a + l.c).natAbs < 1024
      omega
    · exact wide_mul (a := 10) (b := 2000) (by show l.c.natAbs < 1024; omega) hq (by decide) (by decide) (by decide)
    · refine wide_div (b := (l.k - 1).toNat * 2000 + 1) (by omega) hpw (by omega) ?_
      have : (l.k - 1).toNat ≤ 3 := by omega
      have := Nat.mul_le_mul_right 2000 this
      omega
  · exact wide_mul (a := 10) (b := 2000) (by show l.a.natAbs < 1024; omega) hxb (by decide) (by decide) (by decide)
def sp_l_looks2 (K : PySem.W.Frag) : Sp := fun vs H Q _ => ∃ (t : Addr) (l : Lp) (n x : Int), vs = [.ref t, .int n, .int x] ∧ SqL K H t l.V ∧ l.Ok ∧ 0 ≤ x ∧ Sz 2000 x ∧ ∀ H', Ext H H' → Q (.bl (l.looks n x)) H'
def rd_l_looks2 (K : PySem.W.Frag) : TS := tSeq (tPar 3 4 (tCons (tOp (rIxL K) (tVar 0) (tC (.int 0))) (tCons (tOp (rIxL K) (tVar 0) (tC (.int 4))) (tNil)))) (tSeq (tIfS (tOr (tTest (tOp (rIn K true) (tVar 4) (tLst (tCons (tC (.str "under")) (tCons (tC (.str "held")) (tNil)))))) (tTest (tOp FW.rGt (tCall (sp_l_power K) [] E0 (tCons (tVar 2) (tCons (tVar 3) (tNil)))) (tVar 1)))) (tRet (tC (.bl false))) (tNext)) (tRet (tOrV (tOp rEq (tVar 4) (tC (.str "under"))) (tOp FW.rGt (tCall (sp_l_power K) [] E0 (tCons (tOp FW.rAdd (tVar 2) (tC (.int 1))) (tCons (tVar 3) (tNil)))) (tVar 1)))))
theorem looks_by (l : Lp) (n x : Int) : l.looks n x = (decide (l.stop = "under" ∨ l.stop = "held") && (decide (x ^ l.k.toNat ≤ n) && (decide (l.stop = "under") || decide (n < (x + 1) ^ l.k.toNat)))) := by
  unfold Lp.looks
  by_cases h : l.stop = "under"
  · rw [if_pos h, decide_eq_true h, decide_eq_true (Or.inl h)]; simp
  · rw [if_neg h, decide_eq_false h, show decide (l.stop = "under" ∨ l.stop = "held") = decide (l.stop = "held") from decide_eq_decide.mpr ⟨fun z => z.resolve_left h, .inr⟩]; simp
theorem pure_l_looks2 (K : PySem.W.Frag) (vs : List V) (H : Hp) (Q : VK) (E : XK) (h : sp_l_looks2 K vs H Q E) : rd_l_looks2 K { nx := fun _ H' => Q .non H', rt := Q } (start ["_law_parts", "_law_n", "_law_x", "_law_k", "_law_stop"] vs) H := by
  obtain ⟨t, l, n, x, rfl, ht, o, x0, xs, q⟩ := h
  rw [looks_by] at q
  unfold rd_l_looks2
  walk_at "rd"
  refine e_ixL ?_ ht rfl
  walk_at "rd"
  refine e_ixL ?_ ht rfl
  walk_at "rd"
  refine ⟨by show 2 ≤ sizeLine; decide, fun p hp => ?_⟩
  have e1 := Ext.new (o := .lst [V.str "under", V.str "held"]) hp
  refine e_in ?_ (.inl (SqL.of upd_same)) rfl rfl
  generalize upd H p (.lst [V.str "under", V.str "held"]) = H1 at *
  rw [if_pos rfl, inV2]
  walk_at "rd"
  by_cases h1 : l.stop = "under" ∨ l.stop = "held"
  · rw [decide_eq_true h1] at q ⊢
    walk_at "rd"
    refine pw_ok o (xs.mono (by decide)) ?_
    walk_at "rd"
    by_cases h2 : x ^ l.k.toNat ≤ n
    · rw [decide_eq_true h2] at q
      rw [decide_eq_false (by omega)]
      walk_at "rd"
      rw [decS]
      by_cases h3 : l.stop = "under"
      · rw [decide_eq_true h3] at q ⊢
        walk_at "rd"
        exact q H1 e1
      · rw [decide_eq_false h3] at q ⊢
        walk_at "rd"
        refine pw_ok o (Sz.mono (xs.inc x0) (by decide)) ?_
        walk_at "rd"
        exact q H1 e1
    · rw [decide_eq_false h2] at q
      rw [decide_eq_true (by omega)]
      walk_at "rd"
      exact q H1 e1
  · rw [decide_eq_false h1] at q ⊢
    walk_at "rd"
    exact q H1 e1
def sp_l_ends2 (K : PySem.W.Frag) : Sp := fun vs H Q _ => ∃ (t : Addr) (l : Lp) (x y : Int) (b : Option Int), vs = [.ref t, .int x, .int y, nkV b] ∧ SqL K H t l.V ∧ l.Ok ∧ ∀ H', Ext H H' → Q (.bl (l.ends x y b)) H'
def rd_l_ends2 (K : PySem.W.Frag) : TS := tSeq (tAsg (tOp (rIxL K) (tVar 0) (tC (.int 4))) (gName 4)) (tSeq (tIfS (tTest (tOp rEq (tVar 4) (tC (.str "notless")))) (tRet (tOp FW.rGe (tVar 2) (tVar 1))) (tNext)) (tSeq (tIfS (tTest (tOp (rIn K false) (tVar 4) (tLst (tCons (tC (.str "near1")) (tCons (tC (.str "near2")) (tNil)))))) (tRet (tOp FW.rLe (tCB FW.rAbs (tCons (tOp FW.rSub (tVar 1) (tVar 2)) (tNil))) (tCB FW.rIntS (tCons (tOp rIxS (tVar 4) (tUn FW.rNeg (tC (.int 1)))) (tNil))))) (tNext)) (tRet (tOrV (tAndV (tOp (rIn K false) (tVar 4) (tLst (tCons (tC (.str "equal")) (tCons (tC (.str "back")) (tNil))))) (tOp rEq (tVar 1) (tVar 2))) (tAndV (tOp rEq (tVar 4) (tC (.str "back"))) (tOp rEq (tVar 2) (tVar 3)))))))
theorem pure_l_ends2 (K : PySem.W.Frag) (vs : List V) (H : Hp) (Q : VK) (E : XK) (h : sp_l_ends2 K vs H Q E) : rd_l_ends2 K { nx := fun _ H' => Q .non H', rt := Q } (start ["_law_parts", "_law_x", "_law_y", "_law_before", "_law_stop"] vs) H := by
  obtain ⟨t, l, x, y, b, rfl, ht, o, q⟩ := h
  unfold Lp.ends at q
  unfold rd_l_ends2
  walk_at "rd"
  refine e_ixL ?_ ht rfl
  walk_at "rd"
  rw [decS]
  refine e_ite (fun h1 => ?_) (fun h1 => ?_)
  · simp only [if_pos h1] at q
    walk_at "rd"
    exact q H Ext.rfl'
  simp only [if_neg h1] at q
  walk_at "rd"
  refine ⟨by show 2 ≤ sizeLine; decide, fun p hp => ?_⟩
  have e1 := Ext.new (o := .lst [V.str "near1", V.str "near2"]) hp
  refine e_in ?_ (.inl (SqL.of upd_same)) rfl rfl
  generalize upd H p (.lst [V.str "near1", V.str "near2"]) = H1 at *
  rw [if_neg (by decide), inV2]
  walk_at "rd"
  refine e_ite (fun h2 => ?_) (fun h2 => ?_)
  · simp only [if_pos h2] at q
    walk_at "rd"
    have last : ∃ c z, atI l.stop.cps.toList (-1) = some c ∧ l.stop.length ≤ sizeLine ∧ PySem.intText? ⟨#[c]⟩ = some z ∧ z = l.near := by
      unfold Lp.near
      rcases h2 with h | h <;> rw [h]
      · exact ⟨49, 1, by decide, by decide, by decide +kernel, by decide⟩
      · exact ⟨50, 2, by decide, by decide, by decide +kernel, by decide⟩
    obtain ⟨c, z, l1, l2, l3, rfl⟩ := last
    refine ⟨l.stop, _, c, rfl, rfl, l2, l1, ?_⟩
    walk_at "rd"
    refine ⟨_, _, rfl, l3, by show 1 ≤ 640; decide, ?_⟩
    walk_at "rd"
    exact q H1 e1
  simp only [if_neg h2] at q
  walk_at "rd"
  refine ⟨by show 2 ≤ sizeLine; decide, fun p2 hp2 => ?_⟩
  have e2 := Ext.new (o := .lst [V.str "equal", V.str "back"]) hp2
  refine e_in ?_ (.inl (SqL.of upd_same)) rfl rfl
  generalize upd H1 p2 (.lst [V.str "equal", V.str "back"]) = H2 at *
  have e12 := e1.tr e2
  rw [if_neg (by decide), inV2]
  have eb : decide (V.int y = nkV b) = decide (some y = b) := by
    cases b with
    | none => rfl
    | some z =>
      show decide (V.int y = V.int z) = _
      exact decide_eq_decide.mpr ⟨fun h => by cases h; rfl, fun h => by cases h; rfl⟩
  have ex : decide (V.int x = V.int y) = decide (y = x) := decide_eq_decide.mpr ⟨fun h => by cases h; rfl, fun h => by cases h; rfl⟩
  by_cases h3 : l.stop = "equal" ∨ l.stop = "back"
  · rw [decide_eq_true h3] at q ⊢
    walk_at "rd"
    rw [ex]
    by_cases h4 : y = x
    · rw [decide_eq_true h4] at q ⊢
      walk_at "rd"
      exact q H2 e12
    · rw [decide_eq_false h4] at q ⊢
      walk_at "rd"
      rw [decS]
      by_cases h5 : l.stop = "back"
      · rw [decide_eq_true h5] at q ⊢
        walk_at "rd"
        refine e_eq ?_ (by cases b <;> rfl)
        rw [eb]
        exact q H2 e12
      · rw [decide_eq_false h5] at q ⊢
        walk_at "rd"
        exact q H2 e12
  · rw [decide_eq_false h3] at q ⊢
    walk_at "rd"
    rw [decS, decide_eq_false (fun z => h3 (.inr z))]
    walk_at "rd"
    exact q H2 e12
def sp_l_mended2 (K : PySem.W.Frag) : Sp := fun vs H Q _ => ∃ (t : Addr) (l : Lp) (n x : Int), vs = [.ref t, .int n, .int x] ∧ SqL K H t l.V ∧ l.Ok ∧ 0 ≤ x ∧ Sz 2000 x ∧ ∀ H', Ext H H' → Q (.int (l.mended n x)) H'
def rd_l_mended2 (K : PySem.W.Frag) : TS := tSeq (tPar 3 4 (tCons (tOp (rIxL K) (tVar 0) (tC (.int 0))) (tCons (tOp (rIxL K) (tVar 0) (tC (.int 6))) (tNil)))) (tSeq (tIfS (tAnd (tTest (tOp (rIn K false) (tVar 4) (tLst (tCons (tC (.str "down")) (tCons (tC (.str "both")) (tNil)))))) (tTest (tOp FW.rGt (tCall (sp_l_power K) [] E0 (tCons (tVar 2) (tCons (tVar 3) (tNil)))) (tVar 1)))) (tRet (tOp FW.rSub (tVar 2) (tC (.int 1)))) (tNext)) (tRet (tOp FW.rAdd (tVar 2) (tCB FW.rInt1 (tCons (tAndV (tOp (rIn K false) (tVar 4) (tLst (tCons (tC (.str "up")) (tCons (tC (.str "both")) (tNil))))) (tOp FW.rLe (tCall (sp_l_power K) [] E0 (tCons (tOp FW.rAdd (tVar 2) (tC (.int 1))) (tCons (tVar 3) (tNil)))) (tVar 1))) (tNil))))))
theorem pure_l_mended2 (K : PySem.W.Frag) (vs : List V) (H : Hp) (Q : VK) (E : XK) (h : sp_l_mended2 K vs H Q E) : rd_l_mended2 K { nx := fun _ H' => Q .non H', rt := Q } (start ["_law_parts", "_law_n", "_law_t", "_law_k", "_law_mend"] vs) H := by
  obtain ⟨t, l, n, x, rfl, ht, o, x0, xs, q⟩ := h
  unfold Lp.mended at q
  unfold rd_l_mended2
  walk_at "rd"
  refine e_ixL ?_ ht rfl
  walk_at "rd"
  refine e_ixL ?_ ht rfl
  walk_at "rd"
  refine ⟨by show 2 ≤ sizeLine; decide, fun p hp => ?_⟩
  have e1 := Ext.new (o := .lst [V.str "down", V.str "both"]) hp
  refine e_in ?_ (.inl (SqL.of upd_same)) rfl rfl
  generalize upd H p (.lst [V.str "down", V.str "both"]) = H1 at *
  rw [if_neg (by decide), inV2]
  have second : ¬ ((l.mend = "down" ∨ l.mend = "both") ∧ n < x ^ l.k.toNat) → (tRet (tOp FW.rAdd (tVar 2) (tCB FW.rInt1 (tCons (tAndV (tOp (rIn K false) (tVar 4) (tLst (tCons (tC (.str "up")) (tCons (tC (.str "both")) (tNil))))) (tOp FW.rLe (tCall (sp_l_power K) [] E0 (tCons (tOp FW.rAdd (tVar 2) (tC (.int 1))) (tCons (tVar 3) (tNil)))) (tVar 1))) (tNil))))) { nx := fun _ H' => Q .non H', rt := Q } [some (.ref t), some (.int n), some (.int x), some (.int l.k), some (.str l.mend)] H1 := by
    intro hno
    simp only [if_neg hno] at q
    walk_at "rd"
    refine ⟨by show 2 ≤ sizeLine; decide, fun p2 hp2 => ?_⟩
    have e2 := Ext.new (o := .lst [V.str "up", V.str "both"]) hp2
    refine e_in ?_ (.inl (SqL.of upd_same)) rfl rfl
    generalize upd H1 p2 (.lst [V.str "up", V.str "both"]) = H2 at *
    rw [if_neg (by decide), inV2]
    by_cases h1 : l.mend = "up" ∨ l.mend = "both"
    · rw [decide_eq_true h1]
      walk_at "rd"
      refine pw_ok o (Sz.mono (xs.inc x0) (by decide)) ?_
      walk_at "rd"
      by_cases h2 : (x + 1) ^ l.k.toNat ≤ n
      · simp only [if_pos (And.intro h1 h2)] at q
        rw [decide_eq_true h2]
        exact q H2 (e1.tr e2)
      · simp only [if_neg (fun z : (l.mend = "up" ∨ l.mend = "both") ∧ (x + 1) ^ l.k.toNat ≤ n => h2 z.2)] at q
        rw [decide_eq_false h2]
        have : x + (if false = true then 1 else 0) = x := by simp
        rw [this]
        exact q H2 (e1.tr e2)
    · simp only [if_neg (fun z : (l.mend = "up" ∨ l.mend = "both") ∧ (x + 1) ^ l.k.toNat ≤ n => h1 z.1)] at q
      rw [decide_eq_false h1]
      walk_at "rd"
      have : x + (if false = true then 1 else 0) = x := by simp
      rw [this]
      exact q H2 (e1.tr e2)
  walk_at "re"
  refine e_ite (fun h1 => ?_) (fun h1 => ?_)
  · walk_at "re"
    refine pw_ok o (xs.mono (by decide)) ?_
    walk_at "re"
    refine e_ite (fun h2 => ?_) (fun h2 => ?_)
    · simp only [if_pos (And.intro h1 h2)] at q
      walk_at "rd"
      exact q H1 e1
    · with_reducible refine s_next ?_
      exact second (fun z => h2 z.2)
  · walk_at "re"
    with_reducible refine s_next ?_
    exact second (fun z => h1 z.1)
def sp_l_chosen2 (K : PySem.W.Frag) : Sp := fun vs H Q _ => ∃ (t : Addr) (l : Lp) (x y : Int), vs = [.ref t, .int x, .int y] ∧ SqL K H t l.V ∧ l.Ok ∧ ∀ H', Ext H H' → Q (.int (l.chosen x y)) H'
def rd_l_chosen2 (K : PySem.W.Frag) : TS := tRet (tDGet (tDisp [(tC (.str "old"), tVar 1), (tC (.str "new"), tVar 2), (tC (.str "less"), tCB (rMin K) (tCons (tLst (tCons (tVar 1) (tCons (tVar 2) (tNil)))) (tNil))), (tC (.str "more"), tCB (rMax K) (tCons (tLst (tCons (tVar 1) (tCons (tVar 2) (tNil)))) (tNil)))]) (tOp (rIxL K) (tVar 0) (tC (.int 5))))
theorem min_of {x y m : Int} (h : m ∈ [x, y]) (h' : ∀ c ∈ [x, y], m ≤ c) : m = min x y := by
  simp at h h'; omega
theorem max_of {x y m : Int} (h : m ∈ [x, y]) (h' : ∀ c ∈ [x, y], c ≤ m) : m = max x y := by
  simp at h h'; omega
def toldsM (x y : Int) : List (L2.Key × V) := [(.inr "old", .int x), (.inr "new", .int y), (.inr "less", .int (min x y)), (.inr "more", .int (max x y))]
theorem told_valM {s : Str} (h : V.str s ∈ toldsV) (x y : Int) : valV (toldsM x y) (.inr s) = some (.int (if s = "old" then x else if s = "new" then y else if s = "less" then min x y else max x y)) := by
  simp only [toldsV, List.mem_cons, V.str.injEq, List.not_mem_nil, or_false] at h
  rcases h with rfl | rfl | rfl | rfl <;> rfl
theorem pure_l_chosen2 (K : PySem.W.Frag) (vs : List V) (H : Hp) (Q : VK) (E : XK) (h : sp_l_chosen2 K vs H Q E) : rd_l_chosen2 K { nx := fun _ H' => Q .non H', rt := Q } (start ["_law_parts", "_law_x", "_law_y"] vs) H := by
  obtain ⟨t, l, x, y, rfl, ht, o, q⟩ := h
  unfold rd_l_chosen2
  walk_at "rd"
  refine e_get fun d hd => ?_
  unfold tPairs tPairs tPairs tPairs tPairs
  walk_at "rd"
  refine ⟨by show 2 ≤ sizeLine; decide, fun p1 h1 => ?_⟩
  have n1 : d ≠ p1 := fun z => by rw [z, upd_same] at h1; cases h1
  walk_at "rd"
  refine ⟨p1, [x, y], rfl, SqL.of upd_same, by show 0 < 2; decide, fun m hm hm' => ?_⟩
  obtain rfl := min_of hm hm'
  walk_at "rd"
  refine ⟨by show 2 ≤ sizeLine; decide, fun p2 h2 => ?_⟩
  have n2 : d ≠ p2 := fun z => by rw [z, upd_ne (by rw [← z]; exact n1), ← z, upd_same] at h2; cases h2
  walk_at "rd"
  refine ⟨p2, [x, y], rfl, SqL.of upd_same, by show 0 < 2; decide, fun m hm hm' => ?_⟩
  obtain rfl := max_of hm hm'
  walk_at "rd"
  have eF : Ext H (upd (upd (upd H d (.dK [])) p1 (.lst [.int x, .int y])) p2 (.lst [.int x, .int y])) := ((Ext.new hd).tr (Ext.new h1)).tr (Ext.new h2)
  refine ⟨by rw [upd_ne n2, upd_ne n1]; exact upd_same, toldsM x y, rfl, by show 4 ≤ 15; decide, ?_⟩
  have eG := at_new (o := .dK (mergeK [] (toldsM x y))) eF hd
  walk_at "rd"
  refine e_ixL ?_ (eG.sqL ht) rfl
  refine ⟨_, _, rfl, .inl ⟨_, .inr l.told, .inl upd_same, rfl, ?_⟩, q _ eG⟩
  have e : mergeK [] (toldsM x y) = toldsM x y := rfl
  rw [e, told_valM o.ht]
  rfl
def sp_l_loop2 (K : PySem.W.Frag) : Sp := fun vs H Q _ => ∃ (t : Addr) (l : Lp), vs = [.ref t] ∧ SqL K H t l.V ∧ l.Ok ∧ ∀ x H', H x = none → Ext H H' → IsLp K H' x l → Q (.ref x) H'
def rd_l_loop2 (K : PySem.W.Frag) : TS := tRet (tMake (He.ga K "Average") (sp_Average_init K) [] E0 (tCons (tOp (rIxL K) (tVar 0) (tC (.int 0))) (tCons (tOp (rIxL K) (tVar 0) (tC (.int 1))) (tCons (tOp (rIxL K) (tVar 0) (tC (.int 2))) (tCons (tOp (rIxL K) (tVar 0) (tC (.int 3))) (tCons (tOp (rIxL K) (tVar 0) (tC (.int 4))) (tCons (tOp (rIxL K) (tVar 0) (tC (.int 5))) (tCons (tOp (rIxL K) (tVar 0) (tC (.int 6))) (tNil)))))))))
theorem pure_l_loop2 (K : PySem.W.Frag) (vs : List V) (H : Hp) (Q : VK) (E : XK) (h : sp_l_loop2 K vs H Q E) : rd_l_loop2 K { nx := fun _ H' => Q .non H', rt := Q } (start ["_law_parts"] vs) H := by
  obtain ⟨t, l, rfl, ht, o, q⟩ := h
  unfold rd_l_loop2
  walk_at "rd"
  refine e_ixL ?_ ht rfl
  walk_at "rd"
  refine e_ixL ?_ ht rfl
  walk_at "rd"
  refine e_ixL ?_ ht rfl
  walk_at "rd"
  refine e_ixL ?_ ht rfl
  walk_at "rd"
  refine e_ixL ?_ ht rfl
  walk_at "rd"
  refine e_ixL ?_ ht rfl
  walk_at "rd"
  refine e_ixL ?_ ht rfl
  walk_at "rd"
  intro x dx hx hdx hne
  have e3 : Ext H (upd (upd H dx (.own x)) x (.ins (He.ga K "Average") dx [])) := (Ext.new hdx).tr (Ext.new (by rw [upd_ne hne.symm]; exact hx))
  refine ⟨x, dx, l, rfl, o, upd_same, fun H4 e4 h4 => ⟨rfl, q x H4 hx (fun b ob q => e4 _ _ (ne_of_none q hx) (e3 _ _ q)) ⟨dx, h4⟩⟩⟩
/-! ### the places of a run: a dict keyed by pairs (back) or by guesses -/
def PlcI (l : Lp) (n x : Int) (i : Nat) : List (L2.Key × V) := (List.range i).map fun j => (.inl (itr l n x j), V.int (j : Int))
/-- the dict at d behind i rounds -/
def PlcE (l : Lp) (n x : Int) (i : Nat) (H : Hp) (d : Addr) : Prop := (l.stop = "back" ∧ ∃ kvs, IsDN H d kvs ∧ Plc l n x i kvs) ∨ (l.stop ≠ "back" ∧ H d = some (.dK (PlcI l n x i)))
/-- the place of the round i -/
def PosE (l : Lp) (n x : Int) (i : Nat) (H : Hp) (v : V) : Prop := (l.stop = "back" ∧ ∃ c, v = .ref c ∧ H c = some (.tup ((keyA l n x i).map nkV))) ∨ (l.stop ≠ "back" ∧ v = .int (itr l n x i))
theorem PlcE.ext {l : Lp} {n x : Int} {i : Nat} {H H' : Hp} {d : Addr} (h : PlcE l n x i H d) (e : Ext H H') : PlcE l n x i H' d := by
  rcases h with ⟨a, kvs, b, c⟩ | ⟨a, b⟩
  · exact .inl ⟨a, kvs, b.ext e, c⟩
  · exact .inr ⟨a, e _ _ b⟩
theorem PosE.ext {l : Lp} {n x : Int} {i : Nat} {H H' : Hp} {v : V} (h : PosE l n x i H v) (e : Ext H H') : PosE l n x i H' v := by
  rcases h with ⟨a, c, b, hc⟩ | h
  · exact .inl ⟨a, c, b, e _ _ hc⟩
  · exact .inr h
theorem PlcI.val {l : Lp} (h : l.stop ≠ "back") (n x : Int) (i : Nat) : valV (PlcI l n x i) (.inl (itr l n x i)) = (seenA l n x i).map fun (j : Nat) => V.int (j : Int) := by
  unfold valV PlcI seenA
  rw [List.find?_map, Option.map_map]
  have e : ((fun kv : L2.Key × V => decide (kv.1 = Sum.inl (itr l n x i))) ∘ fun j : Nat => ((Sum.inl (itr l n x j) : L2.Key), V.int (j : Int))) = fun j => decide (keyA l n x j = keyA l n x i) := by
    funext j
    refine decide_eq_decide.mpr ?_
    unfold keyA
    rw [if_neg h, if_neg h]
    constructor
    · intro z
      have := Sum.inl.inj z
      rw [this]
    · intro z
      simp at z
      show Sum.inl (itr l n x j) = Sum.inl (itr l n x i)
      rw [z]
  rw [e]
  rfl
theorem PlcI.len (l : Lp) (n x : Int) (i : Nat) : (PlcI l n x i).length = i := by unfold PlcI; rw [List.length_map, List.length_range]
theorem PlcI.snoc {l : Lp} (h : l.stop ≠ "back") {n x : Int} {i : Nat} (hs : seenA l n x i = none) : putK (PlcI l n x i) (.inl (itr l n x i)) (.int (i : Int)) = PlcI l n x (i + 1) := by
  have hv := PlcI.val h n x i
  rw [hs] at hv
  have hn : ((PlcI l n x i).any fun kv => decide (kv.1 = (.inl (itr l n x i) : L2.Key))) = false := by
    unfold valV at hv
    have hf : (PlcI l n x i).find? (fun kv => decide (kv.1 = (.inl (itr l n x i) : L2.Key))) = none := by
      cases q : (PlcI l n x i).find? (fun kv => decide (kv.1 = (.inl (itr l n x i) : L2.Key))) with
      | none => rfl
      | some z => rw [q] at hv; cases hv
    rw [List.any_eq_false]
    exact List.find?_eq_none.mp hf
  unfold putK
  rw [hn, if_neg (by decide)]
  unfold PlcI
  rw [List.range_succ, List.map_append]
  rfl
section
variable {K : PySem.W.Frag} {σ : L2.St} {H : Hp} {Q : VK} {l : Lp} {n x : Int} {i : Nat} {d : Addr} {v : V} {a b : Nat}
theorem e_inE (hp : PlcE l n x i H d) (hv : PosE l n x i H v) (ha : σ[a]? = some (some v)) (hb : σ[b]? = some (some (.ref d))) (q : Q (.bl (seenA l n x i).isSome) H) : FW.tEither (FW.tNIn (tVar a) (tVar b)) (tDIn (tVar a) (tVar b)) σ H Q := by
  rcases hp with ⟨s, kvs, hd, hk⟩ | ⟨s, hd⟩
  · rcases hv with ⟨_, c, rfl, hc⟩ | ⟨z, _⟩
    · refine .inl (e_var (e_var ⟨d, c, kvs, _, rfl, rfl, hd, hc, ?_⟩ hb) ha)
      rw [hk.val, Option.isSome_map]
      exact q
    · exact absurd s z
  · rcases hv with ⟨z, _⟩ | ⟨_, rfl⟩
    · exact absurd z s
    · refine .inr (e_var (e_var ⟨d, _, rfl, DGet.k (k := .inl _) hd, ?_⟩ hb) ha)
      rw [PlcI.val s, Option.isSome_map]
      exact q
theorem e_getE {j : Nat} (hp : PlcE l n x i H d) (hv : PosE l n x i H v) (hs : seenA l n x i = some j) (ha : σ[a]? = some (some v)) (hb : σ[b]? = some (some (.ref d))) (q : Q (.int (j : Int)) H) : FW.tEither (FW.tNGet (tVar b) (tVar a)) (tDGet (tVar b) (tVar a)) σ H Q := by
  rcases hp with ⟨s, kvs, hd, hk⟩ | ⟨s, hd⟩
  · rcases hv with ⟨_, c, rfl, hc⟩ | ⟨z, _⟩
    · exact .inl (e_var (e_var ⟨d, c, kvs, _, .int (j : Int), rfl, rfl, hd, hc, by rw [hk.val, hs]; rfl, q⟩ ha) hb)
    · exact absurd s z
  · rcases hv with ⟨z, _⟩ | ⟨_, rfl⟩
    · exact absurd z s
    · have g := DGet.k (k := .inl (itr l n x i)) hd
      rw [PlcI.val s, hs] at g
      exact .inr (e_var (e_var ⟨d, _, rfl, g, q⟩ ha) hb)
theorem s_putE {te : TE} {D : Ends} (hp : PlcE l n x i H d) (hv : PosE l n x i H v) (hs : seenA l n x i = none) (hi : i ≤ 40000) (ha : σ[a]? = some (some v)) (hb : σ[b]? = some (some (.ref d))) (ht : ∀ R : VK, R (.int (i : Int)) H → te σ H R)
    (q : ∀ H2, (∀ c o, c ≠ d → H c = some o → H2 c = some o) → PlcE l n x (i + 1) H2 d → D.nx σ H2) : FW.sEither (FW.sNPut (tVar b) (tVar a) te) (sDPut (tVar b) (tVar a) te) D σ H := by
  have hz : i < sizeLine := by show i < 2 ^ 24; omega
  rcases hp with ⟨s, kvs, hd, hk⟩ | ⟨s, hd⟩
  · rcases hv with ⟨_, c, rfl, hc⟩ | ⟨z, _⟩
    · refine .inl (ht _ (e_var (e_var ⟨d, c, kvs, _, rfl, rfl, hd, hc, by rw [hk.val, hs]; rfl, by rw [hk.len]; exact hz, ?_⟩ ha) hb))
      refine q _ (fun c' o n' e => by rw [upd_ne n']; exact e) (.inl ⟨s, _, hd.put hc (by rw [hk.len]; exact hz), hk.snoc⟩)
    · exact absurd s z
  · rcases hv with ⟨z, _⟩ | ⟨_, rfl⟩
    · exact absurd z s
    · refine .inr (ht _ (e_var (e_var ⟨d, _, rfl, DPut.k (k := .inl (itr l n x i)) (v := .int (i : Int)) hd (by rw [PlcI.len]; exact hz), ?_⟩ ha) hb))
      refine q _ (fun c' o n' e => by rw [upd_ne n']; exact e) (.inr ⟨s, ?_⟩)
      rw [upd_same, PlcI.snoc s hs]
end
theorem PlcE.upd {l : Lp} {n x : Int} {i : Nat} {H : Hp} {d g : Addr} {xs : List V} {o : HO} (h : PlcE l n x i H d) (hg : H g = some (.lst xs)) : PlcE l n x i (upd H g o) d := by
  rcases h with ⟨a, kvs, b, c⟩ | ⟨a, b⟩
  · exact .inl ⟨a, kvs, b.upd hg, c⟩
  · exact .inr ⟨a, by rw [upd_ne (ne_of b hg (fun z => nomatch z))]; exact b⟩
theorem PlcE.ne {l : Lp} {n x : Int} {i : Nat} {H : Hp} {d g : Addr} {xs : List V} (h : PlcE l n x i H d) (hg : H g = some (.lst xs)) : g ≠ d := by
  rcases h with ⟨a, kvs, b, c⟩ | ⟨a, b⟩
  · exact ne_of hg b.at' (fun z => nomatch z)
  · exact ne_of hg b (fun z => nomatch z)
end FWL
namespace FWL
open PySem PySem.Spec PyProof.Rows L2 FW
/-! ### the law's own run -/
def CrT (H : Hp) (c : Addr) (res : Res) : Prop := ∃ g q, H c = some (.tup [.ref g, .str res.fin, nkV res.told, .ref q]) ∧ H g = some (.tup (res.gs.map V.int)) ∧ H q = some (.tup (res.ring.map V.int))
def sp_l_course2 (K : PySem.W.Frag) : Sp := fun vs H Q _ => ∃ (t : Addr) (l : Lp) (n x r : Int), vs = [.ref t, .int n, .int x] ∧ SqL K H t l.V ∧ l.Ok ∧ RootOf l.k n r ∧ 0 ≤ x ∧ n < 2 ^ 1000 ∧ x < 2 ^ 1000 ∧
  ∀ res c H', Crs l n x res → Ext H H' → CrT H' c res → Q (.ref c) H'
def rd_l_course2_L1 (K : PySem.W.Frag) : TS := tSeq (tAsg (tIf (tTest (tOp rEq (tOp (rIxL K) (tVar 0) (tC (.int 4))) (tC (.str "back")))) (tTup (tCons (tVar 5) (tCons (tVar 2) (tNil)))) (tVar 2)) (gName 6)) (tSeq (tIfS (tB (FW.tEither (FW.tNIn (tVar 6) (tVar 4)) (tDIn (tVar 6) (tVar 4)))) (tRet (tTup (tCons (tCB (FW.rTupS K) (tCons (tVar 3) (tNil))) (tCons (tC (.str "swings")) (tCons (tC .non) (tCons (tCB (FW.rTupS K) (tCons (tSl (rSlL K) (tVar 3) (tPart (FW.tEither (FW.tNGet (tVar 4) (tVar 6)) (tDGet (tVar 4) (tVar 6)))) (tNoPart)) (tNil))) (tNil))))))) (tNext)) (tSeq (FW.sEither (FW.sNPut (tVar 4) (tVar 6) (tCB (Evl.rLenS K) (tCons (tVar 3) (tNil)))) (sDPut (tVar 4) (tVar 6) (tCB (Evl.rLenS K) (tCons (tVar 3) (tNil))))) (tSeq (tDrop (tBM K "list" rAppend (tVar 3) (tCons (tVar 2) (tNil)))) (tSeq (tIfS (tB (tCall (sp_l_looks2 K) [] E0 (tCons (tVar 0) (tCons (tVar 1) (tCons (tVar 2) (tNil)))))) (tRet (tTup (tCons (tCB (FW.rTupS K) (tCons (tVar 3) (tNil))) (tCons (tC (.str "told")) (tCons (tCall (sp_l_mended2 K) [] E0 (tCons (tVar 0) (tCons (tVar 1) (tCons (tVar 2) (tNil))))) (tCons (tTup (tNil)) (tNil))))))) (tNext)) (tSeq (tIfS (tTest (tOp rEq (tVar 2) (tC (.int 0)))) (tRet (tTup (tCons (tCB (FW.rTupS K) (tCons (tVar 3) (tNil))) (tCons (tC (.str "nought")) (tCons (tC .non) (tCons (tTup (tNil)) (tNil))))))) (tNext)) (tSeq (tAsg (tCall (sp_l_led_to K) [] E0 (tCons (tVar 0) (tCons (tVar 1) (tCons (tVar 2) (tNil))))) (gName 7)) (tSeq (tIfS (tB (tCall (sp_l_ends2 K) [] E0 (tCons (tVar 0) (tCons (tVar 2) (tCons (tVar 7) (tCons (tVar 5) (tNil))))))) (tRet (tTup (tCons (tCB (FW.rTupS K) (tCons (tVar 3) (tNil))) (tCons (tC (.str "told")) (tCons (tCall (sp_l_mended2 K) [] E0 (tCons (tVar 0) (tCons (tVar 1) (tCons (tCall (sp_l_chosen2 K) [] E0 (tCons (tVar 0) (tCons (tVar 2) (tCons (tVar 7) (tNil))))) (tNil))))) (tCons (tTup (tNil)) (tNil))))))) (tNext)) (tPar 5 2 (tCons (tVar 2) (tCons (tVar 7) (tNil)))))))))))
def rd_l_course2 (K : PySem.W.Frag) : TS := tSeq (tPar3 3 4 5 (tCons (tLst (tNil)) (tCons (FW.tEither FW.tNNew tDNewK) (tCons (tC .non) (tNil))))) (tWhile (tB (tC (.bl true))) (rd_l_course2_L1 K))
theorem place_E {K : PySem.W.Frag} {σ : L2.St} {H : Hp} {Q : VK} {t : Addr} {l : Lp} {n x : Int} {i : Nat} (h0 : σ[0]? = some (some (.ref t))) (h5 : σ[5]? = some (some (nkV (prv l n x i)))) (h2 : σ[2]? = some (some (.int (itr l n x i))))
    (ht : SqL K H t l.V) (k : ∀ v H1, Ext H H1 → PosE l n x i H1 v → Q v H1) : (tIf (tTest (tOp rEq (tOp (rIxL K) (tVar 0) (tC (.int 4))) (tC (.str "back")))) (tTup (tCons (tVar 5) (tCons (tVar 2) (tNil)))) (tVar 2)) σ H Q := by
  refine e_ifx (e_test (e_op (e_op (e_var (e_c (e_ixL ?_ ht rfl)) h0))))
  refine e_c (e_eq ?_ rfl)
  rw [decS]
  refine e_bl ?_
  refine e_ite (fun h => ?_) (fun h => ?_)
  · refine e_tup (e_cons (e_var (e_cons (e_var (e_nil ⟨by show 2 ≤ sizeLine; decide, fun c hc => ?_⟩) h2)) h5))
    have e : (keyA l n x i).map nkV = [nkV (prv l n x i), .int (itr l n x i)] := by unfold keyA; rw [if_pos h]; rfl
    rw [← e]
    exact k _ _ (Ext.new hc) (.inl ⟨h, c, rfl, upd_same⟩)
  · exact e_var (k _ _ Ext.rfl' (.inr ⟨h, rfl⟩)) h2
/-- return (tuple(guesses), fin, told, ()) -/
theorem ret_crs {K : PySem.W.Frag} {σ : L2.St} {H : Hp} {Q : VK} {g : Addr} {gs : List Int} {te : TE} {w : Str} {o : Option Int} (h3 : σ[3]? = some (some (.ref g))) (hg : H g = some (.lst (gs.map V.int))) (ht : ∀ H1 (R : VK), Ext H H1 → (∀ H2, Ext H1 H2 → R (nkV o) H2) → te σ H1 R)
    (k : ∀ c H', Ext H H' → CrT H' c ⟨gs, w, o, []⟩ → Q (.ref c) H') : (tTup (tCons (tCB (FW.rTupS K) (tCons (tVar 3) (tNil))) (tCons (tC (.str w)) (tCons te (tCons (tTup (tNil)) (tNil)))))) σ H Q := by
  refine e_tup (e_cons (e_cb (e_cons (e_var (e_nil (e_tupL (fun t1 ht1 => ?_) (SqL.of hg))) h3))))
  refine e_cons (e_c (e_cons (ht _ _ (Ext.new ht1) fun H2 e2 => ?_)))
  refine e_cons (e_tup (e_nil ⟨by show 0 ≤ sizeLine; decide, fun q hq => ?_⟩))
  refine e_nil ⟨by show 4 ≤ sizeLine; decide, fun c hc => k c _ ((((Ext.new ht1).tr e2).tr (Ext.new hq)).tr (Ext.new hc)) ⟨t1, q, upd_same, ?_, ?_⟩⟩
  · exact (Ext.new hc) _ _ ((Ext.new hq) _ _ (e2 _ _ upd_same))
  · exact (Ext.new hc) _ _ upd_same
theorem course2_L1 {K : PySem.W.Frag} {H H' : Hp} {D : Ends} {t g d : Addr} {l : Lp} {n x r : Int} {i : Nat} {v6 v7 : Option V} (hT : SqL K H t l.V) (o : l.Ok) (R : RootOf l.k n r) (x0 : 0 ≤ x) (hn : n < 2 ^ 1000) (hx : x < 2 ^ 1000)
    (hgo : ∀ j, j < i → crs l n x j = none) (hg0 : H g = none) (hd0 : H d = none) (e : Ext H H') (hg : H' g = some (.lst ((gsA l n x i).map V.int))) (hd : PlcE l n x i H' d)
    (q : ∀ res c H2, crs l n x i = some res → Ext H H2 → CrT H2 c res → D.rt (.ref c) H2)
    (k : ∀ H2 w6 w7, crs l n x i = none → Ext H H2 → H2 g = some (.lst ((gsA l n x (i + 1)).map V.int)) → PlcE l n x (i + 1) H2 d → D.nx [some (.ref t), some (.int n), some (.int (itr l n x (i + 1))), some (.ref g), some (.ref d), some (nkV (prv l n x (i + 1))), w6, w7] H2) :
    rd_l_course2_L1 K D [some (.ref t), some (.int n), some (.int (itr l n x i)), some (.ref g), some (.ref d), some (nkV (prv l n x i)), v6, v7] H' := by
  have hi := crs_bound o R x0 hn hx hgo
  obtain ⟨y0, ys⟩ := itr_size o R x0 hn hx fun j hj => (crs_none (hgo j hj)).2.2.1
  unfold rd_l_course2_L1
  with_reducible refine s_seq ?_
  with_reducible refine s_asg ?_
  refine place_E rfl rfl rfl (e.sqL hT) fun v H1 e1 hv => ?_
  have eH1 : Ext H H1 := e.tr e1
  have hg1 := e1 _ _ hg
  have hd1 := hd.ext e1
  walk_at "rd"
  refine e_inE hd1 hv rfl rfl ?_
  walk_at "rd"
  cases hs : seenA l n x i with
  | some j =>
    obtain ⟨hji, _⟩ := seen_some hs
    have hres : crs l n x i = some ⟨gsA l n x i, "swings", none, (gsA l n x i).drop j⟩ := by unfold crs; rw [hs]
    show if true = true then _ else _
    walk_at "rd"
    refine e_tupL (fun t1 ht1 => ?_) (SqL.of hg1)
    have e2 : Ext H1 (upd H1 t1 (.tup ((gsA l n x i).map V.int))) := Ext.new ht1
    have h2t : (upd H1 t1 (.tup ((gsA l n x i).map V.int))) t1 = some (.tup ((gsA l n x i).map V.int)) := upd_same
    generalize upd H1 t1 (.tup ((gsA l n x i).map V.int)) = H2 at *
    walk_at "rd"
    refine e_sl ?_
    walk_at "rd"
    refine e_part ?_
    refine e_getE (hd1.ext e2) (hv.ext e2) hs rfl rfl ?_
    refine e_part' (e_noP (e_slL (fun t2 ht2 => ?_) (SqL.of (e2 _ _ hg1))))
    rw [cut_from _ _ (by rw [List.length_map, gsA_len]; omega), ← List.map_drop]
    have e3 : Ext H2 (upd H2 t2 (.lst (((gsA l n x i).drop j).map V.int))) := Ext.new ht2
    have h3t : (upd H2 t2 (.lst (((gsA l n x i).drop j).map V.int))) t2 = some (.lst (((gsA l n x i).drop j).map V.int)) := upd_same
    generalize upd H2 t2 (.lst (((gsA l n x i).drop j).map V.int)) = H3 at *
    walk_at "rd"
    refine e_tupL (fun t3 ht3 => ?_) (SqL.of h3t)
    have e4 : Ext H3 (upd H3 t3 (.tup (((gsA l n x i).drop j).map V.int))) := Ext.new ht3
    have h4t : (upd H3 t3 (.tup (((gsA l n x i).drop j).map V.int))) t3 = some (.tup (((gsA l n x i).drop j).map V.int)) := upd_same
    generalize upd H3 t3 (.tup (((gsA l n x i).drop j).map V.int)) = H4 at *
    walk_at "rd"
    refine ⟨by show 4 ≤ sizeLine; decide, fun c hc => ?_⟩
    exact q ⟨gsA l n x i, "swings", none, (gsA l n x i).drop j⟩ c _ hres ((eH1.tr (e2.tr (e3.tr e4))).tr (Ext.new hc)) ⟨t1, t3, upd_same, Ext.new hc _ _ (e4 _ _ (e3 _ _ h2t)), Ext.new hc _ _ h4t⟩
  | none =>
    show if false = true then _ else _
    walk_at "rd"
    refine s_putE hd1 hv hs (by omega) rfl rfl (fun R hR => ?_) fun H2 k2 hd2 => ?_
    · walk_at "rd"
      refine e_len ?_ (.inl (SqL.of hg1))
      rw [List.length_map, gsA_len]
      exact hR
    have eH2 : Ext H H2 := fun b ob qb => k2 _ _ (ne_of_none qb hd0) (eH1 _ _ qb)
    have hg2 := k2 _ _ (hd1.ne hg1) hg1
    walk_at "rd"
    refine ⟨.inl ⟨rfl, _, SqL.of hg2⟩, ?_⟩
    walk_at "rd"
    refine ⟨g, _, _, rfl, rfl, hg2, by rw [List.length_map, gsA_len]; show i < 2 ^ 24; omega, ?_⟩
    have eg : (gsA l n x i).map V.int ++ [V.int (itr l n x i)] = (gsA l n x (i + 1)).map V.int := by rw [gsA_succ, List.map_append]; rfl
    rw [eg]
    have eH3 : Ext H (upd H2 g (.lst ((gsA l n x (i + 1)).map V.int))) := at_new eH2 hg0
    have hd3 := hd2.upd (o := .lst ((gsA l n x (i + 1)).map V.int)) hg2
    have hg3 : (upd H2 g (.lst ((gsA l n x (i + 1)).map V.int))) g = some (.lst ((gsA l n x (i + 1)).map V.int)) := upd_same
    generalize upd H2 g (.lst ((gsA l n x (i + 1)).map V.int)) = H3 at *
    have hT3 := eH3.sqL hT
    clear hg1 hd1 hv e1 eH1 hg2 hd2 eH2 k2
    walk_at "rd"
    refine ⟨t, l, n, itr l n x i, rfl, hT3, o, y0, ys.mono (by decide), fun H4 e4 => ?_⟩
    have eH4 := eH3.tr e4
    have hg4 := e4 _ _ hg3
    have hd4 := hd3.ext e4
    have hT4 := e4.sqL hT3
    walk_at "rd"
    cases hlk : l.looks n (itr l n x i) with
    | true =>
      have hres : crs l n x i = some ⟨gsA l n x (i + 1), "told", some (l.mended n (itr l n x i)), []⟩ := by unfold crs; rw [hs]; dsimp only; rw [hlk, if_pos rfl]
      with_reducible refine e_T ?_
      with_reducible refine s_ret ?_
      refine ret_crs (o := some (l.mended n (itr l n x i))) rfl hg4 (fun H5 R e5 hR => ?_) fun c H5 e5 hc => q _ c H5 hres (eH4.tr e5) hc
      walk_at "rd"
      exact ⟨t, l, n, itr l n x i, rfl, e5.sqL hT4, o, y0, ys.mono (by decide), hR⟩
    | false =>
      walk_at "rd"
      rw [decI]
      refine e_ite (fun hz => ?_) (fun hz => ?_)
      · have hres : crs l n x i = some ⟨gsA l n x (i + 1), "nought", none, []⟩ := by unfold crs; rw [hs]; dsimp only; rw [hlk, if_neg (by decide), if_pos hz]
        with_reducible refine s_ret ?_
        refine ret_crs (o := none) rfl hg4 (fun H5 R e5 hR => hR H5 Ext.rfl') fun c H5 e5 hc => q _ c H5 hres (eH4.tr e5) hc
      · have n0 : 0 ≤ n := Int.le_trans (Int.pow_nonneg R.r0) R.lo
        obtain ⟨z0, zs⟩ := itr_size (i := i + 1) o R x0 hn hx fun j hj => by
          rcases Nat.lt_or_ge j i with z | z
          · exact (crs_none (hgo j z)).2.2.1
          · have : j = i := by omega
            subst this; exact hz
        walk_at "rd"
        refine ⟨t, l, n, itr l n x i, rfl, hT4, o, by omega, n0, n_big n0 hn, Sz.mono ys (by decide), fun H5 e5 => ?_⟩
        walk_at "rd"
        refine ⟨t, l, itr l n x i, l.led n (itr l n x i), prv l n x i, rfl, e5.sqL hT4, o, fun H6 e6 => ?_⟩
        have e46 := e5.tr e6
        have hg6 := e46 _ _ hg4
        have hT6 := e46.sqL hT4
        walk_at "rd"
        cases hen : l.ends (itr l n x i) (l.led n (itr l n x i)) (prv l n x i) with
        | true =>
          have hres : crs l n x i = some ⟨gsA l n x (i + 1), "told", some (l.mended n (l.chosen (itr l n x i) (itr l n x (i + 1)))), []⟩ := by
            unfold crs; rw [hs]; dsimp only; rw [hlk, if_neg (by decide), if_neg hz, if_pos]
            exact hen
          have hch : 0 ≤ l.chosen (itr l n x i) (itr l n x (i + 1)) ∧ Sz 2000 (l.chosen (itr l n x i) (itr l n x (i + 1))) := by
            rcases chosen_or l (itr l n x i) (itr l n x (i + 1)) with z | z <;> rw [z]
            · exact ⟨y0, ys.mono (by decide)⟩
            · exact ⟨z0, zs.mono (by decide)⟩
          with_reducible refine e_T ?_
          with_reducible refine s_ret ?_
          refine ret_crs (o := some (l.mended n (l.chosen (itr l n x i) (itr l n x (i + 1))))) rfl hg6 (fun H7 R e7 hR => ?_) fun c H7 e7 hc => q _ c H7 hres ((eH4.tr e46).tr e7) hc
          walk_at "rd"
          refine ⟨t, l, itr l n x i, l.led n (itr l n x i), rfl, e7.sqL hT6, o, fun H8 e8 => ?_⟩
          walk_at "rd"
          exact ⟨t, l, n, l.chosen (itr l n x i) (itr l n x (i + 1)), rfl, (e7.tr e8).sqL hT6, o, hch.1, hch.2, fun H9 e9 => hR H9 (e8.tr e9)⟩
        | false =>
          have hres : crs l n x i = none := by
            unfold crs; rw [hs]; dsimp only; rw [hlk, if_neg (by decide), if_neg hz, if_neg]
            show ¬ l.ends (itr l n x i) (l.led n (itr l n x i)) (prv l n x i) = true
            rw [hen]; decide
          walk_at "rd"
          exact k H6 _ _ hres (eH4.tr e46) hg6 (hd4.ext e46)
theorem pure_l_course2 (K : PySem.W.Frag) (vs : List V) (H : Hp) (Q : VK) (E : XK) (h : sp_l_course2 K vs H Q E) : rd_l_course2 K { nx := fun _ H' => Q .non H', rt := Q } (start ["_law_parts", "_law_n", "_law_x", "_law_guesses", "_law_places", "_law_before", "_law_place", "_law_y"] vs) H := by
  obtain ⟨t, l, n, x, r, rfl, hT, o, R, x0, hn, hx, q⟩ := h
  unfold rd_l_course2
  with_reducible refine s_seq ?_
  unfold tPar3
  walk_at "rd"
  refine ⟨by show 0 ≤ sizeLine; decide, fun g hg => ?_⟩
  have e1 : Ext H (upd H g (.lst [])) := Ext.new hg
  have h1 : (upd H g (.lst [])) g = some (.lst []) := upd_same
  generalize upd H g (.lst []) = H1 at *
  walk_at "rd"
  have dict : ∀ R : V → Hp → Prop, (∀ d H2, H1 d = none → Ext H1 H2 → PlcE l n x 0 H2 d → R (.ref d) H2) → FW.tEither FW.tNNew tDNewK [some (.ref t), some (.int n), some (.int x), none, none, none, none, none] H1 R := fun R k => by
    by_cases s : l.stop = "back"
    · exact .inl fun d hd => k d _ hd (Ext.new hd) (.inl ⟨s, [], ⟨upd_same, (fun _ hx => nomatch hx), by show 0 ≤ sizeLine; decide⟩, rfl⟩)
    · exact .inr fun d hd => k d _ hd (Ext.new hd) (.inr ⟨s, upd_same⟩)
  refine dict _ fun d H2 hd e2 hd2 => ?_
  walk_at "rd"
  refine ⟨_, _, _, rfl, ?_⟩
  have hd0 := e1.non hd
  refine s_while (fun m σ H' => ∃ i w6 w7, m = 40000 - i ∧ (∀ j, j < i → crs l n x j = none) ∧ Ext H H' ∧ H' g = some (.lst ((gsA l n x i).map V.int)) ∧ PlcE l n x i H' d ∧ σ = [some (.ref t), some (.int n), some (.int (itr l n x i)), some (.ref g), some (.ref d), some (nkV (prv l n x i)), w6, w7]) _
    ⟨0, _, _, rfl, fun j hj => absurd hj (by omega), e1.tr e2, e2 _ _ h1, hd2, rfl⟩ ?_
  rintro m σ H' ⟨i, w6, w7, rfl, hgo, e, hg', hd', rfl⟩
  have hi := crs_bound o R x0 hn hx hgo
  walk_at "rd"
  refine ⟨fun σ' H'' => ∃ w6 w7, crs l n x i = none ∧ Ext H H'' ∧ H'' g = some (.lst ((gsA l n x (i + 1)).map V.int)) ∧ PlcE l n x (i + 1) H'' d ∧ σ' = [some (.ref t), some (.int n), some (.int (itr l n x (i + 1))), some (.ref g), some (.ref d), some (nkV (prv l n x (i + 1))), w6, w7], fun σ' H'' h => ?_, ?_⟩
  · obtain ⟨u6, u7, a1, a2, a3, a4, a5⟩ := h
    refine ⟨40000 - (i + 1), by omega, i + 1, u6, u7, rfl, fun j hj => ?_, a2, a3, a4, a5⟩
    rcases Nat.lt_or_ge j i with z | z
    · exact hgo j z
    · have : j = i := by omega
      subst this; exact a1
  · exact course2_L1 hT o R x0 hn hx hgo hg hd0 e hg' hd' (fun res c H2 a1 a2 a3 => q res c H2 ⟨i, hgo, a1⟩ a2 a3) (fun H2 u6 u7 a1 a2 a3 a4 => ⟨u6, u7, a1, a2, a3, a4, rfl⟩)
end FWL
namespace FWL
open PySem PySem.Spec PyProof.Rows L2 FW
/-! ### parts by the draws of a row -/
section
variable {K : PySem.W.Frag} {σ : L2.St} {H : Hp} {Q : VK} {L : Addr} {xs : List Int} {N r : Nat} {i m : Int} {ti : TE}
/-- int(row[i]) -/
theorem e_rowI (hσ : σ[r]? = some (some (.ref L))) (hL : SqL K H L (xs.map V.int)) (hr : Row xs N) (hti : ∀ R : VK, R (.int i) H → ti σ H R) (h0 : 0 ≤ i) (h1 : i < N) (k : ∀ y, 0 ≤ y → y < 1000 → Q (.int y) H) :
    tCB FW.rInt1 (tCons (tOp (rIxL K) (tVar r) ti) tNil) σ H Q := by
  obtain ⟨y, y0, y1, hy⟩ := row_at hr h0 h1
  exact e_cb (e_cons (e_op (e_var (hti _ (e_ixL (e_nil (e_int (k y y0 y1))) hL hy)) hσ)))
/-- int(row[i]) % m -/
theorem e_rowM (hσ : σ[r]? = some (some (.ref L))) (hL : SqL K H L (xs.map V.int)) (hr : Row xs N) (hti : ∀ R : VK, R (.int i) H → ti σ H R) (h0 : 0 ≤ i) (h1 : i < N) (hm : 0 < m) (k : ∀ y, 0 ≤ y → y < m → Q (.int y) H) :
    tOp FW.rMod (tCB FW.rInt1 (tCons (tOp (rIxL K) (tVar r) ti) tNil)) (tC (.int m)) σ H Q :=
  e_op (e_rowI hσ hL hr hti h0 h1 fun y y0 y1 => e_c (e_I (k _ (Int.emod_nonneg _ (by omega)) (Int.emod_lt_of_pos _ hm)) hm))
/-- int(row[i]) // c % m -/
theorem e_rowD {c : Int} (hσ : σ[r]? = some (some (.ref L))) (hL : SqL K H L (xs.map V.int)) (hr : Row xs N) (hti : ∀ R : VK, R (.int i) H → ti σ H R) (h0 : 0 ≤ i) (h1 : i < N) (hc : 0 < c) (hcs : c < 1024) (hm : 0 < m) (k : ∀ y, 0 ≤ y → y < m → Q (.int y) H) :
    tOp FW.rMod (tOp FW.rDiv (tCB FW.rInt1 (tCons (tOp (rIxL K) (tVar r) ti) tNil)) (tC (.int c))) (tC (.int m)) σ H Q :=
  e_op (e_op (e_rowI hσ hL hr hti h0 h1 fun y y0 y1 => e_c (e_I (e_c (e_I (k _ (Int.emod_nonneg _ (by omega)) (Int.emod_lt_of_pos _ hm)) hm)) (wide_div (b := 10) hc (by show c.natAbs < 1024; omega) (by decide) (by decide)))))
/-- [v, ..][i] -/
theorem e_pickC {tA : TA} {vs : List V} (hA : ∀ R : List V → Hp → Prop, R vs H → tA σ H R) (hz : vs.length ≤ 1000) (hi : ∀ (H1 : Hp) (R : VK), Ext H H1 → (∀ y : Int, 0 ≤ y → y < vs.length → R (.int y) H1) → ti σ H1 R) (k : ∀ v H1, v ∈ vs → Ext H H1 → Q v H1) :
    tOp (rIxL K) (tLst tA) ti σ H Q := by
  refine e_op (e_lst (hA _ ⟨Nat.le_trans hz (by decide), fun p hp => hi _ _ (Ext.new hp) fun y y0 y1 => ?_⟩))
  obtain ⟨v, hv, hat⟩ := list_at (xs := vs) (i := y) y0 y1
  exact e_ixL (k v _ hv (Ext.new hp)) (SqL.of upd_same) hat
/-- a + c -/
theorem e_ixp {a : Nat} {x c : Int} {R : VK} (h : σ[a]? = some (some (.int x))) (k : R (.int (x + c)) H) : tOp FW.rAdd (tVar a) (tC (.int c)) σ H R := e_op (e_var (e_c (e_I0 k)) h)
theorem e_ixv {a : Nat} {x : Int} {R : VK} (h : σ[a]? = some (some (.int x))) (k : R (.int x) H) : tVar a σ H R := e_var k h
end
def okW2 (k a c : Int) : Bool := decide (c * (k - 1) ≤ a)
def wRow2 (k a : Int) (cs : List Int) : List (Int × Int) := (cs.filter (okW2 k a)).map fun c => (a, c)
def rgI (n : Nat) : List Int := (List.range n).map fun (j : Nat) => 1 + (j : Int)
def wAll2 (k : Int) : Nat → List (Int × Int)
  | 0 => []
  | n + 1 => wAll2 k n ++ wRow2 k (1 + (n : Int)) (rgI (5 - n))
theorem wRow2_snoc (k a c : Int) (cs : List Int) : wRow2 k a (cs ++ [c]) = if okW2 k a c = true then wRow2 k a cs ++ [(a, c)] else wRow2 k a cs := by
  unfold wRow2
  rw [List.filter_append]
  cases h : okW2 k a c <;> simp [List.filter_cons, h]
theorem wRow2_len (k a : Int) (cs : List Int) : (wRow2 k a cs).length ≤ cs.length := by
  unfold wRow2
  rw [List.length_map]
  exact List.length_filter_le _ _
theorem rgI_len (n : Nat) : (rgI n).length = n := by unfold rgI; rw [List.length_map, List.length_range]
theorem rgI_succ (n : Nat) : rgI (n + 1) = rgI n ++ [1 + (n : Int)] := by unfold rgI; rw [List.range_succ, List.map_append]; rfl
theorem wAll2_len (k : Int) : ∀ n, (wAll2 k n).length ≤ 5 * n
  | 0 => by simp [wAll2]
  | n + 1 => by
    have := wAll2_len k n
    have := wRow2_len k (1 + (n : Int)) (rgI (5 - n))
    rw [rgI_len] at this
    rw [wAll2, List.length_append]
    omega
def sp_l_weights2 (K : PySem.W.Frag) : Sp := fun vs H Q _ => ∃ k : Int, vs = [.int k] ∧ 2 ≤ k ∧ k ≤ 4 ∧ ∀ l ts H', H l = none → Ext H H' → H' l = some (.lst ts) → Prs H' ts (wAll2 k 5) → Q (.ref l) H'
def rd_l_weights2_L1 (K : PySem.W.Frag) : TS := tDrop (tBM K "list" rExtend (tVar 1) (tCons (tLc (iRng2 (tCons (tC (.int 1)) (tCons (tOp FW.rSub (tC (.int 7)) (tVar 2)) (tNil)))) (gName 3) (tTest (tOp FW.rGe (tVar 2) (tOp FW.rMul (tVar 3) (tOp FW.rSub (tVar 0) (tC (.int 1)))))) (tTup (tCons (tVar 2) (tCons (tVar 3) (tNil)))) [3]) (tNil)))
def rd_l_weights2 (K : PySem.W.Frag) : TS := tSeq (tAsg (tLst (tNil)) (gName 1)) (tSeq (tFor (iRng2 (tCons (tC (.int 1)) (tCons (tC (.int 6)) (tNil)))) (gName 2) (rd_l_weights2_L1 K)) (tRet (tVar 1)))
theorem pure_l_weights2 (K : PySem.W.Frag) (vs : List V) (H : Hp) (Q : VK) (E : XK) (h : sp_l_weights2 K vs H Q E) : rd_l_weights2 K { nx := fun _ H' => Q .non H', rt := Q } (start ["_law_k", "_law_found", "_law_a", "_law_c"] vs) H := by
  obtain ⟨k, rfl, h2, h4, q⟩ := h
  unfold rd_l_weights2
  walk_at "rd"
  refine ⟨by decide, fun l hl => ?_⟩
  walk_at "rd"
  · refine for_range (lo := 1) (n := 5) (fun i σ H' => Ext H H' ∧ (∃ ts, H' l = some (.lst ts) ∧ Prs H' ts (wAll2 k i)) ∧ ∃ u v, σ = [some (.int k), some (.ref l), u, v]) ⟨Ext.new hl, ⟨[], upd_same, True.intro⟩, _, _, rfl⟩ ?_ ?_
    · rintro i σ H' hi ⟨e, ⟨ts, hts, hp⟩, u, v, rfl⟩
      have hlen := hp.len
      have hwl := wAll2_len k i
      walk_at "re"
      unfold rd_l_weights2_L1
      walk_at "rd"
      refine ⟨.inl ⟨rfl, _, SqL.of hts⟩, ?_⟩
      walk_at "rd"
      · have en : (7 - (1 + (i : Int)) - 1).toNat = 5 - i := by omega
        rw [en]
        intro D hD
        refine lc_range (lo := 1) (n := 5 - i) (fun j H2 => Ext H' H2 ∧ ∃ as, H2 D = some (.lst as) ∧ Prs H2 as (wRow2 k (1 + (i : Int)) (rgI j))) ⟨Ext.new hD, [], upd_same, True.intro⟩ ?_ ?_
        · rintro j H2 hj ⟨e2, as, has, hpr⟩
          have hal : as.length ≤ 5 := by
            rw [hpr.len]
            exact Nat.le_trans (wRow2_len _ _ _) (by rw [rgI_len]; omega)
          have fin : ∀ b : Bool, okW2 k (1 + (i : Int)) (1 + (j : Int)) = b → (if b = true then tTup (tCons (tVar 2) (tCons (tVar 3) tNil)) [some (.int k), some (.ref l), some (.int (1 + (i : Int))), some (.int (1 + (j : Int)))] H2 fun y H4 => ∃ acc, H4 D = some (.lst acc) ∧ acc.length < sizeLine ∧ (Ext H' (L2.upd H4 D (.lst (acc ++ [y]))) ∧ ∃ as, (L2.upd H4 D (.lst (acc ++ [y]))) D = some (.lst as) ∧ Prs (L2.upd H4 D (.lst (acc ++ [y]))) as (wRow2 k (1 + (i : Int)) (rgI (j + 1)))) else (Ext H' H2 ∧ ∃ as, H2 D = some (.lst as) ∧ Prs H2 as (wRow2 k (1 + (i : Int)) (rgI (j + 1))))) := by
            intro b hb'
            rw [rgI_succ, wRow2_snoc, hb']
            cases b with
            | true =>
              rw [if_pos rfl, if_pos rfl]
              walk_at "rd"
              refine ⟨by show 2 ≤ sizeLine; decide, fun t ht => ⟨as, (Ext.new ht) _ _ has, Nat.lt_of_le_of_lt hal (by decide), (e2.tr (Ext.new ht)).upds hD, _, upd_same, ?_⟩⟩
              refine Prs.upd ((Ext.new ht) _ _ has) (Prs.app (hpr.ext (Ext.new ht)) ⟨⟨t, rfl, upd_same⟩, True.intro⟩)
            | false =>
              rw [if_neg (by decide), if_neg (by decide)]
              exact ⟨e2, as, has, hpr⟩
          walk_at "re"
          refine ⟨rfl, ?_⟩
          walk_at "re"
          · exact fin _ rfl
          · exact wide_mul (a := 10) (b := 10) (by omega) (by omega) (by decide) (by decide) (by decide)
        · rintro H2 ⟨e2, as, has, hpr⟩
          have el : H2 l = some (.lst ts) := e2 _ _ hts
          refine ⟨l, D, ts, as, rfl, rfl, el, has, ?_, ?_⟩
          · have := hpr.len
            have := wRow2_len k (1 + (i : Int)) (rgI (5 - i))
            rw [rgI_len] at this
            exact Nat.le_trans (show ts.length + as.length ≤ 100 by omega) (by decide)
          · walk_at "rd"
            refine ⟨(e.tr e2).upds hl, ⟨_, upd_same, ?_⟩, _, _, rfl⟩
            exact Prs.upd el (Prs.app (hp.ext e2) hpr)
      · refine ⟨by decide, by decide, by omega, by omega⟩
    · rintro σ H' ⟨e, ⟨ts, hts, hp⟩, u, v, rfl⟩
      walk_at "rd"
      exact q _ _ _ hl e hts hp
  · decide
theorem weights2_ok {k : Int} (h2 : 2 ≤ k) (h4 : k ≤ 4) : ∀ w ∈ wAll2 k 5, 1 ≤ w.2 ∧ w.2 ≤ 3 ∧ w.2 * (k - 1) ≤ w.1 ∧ w.1 + w.2 ≤ 6 ∧ 1 ≤ w.1 ∧ w.1 ≤ 5 := by
  have : k = 2 ∨ k = 3 ∨ k = 4 := by omega
  rcases this with rfl | rfl | rfl <;> decide
theorem weights2_ne {k : Int} (h2 : 2 ≤ k) (h4 : k ≤ 4) : 0 < (wAll2 k 5).length ∧ (wAll2 k 5).length ≤ 25 := by
  have : k = 2 ∨ k = 3 ∨ k = 4 := by omega
  rcases this with rfl | rfl | rfl <;> decide
def sp_l_loop_parts (K : PySem.W.Frag) : Sp := fun vs H Q _ => ∃ (L : Addr) (xs : List Int) (N : Nat) (a : Int), vs = [.ref L, .int a] ∧ H L = some (.lst (xs.map V.int)) ∧ Row xs N ∧ 0 ≤ a ∧ a + 6 ≤ N ∧
  ∀ t l H', l.Ok → H t = none → Ext H H' → H' t = some (.lst (Lp.V l)) → Q (.ref t) H'
def rd_l_loop_parts (K : PySem.W.Frag) : TS := tSeq (tAsg (tOp (rIxL K) (tLst (tCons (tC (.int 2)) (tCons (tC (.int 2)) (tCons (tC (.int 3)) (tCons (tC (.int 4)) (tNil)))))) (tOp FW.rMod (tCB FW.rInt1 (tCons (tOp (rIxL K) (tVar 0) (tVar 1)) (tNil))) (tC (.int 4)))) (gName 2)) (tSeq (tAsg (tCall (sp_l_weights2 K) [] E0 (tCons (tVar 2) (tNil))) (gName 3)) (tSeq (tAsg (tOp (rIxL K) (tVar 3) (tOp FW.rMod (tCB FW.rInt1 (tCons (tOp (rIxL K) (tVar 0) (tOp FW.rAdd (tVar 1) (tC (.int 1)))) (tNil))) (tCB (Evl.rLenS K) (tCons (tVar 3) (tNil))))) (gTup K 2 (gCons (gName 4) (gCons (gName 5) (gNil))))) (tSeq (tIfS (tTest (tOp rEq (tOp FW.rMod (tOp FW.rDiv (tCB FW.rInt1 (tCons (tOp (rIxL K) (tVar 0) (tOp FW.rAdd (tVar 1) (tC (.int 1)))) (tNil))) (tC (.int 32))) (tC (.int 2))) (tC (.int 0)))) (tPar 4 5 (tCons (tOp FW.rSub (tVar 2) (tC (.int 1))) (tCons (tC (.int 1)) (tNil)))) (tNext)) (tSeq (tAsg (tOp FW.rSub (tOp FW.rMod (tCB FW.rInt1 (tCons (tOp (rIxL K) (tVar 0) (tOp FW.rAdd (tVar 1) (tC (.int 2)))) (tNil))) (tOp FW.rAdd (tOp FW.rAdd (tOp FW.rMul (tC (.int 2)) (tVar 4)) (tVar 5)) (tC (.int 1)))) (tVar 4)) (gName 6)) (tSeq (tIfS (tTest (tOp rEq (tOp FW.rMod (tOp FW.rDiv (tCB FW.rInt1 (tCons (tOp (rIxL K) (tVar 0) (tOp FW.rAdd (tVar 1) (tC (.int 2)))) (tNil))) (tC (.int 32))) (tC (.int 3))) (tC (.int 0)))) (tAsg (tC (.int 0)) (gName 6)) (tNext)) (tSeq (tAsg (tOp (rIxL K) (tLst (tCons (tC (.str "notless")) (tCons (tC (.str "equal")) (tCons (tC (.str "near1")) (tCons (tC (.str "near2")) (tCons (tC (.str "back")) (tCons (tC (.str "under")) (tCons (tC (.str "held")) (tNil))))))))) (tOp FW.rMod (tCB FW.rInt1 (tCons (tOp (rIxL K) (tVar 0) (tOp FW.rAdd (tVar 1) (tC (.int 3)))) (tNil))) (tC (.int 7)))) (gName 7)) (tSeq (tAsg (tOp (rIxL K) (tLst (tCons (tC (.str "old")) (tCons (tC (.str "new")) (tCons (tC (.str "less")) (tCons (tC (.str "more")) (tNil)))))) (tOp FW.rMod (tCB FW.rInt1 (tCons (tOp (rIxL K) (tVar 0) (tOp FW.rAdd (tVar 1) (tC (.int 4)))) (tNil))) (tC (.int 4)))) (gName 8)) (tSeq (tIfS (tTest (tOp (rIn K false) (tVar 7) (tLst (tCons (tC (.str "under")) (tCons (tC (.str "held")) (tNil)))))) (tAsg (tC (.str "old")) (gName 8)) (tNext)) (tRet (tLst (tCons (tVar 2) (tCons (tVar 4) (tCons (tVar 5) (tCons (tVar 6) (tCons (tVar 7) (tCons (tVar 8) (tCons (tOp (rIxL K) (tLst (tCons (tC (.str "none")) (tCons (tC (.str "down")) (tCons (tC (.str "up")) (tCons (tC (.str "both")) (tNil)))))) (tOp FW.rMod (tCB FW.rInt1 (tCons (tOp (rIxL K) (tVar 0) (tOp FW.rAdd (tVar 1) (tC (.int 5)))) (tNil))) (tC (.int 4)))) (tNil))))))))))))))))))
section
variable {K : PySem.W.Frag} {H : Hp} {Q : VK} {L s : Addr} {xs : List Int} {N : Nat} {a k wa wc d : Int} {u6 u7 u8 : Option V} {D : Ends}
/-- what is known of the numbers -/
structure Nums (k wa wc : Int) : Prop where
  k2 : 2 ≤ k
  k4 : k ≤ 4
  c1 : 1 ≤ wc
  c3 : wc ≤ 3
  ca : wc * (k - 1) ≤ wa
  ac : wa + wc ≤ 6
  a1 : 1 ≤ wa
  a5 : wa ≤ 5
theorem lp_t6 (hL : H L = some (.lst (xs.map V.int))) (hr : Row xs N) (a0 : 0 ≤ a) (aN : a + 6 ≤ N) (w : Nums k wa wc) (d0 : -wa ≤ d) (d1 : d ≤ wa + wc)
    (q : ∀ t l H', l.Ok → H t = none → Ext H H' → H' t = some (.lst (Lp.V l)) → D.rt (.ref t) H') :
    (tSeq (tAsg (tOp (rIxL K) (tLst (tCons (tC (.str "notless")) (tCons (tC (.str "equal")) (tCons (tC (.str "near1")) (tCons (tC (.str "near2")) (tCons (tC (.str "back")) (tCons (tC (.str "under")) (tCons (tC (.str "held")) (tNil))))))))) (tOp FW.rMod (tCB FW.rInt1 (tCons (tOp (rIxL K) (tVar 0) (tOp FW.rAdd (tVar 1) (tC (.int 3)))) (tNil))) (tC (.int 7)))) (gName 7)) (tSeq (tAsg (tOp (rIxL K) (tLst (tCons (tC (.str "old")) (tCons (tC (.str "new")) (tCons (tC (.str "less")) (tCons (tC (.str "more")) (tNil)))))) (tOp FW.rMod (tCB FW.rInt1 (tCons (tOp (rIxL K) (tVar 0) (tOp FW.rAdd (tVar 1) (tC (.int 4)))) (tNil))) (tC (.int 4)))) (gName 8)) (tSeq (tIfS (tTest (tOp (rIn K false) (tVar 7) (tLst (tCons (tC (.str "under")) (tCons (tC (.str "held")) (tNil)))))) (tAsg (tC (.str "old")) (gName 8)) (tNext)) (tRet (tLst (tCons (tVar 2) (tCons (tVar 4) (tCons (tVar 5) (tCons (tVar 6) (tCons (tVar 7) (tCons (tVar 8) (tCons (tOp (rIxL K) (tLst (tCons (tC (.str "none")) (tCons (tC (.str "down")) (tCons (tC (.str "up")) (tCons (tC (.str "both")) (tNil)))))) (tOp FW.rMod (tCB FW.rInt1 (tCons (tOp (rIxL K) (tVar 0) (tOp FW.rAdd (tVar 1) (tC (.int 5)))) (tNil))) (tC (.int 4)))) (tNil))))))))))))) D [some (.ref L), some (.int a), some (.int k), some (.ref s), some (.int wa), some (.int wc), some (.int d), u7, u8] H := by
  have sL : ∀ {H' : Hp}, Ext H H' → SqL K H' L (xs.map V.int) := fun e => SqL.of (e _ _ hL)
  obtain ⟨k2, k4, c1, c3, ca, ac, a1, a5⟩ := w
  with_reducible refine s_seq ?_
  with_reducible refine s_asg ?_
  refine e_pickC (vs := stopsV) (fun R h => by walk_at "rd"; exact h) (by decide) (fun H1 R e1 h => e_rowM rfl (sL e1) hr (fun R h => e_ixp rfl h) (by omega) (by omega) (by decide) h) fun v H1 hv e1 => ?_
  obtain ⟨ws, rfl⟩ := strs_stops v hv
  with_reducible refine s_seq ?_
  with_reducible refine s_asg ?_
  refine e_pickC (vs := toldsV) (fun R h => by walk_at "rd"; exact h) (by decide) (fun H2 R e2 h => e_rowM rfl (sL (e1.tr e2)) hr (fun R h => e_ixp rfl h) (by omega) (by omega) (by decide) h) fun v H2 hv2 e2 => ?_
  obtain ⟨wt, rfl⟩ := strs_tolds v hv2
  have last : ∀ (tt : Str) (H3 : Hp), Ext H H3 → V.str tt ∈ toldsV → (V.str ws ∈ looksV → tt = "old") → ∀ D' : Ends, D'.rt = D.rt → (tRet (tLst (tCons (tVar 2) (tCons (tVar 4) (tCons (tVar 5) (tCons (tVar 6) (tCons (tVar 7) (tCons (tVar 8) (tCons (tOp (rIxL K) (tLst (tCons (tC (.str "none")) (tCons (tC (.str "down")) (tCons (tC (.str "up")) (tCons (tC (.str "both")) (tNil)))))) (tOp FW.rMod (tCB FW.rInt1 (tCons (tOp (rIxL K) (tVar 0) (tOp FW.rAdd (tVar 1) (tC (.int 5)))) (tNil))) (tC (.int 4)))) (tNil)))))))))) D' [some (.ref L), some (.int a), some (.int k), some (.ref s), some (.int wa), some (.int wc), some (.int d), some (.str ws), some (.str tt)] H3 := by
    intro tt H3 e3 htt hlk D' hD
    walk_at "rd"
    refine ⟨by show 4 ≤ sizeLine; decide, fun p hp => ?_⟩
    refine e_rowM rfl (sL (e3.tr (Ext.new hp))) hr (fun R h => e_ixp rfl h) (by omega) (by omega) (by decide) fun y y0 y1 => ?_
    obtain ⟨v, hvm, hat⟩ := list_at (xs := [V.str "none", V.str "down", V.str "up", V.str "both"]) (i := y) y0 y1
    obtain ⟨wm, rfl, hwm⟩ : ∃ x, v = .str x ∧ V.str x ∈ mendsV := by
      simp only [List.mem_cons, List.not_mem_nil, or_false] at hvm
      rcases hvm with rfl | rfl | rfl | rfl <;> exact ⟨_, rfl, by simp [mendsV]⟩
    refine e_ixL ?_ (SqL.of upd_same) hat
    walk_at "rd"
    refine ⟨by show 7 ≤ sizeLine; decide, fun t ht => ?_⟩
    rw [hD]
    exact q t ⟨k, wa, wc, d, ws, tt, wm⟩ _ ⟨by show k = 2 ∨ k = 3 ∨ k = 4; omega, a1, a5, c1, c3, ca, ac, d0, d1, hv, htt, hlk, hwm⟩ ((e3.tr (Ext.new hp)).non ht) ((e3.tr (Ext.new hp)).tr (Ext.new ht)) upd_same
  walk_at "rd"
  refine ⟨by show 2 ≤ sizeLine; decide, fun p hp => ?_⟩
  have e3 := (e1.tr e2).tr (Ext.new (o := .lst [V.str "under", V.str "held"]) hp)
  refine e_in ?_ (.inl (SqL.of upd_same)) rfl rfl
  generalize upd H2 p (.lst [V.str "under", V.str "held"]) = H3 at *
  rw [if_neg (by decide)]
  have e := inV_str ws strs_looks
  rw [show inV (V.str ws) [V.str "under", V.str "held"] = inV (V.str ws) looksV from rfl, e]
  walk_at "re"
  refine e_ite (fun h => ?_) fun h => ?_
  · with_reducible refine s_asg ?_
    refine e_c ?_
    exact last "old" H3 e3 (by simp [toldsV]) (fun _ => rfl) _ rfl
  · with_reducible refine s_next ?_
    exact last wt H3 e3 hv2 (fun z => absurd z h) _ rfl
theorem lp_t4 (hL : H L = some (.lst (xs.map V.int))) (hr : Row xs N) (a0 : 0 ≤ a) (aN : a + 6 ≤ N) (w : Nums k wa wc)
    (q : ∀ t l H', l.Ok → H t = none → Ext H H' → H' t = some (.lst (Lp.V l)) → D.rt (.ref t) H') :
    (tSeq (tAsg (tOp FW.rSub (tOp FW.rMod (tCB FW.rInt1 (tCons (tOp (rIxL K) (tVar 0) (tOp FW.rAdd (tVar 1) (tC (.int 2)))) (tNil))) (tOp FW.rAdd (tOp FW.rAdd (tOp FW.rMul (tC (.int 2)) (tVar 4)) (tVar 5)) (tC (.int 1)))) (tVar 4)) (gName 6)) (tSeq (tIfS (tTest (tOp rEq (tOp FW.rMod (tOp FW.rDiv (tCB FW.rInt1 (tCons (tOp (rIxL K) (tVar 0) (tOp FW.rAdd (tVar 1) (tC (.int 2)))) (tNil))) (tC (.int 32))) (tC (.int 3))) (tC (.int 0)))) (tAsg (tC (.int 0)) (gName 6)) (tNext)) (tSeq (tAsg (tOp (rIxL K) (tLst (tCons (tC (.str "notless")) (tCons (tC (.str "equal")) (tCons (tC (.str "near1")) (tCons (tC (.str "near2")) (tCons (tC (.str "back")) (tCons (tC (.str "under")) (tCons (tC (.str "held")) (tNil))))))))) (tOp FW.rMod (tCB FW.rInt1 (tCons (tOp (rIxL K) (tVar 0) (tOp FW.rAdd (tVar 1) (tC (.int 3)))) (tNil))) (tC (.int 7)))) (gName 7)) (tSeq (tAsg (tOp (rIxL K) (tLst (tCons (tC (.str "old")) (tCons (tC (.str "new")) (tCons (tC (.str "less")) (tCons (tC (.str "more")) (tNil)))))) (tOp FW.rMod (tCB FW.rInt1 (tCons (tOp (rIxL K) (tVar 0) (tOp FW.rAdd (tVar 1) (tC (.int 4)))) (tNil))) (tC (.int 4)))) (gName 8)) (tSeq (tIfS (tTest (tOp (rIn K false) (tVar 7) (tLst (tCons (tC (.str "under")) (tCons (tC (.str "held")) (tNil)))))) (tAsg (tC (.str "old")) (gName 8)) (tNext)) (tRet (tLst (tCons (tVar 2) (tCons (tVar 4) (tCons (tVar 5) (tCons (tVar 6) (tCons (tVar 7) (tCons (tVar 8) (tCons (tOp (rIxL K) (tLst (tCons (tC (.str "none")) (tCons (tC (.str "down")) (tCons (tC (.str "up")) (tCons (tC (.str "both")) (tNil)))))) (tOp FW.rMod (tCB FW.rInt1 (tCons (tOp (rIxL K) (tVar 0) (tOp FW.rAdd (tVar 1) (tC (.int 5)))) (tNil))) (tC (.int 4)))) (tNil))))))))))))))) D [some (.ref L), some (.int a), some (.int k), some (.ref s), some (.int wa), some (.int wc), u6, u7, u8] H := by
  have a1 := w.a1; have a5 := w.a5; have c1 := w.c1; have c3 := w.c3; have ac := w.ac
  with_reducible refine s_seq ?_
  with_reducible refine s_asg ?_
  refine e_op (e_op (e_rowI rfl (SqL.of hL) hr (fun R h => e_ixp rfl h) (by omega) (by omega) fun y y0 y1 => ?_))
  walk_at "re"
  · with_reducible refine s_seq ?_
    with_reducible refine s_if ?_
    refine e_test (e_op (e_rowD rfl (SqL.of hL) hr (fun R h => e_ixp rfl h) (by omega) (by omega) (by decide) (by decide) (by decide) fun z z0 z1 => ?_))
    walk_at "re"
    have m0 := Int.emod_nonneg y (b := 2 * wa + wc + 1) (by omega)
    have m1 := Int.emod_lt_of_pos y (b := 2 * wa + wc + 1) (by omega)
    refine e_ite (fun h => ?_) fun h => ?_
    · with_reducible refine s_asg ?_
      refine e_c ?_
      exact lp_t6 hL hr a0 aN w (by omega) (by omega) q
    · with_reducible refine s_next ?_
      exact lp_t6 hL hr a0 aN w (by omega) (by omega) q
  · show 0 < 2 * wa + wc + 1
    omega
  · exact wide_mul (a := 10) (b := 10) (by decide) (by omega) (by decide) (by decide) (by decide)
end
theorem pure_l_loop_parts (K : PySem.W.Frag) (vs : List V) (H : Hp) (Q : VK) (E : XK) (h : sp_l_loop_parts K vs H Q E) : rd_l_loop_parts K { nx := fun _ H' => Q .non H', rt := Q } (start ["_law_row_here", "_law_at", "_law_k", "_law_some", "_law_a", "_law_c", "_law_d", "_law_stop", "_law_told"] vs) H := by
  obtain ⟨L, xs, N, a, rfl, hL, hr, a0, aN, q⟩ := h
  have sL : ∀ {H' : Hp}, Ext H H' → SqL K H' L (xs.map V.int) := fun e => SqL.of (e _ _ hL)
  unfold rd_l_loop_parts
  with_reducible refine s_seq ?_
  with_reducible refine s_asg ?_
  refine e_pickC (vs := [.int 2, .int 2, .int 3, .int 4]) (fun R h => by walk_at "rd"; exact h) (by decide) (fun H1 R e1 h => e_rowM rfl (sL e1) hr (fun R h => e_ixv rfl h) a0 (by omega) (by decide) h) fun v H1 hv e1 => ?_
  obtain ⟨k, rfl, k2, k4⟩ : ∃ k : Int, v = .int k ∧ 2 ≤ k ∧ k ≤ 4 := by
    simp only [List.mem_cons, List.not_mem_nil, or_false] at hv
    rcases hv with rfl | rfl | rfl | rfl <;> exact ⟨_, rfl, by decide, by decide⟩
  walk_at "rd"
  refine ⟨k, rfl, k2, k4, fun s ts H2 hs e2 hts hpr => ?_⟩
  have e12 := e1.tr e2
  obtain ⟨w1, w2⟩ := weights2_ne k2 k4
  have hlen := hpr.len
  with_reducible refine s_seq ?_
  with_reducible refine s_asgG ?_
  refine e_op (e_var (e_op (e_rowI rfl (sL e12) hr (fun R h => e_ixp rfl h) (by omega) (by omega) fun y y0 y1 => ?_)) rfl)
  refine e_cb (e_cons (e_var (e_nil (e_len (e_I ?_ (by show 0 < (ts.length : Int); omega)) (.inl (SqL.of hts)))) rfl))
  obtain ⟨v, hv, hat⟩ := list_at (xs := ts) (i := y % (ts.length : Int)) (Int.emod_nonneg _ (by omega)) (Int.emod_lt_of_pos _ (by omega))
  refine e_ixL ?_ (SqL.of hts) hat
  obtain ⟨⟨wa, wc⟩, hw, t, rfl, ht⟩ := hpr.mem hv
  obtain ⟨c1, c3, ca, ac, a1, a5⟩ := weights2_ok k2 k4 _ hw
  dsimp only at c1 c3 ca ac a1 a5 ht
  refine g_tup ?_ (SqT.of ht) rfl
  walk_at "re"
  with_reducible refine s_seq ?_
  with_reducible refine s_if ?_
  refine e_test (e_op (e_rowD rfl (sL e12) hr (fun R h => e_ixp rfl h) (by omega) (by omega) (by decide) (by decide) (by decide) fun z z0 z1 => ?_))
  walk_at "re"
  have q' : ∀ t l H', l.Ok → H2 t = none → Ext H2 H' → H' t = some (.lst (Lp.V l)) → Q (.ref t) H' := fun t l H' o h1 h2 h3 => q t l H' o (e12.non h1) (e12.tr h2) h3
  refine e_ite (fun h => ?_) fun h => ?_
  · with_reducible refine s_par ?_
    walk_at "re"
    exact lp_t4 (e12 _ _ hL) hr a0 aN ⟨k2, k4, by decide, by decide, by omega, by omega, by omega, by omega⟩ q'
  · with_reducible refine s_next ?_
    exact lp_t4 (e12 _ _ hL) hr a0 aN ⟨k2, k4, c1, c3, ca, ac, a1, a5⟩ q'
end FWL
namespace FWL
open PySem PySem.Spec PyProof.Rows L2 FW
/-! ### odd things, and errors that are told of them -/
def OddX (H : Hp) (v : V) : Prop := (∃ i, v = .int i) ∨ (∃ b, v = .bl b) ∨ v = .non ∨ (∃ s, v = .str s ∧ PyData.canLay0 (.str s) = true) ∨ (∃ a i, v = .ref a ∧ H a = some (.lst [.int i])) ∨ (∃ a i, v = .ref a ∧ H a = some (.tup [.int i]))
theorem OddX.keep {H H' : Hp} {v : V} (h : OddX H v) (e : ∀ b o, H b = some o → (∀ ps, o ≠ .tbl ps) → H' b = some o) : OddX H' v := by
  rcases h with h | h | h | h | ⟨a, i, rfl, h⟩ | ⟨a, i, rfl, h⟩
  · exact .inl h
  · exact .inr (.inl h)
  · exact .inr (.inr (.inl h))
  · exact .inr (.inr (.inr (.inl h)))
  · exact .inr (.inr (.inr (.inr (.inl ⟨a, i, rfl, e _ _ h (fun _ z => by cases z)⟩))))
  · exact .inr (.inr (.inr (.inr (.inr ⟨a, i, rfl, e _ _ h (fun _ z => by cases z)⟩))))
theorem OddX.ext {H H' : Hp} {v : V} (h : OddX H v) (e : Ext H H') : OddX H' v := h.keep fun b o q _ => e b o q
theorem OddX.extN {H H' : Hp} {v : V} (h : OddX H v) (e : LamX.ExtN H H') : OddX H' v := h.keep fun b o q n => e b o q n
theorem shW {w : Str} {d : PyData} (hw : PyData.canLay0 (.str w) = true) (hd : PyData.canLay0 d = true) (dp : PyData.depth d ≤ 5) : SeqAt.shaped (.tuple [.str w, d]) = true := by
  unfold SeqAt.shaped
  rw [PyData.canLay0, PyData.canLayAll0, PyData.canLayAll0, PyData.canLayAll0, hw, hd]
  have : PyData.depth (.tuple [.str w, d]) ≤ 64 := by
    rw [PyData.depth, PyData.depthAll, PyData.depthAll, PyData.depthAll]
    have : PyData.depth (.str w) = 0 := rfl
    omega
  rw [decide_eq_true this]; rfl
theorem OddX.good {K : PySem.W.Frag} {H : Hp} {v : V} (h : OddX H v) (w : Str) (hw : PyData.canLay0 (.str w) = true) : ∃ n d, WT K H v n ∧ Dp K H v d ∧ SeqAt.shaped (.tuple [.str w, d]) = true := by
  rcases h with ⟨i, rfl⟩ | ⟨b, rfl⟩ | rfl | ⟨s, rfl, hs⟩ | ⟨a, i, rfl, h⟩ | ⟨a, i, rfl, h⟩
  · exact ⟨_, .int i, WT.i i, .int i, shW hw rfl (by show 0 ≤ 5; decide)⟩
  · exact ⟨_, .bool b, WT.bl b, .bl b, shW hw rfl (by show 0 ≤ 5; decide)⟩
  · exact ⟨_, .none, WT.non, .non, shW hw rfl (by show 0 ≤ 5; decide)⟩
  · exact ⟨_, .str s, WT.s _, .str _, shW hw hs (by show 0 ≤ 5; decide)⟩
  · exact ⟨_, .list [.int i], WT.lst h, .lst (SqL.of h) (.cons (.int i) .nil), shW hw rfl (by show 1 ≤ 5; decide)⟩
  · exact ⟨_, .tuple [.int i], WT.tup h, .tup (SqT.of h) (.cons (.int i) .nil), shW hw rfl (by show 1 ≤ 5; decide)⟩
/-- (w, v) told twice is the same -/
theorem told_eq {K : PySem.W.Frag} {H : Hp} {Q : VK} {s t : Addr} {w : Str} {v : V} (hs : H s = some (.tup [.str w, v])) (ht : H t = some (.tup [.str w, v])) (hv : OddX H v) (hw : PyData.canLay0 (.str w) = true) (k : Q (.bl true) H) : rEqD K (.ref s) (.ref t) H Q := by
  obtain ⟨n, d, _, hd, sh⟩ := hv.good (K := K) w hw
  refine e_eqD ?_ (.tup (SqT.of hs) (.cons (.str w) (.cons hd .nil))) (.tup (SqT.of ht) (.cons (.str w) (.cons hd .nil))) sh sh
  rw [SeqAt.eqv_refl _ (SeqAt.canLay_of_shaped sh)]
  exact k
theorem told_ne {K : PySem.W.Frag} {H : Hp} {Q : VK} {s t : Addr} {w : Str} {v : V} (hs : H s = some (.tup [.str w, v])) (ht : H t = some (.tup [.str w, v])) (hv : OddX H v) (hw : PyData.canLay0 (.str w) = true) (k : Q (.bl false) H) : rNeD K (.ref s) (.ref t) H Q := by
  obtain ⟨n, d, _, hd, sh⟩ := hv.good (K := K) w hw
  refine e_neD ?_ (.tup (SqT.of hs) (.cons (.str w) (.cons hd .nil))) (.tup (SqT.of ht) (.cons (.str w) (.cons hd .nil))) sh sh
  rw [SeqAt.eqv_refl _ (SeqAt.canLay_of_shaped sh)]
  exact k
/-! ### pairs of ints -/
def prD (p : Int × Int) : PyData := .tuple [.int p.1, .int p.2]
theorem dpP {K : PySem.W.Frag} {H : Hp} : ∀ {vs : List V} {ps : List (Int × Int)}, Prs H vs ps → DpAll K H vs (ps.map prD)
  | [], [], _ => .nil
  | _ :: _, p :: ps, ⟨⟨t, rfl, ht⟩, r⟩ => .cons (.tup (SqT.of ht) (.cons (.int _) (.cons (.int _) .nil))) (dpP r)
theorem layP : ∀ ps : List (Int × Int), PyData.canLayAll0 (ps.map prD) = true
  | [] => rfl
  | p :: ps => by rw [List.map_cons, PyData.canLayAll0, layP ps]; rfl
theorem depP : ∀ ps : List (Int × Int), PyData.depthAll (ps.map prD) ≤ 1
  | [] => by decide
  | p :: ps => by
    have := depP ps
    rw [List.map_cons, PyData.depthAll]
    have e : PyData.depth (prD p) = 1 := rfl
    rw [e]
    omega
theorem shP (ps : List (Int × Int)) : SeqAt.shaped (.list (ps.map prD)) = true := by
  have := depP ps
  unfold SeqAt.shaped
  rw [PyData.canLay0, layP, PyData.depth]
  simp
  omega
theorem Prs.split {H : Hp} : ∀ {vs : List V} {ps : List (Int × Int)} {p : Int × Int}, Prs H vs (ps ++ [p]) → ∃ vs0 t, vs = vs0 ++ [.ref t] ∧ Prs H vs0 ps ∧ H t = some (.tup [.int p.1, .int p.2])
  | [], [], _, h => by cases h
  | [_], [], p, ⟨⟨t, e, ht⟩, _⟩ => ⟨[], t, by rw [e]; rfl, True.intro, ht⟩
  | v :: w :: vs, [], p, ⟨_, h⟩ => by cases h
  | [], q :: ps, p, h => by cases h
  | v :: vs, q :: ps, p, ⟨hq, h⟩ => by
    obtain ⟨vs0, t, rfl, h1, h2⟩ := Prs.split h
    exact ⟨v :: vs0, t, rfl, ⟨hq, h1⟩, h2⟩
theorem Prs.but {H H' : Hp} {L : Addr} {xs : List V} (hL : H L = some (.lst xs)) (e : ∀ b o, b ≠ L → H b = some o → H' b = some o) : ∀ {vs : List V} {ps : List (Int × Int)}, Prs H vs ps → Prs H' vs ps
  | [], [], _ => True.intro
  | _ :: _, _ :: _, ⟨⟨t, h1, h2⟩, r⟩ => ⟨⟨t, h1, e _ _ (ne_of h2 hL (fun z => by cases z)) h2⟩, Prs.but hL e r⟩
end FWL
/-! own errors without a field: class X(FloorError): def __init__(self): super().__init__('..') -/
namespace PySem
namespace ErrX
open PySem.W PySem.Calls PyProof.Rows PySem.HandSPX
def eA0 (p1 : Pos) : Arguments := { posonlyargs := [], args := [{ arg := "self", annotation := none, pos := p1 }], vararg := none, kwonlyargs := [], kw_defaults := [], kwarg := none, defaults := [] }
def eB0 (txt : Str) (q1 q2 q3 q4 q5 q6 : Pos) : List Stmt := [.Expr (.Call (.Attribute (.Call (.Name "super" q1) [] [] q2) "__init__" q3) [.Constant (.str txt) 0 q4] [] q5) q6]
def eS0 : Scope := { kind := .function, names := [("self", .local), ("__class__", .free), ("super", .globalImplicit)], isGenerator := false, isCoroutine := false, more := [] }
structure ErrC0 (prog : Program) (K : Frag) (C fI : Addr) : Prop where
  cls : ∃ nm q N bs bm sn sub ab col dd k0 k1 k2 k3 k5, K.lookup C = some (excClassObj nm q C N bs bm true sn sub ab col dd k0 k1 k2 k3 k5 "ValueError.__new__") ∧ refsVE bm = true
  iC : findIn K (.ref C) "__init__" = some (some (.ref fI))
  tC : typeIn K (.ref fI) = some (.type "function")
  kC : keepIn K (.ref C) = true
  exC : subIn K (.ref C) (.type "BaseException") = some true
  veC : subIn K (.ref C) (.type "ValueError") = some true
  tyC : typeIn K (.ref C) = some (.type "type")
  mro : mroIn K C (.ref C) = some true
  sup : nsIn K mainGlobals "super" = some none
  tp : nsIn K cStatics "thirdparty.any" = some none
  si : ks_superIn K C C "__init__" = some (some (.builtin "ValueError.__init__"))
  top : (prog.main.scope.names.lookup ("super" : Str)).isSome = false
  fn : ∃ (cc cda : Addr) (qual : Str) (oc : Value) (od : Option Addr) (kV doc pm : Value) (an : Option Addr) (ct : Value) (osl : Array (Option Value)) (txt : Str) (p1 q1 q2 q3 q4 q5 q6 : Pos) (cl ccl : Value) (cld cdd : Option Addr) (csl ccs : Array (Option Value)) (vs : Array Value) (tf : Tok), (q3.endLine == q5.line) = true ∧
    K.lookup fI = some ⟨oc, od, .func (ksFn "__init__" qual (eA0 p1) (eB0 txt q1 q2 q3 q4 q5 q6) eS0 .none kV doc pm an (.ref cda) ct cc), osl⟩ ∧ codeIn K (.ref cda) qual = true ∧
    K.lookup cc = some ⟨cl, cld, .cell (some (.ref C)), csl⟩ ∧ K.lookup cda = some ⟨ccl, cdd, .fields vs, ccs⟩ ∧ vs[2]? = some (.str prog.main.file tf)
/-- a made one -/
structure OwnMade0 (h h' : Heap) (e C : Addr) : Prop where
  keep : ∀ b o, h.get? b = some o → h'.get? b = some o
  new : h.objs.size ≤ e
  obj : ∃ oe vs, h'.get? e = some oe ∧ oe.cls = .ref C ∧ oe.dict = none ∧ oe.data = .fields vs ∧ vs[1]? = some .none ∧ vs[2]? = some .none
section
variable {prog : Program} {w : World} {A : Around} {E : Value → Shared → Prop} {R : Result → Shared → Prop} {s : Shared} {K : Frag} {mg mb : Str → Option Value} {C fI : Addr}
theorem err0_init (T : ErrC0 prog K C fI) {x t0 : Addr} (X : K.In s.heap) (hlim : s.heap.NoLimit) (G : s.heap.Ns mainGlobals mg) (B : s.heap.Ns builtinsNs mb) (hB : ∀ x : Str, x ≠ "__name__" → mb x = bootBuiltins x)
    (hx : s.heap.get? x = some (excO C t0)) (hroom : A.depth < recursionLimit)
    (hq : ∀ h' tk t1, (∀ b o, b ≠ x → s.heap.get? b = some o → h'.get? b = some o) → h'.get? x = some (excO C t1) → R (.ok (.ret .none)) { s with heap := h', toks := tk }) :
    codeAny (model prog w) A (.call (.ref fI) ⟨[.ref x], []⟩) R s := by
  obtain ⟨cc, cda, qual, oc, od, kV, doc, pm, an, ct, osl, txt, p1, q1, q2, q3, q4, q5, q6, cl, ccl, cld, cdd, csl, ccs, vs, tf, hln, ho, hcd, hcc, hcda, hvs⟩ := T.fn
  obtain ⟨nm, q, N, bs, bm, sn, sub, ab, col, dd, k0, k1, k2, k3, k5, hC, hbm⟩ := T.cls
  have hcl : clsIn K C = some { name := nm, bases := bs, mro := .ref C :: bm, ns := N, qualname := q, hasDict := true, slotNames := sn, subclasses := sub, abstract := ab, collection := col, hasDel := false } := by unfold clsIn; rw [hC] <;> rfl
  obtain ⟨hp, g, d, tk, os⟩ := s
  have hsi : alongIn K "__init__" ((((Value.ref C :: bm)).dropWhile (· != .ref C)).drop 1) = some (some (.builtin "ValueError.__init__")) := by
    have z := T.si
    unfold ks_superIn at z
    rw [hcl] at z
    exact z
  refine ks_codeAny_call_defAt (fd := ksFn "__init__" qual (eA0 p1) (eB0 txt q1 q2 q3 q4 q5 q6) eS0 .none kV doc pm an (.ref cda) ct cc) (body := eB0 txt q1 q2 q3 q4 q5 q6) (binds := [("self", .ref x)])
    hroom (X _ _ ho) rfl hlim (codeRec_of X hcd) rfl (BindsTo.of_eq (by first | rfl | with_unfolding_all rfl)) (fun y hy => (show ∀ y ∈ eS0.names, y.2 ≠ .cell by decide) y hy)
    (fun y hy => by
      rcases List.mem_cons.mp hy with rfl | hy
      · rfl
      · cases hy) (fun h₁ hns hk₁ => ?_) rfl rfl rfl
  have X₁ : K.In h₁ := X.keeps hk₁
  have hx₁ := hk₁ _ _ hx
  show wpAt _ _ _ (execs (_ :: _) _) _ _ _
  refine ks_wpAt_execs_cons (ks_wpAt_Expr_any (ks_wpAt_MethodCall ?_ (eval_mc hln)))
  refine ks_wpAt_super_base (f := fI) (cc := cda) (ar := { arg := "self", annotation := none, pos := p1 }) rfl rfl (by decide) rfl (X₁ _ _ ho) rfl rfl rfl (X₁ _ _ hcda) rfl hvs (beq_self_eq_true _) T.top ?_
  refine ks_loadName_global rfl rfl (loadGlobal_builtin (G.keeps hk₁) (mg_none_of X G T.sup) (B.keeps hk₁) ((hB _ (by decide)).trans (by first | boot_by_name | rfl | kernel_rfl)) ⟨rfl, ?_⟩)
  refine wpAny_loadName_free rfl rfl rfl ⟨_, X₁ _ _ hcc, rfl⟩ ?_
  refine wpAny_loadName_local rfl rfl hns (by rfl) ?_
  refine ks_wpAny_isType_cls (X₁ _ _ hC) rfl ⟨rfl, ?_⟩
  refine ks_wpAny_call_super (X₁ _ _ hC) rfl hx₁ rfl (fun c e => by cases e) (looks_mroIn X₁ T.mro) (fun h₂ hso k₂ => ?_)
  have X₂ : K.In h₂ := X₁.keeps k₂
  have hx₂ := k₂ _ _ hx₁
  have I₂ : InstAt h₂ x (excO C t0) C none := ⟨hx₂, rfl, rfl, trivial⟩
  refine kxs_getMethod kxs_ValueError hso (looks_opaque X₂ T.tp) (l₀ := .ref C :: bm) (fun A Q E s k q => wpAny_bind ((looks_clsIn X₂ hcl) A _ E s k (wpAny_pure q))) rfl X₂ hsi (I₂.type.andThen (looks_subIn X₂ T.veC)) (ks_ne X₂ I₂ hcl) (by decide) ?_
  have k₃ : ∀ b o, h₂.get? b = some o → (h₂.push (kxs_mw "ValueError.__init__" x)).get? b = some o := fun b o e => Heap.get?_push_of_some _ e
  have hmw : (h₂.push (kxs_mw "ValueError.__init__" x)).get? h₂.objs.size = some (kxs_mw "ValueError.__init__" x) := Heap.get?_push_at rfl rfl
  refine kxs_callWith (i := "ValueError.__init__") (x := x) rfl (evalArgs_plain (Calls.spliced_cons ?_))
  show wpAny _ _ (eval (.Constant (.str txt) 0 q4) _) _ _ _
  refine Calls.Constant_str (Calls.spliced_nil ⟨hmw, ?_⟩)
  refine call_mw ((X₂.keeps k₃) _ _ hC) (k₃ _ _ hx₂) hmw (by show 1 ≤ sizeLine; decide) (fun h₄ t1 k₄ hx₄ => ?_)
  refine wpAt_of_wpAny ?_
  show wpAny _ _ (execs [] _) _ _ _
  exact wpAny_execs_nil (hq h₄ _ t1 (fun b o hb e => k₄ b o hb (k₃ _ _ (k₂ _ _ (hk₁ _ _ e)))) hx₄)
theorem err0_made (T : ErrC0 prog K C fI) (X : K.In s.heap) (hlim : s.heap.NoLimit) (G : s.heap.Ns mainGlobals mg) (B : s.heap.Ns builtinsNs mb) (hB : ∀ x : Str, x ≠ "__name__" → mb x = bootBuiltins x) (hroom : A.depth + 1 < recursionLimit)
    (hq : ∀ h' tk e, OwnMade0 s.heap h' e C → R (.ok (.ret (.ref e))) { s with heap := h', toks := tk }) :
    codeAny (model prog w) A (.call (.ref C) ⟨[], []⟩) R s := by
  obtain ⟨nm, q, N, bs, bm, sn, sub, ab, col, dd, k0, k1, k2, k3, k5, hC, hbm⟩ := T.cls
  obtain ⟨hp, g, dr, tk, os⟩ := s
  have k : ∀ b o, hp.get? b = some o → ((hp.push (kdv_tup [])).push (excO C hp.objs.size)).get? b = some o := fun b o e => Heap.get?_push_of_some _ (Heap.get?_push_of_some _ e)
  have hget : ((hp.push (kdv_tup [])).push (excO C hp.objs.size)).get? (hp.objs.size + 1) = some (excO C hp.objs.size) := by heap_get
  refine call_own F.excBase_ValueError (fun X => refsVE_contains X bm hbm) (X _ _ hC) (looks_findIn X T.iC) (fun self => bind_fn X self T.tC) (by show 0 ≤ sizeLine; decide) ?_
  refine err0_init (s := ⟨(hp.push (kdv_tup [])).push (excO C hp.objs.size), g, dr, tk, os⟩) T (X.keeps k) (hlim.keeps k) (G.keeps k) (B.keeps k) hB hget ?_ fun h' tk' t1 k' hx => ?_
  · show A.depth + 1 < recursionLimit
    exact hroom
  · exact ⟨rfl, hq h' tk' (hp.objs.size + 1) ⟨fun b o e => k' b o (Nat.ne_of_lt (Nat.lt_succ_of_lt (Heap.lt_size e))) (k b o e), Nat.le_succ _, ⟨_, _, hx, rfl, rfl, rfl, rfl, rfl⟩⟩⟩
end
end ErrX
end PySem
namespace FWN
open PySem PySem.Spec PyProof.Rows L2 FW
/-- C(), C an own error without a field -/
def tMk0 (C : Addr) : L2.St → Hp → XK → Prop := fun σ H Q => Q (.ref C) none H
section
variable {X : Cx} {C fI : Addr} {x : Str}
theorem pmk_err0 {p pos : Pos} {k : Nat} (T : PySem.ErrX.ErrC0 X.prog X.K C fI) (gC : X.mg x = some (.ref C)) (hr : Room k X.A) (hg : Gl X x) (hdb : (x == ("__debug__" : Str)) = false := by decide) : L2N.PMk X (.Call (.Name x p) [] [] pos) (tMk0 C) := by
  intro pins s σ H Q I h
  refine wpAny_Call_Name_kw (ld_glob I hg gC ?_ hdb)
  refine PySem.W.callWith_K0 I.kIn T.kC ?_
  have hlim := I.nolimit
  have hG := I.mod.glob.keeps I.bk
  obtain ⟨mb, hb1, hb2⟩ := I.mod.blt
  have hB := hb1.keeps I.bk
  obtain ⟨hp, g, dr, tk, os⟩ := s
  refine wpAny_call (PySem.ErrX.err0_made T I.kIn hlim hG hB hb2 (by have := hr.dp; omega) fun h' tk' e M => ?_)
  show L2N.MkP X pins σ Q (.ref e) ⟨h', g, dr, tk', os⟩
  obtain ⟨oe, fv, hoe, hc, hd, hdat, h1, h2⟩ := M.obj
  obtain ⟨G', g1, g2⟩ := restrict h' fun b => decide (b ≠ e)
  have gk : ∀ b, b ≠ e → G'.get? b = h'.get? b := fun b hb => g1 b (decide_eq_true hb)
  have ge : G'.get? e = none := g2 e (by simp)
  have old : ∀ b o, hp.get? b = some o → G'.get? b = some o := fun b o q => (gk b (Nat.ne_of_lt (Nat.lt_of_lt_of_le (Heap.lt_size q) M.new))).trans (M.keep b o q)
  have J : Inv X pins σ H ⟨G', g, dr, tk', os⟩ := I.kept (t' := tk') old
  refine ⟨e, oe, fv, ⟨G', g, dr, tk', os⟩, _, .ref C, none, rfl, J, fun b o q => ?_, ge, hoe, ⟨hc, hd, fun vs q => by rw [hdat] at q; cases q; exact h2⟩, hdat, h1, I.hok.fresh M.new, rfl, I.bare, raises_own T.exC T.tyC, h⟩
  by_cases hb : b = e
  · have q' : G'.get? b = some o := q
    rw [hb, ge] at q'; cases q'
  · exact (gk b hb).symm.trans q
def tRaise0 (C : Addr) (W : WX) : TS := fun _ σ H => W (.ref C) none σ H
theorem ps_raise0 {W : WX} {p pos pos2 : Pos} {k : Nat} (hc : X.calm = true) (T : PySem.ErrX.ErrC0 X.prog X.K C fI) (gC : X.mg x = some (.ref C)) (hr : Room k X.A) (tk : L2N.Takes X W) (hg : Gl X x) (hdb : (x == ("__debug__" : Str)) = false := by decide) :
    PS X (.Raise (some (.Call (.Name x p) [] [] pos)) none pos2) (tRaise0 C W) := L2N.ps_raise hc tk (pmk_err0 T gC hr hg hdb)
end
end FWN
namespace FW
open PySem PySem.Spec PyProof.Rows L2 PySem.W PySem.HandSPX PySem.ErrX
def errB0 (K : Frag) (file x : Str) : Bool := ([clsE K (He.ga K x), He.eqO (findIn K (.ref (He.ga K x)) "__init__") (some (some (.ref (He.ma K (He.ga K x) "__init__")))), decide (typeIn K (.ref (He.ma K (He.ga K x) "__init__")) = some (.type "function")),
  keepIn K (.ref (He.ga K x)), decide (subIn K (.ref (He.ga K x)) (.type "BaseException") = some true), decide (subIn K (.ref (He.ga K x)) (.type "ValueError") = some true), decide (typeIn K (.ref (He.ga K x)) = some (.type "type")), decide (mroIn K (He.ga K x) (.ref (He.ga K x)) = some true),
  He.eqO (nsIn K mainGlobals "super") (some none), He.eqO (nsIn K cStatics "thirdparty.any") (some none), He.eqO (ks_superIn K (He.ga K x) (He.ga K x) "__init__") (some (some (.builtin "ValueError.__init__"))), codeE K file x] : List Bool).all id
theorem errC0_of {prog : Program} {K : Frag} {x qual : Str} {params : Arguments} {body : List Stmt} {scope : Scope} (e : fnE K x = (some (("__init__" : Str), qual, params, FuncBody.stmts body, scope, mainGlobals, Value.none, builtinsNs) : FnE)) (h : errB0 K prog.main.file x = true)
    (h1 : ∃ p1, params = eA0 p1) (h2 : ∃ txt q1 q2 q3 q4 q5 q6, body = eB0 txt q1 q2 q3 q4 q5 q6 ∧ (q3.endLine == q5.line) = true) (h3 : scope = eS0) (top : (prog.main.scope.names.lookup ("super" : Str)).isSome = false) :
    ErrC0 prog K (He.ga K x) (He.ma K (He.ga K x) "__init__") := by
  unfold errB0 at h
  simp only [List.all_cons, List.all_nil, id, Bool.and_true, Bool.and_eq_true] at h
  obtain ⟨b0, b1, b2, b3, b4, b5, b6, b7, b8, b9, bA, hc⟩ := h
  refine ⟨clsE_ok b0, He.eqO_ok b1, of_decide_eq_true b2, b3, of_decide_eq_true b4, of_decide_eq_true b5, of_decide_eq_true b6, of_decide_eq_true b7, He.eqO_ok b8, He.eqO_ok b9, He.eqO_ok bA, top, ?_⟩
  obtain ⟨p1, rfl⟩ := h1
  obtain ⟨txt, q1, q2, q3, q4, q5, q6, rfl, hl⟩ := h2
  subst h3
  unfold codeE at hc
  unfold fnE at e
  cases q : K.lookup (He.ma K (He.ga K x) "__init__") with
  | none => rw [q] at hc; cases hc
  | some o =>
    obtain ⟨oc, od, dt, osl⟩ := o
    rw [q] at hc e
    cases dt with
    | func fd =>
      obtain ⟨n1, n2, n3, n4, n5, n6, n7, n8, n9, n10, n11, n12, n13, n14, n15⟩ := fd
      have e2 : (some (n1, n2, n3, n4, n5, n6, n8, n15) : FnE) = (some (("__init__" : Str), qual, eA0 p1, FuncBody.stmts (eB0 txt q1 q2 q3 q4 q5 q6), eS0, mainGlobals, Value.none, builtinsNs) : FnE) := e
      simp only [Option.some.injEq, Prod.mk.injEq] at e2
      obtain ⟨g1, g2, g3, g4, g5, g6, g7, g8⟩ := e2
      subst g1 g2 g3 g4 g5 g6 g7 g8
      dsimp only at hc
      split at hc
      · rename_i c0 l0 cda n cc
        simp only [Bool.and_eq_true, decide_eq_true_eq] at hc
        obtain ⟨hc1, rfl, hc2, hc3⟩ := hc
        split at hc2
        · rename_i ccl cdd vs ccs hcda
          split at hc2
          · rename_i z tf hvs
            have hz := of_decide_eq_true hc2
            subst hz
            split at hc3
            · rename_i cl cld D csl hcc
              have hD := of_decide_eq_true hc3
              subst hD
              exact ⟨cc, cda, _, oc, od, n9, n10, n11, n12, n14, osl, txt, p1, q1, q2, q3, q4, q5, q6, cl, ccl, cld, cdd, csl, ccs, vs, tf, hl, rfl, hc1, hcc, hcda, hvs⟩
            · cases hc3
          · cases hc2
        · cases hc2
      · cases hc
    | _ => cases hc
end FW
namespace FWN
open PySem PySem.Spec PyProof.Rows L2 FW
/-! ### except X: without a name -/
theorem takesN {X : Cx} {W : WX} (t : L2.Takes X W) : L2N.Takes X W := fun u s' ⟨a, B, sI, pins, σ, H, cls, d, e, I, nb, up, sky, na, os, ag, w⟩ => by
  refine t u s' ⟨a, B, sI, pins, σ, H, cls, d, e, I, nb, up, ?_, na, os, ag, w⟩
  rcases sky with ⟨h1, h2, h3, oe, vs, h4, h5, h6⟩ | ⟨h1, h2, h3, oe, vs, T, oT, us, h4, h5, h6⟩ | ⟨h1, h2, h3, oe, vs, T, oT, us, h4, h5, h6⟩
  · exact .inl ⟨h1, h2, h3, oe, vs, h4, h5.zc, h6⟩
  · exact .inr (.inl ⟨h1, h2, h3, oe, vs, T, oT, us, h4, h5.zc, h6⟩)
  · exact .inr (.inr ⟨h1, h2, h3, oe, vs, T, oT, us, h4, h5.zc, h6⟩)
def tTryO (K : PySem.W.Frag) (tb : WX → TS) (c : Value) (ts : TS) (Wout : WX) : TS := fun D σ H => tb (wOnly K c (fun _ _ _ => ts) Wout D) D σ H
theorem ps_tryO {X : Cx} {x : Str} {c : Value} {body suite : List Stmt} {b₀ : Stmt} {np pos pos' : Pos} {tb : WX → TS} {ts : TS} {Wout : WX} (hs : X.stack = X.env :: X.outer) (hf : X.env.frame = some X.env.locals) (hc : Names X x c) (tk : L2.Takes X Wout)
    (hb : ∀ (W : WX) (pn : List (Addr × Obj)) (xe : Value → Shared → Prop), L2N.Takes (X.tr pn xe) W → PassesOwn (model X.prog X.w) X.A X.env xe → PSs (X.tr pn xe) body (tb W))
    (hsu : ∀ (a : Addr) (oe : Obj) (pn : List (Addr × Obj)), PSs (X.suite a ((a, oe) :: pn)) (b₀ :: suite) ts) :
    PS X (.Try body [.ExceptHandler (some (.Name x np)) none (b₀ :: suite) pos'] [] [] pos) (tTryO X.K tb c ts Wout) :=
  ps_try_only hs hf hc tk (fun W pn xe t p => hb W pn xe (takesN t) p) (fun a oe cls d pn _ _ => hsu a oe pn)
section
variable {X : Cx} {k j : Nat} {C : Addr} {m : Str} {sp : Sp} {pos apos : Pos} {o : Expr} {ta : TE} {W : WX}
theorem pe_oS0 {pl : Sem Bool} (tk : L2N.Takes X W) (c : Mt X.prog X.w X.K X.mg X.base (CXX X) k C m sp []) (hr : Room j X.A) (hk : k ≤ j) (he : PE X o ta) (ht : MTree X o m apos pos [] pl := by rfl) :
    PE X (.Call (.Attribute o m apos) [] [] pos) (FW.tMethW C m sp W ta tNil) := by
  obtain ⟨f, fd, ps, ds, hc, hm, F, b, d⟩ := c.ex
  cases d
  refine ⟨fun pins s σ H Q I h => PySem.W.methodCall_KW (pl := pl) (thn (he.run pins s σ H _ I h) ?_) ht⟩
  rintro u s1 ⟨x, H1, I1, rx, a, dx, fs, rfl, ea, l, q⟩
  obtain rfl : u = Value.ref a := rx
  refine getmeth_ok I1 ea hc hm l (PySem.W.callWith_K0 (first := [.ref a]) I1.kIn hm.kp ?_)
  exact run_fnS (us := [.ref a]) (vs := [.ref a]) F (hr.mono hk) b (L2N.passAt tk σ) I1 (.cons rfl .nil) q
end
theorem _root_.FW.L2takesNo {X : Cx} : L2.Takes X (fun _ _ _ _ => False) := FW.takesNo
end FWN
namespace FWL
open PySem PySem.Spec PyProof.Rows L2 FW
/-! ### led loops -/
structure LdK (K : PySem.W.Frag) : Prop where
  cls : Cls K (He.ga K "Led")
  n_loop : NoAttr K (He.ga K "Led") "loop"
  n_n : NoAttr K (He.ga K "Led") "n"
  n_first : NoAttr K (He.ga K "Led") "first"
  n_guess : NoAttr K (He.ga K "Led") "guess"
  n_before : NoAttr K (He.ga K "Led") "before"
  n_told : NoAttr K (He.ga K "Led") "told"
  n_past : NoAttr K (He.ga K "Led") "past"
/-- what a round or a put can change -/
structure Ls where
  g : Int
  b : Option Int
  t : Option Int
def Ls.V (s : Ls) : List V := [.int s.g, nkV s.b, nkV s.t]
def LdF (lp P : Addr) (n f : Int) (s : Ls) : List (Str × V) := [("loop", .ref lp), ("n", .int n), ("first", .int f), ("guess", .int s.g), ("before", nkV s.b), ("told", nkV s.t), ("past", .ref P)]
def Pst (H : Hp) : List V → List Ls → Prop
  | [], [] => True
  | v :: vs, s :: ss => (∃ t, v = .ref t ∧ H t = some (.tup s.V)) ∧ Pst H vs ss
  | _, _ => False
theorem Pst.len {H : Hp} : ∀ {vs : List V} {ss : List Ls}, Pst H vs ss → vs.length = ss.length
  | [], [], _ => rfl
  | _ :: _, _ :: _, ⟨_, r⟩ => congrArg Nat.succ (Pst.len r)
theorem Pst.app {H : Hp} : ∀ {vs vs' : List V} {ss ss' : List Ls}, Pst H vs ss → Pst H vs' ss' → Pst H (vs ++ vs') (ss ++ ss')
  | [], _, [], _, _, h => h
  | _ :: _, _, _ :: _, _, ⟨a, r⟩, h => ⟨a, Pst.app r h⟩
/-- all but two objects are kept -/
def Ext2 (p P : Addr) (H H' : Hp) : Prop := ∀ b o, b ≠ p → b ≠ P → H b = some o → H' b = some o
theorem Ext2.of {p P : Addr} {H H' : Hp} (e : Ext H H') : Ext2 p P H H' := fun b o _ _ q => e b o q
theorem Ext2.tr {p P : Addr} {H H1 H2 : Hp} (a : Ext2 p P H H1) (b : Ext2 p P H1 H2) : Ext2 p P H H2 := fun c o h1 h2 q => b c o h1 h2 (a c o h1 h2 q)
theorem Ext2.upd1 {p P : Addr} {H : Hp} {o : HO} : Ext2 p P H (upd H p o) := fun b u n _ q => by rw [upd_ne n]; exact q
theorem Ext2.upd2 {p P : Addr} {H : Hp} {o : HO} : Ext2 p P H (upd H P o) := fun b u _ n q => by rw [upd_ne n]; exact q
structure IsLd (K : PySem.W.Frag) (H : Hp) (p lp P : Addr) (n f : Int) (s : Ls) (ps : List Ls) : Prop where
  ob : ∃ dx, H p = some (.ins (He.ga K "Led") dx (LdF lp P n f s))
  pa : ∃ vs, H P = some (.lst vs) ∧ Pst H vs ps
theorem Pst.keep {H H' : Hp} (e : ∀ t xs, H t = some (.tup xs) → H' t = some (.tup xs)) : ∀ {vs : List V} {ss : List Ls}, Pst H vs ss → Pst H' vs ss
  | [], [], _ => True.intro
  | _ :: _, _ :: _, ⟨⟨t, h1, h2⟩, r⟩ => ⟨⟨t, h1, e _ _ h2⟩, Pst.keep e r⟩
theorem IsLd.ext {K : PySem.W.Frag} {H H' : Hp} {p lp P : Addr} {n f : Int} {s : Ls} {ps : List Ls} (e : Ext H H') (h : IsLd K H p lp P n f s ps) : IsLd K H' p lp P n f s ps := by
  obtain ⟨⟨dx, h1⟩, vs, h2, h3⟩ := h
  exact ⟨⟨dx, e _ _ h1⟩, vs, e _ _ h2, h3.keep fun t xs q => e _ _ q⟩
theorem IsLd.ne {K : PySem.W.Frag} {H : Hp} {p lp P : Addr} {n f : Int} {s : Ls} {ps : List Ls} (h : IsLd K H p lp P n f s ps) : p ≠ P := by
  obtain ⟨⟨dx, h1⟩, vs, h2, h3⟩ := h
  exact ne_of h1 h2 (fun z => nomatch z)
/-- a loop is no led one -/
theorem Ext2.lp {K : PySem.W.Frag} {H H' : Hp} {p P x lp : Addr} {n f : Int} {s : Ls} {ps : List Ls} {l : Lp} (e : Ext2 p P H H') (h : IsLd K H p lp P n f s ps) (hx : IsLp K H x l) : IsLp K H' x l := by
  obtain ⟨⟨dx, h1⟩, vs, h2, h3⟩ := h
  obtain ⟨dy, h4⟩ := hx
  refine ⟨dy, e _ _ (ne_of h4 h1 fun z => ?_) (ne_of h4 h2 (fun z => nomatch z)) h4⟩
  injection z with _ _ z3
  cases l
  simp [Lp.F, LdF] at z3
theorem Ext2.tup {K : PySem.W.Frag} {H H' : Hp} {p P t lp : Addr} {n f : Int} {s : Ls} {ps : List Ls} {xs : List V} (e : Ext2 p P H H') (h : IsLd K H p lp P n f s ps) (ht : H t = some (.tup xs)) : H' t = some (.tup xs) := by
  obtain ⟨⟨dx, h1⟩, vs, h2, h3⟩ := h
  exact e _ _ (ne_of ht h1 (fun z => nomatch z)) (ne_of ht h2 (fun z => nomatch z)) ht
section
variable {K : PySem.W.Frag} {H : Hp} {p lp P : Addr} {n f : Int} {s : Ls} {ps : List Ls}
theorem e_fD {g : Str} {R : V → Prop} {v : V} (k : R v) (A : LdK K) (h : IsLd K H p lp P n f s ps) (na : NoAttr K (He.ga K "Led") g) (hl : (LdF lp P n f s).lookup g = some v) :
    ∃ a C dx fs v, V.ref p = .ref a ∧ H a = some (.ins C dx fs) ∧ Cls K C ∧ NoAttr K C g ∧ fs.lookup g = some v ∧ R v := by
  obtain ⟨dx, h1⟩ := h.ob
  exact ⟨p, _, dx, _, v, rfl, h1, A.cls, na, hl, k⟩
theorem ld_m {R : Addr → Addr → List (Str × V) → Prop} {m : Str} (h : IsLd K H p lp P n f s ps) (hm : (LdF lp P n f s).lookup m = none) {T : Prop} (k : T) : ∃ a dx fs, V.ref p = .ref a ∧ H a = some (.ins (He.ga K "Led") dx fs) ∧ fs.lookup m = none ∧ T := by
  obtain ⟨dx, h1⟩ := h.ob
  exact ⟨p, dx, _, rfl, h1, hm, k⟩
end
def sp_Led_noted (K : PySem.W.Frag) : Sp := fun vs H Q _ => ∃ (p lp P : Addr) (n f : Int) (s : Ls) (ps : List Ls), vs = [.ref p] ∧ IsLd K H p lp P n f s ps ∧ ∀ t H', H t = none → Ext H H' → H' t = some (.tup s.V) → Q (.ref t) H'
def rd_Led_noted (K : PySem.W.Frag) : TS := tRet (tTup (tCons (tFld K (tVar 0) "guess") (tCons (tFld K (tVar 0) "before") (tCons (tFld K (tVar 0) "told") (tNil)))))
theorem pure_Led_noted (K : PySem.W.Frag) (A : LdK K) (vs : List V) (H : Hp) (Q : VK) (E : XK) (h : sp_Led_noted K vs H Q E) : rd_Led_noted K { nx := fun _ H' => Q .non H', rt := Q } (start ["self"] vs) H := by
  obtain ⟨p, lp, P, n, f, s, ps, rfl, h, q⟩ := h
  unfold rd_Led_noted
  walk_at "rd"
  refine e_fD ?_ A h A.n_guess rfl
  walk_at "rd"
  refine e_fD ?_ A h A.n_before rfl
  walk_at "rd"
  refine e_fD ?_ A h A.n_told rfl
  walk_at "rd"
  exact ⟨by show 3 ≤ sizeLine; decide, fun t ht => q t _ ht (Ext.new ht) upd_same⟩
def sp_Led_put_back (K : PySem.W.Frag) : Sp := fun vs H Q _ => ∃ (p lp P : Addr) (n f : Int) (s s' : Ls) (ps : List Ls), vs = .ref p :: s'.V ∧ IsLd K H p lp P n f s ps ∧ ∀ H', Ext2 p P H H' → IsLd K H' p lp P n f s' ps → Q .non H'
def rd_Led_put_back (K : PySem.W.Frag) : TS := tSeq (sFld K (tVar 0) (tVar 1) "guess") (tSeq (sFld K (tVar 0) (tVar 2) "before") (sFld K (tVar 0) (tVar 3) "told"))
theorem IsLd.put {K : PySem.W.Frag} {H : Hp} {p lp P dx : Addr} {n f : Int} {s s' : Ls} {ps : List Ls} (h : IsLd K H p lp P n f s ps) : IsLd K (upd H p (.ins (He.ga K "Led") dx (LdF lp P n f s'))) p lp P n f s' ps := by
  obtain ⟨⟨dy, h1⟩, vs, h2, h3⟩ := id h
  exact ⟨⟨dx, upd_same⟩, vs, by rw [upd_ne h.ne.symm]; exact h2, h3.keep fun t xs q => by rw [upd_ne (ne_of q h1 (fun z => nomatch z))]; exact q⟩
theorem pure_Led_put_back (K : PySem.W.Frag) (A : LdK K) (vs : List V) (H : Hp) (Q : VK) (E : XK) (h : sp_Led_put_back K vs H Q E) : rd_Led_put_back K { nx := fun _ H' => Q .non H', rt := Q } (start ["self", "guess", "before", "told"] vs) H := by
  obtain ⟨p, lp, P, n, f, s, s', ps, rfl, h, q⟩ := h
  obtain ⟨dx, h1⟩ := h.ob
  unfold rd_Led_put_back
  walk_at "rd"
  refine e_sF ?_ h1 A.cls A.n_guess (by show 7 < 1000; decide)
  walk_at "rd"
  refine e_sF ?_ upd_same A.cls A.n_before (by show 7 < 1000; decide)
  walk_at "rd"
  refine e_sF ?_ upd_same A.cls A.n_told (by show 7 < 1000; decide)
  rw [upd_upd, upd_upd]
  exact q _ Ext2.upd1 (h.put (s' := s'))
/-- past.append(noted) -/
theorem past_app {K : PySem.W.Frag} (A : LdK K) {H : Hp} {D : Ends} {σ : L2.St} {p lp P : Addr} {n f : Int} {s : Ls} {ps : List Ls} (h : IsLd K H p lp P n f s ps) (hz : ps.length ≤ 100000) (h0 : σ[0]? = some (some (.ref p)))
    (k : ∀ H', Ext2 p P H H' → IsLd K H' p lp P n f s (ps ++ [s]) → D.nx σ H') : (tDrop (tBM K "list" rAppend (tFld K (tVar 0) "past") (tCons (tMeth (He.ga K "Led") "noted" (sp_Led_noted K) [] E0 (tVar 0) tNil) (tNil)))) D σ H := by
  obtain ⟨dx, h1⟩ := id h.ob
  obtain ⟨vs, h2, h3⟩ := id h.pa
  have hl := h3.len
  refine s_drop (e_bm (e_fldk (e_var ?_ h0)))
  refine e_fD ?_ A h A.n_past rfl
  refine ⟨.inl ⟨rfl, _, SqL.of h2⟩, ?_⟩
  refine e_cons (e_mt (e_var ?_ h0))
  refine ⟨p, dx, _, rfl, h1, rfl, ?_⟩
  refine e_nil ⟨p, lp, P, n, f, s, ps, rfl, h, fun t H1 ht e1 ht1 => ?_⟩
  refine e_nil ⟨P, _, _, rfl, rfl, e1 _ _ h2, by show vs.length < 2 ^ 24; omega, ?_⟩
  have g1 := h.ext e1
  obtain ⟨dy, g2⟩ := id g1.ob
  refine k _ ((Ext2.of e1).tr Ext2.upd2) ⟨⟨dy, by rw [upd_ne g1.ne]; exact g2⟩, _, upd_same, ?_⟩
  have kp : ∀ t xs, H1 t = some (.tup xs) → (upd H1 P (.lst (vs ++ [.ref t]))) t = some (.tup xs) := fun t' xs q => by rw [upd_ne (ne_of q (e1 _ _ h2) (fun z => nomatch z))]; exact q
  refine Pst.app ((h3.keep fun t xs q => e1 _ _ q).keep fun t' xs q => ?_) ⟨⟨t, rfl, ?_⟩, True.intro⟩
  · rw [upd_ne (ne_of q (e1 _ _ h2) (fun z => nomatch z))]; exact q
  · rw [upd_ne (ne_of ht1 (e1 _ _ h2) (fun z => nomatch z))]; exact ht1
def sp_Led_tell (K : PySem.W.Frag) : Sp := fun vs H Q _ => ∃ (p lp P : Addr) (n f x : Int) (s : Ls) (ps : List Ls) (l : Lp), vs = [.ref p, .int x] ∧ IsLd K H p lp P n f s ps ∧ ps.length ≤ 100000 ∧ IsLp K H lp l ∧ l.Ok ∧ 0 ≤ x ∧ Sz 2000 x ∧
  ∀ H', Ext2 p P H H' → IsLd K H' p lp P n f ⟨s.g, s.b, some (l.mended n x)⟩ (ps ++ [s]) → Q (.str "told") H'
def rd_Led_tell (K : PySem.W.Frag) : TS := tSeq (tDrop (tBM K "list" rAppend (tFld K (tVar 0) "past") (tCons (tMeth (He.ga K "Led") "noted" (sp_Led_noted K) [] E0 (tVar 0) tNil) (tNil)))) (tSeq (sFld K (tVar 0) (tMeth (He.ga K "Average") "mended" (sp_Average_mended K) [] E0 (tFld K (tVar 0) "loop") (tCons (tFld K (tVar 0) "n") (tCons (tVar 1) (tNil)))) "told") (tRet (tC (.str "told"))))
theorem pure_Led_tell (K : PySem.W.Frag) (A : LdK K) (vs : List V) (H : Hp) (Q : VK) (E : XK) (h : sp_Led_tell K vs H Q E) : rd_Led_tell K { nx := fun _ H' => Q .non H', rt := Q } (start ["self", "number"] vs) H := by
  obtain ⟨p, lp, P, n, f, x, s, ps, l, rfl, h, hz, hl, o, x0, xs, q⟩ := h
  unfold rd_Led_tell
  with_reducible refine s_seq ?_
  refine past_app A h hz rfl fun H1 e1 h1 => ?_
  have hl1 := e1.lp h hl
  obtain ⟨dy, hl2⟩ := id hl1
  walk_at "rd"
  refine e_fD ?_ A h1 A.n_loop rfl
  refine ⟨lp, dy, _, rfl, hl2, rfl, ?_⟩
  walk_at "rd"
  refine e_fD ?_ A h1 A.n_n rfl
  walk_at "rd"
  refine ⟨lp, l, n, x, rfl, hl1, o, x0, xs, fun H2 e2 => ?_⟩
  have h2 := h1.ext e2
  obtain ⟨dx, h3⟩ := id h2.ob
  walk_at "rd"
  refine e_sF ?_ h3 A.cls A.n_told (by show 7 < 1000; decide)
  walk_at "rd"
  exact q _ (e1.tr ((Ext2.of e2).tr Ext2.upd1)) (h2.put (s' := ⟨s.g, s.b, some (l.mended n x)⟩))
/-- a round that begins with s: nothing (nought), told, or the next guess -/
def rnd (l : Lp) (n : Int) (s : Ls) : Option (Bool × Ls) := if l.looks n s.g = true then some (true, ⟨s.g, s.b, some (l.mended n s.g)⟩) else if s.g = 0 then none
  else if l.ends s.g (l.led n s.g) s.b = true then some (true, ⟨s.g, s.b, some (l.mended n (l.chosen s.g (l.led n s.g)))⟩) else some (false, ⟨l.led n s.g, some s.g, none⟩)
def wRnd (w : Bool) : Str := if w then "told" else "goes"
/-- what a round asks -/
structure RdOk (K : PySem.W.Frag) (H : Hp) (p lp P : Addr) (n f : Int) (s : Ls) (ps : List Ls) (l : Lp) : Prop where
  ld : IsLd K H p lp P n f s ps
  sz : ps.length ≤ 100000
  lp : IsLp K H lp l
  ok : l.Ok
  n0 : 0 ≤ n
  n1 : n < 2 ^ 1000
  g0 : 0 ≤ s.g
  g1 : Sz 1001 s.g
  y : s.g ≠ 0 → 0 ≤ l.led n s.g ∧ Sz 1001 (l.led n s.g)
def sp_Led_roundX (K : PySem.W.Frag) : Sp := fun vs H Q E => ∃ (p lp P : Addr) (n f : Int) (s : Ls) (ps : List Ls) (l : Lp), vs = [.ref p] ∧ RdOk K H p lp P n f s ps l ∧ (s.t ≠ none → Q (.str "told") H) ∧
  (s.t = none → rnd l n s = none → E (.ref (He.ga K "NoGuess")) none H) ∧
  (s.t = none → ∀ w s', rnd l n s = some (w, s') → ∀ H', Ext2 p P H H' → IsLd K H' p lp P n f s' (ps ++ [s]) → Q (.str (wRnd w)) H')
def rd_Led_roundX (K : PySem.W.Frag) (E : XK) : TS := tSeq (tIfS (tTest (tOp FW.rNotN (tFld K (tVar 0) "told") (tC .non))) (tRet (tC (.str "told"))) (tNext)) (tSeq (tAsg (tFld K (tVar 0) "guess") (gName 1)) (tSeq (tIfS (tB (tMeth (He.ga K "Average") "looks" (sp_Average_looks K) [] E0 (tFld K (tVar 0) "loop") (tCons (tFld K (tVar 0) "n") (tCons (tVar 1) (tNil))))) (tRet (tMeth (He.ga K "Led") "tell" (sp_Led_tell K) [] E0 (tVar 0) (tCons (tVar 1) (tNil)))) (tNext)) (tSeq (tIfS (tTest (tOp rEq (tVar 1) (tC (.int 0)))) (FWN.tRaise0 (He.ga K "NoGuess") (fun cls d _ H => E cls d H)) (tNext)) (tSeq (tAsg (tMeth (He.ga K "Average") "led" (sp_Average_led K) [] E0 (tFld K (tVar 0) "loop") (tCons (tFld K (tVar 0) "n") (tCons (tVar 1) (tNil)))) (gName 2)) (tSeq (tIfS (tB (tMeth (He.ga K "Average") "ends" (sp_Average_ends K) [] E0 (tFld K (tVar 0) "loop") (tCons (tVar 1) (tCons (tVar 2) (tCons (tFld K (tVar 0) "before") (tNil)))))) (tRet (tMeth (He.ga K "Led") "tell" (sp_Led_tell K) [] E0 (tVar 0) (tCons (tMeth (He.ga K "Average") "chosen" (sp_Average_chosen K) [] E0 (tFld K (tVar 0) "loop") (tCons (tVar 1) (tCons (tVar 2) (tNil)))) (tNil)))) (tNext)) (tSeq (tDrop (tBM K "list" rAppend (tFld K (tVar 0) "past") (tCons (tMeth (He.ga K "Led") "noted" (sp_Led_noted K) [] E0 (tVar 0) tNil) (tNil)))) (tSeq (tDrop (tMeth (He.ga K "Led") "put_back" (sp_Led_put_back K) [] E0 (tVar 0) (tCons (tVar 2) (tCons (tVar 1) (tCons (tC .non) (tNil)))))) (tRet (tC (.str "goes"))))))))))
theorem pure_Led_roundX (K : PySem.W.Frag) (A : LdK K) (vs : List V) (H : Hp) (Q : VK) (E : XK) (h : sp_Led_roundX K vs H Q E) : rd_Led_roundX K E { nx := fun _ H' => Q .non H', rt := Q } (start ["self", "x", "y"] vs) H := by
  obtain ⟨p, lp, P, n, f, s, ps, l, rfl, ⟨h, hz, hl, o, n0, n1, g0, g1, hy⟩, q1, q2, q3⟩ := h
  obtain ⟨dx, ho⟩ := id h.ob
  obtain ⟨dy, hlo⟩ := id hl
  unfold rd_Led_roundX
  walk_at "rd"
  refine e_fD ?_ A h A.n_told rfl
  walk_at "rd"
  cases ht : s.t with
  | some z =>
    rw [decide_eq_false (show ¬ nkV (some z) = V.non from fun w => nomatch w)]
    walk_at "rd"
    exact q1 (by rw [ht]; exact fun w => nomatch w)
  | none =>
  rw [decide_eq_true (show nkV none = V.non from rfl)]
  walk_at "rd"
  refine e_fD ?_ A h A.n_guess rfl
  walk_at "rd"
  refine e_fD ?_ A h A.n_loop rfl
  refine ⟨lp, dy, _, rfl, hlo, rfl, ?_⟩
  walk_at "rd"
  refine e_fD ?_ A h A.n_n rfl
  walk_at "rd"
  refine ⟨lp, l, n, s.g, rfl, hl, o, g0, g1.mono (by decide), ?_⟩
  walk_at "rd"
  cases hlk : l.looks n s.g with
  | true =>
    have hr : rnd l n s = some (true, ⟨s.g, s.b, some (l.mended n s.g)⟩) := by unfold rnd; rw [hlk, if_pos rfl]
    walk_at "rd"
    refine ⟨p, dx, _, rfl, ho, rfl, ?_⟩
    walk_at "rd"
    exact ⟨p, lp, P, n, f, s.g, s, ps, l, rfl, h, hz, hl, o, g0, g1.mono (by decide), fun H' e hd => q3 ht true _ hr H' e hd⟩
  | false =>
  walk_at "rd"
  rw [decI]
  refine e_ite (fun hg => ?_) fun hg => ?_
  · have hr : rnd l n s = none := by unfold rnd; rw [hlk, if_neg (by decide), if_pos hg]
    exact q2 ht hr
  obtain ⟨y0, y1⟩ := hy hg
  walk_at "rd"
  refine e_fD ?_ A h A.n_loop rfl
  refine ⟨lp, dy, _, rfl, hlo, rfl, ?_⟩
  walk_at "rd"
  refine e_fD ?_ A h A.n_n rfl
  walk_at "rd"
  refine ⟨lp, l, n, s.g, rfl, hl, o, by omega, n0, n_big n0 n1, Sz.mono g1 (by decide), ?_⟩
  walk_at "rd"
  refine e_fD ?_ A h A.n_loop rfl
  refine ⟨lp, dy, _, rfl, hlo, rfl, ?_⟩
  walk_at "rd"
  refine e_fD ?_ A h A.n_before rfl
  walk_at "rd"
  refine ⟨lp, l, s.g, l.led n s.g, s.b, rfl, hl, o, fun H1 e1 => ?_⟩
  have h1 := h.ext e1
  have hl1 : IsLp K H1 lp l := ⟨dy, e1 _ _ hlo⟩
  walk_at "rd"
  cases hen : l.ends s.g (l.led n s.g) s.b with
  | true =>
    have hr : rnd l n s = some (true, ⟨s.g, s.b, some (l.mended n (l.chosen s.g (l.led n s.g)))⟩) := by unfold rnd; rw [hlk, if_neg (by decide), if_neg hg, hen, if_pos rfl]
    have hch : 0 ≤ l.chosen s.g (l.led n s.g) ∧ Sz 2000 (l.chosen s.g (l.led n s.g)) := by
      rcases chosen_or l s.g (l.led n s.g) with z | z <;> rw [z]
      · exact ⟨g0, g1.mono (by decide)⟩
      · exact ⟨y0, y1.mono (by decide)⟩
    walk_at "rd"
    refine ⟨p, dx, _, rfl, e1 _ _ ho, rfl, ?_⟩
    walk_at "rd"
    refine e_fD ?_ A h1 A.n_loop rfl
    refine ⟨lp, dy, _, rfl, e1 _ _ hlo, rfl, ?_⟩
    walk_at "rd"
    refine ⟨lp, l, s.g, l.led n s.g, rfl, hl1, o, fun H2 e2 => ?_⟩
    walk_at "rd"
    exact ⟨p, lp, P, n, f, _, s, ps, l, rfl, h1.ext e2, hz, ⟨dy, e2 _ _ (e1 _ _ hlo)⟩, o, hch.1, hch.2, fun H' e hd => q3 ht true _ hr H' ((Ext2.of (e1.tr e2)).tr e) hd⟩
  | false =>
    have hr : rnd l n s = some (false, ⟨l.led n s.g, some s.g, none⟩) := by unfold rnd; rw [hlk, if_neg (by decide), if_neg hg, hen, if_neg (by decide)]
    with_reducible refine e_F ?_
    with_reducible refine s_next ?_
    with_reducible refine s_seq ?_
    refine past_app A h1 hz rfl fun H2 e2 h2 => ?_
    obtain ⟨dz, ho2⟩ := id h2.ob
    walk_at "rd"
    refine ⟨p, dz, _, rfl, ho2, rfl, ?_⟩
    walk_at "rd"
    refine ⟨p, lp, P, n, f, s, ⟨l.led n s.g, some s.g, none⟩, ps ++ [s], rfl, h2, fun H3 e3 h3 => ?_⟩
    walk_at "rd"
    exact q3 ht false _ hr H3 ((Ext2.of e1).tr (e2.tr e3)) h3
end FWL
namespace FWL
open PySem PySem.Spec PyProof.Rows L2 FW
/-! ### walking with less to say -/
section
variable {K : PySem.W.Frag} {σ : L2.St} {H : Hp} {Q : VK} {R : VK} {D : Ends} {v : V} {i j : Int} {a C dx : Addr} {f : Str} {xs : List V} {fs : List (Str × L2.V)}
theorem al_tup (h : xs.length ≤ sizeLine) (k : ∀ p H1, H p = none → Ext H H1 → H1 p = some (.tup xs) → R (.ref p) H1) : xs.length ≤ sizeLine ∧ ∀ p, H p = none → R (.ref p) (upd H p (.tup xs)) := ⟨h, fun p hp => k p _ hp (Ext.new hp) upd_same⟩
theorem al_lst (h : xs.length ≤ sizeLine) (k : ∀ p H1, H p = none → Ext H H1 → H1 p = some (.lst xs) → R (.ref p) H1) : xs.length ≤ sizeLine ∧ ∀ p, H p = none → R (.ref p) (upd H p (.lst xs)) := ⟨h, fun p hp => k p _ hp (Ext.new hp) upd_same⟩
theorem ha_fld {R : V → Prop} (h : H a = some (.ins C dx fs)) (c : Cls K C) (n : NoAttr K C f) (l : fs.lookup f = some v) (k : R v) : ∃ a' C dx fs v, V.ref a = .ref a' ∧ H a' = some (.ins C dx fs) ∧ Cls K C ∧ NoAttr K C f ∧ fs.lookup f = some v ∧ R v := ⟨a, C, dx, fs, v, rfl, h, c, n, l, k⟩
theorem ha_ixL (h : H a = some (.lst xs)) (ha : atI xs i = some v) (k : Q v H) : rIxL K (.ref a) (.int i) H Q := e_ixL k (SqL.of h) ha
theorem ha_ixT (h : H a = some (.tup xs)) (ha : atI xs i = some v) (k : Q v H) : rIxT K (.ref a) (.int i) H Q := e_ixT k (SqT.of h) ha
theorem ha_tupL (h : H a = some (.lst xs)) (k : ∀ p H1, H p = none → Ext H H1 → H1 p = some (.tup xs) → Q (.ref p) H1) : FW.rTupS K [.ref a] H Q := e_tupL (fun p hp => k p _ hp (Ext.new hp) upd_same) (SqL.of h)
theorem ha_eqI (k : Q (.bl (decide (i = j))) H) : rEq (.int i) (.int j) H Q := ⟨rfl, by
  have e : decide (V.int i = V.int j) = decide (i = j) := decide_eq_decide.mpr ⟨fun z => by injection z, fun z => by rw [z]⟩
  show Q (.bl (decide (V.int i = V.int j))) H
  rw [e]; exact k⟩
theorem ha_neI (k : Q (.bl (!decide (i = j))) H) : rNe (.int i) (.int j) H Q := ⟨rfl, by
  have e : decide (V.int i = V.int j) = decide (i = j) := decide_eq_decide.mpr ⟨fun z => by injection z, fun z => by rw [z]⟩
  show Q (.bl (!decide (V.int i = V.int j))) H
  rw [e]; exact k⟩
theorem ha_eqS {s t : Str} (k : Q (.bl (decide (s = t))) H) : rEq (.str s) (.str t) H Q := ⟨rfl, by
  have e : decide (V.str s = V.str t) = decide (s = t) := decide_eq_decide.mpr ⟨fun z => by injection z, fun z => by rw [z]⟩
  show Q (.bl (decide (V.str s = V.str t))) H
  rw [e]; exact k⟩
theorem ha_neS {s t : Str} (k : Q (.bl (!decide (s = t))) H) : rNe (.str s) (.str t) H Q := ⟨rfl, by
  have e : decide (V.str s = V.str t) = decide (s = t) := decide_eq_decide.mpr ⟨fun z => by injection z, fun z => by rw [z]⟩
  show Q (.bl (!decide (V.str s = V.str t))) H
  rw [e]; exact k⟩
theorem ha_intD {p : Prop} [Decidable p] (k : Q (.int (if p then 1 else 0)) H) : rInt1 [.bl (decide p)] H Q := .inr ⟨_, rfl, by
  have e : (if decide p = true then (1 : Int) else 0) = if p then 1 else 0 := by
    by_cases h : p
    · rw [if_pos h, if_pos (decide_eq_true h)]
    · rw [if_neg h, if_neg (fun z => h (of_decide_eq_true z))]
  show Q (.int (if decide p = true then 1 else 0)) H
  rw [e]; exact k⟩
theorem ha_app {ys : List V} (h : H a = some (.lst ys)) (z : ys.length < sizeLine) (k : Q .non (upd H a (.lst (ys ++ [v])))) : rAppend (.ref a) [v] H Q := ⟨a, ys, v, rfl, rfl, h, z, k⟩
end
theorem al_of {H G : Hp} {p : Addr} {o : HO} (hp : H p = none) (e : upd H p o = G) : Ext H G ∧ G p = some o := by subst e; exact ⟨Ext.new hp, upd_same⟩
theorem ha_tyL {K : PySem.W.Frag} {H : Hp} {a : Addr} {xs : List V} {P : Prop} (h : H a = some (.lst xs)) (k : P) : tyV K "list" (.ref a) H ∧ P := ⟨.inl ⟨rfl, _, SqL.of h⟩, k⟩
/-! ### rows and picks -/
def strsOf (vs : List V) : List Str := vs.filterMap fun v => match v with | .str s => some s | _ => none
def intsOf (vs : List V) : List Int := vs.filterMap fun v => match v with | .int i => some i | _ => none
section
variable {K : PySem.W.Frag} {H : Hp} {Q : VK} {a : Addr} {i j : Int} {vs : List V}
theorem ha_row {xs : List Int} {n : Nat} (h : H a = some (.lst (xs.map V.int))) (hr : Row xs n) (h0 : 0 ≤ i) (h1 : i < n) (k : ∀ x, 0 ≤ x → x < 1000 → Q (.int x) H) : rIxL K (.ref a) (.int i) H Q := by
  obtain ⟨x, x0, x1, hx⟩ := row_at hr h0 h1
  exact e_ixL (k x x0 x1) (SqL.of h) hx
theorem ha_pick (h : H a = some (.lst vs)) (h0 : 0 ≤ i) (h1 : i < (vs.length : Int)) (k : ∀ v ∈ vs, Q v H) : rIxL K (.ref a) (.int i) H Q := by
  obtain ⟨v, hv, hat⟩ := list_at h0 h1
  exact e_ixL (k v hv) (SqL.of h) hat
theorem ha_pickS (h : H a = some (.lst vs)) (e : vs = (strsOf vs).map V.str) (h0 : 0 ≤ i) (h1 : i < (vs.length : Int)) (k : ∀ w, w ∈ strsOf vs → Q (.str w) H) : rIxL K (.ref a) (.int i) H Q := by
  refine ha_pick h h0 h1 fun v hv => ?_
  rw [e] at hv
  obtain ⟨w, hw, rfl⟩ := List.mem_map.mp hv
  exact k w hw
theorem ha_pickI (h : H a = some (.lst vs)) (e : vs = (intsOf vs).map V.int) (h0 : 0 ≤ i) (h1 : i < (vs.length : Int)) (k : ∀ w, w ∈ intsOf vs → Q (.int w) H) : rIxL K (.ref a) (.int i) H Q := by
  refine ha_pick h h0 h1 fun v hv => ?_
  rw [e] at hv
  obtain ⟨w, hw, rfl⟩ := List.mem_map.mp hv
  exact k w hw
theorem ha_cat {xs ys : List V} {b : Addr} (h : H a = some (.lst xs)) (h' : H b = some (.lst ys)) (hz : xs.length + ys.length ≤ sizeLine) (k : ∀ p G, H p = none → Ext H G → G p = some (.lst (xs ++ ys)) → Q (.ref p) G) : rCat (.ref a) (.ref b) H Q := e_cat (fun p hp => k p _ hp (Ext.new hp) upd_same) h h' hz
theorem ha_len {xs : List V} (h : H a = some (.lst xs)) (k : Q (.int xs.length) H) : Evl.rLenS K [.ref a] H Q := e_len k (.inl (SqL.of h))
theorem ha_lenT {xs : List V} (h : H a = some (.tup xs)) (k : Q (.int xs.length) H) : Evl.rLenS K [.ref a] H Q := e_len k (.inr (SqT.of h))
theorem ha_gT {gs : TGs} {R : L2.St → Hp → Prop} {σ : L2.St} {n : Nat} {xs : List V} (h : H a = some (.tup xs)) (hl : xs.length = n) (k : gs xs σ H R) : gTup K n gs (.ref a) σ H R := g_tup k (SqT.of h) hl
theorem ha_gL {gs : TGs} {R : L2.St → Hp → Prop} {σ : L2.St} {n : Nat} {xs : List V} (h : H a = some (.lst xs)) (hl : xs.length = n) (k : gs xs σ H R) : gLst K n gs (.ref a) σ H R := ⟨a, xs, rfl, SqL.of h, hl, k⟩
/-- a made object: its __init__'s promise -/
theorem ha_make {C : Addr} {sp : Sp} {ws : List V} {R : Addr → Hp → Prop} {E : XK} (k : ∀ x dx G, H x = none → Ext H G → G x = some (.ins C dx []) → sp (.ref x :: ws) G (fun v H2 => v = .non ∧ R x H2) E) :
    ∀ x dx, H x = none → H dx = none → dx ≠ x → sp (.ref x :: ws) (upd (upd H dx (.own x)) x (.ins C dx [])) (fun v H2 => v = .non ∧ R x H2) E := fun x dx hx hdx hne =>
  k x dx _ hx ((Ext.new hdx).tr (Ext.new (by rw [upd_ne hne.symm]; exact hx))) upd_same
/-- what is new to H is kept apart -/
theorem ext_B {G G' : Hp} {x : Addr} (e : Ext H G) (hx : H x = none) (b : ExtB x G G') : Ext H G' := fun p o h => b p o (ne_of_none h hx) (e p o h)
end
theorem ha_mod {H : Hp} {Q : VK} {i j : Int} (h : 0 < j) (k : ∀ m : Int, 0 ≤ m → m < j → m = i % j → Q (.int m) H) : FW.rMod (.int i) (.int j) H Q := e_I (k _ (Int.emod_nonneg _ (by omega)) (Int.emod_lt_of_pos _ h) rfl) h
theorem ha_lenN {K : PySem.W.Frag} {H : Hp} {Q : VK} {a : Addr} {xs : List V} {n : Nat} (h : H a = some (.lst xs)) (e : xs.length = n) (k : Q (.int n) H) : Evl.rLenS K [.ref a] H Q := by subst e; exact ha_len h k
theorem mk_of {H G : Hp} {x dx C : Addr} (hx : H x = none) (hd : H dx = none) (hne : dx ≠ x) (e : upd (upd H dx (.own x)) x (.ins C dx []) = G) : Ext H G ∧ G x = some (.ins C dx []) := by
  subst e
  exact ⟨(Ext.new hd).tr (Ext.new (by rw [upd_ne hne.symm]; exact hx)), upd_same⟩
theorem ha_mt {H : Hp} {p C dx : Addr} {fs : List (Str × L2.V)} {m : Str} {T : Prop} (h : H p = some (.ins C dx fs)) (l : fs.lookup m = none) (k : T) : ∃ a dx fs, V.ref p = .ref a ∧ H a = some (.ins C dx fs) ∧ fs.lookup m = none ∧ T := ⟨p, dx, fs, rfl, h, l, k⟩
theorem ap_of {H G : Hp} {a : Addr} {xs ys : List V} (h : H a = some (.lst xs)) (e : upd H a (.lst ys) = G) : G a = some (.lst ys) ∧ (∀ b C dx fs, H b = some (.ins C dx fs) → G b = some (.ins C dx fs)) ∧ (∀ b zs, H b = some (.tup zs) → G b = some (.tup zs)) ∧ ExtB a H G := by
  subst e
  exact ⟨upd_same, fun b C dx fs q => by rw [upd_ne (ne_of q h (fun z => nomatch z))]; exact q, fun b zs q => by rw [upd_ne (ne_of q h (fun z => nomatch z))]; exact q, ExtB.upd⟩
end FWL
local macro_rules | `(tactic| walk_at "rh") => `(tactic| first | assumption | solve_by_elim (maxDepth := 40))
local macro_rules | `(tactic| walk_at "rE") => `(tactic| (intro xa xo xh; solve_by_elim (maxDepth := 60)))
local macro_rules | `(tactic| walk_at "rc") => `(tactic| assumption)
local macro_rules | `(tactic| walk_at "rq") => `(tactic| first | decide | omega | exact L2.wide_div (b := 10) (by decide) (by decide) (by decide) (by decide) | (constructor <;> omega))
set_option hygiene false in
local macro_rules | `(tactic| walk_at "rn") => `(tactic| (intro nt nz; generalize hG : L2.upd _ nt _ = nH; obtain ⟨ne, nh⟩ := FWL.al_of nz hG; clear hG))
set_option hygiene false in
local macro_rules | `(tactic| walk_at "rz1") => `(tactic| first
  | ((with_reducible refine FWL.ha_mod (by walk_at "rq") ?_); intro md md0 md1 mdh)
  | (with_reducible first | refine FWL.ha_eqI ?_ | refine FWL.ha_eqS ?_ | refine FWL.ha_neI ?_ | refine FWL.ha_neS ?_ | refine FWL.ha_intD ?_ | refine FW.e_I ?_ (by walk_at "rq"))
  | walk_at "re1"
  | (refine ⟨Nat.le_of_ble_eq_true rfl, ?_⟩; walk_at "rn")
  | ((with_reducible apply FWL.ha_fld); (next => walk_at "rh"); (next => walk_at "rc"); (next => walk_at "rc"); (next => rfl))
  | ((with_reducible apply FWL.ha_mt); (next => walk_at "rh"); (next => rfl))
  | ((with_reducible apply FWL.ha_ixL); (next => walk_at "rh"); (next => rfl))
  | ((with_reducible apply FWL.ha_ixT); (next => walk_at "rh"); (next => rfl))
  | ((with_reducible refine FWL.ha_row (by walk_at "rh") (by assumption) (by omega) (by omega) ?_); intro xr xr0 xr1)
  | (with_reducible refine FWL.ha_pickI (by walk_at "rh") (by with_unfolding_all rfl) (by omega) (by (simp only [List.length_cons, List.length_nil]; omega)) ?_; intro w hw; simp only [FWL.strsOf, FWL.intsOf, List.filterMap_cons, List.filterMap_nil, List.mem_cons, List.not_mem_nil, or_false] at hw)
  | (with_reducible refine FWL.ha_pickS (by walk_at "rh") (by with_unfolding_all rfl) (by omega) (by (simp only [List.length_cons, List.length_nil]; omega)) ?_; intro w hw; simp only [FWL.strsOf, FWL.intsOf, List.filterMap_cons, List.filterMap_nil, List.mem_cons, List.not_mem_nil, or_false] at hw)
  | ((with_reducible refine FWL.ha_pick (by walk_at "rh") (by omega) (by (simp only [List.length_cons, List.length_nil]; omega)) ?_); intro pv hpv; simp only [List.mem_cons, List.not_mem_nil, or_false] at hpv)
  | ((with_reducible refine FWL.ha_cat (by walk_at "rh") (by walk_at "rh") (Nat.le_of_ble_eq_true (by with_unfolding_all rfl)) ?_); intro nt nH nz ne nh; try simp only [List.cons_append, List.nil_append] at nh)
  | ((with_reducible refine FWL.ha_tupL (by walk_at "rh") ?_); intro nt nH nz ne nh)
  | ((with_reducible refine FWL.e_max1 ?_ (by walk_at "rh")); intro mx hmx mx1 mx2)
  | ((with_reducible refine FWL.e_min1 ?_ (by walk_at "rh")); intro mn hmn mn1 mn2)
  | ((with_reducible apply FWL.ha_lenN); (next => walk_at "rh"); (next => (simp only [List.length_cons, List.length_nil, List.length_append, Nat.reduceAdd]; rfl)))
  | (with_reducible refine FWL.ha_len (by walk_at "rh") ?_)
  | (with_reducible refine FWL.ha_gT (by walk_at "rh") (by with_unfolding_all rfl) ?_)
  | (with_reducible refine FWL.ha_gL (by walk_at "rh") (by with_unfolding_all rfl) ?_)
  | (with_reducible refine FWL.ha_tyL (by walk_at "rh") ?_)
  | (intro nt nd nz nzd nne; generalize hG : L2.upd (L2.upd _ nd _) nt _ = nH; obtain ⟨ne, nh⟩ := FWL.mk_of nz nzd nne hG; clear hG nzd nne))
local macro_rules | `(tactic| walk_at "ry") => `(tactic| repeat (walk_at "rz1"))
local macro_rules | `(tactic| walk_at "rx") => `(tactic| repeat (first | walk_at "rz1" | walk_at "rs1"))
namespace FWL
open PySem PySem.Spec PyProof.Rows L2 FW
/-! ### heaps that keep all but tables -/
section
variable {H H' : Hp} {a C dx : Addr} {xs : List V} {fs : List (Str × L2.V)}
theorem nx_lst (e : LamX.ExtN H H') (h : H a = some (.lst xs)) : H' a = some (.lst xs) := e _ _ h (fun _ z => nomatch z)
theorem nx_tup (e : LamX.ExtN H H') (h : H a = some (.tup xs)) : H' a = some (.tup xs) := e _ _ h (fun _ z => nomatch z)
theorem nx_ins (e : LamX.ExtN H H') (h : H a = some (.ins C dx fs)) : H' a = some (.ins C dx fs) := e _ _ h (fun _ z => nomatch z)
theorem nx_of (e : Ext H H') : LamX.ExtN H H' := LamX.ExtN.of e
end
theorem nx_all {H H' : Hp} (e : LamX.ExtN H H') : (∀ a xs, H a = some (.lst xs) → H' a = some (.lst xs)) ∧ (∀ a xs, H a = some (.tup xs) → H' a = some (.tup xs)) ∧ (∀ a C dx fs, H a = some (.ins C dx fs) → H' a = some (.ins C dx fs)) :=
  ⟨fun _ _ h => nx_lst e h, fun _ _ h => nx_tup e h, fun _ _ _ _ h => nx_ins e h⟩
theorem tabs_lst {T : List (Addr × Str)} {H G : Hp} {a : Addr} {xs ys : List V} (t : LamX.Tabs T H) (h : H a = some (.lst xs)) (e : upd H a (.lst ys) = G) : LamX.Tabs T G := fun p hp => by
  subst e
  obtain ⟨ps, h1, h2, h3⟩ := t p hp
  refine ⟨ps, by rw [upd_ne (ne_of h1 h (fun z => nomatch z))]; exact h1, h2, fun pos cv hc => ?_⟩
  obtain ⟨c, e1, e2⟩ := h3 pos cv hc
  exact ⟨c, e1, by rw [upd_ne (ne_of e2 h (fun z => nomatch z))]; exact e2⟩
end FWL
local macro_rules | `(tactic| walk_at "rN") => `(tactic| (intro xa xo xh xn; solve_by_elim (maxDepth := 60)))
namespace FWP
open PySem PySem.Spec PyProof.Rows L2 FW LamX
/-! ### lambdas with one parameter, handed to a method -/
/-- the names of a lambda with the parameter x -/
structure LamP (sc scope : Scope) (x : Str) : Prop where
  fk : scope.kind = .function
  noco : scope.isCoroutine = false
  nogen : scope.isGenerator = false
  par : scope.names.lookup x = some .local
  own : ∀ y ∈ scope.names, y.2 = .local → y.1 = x
  nocell : ∀ y ∈ scope.names, y.2 ≠ .cell
  capt : ∀ y ∈ scope.names, y.2 = .free → sc.names.lookup y.1 = some .cell ∨ sc.names.lookup y.1 = some .free
theorem LamP.cells {X : Cx} {scope : Scope} {x : Str} (L : LamP X.env.scope scope x) (ok : X.Ok) (y : Str × NameKind) (hy : y ∈ scope.names) (e : y.2 = .free) : ∃ c, X.env.cells.lookup y.1 = some c :=
  ok.has _ (L.capt y hy e)
def lamPB (sc scope : Scope) (x : Str) : Bool :=
  decide (scope.kind = .function) && (!scope.isCoroutine && (!scope.isGenerator && (decide (scope.names.lookup x = some .local) && scope.names.all fun y => (!decide (y.2 = .local) || decide (y.1 = x)) && (!decide (y.2 = .cell) && (!decide (y.2 = .free) || (decide (sc.names.lookup y.1 = some .cell) || decide (sc.names.lookup y.1 = some .free)))))))
theorem lamP_by {sc scope : Scope} {x : Str} (h : lamPB sc scope x = true) : LamP sc scope x := by
  unfold lamPB at h
  simp only [Bool.and_eq_true, Bool.or_eq_true, Bool.not_eq_true', decide_eq_true_eq, decide_eq_false_iff_not, List.all_eq_true] at h
  obtain ⟨h1, h2, h3, h4, h5⟩ := h
  exact ⟨h1, h2, h3, h4, fun y hy e => ((h5 y hy).1).resolve_left (fun z => z e), fun y hy => (h5 y hy).2.1, fun y hy e => ((h5 y hy).2.2).resolve_left (fun z => z e)⟩
/-- the context of the body: the maker's names, and x behind them -/
def cxP (X : Cx) (A : Around) (outer : List Env) (s : Shared) (H : Hp) (scope : Scope) (x : Str) (f c' : Addr) : Cx := { lamCx X A outer s H E0 scope f c' with N := X.N ++ [x] }
section
variable {X : Cx} {pins : List (Addr × Obj)} {σ : L2.St} {H HZ : Hp} {s s1 : Shared}
theorem startP {A : Around} {outer : List Env} {scope : Scope} {x : Str} {f c' : Addr} {v : V} {u : Value} {h2 : Heap} {tk : Nat} (I : Inv X pins σ H s) (L : LamP X.env.scope scope x) (hx : x ∉ X.N) (e0 : Env0 X.prog X.w X.K X.mg X.base A outer s1 HZ) (hd : A.handled = none)
    (un : Un (frs X.stack) [] H HZ s.heap s1.heap) (hns : h2.Ns s1.heap.objs.size fun y => ([(x, u)] : List (Str × Value)).reverse.lookup y) (rv : RelV v u) (kp : ∀ b o, s1.heap.get? b = some o → h2.get? b = some o) :
    Inv (cxP X A outer s1 HZ scope x f c') [] (σ ++ [some v]) HZ { s1 with heap := h2, toks := tk } := by
  have clo : ∀ {y c}, (cloFrom X.env.cells scope.names []).lookup y = some c → X.env.cells.lookup y = some c := fun {y c} e => by
    rcases cloFrom_mem (PySem.mem_of_lookup e) with z | ⟨z1, z2⟩
    · cases z
    · obtain ⟨c1, hc⟩ := L.cells I.ok _ z1 rfl
      have hc' : X.env.cells.lookup y = some c1 := hc
      have : c = c1 := by rw [z2, hc'] <;> rfl
      rw [this]; exact hc'
  have has : ∀ {y}, scope.names.lookup y = some .free → ∃ c, (cloFrom X.env.cells scope.names []).lookup y = some c := fun {y} hl =>
    mem_lookup (cloFrom_has (cells := X.env.cells) (acc := []) (show (y, NameKind.free) ∈ scope.names from PySem.mem_of_lookup hl))
  have cellK : ∀ {c : Addr} {v : Option Value}, H c = none → s.heap.IsCell c v → h2.IsCell c v := fun {c v} n ⟨o, ho, hd⟩ => by
    obtain ⟨sl, z⟩ := un.any ho n (by simp)
    exact ⟨_, kp _ _ z, hd⟩
  have noA : ∀ b : Addr, b ∉ (cxP X A outer s1 HZ scope x f c').ex := fun b z => absurd (show b ∈ ([] : List Addr) from z) (by simp)
  constructor
  · exact ⟨e0.mod, L.fk, rfl, rfl, Nat.le_refl _, fun y z c e1 e2 => I.ok.inj y z c (clo e1) (clo e2), (fun y hy => (show scope.names.lookup y = some .cell ∨ scope.names.lookup y = some .free from hy).elim (fun z => absurd rfl (L.nocell _ (PySem.mem_of_lookup z))) has), fun y c z _ => (nomatch (show false = true from z)), fun _ => hd, Around.frames_deeper e0.frames, .inr ⟨rfl, rfl⟩, fun b z => absurd z (noA b), e0.bs, e0.bsz, fun b _ _ => noA b, fun b z => absurd z (noA b), e0.funs, e0.frf⟩
  · rfl
  · exact e0.bare
  · exact Un.kept kp
  · refine ⟨_, hns, fun i y w h1 h2 h3 => ?_⟩
    have h1 : (X.N ++ [x])[i]? = some y := h1
    have h3 : Vis scope y := h3
    have hlen := I.len
    rcases Nat.lt_or_ge i X.N.length with hi | hi
    · rw [List.getElem?_append_left hi] at h1
      rw [List.getElem?_append_left (by omega)] at h2
      rcases h3 with z | z | z
      · have : y = x := L.own _ (PySem.mem_of_lookup z) rfl
        rw [this] at h1
        exact absurd (List.mem_of_getElem? h1) hx
      · exact absurd rfl (L.nocell _ (PySem.mem_of_lookup z))
      · obtain ⟨m, hn, hl⟩ := I.loc
        have cp := L.capt _ (PySem.mem_of_lookup z) rfl
        obtain ⟨w', r, q⟩ := hl i y w h1 h2 (cp.elim (fun k => .inr (.inl k)) (fun k => .inr (.inr k)))
        obtain ⟨c2, hc2⟩ := has z
        have hc1 := clo hc2
        refine ⟨w', r, .inr ⟨.inr z, c2, hc2, ?_⟩⟩
        rcases q with ⟨k', _⟩ | ⟨_, c3, e', zz⟩
        · have k' : X.env.scope.names.lookup y = some .local := k'
          rcases cp with k2 | k2 <;> rw [show X.env.scope.names.lookup y = _ from k2] at k' <;> cases k'
        · rw [hc1] at e'
          cases e'
          exact cellK (I.freeC y _ hc1) zz
    · have hi' : i = X.N.length := by
        have := (List.getElem?_eq_some_iff.mp h1).1
        rw [List.length_append] at this
        simp at this; omega
      rw [hi', List.getElem?_append_right (Nat.le_refl _), Nat.sub_self] at h1
      rw [hi', ← hlen, List.getElem?_append_right (Nat.le_refl _), Nat.sub_self] at h2
      cases h1
      cases h2
      exact ⟨u, rv, .inl ⟨L.par, by show ([(x, u)] : List (Str × Value)).reverse.lookup x = some u; simp⟩⟩
  · intro y c e
    obtain ⟨w', z⟩ := I.cell y c (clo e)
    exact ⟨w', cellK (I.freeC y c (clo e)) z⟩
  · exact e0.hok.fresh (Nat.le_refl _)
  · intro y c e
    obtain ⟨v, o, ho, hd⟩ := I.cell y c (clo e)
    exact un.free c o ho (I.freeC y c (clo e)) (by simp)
  · exact fun p hp => absurd (show p ∈ ([] : List (Addr × Obj)) ++ [] from hp) (by simp)
  · exact e0.hok.kept kp
  · show (σ ++ [some v]).length = (X.N ++ [x]).length
    rw [List.length_append, List.length_append, I.len]; rfl
/-- a(e) in the def that got the lambda -/
theorem pe_actP {Ng : List Str} {qg : Str} {sg : Scope} {g f c' : Addr} {cdg pm ctv : Value} {params : Arguments} {body e : Expr} {scope : Scope} {x a : Str} {k i : Nat} {pn : List (Addr × Obj)} {xe : Value → Shared → Prop} {tb te : TE} {p1 p2 : Pos}
    (I : Inv X pins σ H s) (L : LamP X.env.scope scope x) (hxN : x ∉ X.N) (hf : s.heap.get? f = some (PySem.W.kla_obj "<lambda>" (X.env.qual ++ "<lambda>") params body scope (cloFrom X.env.cells scope.names []) pm c' ctv)) (hfn : H f = none) (hfr : f ∉ frs X.stack)
    (hbind : ∀ u : Value, bindArgs (PySem.W.kla_fn "<lambda>" (X.env.qual ++ "<lambda>") params body scope (cloFrom X.env.cells scope.names []) pm (.ref c') ctv) ⟨[u], []⟩ = pure [(x, u)])
    (hr : Room (k + 1) (X.A.deeper (envOfC qg sg s.heap.objs.size g cdg)))
    (hbody : ∀ (A : Around) (outer : List Env) (s : Shared) (H : Hp), Room k (A.deeper (lamEnv X scope s.heap.objs.size f c')) → PE (cxP X A outer s H scope x f c') body tb)
    (hN : Ng[i]? = some a) (hv : Vis sg a) (hd : (a == ("__debug__" : Str)) = false) (hcd : (a == ("__classdict__" : Str)) = false)
    (he : PE (FWN.defCx X Ng qg sg g cdg s H pn xe) e te) (hst : starEach [e] (FWN.defCx X Ng qg sg g cdg s H pn xe).env = (false, eval e (FWN.defCx X Ng qg sg g cdg s H pn xe).env) :: starEach [] (FWN.defCx X Ng qg sg g cdg s H pn xe).env) :
    PE (FWN.defCx X Ng qg sg g cdg s H pn xe) (.Call (.Name a p1) [e] [] p2) (fun σZ HZ Q => σZ[i]? = some (some (.ref f)) ∧ te σZ HZ fun v H1 => H1 c' = some (CodeO c' (X.env.qual ++ "<lambda>")) ∧ tb (σ ++ [some v]) H1 Q) := by
  refine ⟨?_⟩
  rintro pinsZ sZ σZ HZ Q IZ ⟨es, et⟩
  refine wpAny_Call_Name_kw (thn ((pe_var (pos := p1) (i := i) hN hv hd hcd).run pinsZ sZ σZ HZ (fun v H1 => v = .ref f ∧ H1 = HZ) IZ ⟨.ref f, es, rfl, rfl⟩) ?_)
  rintro u0 sY ⟨v0, HY, IY, r0, rfl, rfl⟩
  obtain rfl : u0 = Value.ref f := r0
  have keptY := IY.base.keep f _ hf hfn hfr (fun z => nomatch (show f ∈ ([] : List Addr) from z))
  refine PySem.W.callWith_F ⟨_, _, _, _, keptY⟩ ?_ hst (by rfl)
  rw [hst]
  show wpAny _ _ (spliced ((false, eval e (FWN.defCx X Ng qg sg g cdg s H pn xe).env) :: backTo p2 (starEach [] (FWN.defCx X Ng qg sg g cdg s H pn xe).env))) _ _ sY
  refine Calls.spliced_cons (thn (he.run pinsZ sY σZ HY _ IY et) ?_)
  rintro u s1 ⟨v, H1, I1, rv, ec, et⟩
  have keptF := I1.base.keep f _ hf hfn hfr (fun z => nomatch (show f ∈ ([] : List Addr) from z))
  refine Calls.spliced_nil ⟨⟨_, _, _, _, keptF⟩, wpAny_call ?_⟩
  obtain ⟨⟨oc, ws, t, hoc, hdc, hvc⟩, _, _⟩ := I1.hok c' _ ec
  have ran : codeAny (model X.prog X.w) (X.A.deeper (envOfC qg sg s.heap.objs.size g cdg)) (.call (.ref f) ⟨[u], []⟩) (CR (L2.CX X.prog X.w) (envOfC qg sg s.heap.objs.size g cdg :: X.stack) X.prog X.w H1 s1 Q E0) s1 := by
    refine PySem.W.kla_callFunE hr.depth keptF rfl L.noco L.nogen rfl ⟨c', oc, ws, t, rfl, hoc, hdc, hvc⟩ ?_
    rw [hbind]
    refine wpAny_pure (wpAny_newFunctionEnv (fun y hy => L.nocell y hy) (fun y hy => by rw [List.mem_singleton.mp hy]; exact L.par) (fun h2 hns hsb => ⟨I1.nolimit.fresh _ hsb, ?_⟩) L.fk)
    show codeAny _ _ (.expr body (lamEnv X scope s1.heap.objs.size f c')) _ _
    have J0 := startP (f := f) (c' := c') (tk := s1.toks + ([(x, u)] : List (Str × Value)).length) I L hxN I1.env0 hr.hd I1.base hns rv (fun b o e => hsb.extBut b o (Nat.ne_of_lt (Heap.lt_size e)) (Heap.get?_push_of_some _ e))
    refine PySem.W.kla_codeExpr (wpAny_mono ((hbody _ _ s1 H1 (hr.deeper _)).run [] _ _ H1 Q J0 et) ?_ fun e s' hq => ?_)
    · rintro v s' ⟨w', H', J', rv, q⟩
      exact ⟨w', H', J'.os, J'.bare, J'.base, J'.hok, rv, q⟩
    · exact hq
  have pass : Passes (L2.CX X.prog X.w) (FWN.defCx X Ng qg sg g cdg s H pn xe) E0 := passes_call LamX.takes0 fun _ _ _ _ z => z
  refine codeAny_mono ran fun r s' hq => ?_
  match r, hq with
  | .error e, hq => exact pass pinsZ σZ H1 s1 e s' I1 hq
  | .ok (.ret u), hq => exact I1.after hq
  | .ok .next, hq => exact False.elim hq
  | .ok .brk, hq => exact False.elim hq
  | .ok .cont, hq => exact False.elim hq
/-- the method that calls what it got last: TT tells what it makes of the lambda's reading -/
def GivesP (X : Cx) (Ng : List Str) (qg : Str) (sg : Scope) (g : Addr) (cdg : Value) (bg : List Stmt) (a : Str) (i : Nat) (q : Str) (TT : (V → Hp → VK → Prop) → List V → Hp → VK → Prop) : Prop :=
  ∀ (f c' : Addr) (s : Shared) (H : Hp) (vs : List V) (Q : VK) (tl : V → Hp → VK → Prop) (j : Nat), Room j (X.A.deeper (envOfC qg sg s.heap.objs.size g cdg)) →
    (∀ (pn : List (Addr × Obj)) (xe : Value → Shared → Prop) (e : Expr) (te : TE) (p1 p2 : Pos), PE (FWN.defCx X Ng qg sg g cdg s H pn xe) e te →
      starEach [e] (FWN.defCx X Ng qg sg g cdg s H pn xe).env = (false, eval e (FWN.defCx X Ng qg sg g cdg s H pn xe).env) :: starEach [] (FWN.defCx X Ng qg sg g cdg s H pn xe).env →
      PE (FWN.defCx X Ng qg sg g cdg s H pn xe) (.Call (.Name a p1) [e] [] p2) (fun σZ HZ Q => σZ[i]? = some (some (.ref f)) ∧ te σZ HZ fun v H1 => H1 c' = some (CodeO c' q) ∧ tl v H1 Q)) →
    H c' = some (CodeO c' q) → TT tl vs H Q → 8 ≤ j →
    ∃ t, PSs (cxOf CX0 X.prog X.w X.K X.mg X.base Ng qg sg g cdg X.A X.stack s H E0).nox bg t ∧ t { nx := fun _ H' => Q .non H', rt := Q } (L2.start Ng (vs ++ [.ref f])) H
/-- o.m(e1, e2, lambda x: b) -/
def tLamP (T : List (Addr × Str)) (TT : (V → Hp → VK → Prop) → List V → Hp → VK → Prop) (C : Addr) (m : Str) (ta t1 t2 tb : TE) : TE := fun σ H Q =>
  ta σ H fun ov H1 => ∃ p dx fs, ov = .ref p ∧ H1 p = some (.ins C dx fs) ∧ fs.lookup m = none ∧ t1 σ H1 fun v1 H2 => t2 σ H2 fun v2 H3 => Tabs T H3 ∧ ∀ H4, ExtN H3 H4 → Tabs T H4 → TT (fun v H' Q' => tb (σ ++ [some v]) H' Q') [.ref p, v1, v2] H4 Q
theorem pe_lamP {T : List (Addr × Str)} {TT : (V → Hp → VK → Prop) → List V → Hp → VK → Prop} {m x a qg : Str} {C g c P : Addr} {k j : Nat} {pg : Arguments} {bg : List Stmt} {sg : Scope} {Ng ps : List Str}
    {params : Arguments} {o e1 e2 body : Expr} {scope : Scope} {ta t1 t2 tb : TE} {apos lpos pos : Pos} {pl : Sem Bool} (ho : PE X o ta) (h1 : PE X e1 t1) (h2 : PE X e2 t2) (cl : Cls X.K C) (me : Meth X.K C m g) (F : ∃ fd, FunD X.K m qg pg bg sg [] [] g fd)
    (hb : ∀ (kV doc pm : Value) (an : Option Addr) (cdv ct : Value) (us : List Value), us.length = ps.length → bindArgs (PySem.W.fnOf m qg pg bg sg .none kV doc pm an cdv ct) ⟨us, []⟩ = pure (ps.zip us)) (Sg : FnScope Ng ps sg) (hps : ps.length = 4) (hNg : Ng[3]? = some a) (hva : Vis sg a)
    (hG : ∀ cdv, GivesP X Ng qg sg g cdv bg a 3 (X.env.qual ++ "<lambda>") TT)
    (TB : TabB X.base X.mg c P) (hcode : X.env.code = .ref c) (hmT : (P, X.env.qual ++ "<lambda>") ∈ T) (hu : ∀ p ∈ T, p.1 = P → p.2 = X.env.qual ++ "<lambda>") (hr : Room j X.A) (hk : k + 2 ≤ j) (hk8 : 10 ≤ j) (L : LamP X.env.scope scope x) (hxN : x ∉ X.N) (hdef : defaultsOf params X.env = ([], []))
    (hbind : ∀ (q : Str) (cl : List (Str × Addr)) (pm cv ctv u : Value), bindArgs (PySem.W.kla_fn "<lambda>" q params body scope cl pm cv ctv) ⟨[u], []⟩ = pure [(x, u)])
    (hbody : ∀ (A : Around) (outer : List Env) (s : Shared) (H : Hp) (f c' : Addr), Room k (A.deeper (lamEnv X scope s.heap.objs.size f c')) → PE (cxP X A outer s H scope x f c') body tb)
    (hd : (a == ("__debug__" : Str)) = false := by decide) (hcd : (a == ("__classdict__" : Str)) = false := by decide)
    (hst : starEach [e1, e2, .Lambda params body scope lpos] X.env = (false, eval e1 X.env) :: (false, eval e2 X.env) :: (false, eval (.Lambda params body scope lpos) X.env) :: starEach [] X.env := by rfl)
    (hst1 : starEach [e1, e2, .Lambda params body scope lpos] X.env = (false, eval e1 X.env) :: starEach [e2, .Lambda params body scope lpos] X.env := by rfl) (hpl : (backTo pos (starEach [e2, .Lambda params body scope lpos] X.env)).any (·.1) = false := by rfl)
    (ht : eval (.Call (.Attribute o m apos) [e1, e2, .Lambda params body scope lpos] [] pos) X.env = (do
      let ov ← eval o X.env
      standAt apos.atName
      let (f, first) ← holding [ov] (getMethod ov m pl)
      callWith pos f first (backTo pos (starEach [e1, e2, .Lambda params body scope lpos] X.env)) (backToKw pos (keywordEach [] X.env))) := by rfl) :
    PE X (.Call (.Attribute o m apos) [e1, e2, .Lambda params body scope lpos] [] pos) (tLamP T TT C m ta t1 t2 tb) := by
  obtain ⟨fd, F⟩ := F
  have bnd := F.bindsN (ps := ps) hb
  obtain ⟨oc, od, dV, kV, doc, pm, an, cdv, ct, osl, rfl, lk, hcd', _, _⟩ := F.ex
  refine ⟨?_⟩
  intro pins s σ H Q I h
  refine PySem.W.methodCall_KW (pl := pl) (thn (ho.run pins s σ H _ I h) ?_) ht
  rintro u0 s0 ⟨v0, H0, I0, r0, p, dx, fs, rfl, hp, hl, q0⟩
  obtain rfl : u0 = Value.ref p := r0
  refine getmeth_ok I0 hp cl me hl ?_
  refine PySem.W.callWith_K (first := [.ref p]) (h₀ := X.base) I.ok.mod.kin me.kp ?_ hst1 hpl
  rw [hst]
  show wpAny _ _ (spliced ((false, eval e1 X.env) :: (false, eval e2 X.env) :: (false, eval (.Lambda params body scope lpos) X.env) :: backTo pos (starEach [] X.env))) _ _ s0
  refine Calls.spliced_cons (thn (h1.run pins s0 σ H0 _ I0 q0) ?_)
  rintro u1 s1 ⟨v1, H1, I1, r1, q1⟩
  refine Calls.spliced_cons (thn (h2.run pins s1 σ H1 _ I1 q1) ?_)
  rintro u2 s2 ⟨v2, H2, I2, r2, hT, q2⟩
  refine Calls.spliced_cons (lam_make2 I2 TB hcode hmT hu hT hdef (fun y hy e => L.cells I.ok y hy e) fun f c' pm' ctv H3 s3 I3 eN T3 hf hfn hfr hco => Calls.spliced_nil ⟨I3.kIn, wpAny_call ?_⟩)
  have ran : codeAny (model X.prog X.w) X.A (.call (.ref g) ⟨[.ref p, u1, u2, .ref f], []⟩) (CR CX0 X.stack X.prog X.w H3 s3 Q E0) s3 := by
    obtain ⟨j', rfl⟩ : ∃ j', j = j' + 1 := ⟨j - 1, by omega⟩
    refine run_ofS (N := Ng) (ps := ps) (us := [.ref p, u1, u2, .ref f]) (vs := [.ref p, v1, v2, .ref f]) lk hcd' Sg hr I3.env0 (bnd s3 [.ref p, u1, u2, .ref f] I3.kIn (by rw [hps]; rfl)) (.cons rfl (.cons r1 (.cons r2 (.cons rfl .nil)))) (by rw [hps]; rfl) fun hr' => ?_
    obtain ⟨t', ht', hq'⟩ := hG cdv f c' s3 H3 [.ref p, v1, v2] Q (fun v H' Q' => tb (σ ++ [some v]) H' Q') j' hr' (fun pn xe e te p1 p2 he hs => pe_actP (k := k) (i := 3) I3 L hxN hf hfn hfr (hbind _ _ _ _ _) (hr'.mono (by omega)) (fun A outer s H hr2 => hbody A outer s H f c' hr2) hNg hva hd hcd he hs) hco (q2 H3 eN T3) (by omega)
    exact ⟨t', ht'.nox, hq'⟩
  refine codeAny_mono ran fun r s4 hq => ?_
  match r, hq with
  | .error e, hq => exact (show False from hq).elim
  | .ok (.ret u), hq => exact I3.after hq
  | .ok .next, hq => exact False.elim hq
  | .ok .brk, hq => exact False.elim hq
  | .ok .cont, hq => exact False.elim hq
end
/-- a(e), a the lambda at f in slot i -/
def tAskP (f c : Addr) (q : Str) (tl : V → Hp → VK → Prop) (i : Nat) (te : TE) : TE := fun σ H Q => σ[i]? = some (some (.ref f)) ∧ te σ H fun v H1 => H1 c = some (CodeO c q) ∧ tl v H1 Q
/-- a method that makes lambdas -/
theorem Mt.mkXC {P : Program} {w : World} {K : PySem.W.Frag} {mg : Str → Option Value} {base : Heap} {CX : CXT} {m qual : Str} {C : Addr} {params : Arguments} {body : List Stmt} {scope : Scope} {p : He.Defn} {N ps : List Str} {k : Nat} {sp : Sp}
    (c : Cls K C) (me : Meth K C m (He.fAd K p)) (F : ∃ fd, FunD K m qual params body scope [] [] (He.fAd K p) fd) (S : FnScope N ps scope)
    (hb : ∀ (kV doc pm : Value) (an : Option Addr) (cdv ct : Value) (us : List Value), us.length = ps.length → bindArgs (PySem.W.fnOf m qual params body scope .none kV doc pm an cdv ct) ⟨us, []⟩ = pure (ps.zip us))
    (len : ∀ vs H Q E, sp vs H Q E → vs.length = ps.length)
    (hbody : ∀ (A : Around) (outer : List Env) (s : Shared) (H : Hp) (vs : List V) (Q : VK) (E : XK), Room k (A.deeper (envOfC qual scope s.heap.objs.size (He.fAd K p) (.ref (He.codeOf K p)))) → sp vs H Q E →
      ∃ t, PSs (cxOf CX P w K mg base N qual scope (He.fAd K p) (.ref (He.codeOf K p)) A outer s H E) body t ∧ t { nx := fun _ H' => Q .non H', rt := Q } (start N vs) H) : FW.Mt P w K mg base CX (k + 1) C m sp [] := by
  obtain ⟨fd, F⟩ := F
  exact ⟨He.fAd K p, fd, ps, [], c, me, funD_okC F S len hbody, F.bindsN hb, .nil⟩
end FWP
namespace FWN
open PySem PySem.Spec PyProof.Rows L2 FW
/-! ### try: return e finally: suite; an exception of e goes on behind the suite -/
section
variable {X : Cx} {pins : List (Addr × Obj)} {a : Addr} {B : Heap} {sI s : Shared} {σ : L2.St} {H : Hp} {cls : Value} {d : Option Addr}
/-- the exception and its trace, both pinned -/
theorem Cau.both (c : Cau X pins a B sI σ H cls d s) : ∃ (eo : Obj) (ev : Array Value) (T : Addr) (tO : Obj) (tv : Array Value), s.heap.get? a = some eo ∧ L2N.Zn cls d eo ∧ eo.data = .fields ev ∧ ev[1]? = some (.ref T) ∧
    B.get? T = none ∧ T ≠ a ∧ s.heap.get? T = some tO ∧ tO.data = .fields tv ∧ tv[3]? = some .none ∧ B.get? a = none ∧ a ∉ frs (X.env :: X.outer) ∧ T ∉ frs (X.env :: X.outer) ∧
    Inv (X.suite a ((a, eo) :: (T, tO) :: (X.pn ++ pins))) [] σ H s := by
  obtain ⟨k1, k2, k3, eo, ev, T, tO, tv, g1, g2, g3, g4, g5, g6, g7, g8, g9⟩ := id c.fly
  have J := c.now
  have hT : H T = none := (c.inv.inGround c.nb).gone g5
  have nf : ∀ (b : Addr) (o : Obj) (w : Array Value), s.heap.get? b = some o → o.data = .fields w → b ∉ frs (X.env :: X.outer) := fun b o w e1 e2 m => by
    obtain ⟨_, o2, e3, e4⟩ := k3.mem m
    rw [e1] at e3
    cases e3
    exact e4 _ e2
  have n1 := nf a eo ev g1 g3
  have n2 := nf T tO tv g7 g8
  have inL : X.env.locals ∈ frs (X.env :: X.outer) := List.mem_filterMap.mpr ⟨X.env, List.mem_cons_self, c.hf⟩
  have inF : ∀ b ∈ X.fs, b ∈ frs (X.env :: X.outer) := fun b m => by
    obtain ⟨en, me, q⟩ := List.mem_filterMap.mp m
    exact List.mem_filterMap.mpr ⟨en, List.mem_cons_of_mem _ me, q⟩
  refine ⟨eo, ev, T, tO, tv, g1, g2, g3, g4, g5, g6, g7, g8, g9, k2, n1, n2, ?_⟩
  refine ⟨J.ok.suite _ _, J.os, J.bare, J.base, J.loc, J.cell, J.free, J.freeC, fun p hp => ?_, J.hok, J.len⟩
  rw [List.append_nil] at hp
  rcases List.mem_cons.mp hp with rfl | (hp : p ∈ _)
  · exact ⟨g1, c.na, fun z => n1 ((show a = X.env.locals from z) ▸ inL), fun z => n1 (inF _ z), fun v z => nomatch (g3.symm.trans (show eo.data = .cell v from z))⟩
  rcases List.mem_cons.mp hp with rfl | (hp : p ∈ _)
  · exact ⟨g7, hT, fun z => n2 ((show T = X.env.locals from z) ▸ inL), fun z => n2 (inF _ z), fun v z => nomatch (g8.symm.trans (show tO.data = .cell v from z))⟩
  · exact J.pin p hp
/-- what is wished of an exception of e: the suite runs, then Wo -/
def wFinN (ts : TS) (Wo : WX) : WX := fun cls d σ H => ts { nx := fun σ2 H2 => Wo cls d σ2 H2, rt := fun _ _ => False } σ H
/-- behind the suite: the exception flies on -/
theorem Cau.suiteOn {D : Ends} {Wo : WX} {f₀ : Stmt} {fs : List Stmt} {ts : TS} (hex : X.ex = []) (tk : L2N.Takes X Wo) (hsu : ∀ (a : Addr) (pn : List (Addr × Obj)), PSs (X.suite a pn) (f₀ :: fs) ts) (c : Cau X pins a B sI σ H cls d s) (hw : wFinN ts Wo cls d σ H)
    {E2 : Value → Shared → Prop} :
    wpAny (model X.prog X.w) (X.A.mark (some (.ref a))) (execs (f₀ :: fs) X.env) (fun g s2 => match g with
      | .next => wpAny (model X.prog X.w) X.A (PySem.passOn "try.finally" (.ref a) X.env) (SP X pins D) X.xe s2
      | g => wpAny (model X.prog X.w) X.A (setFlight (.ref a) none) (fun _ s3 => SP X pins D g s3) X.xe s2) E2 s := by
  obtain ⟨eo, ev, T, tO, tv, g1, g2, g3, g4, g5, g6, g7, g8, g9, k2, n1, n2, S⟩ := c.both
  have J := c.now
  refine wpAny_mono ((hsu a ((a, eo) :: (T, tO) :: (X.pn ++ pins))).run [] s σ H { nx := fun σ2 H2 => Wo cls d σ2 H2, rt := fun _ _ => False } S hw) (fun g s6 sp => ?_) fun _ _ z => z.elim
  cases g with
  | ret u => obtain ⟨_, _, _, _, _, z⟩ := sp; exact z.elim
  | brk => obtain ⟨_, _, _, z⟩ := sp; exact z.elim
  | cont => obtain ⟨_, _, _, z⟩ := sp; exact z.elim
  | next =>
    obtain ⟨σ6, H6, S6, w6⟩ := sp
    have up2 : ∀ {p}, p ∈ X.pn ++ pins → p ∈ (a, eo) :: (T, tO) :: (X.pn ++ pins) := fun h => List.mem_cons_of_mem _ (List.mem_cons_of_mem _ h)
    have J6 : Inv X pins σ6 H6 s6 := ⟨J.ok, S6.os, S6.bare, S6.base, S6.loc, S6.cell, S6.free, S6.freeC, fun p hp => S6.pin p (List.mem_append_left _ (up2 hp)), S6.hok, S6.len⟩
    obtain ⟨ga, na6, _⟩ := S6.pin (a, eo) (List.mem_append_left _ List.mem_cons_self)
    obtain ⟨gT, nT6, _⟩ := S6.pin (T, tO) (List.mem_append_left _ (List.mem_cons_of_mem _ List.mem_cons_self))
    dsimp only at ga na6 gT nT6
    have far : ∀ {b o}, sI.heap.get? b = some o → b ≠ a ∧ b ≠ T := fun {b o} e => by
      by_cases m : b ∈ frs (X.env :: X.outer)
      · exact ⟨fun z => n1 (z ▸ m), fun z => n2 (z ▸ m)⟩
      · have q := c.nb b o e (by rw [c.hs]; exact m)
        exact ⟨fun z => (by rw [z, k2] at q; cases q), fun z => (by rw [z, g5] at q; cases q)⟩
    have far0 : ∀ b u, X.s_0.heap.get? b = some u → b ≠ a ∧ b ≠ T := fun b o e => by
      obtain ⟨o2, q⟩ := c.inv.base.there b o e (by rw [hex]; simp)
      exact far q
    obtain ⟨G, r1, r2⟩ := restrict s6.heap fun b => !(decide (b = a) || decide (b = T))
    have gIn : ∀ b u, G.get? b = some u → s6.heap.get? b = some u ∧ b ≠ a ∧ b ≠ T := fun b o e => by
      by_cases z : b = a ∨ b = T
      · rw [r2 b (by rcases z with z | z <;> simp [z])] at e; cases e
      · have z2 := not_or.mp z
        rw [r1 b (by simp [z2.1, z2.2])] at e
        exact ⟨e, z2⟩
    have gOf : ∀ b o, b ≠ a → b ≠ T → s6.heap.get? b = some o → G.get? b = some o := fun b o z1 z2 e => (r1 b (by simp [z1, z2])).trans e
    have I6 := J6.less (G := G) (fun b o e => (gIn b o e).1) gOf ⟨eo, ev, ga, g3⟩ ⟨tO, tv, gT, g8⟩ na6 nT6 far0 fun p hp => far (c.inv.pin p hp).1
    have hIn : ∀ b o, (PySem.W.hideAll G (frs X.stack)).get? b = some o → s6.heap.get? b = some o ∧ b ≠ a ∧ b ≠ T := fun b o e => gIn b o (PySem.W.of_hideAll _ e)
    have hNo : ∀ b, b = a ∨ b = T → (PySem.W.hideAll G (frs X.stack)).get? b = none := fun b z => by
      refine Option.eq_none_iff_forall_ne_some.mpr fun o q => ?_
      exact (z.elim (hIn b o q).2.1 (hIn b o q).2.2).elim
    have ff : s6.heap.FunFrames (PySem.W.hideAll G (frs X.stack)) (X.env :: X.outer) := by
      rw [← c.hs]
      exact funFrames_none J6.stack fun b m => PySem.W.hideAll_none _ m
    have fl6 : HandSPX.FlyingZ (PySem.W.hideAll G (frs X.stack)) (X.env :: X.outer) a (L2N.Zn cls d) s6.heap :=
      ⟨fun b o e => (hIn b o e).1, hNo a (.inl rfl), ff, eo, ev, T, tO, tv, ga, g2, g3, g4, hNo T (.inr rfl), g6, gT, g8, g9⟩
    dsimp only
    have onward : wpAny (model X.prog X.w) X.A (setFlight (.ref a) X.env.frame) (fun _ s7 => wpAny (model X.prog X.w) X.A (throw (.ref a) : Sem Flow) (SP X pins D) X.xe s7) X.xe s6 := by
      rw [c.hf]
      refine HandSPX.setFlight_upZ fl6 fun h7 q7 u7 => wpAny_throw (tk _ _ ⟨a, PySem.W.hideAll G (frs X.stack), { s6 with heap := G }, pins, σ6, H6, cls, d, rfl, I6, fun b o e m => PySem.W.hideAll_get _ e m, ?_, .inr (.inr (by rw [← c.hs] at q7; exact q7)), na6, rfl, J6.bare, w6⟩)
      exact (Heap.UpToSlots.of_keeps fun b o e => (gIn b o e).1).trans u7
    unfold PySem.passOn
    refine wpAny_bind (wpAny_field ga g3 g4 ?_)
    rw [if_neg (by simp)]
    first
      | exact wpAny_bind (wpAny_pure (wpAny_bind onward))
      | exact wpAny_bind onward
end
def tRetFinN (te : WX → TE) (tf ts : TS) (Wo : WX) : TS := fun D σ H => te (wFinN ts Wo) σ H fun v H1 => tf { D with nx := fun _ H2 => D.rt v H2 } σ H1
theorem ps_retFinN {X : Cx} {e : Expr} {f₀ : Stmt} {fs : List Stmt} {rp pos : Pos} {te : WX → TE} {tf ts : TS} {Wo : WX} (hs : X.stack = X.env :: X.outer) (hf : X.env.frame = some X.env.locals) (hex : X.ex = []) (tk : L2N.Takes X Wo)
    (he : ∀ (W : WX) (pn : List (Addr × Obj)) (xe : Value → Shared → Prop), L2N.Takes (X.tr pn xe) W → PassesOwn (model X.prog X.w) X.A X.env xe → PE (X.tr pn xe) e (te W))
    (hfin : PSs X.nox (f₀ :: fs) tf) (hsu : ∀ (a : Addr) (pn : List (Addr × Obj)), PSs (X.suite a pn) (f₀ :: fs) ts) : PS X (.Try [.Return (some e) rp] [] [] (f₀ :: fs) pos) (tRetFinN te tf ts Wo) := by
  refine ⟨fun pins s σ H D I h => wpAny_Try_finally (wpAny_execs_cons (wpAny_Return_some ?_))⟩
  have fr : X.A.frames = some (X.env :: X.outer) := by rw [I.ok.frames, hs]
  have run := (he (wFinN ts Wo) (X.pn ++ pins) (fun x s1 => wpAny (model X.prog X.w) X.A (noteFrame x X.env) (fun _ s2 => FinallyRaised X.prog X.w X.A X.xe X.env (f₀ :: fs) (SP X pins D) x s2) (FinallyRaised X.prog X.w X.A X.xe X.env (f₀ :: fs) (SP X pins D)) s1)
    ?_ PassesOwn.looking).run [] s σ H (fun v H1 => tf { D with nx := fun _ H2 => D.rt v H2 } σ H1) (I.toTry _) h
  · refine wpAny_mono run (fun u s1 z => ?_) fun _ _ hx => hx
    obtain ⟨v, G1, J1, rv, q1⟩ := z
    exact fin_ret hfin (J1.ofTry I.ok) rv q1
  · rintro u s1 ⟨a, B, sI, ps, τ, G, cls, d, rfl, J, nb, up, sky, na, os, ag, w⟩
    have sky' : Sky B (X.env :: X.outer) a (L2N.Zn cls d) X.env.locals s1.heap := by rw [← hs]; exact sky
    dsimp only
    have fin : ∀ h1, HandSPX.HeldZ B (X.env :: X.outer) a (L2N.Zn cls d) X.env.locals h1 → s1.heap.UpToSlots h1 → FinallyRaised X.prog X.w X.A X.xe X.env (f₀ :: fs) (SP X pins D) (.ref a) { s1 with heap := h1 } := fun h1 hh u1 =>
      ⟨ref_ne_byPass a, HandSPX.againZ hf hh.2.2.2 (HandSPX.landsZ hh fun h3 f3 u3 => Cau.suiteOn (s := { s1 with heap := h3 }) hex tk hsu ⟨hs, hf, J.ofTry I.ok, nb, (up.trans u1).trans u3, f3, na, os, ag⟩ w)⟩
    rcases sky' with ⟨hB, hn, hl, oe, vs, he, hz, hd, h1⟩ | fl | hh
    · exact PXN.look_newZ L2N.Zn.steady fr hl hf he hB hn hd h1 hz fin
    · exact PXN.looks_onZ L2N.Zn.steady fr hf fl fin
    · exact HandSPX.againZ hf hh.2.2.2 (fin s1.heap hh (Heap.UpToSlots.refl _))
end FWN
namespace FWP
open PySem PySem.Spec PyProof.Rows L2 FW LamX
/-! ### o.m(lambda x: body): the method calls what it got; the body may raise -/
def cxT (X : Cx) (A : Around) (outer : List Env) (s : Shared) (H : Hp) (E : XK) (scope : Scope) (x : Str) (f c' : Addr) : Cx := { FWN.lamCxN X A outer s H E scope f c' with N := X.N ++ [x] }
abbrev defT (X : Cx) (Ng : List Str) (qg : Str) (sg : Scope) (g : Addr) (cdg : Value) (s : Shared) (H : Hp) (E : XK) (pn : List (Addr × Obj)) (xe : Value → Shared → Prop) : Cx := (cxOf (L2N.CX X.prog X.w) X.prog X.w X.K X.mg X.base Ng qg sg g cdg X.A X.stack s H E).tr pn xe
/-- a(e), a the lambda at f in slot i; its error is W's -/
def tActT (W : WX) (f c : Addr) (q : Str) (tl : XK → V → Hp → VK → Prop) (i : Nat) (te : TE) : TE := fun σ H Q => σ[i]? = some (some (.ref f)) ∧ te σ H fun v H1 => H1 c = some (CodeO c q) ∧ tl (fun cls d H' => W cls d σ H') v H1 Q
section
variable {X : Cx} {pins : List (Addr × Obj)} {σ : L2.St} {H : Hp} {s : Shared}
theorem pe_actT {Ng : List Str} {qg : Str} {sg : Scope} {g f c' : Addr} {cdg pm ctv : Value} {params : Arguments} {body e : Expr} {scope : Scope} {x a : Str} {k i : Nat} {pn : List (Addr × Obj)} {xe : Value → Shared → Prop} {W : WX} {E : XK} {tb : XK → TE} {te : TE} {p1 p2 : Pos}
    (I : Inv X pins σ H s) (L : LamP X.env.scope scope x) (hxN : x ∉ X.N) (hf : s.heap.get? f = some (PySem.W.kla_obj "<lambda>" (X.env.qual ++ "<lambda>") params body scope (cloFrom X.env.cells scope.names []) pm c' ctv)) (hfn : H f = none) (hfr : f ∉ frs X.stack)
    (hbind : ∀ u : Value, bindArgs (PySem.W.kla_fn "<lambda>" (X.env.qual ++ "<lambda>") params body scope (cloFrom X.env.cells scope.names []) pm (.ref c') ctv) ⟨[u], []⟩ = pure [(x, u)])
    (tk : L2N.Takes (defT X Ng qg sg g cdg s H E pn xe) W) (hr : Room (k + 1) (X.A.deeper (envOfC qg sg s.heap.objs.size g cdg)))
    (hbody : ∀ (A : Around) (outer : List Env) (s : Shared) (H : Hp) (E1 : XK), Room k (A.deeper (lamEnv X scope s.heap.objs.size f c')) → PE (cxT X A outer s H E1 scope x f c') body (tb E1))
    (hN : Ng[i]? = some a) (hv : Vis sg a) (hd : (a == ("__debug__" : Str)) = false) (hcd : (a == ("__classdict__" : Str)) = false)
    (he : PE (defT X Ng qg sg g cdg s H E pn xe) e te) (hst : starEach [e] (defT X Ng qg sg g cdg s H E pn xe).env = (false, eval e (defT X Ng qg sg g cdg s H E pn xe).env) :: starEach [] (defT X Ng qg sg g cdg s H E pn xe).env) :
    PE (defT X Ng qg sg g cdg s H E pn xe) (.Call (.Name a p1) [e] [] p2) (tActT W f c' (X.env.qual ++ "<lambda>") (fun E1 v H' Q' => tb E1 (σ ++ [some v]) H' Q') i te) := by
  refine ⟨?_⟩
  rintro pinsZ sZ σZ HZ Q IZ ⟨es, et⟩
  refine wpAny_Call_Name_kw (thn ((pe_var (pos := p1) (i := i) hN hv hd hcd).run pinsZ sZ σZ HZ (fun v H1 => v = .ref f ∧ H1 = HZ) IZ ⟨.ref f, es, rfl, rfl⟩) ?_)
  rintro u0 sY ⟨v0, HY, IY, r0, rfl, rfl⟩
  obtain rfl : u0 = Value.ref f := r0
  have keptY := IY.base.keep f _ hf hfn hfr (fun z => nomatch (show f ∈ ([] : List Addr) from z))
  refine PySem.W.callWith_F ⟨_, _, _, _, keptY⟩ ?_ hst (by rfl)
  rw [hst]
  show wpAny _ _ (spliced ((false, eval e (defT X Ng qg sg g cdg s H E pn xe).env) :: backTo p2 (starEach [] (defT X Ng qg sg g cdg s H E pn xe).env))) _ _ sY
  refine Calls.spliced_cons (thn (he.run pinsZ sY σZ HY _ IY et) ?_)
  rintro u s1 ⟨v, H1, I1, rv, ec, et⟩
  have keptF := I1.base.keep f _ hf hfn hfr (fun z => nomatch (show f ∈ ([] : List Addr) from z))
  refine Calls.spliced_nil ⟨⟨_, _, _, _, keptF⟩, wpAny_call ?_⟩
  obtain ⟨⟨oc, ws, t, hoc, hdc, hvc⟩, _, _⟩ := I1.hok c' _ ec
  have ran : codeAny (model X.prog X.w) (X.A.deeper (envOfC qg sg s.heap.objs.size g cdg)) (.call (.ref f) ⟨[u], []⟩) (CR (L2N.CX X.prog X.w) (envOfC qg sg s.heap.objs.size g cdg :: X.stack) X.prog X.w H1 s1 Q (fun cls d H' => W cls d σZ H')) s1 := by
    refine PySem.W.kla_callFunE hr.depth keptF rfl L.noco L.nogen rfl ⟨c', oc, ws, t, rfl, hoc, hdc, hvc⟩ ?_
    rw [hbind]
    refine wpAny_pure (wpAny_newFunctionEnv (fun y hy => L.nocell y hy) (fun y hy => by rw [List.mem_singleton.mp hy]; exact L.par) (fun h2 hns hsb => ⟨I1.nolimit.fresh _ hsb, ?_⟩) L.fk)
    show codeAny _ _ (.expr body (lamEnv X scope s1.heap.objs.size f c')) _ _
    have J0 := startP (f := f) (c' := c') (tk := s1.toks + ([(x, u)] : List (Str × Value)).length) I L hxN I1.env0 hr.hd I1.base hns rv (fun b o e => hsb.extBut b o (Nat.ne_of_lt (Heap.lt_size e)) (Heap.get?_push_of_some _ e))
    refine PySem.W.kla_codeExpr (wpAny_mono ((hbody _ _ s1 H1 (fun cls d H' => W cls d σZ H') (hr.deeper _)).run [] _ _ H1 Q (FWN.inv_xe J0) et) ?_ fun e s' hq => hq)
    rintro v s' ⟨w', H', J', rv, q⟩
    exact ⟨w', H', J'.os, J'.bare, J'.base, J'.hok, rv, q⟩
  have pass := L2N.passAt tk σZ
  refine codeAny_mono ran fun r s' hq => ?_
  match r, hq with
  | .error e, hq => exact pass pinsZ H1 s1 e s' I1 hq
  | .ok (.ret u), hq => exact I1.after hq
  | .ok .next, hq => exact False.elim hq
  | .ok .brk, hq => exact False.elim hq
  | .ok .cont, hq => exact False.elim hq
/-- the method that calls what it got last: TT tells what it makes of the lambda's reading -/
def GivesT (X : Cx) (Ng : List Str) (qg : Str) (sg : Scope) (g : Addr) (cdg : Value) (bg : List Stmt) (a : Str) (i : Nat) (q : Str) (TT : (XK → V → Hp → VK → Prop) → List V → Hp → VK → XK → Prop) : Prop :=
  ∀ (f c' : Addr) (s : Shared) (H : Hp) (vs : List V) (Q : VK) (E : XK) (tl : XK → V → Hp → VK → Prop) (j : Nat), Room j (X.A.deeper (envOfC qg sg s.heap.objs.size g cdg)) →
    (∀ (W : WX) (pn : List (Addr × Obj)) (xe : Value → Shared → Prop) (e : Expr) (te : TE) (p1 p2 : Pos), L2N.Takes (defT X Ng qg sg g cdg s H E pn xe) W → PE (defT X Ng qg sg g cdg s H E pn xe) e te →
      starEach [e] (defT X Ng qg sg g cdg s H E pn xe).env = (false, eval e (defT X Ng qg sg g cdg s H E pn xe).env) :: starEach [] (defT X Ng qg sg g cdg s H E pn xe).env →
      PE (defT X Ng qg sg g cdg s H E pn xe) (.Call (.Name a p1) [e] [] p2) (tActT W f c' q tl i te)) →
    H c' = some (CodeO c' q) → TT tl vs H Q E → 8 ≤ j →
    ∃ t, PSs (cxOf (L2N.CX X.prog X.w) X.prog X.w X.K X.mg X.base Ng qg sg g cdg X.A X.stack s H E) bg t ∧ t { nx := fun _ H' => Q .non H', rt := Q } (L2.start Ng (vs ++ [.ref f])) H
/-- o.m(lambda x: b) -/
def tLamT (T : List (Addr × Str)) (TT : (XK → V → Hp → VK → Prop) → List V → Hp → VK → XK → Prop) (C : Addr) (m : Str) (W : WX) (ta : TE) (tb : XK → TE) : TE := fun σ H Q =>
  ta σ H fun ov H1 => ∃ p dx fs, ov = .ref p ∧ H1 p = some (.ins C dx fs) ∧ fs.lookup m = none ∧ Tabs T H1 ∧ ∀ H4, ExtN H1 H4 → Tabs T H4 → TT (fun E v H' Q' => tb E (σ ++ [some v]) H' Q') [.ref p] H4 Q (fun cls d H' => W cls d σ H')
theorem pe_lamT {T : List (Addr × Str)} {TT : (XK → V → Hp → VK → Prop) → List V → Hp → VK → XK → Prop} {W : WX} {m x a qg : Str} {C g c P : Addr} {k j : Nat} {pg : Arguments} {bg : List Stmt} {sg : Scope} {Ng ps : List Str}
    {params : Arguments} {o body : Expr} {scope : Scope} {ta : TE} {tb : XK → TE} {apos lpos pos : Pos} {pl : Sem Bool} (tk : L2N.Takes X W) (ho : PE X o ta) (cl : Cls X.K C) (me : Meth X.K C m g) (F : ∃ fd, FunD X.K m qg pg bg sg [] [] g fd)
    (hb : ∀ (kV doc pm : Value) (an : Option Addr) (cdv ct : Value) (us : List Value), us.length = ps.length → bindArgs (PySem.W.fnOf m qg pg bg sg .none kV doc pm an cdv ct) ⟨us, []⟩ = pure (ps.zip us)) (Sg : FnScope Ng ps sg) (hps : ps.length = 2) (hNg : Ng[1]? = some a) (hva : Vis sg a)
    (hG : ∀ cdv, GivesT X Ng qg sg g cdv bg a 1 (X.env.qual ++ "<lambda>") TT)
    (TB : TabB X.base X.mg c P) (hcode : X.env.code = .ref c) (hmT : (P, X.env.qual ++ "<lambda>") ∈ T) (hu : ∀ p ∈ T, p.1 = P → p.2 = X.env.qual ++ "<lambda>") (hr : Room j X.A) (hk : k + 2 ≤ j) (hk8 : 10 ≤ j) (L : LamP X.env.scope scope x) (hxN : x ∉ X.N) (hdef : defaultsOf params X.env = ([], []))
    (hbind : ∀ (q : Str) (cl : List (Str × Addr)) (pm cv ctv u : Value), bindArgs (PySem.W.kla_fn "<lambda>" q params body scope cl pm cv ctv) ⟨[u], []⟩ = pure [(x, u)])
    (hbody : ∀ (A : Around) (outer : List Env) (s : Shared) (H : Hp) (E : XK) (f c' : Addr), Room k (A.deeper (lamEnv X scope s.heap.objs.size f c')) → PE (cxT X A outer s H E scope x f c') body (tb E))
    (hd : (a == ("__debug__" : Str)) = false := by decide) (hcd : (a == ("__classdict__" : Str)) = false := by decide)
    (hst : starEach [.Lambda params body scope lpos] X.env = (false, eval (.Lambda params body scope lpos) X.env) :: starEach [] X.env := by rfl) (hpl : (backTo pos (starEach [] X.env)).any (·.1) = false := by rfl)
    (ht : eval (.Call (.Attribute o m apos) [.Lambda params body scope lpos] [] pos) X.env = (do
      let ov ← eval o X.env
      standAt apos.atName
      let (f, first) ← holding [ov] (getMethod ov m pl)
      callWith pos f first (backTo pos (starEach [.Lambda params body scope lpos] X.env)) (backToKw pos (keywordEach [] X.env))) := by rfl) :
    PE X (.Call (.Attribute o m apos) [.Lambda params body scope lpos] [] pos) (tLamT T TT C m W ta tb) := by
  obtain ⟨fd, F⟩ := F
  have bnd := F.bindsN (ps := ps) hb
  obtain ⟨oc, od, dV, kV, doc, pm, an, cdv, ct, osl, rfl, lk, hcd', _, _⟩ := F.ex
  refine ⟨?_⟩
  intro pins s σ H Q I h
  refine PySem.W.methodCall_KW (pl := pl) (thn (ho.run pins s σ H _ I h) ?_) ht
  rintro u0 s0 ⟨v0, H0, I0, r0, p, dx, fs, rfl, hp, hl, hT, q0⟩
  obtain rfl : u0 = Value.ref p := r0
  refine getmeth_ok I0 hp cl me hl ?_
  refine PySem.W.callWith_K (first := [.ref p]) (h₀ := X.base) I.ok.mod.kin me.kp ?_ hst hpl
  rw [hst]
  show wpAny _ _ (spliced ((false, eval (.Lambda params body scope lpos) X.env) :: backTo pos (starEach [] X.env))) _ _ s0
  refine Calls.spliced_cons (lam_make2 I0 TB hcode hmT hu hT hdef (fun y hy e => L.cells I.ok y hy e) fun f c' pm' ctv H3 s3 I3 eN T3 hf hfn hfr hco => Calls.spliced_nil ⟨I3.kIn, wpAny_call ?_⟩)
  have ran : codeAny (model X.prog X.w) X.A (.call (.ref g) ⟨[.ref p, .ref f], []⟩) (CR (L2N.CX X.prog X.w) X.stack X.prog X.w H3 s3 Q (fun cls d H' => W cls d σ H')) s3 := by
    obtain ⟨j', rfl⟩ : ∃ j', j = j' + 1 := ⟨j - 1, by omega⟩
    refine run_ofS (N := Ng) (ps := ps) (us := [.ref p, .ref f]) (vs := [.ref p, .ref f]) lk hcd' Sg hr I3.env0 (bnd s3 [.ref p, .ref f] I3.kIn (by rw [hps]; rfl)) (.cons rfl (.cons rfl .nil)) (by rw [hps]; rfl) fun hr' => ?_
    exact hG cdv f c' s3 H3 [.ref p] Q (fun cls d H' => W cls d σ H') (fun E v H' Q' => tb E (σ ++ [some v]) H' Q') j' hr' (fun W2 pn xe e te p1 p2 tk2 he hs => pe_actT (k := k) (i := 1) I3 L hxN hf hfn hfr (hbind _ _ _ _ _) tk2 (hr'.mono (by omega)) (fun A outer s H E hr2 => hbody A outer s H E f c' hr2) hNg hva hd hcd he hs) hco (q0 H3 eN T3) (by omega)
  refine codeAny_mono ran fun r s4 hq => ?_
  match r, hq with
  | .error e, hq => exact L2N.passAt tk σ pins H3 s3 e s4 I3 hq
  | .ok (.ret u), hq => exact I3.after hq
  | .ok .next, hq => exact False.elim hq
  | .ok .brk, hq => exact False.elim hq
  | .ok .cont, hq => exact False.elim hq
end
/-- d[k] that may not be there -/
theorem pe_dgetN {X : Cx} {W : WX} {o i : Expr} {td ty : TE} {pos : Pos} (hc : X.calm = true) (hu : X.A.units + 1 < cLine) (tk : L2N.Takes X W) (ho : PE X o td) (hi : PE X i ty) (hs : NoSl i) : PE X (.Subscript o i pos) (tDGetX W td ty) := by
  refine ⟨fun pins s σ H Q I h => subD_of PySem.F.slot_dict_getitem.lookup hs (thn (ho.run pins s σ H _ I h) fun u s1 ⟨x, H1, I1, rx, q1⟩ => thn (hi.run pins s1 σ H1 _ I1 q1) fun iv s2 ⟨y, H2, I2, ry, a, ov, ex, g, qs, qn⟩ => ?_)⟩
  subst ex
  obtain rfl : u = Value.ref a := rx
  refine ⟨dict_typeIs I2 g, ?_⟩
  cases ov with
  | some v => exact d_getItem hu I2 g ry fun w' s3 I3 rw' => ⟨v, H2, I3, rw', qs v rfl⟩
  | none => exact d_missing hu (I2.ok.hd hc) I2 g ry fun h' e t' ne => L2N.takes_newN (t' := t') tk I2 ne (qn rfl)
end FWP
namespace FW
open PySem PySem.Spec PyProof.Rows L2
/-- x is b, of two truths -/
def rIsB : R2 := fun x y H Q => ∃ a b, x = .bl a ∧ y = .bl b ∧ Q (.bl (decide (a = b))) H
def rIsNB : R2 := fun x y H Q => ∃ a b, x = .bl a ∧ y = .bl b ∧ Q (.bl (!decide (a = b))) H
section
variable {X : Cx}
theorem op_isB : OpR X (compareOp .Is) rIsB := by
  intro pins s σ H x y v u Q I rx ry h
  obtain ⟨a, b, rfl, rfl, q⟩ := h
  cases rx
  cases ry
  exact is_bool (fin_bl I q (by cases a <;> cases b <;> rfl))
theorem op_isNB : OpR X (compareOp .IsNot) rIsNB := by
  intro pins s σ H x y v u Q I rx ry h
  obtain ⟨a, b, rfl, rfl, q⟩ := h
  cases rx
  cases ry
  exact isnot_bool (fin_bl I q (by cases a <;> cases b <;> rfl))
/-- a target's either -/
def gEither (t u : TG) : TG := fun v σ H Q => t v σ H Q ∨ u v σ H Q
theorem pg_either {e : Expr} {t u : TG} (h1 : PG X e t) (h2 : PG X e u) : PG X e (gEither t u) := ⟨fun pins s σ H v w Q I r h => h.elim (h1.run pins s σ H v w Q I r) (h2.run pins s σ H v w Q I r)⟩
end
end FW
namespace FWL
open PySem PySem.Spec PyProof.Rows L2 FW
/-! ### led loops: put, undo, trial, twin -/
def sp_Led_initX (K : PySem.W.Frag) : Sp := fun vs H Q E => ∃ (x dx lp : Addr) (vn vs' : V) (nn ns : String), vs = [.ref x, .ref lp, vn, vs'] ∧ H x = some (.ins (He.ga K "Led") dx []) ∧ WT K H vn nn ∧ WT K H vs' ns ∧
  (fromI vn 0 = false → ∀ d, H d = none → E (clsN K) (some d) (upd H d (.xd [("value", vn)]))) ∧
  (fromI vn 0 = true → fromI vs' 1 = false → ∀ d, H d = none → E (clsS K) (some d) (upd H d (.xd [("value", vs')]))) ∧
  (fromI vn 0 = true → fromI vs' 1 = true → ∀ P H', H P = none → ExtB x H H' → IsLd K H' x lp P (iv vn) (iv vs') ⟨iv vs', none, none⟩ [] → Q .non H')
def rd_Led_initX (K : PySem.W.Frag) (E : XK) : TS := tSeq (tDrop (tCall (sp_check_numberX K) [] E (tCons (tVar 2) (tNil)))) (tSeq (tDrop (tCall (sp_check_startX K) [] E (tCons (tVar 3) (tNil)))) (tSeq (sFld K (tVar 0) (tVar 1) "loop") (tSeq (sFld K (tVar 0) (tVar 2) "n") (tSeq (sFld K (tVar 0) (tVar 3) "first") (tSeq (sFld K (tVar 0) (tVar 3) "guess") (tSeq (sFld K (tVar 0) (tC .non) "before") (tSeq (sFld K (tVar 0) (tC .non) "told") (sFld K (tVar 0) (tLst (tNil)) "past"))))))))
theorem pure_Led_initX (K : PySem.W.Frag) (A : LdK K) (vs : List V) (H : Hp) (Q : VK) (E : XK) (h : sp_Led_initX K vs H Q E) : rd_Led_initX K E { nx := fun _ H' => Q .non H', rt := Q } (start ["self", "loop", "n", "start"] vs) H := by
  obtain ⟨x, dx, lp, vn, vs', nn, ns, rfl, hx, wn, ws, q1, q2, q3⟩ := h
  unfold rd_Led_initX
  walk_at "rd"
  refine ⟨vn, nn, rfl, wn, fun h1 => ?_, q1⟩
  walk_at "rd"
  refine ⟨vs', ns, rfl, ws, fun h2 => ?_, q2 h1⟩
  obtain ⟨n, rfl, n0⟩ := fromI_of h1
  obtain ⟨f, rfl, f1⟩ := fromI_of h2
  walk_at "rd"
  refine e_sF ?_ hx A.cls A.n_loop (by decide)
  walk_at "rd"
  refine e_sF ?_ upd_same A.cls A.n_n (by show 1 < 1000; decide)
  walk_at "rd"
  refine e_sF ?_ upd_same A.cls A.n_first (by show 2 < 1000; decide)
  walk_at "rd"
  refine e_sF ?_ upd_same A.cls A.n_guess (by show 3 < 1000; decide)
  walk_at "rd"
  refine e_sF ?_ upd_same A.cls A.n_before (by show 4 < 1000; decide)
  walk_at "rd"
  refine e_sF ?_ upd_same A.cls A.n_told (by show 5 < 1000; decide)
  rw [upd_upd, upd_upd, upd_upd, upd_upd, upd_upd]
  walk_at "rd"
  refine ⟨by show 0 ≤ sizeLine; decide, fun P hP => ?_⟩
  have nx : x ≠ P := fun z => by rw [z, upd_same] at hP; cases hP
  have hP0 : H P = none := by rw [upd_ne nx.symm] at hP; exact hP
  walk_at "rd"
  refine e_sF ?_ (by rw [upd_ne nx]; exact upd_same) A.cls A.n_past (by show 6 < 1000; decide)
  refine q3 h1 h2 P _ hP0 (fun b ob n' q => ?_) ⟨⟨dx, upd_same⟩, [], ?_, True.intro⟩
  · rw [upd_ne n', upd_ne (ne_of_none q hP0), upd_ne n']; exact q
  · rw [upd_ne nx.symm]; exact upd_same
/-- Led(loop, n, start) that is made -/
theorem make_ld {K : PySem.W.Frag} {H : Hp} {R : Addr → Hp → Prop} {E : XK} {lp : Addr} {n f : Int} (n0 : 0 ≤ n) (f1 : 1 ≤ f) (k : ∀ p P H', H p = none → H P = none → Ext H H' → IsLd K H' p lp P n f ⟨f, none, none⟩ [] → R p H') :
    ∀ x dx, H x = none → H dx = none → dx ≠ x → sp_Led_initX K (.ref x :: ([V.ref lp, V.int n, V.int f] ++ [])) (upd (upd H dx (.own x)) x (.ins (He.ga K "Led") dx [])) (fun v H2 => v = .non ∧ R x H2) E := by
  intro x dx hx hdx hne
  have e3 : Ext H (upd (upd H dx (.own x)) x (.ins (He.ga K "Led") dx [])) := (Ext.new hdx).tr (Ext.new (by rw [upd_ne hne.symm]; exact hx))
  refine ⟨x, dx, lp, _, _, _, _, rfl, upd_same, WT.i n, WT.i f, (fun h => by rw [fromI_int n0] at h; cases h), (fun _ h => by rw [fromI_int f1] at h; cases h), fun _ _ P H4 hP e4 h4 => ⟨rfl, ?_⟩⟩
  exact k x P H4 hx (e3.non hP) (fun b ob q => e4 _ _ (ne_of_none q hx) (e3 _ _ q)) h4
/-- put: refused, or the guess in the place of the present one -/
def sp_Led_putX (K : PySem.W.Frag) : Sp := fun vs H Q E => ∃ (p lp P : Addr) (n f g : Int) (s : Ls) (ps : List Ls), vs = [.ref p, .int g] ∧ IsLd K H p lp P n f s ps ∧ ps.length ≤ 100000 ∧
  (g < 1 → ∀ d, H d = none → E (clsS K) (some d) (upd H d (.xd [("value", .int g)]))) ∧ (1 ≤ g → ∀ H', Ext2 p P H H' → IsLd K H' p lp P n f ⟨g, none, none⟩ (ps ++ [s]) → Q .non H')
def rd_Led_putX (K : PySem.W.Frag) (E : XK) : TS := tSeq (tDrop (tCall (sp_check_startX K) [] E (tCons (tVar 1) (tNil)))) (tSeq (tDrop (tBM K "list" rAppend (tFld K (tVar 0) "past") (tCons (tMeth (He.ga K "Led") "noted" (sp_Led_noted K) [] E0 (tVar 0) tNil) (tNil)))) (tDrop (tMeth (He.ga K "Led") "put_back" (sp_Led_put_back K) [] E0 (tVar 0) (tCons (tVar 1) (tCons (tC .non) (tCons (tC .non) (tNil)))))))
theorem pure_Led_putX (K : PySem.W.Frag) (A : LdK K) (vs : List V) (H : Hp) (Q : VK) (E : XK) (h : sp_Led_putX K vs H Q E) : rd_Led_putX K E { nx := fun _ H' => Q .non H', rt := Q } (start ["self", "guess"] vs) H := by
  obtain ⟨p, lp, P, n, f, g, s, ps, rfl, h, hz, q1, q2⟩ := h
  unfold rd_Led_putX
  with_reducible refine s_seq ?_
  walk_at "rd"
  refine ⟨.int g, _, rfl, WT.i g, fun hg => ?_, fun hg => ?_⟩
  · obtain ⟨g', e, g1⟩ := fromI_of hg
    cases e
    with_reducible refine s_seq ?_
    refine past_app A h hz rfl fun H1 e1 h1 => ?_
    obtain ⟨dx, h2⟩ := id h1.ob
    walk_at "rd"
    refine ⟨p, dx, _, rfl, h2, rfl, ?_⟩
    walk_at "rd"
    exact ⟨p, lp, P, n, f, s, ⟨g, none, none⟩, _, rfl, h1, fun H2 e2 h3 => q2 g1 H2 (e1.tr e2) h3⟩
  · refine q1 ?_
    rcases Int.lt_or_le g 1 with z | z
    · exact z
    · rw [fromI_int z] at hg; cases hg
theorem Pst.get {H : Hp} : ∀ {vs : List V} {ss : List Ls} {i : Nat} {s : Ls}, Pst H vs ss → ss[i]? = some s → ∃ t, vs[i]? = some (.ref t) ∧ H t = some (.tup s.V)
  | [], [], _, _, _, e => by cases e
  | _ :: _, _ :: _, 0, s, ⟨⟨t, h1, h2⟩, _⟩, e => by cases e; subst h1; exact ⟨t, rfl, h2⟩
  | _ :: _, _ :: _, i + 1, s, ⟨_, r⟩, e => Pst.get (i := i) r e
theorem Pst.init {H : Hp} : ∀ {vs : List V} {ss : List Ls}, Pst H vs ss → Pst H vs.dropLast ss.dropLast
  | [], [], _ => True.intro
  | [_], [_], _ => True.intro
  | _ :: _ :: _, _ :: _ :: _, ⟨a, r⟩ => ⟨a, Pst.init r⟩
theorem Pst.last {H : Hp} {vs : List V} {ss : List Ls} {s : Ls} (h : Pst H vs (ss ++ [s])) : ∃ t, vs[vs.length - 1]? = some (.ref t) ∧ vs.length = ss.length + 1 ∧ H t = some (.tup s.V) := by
  have hl := h.len
  rw [List.length_append] at hl
  have hl' : vs.length = ss.length + 1 := hl
  obtain ⟨t, h1, h2⟩ := h.get (i := ss.length) (s := s) (by rw [List.getElem?_append_right (Nat.le_refl _), Nat.sub_self]; rfl)
  exact ⟨t, by rw [hl']; exact h1, hl', h2⟩
theorem nil_or {α : Type} (xs : List α) : xs = [] ∨ ∃ ys y, xs = ys ++ [y] := by
  rcases List.eq_nil_or_concat xs with h | ⟨ys, y, h⟩
  · exact .inl h
  · exact .inr ⟨ys, y, by simpa using h⟩
def sp_Led_undo (K : PySem.W.Frag) : Sp := fun vs H Q _ => ∃ (p lp P : Addr) (n f : Int) (s : Ls) (ps : List Ls), vs = [.ref p] ∧ IsLd K H p lp P n f s ps ∧ (ps = [] → Q (.bl false) H) ∧
  ∀ qs s', ps = qs ++ [s'] → ∀ H', Ext2 p P H H' → IsLd K H' p lp P n f s' qs → Q (.bl true) H'
def rd_Led_undo (K : PySem.W.Frag) : TS := tSeq (tIfS (tNot (FW.tTru K (tFld K (tVar 0) "past"))) (tRet (tC (.bl false))) (tNext)) (tSeq (tAsg (tBM0 K "list" rPop (tFld K (tVar 0) "past")) (gTup K 3 (gCons (gName 1) (gCons (gName 2) (gCons (gName 3) (gNil)))))) (tSeq (tDrop (tMeth (He.ga K "Led") "put_back" (sp_Led_put_back K) [] E0 (tVar 0) (tCons (tVar 1) (tCons (tVar 2) (tCons (tVar 3) (tNil)))))) (tRet (tC (.bl true)))))
theorem pure_Led_undo (K : PySem.W.Frag) (A : LdK K) (vs : List V) (H : Hp) (Q : VK) (E : XK) (h : sp_Led_undo K vs H Q E) : rd_Led_undo K { nx := fun _ H' => Q .non H', rt := Q } (start ["self", "guess", "before", "told"] vs) H := by
  obtain ⟨p, lp, P, n, f, s, ps, rfl, h, q1, q2⟩ := h
  obtain ⟨dx, h1⟩ := id h.ob
  obtain ⟨ws, h2, h3⟩ := id h.pa
  have hl := h3.len
  unfold rd_Led_undo
  walk_at "rd"
  refine e_fD ?_ A h A.n_past rfl
  refine ⟨_, .inl ⟨_, SqL.of h2, rfl⟩, ?_⟩
  rcases nil_or ps with rfl | ⟨qs, s', rfl⟩
  · have e : ws = [] := List.length_eq_zero_iff.mp hl
    subst e
    walk_at "rd"
    exact q1 rfl
  · obtain ⟨t, ht1, hl', ht2⟩ := h3.last
    have hne : (!ws.isEmpty) = true := by
      cases ws with
      | nil => cases hl'
      | cons => rfl
    rw [hne]
    walk_at "rd"
    refine e_fD ?_ A h A.n_past rfl
    refine ⟨.inl ⟨rfl, _, SqL.of h2⟩, P, ws, .ref t, rfl, rfl, h2, ht1, ?_⟩
    have k2 : ∀ b zs, H b = some (.tup zs) → (upd H P (.lst ws.dropLast)) b = some (.tup zs) := fun b zs e => by rw [upd_ne (ne_of e h2 (fun z => nomatch z))]; exact e
    have k3 : Pst (upd H P (.lst ws.dropLast)) ws.dropLast qs := by
      have := h3.init
      rw [List.dropLast_concat] at this
      exact this.keep k2
    have k1 : (upd H P (.lst ws.dropLast)) p = some (.ins (He.ga K "Led") dx (LdF lp P n f s)) := by rw [upd_ne h.ne]; exact h1
    refine ha_gT (xs := [.int s'.g, nkV s'.b, nkV s'.t]) (k2 _ _ ht2) rfl ?_
    walk_at "rd"
    refine ⟨p, dx, _, rfl, k1, rfl, ?_⟩
    walk_at "rd"
    refine ⟨p, lp, P, n, f, s, s', qs, rfl, ⟨⟨dx, k1⟩, _, upd_same, k3⟩, fun H2 e2 h4 => ?_⟩
    walk_at "rd"
    exact q2 qs s' rfl H2 (Ext2.upd2.tr e2) h4
/-- behind a trial: the led loop is as it was, its list another -/
def Back (K : PySem.W.Frag) (p lp C : Addr) (n f : Int) (s : Ls) (ps : List Ls) (R : Hp → Prop) (H2 : Hp) : Prop := ∃ dx P' s', H2 p = some (.ins (He.ga K "Led") dx (LdF lp P' n f s')) ∧ (∃ vs, H2 C = some (.lst vs) ∧ Pst H2 vs ps) ∧
  ∀ H3, ExtB p H2 H3 → IsLd K H3 p lp C n f s ps → R H3
def TT_Led_trial (K : PySem.W.Frag) (tl : XK → V → Hp → VK → Prop) (vs : List V) (H : Hp) (Q : VK) (E : XK) : Prop := ∃ (p lp P : Addr) (n f : Int) (s : Ls) (ps : List Ls), vs = [.ref p] ∧ IsLd K H p lp P n f s ps ∧ ps.length ≤ 100000 ∧
  ∀ C H1, H C = none → Ext H H1 → (∃ ws, H1 C = some (.lst ws) ∧ Pst H1 ws ps) → ∀ (EE : XK) (QQ : VK), (∀ cls d H2, Back K p lp C n f s ps (E cls d) H2 → EE cls d H2) → (∀ v H2, Back K p lp C n f s ps (Q v) H2 → QQ v H2) → tl EE (.ref p) H1 QQ
def rd_Led_trial (K : PySem.W.Frag) (f c : Addr) (q : Str) (tl : XK → V → Hp → VK → Prop) (E : XK) : TS := tSeq (tAsg (tMeth (He.ga K "Led") "noted" (sp_Led_noted K) [] E0 (tVar 0) tNil) (gTup K 3 (gCons (gName 2) (gCons (gName 3) (gCons (gName 4) (gNil)))))) (tSeq (tAsg (tCB (Evl.rListS K) (tCons (tFld K (tVar 0) "past") (tNil))) (gName 5)) (FWN.tRetFinN (fun W => FWP.tActT W f c q tl 1 (tVar 0)) (tSeq (sFld K (tVar 0) (tVar 2) "guess") (tSeq (sFld K (tVar 0) (tVar 3) "before") (tSeq (sFld K (tVar 0) (tVar 4) "told") (sFld K (tVar 0) (tVar 5) "past")))) (tSeq (sFld K (tVar 0) (tVar 2) "guess") (tSeq (sFld K (tVar 0) (tVar 3) "before") (tSeq (sFld K (tVar 0) (tVar 4) "told") (sFld K (tVar 0) (tVar 5) "past")))) (fun cls d _ H => E cls d H)))
theorem pure_Led_trial (K : PySem.W.Frag) (A : LdK K) (f c : Addr) (q : Str) (tl : XK → V → Hp → VK → Prop) (vs : List V) (H : Hp) (Q : VK) (E : XK) (hc : H c = some (LamX.CodeO c q)) (h : TT_Led_trial K tl vs H Q E) :
    rd_Led_trial K f c q tl E { nx := fun _ H' => Q .non H', rt := Q } (start ["self", "work", "guess", "before", "told", "past"] (vs ++ [.ref f])) H := by
  obtain ⟨p, lp, P, n, g, s, ps, rfl, h, hz, k⟩ := h
  obtain ⟨dx, h1⟩ := id h.ob
  unfold rd_Led_trial
  walk_at "rd"
  refine ⟨p, dx, _, rfl, h1, rfl, ?_⟩
  walk_at "rd"
  refine ⟨p, lp, P, n, g, s, ps, rfl, h, fun t H1 ht e1 ht1 => ?_⟩
  refine ha_gT (xs := [.int s.g, nkV s.b, nkV s.t]) ht1 rfl ?_
  walk_at "rd"
  have g1 := h.ext e1
  obtain ⟨ws, h2, h3⟩ := id g1.pa
  refine e_fD ?_ A g1 A.n_past rfl
  walk_at "rd"
  refine e_listS (fun C hC => ?_) (.inl (SqL.of h2))
  have e2 := Ext.new (o := .lst ws) hC
  walk_at "rd"
  have hC0 : H C = none := e1.non hC
  have back : ∀ (R : Hp → Prop) H2 (D : Ends), Back K p lp C n g s ps R H2 → (∀ σ H3, R H3 → D.nx σ H3) →
      (tSeq (sFld K (tVar 0) (tVar 2) "guess") (tSeq (sFld K (tVar 0) (tVar 3) "before") (tSeq (sFld K (tVar 0) (tVar 4) "told") (sFld K (tVar 0) (tVar 5) "past")))) D [some (.ref p), some (.ref f), some (.int s.g), some (nkV s.b), some (nkV s.t), some (.ref C)] H2 := by
    rintro R H2 D ⟨dy, P', s', b1, ⟨vs2, b2, b3⟩, b4⟩ hR
    walk_at "rd"
    refine e_sF ?_ b1 A.cls A.n_guess (by show 7 < 1000; decide)
    walk_at "rd"
    refine e_sF ?_ upd_same A.cls A.n_before (by show 7 < 1000; decide)
    walk_at "rd"
    refine e_sF ?_ upd_same A.cls A.n_told (by show 7 < 1000; decide)
    walk_at "rd"
    refine e_sF ?_ upd_same A.cls A.n_past (by show 7 < 1000; decide)
    rw [upd_upd, upd_upd, upd_upd]
    refine hR _ _ (b4 _ (fun b o n' q => by rw [upd_ne n']; exact q) ⟨⟨dy, upd_same⟩, vs2, ?_, b3.keep fun b xs e => ?_⟩)
    · rw [upd_ne (ne_of b2 b1 (fun z => nomatch z))]; exact b2
    · rw [upd_ne (ne_of e b1 (fun z => nomatch z))]; exact e
  unfold FWN.tRetFinN FWP.tActT
  refine ⟨rfl, ?_⟩
  walk_at "re"
  refine ⟨e2 _ _ (e1 _ _ hc), k C _ hC0 (e1.tr e2) ⟨ws, upd_same, h3.keep fun b xs e => e2 _ _ e⟩ _ _ (fun cls d H2 hb => ?_) fun v H2 hb => ?_⟩
  · exact back _ _ _ hb fun σ H3 r => r
  · exact back _ _ _ hb fun σ H3 r => r
theorem Ext2.from {p P : Addr} {H H1 H2 : Hp} (h1 : H p = none) (h2 : H P = none) (e : Ext H H1) (e2 : Ext2 p P H1 H2) : Ext H H2 := fun b o q => e2 _ _ (ne_of_none q h1) (ne_of_none q h2) (e _ _ q)
def sp_Led_twin (K : PySem.W.Frag) : Sp := fun vs H Q _ => ∃ (p lp P : Addr) (n f : Int) (s : Ls) (ps : List Ls), vs = [.ref p] ∧ IsLd K H p lp P n f s ps ∧ 0 ≤ n ∧ 1 ≤ f ∧ ∀ r R H', H r = none → H R = none → Ext H H' → IsLd K H' r lp R n f s ps → Q (.ref r) H'
def rd_Led_twin (K : PySem.W.Frag) : TS := tSeq (tAsg (tMake (He.ga K "Led") (sp_Led_initX K) [] E0 (tCons (tFld K (tVar 0) "loop") (tCons (tFld K (tVar 0) "n") (tCons (tFld K (tVar 0) "first") (tNil))))) (gName 1)) (tSeq (tDrop (tMeth (He.ga K "Led") "put_back" (sp_Led_put_back K) [] E0 (tVar 1) (tCons (tFld K (tVar 0) "guess") (tCons (tFld K (tVar 0) "before") (tCons (tFld K (tVar 0) "told") (tNil)))))) (tSeq (sFld K (tVar 1) (tCB (Evl.rListS K) (tCons (tFld K (tVar 0) "past") (tNil))) "past") (tRet (tVar 1))))
theorem pure_Led_twin (K : PySem.W.Frag) (A : LdK K) (vs : List V) (H : Hp) (Q : VK) (E : XK) (h : sp_Led_twin K vs H Q E) : rd_Led_twin K { nx := fun _ H' => Q .non H', rt := Q } (start ["self", "other"] vs) H := by
  obtain ⟨p, lp, P, n, f, s, ps, rfl, h, n0, f1, q⟩ := h
  obtain ⟨dx, h1⟩ := id h.ob
  obtain ⟨ws, h2, h3⟩ := id h.pa
  unfold rd_Led_twin
  walk_at "rd"
  refine e_fD ?_ A h A.n_loop rfl
  walk_at "rd"
  refine e_fD ?_ A h A.n_n rfl
  walk_at "rd"
  refine e_fD ?_ A h A.n_first rfl
  walk_at "rd"
  refine make_ld n0 f1 fun r R H1 hr hR e1 g1 => ?_
  obtain ⟨dy, g2⟩ := id g1.ob
  have h4 := h.ext e1
  walk_at "rd"
  refine ⟨r, dy, _, rfl, g2, rfl, ?_⟩
  walk_at "rd"
  refine e_fD ?_ A h4 A.n_guess rfl
  walk_at "rd"
  refine e_fD ?_ A h4 A.n_before rfl
  walk_at "rd"
  refine e_fD ?_ A h4 A.n_told rfl
  walk_at "rd"
  refine ⟨r, lp, R, n, f, ⟨f, none, none⟩, s, [], rfl, g1, fun H2 e2 g3 => ?_⟩
  have e3 : Ext H H2 := Ext2.from hr hR e1 e2
  have h5 := h.ext e3
  obtain ⟨ws2, h6, h7⟩ := id h5.pa
  walk_at "rd"
  refine e_fD ?_ A h5 A.n_past rfl
  walk_at "rd"
  refine e_listS (fun C hC => ?_) (.inl (SqL.of h6))
  have e4 := Ext.new (o := .lst ws2) hC
  obtain ⟨dz, g4⟩ := id (g3.ext e4).ob
  walk_at "rd"
  refine e_sF ?_ g4 A.cls A.n_past (by show 7 < 1000; decide)
  walk_at "rd"
  have hne : C ≠ r := fun z => by rw [z] at hC; obtain ⟨d2, g5⟩ := g3.ob; rw [g5] at hC; cases hC
  have e5 : Ext H (upd (upd H2 C (.lst ws2)) r (.ins (He.ga K "Led") dz (LdF lp C n f s))) := fun b o q => by rw [upd_ne (ne_of_none q hr)]; exact e4 _ _ (e3 _ _ q)
  refine q r C _ hr (e3.non hC) e5 ⟨⟨dz, upd_same⟩, ws2, ?_, ?_⟩
  · rw [upd_ne hne]; exact upd_same
  · exact h7.keep fun b xs e => by rw [upd_ne (ne_of (e4 _ _ e) g4 (fun z => nomatch z))]; exact e4 _ _ e
end FWL
namespace FWL
open PySem PySem.Spec PyProof.Rows L2 FW
/-! ### k52: the law's list of states and a led loop, side by side -/
def tabs (K : PySem.W.Frag) : List (Addr × Str) := [((He.cT K ("_law_put", none)).2, (("_law_put" : Str) ++ ".<locals>.") ++ "<lambda>"), ((He.cT K ("_law_trial_right", none)).2, (("_law_trial_right" : Str) ++ ".<locals>.") ++ "<lambda>"), ((He.cT K ("_law_deeper", none)).2, (("_law_deeper" : Str) ++ ".<locals>.") ++ "<lambda>")]
theorem tabs_of {K : PySem.W.Frag} {H : Hp} (h : ∀ p ∈ ([("_law_put", none), ("_law_trial_right", none), ("_law_deeper", none)] : List He.Defn).map (He.cT K), H p.2 = some (.tbl #[])) : LamX.Tabs (tabs K) H := fun p hp => by
  rcases List.mem_cons.mp hp with rfl | hp
  · exact LamX.TabS.nil (h _ (List.mem_map.mpr ⟨_, List.mem_cons_self, rfl⟩))
  rcases List.mem_cons.mp hp with rfl | hp
  · exact LamX.TabS.nil (h _ (List.mem_map.mpr ⟨_, List.mem_cons_of_mem _ List.mem_cons_self, rfl⟩))
  · rw [List.mem_singleton.mp hp]
    exact LamX.TabS.nil (h _ (List.mem_map.mpr ⟨_, List.mem_cons_of_mem _ (List.mem_cons_of_mem _ List.mem_cons_self), rfl⟩))
/-- all but S and the tables are kept; tuples and tables of lambdas stay what they are -/
structure Fr (K : PySem.W.Frag) (S : List Addr) (H H' : Hp) : Prop where
  k : ∀ b u, b ∉ S → H b = some u → (∀ ps, u ≠ .tbl ps) → H' b = some u
  t : ∀ b xs, H b = some (.tup xs) → H' b = some (.tup xs)
  s : LamX.Tabs (tabs K) H → LamX.Tabs (tabs K) H'
section
variable {K : PySem.W.Frag} {S S' : List Addr} {H H1 H2 : Hp}
theorem Fr.refl : Fr K S H H := ⟨fun _ _ _ h _ => h, fun _ _ h => h, id⟩
theorem Fr.tr (a : Fr K S H H1) (b : Fr K S H1 H2) : Fr K S H H2 := ⟨fun c u n h w => b.k c u n (a.k c u n h w) w, fun c xs h => b.t c xs (a.t c xs h), fun h => b.s (a.s h)⟩
theorem Fr.mono (a : Fr K S H H1) (h : ∀ x ∈ S, x ∈ S') : Fr K S' H H1 := ⟨fun c u n q w => a.k c u (fun z => n (h c z)) q w, a.t, a.s⟩
theorem Fr.of (e : Ext H H1) : Fr K S H H1 := ⟨fun c u _ h _ => e _ _ h, fun c xs h => e _ _ h, fun h => h.ext e⟩
theorem Fr.lst (a : Fr K S H H1) {b : Addr} {xs : List V} (n : b ∉ S) (h : H b = some (.lst xs)) : H1 b = some (.lst xs) := a.k _ _ n h (fun _ z => nomatch z)
theorem Fr.ins (a : Fr K S H H1) {b C d : Addr} {fs : List (Str × V)} (n : b ∉ S) (h : H b = some (.ins C d fs)) : H1 b = some (.ins C d fs) := a.k _ _ n h (fun _ z => nomatch z)
/-- tables are kept where what changes is no table -/
theorem tabs_but (h : ∀ b ∈ S, ∀ u, H b = some u → (∀ ps, u ≠ .tbl ps) ∧ ∀ c q, u ≠ LamX.CodeO c q) (e : ∀ b u, b ∉ S → H b = some u → H1 b = some u) (t : LamX.Tabs (tabs K) H) : LamX.Tabs (tabs K) H1 := fun p hp => by
  obtain ⟨ps, h1, h2, h3⟩ := t p hp
  refine ⟨ps, e _ _ (fun z => (h _ z _ h1).1 ps rfl) h1, h2, fun pos cv hc => ?_⟩
  obtain ⟨c, e1, e2⟩ := h3 pos cv hc
  exact ⟨c, e1, e _ _ (fun z => (h _ z _ e2).2 c p.2 rfl) e2⟩
theorem Fr.of2 {p lp P : Addr} {n f : Int} {s : Ls} {ps : List Ls} (h : IsLd K H p lp P n f s ps) (e : Ext2 p P H H1) : Fr K [p, P] H H1 := by
  obtain ⟨⟨dx, h1⟩, vs, h2, h3⟩ := h
  have e' : ∀ b u, b ∉ [p, P] → H b = some u → H1 b = some u := fun b u n q => e b u (fun z => n (by rw [z]; exact List.mem_cons_self)) (fun z => n (by rw [z]; exact List.mem_cons_of_mem _ List.mem_cons_self)) q
  refine ⟨fun b u n q _ => e' b u n q, fun b xs q => e b _ (ne_of q h1 (fun z => nomatch z)) (ne_of q h2 (fun z => nomatch z)) q, tabs_but (S := [p, P]) (fun b hb u q => ?_) e'⟩
  rcases List.mem_cons.mp hb with rfl | hb
  · rw [h1] at q; cases q; exact ⟨(fun _ z => nomatch z), (fun _ _ z => nomatch z)⟩
  · rw [List.mem_singleton.mp hb, h2] at q; cases q; exact ⟨(fun _ z => nomatch z), (fun _ _ z => nomatch z)⟩
theorem Fr.ofB {o : Addr} {xs : List V} (h : H o = some (.lst xs)) (e : ExtB o H H1) : Fr K [o] H H1 := by
  have e' : ∀ b u, b ∉ [o] → H b = some u → H1 b = some u := fun b u n q => e b u (fun z => n (by rw [z]; exact List.mem_cons_self)) q
  refine ⟨fun b u n q _ => e' b u n q, fun b xs q => e b _ (ne_of q h (fun z => nomatch z)) q, tabs_but (S := [o]) (fun b hb u q => ?_) e'⟩
  rw [List.mem_singleton.mp hb, h] at q; cases q; exact ⟨(fun _ z => nomatch z), (fun _ _ z => nomatch z)⟩
theorem Pst.fr {vs : List V} {ss : List Ls} (e : Fr K S H H1) (h : Pst H vs ss) : Pst H1 vs ss := h.keep e.t
end
/-- the law's list -/
def Own (H : Hp) (o : Addr) (w : List Ls) : Prop := ∃ vs, H o = some (.lst vs) ∧ Pst H vs w
theorem Own.fr {K : PySem.W.Frag} {S : List Addr} {H H1 : Hp} {o : Addr} {w : List Ls} (h : Own H o w) (n : o ∉ S) (e : Fr K S H H1) : Own H1 o w := by
  obtain ⟨vs, h1, h2⟩ := h
  exact ⟨vs, e.lst n h1, h2.fr e⟩
def Gd (s : Ls) : Prop := 0 ≤ s.g ∧ s.g ≤ 2 ^ 200
/-- a list of states and a led loop that go together -/
structure Duo (K : PySem.W.Frag) (H : Hp) (o p lp P : Addr) (n f : Int) (s : Ls) (ps : List Ls) : Prop where
  ld : IsLd K H p lp P n f s ps
  own : Own H o (ps ++ [s])
  ne : o ≠ P
  gd : ∀ x ∈ ps ++ [s], Gd x
theorem IsLd.fr {K : PySem.W.Frag} {S : List Addr} {H H1 : Hp} {p lp P : Addr} {n f : Int} {s : Ls} {ps : List Ls} (h : IsLd K H p lp P n f s ps) (n1 : p ∉ S) (n2 : P ∉ S) (e : Fr K S H H1) : IsLd K H1 p lp P n f s ps := by
  obtain ⟨⟨dx, h1⟩, vs, h2, h3⟩ := h
  exact ⟨⟨dx, e.ins n1 h1⟩, vs, e.lst n2 h2, h3.fr e⟩
theorem Duo.fr {K : PySem.W.Frag} {S : List Addr} {H H1 : Hp} {o p lp P : Addr} {n f : Int} {s : Ls} {ps : List Ls} (h : Duo K H o p lp P n f s ps) (n0 : o ∉ S) (n1 : p ∉ S) (n2 : P ∉ S) (e : Fr K S H H1) : Duo K H1 o p lp P n f s ps :=
  ⟨h.ld.fr n1 n2 e, h.own.fr n0 e, h.ne, h.gd⟩
theorem Duo.ext {K : PySem.W.Frag} {H H1 : Hp} {o p lp P : Addr} {n f : Int} {s : Ls} {ps : List Ls} (h : Duo K H o p lp P n f s ps) (e : Ext H H1) : Duo K H1 o p lp P n f s ps :=
  h.fr (S := []) (fun z => nomatch z) (fun z => nomatch z) (fun z => nomatch z) (Fr.of e)
/-- the loop with which both go -/
structure Wl (K : PySem.W.Frag) (H : Hp) (lp t : Addr) (l : Lp) (n : Int) : Prop where
  lp : IsLp K H lp l
  pt : H t = some (.lst l.V)
  ok : l.Ok
  n0 : 0 ≤ n
  n1 : n ≤ 2 ^ 150
theorem IsLp.ns {K : PySem.W.Frag} {H : Hp} {p lp lq P : Addr} {n f : Int} {s : Ls} {ps : List Ls} {l : Lp} (h : IsLd K H p lp P n f s ps) (hx : IsLp K H lq l) : lq ≠ p ∧ lq ≠ P := by
  obtain ⟨⟨dx, h1⟩, vs, h2, h3⟩ := h
  obtain ⟨dy, h4⟩ := hx
  refine ⟨ne_of h4 h1 fun z => ?_, ne_of h4 h2 (fun z => nomatch z)⟩
  injection z with _ _ z3
  cases l
  simp [Lp.F, LdF] at z3
theorem Wl.fr {K : PySem.W.Frag} {S : List Addr} {H H1 : Hp} {lp t : Addr} {l : Lp} {n : Int} (h : Wl K H lp t l n) (n1 : lp ∉ S) (n2 : t ∉ S) (e : Fr K S H H1) : Wl K H1 lp t l n := by
  obtain ⟨dx, h1⟩ := h.lp
  exact ⟨⟨dx, e.ins n1 h1⟩, e.lst n2 h.pt, h.ok, h.n0, h.n1⟩
theorem root_exL {k n : Int} (hk : k = 2 ∨ k = 3 ∨ k = 4) (h : 0 ≤ n) : ∃ r, RootOf k n r := by
  obtain ⟨r, r0, r1, r2⟩ := root_exists n h (k - 1).toNat
  have e : k.toNat = (k - 1).toNat + 1 := by omega
  exact ⟨r, r0, by rw [e]; exact r1, by rw [e]; exact r2⟩
theorem top_le {n : Int} (h : n ≤ 2 ^ 150) : n + 10 ≤ 2 ^ 200 := by
  have : (2 : Int) ^ 150 + 10 ≤ 2 ^ 200 := by decide
  exact Int.le_trans (Int.add_le_add_right h 10) this
theorem sz_top {x : Int} (x0 : 0 ≤ x) (x1 : x ≤ 2 ^ 200) : Sz 1001 x := by
  show x.natAbs < 2 ^ 1001
  have e1 : (2 : Int) ^ 200 < 2 ^ 1001 := by decide
  have : (x.natAbs : Int) < ((2 ^ 1001 : Nat) : Int) := by
    rw [Int.natAbs_of_nonneg x0, Int.natCast_pow]
    exact Int.lt_of_le_of_lt x1 e1
  exact Int.ofNat_lt.mp this
theorem Gd.led {l : Lp} {n : Int} {s : Ls} (o : l.Ok) (n0 : 0 ≤ n) (n1 : n ≤ 2 ^ 150) (g : Gd s) (hg : s.g ≠ 0) : 1 ≤ s.g ∧ 0 ≤ l.led n s.g ∧ l.led n s.g ≤ 2 ^ 200 := by
  obtain ⟨r, R⟩ := root_exL o.hk n0
  obtain ⟨g0, g1⟩ := g
  have x1 : 1 ≤ s.g := by omega
  exact ⟨x1, led_nonneg o n0 x1, led_most o R x1 g1 (top_le n1)⟩
/-- what a round makes is good again -/
theorem rnd_gd {l : Lp} {n : Int} {s s' : Ls} {w : Bool} (o : l.Ok) (n0 : 0 ≤ n) (n1 : n ≤ 2 ^ 150) (g : Gd s) (h : rnd l n s = some (w, s')) : Gd s' := by
  obtain ⟨r, R⟩ := root_exL o.hk n0
  unfold rnd at h
  split at h
  · cases h; exact g
  · split at h
    · cases h
    · split at h
      · cases h; exact g
      · cases h
        obtain ⟨g0, g1⟩ := g
        have x1 : 1 ≤ s.g := by omega
        exact ⟨led_nonneg o n0 x1, led_most o R x1 g1 (top_le n1)⟩
theorem Duo.rd {K : PySem.W.Frag} {H : Hp} {o p lp P t : Addr} {n f : Int} {s : Ls} {ps : List Ls} {l : Lp} (h : Duo K H o p lp P n f s ps) (w : Wl K H lp t l n) (hz : ps.length ≤ 100000) : RdOk K H p lp P n f s ps l := by
  have g := h.gd s (List.mem_append_right _ List.mem_cons_self)
  have e2 : (2 : Int) ^ 150 < 2 ^ 1000 := by decide
  refine ⟨h.ld, hz, w.lp, w.ok, w.n0, Int.lt_of_le_of_lt w.n1 e2, g.1, sz_top g.1 g.2, fun hg => ?_⟩
  obtain ⟨x1, y0, y1⟩ := g.led w.ok w.n0 w.n1 hg
  exact ⟨y0, sz_top y0 y1⟩
/-! #### shown -/
def optD : Option Int → PyData
  | none => .none
  | some i => .int i
theorem dpO {K : PySem.W.Frag} {H : Hp} (o : Option Int) : Dp K H (nkV o) (optD o) := by
  cases o with
  | none => exact .non
  | some i => exact .int i
def lsD (s : Ls) : PyData := .tuple [.int s.g, optD s.b, optD s.t]
theorem shO (s : Ls) : SeqAt.shaped (lsD s) = true := by
  obtain ⟨g, b, t⟩ := s
  cases b <;> cases t <;> rfl
theorem last_at {vs : List V} {v : V} (h : vs[vs.length - 1]? = some v) (hl : 1 ≤ vs.length) : atI vs (-1) = some v := by
  unfold atI ixN
  rw [if_neg (by omega), if_pos (by omega), show (-1 + (vs.length : Int)).toNat = vs.length - 1 by omega]
  exact h
theorem Own.top {H : Hp} {o : Addr} {w : List Ls} {s : Ls} (h : Own H o (w ++ [s])) : ∃ vs t, H o = some (.lst vs) ∧ Pst H vs (w ++ [s]) ∧ atI vs (-1) = some (.ref t) ∧ H t = some (.tup s.V) ∧ vs.length = w.length + 1 ∧ vs[vs.length - 1]? = some (.ref t) := by
  obtain ⟨vs, h1, h2⟩ := h
  obtain ⟨t, h3, h4, h5⟩ := h2.last
  exact ⟨vs, t, h1, h2, last_at h3 (by omega), h5, h4, h3⟩
def sp_l_showsO (K : PySem.W.Frag) : Sp := fun vs H Q _ => ∃ (o p lp P : Addr) (n f : Int) (s : Ls) (ps w : List Ls), vs = [.ref o, .ref p] ∧ IsLd K H p lp P n f s ps ∧ Own H o (w ++ [s]) ∧ ∀ H', Ext H H' → Q (.bl true) H'
def rd_l_showsO (K : PySem.W.Frag) : TS := tRet (tOp (rEqD K) (tTup (tCons (tFld K (tVar 1) "guess") (tCons (tFld K (tVar 1) "before") (tCons (tFld K (tVar 1) "told") (tNil))))) (tOp (rIxL K) (tVar 0) (tUn FW.rNeg (tC (.int 1)))))
theorem pure_l_showsO (K : PySem.W.Frag) (A : LdK K) (vs : List V) (H : Hp) (Q : VK) (E : XK) (h : sp_l_showsO K vs H Q E) : rd_l_showsO K { nx := fun _ H' => Q .non H', rt := Q } (start ["_law_own", "_law_led"] vs) H := by
  obtain ⟨o, p, lp, P, n, f, s, ps, w, rfl, h, ho, q⟩ := h
  obtain ⟨ws, t, h1, h2, h3, h4, h5, h6⟩ := ho.top
  unfold rd_l_showsO
  walk_at "rd"
  refine e_fD ?_ A h A.n_guess rfl
  walk_at "rd"
  refine e_fD ?_ A h A.n_before rfl
  walk_at "rd"
  refine e_fD ?_ A h A.n_told rfl
  walk_at "rd"
  refine ⟨by show 3 ≤ sizeLine; decide, fun t' ht' => ?_⟩
  have e1 := Ext.new (o := .tup s.V) ht'
  walk_at "rd"
  refine ha_ixL (e1 _ _ h1) h3 ?_
  refine e_eqD (d := lsD s) (e := lsD s) ?_ (.tup (SqT.of (xs := s.V) upd_same) (.cons (.int _) (.cons (dpO _) (.cons (dpO _) .nil)))) (.tup (SqT.of (e1 _ _ h4)) (.cons (.int _) (.cons (dpO _) (.cons (dpO _) .nil)))) (shO s) (shO s)
  rw [SeqAt.eqv_refl _ (SeqAt.canLay_of_shaped (shO s))]
  exact q _ e1
/-! #### a round -/
def sp_l_tried (K : PySem.W.Frag) : Sp := fun vs H Q _ => ∃ (p lp P : Addr) (n f : Int) (s : Ls) (ps : List Ls) (l : Lp), vs = [.ref p] ∧ RdOk K H p lp P n f s ps l ∧ (s.t ≠ none → Q (.str "told") H) ∧
  (s.t = none → rnd l n s = none → Q (.str "nought") H) ∧
  (s.t = none → ∀ w s', rnd l n s = some (w, s') → ∀ H', Ext2 p P H H' → IsLd K H' p lp P n f s' (ps ++ [s]) → Q (.str (wRnd w)) H')
def rd_l_tried (K : PySem.W.Frag) : TS := FWN.tTryO K (fun W => tRet (FW.tMethW (He.ga K "Led") "round" (sp_Led_roundX K) W (tVar 0) tNil)) (.ref (He.ga K "NoGuess")) (tRet (tC (.str "nought"))) (fun _ _ _ _ => False)
theorem pure_l_tried (K : PySem.W.Frag) (X : PySem.W.exmOne K (.ref (He.ga K "NoGuess")) (.ref (He.ga K "NoGuess")) = some true) (vs : List V) (H : Hp) (Q : VK) (E : XK) (h : sp_l_tried K vs H Q E) : rd_l_tried K { nx := fun _ H' => Q .non H', rt := Q } (start ["_law_led"] vs) H := by
  obtain ⟨p, lp, P, n, f, s, ps, l, rfl, ok, q1, q2, q3⟩ := h
  obtain ⟨dx, ho⟩ := ok.ld.ob
  unfold rd_l_tried FWN.tTryO
  with_reducible refine s_ret ?_
  refine e_var ?_ rfl
  refine ⟨p, dx, _, rfl, ho, rfl, ?_⟩
  refine e_nil ⟨p, lp, P, n, f, s, ps, l, rfl, ok, q1, fun h1 h2 => ?_, q3⟩
  refine ⟨true, X, fun _ a ha => ?_, fun z => by cases z⟩
  walk_at "rd"
  exact q2 h1 h2
theorem Own.push {H : Hp} {o u : Addr} {w : List Ls} {s : Ls} {vs : List V} (h1 : H o = some (.lst vs)) (h2 : Pst H vs w) (hu : H u = some (.tup s.V)) : Own (upd H o (.lst (vs ++ [.ref u]))) o (w ++ [s]) := by
  have k : ∀ t xs, H t = some (.tup xs) → (upd H o (.lst (vs ++ [.ref u]))) t = some (.tup xs) := fun t xs e => by rw [upd_ne (ne_of e h1 (fun z => nomatch z))]; exact e
  exact ⟨_, upd_same, Pst.app (h2.keep k) ⟨⟨u, rfl, k _ _ hu⟩, True.intro⟩⟩
def sp_l_round (K : PySem.W.Frag) : Sp := fun vs H Q _ => ∃ (o t : Addr) (n : Int) (s : Ls) (ps : List Ls) (l : Lp), vs = [.ref o, .ref t, .int n] ∧ Own H o (ps ++ [s]) ∧ H t = some (.lst l.V) ∧ t ≠ o ∧ l.Ok ∧ 0 ≤ n ∧ n ≤ 2 ^ 150 ∧ Gd s ∧ ps.length ≤ 100000 ∧
  (s.t ≠ none → ∀ H', Ext H H' → Q (.str "told") H') ∧ (s.t = none → rnd l n s = none → ∀ H', Ext H H' → Q (.str "nought") H') ∧
  (s.t = none → ∀ w s', rnd l n s = some (w, s') → ∀ H', ExtB o H H' → Own H' o (ps ++ [s] ++ [s']) → Q (.str (wRnd w)) H')
def rd_l_round (K : PySem.W.Frag) : TS := tSeq (tAsg (tOp (rIxL K) (tVar 0) (tUn FW.rNeg (tC (.int 1)))) (gTup K 3 (gCons (gName 3) (gCons (gName 4) (gCons (gName 5) (gNil)))))) (tSeq (tIfS (tTest (tOp FW.rNotN (tVar 5) (tC .non))) (tRet (tC (.str "told"))) (tNext)) (tSeq (tAsg (tIf (tB (tCall (sp_l_looks2 K) [] E0 (tCons (tVar 1) (tCons (tVar 2) (tCons (tVar 3) (tNil)))))) (tVar 3) (tC .non)) (gName 6)) (tSeq (tIfS (tAnd (tTest (tOp FW.rIsN (tVar 6) (tC .non))) (tTest (tOp rEq (tVar 3) (tC (.int 0))))) (tRet (tC (.str "nought"))) (tNext)) (tSeq (tIfS (tTest (tOp FW.rIsN (tVar 6) (tC .non))) (tSeq (tAsg (tCall (sp_l_led_to K) [] E0 (tCons (tVar 1) (tCons (tVar 2) (tCons (tVar 3) (tNil))))) (gName 7)) (tSeq (tIfS (tNot (tB (tCall (sp_l_ends2 K) [] E0 (tCons (tVar 1) (tCons (tVar 3) (tCons (tVar 7) (tCons (tVar 4) (tNil)))))))) (tSeq (tDrop (tBM K "list" rAppend (tVar 0) (tCons (tTup (tCons (tVar 7) (tCons (tVar 3) (tCons (tC .non) (tNil))))) (tNil)))) (tRet (tC (.str "goes")))) (tNext)) (tAsg (tCall (sp_l_chosen2 K) [] E0 (tCons (tVar 1) (tCons (tVar 3) (tCons (tVar 7) (tNil))))) (gName 6)))) (tNext)) (tSeq (tDrop (tBM K "list" rAppend (tVar 0) (tCons (tTup (tCons (tVar 3) (tCons (tVar 4) (tCons (tCall (sp_l_mended2 K) [] E0 (tCons (tVar 1) (tCons (tVar 2) (tCons (tVar 6) (tNil))))) (tNil))))) (tNil)))) (tRet (tC (.str "told"))))))))
theorem pure_l_round (K : PySem.W.Frag) (vs : List V) (H : Hp) (Q : VK) (E : XK) (h : sp_l_round K vs H Q E) : rd_l_round K { nx := fun _ H' => Q .non H', rt := Q } (start ["_law_own", "_law_parts", "_law_n", "_law_guess", "_law_before", "_law_told", "_law_number", "_law_y"] vs) H := by
  obtain ⟨o, t, n, s, ps, l, rfl, ho, ht, hne, ok, n0, n1, g, hz, q1, q2, q3⟩ := h
  obtain ⟨ws, u, h1, h2, h3, h4, h5, h6⟩ := ho.top
  unfold rd_l_round
  walk_at "rd"
  refine ha_ixL h1 h3 ?_
  refine ha_gT (xs := [.int s.g, nkV s.b, nkV s.t]) h4 rfl ?_
  walk_at "rd"
  have e2000 : (2 : Int) ^ 150 < 2 ^ 1000 := by decide
  have nb := n_big n0 (Int.lt_of_le_of_lt n1 e2000)
  have gs := sz_top g.1 g.2
  have push : ∀ (R : Hp → Prop) H1 s' u', Ext H H1 → H1 u' = none → (∀ H', ExtB o H H' → Own H' o (ps ++ [s] ++ [s']) → R H') → R (upd (upd H1 u' (.tup s'.V)) o (.lst (ws ++ [.ref u']))) := by
    intro R H1 s' u' e1 hu hR
    have e3 := e1.tr (Ext.new (o := .tup s'.V) hu)
    refine hR _ (fun b w nb q => by rw [upd_ne nb]; exact e3 _ _ q) (Own.push (e3 _ _ h1) (h2.keep fun b xs q => e3 _ _ q) upd_same)
  have dn : ∀ x : Int, decide (V.int x = V.non) = false := fun x => decide_eq_false (fun w => nomatch w)
  have fin : ∀ H1 x v5 v7, Ext H H1 → 0 ≤ x → Sz 2000 x → (∀ H', ExtB o H H' → Own H' o (ps ++ [s] ++ [⟨s.g, s.b, some (l.mended n x)⟩]) → Q (.str "told") H') →
      (tSeq (tDrop (tBM K "list" rAppend (tVar 0) (tCons (tTup (tCons (tVar 3) (tCons (tVar 4) (tCons (tCall (sp_l_mended2 K) [] E0 (tCons (tVar 1) (tCons (tVar 2) (tCons (tVar 6) (tNil))))) (tNil))))) (tNil)))) (tRet (tC (.str "told")))) { nx := fun _ H' => Q .non H', rt := Q } [some (.ref o), some (.ref t), some (.int n), some (.int s.g), some (nkV s.b), v5, some (.int x), v7] H1 := by
    intro H1 x v5 v7 e1 x0 xs hq
    walk_at "rd"
    refine ⟨.inl ⟨rfl, _, SqL.of (e1 _ _ h1)⟩, ?_⟩
    walk_at "rd"
    refine ⟨t, l, n, x, rfl, SqL.of (e1 _ _ ht), ok, x0, xs, fun H2 e2 => ?_⟩
    walk_at "rd"
    refine ⟨by show 3 ≤ sizeLine; decide, fun u' hu => ?_⟩
    have e3 := (e1.tr e2).tr (Ext.new (o := .tup [.int s.g, nkV s.b, .int (l.mended n x)]) hu)
    walk_at "rd"
    refine ⟨o, ws, _, rfl, rfl, e3 _ _ h1, by show ws.length < 2 ^ 24; omega, ?_⟩
    walk_at "rd"
    exact push (fun H' => Q (.str "told") H') H2 ⟨s.g, s.b, some (l.mended n x)⟩ u' (e1.tr e2) hu hq
  cases hst : s.t with
  | some z =>
    rw [decide_eq_false (show ¬ nkV (some z) = V.non from fun w => nomatch w)]
    walk_at "rd"
    exact q1 (by rw [hst]; exact fun w => nomatch w) H (fun _ _ z => z)
  | none =>
  rw [decide_eq_true (show nkV none = V.non from rfl)]
  walk_at "rd"
  refine ⟨t, l, n, s.g, rfl, SqL.of ht, ok, g.1, gs.mono (by decide), fun H1 e1 => ?_⟩
  walk_at "rd"
  cases hlk : l.looks n s.g with
  | true =>
    have hr : rnd l n s = some (true, ⟨s.g, s.b, some (l.mended n s.g)⟩) := by unfold rnd; rw [hlk, if_pos rfl]
    walk_at "rd"
    rw [dn s.g]
    with_reducible refine e_F ?_
    with_reducible refine e_F ?_
    with_reducible refine s_next ?_
    with_reducible refine s_seq ?_
    with_reducible refine s_if ?_
    walk_at "re"
    rw [dn s.g]
    with_reducible refine e_F ?_
    with_reducible refine s_next ?_
    exact fin H1 s.g _ _ e1 g.1 (gs.mono (by decide)) fun H' e' o' => q3 hst true _ hr H' e' o'
  | false =>
  walk_at "rd"
  rw [decide_eq_true (show V.non = V.non from rfl)]
  with_reducible refine e_T ?_
  walk_at "re"
  rw [decI]
  by_cases hg : s.g = 0
  · have hr : rnd l n s = none := by unfold rnd; rw [hlk, if_neg (by decide), if_pos hg]
    rw [decide_eq_true hg]
    walk_at "rd"
    exact q2 hst hr H1 e1
  obtain ⟨x1, y0, y1⟩ := g.led ok n0 n1 hg
  have ys := sz_top y0 y1
  rw [decide_eq_false hg]
  walk_at "rd"
  rw [decide_eq_true (show V.non = V.non from rfl)]
  walk_at "rd"
  refine ⟨t, l, n, s.g, rfl, SqL.of (e1 _ _ ht), ok, x1, n0, nb, Nat.lt_trans gs (by decide), fun H2 e2 => ?_⟩
  have e12 := e1.tr e2
  walk_at "rd"
  refine ⟨t, l, s.g, l.led n s.g, s.b, rfl, SqL.of (e12 _ _ ht), ok, fun H3 e3 => ?_⟩
  have e13 := e12.tr e3
  walk_at "rd"
  cases hen : l.ends s.g (l.led n s.g) s.b with
  | false =>
    have hr : rnd l n s = some (false, ⟨l.led n s.g, some s.g, none⟩) := by unfold rnd; rw [hlk, if_neg (by decide), if_neg hg, hen, if_neg (by decide)]
    walk_at "rd"
    refine ⟨.inl ⟨rfl, _, SqL.of (e13 _ _ h1)⟩, ?_⟩
    walk_at "rd"
    refine ⟨by show 3 ≤ sizeLine; decide, fun u' hu => ?_⟩
    have e4 := e13.tr (Ext.new (o := .tup (Ls.V ⟨l.led n s.g, some s.g, none⟩)) hu)
    walk_at "rd"
    refine ⟨o, ws, _, rfl, rfl, e4 _ _ h1, by show ws.length < 2 ^ 24; omega, ?_⟩
    walk_at "rd"
    exact push (fun H' => Q (.str "goes") H') H3 ⟨l.led n s.g, some s.g, none⟩ u' e13 hu fun H' e' o' => q3 hst false _ hr H' e' o'
  | true =>
    have hr : rnd l n s = some (true, ⟨s.g, s.b, some (l.mended n (l.chosen s.g (l.led n s.g)))⟩) := by unfold rnd; rw [hlk, if_neg (by decide), if_neg hg, hen, if_pos rfl]
    have hch : 0 ≤ l.chosen s.g (l.led n s.g) ∧ Sz 2000 (l.chosen s.g (l.led n s.g)) := by
      rcases chosen_or l s.g (l.led n s.g) with z | z <;> rw [z]
      · exact ⟨g.1, gs.mono (by decide)⟩
      · exact ⟨y0, ys.mono (by decide)⟩
    walk_at "rd"
    refine ⟨t, l, s.g, l.led n s.g, rfl, SqL.of (e13 _ _ ht), ok, fun H4 e4 => ?_⟩
    exact fin H4 _ _ _ (e13.tr e4) hch.1 hch.2 fun H' e' o' => q3 hst true _ hr H' e' o'
/-! #### put and undone in both -/
structure Hot52 (K : PySem.W.Frag) : Prop where
  hot : HotK K "BadStart"
  val : ErrG K (He.ga K "BadStart") "value"
  ld : LdK K
  ins : InsK K (He.ga K "Led")
def sp_l_put (K : PySem.W.Frag) : Sp := fun vs H Q _ => ∃ (o p lp P : Addr) (n f g : Int) (s : Ls) (ps : List Ls), vs = [.ref o, .ref p, .int g] ∧ Duo K H o p lp P n f s ps ∧ 0 ≤ g ∧ g ≤ 1000 ∧ ps.length ≤ 99999 ∧ LamX.Tabs (tabs K) H ∧
  ∀ H' s' ps', Fr K [o, p, P] H H' → LamX.Tabs (tabs K) H' → Duo K H' o p lp P n f s' ps' → ps'.length ≤ ps.length + 1 → Q (.bl true) H'
def rd_l_put (K : PySem.W.Frag) : TS := tSeq (tIfS (tTest (tOp FW.rGt (tVar 2) (tC (.int 0)))) (tSeq (tDrop (tBM K "list" rAppend (tVar 0) (tCons (tTup (tCons (tVar 2) (tCons (tC .non) (tCons (tC .non) (tNil))))) (tNil)))) (tRet (tOp FW.rIsN (tMeth (He.ga K "Led") "put" (sp_Led_putX K) [] E0 (tVar 1) (tCons (tVar 2) (tNil))) (tC .non)))) (tNext)) (tRet (tOp (rEqD K) (LamX.tLam (FWL.tabs K) (TT_l_refusedH K) (fun E => tMeth (He.ga K "Led") "put" (sp_Led_putX K) [] E (tVar 1) (tCons (tVar 2) (tNil)))) (tTup (tCons (tC (.str "start")) (tCons (tVar 2) (tNil))))))
theorem pure_l_put (K : PySem.W.Frag) (X : Hot52 K) (vs : List V) (H : Hp) (Q : VK) (E : XK) (h : sp_l_put K vs H Q E) : rd_l_put K { nx := fun _ H' => Q .non H', rt := Q } (start ["_law_own", "_law_led", "_law_guess"] vs) H := by
  obtain ⟨o, p, lp, P, n, f, g, s, ps, rfl, d, g0, g1, hz, T, q⟩ := h
  have A := X.ld
  obtain ⟨ws, u, h1, h2, h3, h4, h5, h6⟩ := d.own.top
  obtain ⟨dx, ho⟩ := id d.ld.ob
  unfold rd_l_put
  walk_at "rd"
  by_cases hg : 0 < g
  · rw [decide_eq_true hg]
    walk_at "rd"
    refine ⟨.inl ⟨rfl, _, SqL.of h1⟩, ?_⟩
    walk_at "rd"
    refine ⟨by show 3 ≤ sizeLine; decide, fun u' hu => ?_⟩
    have e4 := Ext.new (o := .tup (Ls.V ⟨g, none, none⟩)) hu
    walk_at "rd"
    refine ⟨o, ws, _, rfl, rfl, e4 _ _ h1, by show ws.length < 2 ^ 24; omega, ?_⟩
    have f1 : Fr K [o] H (upd (upd H u' (.tup (Ls.V ⟨g, none, none⟩))) o (.lst (ws ++ [.ref u']))) := (Fr.of e4).tr (Fr.ofB (e4 _ _ h1) (fun b w nb z => by rw [upd_ne nb]; exact z))
    have own1 := Own.push (e4 _ _ h1) (h2.keep fun b xs z => e4 _ _ z) (s := ⟨g, none, none⟩) (u := u') upd_same
    change Fr K [o] H (upd (upd H u' (.tup [V.int g, V.non, V.non])) o (.lst (ws ++ [.ref u']))) at f1
    change Own (upd (upd H u' (.tup [V.int g, V.non, V.non])) o (.lst (ws ++ [.ref u']))) o _ at own1
    generalize upd (upd H u' (.tup [V.int g, V.non, V.non])) o (.lst (ws ++ [.ref u'])) = H1 at *
    have no : p ∉ [o] ∧ P ∉ [o] := ⟨fun z => ne_of ho h1 (fun z => nomatch z) (List.mem_singleton.mp z), fun z => d.ne (List.mem_singleton.mp z).symm⟩
    have ld1 := d.ld.fr no.1 no.2 f1
    obtain ⟨dy, ho1⟩ := id ld1.ob
    walk_at "rd"
    refine ⟨p, dy, _, rfl, ho1, rfl, ?_⟩
    walk_at "rd"
    refine ⟨p, lp, P, n, f, g, s, ps, rfl, ld1, by omega, (fun z => by omega), fun _ H2 e2 ld2 => ?_⟩
    have f2 := Fr.of2 ld1 e2
    have f12 : Fr K [o, p, P] H H2 := (f1.mono (by simp)).tr (f2.mono (by simp))
    walk_at "rd"
    refine q H2 ⟨g, none, none⟩ (ps ++ [s]) f12 (f12.s T) ⟨ld2, own1.fr (by simp only [List.mem_cons, List.not_mem_nil, or_false, not_or]; exact ⟨fun z => no.1 (by rw [z]; exact List.mem_singleton.mpr rfl), d.ne⟩) f2, d.ne, fun x hx => ?_⟩ (by rw [List.length_append]; exact Nat.le_refl _)
    rcases List.mem_append.mp hx with z | z
    · exact d.gd x z
    · rw [List.mem_singleton.mp z]
      exact ⟨g0, by show g ≤ 2 ^ 200; have : (1000 : Int) ≤ 2 ^ 200 := by decide
                    omega⟩
  · rw [decide_eq_false hg]
    walk_at "rd"
    refine ⟨T, fun H2 eN t2 => ⟨fun cls d H' => RefX K _ cls d H', ?_, fun _ _ _ h => h⟩⟩
    have f1 : Fr K [] H H2 := ⟨fun c u _ h w => eN _ _ h w, fun c xs h => nx_tup eN h, fun _ => t2⟩
    have ld1 := d.ld.fr (by simp) (by simp) f1
    have wS : SeqAt.shaped (.tuple [.str "start", .int g]) = true := by kernel_rfl
    walk_at "re"
    refine ⟨p, dx, _, rfl, nx_ins eN ho, rfl, ?_⟩
    walk_at "re"
    refine ⟨p, lp, P, n, f, g, s, ps, rfl, ld1, by omega, fun _ dd hd => ?_, fun z => absurd z (by omega)⟩
    refine ⟨"BadStart", rfl, X.hot, .inl ⟨by decide, dd, .int g, X.val, rfl, upd_same, fun t' H3 e3 et => ?_⟩⟩
    change H3 t' = some (.tup [.str "start", .int g]) at et
    have f3 : Fr K [] H H3 := f1.tr (Fr.of ((Ext.new hd).tr e3))
    walk_at "rd"
    refine ⟨by show 2 ≤ sizeLine; decide, fun u' hu => ?_⟩
    have e4 := Ext.new (o := .tup [.str "start", .int g]) hu
    walk_at "rd"
    refine e_eqD (d := .tuple [.str "start", .int g]) (e := .tuple [.str "start", .int g]) ?_ (.tup (SqT.of (e4 _ _ et)) (.cons (.str _) (.cons (.int _) .nil))) (.tup (SqT.of upd_same) (.cons (.str _) (.cons (.int _) .nil))) wS wS
    rw [SeqAt.eqv_refl _ (SeqAt.canLay_of_shaped wS)]
    have f4 : Fr K [] H (upd H3 u' (.tup [.str "start", .int g])) := f3.tr (Fr.of e4)
    exact q _ s ps (f4.mono (by simp)) (f4.s T) (d.fr (by simp) (by simp) (by simp) f4) (Nat.le_succ _)
def sp_l_undone (K : PySem.W.Frag) : Sp := fun vs H Q _ => ∃ (o p lp P : Addr) (n f : Int) (s : Ls) (ps : List Ls), vs = [.ref o, .ref p] ∧ Duo K H o p lp P n f s ps ∧ ps.length ≤ 100000 ∧ (ps = [] → Q (.bl true) H) ∧
  ∀ H' qs s', ps = qs ++ [s'] → Fr K [o, p, P] H H' → Duo K H' o p lp P n f s' qs → Q (.bl true) H'
def rd_l_undone (K : PySem.W.Frag) : TS := tSeq (tIfS (tTest (tOp rEq (tCB (Evl.rLenS K) (tCons (tVar 0) (tNil))) (tC (.int 1)))) (tRet (tOp FW.rIsB (tMeth (He.ga K "Led") "undo" (sp_Led_undo K) [] E0 (tVar 1) tNil) (tC (.bl false)))) (tNext)) (tSeq (tDrop (tBM0 K "list" rPop (tVar 0))) (tRet (tOp FW.rIsB (tMeth (He.ga K "Led") "undo" (sp_Led_undo K) [] E0 (tVar 1) tNil) (tC (.bl true)))))
theorem pure_l_undone (K : PySem.W.Frag) (A : LdK K) (vs : List V) (H : Hp) (Q : VK) (E : XK) (h : sp_l_undone K vs H Q E) : rd_l_undone K { nx := fun _ H' => Q .non H', rt := Q } (start ["_law_own", "_law_led"] vs) H := by
  obtain ⟨o, p, lp, P, n, f, s, ps, rfl, d, hz, q1, q2⟩ := h
  obtain ⟨ws, u, h1, h2, h3, h4, h5, h6⟩ := d.own.top
  obtain ⟨dx, ho⟩ := id d.ld.ob
  unfold rd_l_undone
  walk_at "rd"
  refine ha_len h1 ?_
  walk_at "rd"
  rw [decI, h5]
  rcases nil_or ps with rfl | ⟨qs, s', rfl⟩
  · rw [decide_eq_true (by rfl)]
    walk_at "rd"
    refine ⟨p, dx, _, rfl, ho, rfl, ?_⟩
    walk_at "rd"
    refine ⟨p, lp, P, n, f, s, [], rfl, d.ld, fun _ => ?_, fun qs s' z => by cases qs <;> cases z⟩
    dsimp only
    walk_at "rd"
    exact ⟨_, _, rfl, rfl, q1 rfl⟩
  · rw [decide_eq_false (by rw [List.length_append]; show ¬ (((qs.length + 1 + 1 : Nat) : Int) = 1); omega)]
    walk_at "rd"
    refine ⟨.inl ⟨rfl, _, SqL.of h1⟩, o, ws, .ref u, rfl, rfl, h1, h6, ?_⟩
    have f1 : Fr K [o] H (upd H o (.lst ws.dropLast)) := Fr.ofB h1 (fun b w nb z => by rw [upd_ne nb]; exact z)
    have own1 : Own (upd H o (.lst ws.dropLast)) o (qs ++ [s']) := by
      have := h2.init
      rw [List.dropLast_concat] at this
      exact ⟨_, upd_same, this.fr f1⟩
    generalize upd H o (.lst ws.dropLast) = H1 at *
    have no : p ∉ [o] ∧ P ∉ [o] := ⟨fun z => ne_of ho h1 (fun z => nomatch z) (List.mem_singleton.mp z), fun z => d.ne (List.mem_singleton.mp z).symm⟩
    have ld1 := d.ld.fr no.1 no.2 f1
    obtain ⟨dy, ho1⟩ := id ld1.ob
    walk_at "rd"
    refine ⟨p, dy, _, rfl, ho1, rfl, ?_⟩
    walk_at "rd"
    refine ⟨p, lp, P, n, f, s, _, rfl, ld1, (fun z => by cases qs <;> cases z), fun qs2 s2 z H2 e2 ld2 => ?_⟩
    obtain ⟨rfl, z2⟩ := List.append_inj' z rfl
    cases z2
    have f2 := Fr.of2 ld1 e2
    dsimp only
    walk_at "rd"
    refine ⟨_, _, rfl, rfl, q2 H2 qs s' rfl ((f1.mono (by simp)).tr (f2.mono (by simp))) ⟨ld2, own1.fr (by simp only [List.mem_cons, List.not_mem_nil, or_false, not_or]; exact ⟨fun z => no.1 (by rw [z]; exact List.mem_singleton.mpr rfl), d.ne⟩) f2, d.ne, fun x hx => d.gd x (List.mem_append_left _ hx)⟩⟩
def sp_l_busy (K : PySem.W.Frag) : Sp := fun vs H Q _ => ∃ (o p lp P t L : Addr) (n f : Int) (l : Lp) (s : Ls) (ps : List Ls) (ds : List Int), vs = [.ref o, .ref p, .ref t, .int n, .ref L] ∧ Duo K H o p lp P n f s ps ∧ Wl K H lp t l n ∧ H L = some (.lst (ds.map V.int)) ∧ (∀ x ∈ ds, 0 ≤ x ∧ x < 1000) ∧
  t ≠ o ∧ t ≠ P ∧ L ≠ o ∧ L ≠ P ∧ ps.length + ds.length ≤ 99999 ∧ LamX.Tabs (tabs K) H ∧
  ∀ H' s' ps', Fr K [o, p, P] H H' → LamX.Tabs (tabs K) H' → Duo K H' o p lp P n f s' ps' → ps'.length ≤ ps.length + ds.length → Q (.bl true) H'
def rd_l_busy_L1 (K : PySem.W.Frag) : TS := tSeq (tAsg (tOp FW.rMod (tVar 5) (tC (.int 6))) (gName 6)) (tSeq (tIfS (tAnd (tTest (tOp FW.rLt (tVar 6) (tC (.int 3)))) (tTest (tOp rNe (tCall (sp_l_tried K) [] E0 (tCons (tVar 1) (tNil))) (tCall (sp_l_round K) [] E0 (tCons (tVar 0) (tCons (tVar 2) (tCons (tVar 3) (tNil)))))))) (tRet (tC (.bl false))) (tNext)) (tSeq (tIfS (tAnd (tTest (tOp rEq (tVar 6) (tC (.int 3)))) (tNot (tB (tCall (sp_l_put K) [] E0 (tCons (tVar 0) (tCons (tVar 1) (tCons (tOp FW.rMod (tOp FW.rDiv (tVar 5) (tC (.int 6))) (tC (.int 40))) (tNil)))))))) (tRet (tC (.bl false))) (tNext)) (tSeq (tIfS (tAnd (tTest (tOp FW.rGt (tVar 6) (tC (.int 3)))) (tNot (tB (tCall (sp_l_undone K) [] E0 (tCons (tVar 0) (tCons (tVar 1) (tNil))))))) (tRet (tC (.bl false))) (tNext)) (tIfS (tNot (tB (tCall (sp_l_showsO K) [] E0 (tCons (tVar 0) (tCons (tVar 1) (tNil)))))) (tRet (tC (.bl false))) (tNext)))))
def rd_l_busy (K : PySem.W.Frag) : TS := tSeq (tFor (iList K (tVar 4)) (gName 5) (rd_l_busy_L1 K)) (tRet (tC (.bl true)))
section
variable {K : PySem.W.Frag} {H : Hp} {D : Ends} {o p lp P : Addr} {n f m : Int} {s : Ls} {ps : List Ls} {v2 v3 v4 v5 v6 : Option V}
theorem busy_4 (d : Duo K H o p lp P n f s ps) (k : ∀ H', Ext H H' → D.nx [some (.ref o), some (.ref p), v2, v3, v4, v5, v6] H') : (tIfS (tNot (tB (tCall (sp_l_showsO K) [] E0 (tCons (tVar 0) (tCons (tVar 1) (tNil)))))) (tRet (tC (.bl false))) (tNext)) D [some (.ref o), some (.ref p), v2, v3, v4, v5, v6] H := by
  walk_at "rd"
  refine ⟨o, p, lp, P, n, f, s, ps, ps, rfl, d.ld, d.own, fun H' e => ?_⟩
  walk_at "rd"
  exact k H' e
theorem busy_3 (h : m ≤ 3) (d : Duo K H o p lp P n f s ps) (k : ∀ H', Ext H H' → D.nx [some (.ref o), some (.ref p), v2, v3, v4, v5, some (.int m)] H') : (tSeq (tIfS (tAnd (tTest (tOp FW.rGt (tVar 6) (tC (.int 3)))) (tNot (tB (tCall (sp_l_undone K) [] E0 (tCons (tVar 0) (tCons (tVar 1) (tNil))))))) (tRet (tC (.bl false))) (tNext)) (tIfS (tNot (tB (tCall (sp_l_showsO K) [] E0 (tCons (tVar 0) (tCons (tVar 1) (tNil)))))) (tRet (tC (.bl false))) (tNext))) D [some (.ref o), some (.ref p), v2, v3, v4, v5, some (.int m)] H := by
  with_reducible refine s_seq ?_
  with_reducible refine s_if ?_
  walk_at "re"
  rw [decide_eq_false (show ¬ (m > 3) by omega)]
  with_reducible refine e_F ?_
  with_reducible refine e_F ?_
  with_reducible refine s_next ?_
  exact busy_4 d k
theorem busy_2 (h : m < 3) (d : Duo K H o p lp P n f s ps) (k : ∀ H', Ext H H' → D.nx [some (.ref o), some (.ref p), v2, v3, v4, v5, some (.int m)] H') : (tSeq (tIfS (tAnd (tTest (tOp rEq (tVar 6) (tC (.int 3)))) (tNot (tB (tCall (sp_l_put K) [] E0 (tCons (tVar 0) (tCons (tVar 1) (tCons (tOp FW.rMod (tOp FW.rDiv (tVar 5) (tC (.int 6))) (tC (.int 40))) (tNil)))))))) (tRet (tC (.bl false))) (tNext)) (tSeq (tIfS (tAnd (tTest (tOp FW.rGt (tVar 6) (tC (.int 3)))) (tNot (tB (tCall (sp_l_undone K) [] E0 (tCons (tVar 0) (tCons (tVar 1) (tNil))))))) (tRet (tC (.bl false))) (tNext)) (tIfS (tNot (tB (tCall (sp_l_showsO K) [] E0 (tCons (tVar 0) (tCons (tVar 1) (tNil)))))) (tRet (tC (.bl false))) (tNext)))) D [some (.ref o), some (.ref p), v2, v3, v4, v5, some (.int m)] H := by
  with_reducible refine s_seq ?_
  with_reducible refine s_if ?_
  walk_at "re"
  rw [decI, decide_eq_false (show ¬ (m = 3) by omega)]
  with_reducible refine e_F ?_
  with_reducible refine e_F ?_
  with_reducible refine s_next ?_
  exact busy_3 (by omega) d k
end
theorem pure_l_busy (K : PySem.W.Frag) (vs : List V) (H : Hp) (Q : VK) (E : XK) (h : sp_l_busy K vs H Q E) : rd_l_busy K { nx := fun _ H' => Q .non H', rt := Q } (start ["_law_own", "_law_led", "_law_parts", "_law_n", "_law_draws", "_law_draw", "_law_way"] vs) H := by
  obtain ⟨o, p, lp, P, t, L, n, f, l, s, ps, ds, rfl, d, w, hL, hds, n1, n2, n3, n4, hz, T, q⟩ := h
  unfold rd_l_busy
  walk_at "rd"
  refine i_list' _ ?_ (SqL.of hL)
  have key : ∀ {H1 : Hp}, Fr K [o, p, P] H H1 → H1 L = some (.lst (ds.map V.int)) ∧ Wl K H1 lp t l n := fun {H1} e => by
    have nl := IsLp.ns d.ld w.lp
    obtain ⟨dx, ho⟩ := id d.ld.ob
    obtain ⟨vs, h1, h2⟩ := id d.own
    obtain ⟨dl, hl⟩ := id w.lp
    have a1 : lp ≠ o := ne_of hl h1 (fun z => nomatch z)
    have a2 : t ≠ p := ne_of w.pt ho (fun z => nomatch z)
    have a3 : L ≠ p := ne_of hL ho (fun z => nomatch z)
    exact ⟨e.lst (by simp [a3, n3, n4]) hL, w.fr (by simp [a1, nl.1, nl.2]) (by simp [n1, a2, n2]) e⟩
  refine for_list (xs := ds.map V.int) (fun i σ H' => ∃ s' ps' w5 w6, Fr K [o, p, P] H H' ∧ Duo K H' o p lp P n f s' ps' ∧ ps'.length ≤ ps.length + i ∧ σ = [some (.ref o), some (.ref p), some (.ref t), some (.int n), some (.ref L), w5, w6]) ⟨s, ps, _, _, Fr.refl, d, Nat.le_refl _, rfl⟩ (fun i σ H' _ hh => by obtain ⟨_, _, _, _, e, _⟩ := hh; exact SqL.of (key e).1) ?_ ?_
  · rintro i v σ H1 hv ⟨s1, ps1, w5, w6, e1, d1, z1, rfl⟩
    rw [List.getElem?_map] at hv
    obtain ⟨x, hx, rfl⟩ := Option.map_eq_some_iff.mp hv
    obtain ⟨x0, x9⟩ := hds x (List.mem_of_getElem? hx)
    have hi : i < ds.length := (List.getElem?_eq_some_iff.mp hx).1
    obtain ⟨hL1, w1⟩ := key e1
    refine g_name ?_
    unfold rd_l_busy_L1
    walk_at "rx"
    clear mdh
    revert md
    intro m m0 m1
    have no : o ∉ [p, P] := by
      obtain ⟨dx, ho⟩ := id d.ld.ob
      obtain ⟨vs, h1, h2⟩ := id d.own
      simp only [List.mem_cons, List.not_mem_nil, or_false, not_or]
      exact ⟨(ne_of ho h1 (fun z => nomatch z)).symm, d.ne⟩
    have np : p ∉ [o] ∧ P ∉ [o] := ⟨fun z => no (by rw [← List.mem_singleton.mp z]; exact List.mem_cons_self), fun z => d.ne (List.mem_singleton.mp z).symm⟩
    have nx : ∀ H2 s2 ps2 v6, Fr K [o, p, P] H1 H2 → Duo K H2 o p lp P n f s2 ps2 → ps2.length ≤ ps1.length + 1 → ∀ H', Ext H2 H' → ∃ s' ps' w5 w6, Fr K [o, p, P] H H' ∧ Duo K H' o p lp P n f s' ps' ∧ ps'.length ≤ ps.length + (i + 1) ∧
        [some (V.ref o), some (V.ref p), some (V.ref t), some (V.int n), some (V.ref L), some (V.int x), v6] = [some (V.ref o), some (V.ref p), some (V.ref t), some (V.int n), some (V.ref L), w5, w6] :=
      fun H2 s2 ps2 v6 f2 d2 z2 H' e => ⟨s2, ps2, _, _, (e1.tr f2).tr (Fr.of e), d2.ext e, by omega, rfl⟩
    rcases Int.lt_or_le m 3 with c | c
    · rw [decide_eq_true c]
      walk_at "rd"
      refine ⟨p, lp, P, n, f, s1, ps1, l, rfl, d1.rd w1 (by omega), fun h1 => ?_, fun h1 h2 => ?_, fun h1 ww s' h2 H2 e2 ld2 => ?_⟩
      · walk_at "rd"
        refine ⟨o, t, n, s1, ps1, l, rfl, d1.own, w1.pt, n1, w1.ok, w1.n0, w1.n1, d1.gd s1 (List.mem_append_right _ List.mem_cons_self), by omega, fun _ H3 e3 => ?_, fun z => absurd z h1, fun z => absurd z h1⟩
        walk_at "re"
        rw [decide_eq_true rfl]
        with_reducible refine e_nT ?_
        with_reducible refine s_next ?_
        exact busy_2 c (d1.ext e3) (nx H3 s1 ps1 _ (Fr.of e3) (d1.ext e3) (Nat.le_succ _))
      · walk_at "rd"
        refine ⟨o, t, n, s1, ps1, l, rfl, d1.own, w1.pt, n1, w1.ok, w1.n0, w1.n1, d1.gd s1 (List.mem_append_right _ List.mem_cons_self), by omega, fun z => absurd h1 z, fun _ _ H3 e3 => ?_, fun _ ww s' z => (by rw [h2] at z; cases z)⟩
        walk_at "re"
        rw [decide_eq_true rfl]
        with_reducible refine e_nT ?_
        with_reducible refine s_next ?_
        exact busy_2 c (d1.ext e3) (nx H3 s1 ps1 _ (Fr.of e3) (d1.ext e3) (Nat.le_succ _))
      · have f2 := Fr.of2 d1.ld e2
        have w2 := (key (e1.tr (f2.mono (S' := [o, p, P]) (by simp)))).2
        walk_at "rd"
        refine ⟨o, t, n, s1, ps1, l, rfl, d1.own.fr no f2, w2.pt, n1, w1.ok, w1.n0, w1.n1, d1.gd s1 (List.mem_append_right _ List.mem_cons_self), by omega, fun z => absurd h1 z, fun _ z => (by rw [h2] at z; cases z), fun _ w' s'' z H3 e3 own3 => ?_⟩
        rw [h2] at z
        cases z
        obtain ⟨vs2, q1, _⟩ := d1.own.fr no f2
        have f3 := Fr.ofB (K := K) q1 e3
        have d3 : Duo K H3 o p lp P n f s' (ps1 ++ [s1]) := ⟨ld2.fr np.1 np.2 f3, own3, d.ne, fun y hy => by
          rcases List.mem_append.mp hy with hy | hy
          · exact d1.gd y hy
          · rw [List.mem_singleton.mp hy]
            exact rnd_gd w1.ok w1.n0 w1.n1 (d1.gd s1 (List.mem_append_right _ List.mem_cons_self)) h2⟩
        walk_at "re"
        rw [decide_eq_true rfl]
        with_reducible refine e_nT ?_
        with_reducible refine s_next ?_
        exact busy_2 c d3 (nx H3 _ _ _ ((f2.mono (by simp)).tr (f3.mono (by simp))) d3 (by rw [List.length_append]; exact Nat.le_refl _))
    · rw [decide_eq_false (show ¬ m < 3 by omega)]
      with_reducible refine e_F ?_
      with_reducible refine e_F ?_
      with_reducible refine s_next ?_
      with_reducible refine s_seq ?_
      with_reducible refine s_if ?_
      walk_at "re"
      rw [decI]
      by_cases c3 : m = 3
      · subst c3
        rw [decide_eq_true rfl]
        walk_at "rx"
        refine ⟨o, p, lp, P, n, f, md, s1, ps1, rfl, d1, md0, by omega, by omega, e1.s T, fun H2 s2 ps2 f2 T2 d2 z2 => ?_⟩
        walk_at "re"
        with_reducible refine s_next ?_
        exact busy_3 (Int.le_refl _) d2 (nx H2 s2 ps2 _ f2 d2 z2)
      · rw [decide_eq_false c3]
        with_reducible refine e_F ?_
        with_reducible refine e_F ?_
        with_reducible refine s_next ?_
        with_reducible refine s_seq ?_
        with_reducible refine s_if ?_
        walk_at "re"
        rw [decide_eq_true (show m > 3 by omega)]
        walk_at "re"
        refine ⟨o, p, lp, P, n, f, s1, ps1, rfl, d1, by omega, fun z => ?_, fun H2 qs s' z f2 d2 => ?_⟩
        · walk_at "re"
          with_reducible refine s_next ?_
          exact busy_4 d1 (nx H1 s1 ps1 _ Fr.refl d1 (Nat.le_succ _))
        · walk_at "re"
          with_reducible refine s_next ?_
          exact busy_4 d2 (nx H2 s' qs _ f2 d2 (by rw [z, List.length_append]; omega))
  · rintro σ H1 ⟨s1, ps1, w5, w6, e1, d1, z1, rfl⟩
    rw [List.length_map] at z1
    walk_at "rd"
    exact q H1 s1 ps1 e1 (e1.s T) d1 z1
end FWL
namespace FWL
open PySem PySem.Spec PyProof.Rows L2 FW
/-! ### k52: trials -/
section
variable {K : PySem.W.Frag} {S S' : List Addr} {H H1 H2 : Hp}
/-- what may change, or was not there (or is a table) -/
def Ok (H : Hp) (S : List Addr) (x : Addr) : Prop := x ∈ S ∨ ∀ u, H x = some u → ∃ ps, u = .tbl ps
theorem Fr.ok (a : Fr K S H H1) {x : Addr} (h : H1 x = none) : Ok H S x := by
  by_cases z : x ∈ S
  · exact .inl z
  · refine .inr fun u hu => ?_
    by_cases w : ∃ ps, u = .tbl ps
    · exact w
    · have := a.k x u z hu fun ps e => w ⟨ps, e⟩
      rw [h] at this; cases this
theorem Fr.step (a : Fr K S H H1) (b : Fr K S' H1 H2) (n : ∀ x ∈ S', Ok H S x) : Fr K S H H2 :=
  ⟨fun c u h q w => b.k c u (fun z => (n c z).elim h fun z2 => by obtain ⟨ps, e⟩ := z2 u q; exact w ps e) (a.k c u h q w) w, fun c xs h => b.t c xs (a.t c xs h), fun h => b.s (a.s h)⟩
theorem Fr.step3 {x y z : Addr} (a : Fr K S H H1) (b : Fr K [x, y, z] H1 H2) (hx : Ok H S x) (hy : Ok H S y) (hz : Ok H S z) : Fr K S H H2 := a.step b fun w hw => by
  rcases List.mem_cons.mp hw with rfl | hw
  · exact hx
  rcases List.mem_cons.mp hw with rfl | hw
  · exact hy
  rw [List.mem_singleton.mp hw]; exact hz
theorem Fr.step4 {x y z w : Addr} (a : Fr K S H H1) (b : Fr K [w, x, y, z] H1 H2) (hw : Ok H S w) (hx : Ok H S x) (hy : Ok H S y) (hz : Ok H S z) : Fr K S H H2 := a.step b fun v hv => by
  rcases List.mem_cons.mp hv with rfl | hv
  · exact hw
  rcases List.mem_cons.mp hv with rfl | hv
  · exact hx
  rcases List.mem_cons.mp hv with rfl | hv
  · exact hy
  rw [List.mem_singleton.mp hv]; exact hz
theorem Fr.ext (a : Fr K S H H1) (e : Ext H1 H2) : Fr K S H H2 := a.tr (Fr.of e)
theorem Fr.ofN (e : LamX.ExtN H H1) (t : LamX.Tabs (tabs K) H1) : Fr K S H H1 := ⟨fun c u _ h w => e _ _ h w, fun c xs h => nx_tup e h, fun _ => t⟩
theorem not3 {a x y z : Addr} (h1 : a ≠ x) (h2 : a ≠ y) (h3 : a ≠ z) : a ∉ [x, y, z] := by simp [h1, h2, h3]
theorem not4 {a w x y z : Addr} (h0 : a ≠ w) (h1 : a ≠ x) (h2 : a ≠ y) (h3 : a ≠ z) : a ∉ [w, x, y, z] := by simp [h0, h1, h2, h3]
theorem Fr.ofP {p C dx : Addr} {fs : List (Str × V)} (h : H p = some (.ins C dx fs)) (e : ExtB p H H1) : Fr K [p] H H1 := by
  have e' : ∀ b u, b ∉ [p] → H b = some u → H1 b = some u := fun b u n q => e b u (fun z => n (by rw [z]; exact List.mem_cons_self)) q
  refine ⟨fun b u n q _ => e' b u n q, fun b xs q => e b _ (ne_of q h (fun z => nomatch z)) q, tabs_but (S := [p]) (fun b hb u q => ?_) e'⟩
  rw [List.mem_singleton.mp hb, h] at q; cases q; exact ⟨(fun _ z => nomatch z), (fun _ _ z => nomatch z)⟩
end
/-- what the law's helpers are handed -/
structure Tk (K : PySem.W.Frag) (H : Hp) (lp t L : Addr) (l : Lp) (n : Int) (ds : List Int) : Prop where
  wl : Wl K H lp t l n
  dl : H L = some (.lst (ds.map V.int))
  db : ∀ x ∈ ds, 0 ≤ x ∧ x < 1000
  d4 : ds.length ≤ 4
  tb : LamX.Tabs (tabs K) H
theorem Tk.fr {K : PySem.W.Frag} {S : List Addr} {H H1 : Hp} {lp t L : Addr} {l : Lp} {n : Int} {ds : List Int} (h : Tk K H lp t L l n ds) (n1 : lp ∉ S) (n2 : t ∉ S) (n3 : L ∉ S) (e : Fr K S H H1) : Tk K H1 lp t L l n ds :=
  ⟨h.wl.fr n1 n2 e, e.lst n3 h.dl, h.db, h.d4, e.s h.tb⟩
/-- a copy of the law's list goes with the led loop as well -/
theorem Duo.copy {K : PySem.W.Frag} {H : Hp} {o i p lp P : Addr} {n f : Int} {s : Ls} {ps : List Ls} {vs : List V} (d : Duo K H o p lp P n f s ps) (h1 : H o = some (.lst vs)) (hi : H i = none) : Duo K (upd H i (.lst vs)) i p lp P n f s ps := by
  obtain ⟨ws, h2, h3⟩ := id d.own
  rw [h1] at h2
  cases h2
  have e := Ext.new (o := .lst vs) hi
  obtain ⟨vs2, h4, _⟩ := id d.ld.pa
  exact ⟨d.ld.ext e, ⟨vs, upd_same, h3.keep fun b xs q => e _ _ q⟩, fun z => (by rw [z, h4] at hi; cases hi), d.gd⟩
theorem Duo.twin {K : PySem.W.Frag} {H H1 : Hp} {o p r lp P R : Addr} {n f : Int} {s : Ls} {ps : List Ls} (d : Duo K H o p lp P n f s ps) (e : Ext H H1) (ld : IsLd K H1 r lp R n f s ps) (hR : H R = none) : Duo K H1 o r lp R n f s ps := by
  obtain ⟨vs, h1, h2⟩ := d.own
  exact ⟨ld, ⟨vs, e _ _ h1, h2.keep fun b xs q => e _ _ q⟩, ne_of_none h1 hR, d.gd⟩
theorem Duo.at {K : PySem.W.Frag} {H : Hp} {o p lp P : Addr} {n f : Int} {s : Ls} {ps : List Ls} (d : Duo K H o p lp P n f s ps) : (∃ vs, H o = some (.lst vs)) ∧ (∃ dx, H p = some (.ins (He.ga K "Led") dx (LdF lp P n f s))) ∧ ∃ vs, H P = some (.lst vs) :=
  ⟨d.own.imp fun _ h => h.1, d.ld.ob, d.ld.pa.imp fun _ h => h.1⟩
theorem Tk.ext {K : PySem.W.Frag} {H H1 : Hp} {lp t L : Addr} {l : Lp} {n : Int} {ds : List Int} (h : Tk K H lp t L l n ds) (e : Ext H H1) : Tk K H1 lp t L l n ds := h.fr (S := []) (by simp) (by simp) (by simp) (Fr.of e)
/-- cuts of draws are draws -/
theorem cut_ds (ds : List Int) (lo hi : Option Int) : ∃ es : List Int, cutV (ds.map V.int) lo hi = es.map V.int ∧ (∀ x ∈ es, x ∈ ds) ∧ es.length ≤ ds.length := by
  unfold cutV
  rw [← List.map_drop, ← List.map_take]
  refine ⟨_, rfl, fun x hx => List.mem_of_mem_drop (List.mem_of_mem_take hx), ?_⟩
  rw [List.length_take, List.length_drop]
  omega
theorem e_cutD {K : PySem.W.Frag} {σ : L2.St} {H : Hp} {Q : VK} {j : Nat} {L : Addr} {ds : List Int} {tl th : L2.TO} (lo hi : Option Int) (h0 : σ[j]? = some (some (.ref L))) (hL : H L = some (.lst (ds.map V.int))) (a : ∀ R : Option Int → Hp → Prop, R lo H → tl σ H R) (b : ∀ R : Option Int → Hp → Prop, R hi H → th σ H R)
    (k : ∀ (L1 : Addr) (H1 : Hp) (es : List Int), H L1 = none → Ext H H1 → H1 L1 = some (.lst (es.map V.int)) → (∀ x ∈ es, x ∈ ds) → es.length ≤ ds.length → Q (.ref L1) H1) : L2.tSl (rSlL K) (tVar j) tl th σ H Q := by
  refine e_sl (e_var (a _ (b _ (e_slL (fun L1 hL1 => ?_) (SqL.of hL)))) h0)
  obtain ⟨es, ec, em, el⟩ := cut_ds ds lo hi
  rw [ec]
  exact k L1 _ es hL1 (Ext.new hL1) upd_same em el
/-- a trial at a led loop: what the function does may change S; the led loop is as it was, its list is C -/
theorem trial_at {K : PySem.W.Frag} {H : Hp} {p lp P : Addr} {n f : Int} {s : Ls} {ps : List Ls} {Q : VK} {E : XK} {tl : XK → V → Hp → VK → Prop} (T : LamX.Tabs (tabs K) H) (h : IsLd K H p lp P n f s ps) (hz : ps.length ≤ 100000)
    (k : ∀ C H1 EE QQ, H C = none → Ext H H1 →
      (∀ v H2 S, Fr K S H1 H2 → C ∉ S → (∃ P' s' qs, IsLd K H2 p lp P' n f s' qs) → (∀ H3, Fr K (p :: S) H H3 → LamX.Tabs (tabs K) H3 → IsLd K H3 p lp C n f s ps → (∀ b u, b ≠ p → H2 b = some u → H3 b = some u) → Q v H3) → QQ v H2) →
      (∀ cls d H2 S, Fr K S H1 H2 → C ∉ S → (∃ P' s' qs, IsLd K H2 p lp P' n f s' qs) → (∀ H3, Fr K (p :: S) H H3 → LamX.Tabs (tabs K) H3 → IsLd K H3 p lp C n f s ps → (∀ b u, b ≠ p → H2 b = some u → H3 b = some u) → E cls d H3) → EE cls d H2) → tl EE (.ref p) H1 QQ) :
    TT_Led_trial K tl [.ref p] H Q E := by
  refine ⟨p, lp, P, n, f, s, ps, rfl, h, hz, fun C H1 hC e ⟨ws, w1, w2⟩ EE QQ hE hQ => k C H1 EE QQ hC e (fun v H2 S f2 nC ob R => ?_) fun cls d H2 S f2 nC ob R => ?_⟩
  · obtain ⟨P', s', qs, ⟨dx, ob⟩, _⟩ := ob
    refine hQ v H2 ⟨dx, P', s', ob, ⟨ws, f2.lst nC w1, w2.fr f2⟩, fun H3 e3 ld => ?_⟩
    have f3 : Fr K (p :: S) H H3 := (Fr.of e).tr ((f2.mono (fun x hx => List.mem_cons_of_mem _ hx)).tr ((Fr.ofP ob e3).mono (by simp)))
    exact R H3 f3 (f3.s T) ld e3
  · obtain ⟨P', s', qs, ⟨dx, ob⟩, _⟩ := ob
    refine hE cls d H2 ⟨dx, P', s', ob, ⟨ws, f2.lst nC w1, w2.fr f2⟩, fun H3 e3 ld => ?_⟩
    have f3 : Fr K (p :: S) H H3 := (Fr.of e).tr ((f2.mono (fun x hx => List.mem_cons_of_mem _ hx)).tr ((Fr.ofP ob e3).mono (by simp)))
    exact R H3 f3 (f3.s T) ld e3
def sp_l_deeper (K : PySem.W.Frag) : Sp := fun vs H Q _ => ∃ (o p lp P t L : Addr) (n f : Int) (l : Lp) (s : Ls) (ps : List Ls) (ds : List Int), vs = [.ref o, .ref p, .ref t, .int n, .ref L] ∧ Duo K H o p lp P n f s ps ∧ Tk K H lp t L l n ds ∧ 1 ≤ f ∧
  t ≠ P ∧ L ≠ P ∧ ps.length ≤ 90000 ∧ ∀ H', Fr K [p, P] H H' → (∃ P' s' qs, IsLd K H' p lp P' n f s' qs) → Q (.bl true) H'
def rd_l_deeper (K : PySem.W.Frag) : TS := tSeq (tAsg (tCB (Evl.rListS K) (tCons (tVar 0) (tNil))) (gName 5)) (tSeq (tIfS (tNot (tB (tCall (sp_l_busy K) [] E0 (tCons (tVar 5) (tCons (tVar 1) (tCons (tVar 2) (tCons (tVar 3) (tCons (tSl (rSlL K) (tVar 4) (tNoPart) (tPart (tC (.int 2)))) (tNil))))))))) (tRet (tC (.bl false))) (tNext)) (tSeq (tAsg (tTup (tCons (tCB (Evl.rListS K) (tCons (tVar 5) (tNil))) (tCons (tCB (Evl.rListS K) (tCons (tVar 5) (tNil))) (tCons (tMeth (He.ga K "Led") "twin" (sp_Led_twin K) [] E0 (tVar 1) tNil) (tNil))))) (gTup K 3 (gCons (gName 6) (gCons (gName 7) (gCons (gName 8) (gNil)))))) (tSeq (tIfS (tTest (tOp FW.rIsNB (FWP.tLamT (FWL.tabs K) (TT_Led_trial K) (He.ga K "Led") "trial" (fun _ _ _ _ => False) (tVar 1) (fun E => tCall (sp_l_busy K) [] E0 (tCons (tVar 6) (tCons (tVar 9) (tCons (tVar 2) (tCons (tVar 3) (tCons (tSl (rSlL K) (tVar 4) (tPart (tC (.int 2))) (tNoPart)) (tNil)))))))) (tC (.bl true)))) (tRet (tC (.bl false))) (tNext)) (tSeq (tIfS (tOr (tNot (tB (tCall (sp_l_busy K) [] E0 (tCons (tVar 7) (tCons (tVar 8) (tCons (tVar 2) (tCons (tVar 3) (tCons (tVar 4) (tNil))))))))) (tNot (tB (tCall (sp_l_showsO K) [] E0 (tCons (tVar 5) (tCons (tVar 1) (tNil))))))) (tRet (tC (.bl false))) (tNext)) (tRet (tCall (sp_l_busy K) [] E0 (tCons (tVar 5) (tCons (tVar 1) (tCons (tVar 2) (tCons (tVar 3) (tCons (tSl (rSlL K) (tVar 4) (tPart (tC (.int 1))) (tNoPart)) (tNil))))))))))))
theorem pure_l_deeper (K : PySem.W.Frag) (X : Hot52 K) (vs : List V) (H : Hp) (Q : VK) (E : XK) (h : sp_l_deeper K vs H Q E) : rd_l_deeper K { nx := fun _ H' => Q .non H', rt := Q } (start ["_law_own", "_law_one", "_law_parts", "_law_n", "_law_draws", "_law_inner", "_law_deeper_here", "_law_apart_here", "_law_other"] vs) H := by
  obtain ⟨o, p, lp, P, t, L, n, f, l, s, ps, ds, rfl, d, k, f1, tP, LP, hz, q⟩ := h
  have A := X.ld
  obtain ⟨vo, ho, _⟩ := id d.own
  obtain ⟨-, ⟨dx0, hp0⟩, ⟨vP0, hP0⟩⟩ := id d.at
  obtain ⟨dl, hlp⟩ := id k.wl.lp
  have lpp := IsLp.ns d.ld k.wl.lp
  have tp : t ≠ p := ne_of k.wl.pt hp0 (fun z => nomatch z)
  have Lp_ : L ≠ p := ne_of k.dl hp0 (fun z => nomatch z)
  have op : Ok H [p, P] p := .inl (by simp)
  have oP : Ok H [p, P] P := .inl (by simp)
  unfold rd_l_deeper
  walk_at "rd"
  refine e_listS (fun i hi => ?_) (.inl (SqL.of ho))
  have e1 := Ext.new (o := .lst vo) hi
  have d1 := d.copy ho hi
  have hi1 : (upd H i (.lst vo)) i = some (.lst vo) := upd_same
  generalize upd H i (.lst vo) = H1 at *
  have ti : t ≠ i := ne_of_none k.wl.pt hi
  have Li : L ≠ i := ne_of_none k.dl hi
  have li : lp ≠ i := ne_of_none hlp hi
  have oi : Ok H [p, P] i := (Fr.refl (K := K)).ok hi
  walk_at "rd"
  refine e_cutD none (some 2) rfl (e1 _ _ k.dl) (fun R h => e_noP h) (fun R h => e_part (e_c ⟨_, rfl, h⟩)) fun L1 H2 es hL1 e2 hL1b em el => ?_
  have k2 : Tk K H2 lp t L l n ds := k.ext (e1.tr e2)
  have d2 := d1.ext e2
  walk_at "rd"
  refine ⟨i, p, lp, P, t, L1, n, f, l, s, ps, es, rfl, d2, k2.wl, hL1b, fun x hx => k.db x (em x hx), ti, tP, (ne_of_none hi1 hL1).symm, (ne_of_none (e1 _ _ hP0) hL1).symm, by have := k.d4; omega, k2.tb, fun H3 s1 ps1 f3 T3 d3 z3 => ?_⟩
  have F3 : Fr K [p, P] H H3 := (Fr.of (e1.tr e2)).step3 f3 oi op oP
  have k3 := k2.fr (not3 li lpp.1 lpp.2) (not3 ti tp tP) (not3 Li Lp_ LP) f3
  obtain ⟨⟨v3, hi3⟩, ⟨dx3, hp3⟩, ⟨vP3, hP3⟩⟩ := id d3.at
  have l3 : ps1.length ≤ 90004 := by have := k.d4; omega
  walk_at "re"
  with_reducible refine s_next ?_
  with_reducible refine s_seq ?_
  with_reducible refine s_asgG ?_
  walk_at "re"
  refine e_listS (fun a ha => ?_) (.inl (SqL.of hi3))
  have e4 := Ext.new (o := .lst v3) ha
  have dB := d3.copy hi3 ha
  have ha4 : (upd H3 a (.lst v3)) a = some (.lst v3) := upd_same
  generalize upd H3 a (.lst v3) = H4 at *
  walk_at "re"
  refine e_listS (fun b hb => ?_) (.inl (SqL.of (e4 _ _ hi3)))
  have e5 := Ext.new (o := .lst v3) hb
  have dC := (d3.ext e4).copy (e4 _ _ hi3) hb
  have hb5 : (upd H4 b (.lst v3)) b = some (.lst v3) := upd_same
  generalize upd H4 b (.lst v3) = H5 at *
  have e35 := e4.tr e5
  walk_at "re"
  refine ⟨p, dx3, _, rfl, e35 _ _ hp3, rfl, ?_⟩
  walk_at "re"
  refine ⟨p, lp, P, n, f, s1, ps1, rfl, dC.ld, k.wl.n0, f1, fun r R H6 hr hR e6 ldr => ?_⟩
  have dD := dC.twin e6 ldr hR
  walk_at "re"
  refine ⟨by show 3 ≤ sizeLine; decide, fun u hu => ?_⟩
  have e7 := Ext.new (o := .tup [.ref a, .ref b, .ref r]) hu
  have hu7 : (upd H6 u (.tup [.ref a, .ref b, .ref r])) u = some (.tup [.ref a, .ref b, .ref r]) := upd_same
  refine ha_gT (xs := [.ref a, .ref b, .ref r]) hu7 rfl ?_
  generalize upd H6 u (.tup [.ref a, .ref b, .ref r]) = H7 at *
  have e37 := e35.tr (e6.tr e7)
  have oa : Ok H [p, P] a := F3.ok ha
  have ob : Ok H [p, P] b := (F3.ext e4).ok hb
  have or : Ok H [p, P] r := (F3.ext e35).ok hr
  have oR : Ok H [p, P] R := (F3.ext e35).ok hR
  have k7 := k3.ext e37
  have dB7 := dB.ext ((e5.tr e6).tr e7)
  have dD7 := dD.ext e7
  have dA7 := d3.ext e37
  walk_at "rd"
  have F7 : Fr K [p, P] H H7 := F3.ext e37
  obtain ⟨-, ⟨dx7, hp7⟩, -⟩ := id dB7.at
  unfold FWP.tLamT
  refine e_var ⟨p, dx7, _, rfl, hp7, rfl, k7.tb, fun H8 eN T8 => ?_⟩ rfl
  have f8 : Fr K [] H7 H8 := Fr.ofN eN T8
  have F8 : Fr K [p, P] H H8 := F7.tr (f8.mono (by simp))
  have k8 := k7.fr (by simp) (by simp) (by simp) f8
  have dA8 := dA7.fr (by simp) (by simp) (by simp) f8
  have dB8 := dB7.fr (by simp) (by simp) (by simp) f8
  have dD8 := dD7.fr (by simp) (by simp) (by simp) f8
  obtain ⟨⟨vi8, hi8⟩, ⟨dx8, hp8⟩, ⟨vP8, hP8⟩⟩ := id dA8.at
  obtain ⟨⟨va8, ha8⟩, -, -⟩ := id dB8.at
  obtain ⟨⟨vb8, hb8⟩, ⟨dr8, hr8⟩, ⟨vR8, hR8⟩⟩ := id dD8.at
  -- unlike addresses
  have ip : i ≠ p := ne_of hi3 hp3 (fun z => nomatch z)
  have ia : i ≠ a := ne_of_none hi3 ha
  have iP : i ≠ P := d3.ne
  have ib : i ≠ b := ne_of_none (e4 _ _ hi3) hb
  have ir : i ≠ r := ne_of_none (e35 _ _ hi3) hr
  have iR : i ≠ R := ne_of_none (e35 _ _ hi3) hR
  have pb : p ≠ b := ne_of_none (e4 _ _ hp3) hb
  have pr : p ≠ r := ne_of_none (e35 _ _ hp3) hr
  have pR : p ≠ R := ne_of_none (e35 _ _ hp3) hR
  have ab : a ≠ b := ne_of_none ha4 hb
  have ar : a ≠ r := ne_of_none (e5 _ _ ha4) hr
  have aR : a ≠ R := ne_of_none (e5 _ _ ha4) hR
  have Pb : P ≠ b := ne_of_none (e4 _ _ hP3) hb
  have Pr : P ≠ r := ne_of_none (e35 _ _ hP3) hr
  have PR : P ≠ R := ne_of_none (e35 _ _ hP3) hR
  have ta : t ≠ a := ne_of_none k3.wl.pt ha
  have tb : t ≠ b := ne_of_none (e4 _ _ k3.wl.pt) hb
  have tR : t ≠ R := ne_of_none (e35 _ _ k3.wl.pt) hR
  have tr_ : t ≠ r := ne_of_none (e35 _ _ k3.wl.pt) hr
  have La : L ≠ a := ne_of_none k3.dl ha
  have Lb : L ≠ b := ne_of_none (e4 _ _ k3.dl) hb
  have LR : L ≠ R := ne_of_none (e35 _ _ k3.dl) hR
  have Lr : L ≠ r := ne_of_none (e35 _ _ k3.dl) hr
  obtain ⟨dl3, hlp3⟩ := id k3.wl.lp
  have la : lp ≠ a := ne_of_none hlp3 ha
  have lb : lp ≠ b := ne_of_none (e4 _ _ hlp3) hb
  have lR : lp ≠ R := ne_of_none (e35 _ _ hlp3) hR
  have lr : lp ≠ r := ne_of_none (e35 _ _ hlp3) hr
  have d4 := k.d4
  refine trial_at T8 dB8.ld (by omega) fun C H9 EE QQ hC e9 hQ _ => ?_
  have k9 := k8.ext e9
  dsimp only
  walk_at "re"
  refine e_cutD (some 2) none rfl k9.dl (fun R h => e_part (e_c ⟨_, rfl, h⟩)) (fun R h => e_noP h) fun L2 H10 es2 hL2 e10 hL2b em2 el2 => ?_
  have k10 := k9.ext e10
  walk_at "re"
  refine ⟨a, p, lp, P, t, L2, n, f, l, s1, ps1, es2, rfl, dB8.ext (e9.tr e10), k10.wl, hL2b, fun x hx => k.db x (em2 x hx), ta, tP, (ne_of_none (e9 _ _ ha8) hL2).symm, (ne_of_none (e9 _ _ hP8) hL2).symm, by omega, k10.tb, fun H11 s2 ps2 f11 T11 d11 z11 => ?_⟩
  refine hQ (.bl true) H11 [a, p, P] ((Fr.of e10).tr f11) (not3 (ne_of_none ha8 hC).symm (ne_of_none hp8 hC).symm (ne_of_none hP8 hC).symm) ⟨P, s2, ps2, d11.ld⟩ fun H12 f12 T12 ld12 _ => ?_
  have F12 : Fr K [p, P] H H12 := F8.step4 f12 op oa op oP
  have k12 := k8.fr (not4 lpp.1 la lpp.1 lpp.2) (not4 tp ta tp tP) (not4 Lp_ La Lp_ LP) f12
  have dD12 := dD8.fr (not4 pb.symm ab.symm pb.symm Pb.symm) (not4 pr.symm ar.symm pr.symm Pr.symm) (not4 pR.symm aR.symm pR.symm PR.symm) f12
  have dA12 : Duo K H12 i p lp C n f s1 ps1 := ⟨ld12, dA8.own.fr (not4 ip ia ip iP) f12, ne_of_none hi8 hC, dA8.gd⟩
  have oC : Ok H [p, P] C := F8.ok hC
  walk_at "re"
  refine ⟨_, _, rfl, rfl, _, rfl, ?_⟩
  rw [decide_eq_true (rfl : true = true)]
  with_reducible refine e_nT ?_
  walk_at "rd"
  refine ⟨b, r, lp, R, t, L, n, f, l, s1, ps1, ds, rfl, dD12, k12.wl, k12.dl, k.db, tb, tR, Lb, LR, by omega, k12.tb, fun H13 s3 ps3 f13 T13 d13 z13 => ?_⟩
  have dA13 := dA12.fr (not3 ib ir iR) (not3 pb pr pR) (not3 (ne_of_none hb8 hC).symm (ne_of_none hr8 hC).symm (ne_of_none hR8 hC).symm) f13
  have k13 := k12.fr (not3 lb lr lR) (not3 tb tr_ tR) (not3 Lb Lr LR) f13
  have F13 := F12.step3 f13 ob or oR
  walk_at "rd"
  refine ⟨i, p, lp, C, n, f, s1, ps1, ps1, rfl, dA13.ld, dA13.own, fun H14 e14 => ?_⟩
  walk_at "rd"
  have k14 := k13.ext e14
  have dA14 := dA13.ext e14
  obtain ⟨⟨vi14, hi14⟩, -, ⟨vC14, hC14⟩⟩ := id dA14.at
  refine e_cutD (some 1) none rfl k14.dl (fun R h => e_part (e_c ⟨_, rfl, h⟩)) (fun R h => e_noP h) fun L3 H15 es3 hL3 e15 hL3b em3 el3 => ?_
  have k15 := k14.ext e15
  walk_at "rd"
  refine ⟨i, p, lp, C, t, L3, n, f, l, s1, ps1, es3, rfl, dA14.ext e15, k15.wl, hL3b, fun x hx => k.db x (em3 x hx), ti, ne_of_none k8.wl.pt hC, (ne_of_none hi14 hL3).symm, (ne_of_none hC14 hL3).symm, by omega, k15.tb, fun H16 s4 ps4 f16 T16 d16 z16 => ?_⟩
  exact q H16 ((F13.ext (e14.tr e15)).step3 f16 oi op oC) ⟨C, s4, ps4, d16.ld⟩
end FWL
namespace FWN
open PySem PySem.Spec PyProof.Rows L2 FW
/-! ### except X: without a name; the suite may call -/
section
variable {X : Cx} {pins : List (Addr × Obj)} {a : Addr} {B : Heap} {sI s : Shared} {σ : L2.St} {H : Hp} {cls : Value} {d : Option Addr} {x : Str} {c : Value} {suite : List Stmt} {b₀ : Stmt} {np pos' : Pos} {ts : TS} {Wo : WX} {D : Ends}
theorem Cau.one (hc : Names X x c) (tk : L2N.Takes X Wo) (hsu : ∀ (a : Addr) (oe : Obj) (cls : Value) (d : Option Addr) (pn : List (Addr × Obj)), L2N.Zn cls d oe → (∃ vs, oe.data = .fields vs) → PSs (X.suite a ((a, oe) :: pn)) (b₀ :: suite) ts)
    (k : Cau X pins a B sI σ H cls d s) (w : wOnly X.K c (fun _ _ _ => ts) Wo D cls d σ H) : wpAny (model X.prog X.w) X.A (handleBy (.ref a) X.env [.ExceptHandler (some (.Name x np)) none (b₀ :: suite) pos']) (SP X pins D) X.xe s := by
  obtain ⟨b, hb, yes, no⟩ := w
  obtain ⟨oe, hz, hfl, he, S⟩ := k.hold
  refine wpAny_handleBy_cons (codeAny_handlers_test ?_) (by intro q; cases q)
  have lt : PySem.W.Looks (model X.prog X.w) s.heap (typeOf (.ref a)) cls := fun _ _ _ _ kp q => wpAny_typeOf_ref (kp _ _ he) (by rw [hz.1]; exact q)
  have lm := PySem.W.exm_one (M := model X.prog X.w) k.now.kIn lt hb
  have asked : ∀ {Q : Value → Shared → Prop} {E : Value → Shared → Prop}, Q c s → wpAny (model X.prog X.w) (X.A.mark (some (.ref a))) (eval (.Name x np) X.env) Q E s := fun {Q E} q => by
    rcases hc with ⟨hg, hdb, hm | ⟨hm, hv, hnn⟩⟩
    · exact ld_glob (X := X.suite a ((a, oe) :: (X.pn ++ pins))) S hg hm q hdb
    · exact ld_blt (X := X.suite a ((a, oe) :: (X.pn ++ pins))) S hg hm hv q hnn hdb
  refine asked (lm.here ?_)
  cases b with
  | false => exact k.pass tk (no rfl)
  | true =>
    refine codeAny_handlers_suite (HandSPX.lands_againZ k.fly fun g gf gu => ?_)
    obtain ⟨o2, z2, f2, e2, S2⟩ := (k.on gf gu).hold
    refine wpAny_mono ((hsu a o2 cls d (X.pn ++ pins) z2 f2).run [] _ σ H D S2 (yes rfl a k.na)) (fun fl s6 hsp => ?_) (fun _ _ z => False.elim z)
    have ok := k.inv.ok
    cases fl with
    | ret u => exact (fun ⟨v6, τ, G, S6, r6, q6⟩ => ⟨v6, τ, G, S6.unsuite ok, r6, q6⟩ : _ → _) hsp
    | next => exact (fun ⟨τ, G, S6, q6⟩ => ⟨τ, G, S6.unsuite ok, q6⟩ : _ → _) hsp
    | brk => exact (fun ⟨τ, G, S6, q6⟩ => ⟨τ, G, S6.unsuite ok, q6⟩ : _ → _) hsp
    | cont => exact (fun ⟨τ, G, S6, q6⟩ => ⟨τ, G, S6.unsuite ok, q6⟩ : _ → _) hsp
end
theorem ps_tryOH {X : Cx} {x : Str} {c : Value} {body suite : List Stmt} {b₀ : Stmt} {np pos pos' : Pos} {tb : WX → TS} {ts : TS} {Wout : WX} (hs : X.stack = X.env :: X.outer) (hf : X.env.frame = some X.env.locals) (hc : Names X x c) (tk : L2N.Takes X Wout)
    (hb : ∀ (W : WX) (pn : List (Addr × Obj)) (xe : Value → Shared → Prop), L2N.Takes (X.tr pn xe) W → PassesOwn (model X.prog X.w) X.A X.env xe → PSs (X.tr pn xe) body (tb W))
    (hsu : ∀ (a : Addr) (oe : Obj) (cls : Value) (d : Option Addr) (pn : List (Addr × Obj)), L2N.Zn cls d oe → (∃ vs, oe.data = .fields vs) → PSs (X.suite a ((a, oe) :: pn)) (b₀ :: suite) ts) :
    PS X (.Try body [.ExceptHandler (some (.Name x np)) none (b₀ :: suite) pos'] [] [] pos) (tTryO X.K tb c ts Wout) := by
  refine ⟨fun pins s σ H D I h => wpAny_Try_except ?_⟩
  have fr : X.A.frames = some (X.env :: X.outer) := by rw [I.ok.frames, hs]
  have run := (hb (wOnly X.K c (fun _ _ _ => ts) Wout D) (X.pn ++ pins) (fun e s₁ => wpAny (model X.prog X.w) X.A (noteFrame e X.env) (fun _ s₂ => wpAny (model X.prog X.w) X.A (setFlight e none)
    (fun _ s₃ => wpAny (model X.prog X.w) X.A (handleBy e X.env [.ExceptHandler (some (.Name x np)) none (b₀ :: suite) pos']) (SP X pins D) X.xe s₃) X.xe s₂) X.xe s₁) ?_ PassesOwn.looking).run [] s σ H D (I.toTry _) h
  · refine wpAny_mono run (fun fl s1 hsp => ?_) (fun _ _ he => he)
    cases fl with
    | ret u => exact (fun ⟨v, τ, G, J, r, q⟩ => ⟨v, τ, G, J.ofTry I.ok, r, q⟩ : _ → _) hsp
    | next => exact (fun ⟨τ, G, J, q⟩ => wpAny_execs_nil ⟨τ, G, J.ofTry I.ok, q⟩ : _ → _) hsp
    | brk => exact (fun ⟨τ, G, J, q⟩ => ⟨τ, G, J.ofTry I.ok, q⟩ : _ → _) hsp
    | cont => exact (fun ⟨τ, G, J, q⟩ => ⟨τ, G, J.ofTry I.ok, q⟩ : _ → _) hsp
  · rintro u s1 ⟨a, B, sI, ps, τ, G, cls, d, rfl, J, nb, up, sky, na, os, ag, w⟩
    have sky' : Sky B (X.env :: X.outer) a (L2N.Zn cls d) X.env.locals s1.heap := by rw [← hs]; exact sky
    show wpAny (model X.prog X.w) X.A (noteFrame (.ref a) X.env) _ _ _
    refine L2N.Sky.land L2N.Zn.steady fr hf sky' fun g gf gu => ?_
    exact Cau.one (s := { s1 with heap := g }) hc tk hsu ⟨hs, hf, J.ofTry I.ok, nb, up.trans gu, gf, na, os, ag⟩ w
end FWN
namespace FW
open PySem PySem.Spec PyProof.Rows L2 L2H PySem.W
/-- x(e, ..) while an exception is handled: the def's reading itself -/
def tCallH (n : Nat) (N : List Str) (t : TS) (ta : TA) : TE := fun σ H Q => ta σ H fun vs H1 => vs.length = n ∧ t { nx := fun _ H' => Q .non H', rt := Q } (L2.start N vs) H1
theorem pe_callHs {Y : Cx} {a : Addr} {oe : Obj} {cls : Value} {d : Option Addr} {x : Str} {params : Arguments} {body : List Stmt} {scope : Scope} {f : Addr} {N ps : List Str} {k : Nat} {t : TS} {ta : TA} {e : Expr} {es : List Expr} {q pos : Pos} (h : HX Y a oe cls d) (F : ∃ fd, FunD Y.K x x params body scope [] [] f fd) (hm : Y.mg x = some (.ref f)) (hg : Gl Y x) (S : FnScope N ps scope)
    (hb : ∀ (kV doc pm : Value) (an : Option Addr) (cdv ct : Value) (us : List Value), us.length = ps.length → bindArgs (fnOf x x params body scope .none kV doc pm an cdv ct) ⟨us, []⟩ = pure (ps.zip us))
    (hr : RoomH (k + 1) Y.A) (ha : PA Y (e :: es) ta)
    (hbody : ∀ (cdv : Value) (s : Shared) (H : Hp), RoomH k (Y.A.deeper (envOfC x scope s.heap.objs.size f cdv)) → PSs (cxH CX0 Y.prog Y.w Y.K Y.mg Y.base N x scope f cdv Y.A Y.stack s H E0 (a, oe)) body t)
    (hdb : (x == ("__debug__" : Str)) = false := by decide) (hs : starEach (e :: es) Y.env = (false, eval e Y.env) :: starEach es Y.env := by rfl) (hpl : (backTo pos (starEach es Y.env)).any (·.1) = false := by rfl) :
    PE Y (.Call (.Name x q) (e :: es) [] pos) (tCallH ps.length N t ta) := by
  obtain ⟨fd, F⟩ := F
  have bnd := F.bindsN (ps := ps) hb
  obtain ⟨oc, od, dV, kV, doc, pm, an, cdv, ct, osl, rfl, lk, hcd', _, _⟩ := F.ex
  refine ⟨fun pins s σ H Q I hq => wpAny_Call_Name_kw (ld_glob I hg hm (callWith_K (h₀ := Y.base) I.ok.mod.kin F.kp (thn (ha.run pos pins s σ H _ I hq) ?_) hs hpl) hdb)⟩
  rintro us s1 ⟨vs, H1, I1, r1, hl, q1⟩
  have P1 := I1.pin (a, oe) (List.mem_append_left _ h.mem)
  have ul : us.length = ps.length := by rw [← r1.length]; exact hl
  refine ⟨I1.kIn, wpAny_call (codeAny_mono (run_ofX (k := k) (N := N) (ps := ps) (p := (a, oe)) (vs := vs) (us := us) lk hcd' S hr ⟨P1.1, P1.2.1, fun m => (List.mem_cons.mp (I1.stkSub a m)).elim P1.2.2.1 P1.2.2.2.1, P1.2.2.2.2⟩ I1.env0 (by have b := bnd s1 us I1.kIn (by rw [List.append_nil]; exact ul); rw [List.append_nil] at b; exact b) r1 hl fun hr' => ⟨t, hbody cdv s1 H1 hr', q1⟩) fun r s2 hq2 => ?_)⟩
  match r, hq2 with
  | .error e, hq2 => exact (show False from hq2).elim
  | .ok (.ret u), hq2 => exact I1.after hq2
  | .ok .next, hq2 => exact False.elim hq2
  | .ok .brk, hq2 => exact False.elim hq2
  | .ok .cont, hq2 => exact False.elim hq2
theorem unitsH {k : Nat} {A : Around} (r : RoomH k A) : A.units + 64 < cLine := by have := r.un; omega
end FW
namespace FWL
open PySem PySem.Spec PyProof.Rows L2 FW
/-! ### k52: trials, three of them -/
theorem Own.but {H H1 : Hp} {o p C dx : Addr} {fs : List (Str × V)} {w : List Ls} (h : Own H o w) (hp : H p = some (.ins C dx fs)) (e : ∀ b u, b ≠ p → H b = some u → H1 b = some u) : Own H1 o w := by
  obtain ⟨vs, h1, h2⟩ := h
  exact ⟨vs, e _ _ (ne_of h1 hp (fun z => nomatch z)) h1, h2.keep fun b xs q => e _ _ (ne_of q hp (fun z => nomatch z)) q⟩
theorem Ok.ne {H : Hp} {S : List Addr} {x b : Addr} {u : HO} (h : Ok H S x) (hb : H b = some u) (nt : ∀ ps, u ≠ .tbl ps) (n : b ∉ S) : b ≠ x := fun z => by
  rcases h with h | h
  · exact n (z ▸ h)
  · obtain ⟨ps, e⟩ := h u (z ▸ hb)
    exact nt ps e
theorem Ok.back {K : PySem.W.Frag} {S S' : List Addr} {H H1 : Hp} {x : Addr} (a : Fr K S H H1) (h : Ok H1 S' x) (hs : ∀ y ∈ S', Ok H S y) : Ok H S x := by
  rcases h with h | h
  · exact hs x h
  by_cases z : x ∈ S
  · exact .inl z
  · refine .inr fun u hu => ?_
    by_cases w : ∃ ps, u = .tbl ps
    · exact w
    · exact h u (a.k x u z hu fun ps e => w ⟨ps, e⟩)
theorem Ok.back2 {K : PySem.W.Frag} {S : List Addr} {H H1 : Hp} {x y z : Addr} (a : Fr K S H H1) (h : Ok H1 [y, z] x) (hy : Ok H S y) (hz : Ok H S z) : Ok H S x := h.back a fun w hw => by
  rcases List.mem_cons.mp hw with rfl | hw
  · exact hy
  rw [List.mem_singleton.mp hw]; exact hz
theorem not2 {a x y : Addr} (h1 : a ≠ x) (h2 : a ≠ y) : a ∉ [x, y] := by simp [h1, h2]
theorem Fr.step2 {K : PySem.W.Frag} {S : List Addr} {H H1 H2 : Hp} {x y : Addr} (a : Fr K S H H1) (b : Fr K [x, y] H1 H2) (hx : Ok H S x) (hy : Ok H S y) : Fr K S H H2 := a.step b fun w hw => by
  rcases List.mem_cons.mp hw with rfl | hw
  · exact hx
  rw [List.mem_singleton.mp hw]; exact hy
def sp_l_trial_right (K : PySem.W.Frag) : Sp := fun vs H Q _ => ∃ (o p lp P t L : Addr) (n f : Int) (l : Lp) (s : Ls) (ps : List Ls) (ds : List Int), vs = [.ref o, .ref p, .ref t, .int n, .ref L] ∧ Duo K H o p lp P n f s ps ∧ Tk K H lp t L l n ds ∧ 1 ≤ f ∧
  t ≠ o ∧ L ≠ o ∧ t ≠ P ∧ L ≠ P ∧ ps.length ≤ 90000 ∧ ∀ H' C, Fr K [p, P] H H' → Ok H [p, P] C → Duo K H' o p lp C n f s ps → Q (.bl true) H'
def rd_l_trial_right (K : PySem.W.Frag) : TS := tSeq (tAsg (tCB (Evl.rListS K) (tCons (tVar 0) (tNil))) (gName 5)) (tSeq (tAsg (FWP.tLamT (FWL.tabs K) (TT_Led_trial K) (He.ga K "Led") "trial" (fun _ _ _ _ => False) (tVar 1) (fun E => tLst (tCons (tCall (sp_l_busy K) [] E0 (tCons (tVar 5) (tCons (tVar 8) (tCons (tVar 2) (tCons (tVar 3) (tCons (tVar 4) (tNil))))))) (tCons (tFld K (tVar 8) "guess") (tNil))))) (gName 6)) (tSeq (tIfS (tOr (tTest (tOp (rNeD K) (tVar 6) (tLst (tCons (tC (.bl true)) (tCons (tOp (rIxT K) (tOp (rIxL K) (tVar 5) (tUn FW.rNeg (tC (.int 1)))) (tC (.int 0))) (tNil)))))) (tNot (tB (tCall (sp_l_showsO K) [] E0 (tCons (tVar 0) (tCons (tVar 1) (tNil))))))) (tRet (tC (.bl false))) (tNext)) (tSeq (tIfS (tOr (tTest (tOp FW.rIsNB (FWP.tLamT (FWL.tabs K) (TT_Led_trial K) (He.ga K "Led") "trial" (fun _ _ _ _ => False) (tVar 1) (fun E => tCall (sp_l_deeper K) [] E0 (tCons (tVar 0) (tCons (tVar 8) (tCons (tVar 2) (tCons (tVar 3) (tCons (tVar 4) (tNil)))))))) (tC (.bl true)))) (tNot (tB (tCall (sp_l_showsO K) [] E0 (tCons (tVar 0) (tCons (tVar 1) (tNil))))))) (tRet (tC (.bl false))) (tNext)) (tSeq (tAsg (tCB (Evl.rListS K) (tCons (tVar 0) (tNil))) (gName 7)) (tSeq (FWN.tTryO K (fun W => tDrop (FWP.tLamT (FWL.tabs K) (TT_Led_trial K) (He.ga K "Led") "trial" W (tVar 1) (fun E => tLst (tCons (tCall (sp_l_busy K) [] E0 (tCons (tVar 7) (tCons (tVar 8) (tCons (tVar 2) (tCons (tVar 3) (tCons (tVar 4) (tNil))))))) (tCons (tDGetX (fun cls d _ H => E cls d H) tDNewK (tC (.str "none"))) (tNil)))))) (.type "KeyError") (tRet (FW.tCallH 2 ["_law_own", "_law_led"] (rd_l_showsO K) (tCons (tVar 0) (tCons (tVar 1) (tNil))))) (fun _ _ _ _ => False)) (tRet (tC (.bl false))))))))
section
variable {K : PySem.W.Frag} {H : Hp} {D : Ends} {o p lp P t L : Addr} {n f : Int} {l : Lp} {s : Ls} {ps : List Ls} {ds : List Int} {v5 v6 v7 : Option V}
/-- the third one ends by an error -/
theorem trial_3 (X : Hot52 K) (d : Duo K H o p lp P n f s ps) (k : Tk K H lp t L l n ds) (tP : t ≠ P) (LP : L ≠ P) (hz : ps.length ≤ 90000) (q : ∀ H' C, Fr K [p, P] H H' → Ok H [p, P] C → Duo K H' o p lp C n f s ps → D.rt (.bl true) H') :
    (tSeq (tAsg (tCB (Evl.rListS K) (tCons (tVar 0) (tNil))) (gName 7)) (tSeq (FWN.tTryO K (fun W => tDrop (FWP.tLamT (FWL.tabs K) (TT_Led_trial K) (He.ga K "Led") "trial" W (tVar 1) (fun E => tLst (tCons (tCall (sp_l_busy K) [] E0 (tCons (tVar 7) (tCons (tVar 8) (tCons (tVar 2) (tCons (tVar 3) (tCons (tVar 4) (tNil))))))) (tCons (tDGetX (fun cls d _ H => E cls d H) tDNewK (tC (.str "none"))) (tNil)))))) (.type "KeyError") (tRet (FW.tCallH 2 ["_law_own", "_law_led"] (rd_l_showsO K) (tCons (tVar 0) (tCons (tVar 1) (tNil))))) (fun _ _ _ _ => False)) (tRet (tC (.bl false))))) D [some (.ref o), some (.ref p), some (.ref t), some (.int n), some (.ref L), v5, v6, v7] H := by
  have A := X.ld
  obtain ⟨vo, ho, _⟩ := id d.own
  obtain ⟨-, ⟨dx0, hp0⟩, ⟨vP0, hP0⟩⟩ := id d.at
  obtain ⟨dl, hlp⟩ := id k.wl.lp
  have lpp := IsLp.ns d.ld k.wl.lp
  have tp : t ≠ p := ne_of k.wl.pt hp0 (fun z => nomatch z)
  have Lp_ : L ≠ p := ne_of k.dl hp0 (fun z => nomatch z)
  have d4 := k.d4
  walk_at "rd"
  refine e_listS (fun j hj => ?_) (.inl (SqL.of ho))
  have e1 := Ext.new (o := .lst vo) hj
  have d1 := d.copy ho hj
  have dO1 := d.ext e1
  have hj1 : (upd H j (.lst vo)) j = some (.lst vo) := upd_same
  generalize upd H j (.lst vo) = H1 at *
  have k1 := k.ext e1
  have tj : t ≠ j := ne_of_none k.wl.pt hj
  have Lj : L ≠ j := ne_of_none k.dl hj
  have oj : o ≠ j := ne_of_none ho hj
  have Oj : Ok H [p, P] j := (Fr.refl (K := K)).ok hj
  walk_at "rd"
  unfold FWN.tTryO
  walk_at "rd"
  unfold FWP.tLamT
  refine e_var ⟨p, dx0, _, rfl, e1 _ _ hp0, rfl, k1.tb, fun H2 eN T2 => ?_⟩ rfl
  have f2 : Fr K [] H1 H2 := Fr.ofN eN T2
  have F2 : Fr K [p, P] H H2 := (Fr.of e1).tr (f2.mono (by simp))
  have k2 := k1.fr (by simp) (by simp) (by simp) f2
  have d2 := d1.fr (by simp) (by simp) (by simp) f2
  have dO2 := dO1.fr (by simp) (by simp) (by simp) f2
  obtain ⟨⟨vj2, hj2⟩, ⟨dx2, hp2⟩, ⟨vP2, hP2⟩⟩ := id d2.at
  refine trial_at T2 d2.ld (by omega) fun C H3 EE QQ hC e3 _ hE => ?_
  have k3 := k2.ext e3
  dsimp only
  walk_at "re"
  refine ⟨j, p, lp, P, t, L, n, f, l, s, ps, ds, rfl, d2.ext e3, k3.wl, k3.dl, k.db, tj, tP, Lj, LP, by omega, k3.tb, fun H4 s1 ps1 f4 T4 d4' z4 => ?_⟩
  walk_at "re"
  unfold tDGetX
  intro dd hdd
  walk_at "re"
  refine ⟨dd, none, rfl, .inl ⟨[], .inr "none", ?_, rfl, rfl⟩, (fun v z => nomatch z), fun _ d0 => ?_⟩
  · exact .inl upd_same
  have e5 := Ext.new (o := .dK []) hdd
  refine hE _ _ _ [j, p, P] ((f4.tr (Fr.of e5))) (not3 (ne_of_none hj2 hC).symm (ne_of_none hp2 hC).symm (ne_of_none hP2 hC).symm) ⟨P, s1, ps1, d4'.ld.ext e5⟩ fun H6 f6 T6 ld6 _ => ?_
  refine ⟨true, by kernel_rfl, fun _ a ha => ?_, fun z => by cases z⟩
  have op : o ≠ p := ne_of ho hp0 (fun z => nomatch z)
  have own6 := dO2.own.fr (not4 op oj op d.ne) f6
  obtain ⟨vo2, ho2, _⟩ := id dO2.own
  have d6 : Duo K H6 o p lp C n f s ps := ⟨ld6, own6, ne_of_none ho2 hC, d.gd⟩
  have Op : Ok H [p, P] p := .inl (by simp)
  have OP : Ok H [p, P] P := .inl (by simp)
  walk_at "rd"
  unfold FW.tCallH
  walk_at "re"
  refine ⟨rfl, pure_l_showsO K A [.ref o, .ref p] H6 _ E0 ⟨o, p, lp, C, n, f, s, ps, ps, rfl, ld6, own6, fun H7 e7 => ?_⟩⟩
  exact q H7 C ((F2.step4 f6 Op Oj Op OP).ext e7) (F2.ok hC) (d6.ext e7)
/-- the second one: a trial within a trial -/
theorem trial_2 (X : Hot52 K) (d : Duo K H o p lp P n f s ps) (k : Tk K H lp t L l n ds) (f1 : 1 ≤ f) (tP : t ≠ P) (LP : L ≠ P) (hz : ps.length ≤ 90000) (q : ∀ H' C, Fr K [p, P] H H' → Ok H [p, P] C → Duo K H' o p lp C n f s ps → D.rt (.bl true) H') :
    (tSeq (tIfS (tOr (tTest (tOp FW.rIsNB (FWP.tLamT (FWL.tabs K) (TT_Led_trial K) (He.ga K "Led") "trial" (fun _ _ _ _ => False) (tVar 1) (fun E => tCall (sp_l_deeper K) [] E0 (tCons (tVar 0) (tCons (tVar 8) (tCons (tVar 2) (tCons (tVar 3) (tCons (tVar 4) (tNil)))))))) (tC (.bl true)))) (tNot (tB (tCall (sp_l_showsO K) [] E0 (tCons (tVar 0) (tCons (tVar 1) (tNil))))))) (tRet (tC (.bl false))) (tNext)) (tSeq (tAsg (tCB (Evl.rListS K) (tCons (tVar 0) (tNil))) (gName 7)) (tSeq (FWN.tTryO K (fun W => tDrop (FWP.tLamT (FWL.tabs K) (TT_Led_trial K) (He.ga K "Led") "trial" W (tVar 1) (fun E => tLst (tCons (tCall (sp_l_busy K) [] E0 (tCons (tVar 7) (tCons (tVar 8) (tCons (tVar 2) (tCons (tVar 3) (tCons (tVar 4) (tNil))))))) (tCons (tDGetX (fun cls d _ H => E cls d H) tDNewK (tC (.str "none"))) (tNil)))))) (.type "KeyError") (tRet (FW.tCallH 2 ["_law_own", "_law_led"] (rd_l_showsO K) (tCons (tVar 0) (tCons (tVar 1) (tNil))))) (fun _ _ _ _ => False)) (tRet (tC (.bl false)))))) D [some (.ref o), some (.ref p), some (.ref t), some (.int n), some (.ref L), v5, v6, v7] H := by
  obtain ⟨vo, ho, _⟩ := id d.own
  obtain ⟨-, ⟨dx0, hp0⟩, ⟨vP0, hP0⟩⟩ := id d.at
  have tp : t ≠ p := ne_of k.wl.pt hp0 (fun z => nomatch z)
  have Lp_ : L ≠ p := ne_of k.dl hp0 (fun z => nomatch z)
  have lpp := IsLp.ns d.ld k.wl.lp
  have op : o ≠ p := ne_of ho hp0 (fun z => nomatch z)
  have Op : Ok H [p, P] p := .inl (by simp)
  have OP : Ok H [p, P] P := .inl (by simp)
  walk_at "rd"
  unfold FWP.tLamT
  refine e_var ⟨p, dx0, _, rfl, hp0, rfl, k.tb, fun H2 eN T2 => ?_⟩ rfl
  have f2 : Fr K [] H H2 := Fr.ofN eN T2
  have F2 : Fr K [p, P] H H2 := f2.mono (by simp)
  have k2 := k.fr (by simp) (by simp) (by simp) f2
  have d2 := d.fr (by simp) (by simp) (by simp) f2
  obtain ⟨⟨vo2, ho2⟩, ⟨dx2, hp2⟩, ⟨vP2, hP2⟩⟩ := id d2.at
  refine trial_at T2 d2.ld (by omega) fun C H3 EE QQ hC e3 hQ _ => ?_
  have k3 := k2.ext e3
  dsimp only
  walk_at "re"
  refine ⟨o, p, lp, P, t, L, n, f, l, s, ps, ds, rfl, d2.ext e3, k3, f1, tP, LP, hz, fun H4 f4 ob => ?_⟩
  refine hQ (.bl true) H4 [p, P] f4 (not2 (ne_of_none hp2 hC).symm (ne_of_none hP2 hC).symm) ob fun H6 f6 T6 ld6 _ => ?_
  have own6 := d2.own.fr (not3 op op d.ne) f6
  have d6 : Duo K H6 o p lp C n f s ps := ⟨ld6, own6, ne_of_none ho2 hC, d.gd⟩
  have F6 := F2.step3 f6 Op Op OP
  have k6 := k2.fr (not3 lpp.1 lpp.1 lpp.2) (not3 tp tp tP) (not3 Lp_ Lp_ LP) f6
  have OC : Ok H [p, P] C := F2.ok hC
  walk_at "re"
  refine ⟨_, _, rfl, rfl, _, rfl, ?_⟩
  rw [decide_eq_true (rfl : true = true)]
  with_reducible refine e_nT ?_
  walk_at "rd"
  refine ⟨o, p, lp, C, n, f, s, ps, ps, rfl, ld6, own6, fun H7 e7 => ?_⟩
  walk_at "re"
  with_reducible refine s_next ?_
  refine trial_3 X (d6.ext e7) (k6.ext e7) (ne_of_none k2.wl.pt hC) (ne_of_none k2.dl hC) hz fun H8 C8 f8 o8 d8 => ?_
  exact q H8 C8 ((F6.ext e7).step2 f8 Op OC) (o8.back2 (F6.ext e7) Op OC) d8
end
theorem pure_l_trial_right (K : PySem.W.Frag) (X : Hot52 K) (vs : List V) (H : Hp) (Q : VK) (E : XK) (h : sp_l_trial_right K vs H Q E) : rd_l_trial_right K { nx := fun _ H' => Q .non H', rt := Q } (start ["_law_own", "_law_led", "_law_parts", "_law_n", "_law_draws", "_law_inner", "_law_told", "_law_other"] vs) H := by
  obtain ⟨o, p, lp, P, t, L, n, f, l, s, ps, ds, rfl, d, k, f1, tO, LO, tP, LP, hz, q⟩ := h
  have A := X.ld
  obtain ⟨vo, ho, _⟩ := id d.own
  obtain ⟨-, ⟨dx0, hp0⟩, ⟨vP0, hP0⟩⟩ := id d.at
  obtain ⟨dl, hlp⟩ := id k.wl.lp
  have lpp := IsLp.ns d.ld k.wl.lp
  have tp : t ≠ p := ne_of k.wl.pt hp0 (fun z => nomatch z)
  have Lp_ : L ≠ p := ne_of k.dl hp0 (fun z => nomatch z)
  have op : o ≠ p := ne_of ho hp0 (fun z => nomatch z)
  have Op : Ok H [p, P] p := .inl (by simp)
  have OP : Ok H [p, P] P := .inl (by simp)
  have d4 := k.d4
  unfold rd_l_trial_right
  walk_at "rd"
  refine e_listS (fun i hi => ?_) (.inl (SqL.of ho))
  have e1 := Ext.new (o := .lst vo) hi
  have d1 := d.copy ho hi
  have dO1 := d.ext e1
  have hi1 : (upd H i (.lst vo)) i = some (.lst vo) := upd_same
  generalize upd H i (.lst vo) = H1 at *
  have k1 := k.ext e1
  have ti : t ≠ i := ne_of_none k.wl.pt hi
  have Li : L ≠ i := ne_of_none k.dl hi
  have li : lp ≠ i := ne_of_none hlp hi
  have oi : o ≠ i := ne_of_none ho hi
  have Oi : Ok H [p, P] i := (Fr.refl (K := K)).ok hi
  walk_at "rd"
  unfold FWP.tLamT
  refine e_var ⟨p, dx0, _, rfl, e1 _ _ hp0, rfl, k1.tb, fun H2 eN T2 => ?_⟩ rfl
  have f2 : Fr K [] H1 H2 := Fr.ofN eN T2
  have F2 : Fr K [p, P] H H2 := (Fr.of e1).tr (f2.mono (by simp))
  have k2 := k1.fr (by simp) (by simp) (by simp) f2
  have d2 := d1.fr (by simp) (by simp) (by simp) f2
  have dO2 := dO1.fr (by simp) (by simp) (by simp) f2
  obtain ⟨⟨vi2, hi2⟩, ⟨dx2, hp2⟩, ⟨vP2, hP2⟩⟩ := id d2.at
  obtain ⟨vo2, ho2, _⟩ := id dO2.own
  refine trial_at T2 d2.ld (by omega) fun C H3 EE QQ hC e3 hQ _ => ?_
  have k3 := k2.ext e3
  dsimp only
  walk_at "re"
  refine ⟨i, p, lp, P, t, L, n, f, l, s, ps, ds, rfl, d2.ext e3, k3.wl, k3.dl, k.db, ti, tP, Li, LP, by omega, k3.tb, fun H4 s1 ps1 f4 T4 d4' z4 => ?_⟩
  walk_at "re"
  refine e_fD ?_ A d4'.ld A.n_guess rfl
  walk_at "re"
  refine ⟨by show 2 ≤ sizeLine; decide, fun r hr => ?_⟩
  have e5 := Ext.new (o := .lst [.bl true, .int s1.g]) hr
  have hr5 : (upd H4 r (.lst [.bl true, .int s1.g])) r = some (.lst [.bl true, .int s1.g]) := upd_same
  have d5 := d4'.ext e5
  generalize upd H4 r (.lst [.bl true, .int s1.g]) = H5 at *
  obtain ⟨-, ⟨dx5, hp5⟩, -⟩ := id d5.at
  have rp : r ≠ p := ne_of hr5 hp5 (fun z => nomatch z)
  refine hQ (.ref r) H5 [i, p, P] (f4.ext e5) (not3 (ne_of_none hi2 hC).symm (ne_of_none hp2 hC).symm (ne_of_none hP2 hC).symm) ⟨P, s1, ps1, d5.ld⟩ fun H6 f6 T6 ld6 kp6 => ?_
  have hr6 := kp6 _ _ rp hr5
  obtain ⟨wi, u, w1, w2, w3, w4, w5, w6⟩ := (d5.own.but hp5 kp6).top
  have own6 := dO2.own.fr (not4 op oi op d.ne) f6
  have d6 : Duo K H6 o p lp C n f s ps := ⟨ld6, own6, ne_of_none ho2 hC, d.gd⟩
  have F6 := F2.step4 f6 Op Oi Op OP
  have k6 := k2.fr (not4 lpp.1 li lpp.1 lpp.2) (not4 tp ti tp tP) (not4 Lp_ Li Lp_ LP) f6
  have OC : Ok H [p, P] C := F2.ok hC
  have sh : SeqAt.shaped (.list [.bool true, .int s1.g]) = true := by kernel_rfl
  walk_at "rd"
  refine ha_ixL w1 w3 ?_
  walk_at "rd"
  refine ha_ixT w4 (v := .int s1.g) rfl ?_
  walk_at "rd"
  refine ⟨by show 2 ≤ sizeLine; decide, fun r2 hr2 => ?_⟩
  have e7 := Ext.new (o := .lst [.bl true, .int s1.g]) hr2
  walk_at "rd"
  refine e_neD (d := .list [.bool true, .int s1.g]) (e := .list [.bool true, .int s1.g]) ?_ (.lst (SqL.of (e7 _ _ hr6)) (.cons (.bl true) (.cons (.int _) .nil))) (.lst (SqL.of upd_same) (.cons (.bl true) (.cons (.int _) .nil))) sh sh
  rw [SeqAt.eqv_refl _ (SeqAt.canLay_of_shaped sh)]
  walk_at "rd"
  refine ⟨o, p, lp, C, n, f, s, ps, ps, rfl, ld6.ext e7, own6.fr (S := []) (K := K) (by simp) (Fr.of e7), fun H8 e8 => ?_⟩
  walk_at "re"
  with_reducible refine s_next ?_
  have e68 := e7.tr e8
  refine trial_2 X (d6.ext e68) (k6.ext e68) f1 (ne_of_none k2.wl.pt hC) (ne_of_none k2.dl hC) hz fun H9 C9 f9 o9 d9 => ?_
  exact q H9 C9 ((F6.ext e68).step2 f9 Op OC) (o9.back2 (F6.ext e68) Op OC) d9
end FWL
namespace FWL
open PySem PySem.Spec PyProof.Rows L2 FW
/-! ### comprehensions over ints: [f(c) for c in s if p(c)] -/
section
variable {K : PySem.W.Frag} {σ : L2.St} {H : Hp} {Q : VK} {a : Addr} {ns : List Int} {n : Nat} {tt : TT} {te : TE} {p : Int → Bool} {f : Int → Int}
theorem ints_at {i : Nat} {x : V} (h : (ns.map V.int)[i]? = some x) : ∃ c, x = .int c ∧ ns[i]? = some c := by
  rw [List.getElem?_map] at h
  cases e : ns[i]? with
  | none => rw [e] at h; cases h
  | some c => rw [e] at h; cases h; exact ⟨c, rfl, rfl⟩
theorem lc_step {D : Addr} {i : Nat} {c : Int} (hD : H D = none) (hl : ns.length ≤ 100000) (hc : ns[i]? = some c) (hw : ∀ v : V, wipe ((wipe σ [n]).set n (some v)) [n] = wipe σ [n])
    (ht : ∀ c ∈ ns, ∀ (H' : Hp) (R : Bool → Hp → Prop), Ext H H' → R (p c) H' → tt ((wipe σ [n]).set n (some (.int c))) H' R)
    (he : ∀ c ∈ ns, p c = true → ∀ (H' : Hp) (R : VK), Ext H H' → R (.int (f c)) H' → te ((wipe σ [n]).set n (some (.int c))) H' R) :
    gName n (.int c) (wipe σ [n]) (upd H D (.lst ((((ns.take i).filter p).map f).map V.int))) fun σ2 H2 => wipe σ2 [n] = wipe σ [n] ∧ tt σ2 H2 fun b H3 =>
      if b = true then te σ2 H3 fun y H4 => ∃ acc, H4 D = some (.lst acc) ∧ acc.length < sizeLine ∧ (i + 1 ≤ ns.length ∧ upd H4 D (.lst (acc ++ [y])) = upd H D (.lst ((((ns.take (i + 1)).filter p).map f).map V.int))) else (i + 1 ≤ ns.length ∧ H3 = upd H D (.lst ((((ns.take (i + 1)).filter p).map f).map V.int))) := by
  have hi := (List.getElem?_eq_some_iff.mp hc).1
  have hm : c ∈ ns := List.mem_of_getElem? hc
  have eX : Ext H (upd H D (.lst ((((ns.take i).filter p).map f).map V.int))) := Ext.new hD
  have et : ns.take (i + 1) = ns.take i ++ [c] := by rw [List.take_add_one, hc]; rfl
  refine g_name ⟨hw _, ht c hm _ _ eX ?_⟩
  cases hp : p c with
  | true =>
    rw [if_pos rfl]
    refine he c hm hp _ _ eX ⟨_, upd_same, ?_, hi, ?_⟩
    · rw [List.length_map, List.length_map]
      have := List.length_filter_le p (ns.take i)
      rw [List.length_take] at this
      show _ < 2 ^ 24
      omega
    · rw [et, List.filter_append, List.filter_cons_of_pos hp, List.filter_nil, List.map_append, List.map_append, upd_upd]; rfl
  | false =>
    rw [if_neg (by decide)]
    refine ⟨hi, ?_⟩
    rw [et, List.filter_append, List.filter_cons_of_neg (by rw [hp]; decide), List.filter_nil, List.append_nil]
theorem lcT_gen (h : SqT K H a (ns.map V.int)) (hl : ns.length ≤ 100000) (hw : ∀ v : V, wipe ((wipe σ [n]).set n (some v)) [n] = wipe σ [n])
    (ht : ∀ c ∈ ns, ∀ (H' : Hp) (R : Bool → Hp → Prop), Ext H H' → R (p c) H' → tt ((wipe σ [n]).set n (some (.int c))) H' R)
    (he : ∀ c ∈ ns, p c = true → ∀ (H' : Hp) (R : VK), Ext H H' → R (.int (f c)) H' → te ((wipe σ [n]).set n (some (.int c))) H' R)
    (q : ∀ D, H D = none → Q (.ref D) (upd H D (.lst (((ns.filter p).map f).map V.int)))) : LcK (gName n) tt te [n] σ Q (Itt K a) H := by
  intro D hD
  refine lc_tup (K := K) (a := a) (xs := ns.map V.int) (fun i H' => i ≤ ns.length ∧ H' = upd H D (.lst ((((ns.take i).filter p).map f).map V.int))) ⟨Nat.zero_le _, rfl⟩ (fun i H' _ h' => by rw [h'.2]; exact Ext.sqT (Ext.new hD) h) ?_ ?_
  · rintro i x H' hx ⟨_, rfl⟩
    obtain ⟨c, rfl, hc⟩ := ints_at hx
    exact lc_step hD hl hc hw ht he
  · rintro H' ⟨_, rfl⟩
    rw [List.length_map, List.take_of_length_le (Nat.le_refl _)]
    exact q D hD
theorem lcL_gen (h : SqL K H a (ns.map V.int)) (hl : ns.length ≤ 100000) (hw : ∀ v : V, wipe ((wipe σ [n]).set n (some v)) [n] = wipe σ [n])
    (ht : ∀ c ∈ ns, ∀ (H' : Hp) (R : Bool → Hp → Prop), Ext H H' → R (p c) H' → tt ((wipe σ [n]).set n (some (.int c))) H' R)
    (he : ∀ c ∈ ns, p c = true → ∀ (H' : Hp) (R : VK), Ext H H' → R (.int (f c)) H' → te ((wipe σ [n]).set n (some (.int c))) H' R)
    (q : ∀ D, H D = none → Q (.ref D) (upd H D (.lst (((ns.filter p).map f).map V.int)))) : LcK (gName n) tt te [n] σ Q (Itl K a) H := by
  intro D hD
  refine lc_list (K := K) (a := a) (xs := ns.map V.int) (fun i H' => i ≤ ns.length ∧ H' = upd H D (.lst ((((ns.take i).filter p).map f).map V.int))) ⟨Nat.zero_le _, rfl⟩ (fun i H' _ h' => by rw [h'.2]; exact Ext.sqL (Ext.new hD) h) ?_ ?_
  · rintro i x H' hx ⟨_, rfl⟩
    obtain ⟨c, rfl, hc⟩ := ints_at hx
    exact lc_step hD hl hc hw ht he
  · rintro H' ⟨_, rfl⟩
    rw [List.length_map, List.take_of_length_le (Nat.le_refl _)]
    exact q D hD
end
theorem filter_all (ns : List Int) : ns.filter (fun _ => true) = ns := by rw [List.filter_eq_self]; intro _ _; rfl
theorem yes_all {σ : L2.St} {H' : Hp} {R : Bool → Hp → Prop} (h : R true H') : tYes σ H' R := h
/-- the greatest, the least of a list of ints -/
theorem e_maxL {K : PySem.W.Frag} {H : Hp} {Q : VK} {a : Addr} {ns : List Int} (h : SqL K H a (ns.map V.int)) (hn : ns ≠ []) (k : ∀ m, m ∈ ns → (∀ c ∈ ns, c ≤ m) → Q (.int m) H) : rMax K [.ref a] H Q :=
  ⟨a, ns, rfl, h, List.length_pos_iff.mpr hn, k⟩
theorem e_minL {K : PySem.W.Frag} {H : Hp} {Q : VK} {a : Addr} {ns : List Int} (h : SqL K H a (ns.map V.int)) (hn : ns ≠ []) (k : ∀ m, m ∈ ns → (∀ c ∈ ns, m ≤ c) → Q (.int m) H) : rMin K [.ref a] H Q :=
  ⟨a, ns, rfl, h, List.length_pos_iff.mpr hn, k⟩
end FWL
namespace FWL
open PySem PySem.Spec PyProof.Rows L2 FW
/-! ### k52: twins -/
def sp_l_twin_right (K : PySem.W.Frag) : Sp := fun vs H Q _ => ∃ (o p lp P t L : Addr) (n f : Int) (l : Lp) (s : Ls) (ps : List Ls) (ds : List Int), vs = [.ref o, .ref p, .ref t, .int n, .ref L] ∧ Duo K H o p lp P n f s ps ∧ Tk K H lp t L l n ds ∧ 1 ≤ f ∧
  ps.length ≤ 90000 ∧ ∀ H', Fr K [] H H' → Q (.bl true) H'
def rd_l_twin_right_L1 (K : PySem.W.Frag) : TS := tIfS (tOr (tNot (tB (tCall (sp_l_undone K) [] E0 (tCons (tVar 7) (tCons (tVar 8) (tNil)))))) (tNot (tB (tCall (sp_l_showsO K) [] E0 (tCons (tVar 7) (tCons (tVar 8) (tNil))))))) (tRet (tC (.bl false))) (tNext)
def rd_l_twin_right (K : PySem.W.Frag) : TS := tSeq (tPar 5 6 (tCons (tMeth (He.ga K "Led") "twin" (sp_Led_twin K) [] E0 (tVar 1) tNil) (tCons (tCB (Evl.rListS K) (tCons (tVar 0) (tNil))) (tNil)))) (tSeq (tIfS (tOr (tNot (tB (tCB (rIsi K) (tCons (tVar 5) (tCons (tC (.ref (He.ga K "Led"))) (tNil)))))) (tNot (tB (tCall (sp_l_busy K) [] E0 (tCons (tVar 6) (tCons (tVar 5) (tCons (tVar 2) (tCons (tVar 3) (tCons (tVar 4) (tNil)))))))))) (tRet (tC (.bl false))) (tNext)) (tSeq (tPar 7 8 (tCons (tCB (Evl.rListS K) (tCons (tVar 6) (tNil))) (tCons (tMeth (He.ga K "Led") "twin" (sp_Led_twin K) [] E0 (tVar 5) tNil) (tNil)))) (tSeq (tFor (iRng1 (tCons (tCB (Evl.rLenS K) (tCons (tVar 7) (tNil))) (tNil))) (gName 9) (rd_l_twin_right_L1 K)) (tSeq (tIfS (tOr (tTest (tOp FW.rIsNB (tMeth (He.ga K "Led") "undo" (sp_Led_undo K) [] E0 (tVar 8) tNil) (tC (.bl false)))) (tNot (tB (tCall (sp_l_busy K) [] E0 (tCons (tVar 7) (tCons (tVar 8) (tCons (tVar 2) (tCons (tVar 3) (tCons (tRevL K (tVar 4)) (tNil)))))))))) (tRet (tC (.bl false))) (tNext)) (tRet (tAndV (tCall (sp_l_showsO K) [] E0 (tCons (tVar 0) (tCons (tVar 1) (tNil)))) (tCall (sp_l_showsO K) [] E0 (tCons (tVar 6) (tCons (tVar 5) (tNil))))))))))
theorem len_nil {α : Type} {xs : List α} (h : xs.length = 0) : xs = [] := List.length_eq_zero_iff.mp h
theorem pure_l_twin_right (K : PySem.W.Frag) (X : Hot52 K) (vs : List V) (H : Hp) (Q : VK) (E : XK) (h : sp_l_twin_right K vs H Q E) : rd_l_twin_right K { nx := fun _ H' => Q .non H', rt := Q } (start ["_law_own", "_law_led", "_law_parts", "_law_n", "_law_draws", "_law_other", "_law_apart_here", "_law_kept", "_law_third", "_law_k"] vs) H := by
  obtain ⟨o, p, lp, P, t, L, n, f, l, s, ps, ds, rfl, d, k, f1, hz, q⟩ := h
  have A := X.ld
  obtain ⟨vo, ho, _⟩ := id d.own
  obtain ⟨-, ⟨dx0, hp0⟩, ⟨vP0, hP0⟩⟩ := id d.at
  obtain ⟨dl, hlp⟩ := id k.wl.lp
  have d4 := k.d4
  unfold rd_l_twin_right
  walk_at "rd"
  refine ⟨p, dx0, _, rfl, hp0, rfl, ?_⟩
  walk_at "rd"
  refine ⟨p, lp, P, n, f, s, ps, rfl, d.ld, k.wl.n0, f1, fun r R H1 hr hR e1 ldr => ?_⟩
  have dr1 := d.twin e1 ldr hR
  walk_at "rd"
  refine e_listS (fun a ha => ?_) (.inl (SqL.of (e1 _ _ ho)))
  have e2 := Ext.new (o := .lst vo) ha
  have da2 := dr1.copy (e1 _ _ ho) ha
  have ha2 : (upd H1 a (.lst vo)) a = some (.lst vo) := upd_same
  generalize upd H1 a (.lst vo) = H2 at *
  have e12 := e1.tr e2
  have k2 := k.ext e12
  have d2 := d.ext e12
  have F2 : Fr K [] H H2 := Fr.of e12
  have Or : Ok H [] r := (Fr.refl (K := K)).ok hr
  have OR : Ok H [] R := (Fr.refl (K := K)).ok hR
  have Oa : Ok H [] a := (Fr.of (K := K) e1).ok ha
  have ta : t ≠ a := ne_of_none (e1 _ _ k.wl.pt) ha
  have La : L ≠ a := ne_of_none (e1 _ _ k.dl) ha
  have la : lp ≠ a := ne_of_none (e1 _ _ hlp) ha
  have oa : o ≠ a := ne_of_none (e1 _ _ ho) ha
  have pa : p ≠ a := ne_of_none (e1 _ _ hp0) ha
  have Pa : P ≠ a := ne_of_none (e1 _ _ hP0) ha
  have tr_ : t ≠ r := ne_of_none k.wl.pt hr
  have Lr : L ≠ r := ne_of_none k.dl hr
  have lr : lp ≠ r := ne_of_none hlp hr
  have or : o ≠ r := ne_of_none ho hr
  have pr : p ≠ r := ne_of_none hp0 hr
  have Pr : P ≠ r := ne_of_none hP0 hr
  have tR : t ≠ R := ne_of_none k.wl.pt hR
  have LR : L ≠ R := ne_of_none k.dl hR
  have lR : lp ≠ R := ne_of_none hlp hR
  have oR : o ≠ R := ne_of_none ho hR
  have pR : p ≠ R := ne_of_none hp0 hR
  have PR : P ≠ R := ne_of_none hP0 hR
  obtain ⟨-, ⟨dr2, hr2⟩, -⟩ := id da2.at
  walk_at "rd"
  refine e_isiO ?_ hr2 A.cls X.ins
  walk_at "rd"
  refine ⟨a, r, lp, R, t, L, n, f, l, s, ps, ds, rfl, da2, k2.wl, k2.dl, k.db, ta, tR, La, LR, by omega, k2.tb, fun H3 s1 ps1 f3 T3 d3 z3 => ?_⟩
  have F3 := F2.step3 f3 Oa Or OR
  have k3 := k2.fr (not3 la lr lR) (not3 ta tr_ tR) (not3 La Lr LR) f3
  have dO3 := d2.fr (not3 oa or oR) (not3 pa pr pR) (not3 Pa Pr PR) f3
  obtain ⟨⟨va3, ha3⟩, ⟨dr3, hr3⟩, ⟨vR3, hR3⟩⟩ := id d3.at
  walk_at "rd"
  refine e_listS (fun b hb => ?_) (.inl (SqL.of ha3))
  have e4 := Ext.new (o := .lst va3) hb
  have db4 := d3.copy ha3 hb
  have hb4 : (upd H3 b (.lst va3)) b = some (.lst va3) := upd_same
  generalize upd H3 b (.lst va3) = H4 at *
  walk_at "rd"
  refine ⟨r, dr3, _, rfl, e4 _ _ hr3, rfl, ?_⟩
  walk_at "rd"
  refine ⟨r, lp, R, n, f, s1, ps1, rfl, db4.ld, k.wl.n0, f1, fun c C H5 hc hC e5 ldc => ?_⟩
  have dc5 := db4.twin e5 ldc hC
  have e45 := e4.tr e5
  have k5 := k3.ext e45
  have dO5 := dO3.ext e45
  have dA5 := d3.ext e45
  have F5 := F3.ext e45
  have Ob : Ok H [] b := F3.ok hb
  have Oc : Ok H [] c := (F3.ext e4).ok hc
  have OC : Ok H [] C := (F3.ext e4).ok hC
  obtain ⟨vb5, hb5, pb5⟩ := id dc5.own
  have l5 := pb5.len
  rw [List.length_append] at l5
  dsimp only
  walk_at "rd"
  refine ha_len hb5 ?_
  walk_at "rd"
  · have lb : vb5.length = ps1.length + 1 := l5
    rw [lb, Int.toNat_natCast]
    obtain ⟨⟨vo3, ho3⟩, ⟨dx3, hp3⟩, ⟨vP3, hP3⟩⟩ := id dO3.at
    obtain ⟨dl3, hlp3⟩ := id k3.wl.lp
    have ob : o ≠ b := ne_of_none ho3 hb
    have pb : p ≠ b := ne_of_none hp3 hb
    have Pb : P ≠ b := ne_of_none hP3 hb
    have ab : a ≠ b := ne_of_none ha3 hb
    have rb : r ≠ b := ne_of_none hr3 hb
    have Rb : R ≠ b := ne_of_none hR3 hb
    have tb : t ≠ b := ne_of_none k3.wl.pt hb
    have Lb : L ≠ b := ne_of_none k3.dl hb
    have lb' : lp ≠ b := ne_of_none hlp3 hb
    have oc : o ≠ c := ne_of_none (e4 _ _ ho3) hc
    have pc : p ≠ c := ne_of_none (e4 _ _ hp3) hc
    have Pc : P ≠ c := ne_of_none (e4 _ _ hP3) hc
    have ac : a ≠ c := ne_of_none (e4 _ _ ha3) hc
    have rc : r ≠ c := ne_of_none (e4 _ _ hr3) hc
    have Rc : R ≠ c := ne_of_none (e4 _ _ hR3) hc
    have tc : t ≠ c := ne_of_none (e4 _ _ k3.wl.pt) hc
    have Lc : L ≠ c := ne_of_none (e4 _ _ k3.dl) hc
    have lc : lp ≠ c := ne_of_none (e4 _ _ hlp3) hc
    have oC : o ≠ C := ne_of_none (e4 _ _ ho3) hC
    have pC : p ≠ C := ne_of_none (e4 _ _ hp3) hC
    have PC : P ≠ C := ne_of_none (e4 _ _ hP3) hC
    have aC : a ≠ C := ne_of_none (e4 _ _ ha3) hC
    have rC : r ≠ C := ne_of_none (e4 _ _ hr3) hC
    have RC : R ≠ C := ne_of_none (e4 _ _ hR3) hC
    have tC' : t ≠ C := ne_of_none (e4 _ _ k3.wl.pt) hC
    have LC : L ≠ C := ne_of_none (e4 _ _ k3.dl) hC
    have lC : lp ≠ C := ne_of_none (e4 _ _ hlp3) hC
    refine for_range (lo := 0) (n := ps1.length + 1) (fun i σ H' => ∃ s' qs w9, Fr K [b, c, C] H5 H' ∧ Duo K H' b c lp C n f s' qs ∧ qs.length = ps1.length - i ∧ σ = [some (.ref o), some (.ref p), some (.ref t), some (.int n), some (.ref L), some (.ref r), some (.ref a), some (.ref b), some (.ref c), w9]) ⟨s1, ps1, _, Fr.refl, dc5, by omega, rfl⟩ ?_ ?_
    · rintro i σ H6 hi ⟨s2, qs, w9, f6, d6, z6, rfl⟩
      refine g_name ?_
      unfold rd_l_twin_right_L1
      walk_at "rd"
      refine ⟨b, c, lp, C, n, f, s2, qs, rfl, d6, by omega, fun z => ?_, fun H7 qs2 s3 z f7 d7 => ?_⟩
      · walk_at "rd"
        refine ⟨b, c, lp, C, n, f, s2, qs, qs, rfl, d6.ld, d6.own, fun H8 e8 => ?_⟩
        walk_at "rd"
        exact ⟨s2, qs, _, f6.ext e8, d6.ext e8, by rw [z] at z6 ⊢; show 0 = _; have : 0 = ps1.length - i := z6; omega, rfl⟩
      · walk_at "rd"
        refine ⟨b, c, lp, C, n, f, s3, qs2, qs2, rfl, d7.ld, d7.own, fun H8 e8 => ?_⟩
        walk_at "rd"
        refine ⟨s3, qs2, _, (f6.tr f7).ext e8, d7.ext e8, ?_, rfl⟩
        rw [z, List.length_append] at z6
        have : qs2.length + 1 = ps1.length - i := z6
        omega
    · rintro σ H6 ⟨s2, qs, w9, f6, d6, z6, rfl⟩
      have hq0 : qs = [] := len_nil (by omega)
      subst hq0
      obtain ⟨⟨vb6, hb6⟩, ⟨dc6, hc6⟩, ⟨vC6, hC6⟩⟩ := id d6.at
      have k6 := k5.fr (not3 lb' lc lC) (not3 tb tc tC') (not3 Lb Lc LC) f6
      have F6 := F5.step3 f6 Ob Oc OC
      have dO6 := dO5.fr (not3 ob oc oC) (not3 pb pc pC) (not3 Pb Pc PC) f6
      have dA6 := dA5.fr (not3 ab ac aC) (not3 rb rc rC) (not3 Rb Rc RC) f6
      walk_at "rd"
      refine ⟨c, dc6, _, rfl, hc6, rfl, ?_⟩
      walk_at "rd"
      refine ⟨c, lp, C, n, f, s2, [], rfl, d6.ld, fun _ => ?_, fun qs s' z => by cases qs <;> cases z⟩
      dsimp only
      walk_at "re"
      refine ⟨_, _, rfl, rfl, _, rfl, ?_⟩
      rw [decide_eq_true (rfl : false = false)]
      with_reducible refine e_nT ?_
      walk_at "rd"
      unfold tRevL
      walk_at "rd"
      refine ⟨L, _, rfl, SqL.of k6.dl, fun L2 hL2 => ?_⟩
      rw [← List.map_reverse]
      have e7 := Ext.new (o := .lst (ds.reverse.map V.int)) hL2
      have hL7 : (upd H6 L2 (.lst (ds.reverse.map V.int))) L2 = some (.lst (ds.reverse.map V.int)) := upd_same
      have k7 := k6.ext e7
      walk_at "rd"
      refine ⟨b, c, lp, C, t, L2, n, f, l, s2, [], ds.reverse, rfl, d6.ext e7, k7.wl, hL7, fun x hx => k.db x (List.mem_reverse.mp hx), tb, tC', (ne_of_none hb6 hL2).symm, (ne_of_none hC6 hL2).symm, by rw [List.length_reverse]; show 0 + _ ≤ _; omega, k7.tb, fun H8 s4 ps4 f8 T8 d8 z8 => ?_⟩
      have F8 := (F6.ext e7).step3 f8 Ob Oc OC
      have dO8 := (dO6.ext e7).fr (not3 ob oc oC) (not3 pb pc pC) (not3 Pb Pc PC) f8
      have dA8 := (dA6.ext e7).fr (not3 ab ac aC) (not3 rb rc rC) (not3 Rb Rc RC) f8
      walk_at "rd"
      refine ⟨o, p, lp, P, n, f, s, ps, ps, rfl, dO8.ld, dO8.own, fun H9 e9 => ?_⟩
      have dA9 := dA8.ext e9
      walk_at "rd"
      refine ⟨a, r, lp, R, n, f, s1, ps1, ps1, rfl, dA9.ld, dA9.own, fun H10 e10 => ?_⟩
      exact q _ (F8.ext (e9.tr e10))
  · have lb : vb5.length = ps1.length + 1 := l5
    omega
theorem cut_len (xs : List Int) {a b : Nat} (h : b ≤ xs.length) (hab : a ≤ b) : ∃ es : List Int, cutV (xs.map V.int) (some (a : Int)) (some (b : Int)) = es.map V.int ∧ (∀ x ∈ es, x ∈ xs) ∧ es.length = b - a := by
  unfold cutV
  rw [← List.map_drop, ← List.map_take]
  refine ⟨_, rfl, fun x hx => List.mem_of_mem_drop (List.mem_of_mem_take hx), ?_⟩
  rw [List.length_take, List.length_drop, List.length_map, HT.sIx_nat, HT.sIx_nat]
  omega
/-! ### k52: the law -/
def rd_law_L1 (K : PySem.W.Frag) : TS := tSeq (tAsg (tLc (iList K (tSl (rSlL K) (tVar 2) (tPart (tOp FW.rAdd (tC (.int 22)) (tOp FW.rMul (tC (.int 3)) (tVar 8)))) (tPart (tOp FW.rAdd (tC (.int 26)) (tOp FW.rMul (tC (.int 3)) (tVar 8)))))) (gName 10) (tYes) (tCB FW.rInt1 (tCons (tVar 10) (tNil))) [10]) (gName 9)) (tSeq (tIfS (tAnd (tTest (tOp rEq (tOp FW.rMod (tOp (rIxL K) (tVar 9) (tC (.int 3))) (tC (.int 7))) (tC (.int 0)))) (tNot (tB (tCall (sp_l_trial_right K) [] E0 (tCons (tVar 7) (tCons (tVar 6) (tCons (tVar 3) (tCons (tVar 4) (tCons (tVar 9) (tNil)))))))))) (tRet (tC (.bl false))) (tNext)) (tSeq (tIfS (tAnd (tTest (tOp rEq (tOp FW.rMod (tOp (rIxL K) (tVar 9) (tC (.int 3))) (tC (.int 7))) (tC (.int 1)))) (tNot (tB (tCall (sp_l_twin_right K) [] E0 (tCons (tVar 7) (tCons (tVar 6) (tCons (tVar 3) (tCons (tVar 4) (tCons (tVar 9) (tNil)))))))))) (tRet (tC (.bl false))) (tNext)) (tIfS (tNot (tB (tCall (sp_l_busy K) [] E0 (tCons (tVar 7) (tCons (tVar 6) (tCons (tVar 3) (tCons (tVar 4) (tCons (tSl (rSlL K) (tVar 9) (tNoPart) (tPart (tC (.int 1)))) (tNil))))))))) (tRet (tC (.bl false))) (tNext))))
def rd_law_L2 (K : PySem.W.Frag) : TS := tIfS (tOr (tNot (tB (tCall (sp_l_undone K) [] E0 (tCons (tVar 7) (tCons (tVar 6) (tNil)))))) (tNot (tB (tCall (sp_l_showsO K) [] E0 (tCons (tVar 7) (tCons (tVar 6) (tNil))))))) (tRet (tC (.bl false))) (tNext)
def rd_law_L3 (K : PySem.W.Frag) : TS := tSeq (tAsg (tCall (sp_l_row K) [] E0 (tCons (tCall (sp_l_apart K) [] E0 (tCons (tCall (sp_l_cell_at K) [] E0 (tCons (tVar 0) (tCons (tVar 1) (tNil)))) (tCons (tVar 1) (tNil)))) (tCons (tC (.int 100)) (tNil)))) (gName 2)) (tSeq (tAsg (tCall (sp_l_loop_parts K) [] E0 (tCons (tVar 2) (tCons (tC (.int 0)) (tNil)))) (gName 3)) (tSeq (tAsg (tCall (sp_l_great K) [] E0 (tCons (tVar 2) (tCons (tC (.int 7)) (tCons (tOp (rIxL K) (tLst (tCons (tC (.int 1)) (tCons (tC (.int 1)) (tCons (tC (.int 2)) (tCons (tC (.int 13)) (tNil)))))) (tOp FW.rMod (tCB FW.rInt1 (tCons (tOp (rIxL K) (tVar 2) (tC (.int 6))) (tNil))) (tC (.int 4)))) (tNil))))) (gName 4)) (tSeq (tAsg (tOp FW.rAdd (tC (.int 1)) (tOp FW.rMod (tCB FW.rInt1 (tCons (tOp (rIxL K) (tVar 2) (tC (.int 20))) (tNil))) (tOp (rIxL K) (tLst (tCons (tC (.int 3)) (tCons (tC (.int 40)) (tCons (tC (.int 999)) (tNil))))) (tOp FW.rMod (tCB FW.rInt1 (tCons (tOp (rIxL K) (tVar 2) (tC (.int 21))) (tNil))) (tC (.int 3)))))) (gName 5)) (tSeq (tPar 6 7 (tCons (tMake (He.ga K "Led") (sp_Led_initX K) [] E0 (tCons (tCall (sp_l_loop2 K) [] E0 (tCons (tVar 3) (tNil))) (tCons (tVar 4) (tCons (tVar 5) (tNil))))) (tCons (tLst (tCons (tTup (tCons (tVar 5) (tCons (tC .non) (tCons (tC .non) (tNil))))) (tNil))) (tNil)))) (tSeq (tFor (iRng1 (tCons (tC (.int 24)) (tNil))) (gName 8) (rd_law_L1 K)) (tSeq (tFor (iRng1 (tCons (tOp FW.rSub (tCB (Evl.rLenS K) (tCons (tVar 7) (tNil))) (tC (.int 1))) (tNil))) (gName 8) (rd_law_L2 K)) (tIfS (tTest (tOp FW.rIsNB (tMeth (He.ga K "Led") "undo" (sp_Led_undo K) [] E0 (tVar 6) tNil) (tC (.bl false)))) (tRet (tC (.bl false))) (tNext))))))))
def rd_law (K : PySem.W.Frag) : TS := tSeq (tFor (iRng1 (tCons (tC (.int 3)) (tNil))) (gName 1) (rd_law_L3 K)) (tRet (tC (.bl true)))
/-- what the turns keep -/
structure Sta (K : PySem.W.Frag) (H0 H : Hp) (o p lp t W : Addr) (xs : List Int) (n f : Int) (l : Lp) (P : Addr) (s : Ls) (ps : List Ls) : Prop where
  fr : Fr K [] H0 H
  du : Duo K H o p lp P n f s ps
  wl : Wl K H lp t l n
  rw_ : H W = some (.lst (xs.map V.int))
  tb : LamX.Tabs (tabs K) H
  oo : Ok H0 [] o
  op : Ok H0 [] p
  oP : Ok H0 [] P
  n1 : t ≠ o
  n2 : t ≠ P
  n3 : W ≠ o
  n4 : W ≠ P
section
variable {K : PySem.W.Frag} {H0 H H1 : Hp} {o p lp t W P : Addr} {xs : List Int} {n f : Int} {l : Lp} {s s' : Ls} {ps ps' : List Ls}
theorem Sta.ext (h : Sta K H0 H o p lp t W xs n f l P s ps) (e : Ext H H1) : Sta K H0 H1 o p lp t W xs n f l P s ps :=
  ⟨h.fr.ext e, h.du.ext e, h.wl.fr (S := []) (by simp) (by simp) (Fr.of e), e _ _ h.rw_, h.tb.ext e, h.oo, h.op, h.oP, h.n1, h.n2, h.n3, h.n4⟩
theorem Sta.ne (h : Sta K H0 H o p lp t W xs n f l P s ps) : t ≠ p ∧ W ≠ p ∧ lp ≠ p ∧ lp ≠ P ∧ lp ≠ o := by
  obtain ⟨⟨vo, ho⟩, ⟨dx, hp⟩, _⟩ := id h.du.at
  obtain ⟨dl, hl⟩ := id h.wl.lp
  have q := IsLp.ns h.du.ld h.wl.lp
  exact ⟨ne_of h.wl.pt hp (fun z => nomatch z), ne_of h.rw_ hp (fun z => nomatch z), q.1, q.2, ne_of hl ho (fun z => nomatch z)⟩
/-- behind what changes all three -/
theorem Sta.go (h : Sta K H0 H o p lp t W xs n f l P s ps) (e : Fr K [o, p, P] H H1) (d : Duo K H1 o p lp P n f s' ps') : Sta K H0 H1 o p lp t W xs n f l P s' ps' := by
  obtain ⟨a1, a2, a3, a4, a5⟩ := h.ne
  exact ⟨h.fr.step3 e h.oo h.op h.oP, d, h.wl.fr (not3 a5 a3 a4) (not3 h.n1 a1 h.n2) e, e.lst (not3 h.n3 a2 h.n4) h.rw_, e.s h.tb, h.oo, h.op, h.oP, h.n1, h.n2, h.n3, h.n4⟩
/-- behind a trial -/
theorem Sta.tri {C : Addr} (h : Sta K H0 H o p lp t W xs n f l P s ps) (e : Fr K [p, P] H H1) (c : Ok H [p, P] C) (d : Duo K H1 o p lp C n f s ps) : Sta K H0 H1 o p lp t W xs n f l C s ps := by
  obtain ⟨a1, a2, a3, a4, a5⟩ := h.ne
  exact ⟨h.fr.step2 e h.op h.oP, d, h.wl.fr (not2 a3 a4) (not2 a1 h.n2) e, e.lst (not2 a2 h.n4) h.rw_, e.s h.tb, h.oo, h.op, c.back2 h.fr h.op h.oP, h.n1, c.ne h.wl.pt (fun _ z => nomatch z) (not2 a1 h.n2), h.n3, c.ne h.rw_ (fun _ z => nomatch z) (not2 a2 h.n4)⟩
/-- behind what changes nothing -/
theorem Sta.non (h : Sta K H0 H o p lp t W xs n f l P s ps) (e : Fr K [] H H1) : Sta K H0 H1 o p lp t W xs n f l P s ps :=
  ⟨h.fr.tr e, h.du.fr (by simp) (by simp) (by simp) e, h.wl.fr (by simp) (by simp) e, e.lst (by simp) h.rw_, e.s h.tb, h.oo, h.op, h.oP, h.n1, h.n2, h.n3, h.n4⟩
end
section
variable {K : PySem.W.Frag} {H0 H : Hp} {D : Ends} {o p lp t W P A : Addr} {xs ds : List Int} {n f : Int} {l : Lp} {s : Ls} {ps : List Ls} {j : Nat} {v0 v1 v5 v9 v10 : Option V}
theorem law_b3 (h : Sta K H0 H o p lp t W xs n f l P s ps) (hA : H A = some (.lst (ds.map V.int))) (hl : ds.length = 4) (hd : ∀ x ∈ ds, 0 ≤ x ∧ x < 1000) (ao : A ≠ o) (aP : A ≠ P) (hj : j < 24) (hz : ps.length ≤ 4 * j)
    (k : ∀ H' P' s' ps' w9 w10, Sta K H0 H' o p lp t W xs n f l P' s' ps' → ps'.length ≤ 4 * (j + 1) → D.nx [v0, v1, some (.ref W), some (.ref t), some (.int n), v5, some (.ref p), some (.ref o), some (.int j), w9, w10] H') :
    (tIfS (tNot (tB (tCall (sp_l_busy K) [] E0 (tCons (tVar 7) (tCons (tVar 6) (tCons (tVar 3) (tCons (tVar 4) (tCons (tSl (rSlL K) (tVar 9) (tNoPart) (tPart (tC (.int 1)))) (tNil))))))))) (tRet (tC (.bl false))) (tNext)) D [v0, v1, some (.ref W), some (.ref t), some (.int n), v5, some (.ref p), some (.ref o), some (.int j), some (.ref A), v10] H := by
  obtain ⟨⟨vo, ho⟩, -, ⟨vP, hP⟩⟩ := id h.du.at
  with_reducible refine s_if ?_
  walk_at "re"
  refine e_cutD none (some 1) rfl hA (fun R h => e_noP h) (fun R h => e_part (e_c ⟨_, rfl, h⟩)) fun B H1 es hB e1 hB1 em el => ?_
  have h1 := h.ext e1
  walk_at "re"
  refine ⟨o, p, lp, P, t, B, n, f, l, s, ps, es, rfl, h1.du, h1.wl, hB1, fun x hx => hd x (em x hx), h.n1, h.n2, (ne_of_none ho hB).symm, (ne_of_none hP hB).symm, by omega, h1.tb, fun H2 s2 ps2 f2 T2 d2 z2 => ?_⟩
  walk_at "rd"
  exact k H2 P s2 ps2 _ _ (h1.go f2 d2) (by omega)
theorem draw3 {ds : List Int} (hl : ds.length = 4) : ∃ x, x ∈ ds ∧ atI (ds.map V.int) 3 = some (.int x) := by
  match ds, hl with
  | [a, b, c, d], _ => exact ⟨d, by simp, rfl⟩
theorem law_b2 (X : Hot52 K) (h : Sta K H0 H o p lp t W xs n f l P s ps) (hA : H A = some (.lst (ds.map V.int))) (hl : ds.length = 4) (hd : ∀ x ∈ ds, 0 ≤ x ∧ x < 1000) (ao : A ≠ o) (aP : A ≠ P) (f1 : 1 ≤ f) (hj : j < 24) (hz : ps.length ≤ 4 * j)
    (k : ∀ H' P' s' ps' w9 w10, Sta K H0 H' o p lp t W xs n f l P' s' ps' → ps'.length ≤ 4 * (j + 1) → D.nx [v0, v1, some (.ref W), some (.ref t), some (.int n), v5, some (.ref p), some (.ref o), some (.int j), w9, w10] H') :
    (tSeq (tIfS (tAnd (tTest (tOp rEq (tOp FW.rMod (tOp (rIxL K) (tVar 9) (tC (.int 3))) (tC (.int 7))) (tC (.int 1)))) (tNot (tB (tCall (sp_l_twin_right K) [] E0 (tCons (tVar 7) (tCons (tVar 6) (tCons (tVar 3) (tCons (tVar 4) (tCons (tVar 9) (tNil)))))))))) (tRet (tC (.bl false))) (tNext)) (tIfS (tNot (tB (tCall (sp_l_busy K) [] E0 (tCons (tVar 7) (tCons (tVar 6) (tCons (tVar 3) (tCons (tVar 4) (tCons (tSl (rSlL K) (tVar 9) (tNoPart) (tPart (tC (.int 1)))) (tNil))))))))) (tRet (tC (.bl false))) (tNext))) D [v0, v1, some (.ref W), some (.ref t), some (.int n), v5, some (.ref p), some (.ref o), some (.int j), some (.ref A), v10] H := by
  obtain ⟨x, hx, hxa⟩ := draw3 hl
  with_reducible refine s_seq ?_
  with_reducible refine s_if ?_
  walk_at "re"
  refine ha_ixL hA hxa ?_
  walk_at "ry"
  clear mdh
  by_cases c : md = 1
  · rw [decide_eq_true c]
    walk_at "re"
    refine ⟨o, p, lp, P, t, A, n, f, l, s, ps, ds, rfl, h.du, ⟨h.wl, hA, hd, by omega, h.tb⟩, f1, by omega, fun H2 f2 => ?_⟩
    walk_at "re"
    with_reducible refine s_next ?_
    exact law_b3 (h.non f2) (f2.lst (by simp) hA) hl hd ao aP hj hz k
  · rw [decide_eq_false c]
    with_reducible refine e_F ?_
    with_reducible refine e_F ?_
    with_reducible refine s_next ?_
    exact law_b3 h hA hl hd ao aP hj hz k
theorem law_b1 (X : Hot52 K) (h : Sta K H0 H o p lp t W xs n f l P s ps) (hA : H A = some (.lst (ds.map V.int))) (hl : ds.length = 4) (hd : ∀ x ∈ ds, 0 ≤ x ∧ x < 1000) (ao : A ≠ o) (aP : A ≠ P) (f1 : 1 ≤ f) (hj : j < 24) (hz : ps.length ≤ 4 * j)
    (k : ∀ H' P' s' ps' w9 w10, Sta K H0 H' o p lp t W xs n f l P' s' ps' → ps'.length ≤ 4 * (j + 1) → D.nx [v0, v1, some (.ref W), some (.ref t), some (.int n), v5, some (.ref p), some (.ref o), some (.int j), w9, w10] H') :
    (tSeq (tIfS (tAnd (tTest (tOp rEq (tOp FW.rMod (tOp (rIxL K) (tVar 9) (tC (.int 3))) (tC (.int 7))) (tC (.int 0)))) (tNot (tB (tCall (sp_l_trial_right K) [] E0 (tCons (tVar 7) (tCons (tVar 6) (tCons (tVar 3) (tCons (tVar 4) (tCons (tVar 9) (tNil)))))))))) (tRet (tC (.bl false))) (tNext)) (tSeq (tIfS (tAnd (tTest (tOp rEq (tOp FW.rMod (tOp (rIxL K) (tVar 9) (tC (.int 3))) (tC (.int 7))) (tC (.int 1)))) (tNot (tB (tCall (sp_l_twin_right K) [] E0 (tCons (tVar 7) (tCons (tVar 6) (tCons (tVar 3) (tCons (tVar 4) (tCons (tVar 9) (tNil)))))))))) (tRet (tC (.bl false))) (tNext)) (tIfS (tNot (tB (tCall (sp_l_busy K) [] E0 (tCons (tVar 7) (tCons (tVar 6) (tCons (tVar 3) (tCons (tVar 4) (tCons (tSl (rSlL K) (tVar 9) (tNoPart) (tPart (tC (.int 1)))) (tNil))))))))) (tRet (tC (.bl false))) (tNext)))) D [v0, v1, some (.ref W), some (.ref t), some (.int n), v5, some (.ref p), some (.ref o), some (.int j), some (.ref A), v10] H := by
  obtain ⟨x, hx, hxa⟩ := draw3 hl
  obtain ⟨-, ⟨dx, hp⟩, -⟩ := id h.du.at
  have ap : A ≠ p := ne_of hA hp (fun z => nomatch z)
  with_reducible refine s_seq ?_
  with_reducible refine s_if ?_
  walk_at "re"
  refine ha_ixL hA hxa ?_
  walk_at "ry"
  clear mdh
  by_cases c : md = 0
  · rw [decide_eq_true c]
    walk_at "re"
    refine ⟨o, p, lp, P, t, A, n, f, l, s, ps, ds, rfl, h.du, ⟨h.wl, hA, hd, by omega, h.tb⟩, f1, h.n1, ao, h.n2, aP, by omega, fun H2 C f2 oC d2 => ?_⟩
    walk_at "re"
    with_reducible refine s_next ?_
    exact law_b2 X (h.tri f2 oC d2) (f2.lst (not2 ap aP) hA) hl hd ao (oC.ne hA (fun _ z => nomatch z) (not2 ap aP)) f1 hj hz k
  · rw [decide_eq_false c]
    with_reducible refine e_F ?_
    with_reducible refine e_F ?_
    with_reducible refine s_next ?_
    exact law_b2 X h hA hl hd ao aP f1 hj hz k
theorem law_L1 (X : Hot52 K) (h : Sta K H0 H o p lp t W xs n f l P s ps) (hr : Row xs 100) (f1 : 1 ≤ f) (hj : j < 24) (hz : ps.length ≤ 4 * j)
    (k : ∀ H' P' s' ps' w9 w10, Sta K H0 H' o p lp t W xs n f l P' s' ps' → ps'.length ≤ 4 * (j + 1) → D.nx [v0, v1, some (.ref W), some (.ref t), some (.int n), v5, some (.ref p), some (.ref o), some (.int j), w9, w10] H') :
    rd_law_L1 K D [v0, v1, some (.ref W), some (.ref t), some (.int n), v5, some (.ref p), some (.ref o), some (.int j), v9, v10] H := by
  obtain ⟨⟨vo, ho⟩, -, ⟨vP, hP⟩⟩ := id h.du.at
  have e22 : (22 : Int) + 3 * (j : Int) = ((22 + 3 * j : Nat) : Int) := by omega
  have e26 : (26 : Int) + 3 * (j : Int) = ((26 + 3 * j : Nat) : Int) := by omega
  unfold rd_law_L1
  walk_at "rd"
  refine e_sl (e_var (e_part ?_) rfl)
  walk_at "ry"
  refine ⟨_, rfl, e_part ?_⟩
  walk_at "ry"
  refine ⟨_, rfl, ?_⟩
  rw [e22, e26]
  obtain ⟨es, ec, em, el⟩ := cut_len xs (a := 22 + 3 * j) (b := 26 + 3 * j) (by rw [hr.1]; omega) (by omega)
  refine e_slL (fun S hS => ?_) (SqL.of h.rw_)
  rw [ec]
  have e1 := Ext.new (o := .lst (es.map V.int)) hS
  have hS1 : (upd H S (.lst (es.map V.int))) S = some (.lst (es.map V.int)) := upd_same
  generalize upd H S (.lst (es.map V.int)) = H1 at *
  refine ⟨S, rfl, ⟨_, SqL.of hS1⟩, ?_⟩
  refine lcL_gen (p := fun _ => true) (f := fun x => x) (SqL.of hS1) (by omega) (fun _ => rfl) (fun c _ H' R _ h => yes_all h) (fun c hc _ H' R _ h => ?_) (fun A hA => ?_)
  · walk_at "re"
    exact h
  · rw [filter_all, List.map_id']
    have e2 := Ext.new (o := .lst (es.map V.int)) hA
    have h2 := h.ext (e1.tr e2)
    walk_at "re"
    refine law_b1 X h2 (ds := es) upd_same (by omega) (fun x hx => hr.2 x (em x hx)) (ne_of_none (e1 _ _ ho) hA).symm (ne_of_none (e1 _ _ hP) hA).symm f1 hj hz k
  all_goals exact L2.wide_mul (a := 2) (b := 10) (by decide) (by omega) (by decide) (by decide) (by decide)
end
theorem law_L3 {K : PySem.W.Frag} (X : Hot52 K) {H : Hp} {D : Ends} {a : Addr} {ns : List Int} {j : Int} {ws : List (Option V)} (hl : ws.length = 9) (hj0 : 0 ≤ j) (hj1 : j < 10) (hA : SqL K H a (ns.map V.int)) (hT : LamX.Tabs (tabs K) H)
    (k : ∀ H', LamX.ExtN H H' → LamX.Tabs (tabs K) H' → ∀ ws' : List (Option V), ws'.length = 9 → D.nx (some (.ref a) :: some (.int j) :: ws') H') : rd_law_L3 K D (some (.ref a) :: some (.int j) :: ws) H := by
  match ws, hl with
  | [v2, v3, v4, v5, v6, v7, v8, v9, v10], _ =>
  unfold rd_law_L3
  walk_at "rd"
  refine ⟨a, ns, j, rfl, hA, hj0, fun c => ?_⟩
  walk_at "rd"
  refine ⟨c, j, rfl, hj0, by omega, fun c' => ?_⟩
  walk_at "rd"
  refine ⟨c', 100, rfl, by decide, fun L xs H1 hL e1 hL1 hr => ?_⟩
  walk_at "rd"
  refine ⟨L, xs, 100, 0, rfl, hL1, hr, by decide, by decide, fun t l H2 o ht e2 ht2 => ?_⟩
  have hL2 := e2 _ _ hL1
  have e12 := e1.tr e2
  with_reducible refine s_seq ?_
  with_reducible refine s_asg ?_
  refine e_call (e_cons (e_var (e_cons (e_c (e_cons ?_))) rfl))
  refine e_pickC (vs := [.int 1, .int 1, .int 2, .int 13]) (fun R h => by walk_at "rd"; exact h) (by decide) (fun H3 R e3 h => e_rowM rfl (SqL.of (e3 _ _ hL2)) hr (fun R h => e_c h) (by decide) (by decide) (by decide) h) fun v H3 hv e3 => ?_
  obtain ⟨m, rfl, m1, m4⟩ : ∃ m : Int, v = .int m ∧ 1 ≤ m ∧ m ≤ 13 := by
    simp only [List.mem_cons, List.not_mem_nil, or_false] at hv
    rcases hv with rfl | rfl | rfl | rfl <;> exact ⟨_, rfl, by decide, by decide⟩
  have hL3 := e3 _ _ hL2
  have ht3 := e3 _ _ ht2
  have e13 := e12.tr e3
  refine e_nil ⟨L, xs, 100, 7, m, rfl, hL3, hr, by decide, by omega, by omega, by show 7 + m ≤ 100; omega, fun n n0 n1 => ?_⟩
  have nb : n ≤ 2 ^ 150 := by
    have h4 : m.toNat ≤ 13 := by omega
    have : (1000 : Int) ^ m.toNat ≤ 1000 ^ 13 := pow_le_right (by decide) h4
    have : (1000 : Int) ^ 13 < 2 ^ 150 := by decide
    omega
  with_reducible refine s_seq ?_
  with_reducible refine s_asg ?_
  refine e_op (e_c (e_op (e_rowI rfl (SqL.of hL3) hr (fun R h => e_c h) (by decide) (by decide) fun y y0 y1 => ?_)))
  refine e_pickC (vs := [.int 3, .int 40, .int 999]) (fun R h => by walk_at "rd"; exact h) (by decide) (fun H4 R e4 h => e_rowM rfl (SqL.of (e4 _ _ hL3)) hr (fun R h => e_c h) (by decide) (by decide) (by decide) h) fun v H4 hv e4 => ?_
  obtain ⟨m2, rfl, m21, m22⟩ : ∃ m : Int, v = .int m ∧ 1 ≤ m ∧ m ≤ 999 := by
    simp only [List.mem_cons, List.not_mem_nil, or_false] at hv
    rcases hv with rfl | rfl | rfl <;> exact ⟨_, rfl, by decide, by decide⟩
  refine e_I ?_ (show 0 < m2 by omega)
  refine e_I0 ?_
  obtain ⟨x, hx⟩ : ∃ x, x = 1 + y % m2 := ⟨_, rfl⟩
  rw [← hx]
  have x1 : 1 ≤ x := by have := Int.emod_nonneg y (show m2 ≠ 0 by omega); omega
  have x2 : x ≤ 999 := by have := Int.emod_lt_of_pos y (show 0 < m2 by omega); omega
  have e14 := e13.tr e4
  have ht4 := e4 _ _ ht3
  have hL4 := e4 _ _ hL3
  walk_at "rd"
  refine ⟨t, l, rfl, SqL.of ht4, o, fun lp H5 hlp e5 hlp5 => ?_⟩
  walk_at "rd"
  refine make_ld n0 x1 fun p P H6 hp hP e6 hd => ?_
  have e16 := e14.tr (e5.tr e6)
  walk_at "rd"
  refine ⟨by show 3 ≤ sizeLine; decide, fun u hu => ?_⟩
  have e7 := Ext.new (o := .tup (Ls.V ⟨x, none, none⟩)) hu
  have hu7 : (upd H6 u (.tup (Ls.V ⟨x, none, none⟩))) u = some (.tup (Ls.V ⟨x, none, none⟩)) := upd_same
  change Ext H6 (upd H6 u (.tup [V.int x, V.non, V.non])) at e7
  change (upd H6 u (.tup [V.int x, V.non, V.non])) u = _ at hu7
  generalize upd H6 u (.tup [V.int x, V.non, V.non]) = H7 at *
  walk_at "rd"
  refine ⟨by show 1 ≤ sizeLine; decide, fun q hq => ?_⟩
  have e8 := Ext.new (o := .lst [.ref u]) hq
  have hq8 : (upd H7 q (.lst [.ref u])) q = some (.lst [.ref u]) := upd_same
  generalize upd H7 q (.lst [.ref u]) = H8 at *
  have e68 := e7.tr e8
  have h0 : Sta K H H8 q p lp t L xs n x l P ⟨x, none, none⟩ [] := by
    obtain ⟨⟨dx, hp6⟩, vs6, hP6, _⟩ := id hd
    obtain ⟨dl, hl5⟩ := id hlp5
    refine ⟨Fr.of (e16.tr e68), ⟨hd.ext e68, ⟨[.ref u], hq8, ⟨⟨u, rfl, e8 _ _ hu7⟩, True.intro⟩⟩, (ne_of_none (e7 _ _ hP6) hq).symm, fun z hz => ?_⟩, ⟨⟨dl, e68 _ _ (e6 _ _ hl5)⟩, e68 _ _ (e6 _ _ (e5 _ _ ht4)), o, n0, nb⟩, e68 _ _ (e6 _ _ (e5 _ _ hL4)), hT.ext (e16.tr e68),
      (Fr.of (K := K) (e16.tr e7)).ok hq, (Fr.of (K := K) (e14.tr e5)).ok hp, (Fr.of (K := K) (e14.tr e5)).ok hP, ne_of_none (e7 _ _ (e6 _ _ (e5 _ _ ht4))) hq, ne_of_none (e5 _ _ ht4) hP, ne_of_none (e7 _ _ (e6 _ _ (e5 _ _ hL4))) hq, ne_of_none (e5 _ _ hL4) hP⟩
    rw [List.mem_singleton.mp hz]
    exact ⟨by show 0 ≤ x; omega, by show x ≤ 2 ^ 200; have : (999 : Int) ≤ 2 ^ 200 := by decide
                                    omega⟩
  walk_at "rd"
  · refine for_range (lo := 0) (n := 24) (fun i σ H' => ∃ P' s' ps' w8 w9 w10, Sta K H H' q p lp t L xs n x l P' s' ps' ∧ ps'.length ≤ 4 * i ∧ σ = [some (.ref a), some (.int j), some (.ref L), some (.ref t), some (.int n), some (.int x), some (.ref p), some (.ref q), w8, w9, w10]) ⟨P, _, [], _, _, _, h0, Nat.zero_le _, rfl⟩ ?_ ?_
    · rintro i σ H' hi ⟨P', s', ps', w8, w9, w10, h1, hz, rfl⟩
      refine g_name ?_
      rw [show (0 : Int) + (i : Int) = (i : Int) by omega]
      refine law_L1 X h1 hr x1 hi hz fun H2 P2 s2 ps2 w9 w10 h2 z2 => ?_
      exact ⟨P2, s2, ps2, _, _, _, h2, z2, rfl⟩
    · rintro σ H' ⟨P', s', ps', w8, w9, w10, h1, hz, rfl⟩
      obtain ⟨vo, ho, po⟩ := id h1.du.own
      have l1 := po.len
      rw [List.length_append] at l1
      have l2 : vo.length = ps'.length + 1 := l1
      walk_at "rd"
      refine ha_len ho ?_
      walk_at "rd"
      · rw [show ((vo.length : Int) - 1).toNat = ps'.length by omega]
        refine for_range (lo := 0) (n := ps'.length) (fun i σ H' => ∃ s2 qs w8, Sta K H H' q p lp t L xs n x l P' s2 qs ∧ qs.length = ps'.length - i ∧ σ = [some (.ref a), some (.int j), some (.ref L), some (.ref t), some (.int n), some (.int x), some (.ref p), some (.ref q), w8, w9, w10]) ⟨s', ps', _, h1, by omega, rfl⟩ ?_ ?_
        · rintro i σ H2 hi ⟨s2, qs, w8, h2, z2, rfl⟩
          refine g_name ?_
          unfold rd_law_L2
          walk_at "rd"
          refine ⟨q, p, lp, P', n, x, s2, qs, rfl, h2.du, by omega, fun z => ?_, fun H3 qs3 s3 z f3 d3 => ?_⟩
          · walk_at "rd"
            refine ⟨q, p, lp, P', n, x, s2, qs, qs, rfl, h2.du.ld, h2.du.own, fun H4 e4 => ?_⟩
            walk_at "rd"
            exact ⟨s2, qs, _, h2.ext e4, by rw [z] at z2 ⊢; have : 0 = ps'.length - i := z2; show 0 = _; omega, rfl⟩
          · walk_at "rd"
            refine ⟨q, p, lp, P', n, x, s3, qs3, qs3, rfl, d3.ld, d3.own, fun H4 e4 => ?_⟩
            walk_at "rd"
            refine ⟨s3, qs3, _, (h2.go f3 d3).ext e4, ?_, rfl⟩
            rw [z, List.length_append] at z2
            have : qs3.length + 1 = ps'.length - i := z2
            omega
        · rintro σ H2 ⟨s2, qs, w8, h2, z2, rfl⟩
          have hq0 : qs = [] := len_nil (by omega)
          subst hq0
          obtain ⟨-, ⟨dx2, hp2⟩, -⟩ := id h2.du.at
          walk_at "rd"
          refine ⟨p, dx2, _, rfl, hp2, rfl, ?_⟩
          walk_at "rd"
          refine ⟨p, lp, P', n, x, s2, [], rfl, h2.du.ld, fun _ => ?_, fun qs s' z => by cases qs <;> cases z⟩
          dsimp only
          walk_at "re"
          refine ⟨_, _, rfl, rfl, _, rfl, ?_⟩
          rw [decide_eq_true (rfl : false = false)]
          with_reducible refine e_nT ?_
          with_reducible refine s_next ?_
          exact k H2 (fun b u z w => h2.fr.k b u (by simp) z w) h2.tb [some (.ref L), some (.ref t), some (.int n), some (.int x), some (.ref p), some (.ref q), w8, w9, w10] rfl
      · omega
  · decide
def sp_law (K : PySem.W.Frag) : Sp := fun vs H Q _ => ∃ (a : Addr) (ns : List Int), vs = [.ref a] ∧ LamX.Tabs (tabs K) H ∧ SqL K H a (ns.map V.int) ∧ ∀ H', Q (.bl true) H'
theorem pure_law (K : PySem.W.Frag) (X : Hot52 K) (vs : List V) (H : Hp) (Q : VK) (E : XK) (h : sp_law K vs H Q E) : rd_law K { nx := fun _ H' => Q .non H', rt := Q } (start ["_law_script", "_law_j", "_law_row_here", "_law_parts", "_law_n", "_law_start", "_law_led", "_law_own", "_law_k", "_law_draws", "_law_draw"] vs) H := by
  obtain ⟨a, ns, rfl, hT, hA, q⟩ := h
  unfold rd_law
  walk_at "rd"
  · refine for_range (lo := 0) (n := 3) (fun i σ H' => LamX.ExtN H H' ∧ LamX.Tabs (tabs K) H' ∧ ∃ (u : Option V) (ws : List (Option V)), ws.length = 9 ∧ σ = some (.ref a) :: u :: ws) ⟨LamX.ExtN.refl H, hT, none, _, rfl, rfl⟩ ?_ ?_
    · rintro i σ H' hi ⟨e, tb, u, ws, hl, rfl⟩
      walk_at "re"
      refine law_L3 X (j := 0 + (i : Int)) hl (by omega) (by omega) (extN_sqL e hA) tb ?_
      intro H'' e'' t'' ws' hl'
      exact ⟨e.trans e'', t'', _, _, hl', rfl⟩
    · rintro σ H' ⟨e, tb, u, ws, hl, rfl⟩
      walk_at "rd"
      exact q _
  · decide
end FWL
namespace FWN
open PySem PySem.Spec PyProof.Rows L2 FW
/-! ### a method without arguments that may raise, where it does not; a method that makes lambdas and raises nothing -/
theorem pe_oN0 {X : Cx} {k j : Nat} {C : Addr} {m : Str} {sp : Sp} {dvs : List V} {pos apos : Pos} {o : Expr} {ta : TE} {pl : Sem Bool} (c : Mt X.prog X.w X.K X.mg X.base (CXX X) k C m sp dvs) (hr : Room j X.A) (hk : k ≤ j) (he : PE X o ta)
    (ht : eval (.Call (.Attribute o m apos) [] [] pos) X.env = (do
      let ov ← eval o X.env
      standAt apos.atName
      let (f, first) ← holding [ov] (getMethod ov m pl)
      callWith pos f first (backTo pos (starEach [] X.env)) (backToKw pos (keywordEach [] X.env))) := by rfl) :
    PE X (.Call (.Attribute o m apos) [] [] pos) (tMeth C m sp dvs E0 ta tNil) := by
  obtain ⟨f, fd, ps, ds, hc, hm, F, b, d⟩ := c.ex
  exact pe_meth0 (pl := pl) he hc hm F (hr.mono hk) b d passNo ht
end FWN
namespace FWP
open PySem PySem.Spec PyProof.Rows L2 FW LamX
theorem Mt.mk0C {P : Program} {w : World} {K : PySem.W.Frag} {mg : Str → Option Value} {base : Heap} {m qual : Str} {C : Addr} {params : Arguments} {body : List Stmt} {scope : Scope} {p : He.Defn} {N ps : List Str} {k : Nat} {sp : Sp}
    (c : Cls K C) (me : Meth K C m (He.fAd K p)) (F : ∃ fd, FunD K m qual params body scope [] [] (He.fAd K p) fd) (S : FnScope N ps scope)
    (hb : ∀ (kV doc pm : Value) (an : Option Addr) (cdv ct : Value) (us : List Value), us.length = ps.length → bindArgs (PySem.W.fnOf m qual params body scope .none kV doc pm an cdv ct) ⟨us, []⟩ = pure (ps.zip us))
    (len : ∀ vs H Q E, sp vs H Q E → vs.length = ps.length)
    (hbody : ∀ (A : Around) (outer : List Env) (s : Shared) (H : Hp) (vs : List V) (Q : VK) (E : XK), Room k (A.deeper (envOfC qual scope s.heap.objs.size (He.fAd K p) (.ref (He.codeOf K p)))) → sp vs H Q E →
      ∃ t, PSs (cxOf CX0 P w K mg base N qual scope (He.fAd K p) (.ref (He.codeOf K p)) A outer s H E).nox body t ∧ t { nx := fun _ H' => Q .non H', rt := Q } (start N vs) H) : FW.Mt P w K mg base CX0 (k + 1) C m sp [] := by
  obtain ⟨fd, F⟩ := F
  refine ⟨He.fAd K p, fd, ps, [], c, me, funD_okC F S len fun A outer s H vs Q E hr h => ?_, F.bindsN hb, .nil⟩
  obtain ⟨t, h1, h2⟩ := hbody A outer s H vs Q E hr h
  exact ⟨t, h1.nox, h2⟩
end FWP
namespace FWL
open PySem PySem.Spec PyProof.Rows L2 FW
local macro_rules | `(tactic| walk_at "ln") => `(tactic| (intro vs H Q E h; repeat (obtain ⟨x', h⟩ := h; first | (rw [x']; rfl) | skip)))
structure Tx (K : PySem.W.Frag) (mg : Str → Option Value) (base : Heap) : Prop where
  n_KeyError : mg "KeyError" = none
  n_abs : mg "abs" = none
  n_bool : mg "bool" = none
  n_int : mg "int" = none
  n_isinstance : mg "isinstance" = none
  n_len : mg "len" = none
  n_list : mg "list" = none
  n_max : mg "max" = none
  n_min : mg "min" = none
  n_range : mg "range" = none
  n_str : mg "str" = none
  n_zip : mg "zip" = none
  g_BadBeginning : mg "BadBeginning" = some (.ref (He.ga K "BadBeginning"))
  g_BadBracket : mg "BadBracket" = some (.ref (He.ga K "BadBracket"))
  g_BadGuesses : mg "BadGuesses" = some (.ref (He.ga K "BadGuesses"))
  g_BadKind : mg "BadKind" = some (.ref (He.ga K "BadKind"))
  g_BadLoop : mg "BadLoop" = some (.ref (He.ga K "BadLoop"))
  g_BadNumber : mg "BadNumber" = some (.ref (He.ga K "BadNumber"))
  g_BadPower : mg "BadPower" = some (.ref (He.ga K "BadPower"))
  g_BadSought : mg "BadSought" = some (.ref (He.ga K "BadSought"))
  g_BadStart : mg "BadStart" = some (.ref (He.ga K "BadStart"))
  g_BadText : mg "BadText" = some (.ref (He.ga K "BadText"))
  g_FloorError : mg "FloorError" = some (.ref (He.ga K "FloorError"))
  g_LOOKS : mg "LOOKS" = some (.ref (He.ga K "LOOKS"))
  g_Led : mg "Led" = some (.ref (He.ga K "Led"))
  g_MENDS : mg "MENDS" = some (.ref (He.ga K "MENDS"))
  g_NoGuess : mg "NoGuess" = some (.ref (He.ga K "NoGuess"))
  g_STOPS : mg "STOPS" = some (.ref (He.ga K "STOPS"))
  g_TOLDS : mg "TOLDS" = some (.ref (He.ga K "TOLDS"))
  g__law_class : mg "_law_class" = some (.ref (He.ga K "_law_class"))
  g__law_shows : mg "_law_shows" = some (.ref (He.ga K "_law_shows"))
  g_is_whole : mg "is_whole" = some (.ref (He.ga K "is_whole"))
  g_is_whole_from : mg "is_whole_from" = some (.ref (He.ga K "is_whole_from"))
  g_check_number : mg "check_number" = some (.ref (He.ga K "check_number"))
  g_power : mg "power" = some (.ref (He.ga K "power"))
  g_is_word_of : mg "is_word_of" = some (.ref (He.ga K "is_word_of"))
  g_wrong_part : mg "wrong_part" = some (.ref (He.ga K "wrong_part"))
  g_check_start : mg "check_start" = some (.ref (He.ga K "check_start"))
  g__law_cell_at : mg "_law_cell_at" = some (.ref (He.ga K "_law_cell_at"))
  g__law_mixed : mg "_law_mixed" = some (.ref (He.ga K "_law_mixed"))
  g__law_row : mg "_law_row" = some (.ref (He.ga K "_law_row"))
  g__law_apart : mg "_law_apart" = some (.ref (He.ga K "_law_apart"))
  g__law_power : mg "_law_power" = some (.ref (He.ga K "_law_power"))
  g__law_great : mg "_law_great" = some (.ref (He.ga K "_law_great"))
  g__law_weights : mg "_law_weights" = some (.ref (He.ga K "_law_weights"))
  g__law_loop_parts : mg "_law_loop_parts" = some (.ref (He.ga K "_law_loop_parts"))
  g__law_loop : mg "_law_loop" = some (.ref (He.ga K "_law_loop"))
  g__law_led_to : mg "_law_led_to" = some (.ref (He.ga K "_law_led_to"))
  g__law_looks : mg "_law_looks" = some (.ref (He.ga K "_law_looks"))
  g__law_ends : mg "_law_ends" = some (.ref (He.ga K "_law_ends"))
  g__law_mended : mg "_law_mended" = some (.ref (He.ga K "_law_mended"))
  g__law_chosen : mg "_law_chosen" = some (.ref (He.ga K "_law_chosen"))
  g__law_refused : mg "_law_refused" = some (.ref (He.ga K "_law_refused"))
  g__law_round : mg "_law_round" = some (.ref (He.ga K "_law_round"))
  g__law_tried : mg "_law_tried" = some (.ref (He.ga K "_law_tried"))
  g__law_put : mg "_law_put" = some (.ref (He.ga K "_law_put"))
  g__law_undone : mg "_law_undone" = some (.ref (He.ga K "_law_undone"))
  g__law_busy : mg "_law_busy" = some (.ref (He.ga K "_law_busy"))
  g__law_trial_right : mg "_law_trial_right" = some (.ref (He.ga K "_law_trial_right"))
  g__law_deeper : mg "_law_deeper" = some (.ref (He.ga K "_law_deeper"))
  g__law_twin_right : mg "_law_twin_right" = some (.ref (He.ga K "_law_twin_right"))
  g_law : mg "law" = some (.ref (He.ga K "law"))
  g_Average : mg "Average" = some (.ref (He.ga K "Average"))
  g_Run : mg "Run" = some (.ref (He.ga K "Run"))
  d_is_whole : ∃ fd, FunD K "is_whole" "is_whole" (defArgs st_is_whole) (defBody st_is_whole) (defScope st_is_whole) [] [] (He.ga K "is_whole") fd
  d_is_whole_from : ∃ fd, FunD K "is_whole_from" "is_whole_from" (defArgs st_is_whole_from) (defBody st_is_whole_from) (defScope st_is_whole_from) [] [] (He.ga K "is_whole_from") fd
  d_check_number : ∃ fd, FunD K "check_number" "check_number" (defArgs st_check_number) (defBody st_check_number) (defScope st_check_number) [] [] (He.ga K "check_number") fd
  d_power : ∃ fd, FunD K "power" "power" (defArgs st_power) (defBody st_power) (defScope st_power) [] [] (He.ga K "power") fd
  d_is_word_of : ∃ fd, FunD K "is_word_of" "is_word_of" (defArgs st_is_word_of) (defBody st_is_word_of) (defScope st_is_word_of) [] [] (He.ga K "is_word_of") fd
  d_wrong_part : ∃ fd, FunD K "wrong_part" "wrong_part" (defArgs st_wrong_part) (defBody st_wrong_part) (defScope st_wrong_part) [] [] (He.ga K "wrong_part") fd
  d_Average_init : ∃ fd, FunD K "__init__" "Average.__init__" (defArgs st_Average_init) (defBody st_Average_init) (defScope st_Average_init) [.str "old", .str "none"] [] (He.ma K (He.ga K "Average") "__init__") fd
  d_Average_led : ∃ fd, FunD K "led" "Average.led" (defArgs st_Average_led) (defBody st_Average_led) (defScope st_Average_led) [] [] (He.ma K (He.ga K "Average") "led") fd
  d_Average_looks : ∃ fd, FunD K "looks" "Average.looks" (defArgs st_Average_looks) (defBody st_Average_looks) (defScope st_Average_looks) [] [] (He.ma K (He.ga K "Average") "looks") fd
  d_Average_ends : ∃ fd, FunD K "ends" "Average.ends" (defArgs st_Average_ends) (defBody st_Average_ends) (defScope st_Average_ends) [] [] (He.ma K (He.ga K "Average") "ends") fd
  d_Average_nearness : ∃ fd, FunD K "nearness" "Average.nearness" (defArgs st_Average_nearness) (defBody st_Average_nearness) (defScope st_Average_nearness) [] [] (He.ma K (He.ga K "Average") "nearness") fd
  d_Average_chosen : ∃ fd, FunD K "chosen" "Average.chosen" (defArgs st_Average_chosen) (defBody st_Average_chosen) (defScope st_Average_chosen) [] [] (He.ma K (He.ga K "Average") "chosen") fd
  d_Average_mended : ∃ fd, FunD K "mended" "Average.mended" (defArgs st_Average_mended) (defBody st_Average_mended) (defScope st_Average_mended) [] [] (He.ma K (He.ga K "Average") "mended") fd
  d_check_start : ∃ fd, FunD K "check_start" "check_start" (defArgs st_check_start) (defBody st_check_start) (defScope st_check_start) [] [] (He.ga K "check_start") fd
  d_Led_init : ∃ fd, FunD K "__init__" "Led.__init__" (defArgs st_Led_init) (defBody st_Led_init) (defScope st_Led_init) [] [] (He.ma K (He.ga K "Led") "__init__") fd
  d_Led_noted : ∃ fd, FunD K "noted" "Led.noted" (defArgs st_Led_noted) (defBody st_Led_noted) (defScope st_Led_noted) [] [] (He.ma K (He.ga K "Led") "noted") fd
  d_Led_put_back : ∃ fd, FunD K "put_back" "Led.put_back" (defArgs st_Led_put_back) (defBody st_Led_put_back) (defScope st_Led_put_back) [] [] (He.ma K (He.ga K "Led") "put_back") fd
  d_Led_tell : ∃ fd, FunD K "tell" "Led.tell" (defArgs st_Led_tell) (defBody st_Led_tell) (defScope st_Led_tell) [] [] (He.ma K (He.ga K "Led") "tell") fd
  d_Led_round : ∃ fd, FunD K "round" "Led.round" (defArgs st_Led_round) (defBody st_Led_round) (defScope st_Led_round) [] [] (He.ma K (He.ga K "Led") "round") fd
  d_Led_put : ∃ fd, FunD K "put" "Led.put" (defArgs st_Led_put) (defBody st_Led_put) (defScope st_Led_put) [] [] (He.ma K (He.ga K "Led") "put") fd
  d_Led_undo : ∃ fd, FunD K "undo" "Led.undo" (defArgs st_Led_undo) (defBody st_Led_undo) (defScope st_Led_undo) [] [] (He.ma K (He.ga K "Led") "undo") fd
  d_Led_trial : ∃ fd, FunD K "trial" "Led.trial" (defArgs st_Led_trial) (defBody st_Led_trial) (defScope st_Led_trial) [] [] (He.ma K (He.ga K "Led") "trial") fd
  d_Led_twin : ∃ fd, FunD K "twin" "Led.twin" (defArgs st_Led_twin) (defBody st_Led_twin) (defScope st_Led_twin) [] [] (He.ma K (He.ga K "Led") "twin") fd
  d_l_cell_at : ∃ fd, FunD K "_law_cell_at" "_law_cell_at" (defArgs st_l_cell_at) (defBody st_l_cell_at) (defScope st_l_cell_at) [] [] (He.ga K "_law_cell_at") fd
  d_l_mixed : ∃ fd, FunD K "_law_mixed" "_law_mixed" (defArgs st_l_mixed) (defBody st_l_mixed) (defScope st_l_mixed) [] [] (He.ga K "_law_mixed") fd
  d_l_row : ∃ fd, FunD K "_law_row" "_law_row" (defArgs st_l_row) (defBody st_l_row) (defScope st_l_row) [] [] (He.ga K "_law_row") fd
  d_l_apart : ∃ fd, FunD K "_law_apart" "_law_apart" (defArgs st_l_apart) (defBody st_l_apart) (defScope st_l_apart) [] [] (He.ga K "_law_apart") fd
  d_l_power : ∃ fd, FunD K "_law_power" "_law_power" (defArgs st_l_power) (defBody st_l_power) (defScope st_l_power) [] [] (He.ga K "_law_power") fd
  d_l_great : ∃ fd, FunD K "_law_great" "_law_great" (defArgs st_l_great) (defBody st_l_great) (defScope st_l_great) [] [] (He.ga K "_law_great") fd
  d_l_weights2 : ∃ fd, FunD K "_law_weights" "_law_weights" (defArgs st_l_weights2) (defBody st_l_weights2) (defScope st_l_weights2) [] [] (He.ga K "_law_weights") fd
  d_l_loop_parts : ∃ fd, FunD K "_law_loop_parts" "_law_loop_parts" (defArgs st_l_loop_parts) (defBody st_l_loop_parts) (defScope st_l_loop_parts) [] [] (He.ga K "_law_loop_parts") fd
  d_l_loop2 : ∃ fd, FunD K "_law_loop" "_law_loop" (defArgs st_l_loop2) (defBody st_l_loop2) (defScope st_l_loop2) [] [] (He.ga K "_law_loop") fd
  d_l_led_to : ∃ fd, FunD K "_law_led_to" "_law_led_to" (defArgs st_l_led_to) (defBody st_l_led_to) (defScope st_l_led_to) [] [] (He.ga K "_law_led_to") fd
  d_l_looks2 : ∃ fd, FunD K "_law_looks" "_law_looks" (defArgs st_l_looks2) (defBody st_l_looks2) (defScope st_l_looks2) [] [] (He.ga K "_law_looks") fd
  d_l_ends2 : ∃ fd, FunD K "_law_ends" "_law_ends" (defArgs st_l_ends2) (defBody st_l_ends2) (defScope st_l_ends2) [] [] (He.ga K "_law_ends") fd
  d_l_mended2 : ∃ fd, FunD K "_law_mended" "_law_mended" (defArgs st_l_mended2) (defBody st_l_mended2) (defScope st_l_mended2) [] [] (He.ga K "_law_mended") fd
  d_l_chosen2 : ∃ fd, FunD K "_law_chosen" "_law_chosen" (defArgs st_l_chosen2) (defBody st_l_chosen2) (defScope st_l_chosen2) [] [] (He.ga K "_law_chosen") fd
  d_l_refusedH : ∃ fd, FunD K "_law_refused" "_law_refused" (defArgs st_l_refusedH) (defBody st_l_refusedH) (defScope st_l_refusedH) [] [] (He.ga K "_law_refused") fd
  d_l_class : ∃ fd, FunD K "_law_class" "_law_class" (defArgs st_l_class) (defBody st_l_class) (defScope st_l_class) [] [] (He.ga K "_law_class") fd
  d_l_round : ∃ fd, FunD K "_law_round" "_law_round" (defArgs st_l_round) (defBody st_l_round) (defScope st_l_round) [] [] (He.ga K "_law_round") fd
  d_l_tried : ∃ fd, FunD K "_law_tried" "_law_tried" (defArgs st_l_tried) (defBody st_l_tried) (defScope st_l_tried) [] [] (He.ga K "_law_tried") fd
  d_l_put : ∃ fd, FunD K "_law_put" "_law_put" (defArgs st_l_put) (defBody st_l_put) (defScope st_l_put) [] [] (He.ga K "_law_put") fd
  d_l_undone : ∃ fd, FunD K "_law_undone" "_law_undone" (defArgs st_l_undone) (defBody st_l_undone) (defScope st_l_undone) [] [] (He.ga K "_law_undone") fd
  d_l_showsO : ∃ fd, FunD K "_law_shows" "_law_shows" (defArgs st_l_showsO) (defBody st_l_showsO) (defScope st_l_showsO) [] [] (He.ga K "_law_shows") fd
  d_l_busy : ∃ fd, FunD K "_law_busy" "_law_busy" (defArgs st_l_busy) (defBody st_l_busy) (defScope st_l_busy) [] [] (He.ga K "_law_busy") fd
  d_l_trial_right : ∃ fd, FunD K "_law_trial_right" "_law_trial_right" (defArgs st_l_trial_right) (defBody st_l_trial_right) (defScope st_l_trial_right) [] [] (He.ga K "_law_trial_right") fd
  d_l_deeper : ∃ fd, FunD K "_law_deeper" "_law_deeper" (defArgs st_l_deeper) (defBody st_l_deeper) (defScope st_l_deeper) [] [] (He.ga K "_law_deeper") fd
  d_l_twin_right : ∃ fd, FunD K "_law_twin_right" "_law_twin_right" (defArgs st_l_twin_right) (defBody st_l_twin_right) (defScope st_l_twin_right) [] [] (He.ga K "_law_twin_right") fd
  d_law : ∃ fd, FunD K "law" "law" (defArgs st_law) (defBody st_law) (defScope st_law) [] [] (He.ga K "law") fd
  c_Average : Cls K (He.ga K "Average")
  k_Average : Mk K (He.ga K "Average") (He.ma K (He.ga K "Average") "__init__")
  m_Average_led : Meth K (He.ga K "Average") "led" (He.ma K (He.ga K "Average") "led")
  m_Average_looks : Meth K (He.ga K "Average") "looks" (He.ma K (He.ga K "Average") "looks")
  m_Average_ends : Meth K (He.ga K "Average") "ends" (He.ma K (He.ga K "Average") "ends")
  m_Average_nearness : Meth K (He.ga K "Average") "nearness" (He.ma K (He.ga K "Average") "nearness")
  m_Average_chosen : Meth K (He.ga K "Average") "chosen" (He.ma K (He.ga K "Average") "chosen")
  m_Average_mended : Meth K (He.ga K "Average") "mended" (He.ma K (He.ga K "Average") "mended")
  a_Average_k : NoAttr K (He.ga K "Average") "k"
  a_Average_a : NoAttr K (He.ga K "Average") "a"
  a_Average_c : NoAttr K (He.ga K "Average") "c"
  a_Average_d : NoAttr K (He.ga K "Average") "d"
  a_Average_stop : NoAttr K (He.ga K "Average") "stop"
  a_Average_told : NoAttr K (He.ga K "Average") "told"
  a_Average_mend : NoAttr K (He.ga K "Average") "mend"
  c_Run : Cls K (He.ga K "Run")
  c_Led : Cls K (He.ga K "Led")
  k_Led : Mk K (He.ga K "Led") (He.ma K (He.ga K "Led") "__init__")
  m_Led_noted : Meth K (He.ga K "Led") "noted" (He.ma K (He.ga K "Led") "noted")
  m_Led_put_back : Meth K (He.ga K "Led") "put_back" (He.ma K (He.ga K "Led") "put_back")
  m_Led_tell : Meth K (He.ga K "Led") "tell" (He.ma K (He.ga K "Led") "tell")
  m_Led_round : Meth K (He.ga K "Led") "round" (He.ma K (He.ga K "Led") "round")
  m_Led_put : Meth K (He.ga K "Led") "put" (He.ma K (He.ga K "Led") "put")
  m_Led_undo : Meth K (He.ga K "Led") "undo" (He.ma K (He.ga K "Led") "undo")
  m_Led_trial : Meth K (He.ga K "Led") "trial" (He.ma K (He.ga K "Led") "trial")
  m_Led_twin : Meth K (He.ga K "Led") "twin" (He.ma K (He.ga K "Led") "twin")
  a_Led_loop : NoAttr K (He.ga K "Led") "loop"
  a_Led_n : NoAttr K (He.ga K "Led") "n"
  a_Led_first : NoAttr K (He.ga K "Led") "first"
  a_Led_guess : NoAttr K (He.ga K "Led") "guess"
  a_Led_before : NoAttr K (He.ga K "Led") "before"
  a_Led_told : NoAttr K (He.ga K "Led") "told"
  a_Led_past : NoAttr K (He.ga K "Led") "past"
  e_BadNumber : PySem.ErrX.ErrC PySem.Challenge.pw_floorward_k52_whole_led_put_and_taken_ba K (He.ga K "BadNumber") (He.ma K (He.ga K "BadNumber") "__init__") "value"
  x_BadNumber_BadNumber : PySem.W.exmOne K (.ref (He.ga K "BadNumber")) (.ref (He.ga K "BadNumber")) = some true
  x_BadNumber_BadStart : PySem.W.exmOne K (.ref (He.ga K "BadNumber")) (.ref (He.ga K "BadStart")) = some false
  x_BadNumber_NoGuess : PySem.W.exmOne K (.ref (He.ga K "BadNumber")) (.ref (He.ga K "NoGuess")) = some false
  e_BadStart : PySem.ErrX.ErrC PySem.Challenge.pw_floorward_k52_whole_led_put_and_taken_ba K (He.ga K "BadStart") (He.ma K (He.ga K "BadStart") "__init__") "value"
  x_BadStart_BadNumber : PySem.W.exmOne K (.ref (He.ga K "BadStart")) (.ref (He.ga K "BadNumber")) = some false
  x_BadStart_BadStart : PySem.W.exmOne K (.ref (He.ga K "BadStart")) (.ref (He.ga K "BadStart")) = some true
  x_BadStart_NoGuess : PySem.W.exmOne K (.ref (He.ga K "BadStart")) (.ref (He.ga K "NoGuess")) = some false
  e_NoGuess : PySem.ErrX.ErrC0 PySem.Challenge.pw_floorward_k52_whole_led_put_and_taken_ba K (He.ga K "NoGuess") (He.ma K (He.ga K "NoGuess") "__init__")
  x_NoGuess_BadNumber : PySem.W.exmOne K (.ref (He.ga K "NoGuess")) (.ref (He.ga K "BadNumber")) = some false
  x_NoGuess_BadStart : PySem.W.exmOne K (.ref (He.ga K "NoGuess")) (.ref (He.ga K "BadStart")) = some false
  x_NoGuess_NoGuess : PySem.W.exmOne K (.ref (He.ga K "NoGuess")) (.ref (He.ga K "NoGuess")) = some true
  xc_BadStart : ExcC K (He.ga K "BadStart")
  xf_BadStart : PySem.W.exmOne K (.ref (He.ga K "BadStart")) (.ref (He.ga K "FloorError")) = some true
  xk_BadStart_BadNumber : PySem.W.kitOne K (.ref (He.ga K "BadStart")) (.ref (He.ga K "BadNumber")) = some false
  xk_BadStart_BadPower : PySem.W.kitOne K (.ref (He.ga K "BadStart")) (.ref (He.ga K "BadPower")) = some false
  xk_BadStart_BadLoop : PySem.W.kitOne K (.ref (He.ga K "BadStart")) (.ref (He.ga K "BadLoop")) = some false
  xk_BadStart_BadStart : PySem.W.kitOne K (.ref (He.ga K "BadStart")) (.ref (He.ga K "BadStart")) = some true
  xk_BadStart_BadGuesses : PySem.W.kitOne K (.ref (He.ga K "BadStart")) (.ref (He.ga K "BadGuesses")) = some false
  xk_BadStart_BadBeginning : PySem.W.kitOne K (.ref (He.ga K "BadStart")) (.ref (He.ga K "BadBeginning")) = some false
  xk_BadStart_BadSought : PySem.W.kitOne K (.ref (He.ga K "BadStart")) (.ref (He.ga K "BadSought")) = some false
  xk_BadStart_BadBracket : PySem.W.kitOne K (.ref (He.ga K "BadStart")) (.ref (He.ga K "BadBracket")) = some false
  xk_BadStart_BadKind : PySem.W.kitOne K (.ref (He.ga K "BadStart")) (.ref (He.ga K "BadKind")) = some false
  xk_BadStart_BadText : PySem.W.kitOne K (.ref (He.ga K "BadStart")) (.ref (He.ga K "BadText")) = some false
  xk_BadStart_NoGuess : PySem.W.kitOne K (.ref (He.ga K "BadStart")) (.ref (He.ga K "NoGuess")) = some false
  t_STOPS : ∀ H, SqT K H (He.ga K "STOPS") [.str "notless", .str "equal", .str "near1", .str "near2", .str "back", .str "under", .str "held"]
  t_TOLDS : ∀ H, SqT K H (He.ga K "TOLDS") [.str "old", .str "new", .str "less", .str "more"]
  t_MENDS : ∀ H, SqT K H (He.ga K "MENDS") [.str "none", .str "down", .str "up", .str "both"]
  t_LOOKS : ∀ H, SqT K H (He.ga K "LOOKS") [.str "under", .str "held"]
  in_Led : InsK K (He.ga K "Led")
  ne_tabs01 : (He.cT K ("_law_put", none)).2 ≠ (He.cT K ("_law_trial_right", none)).2
  ne_tabs02 : (He.cT K ("_law_put", none)).2 ≠ (He.cT K ("_law_deeper", none)).2
  ne_tabs12 : (He.cT K ("_law_trial_right", none)).2 ≠ (He.cT K ("_law_deeper", none)).2
  tb_l_put : LamX.TabB base mg (He.cT K ("_law_put", none)).1 (He.cT K ("_law_put", none)).2
  tb_l_trial_right : LamX.TabB base mg (He.cT K ("_law_trial_right", none)).1 (He.cT K ("_law_trial_right", none)).2
  tb_l_deeper : LamX.TabB base mg (He.cT K ("_law_deeper", none)).1 (He.cT K ("_law_deeper", none)).2
theorem Tx.hk_BadStart {K : PySem.W.Frag} {mg : Str → Option Value} {base : Heap} (T : Tx K mg base) : HotK K "BadStart" := ⟨T.xc_BadStart, T.xf_BadStart, fun y hy => by
  simp only [clsNames, List.mem_cons, List.not_mem_nil, or_false] at hy
  rcases hy with rfl | rfl | rfl | rfl | rfl | rfl | rfl | rfl | rfl | rfl | rfl
  · exact T.xk_BadStart_BadNumber.trans (by decide)
  · exact T.xk_BadStart_BadPower.trans (by decide)
  · exact T.xk_BadStart_BadLoop.trans (by decide)
  · exact T.xk_BadStart_BadStart.trans (by decide)
  · exact T.xk_BadStart_BadGuesses.trans (by decide)
  · exact T.xk_BadStart_BadBeginning.trans (by decide)
  · exact T.xk_BadStart_BadSought.trans (by decide)
  · exact T.xk_BadStart_BadBracket.trans (by decide)
  · exact T.xk_BadStart_BadKind.trans (by decide)
  · exact T.xk_BadStart_BadText.trans (by decide)
  · exact T.xk_BadStart_NoGuess.trans (by decide)⟩
theorem Tx.av {K : PySem.W.Frag} {mg : Str → Option Value} {base : Heap} (T : Tx K mg base) : AvK K := ⟨T.c_Average, T.a_Average_k, T.a_Average_a, T.a_Average_c, T.a_Average_d, T.a_Average_stop, T.a_Average_told, T.a_Average_mend, T.t_STOPS, T.t_TOLDS, T.t_MENDS, T.t_LOOKS⟩
theorem Tx.ld {K : PySem.W.Frag} {mg : Str → Option Value} {base : Heap} (T : Tx K mg base) : LdK K := ⟨T.c_Led, T.a_Led_loop, T.a_Led_n, T.a_Led_first, T.a_Led_guess, T.a_Led_before, T.a_Led_told, T.a_Led_past⟩
theorem Tx.h52 {K : PySem.W.Frag} {mg : Str → Option Value} {base : Heap} (T : Tx K mg base) : Hot52 K := ⟨T.hk_BadStart, ErrG.of T.e_BadStart, T.ld, T.in_Led⟩
abbrev PP : Program := PySem.Challenge.pw_floorward_k52_whole_led_put_and_taken_ba
theorem hu_l_put {K : PySem.W.Frag} {mg : Str → Option Value} {base : Heap} (T : Tx K mg base) : ∀ p ∈ tabs K, p.1 = (He.cT K ("_law_put", none)).2 → p.2 = (("_law_put" : Str) ++ ".<locals>.") ++ "<lambda>" := fun p hp e => by
  simp only [tabs, List.mem_cons, List.not_mem_nil, or_false] at hp
  rcases hp with rfl | rfl | rfl
  · rfl
  · exact absurd e.symm T.ne_tabs01
  · exact absurd e.symm T.ne_tabs02
theorem hu_l_trial_right {K : PySem.W.Frag} {mg : Str → Option Value} {base : Heap} (T : Tx K mg base) : ∀ p ∈ tabs K, p.1 = (He.cT K ("_law_trial_right", none)).2 → p.2 = (("_law_trial_right" : Str) ++ ".<locals>.") ++ "<lambda>" := fun p hp e => by
  simp only [tabs, List.mem_cons, List.not_mem_nil, or_false] at hp
  rcases hp with rfl | rfl | rfl
  · exact absurd e T.ne_tabs01
  · rfl
  · exact absurd e.symm T.ne_tabs12
theorem hu_l_deeper {K : PySem.W.Frag} {mg : Str → Option Value} {base : Heap} (T : Tx K mg base) : ∀ p ∈ tabs K, p.1 = (He.cT K ("_law_deeper", none)).2 → p.2 = (("_law_deeper" : Str) ++ ".<locals>.") ++ "<lambda>" := fun p hp e => by
  simp only [tabs, List.mem_cons, List.not_mem_nil, or_false] at hp
  rcases hp with rfl | rfl | rfl
  · exact absurd e T.ne_tabs02
  · exact absurd e T.ne_tabs12
  · rfl
section
variable {w : World} {K : PySem.W.Frag} {mg : Str → Option Value} {base : Heap}
theorem dv_l_class {cdv : Value} {A : Around} {outer : List Env} {s : Shared} {H : Hp} {a : Addr} {oe : Obj} {cls : Value} {d : Option Addr} (T : Tx K mg base) (hh : A.handled = some (.ref a)) (hz : L2N.Zn cls d oe) (hf : ∃ vs, oe.data = .fields vs) : PSs (L2H.cxH CX0 PP w K mg base N_l_class "_law_class" (defScope st_l_class) (He.ga K "_law_class") cdv A outer s H E0 (a, oe)) (defBody st_l_class) (rd_l_class K a cls d) := by
  have hx := FW.hx_cxH (P := PP) (w := w) (K := K) (mg := mg) (base := base) (N := N_l_class) (qual := "_law_class") (scope := defScope st_l_class) (f := He.ga K "_law_class") (cd := cdv) (outer := outer) (s := s) (H := H) hh hz hf
  exact pss_cons (ps_set (i := 1) sc_l_class.nd rfl (Or.inl rfl) (pe_lst (pa_cons (pe_callB (FW.call_isX hx) (by rfl) T.n_isinstance (by decide +kernel) (pa_cons (pv 0) (pa_cons (FW.pe_gref (by rfl) T.g_BadNumber) (pa_nil)))) (pa_cons (pe_callB (FW.call_isX hx) (by rfl) T.n_isinstance (by decide +kernel) (pa_cons (pv 0) (pa_cons (FW.pe_gref (by rfl) T.g_BadPower) (pa_nil)))) (pa_cons (pe_callB (FW.call_isX hx) (by rfl) T.n_isinstance (by decide +kernel) (pa_cons (pv 0) (pa_cons (FW.pe_gref (by rfl) T.g_BadLoop) (pa_nil)))) (pa_nil)))))) (pss_cons (ps_set (i := 1) sc_l_class.nd rfl (Or.inl rfl) (pe_op op_cat (pv 1) (pe_lst (pa_cons (pe_callB (FW.call_isX hx) (by rfl) T.n_isinstance (by decide +kernel) (pa_cons (pv 0) (pa_cons (FW.pe_gref (by rfl) T.g_BadStart) (pa_nil)))) (pa_cons (pe_callB (FW.call_isX hx) (by rfl) T.n_isinstance (by decide +kernel) (pa_cons (pv 0) (pa_cons (FW.pe_gref (by rfl) T.g_BadGuesses) (pa_nil)))) (pa_cons (pe_callB (FW.call_isX hx) (by rfl) T.n_isinstance (by decide +kernel) (pa_cons (pv 0) (pa_cons (FW.pe_gref (by rfl) T.g_BadBeginning) (pa_nil)))) (pa_nil))))))) (pss_cons (ps_set (i := 1) sc_l_class.nd rfl (Or.inl rfl) (pe_op op_cat (pv 1) (pe_lst (pa_cons (pe_callB (FW.call_isX hx) (by rfl) T.n_isinstance (by decide +kernel) (pa_cons (pv 0) (pa_cons (FW.pe_gref (by rfl) T.g_BadSought) (pa_nil)))) (pa_cons (pe_callB (FW.call_isX hx) (by rfl) T.n_isinstance (by decide +kernel) (pa_cons (pv 0) (pa_cons (FW.pe_gref (by rfl) T.g_BadBracket) (pa_nil)))) (pa_cons (pe_callB (FW.call_isX hx) (by rfl) T.n_isinstance (by decide +kernel) (pa_cons (pv 0) (pa_cons (FW.pe_gref (by rfl) T.g_BadKind) (pa_nil)))) (pa_nil))))))) (pss_cons (ps_set (i := 1) sc_l_class.nd rfl (Or.inl rfl) (pe_op op_cat (pv 1) (pe_lst (pa_cons (pe_callB (FW.call_isX hx) (by rfl) T.n_isinstance (by decide +kernel) (pa_cons (pv 0) (pa_cons (FW.pe_gref (by rfl) T.g_BadText) (pa_nil)))) (pa_cons (pe_callB (FW.call_isX hx) (by rfl) T.n_isinstance (by decide +kernel) (pa_cons (pv 0) (pa_cons (FW.pe_gref (by rfl) T.g_NoGuess) (pa_nil)))) (pa_nil)))))) (pss_cons (ps_set (i := 2) sc_l_class.nd rfl (Or.inl rfl) (pe_lst (pa_cons (pe_str) (pa_cons (pe_str) (pa_cons (pe_str) (pa_cons (pe_str) (pa_cons (pe_str) (pa_cons (pe_str) (pa_nil))))))))) (pss_cons (ps_set (i := 2) sc_l_class.nd rfl (Or.inl rfl) (pe_op op_cat (pv 2) (pe_lst (pa_cons (pe_str) (pa_cons (pe_str) (pa_cons (pe_str) (pa_cons (pe_str) (pa_cons (pe_str) (pa_nil))))))))) (pss_one (ps_ret (pe_join (pe_str) (FW.pe_lcH (own := [("_law_name", 3), ("_law_is_it", 4)]) (g := gTup K 2 (gCons (gName 3) (gCons (gName 4) (gNil)))) (tt := tB (tVar 4)) hx.hot sc_l_class.nd (FW.pi_zipH (by rfl) T.n_zip (pa_cons (pv 2) (pa_cons (pv 1) (pa_nil)))) (blkOk_by (own := [("_law_name", 3), ("_law_is_it", 4)]) (N := N_l_class) (sc := defScope st_l_class) (by decide +kernel)) (fun _ _ _ _ _ p hp => FW.pg_tupH ⟨p, hp, List.mem_singleton.mpr rfl⟩ (pgs_cons (pg_name (i := 3) sc_l_class.nd rfl (Or.inl rfl)) (pgs_cons (pg_name (i := 4) sc_l_class.nd rfl (Or.inl rfl)) (pgs_nil)))) (fun _ _ _ _ _ _ _ => pts_one (pt_val (pv 4))) (fun _ _ _ _ _ _ _ => pv 3))))))))))
theorem dv_is_whole {f : Addr} {cdv : Value} {A : Around} {outer : List Env} {s : Shared} {H : Hp} {E : XK} (T : Tx K mg base) (hr : Room 0 (A.deeper (envOfC "is_whole" (defScope st_is_whole) s.heap.objs.size f cdv))) : PSs (cxOf CX0 PP w K mg base N_is_whole "is_whole" (defScope st_is_whole) f cdv A outer s H E).nox (defBody st_is_whole) (rd_is_whole K) := by
  exact pss_one (ps_ret (pe_and (pe_callB call_isi (by rfl) T.n_isinstance (by decide +kernel) (pa_cons (pv 0) (pa_cons (pe_bltn (by rfl) T.n_int (by decide +kernel) rfl) (pa_nil)))) (pe_one (pe_not (pe_callB call_isi (by rfl) T.n_isinstance (by decide +kernel) (pa_cons (pv 0) (pa_cons (pe_bltn (by rfl) T.n_bool (by decide +kernel) rfl) (pa_nil))))))))
theorem ok_is_whole (T : Tx K mg base) : Fn PP w K mg base CX0 1 "is_whole" (sp_is_whole K) [] :=
  Fn.mk0 T.d_is_whole T.g_is_whole sc_is_whole (fun _ _ _ _ _ _ us hl => match us, hl with | [_], _ => rfl) (by walk_at "ln") (fun cdv A outer s H vs Q E hr h => ⟨rd_is_whole K, dv_is_whole T hr, pure_is_whole K vs H Q E h⟩)
theorem dv_power {f : Addr} {cdv : Value} {A : Around} {outer : List Env} {s : Shared} {H : Hp} {E : XK} (T : Tx K mg base) (hr : Room 0 (A.deeper (envOfC "power" (defScope st_power) s.heap.objs.size f cdv))) : PSs (cxOf CX0 PP w K mg base N_power "power" (defScope st_power) f cdv A outer s H E).nox (defBody st_power) (rd_power K) := by
  exact pss_cons (ps_set (i := 2) sc_power.nd rfl (Or.inl rfl) (pe_int)) (pss_cons (ps_for PassesOwn.never rfl (pi_range1 (by rfl) T.n_range (pa_cons (pv 1) (pa_nil))) (pg_name (i := 3) sc_power.nd rfl (Or.inl rfl)) (pss_one (ps_aug (i := 2) sc_power.nd rfl (Or.inl rfl) (pv 0) FW.ipMul))) (pss_one (ps_ret (pv 2))))
theorem ok_power (T : Tx K mg base) : Fn PP w K mg base CX0 1 "power" (sp_power K) [] :=
  Fn.mk0 T.d_power T.g_power sc_power (fun _ _ _ _ _ _ us hl => match us, hl with | [_, _], _ => rfl) (by walk_at "ln") (fun cdv A outer s H vs Q E hr h => ⟨rd_power K, dv_power T hr, pure_power K vs H Q E h⟩)
theorem dv_is_word_of {f : Addr} {cdv : Value} {A : Around} {outer : List Env} {s : Shared} {H : Hp} {E : XK} (T : Tx K mg base) (hr : Room 0 (A.deeper (envOfC "is_word_of" (defScope st_is_word_of) s.heap.objs.size f cdv))) : PSs (cxOf CX0 PP w K mg base N_is_word_of "is_word_of" (defScope st_is_word_of) f cdv A outer s H E).nox (defBody st_is_word_of) (rd_is_word_of K) := by
  exact pss_one (ps_ret (pe_and (pe_callB call_isi (by rfl) T.n_isinstance (by decide +kernel) (pa_cons (pv 0) (pa_cons (pe_bltn (by rfl) T.n_str (by decide +kernel) rfl) (pa_nil)))) (pe_one (pe_cmpR op_in_seq (pv 0) (pv 1) (by rfl)))))
theorem ok_is_word_of (T : Tx K mg base) : Fn PP w K mg base CX0 1 "is_word_of" (sp_is_word_of K) [] :=
  Fn.mk0 T.d_is_word_of T.g_is_word_of sc_is_word_of (fun _ _ _ _ _ _ us hl => match us, hl with | [_, _], _ => rfl) (by walk_at "ln") (fun cdv A outer s H vs Q E hr h => ⟨rd_is_word_of K, dv_is_word_of T hr, pure_is_word_of K vs H Q E h⟩)
theorem dv_Average_nearness {f : Addr} {cdv : Value} {A : Around} {outer : List Env} {s : Shared} {H : Hp} {E : XK} (T : Tx K mg base) (hr : Room 0 (A.deeper (envOfC "Average.nearness" (defScope st_Average_nearness) s.heap.objs.size f cdv))) : PSs (cxOf CX0 PP w K mg base N_Average_nearness "Average.nearness" (defScope st_Average_nearness) f cdv A outer s H E).nox (defBody st_Average_nearness) (rd_Average_nearness K) := by
  exact pss_one (ps_ret (pe_dget2 (FW.u1 hr) (pe_disp (pps_cons (pe_str) (pe_int) (pps_cons (pe_str) (pe_int) (pps_nil))) rfl rfl (fun z => nomatch z) (by decide)) (pe_fld (pv 0) rfl) (pe_int) ⟨rfl, rfl, rfl, rfl⟩))
theorem ok_Average_nearness (T : Tx K mg base) : Mt PP w K mg base CX0 1 (He.ga K "Average") "nearness" (sp_Average_nearness K) [] :=
  Mt.mk0 T.c_Average T.m_Average_nearness T.d_Average_nearness sc_Average_nearness (fun _ _ _ _ _ _ us hl => match us, hl with | [_], _ => rfl) (by walk_at "ln") (fun cdv A outer s H vs Q E hr h => ⟨rd_Average_nearness K, dv_Average_nearness T hr, pure_Average_nearness K T.av vs H Q E h⟩)
theorem dv_Average_chosen {f : Addr} {cdv : Value} {A : Around} {outer : List Env} {s : Shared} {H : Hp} {E : XK} (T : Tx K mg base) (hr : Room 0 (A.deeper (envOfC "Average.chosen" (defScope st_Average_chosen) s.heap.objs.size f cdv))) : PSs (cxOf CX0 PP w K mg base N_Average_chosen "Average.chosen" (defScope st_Average_chosen) f cdv A outer s H E).nox (defBody st_Average_chosen) (rd_Average_chosen K) := by
  exact pss_one (ps_ret (pe_dget (FW.u1 hr) (pe_disp (pps_cons (pe_str) (pv 1) (pps_cons (pe_str) (pv 2) (pps_cons (pe_str) (pe_callB (call_min2 rfl) (by rfl) T.n_min (by decide +kernel) (pa_cons (pv 1) (pa_cons (pv 2) (pa_nil)))) (pps_cons (pe_str) (pe_callB (call_max2 rfl) (by rfl) T.n_max (by decide +kernel) (pa_cons (pv 1) (pa_cons (pv 2) (pa_nil)))) (pps_nil))))) rfl rfl (fun z => nomatch z) (by decide)) (pe_fld (pv 0) rfl) (fun _ _ => rfl)))
theorem ok_Average_chosen (T : Tx K mg base) : Mt PP w K mg base CX0 1 (He.ga K "Average") "chosen" (sp_Average_chosen K) [] :=
  Mt.mk0 T.c_Average T.m_Average_chosen T.d_Average_chosen sc_Average_chosen (fun _ _ _ _ _ _ us hl => match us, hl with | [_, _, _], _ => rfl) (by walk_at "ln") (fun cdv A outer s H vs Q E hr h => ⟨rd_Average_chosen K, dv_Average_chosen T hr, pure_Average_chosen K T.av vs H Q E h⟩)
theorem dv_Led_noted {f : Addr} {cdv : Value} {A : Around} {outer : List Env} {s : Shared} {H : Hp} {E : XK} (T : Tx K mg base) (hr : Room 0 (A.deeper (envOfC "Led.noted" (defScope st_Led_noted) s.heap.objs.size f cdv))) : PSs (cxOf CX0 PP w K mg base N_Led_noted "Led.noted" (defScope st_Led_noted) f cdv A outer s H E).nox (defBody st_Led_noted) (rd_Led_noted K) := by
  exact pss_one (ps_ret (pe_tup (pa_cons (pe_fld (pv 0) rfl) (pa_cons (pe_fld (pv 0) rfl) (pa_cons (pe_fld (pv 0) rfl) (pa_nil))))))
theorem ok_Led_noted (T : Tx K mg base) : Mt PP w K mg base CX0 1 (He.ga K "Led") "noted" (sp_Led_noted K) [] :=
  Mt.mk0 T.c_Led T.m_Led_noted T.d_Led_noted sc_Led_noted (fun _ _ _ _ _ _ us hl => match us, hl with | [_], _ => rfl) (by walk_at "ln") (fun cdv A outer s H vs Q E hr h => ⟨rd_Led_noted K, dv_Led_noted T hr, pure_Led_noted K T.ld vs H Q E h⟩)
theorem dv_Led_put_back {f : Addr} {cdv : Value} {A : Around} {outer : List Env} {s : Shared} {H : Hp} {E : XK} (T : Tx K mg base) (hr : Room 0 (A.deeper (envOfC "Led.put_back" (defScope st_Led_put_back) s.heap.objs.size f cdv))) : PSs (cxOf CX0 PP w K mg base N_Led_put_back "Led.put_back" (defScope st_Led_put_back) f cdv A outer s H E).nox (defBody st_Led_put_back) (rd_Led_put_back K) := by
  exact pss_cons (ps_fld (pv 0) (pv 1) rfl) (pss_cons (ps_fld (pv 0) (pv 2) rfl) (pss_one (ps_fld (pv 0) (pv 3) rfl)))
theorem ok_Led_put_back (T : Tx K mg base) : Mt PP w K mg base CX0 1 (He.ga K "Led") "put_back" (sp_Led_put_back K) [] :=
  Mt.mk0 T.c_Led T.m_Led_put_back T.d_Led_put_back sc_Led_put_back (fun _ _ _ _ _ _ us hl => match us, hl with | [_, _, _, _], _ => rfl) (by walk_at "ln") (fun cdv A outer s H vs Q E hr h => ⟨rd_Led_put_back K, dv_Led_put_back T hr, pure_Led_put_back K T.ld vs H Q E h⟩)
theorem dv_l_cell_at {f : Addr} {cdv : Value} {A : Around} {outer : List Env} {s : Shared} {H : Hp} {E : XK} (T : Tx K mg base) (hr : Room 0 (A.deeper (envOfC "_law_cell_at" (defScope st_l_cell_at) s.heap.objs.size f cdv))) : PSs (cxOf CX0 PP w K mg base N_l_cell_at "_law_cell_at" (defScope st_l_cell_at) f cdv A outer s H E).nox (defBody st_l_cell_at) (rd_l_cell_at K) := by
  exact pss_cons (ps_if (pt_cmpR op_lt (pv 1) (pe_callB call_len_seq (by rfl) T.n_len (by decide +kernel) (pa_cons (pv 0) (pa_nil))) (nomark _)) (pss_one (ps_ret (pe_ix ix_list (pv 0) (pv 1) (fun _ _ => rfl)))) (pss_nil)) (pss_one (ps_ret (pe_int)))
theorem ok_l_cell_at (T : Tx K mg base) : Fn PP w K mg base CX0 1 "_law_cell_at" (sp_l_cell_at K) [] :=
  Fn.mk0 T.d_l_cell_at T.g__law_cell_at sc_l_cell_at (fun _ _ _ _ _ _ us hl => match us, hl with | [_, _], _ => rfl) (by walk_at "ln") (fun cdv A outer s H vs Q E hr h => ⟨rd_l_cell_at K, dv_l_cell_at T hr, pure_l_cell_at K vs H Q E h⟩)
theorem dv_l_mixed {f : Addr} {cdv : Value} {A : Around} {outer : List Env} {s : Shared} {H : Hp} {E : XK} (T : Tx K mg base) (hr : Room 0 (A.deeper (envOfC "_law_mixed" (defScope st_l_mixed) s.heap.objs.size f cdv))) : PSs (cxOf CX0 PP w K mg base N_l_mixed "_law_mixed" (defScope st_l_mixed) f cdv A outer s H E).nox (defBody st_l_mixed) (rd_l_mixed K) := by
  exact pss_cons (ps_set (i := 2) sc_l_mixed.nd rfl (Or.inl rfl) (pe_op FW.opMod (pe_callTy call_int1 (by rfl) T.n_int (by decide +kernel) (pa_cons (pe_op FW.opPow (pe_op FW.opAdd (pe_op FW.opAdd (pe_op FW.opMod (pe_callTy call_int1 (by rfl) T.n_int (by decide +kernel) (pa_cons (pv 0) (pa_nil))) (pe_int)) (pe_op FW.opMul (pe_int) (pv 1))) (pe_int)) (pe_int)) (pa_nil))) (pe_int))) (pss_one (ps_ret (pe_op FW.opMod (pe_callTy call_int1 (by rfl) T.n_int (by decide +kernel) (pa_cons (pe_op FW.opMul (pe_op FW.opAdd (pv 2) (pv 1)) (pe_int)) (pa_nil))) (pe_int))))
theorem ok_l_mixed (T : Tx K mg base) : Fn PP w K mg base CX0 1 "_law_mixed" (sp_l_mixed K) [] :=
  Fn.mk0 T.d_l_mixed T.g__law_mixed sc_l_mixed (fun _ _ _ _ _ _ us hl => match us, hl with | [_, _], _ => rfl) (by walk_at "ln") (fun cdv A outer s H vs Q E hr h => ⟨rd_l_mixed K, dv_l_mixed T hr, pure_l_mixed K vs H Q E h⟩)
theorem dv_l_apart {f : Addr} {cdv : Value} {A : Around} {outer : List Env} {s : Shared} {H : Hp} {E : XK} (T : Tx K mg base) (hr : Room 0 (A.deeper (envOfC "_law_apart" (defScope st_l_apart) s.heap.objs.size f cdv))) : PSs (cxOf CX0 PP w K mg base N_l_apart "_law_apart" (defScope st_l_apart) f cdv A outer s H E).nox (defBody st_l_apart) (rd_l_apart K) := by
  exact pss_cons (ps_if (pt_cmpR op_ge (pe_callB call_abs (by rfl) T.n_abs (by decide +kernel) (pa_cons (pv 0) (pa_nil))) (pe_op FW.opPow (pe_int) (pe_int)) (nomark _)) (pss_one (ps_ret (pv 0))) (pss_nil)) (pss_one (ps_ret (pe_op FW.opAdd (pv 0) (pe_op FW.opMul (pe_int) (pv 1)))))
theorem ok_l_apart (T : Tx K mg base) : Fn PP w K mg base CX0 1 "_law_apart" (sp_l_apart K) [] :=
  Fn.mk0 T.d_l_apart T.g__law_apart sc_l_apart (fun _ _ _ _ _ _ us hl => match us, hl with | [_, _], _ => rfl) (by walk_at "ln") (fun cdv A outer s H vs Q E hr h => ⟨rd_l_apart K, dv_l_apart T hr, pure_l_apart K vs H Q E h⟩)
theorem dv_l_power {f : Addr} {cdv : Value} {A : Around} {outer : List Env} {s : Shared} {H : Hp} {E : XK} (T : Tx K mg base) (hr : Room 0 (A.deeper (envOfC "_law_power" (defScope st_l_power) s.heap.objs.size f cdv))) : PSs (cxOf CX0 PP w K mg base N_l_power "_law_power" (defScope st_l_power) f cdv A outer s H E).nox (defBody st_l_power) (rd_l_power K) := by
  exact pss_cons (ps_set (i := 2) sc_l_power.nd rfl (Or.inl rfl) (pe_int)) (pss_cons (ps_for PassesOwn.never rfl (pi_range1 (by rfl) T.n_range (pa_cons (pv 1) (pa_nil))) (pg_name (i := 3) sc_l_power.nd rfl (Or.inl rfl)) (pss_one (ps_set (i := 2) sc_l_power.nd rfl (Or.inl rfl) (pe_op FW.opMul (pv 2) (pv 0))))) (pss_one (ps_ret (pv 2))))
theorem ok_l_power (T : Tx K mg base) : Fn PP w K mg base CX0 1 "_law_power" (sp_l_power K) [] :=
  Fn.mk0 T.d_l_power T.g__law_power sc_l_power (fun _ _ _ _ _ _ us hl => match us, hl with | [_, _], _ => rfl) (by walk_at "ln") (fun cdv A outer s H vs Q E hr h => ⟨rd_l_power K, dv_l_power T hr, pure_l_power K vs H Q E h⟩)
theorem dv_l_great {f : Addr} {cdv : Value} {A : Around} {outer : List Env} {s : Shared} {H : Hp} {E : XK} (T : Tx K mg base) (hr : Room 0 (A.deeper (envOfC "_law_great" (defScope st_l_great) s.heap.objs.size f cdv))) : PSs (cxOf CX0 PP w K mg base N_l_great "_law_great" (defScope st_l_great) f cdv A outer s H E).nox (defBody st_l_great) (rd_l_great K) := by
  exact pss_cons (ps_set (i := 3) sc_l_great.nd rfl (Or.inl rfl) (pe_int)) (pss_cons (ps_for PassesOwn.never rfl (pi_range1 (by rfl) T.n_range (pa_cons (pv 2) (pa_nil))) (pg_name (i := 4) sc_l_great.nd rfl (Or.inl rfl)) (pss_one (ps_set (i := 3) sc_l_great.nd rfl (Or.inl rfl) (pe_op FW.opAdd (pe_op FW.opMul (pe_int) (pv 3)) (pe_callTy call_int1 (by rfl) T.n_int (by decide +kernel) (pa_cons (pe_ix ix_list (pv 0) (pe_op FW.opAdd (pv 1) (pv 4)) (fun _ _ => rfl)) (pa_nil))))))) (pss_one (ps_ret (pv 3))))
theorem ok_l_great (T : Tx K mg base) : Fn PP w K mg base CX0 1 "_law_great" (sp_l_great K) [] :=
  Fn.mk0 T.d_l_great T.g__law_great sc_l_great (fun _ _ _ _ _ _ us hl => match us, hl with | [_, _, _], _ => rfl) (by walk_at "ln") (fun cdv A outer s H vs Q E hr h => ⟨rd_l_great K, dv_l_great T hr, pure_l_great K vs H Q E h⟩)
theorem dv_l_weights2 {f : Addr} {cdv : Value} {A : Around} {outer : List Env} {s : Shared} {H : Hp} {E : XK} (T : Tx K mg base) (hr : Room 0 (A.deeper (envOfC "_law_weights" (defScope st_l_weights2) s.heap.objs.size f cdv))) : PSs (cxOf CX0 PP w K mg base N_l_weights2 "_law_weights" (defScope st_l_weights2) f cdv A outer s H E).nox (defBody st_l_weights2) (rd_l_weights2 K) := by
  exact pss_cons (ps_set (i := 1) sc_l_weights2.nd rfl (Or.inl rfl) (pe_lst (pa_nil))) (pss_cons (ps_for PassesOwn.never rfl (pi_range2 (by rfl) T.n_range (pa_cons (pe_int) (pa_cons (pe_int) (pa_nil)))) (pg_name (i := 2) sc_l_weights2.nd rfl (Or.inr rfl)) (pss_one (ps_expr (pe_bm PySem.F.plainAttrs_list PySem.F.slot_list_extend PySem.F.type_list_extend mt_extend (pv 1) (pa_cons (pe_lc (own := [("_law_c", 3)]) (g := gName 3) (tt := tTest (tOp FW.rGe (tVar 2) (tOp FW.rMul (tVar 3) (tOp FW.rSub (tVar 0) (tC (.int 1)))))) rfl sc_l_weights2.nd (pi_range2 (by rfl) T.n_range (pa_cons (pe_int) (pa_cons (pe_op FW.opSub (pe_int) (pv 2)) (pa_nil)))) (blkOk_by (own := [("_law_c", 3)]) (N := N_l_weights2) (sc := defScope st_l_weights2) (by decide +kernel)) (fun _ _ _ _ _ => pg_name (i := 3) sc_l_weights2.nd rfl (Or.inl rfl)) (fun _ _ _ _ _ => pts_one (pt_cmpR op_ge (pv 2) (pe_op FW.opMul (pv 3) (pe_op FW.opSub (pv 0) (pe_int))) (nomark _))) (fun _ _ _ _ _ => pe_tup (pa_cons (pv 2) (pa_cons (pv 3) (pa_nil))))) (pa_nil)))))) (pss_one (ps_ret (pv 1))))
theorem ok_l_weights2 (T : Tx K mg base) : Fn PP w K mg base CX0 1 "_law_weights" (sp_l_weights2 K) [] :=
  Fn.mk0 T.d_l_weights2 T.g__law_weights sc_l_weights2 (fun _ _ _ _ _ _ us hl => match us, hl with | [_], _ => rfl) (by walk_at "ln") (fun cdv A outer s H vs Q E hr h => ⟨rd_l_weights2 K, dv_l_weights2 T hr, pure_l_weights2 K vs H Q E h⟩)
theorem dv_l_ends2 {f : Addr} {cdv : Value} {A : Around} {outer : List Env} {s : Shared} {H : Hp} {E : XK} (T : Tx K mg base) (hr : Room 0 (A.deeper (envOfC "_law_ends" (defScope st_l_ends2) s.heap.objs.size f cdv))) : PSs (cxOf CX0 PP w K mg base N_l_ends2 "_law_ends" (defScope st_l_ends2) f cdv A outer s H E).nox (defBody st_l_ends2) (rd_l_ends2 K) := by
  exact pss_cons (ps_set (i := 4) sc_l_ends2.nd rfl (Or.inl rfl) (pe_ix ix_list (pv 0) (pe_int) (fun _ _ => rfl))) (pss_cons (ps_if (pt_cmpR op_eq (pv 4) (pe_str) (nomark _)) (pss_one (ps_ret (pe_cmpR op_ge (pv 2) (pv 1) (nomark _)))) (pss_nil)) (pss_cons (ps_if (pt_cmpR op_in_seq (pv 4) (pe_lst (pa_cons (pe_str) (pa_cons (pe_str) (pa_nil)))) (by rfl)) (pss_one (ps_ret (pe_cmpR op_le (pe_callB call_abs (by rfl) T.n_abs (by decide +kernel) (pa_cons (pe_op FW.opSub (pv 1) (pv 2)) (pa_nil))) (pe_callTy call_int_str (by rfl) T.n_int (by decide +kernel) (pa_cons (pe_ix ix_str (pv 4) (pe_un un_neg (pe_int)) (fun _ _ => rfl)) (pa_nil))) (nomark _)))) (pss_nil)) (pss_one (ps_ret (pe_or (pe_and (pe_cmpR op_in_seq (pv 4) (pe_lst (pa_cons (pe_str) (pa_cons (pe_str) (pa_nil)))) (by rfl)) (pe_one (pe_cmpR op_eq (pv 1) (pv 2) (nomark _)))) (pe_one (pe_and (pe_cmpR op_eq (pv 4) (pe_str) (nomark _)) (pe_one (pe_cmpR op_eq (pv 2) (pv 3) (nomark _))))))))))
theorem ok_l_ends2 (T : Tx K mg base) : Fn PP w K mg base CX0 1 "_law_ends" (sp_l_ends2 K) [] :=
  Fn.mk0 T.d_l_ends2 T.g__law_ends sc_l_ends2 (fun _ _ _ _ _ _ us hl => match us, hl with | [_, _, _, _], _ => rfl) (by walk_at "ln") (fun cdv A outer s H vs Q E hr h => ⟨rd_l_ends2 K, dv_l_ends2 T hr, pure_l_ends2 K vs H Q E h⟩)
theorem dv_l_chosen2 {f : Addr} {cdv : Value} {A : Around} {outer : List Env} {s : Shared} {H : Hp} {E : XK} (T : Tx K mg base) (hr : Room 0 (A.deeper (envOfC "_law_chosen" (defScope st_l_chosen2) s.heap.objs.size f cdv))) : PSs (cxOf CX0 PP w K mg base N_l_chosen2 "_law_chosen" (defScope st_l_chosen2) f cdv A outer s H E).nox (defBody st_l_chosen2) (rd_l_chosen2 K) := by
  exact pss_one (ps_ret (pe_dget (FW.u1 hr) (pe_disp (pps_cons (pe_str) (pv 1) (pps_cons (pe_str) (pv 2) (pps_cons (pe_str) (pe_callB (cr_min rfl) (by rfl) T.n_min (by decide +kernel) (pa_cons (pe_lst (pa_cons (pv 1) (pa_cons (pv 2) (pa_nil)))) (pa_nil))) (pps_cons (pe_str) (pe_callB (cr_max rfl) (by rfl) T.n_max (by decide +kernel) (pa_cons (pe_lst (pa_cons (pv 1) (pa_cons (pv 2) (pa_nil)))) (pa_nil))) (pps_nil))))) rfl rfl (fun z => nomatch z) (by decide)) (pe_ix ix_list (pv 0) (pe_int) (fun _ _ => rfl)) (fun _ _ => rfl)))
theorem ok_l_chosen2 (T : Tx K mg base) : Fn PP w K mg base CX0 1 "_law_chosen" (sp_l_chosen2 K) [] :=
  Fn.mk0 T.d_l_chosen2 T.g__law_chosen sc_l_chosen2 (fun _ _ _ _ _ _ us hl => match us, hl with | [_, _, _], _ => rfl) (by walk_at "ln") (fun cdv A outer s H vs Q E hr h => ⟨rd_l_chosen2 K, dv_l_chosen2 T hr, pure_l_chosen2 K vs H Q E h⟩)
theorem gv_l_refusedH {X : Cx} {cdv : Value} (hP : X.prog = PP) (T : Tx X.K X.mg X.base) : FWN.GivesToN X N_l_refusedH "_law_refused" (defScope st_l_refusedH) (He.ga X.K "_law_refused") cdv (defBody st_l_refusedH) "_law_ask" (X.env.qual ++ "<lambda>") (TT_l_refusedH X.K) := by
  obtain ⟨prog, w, K, mg, base, A, N, s_0, H_0, env, outer, stack, ex, fn, calm, pn, xe⟩ := X
  change prog = PP at hP
  subst hP
  change Tx K mg base at T
  intro f c s H Q tl j hr act hc h h8
  refine ⟨rd_l_refusedH K f c (env.qual ++ "<lambda>") tl, ?_, pure_l_refusedH K f c _ tl H Q hc h⟩
  exact pss_cons (FWN.ps_tryA (tb := fun W => FW.tWithE 3 (fun Ech => tDrop (FW.tAsk f c (env.qual ++ "<lambda>") tl Ech)) W) (Wout := (fun _ _ _ _ => False)) rfl rfl FWN.takesNo (fun W pn xe tk _ => FW.pss_withE fun Ech hW => pss_one (ps_expr (act (FW.wLen _ W) pn xe Ech _ _ (FWN.takes_len rfl tk) hW))) (FWN.Hds.cons (k := ⟨.ref (He.ga K "FloorError"), 1, fun a cls d => tSeq (tFor (iList K (tLst (tCons (tC (.str "word")) (tCons (tC (.str "value")) (tNil))))) (gName 2) (tSeq (tIfS (tAnd (tTest (tOp rEq (tVar 2) (tC (.str "word")))) (tB (tCB (FW.rIsXT K a cls d) (tCons (tVar 1) (tCons (tTup (tCons (tC (.ref (He.ga K "BadLoop"))) (tCons (tC (.ref (He.ga K "BadSought"))) (tCons (tC (.ref (He.ga K "BadBeginning"))) (tNil))))) (tNil)))))) (tRet (tTup (tCons (FW.tCallX a ["_law_e", "_law_some", "_law_names", "_law_name", "_law_is_it"] (rd_l_class K a cls d) (tVar 1)) (tCons (FW.tByX K "word" a cls d (tVar 1)) (tNil))))) (tNext)) (tIfS (tAnd (tTest (tOp rEq (tVar 2) (tC (.str "value")))) (tB (tCB (FW.rIsXT K a cls d) (tCons (tVar 1) (tCons (tTup (tCons (tC (.ref (He.ga K "BadNumber"))) (tCons (tC (.ref (He.ga K "BadPower"))) (tCons (tC (.ref (He.ga K "BadStart"))) (tCons (tC (.ref (He.ga K "BadKind"))) (tNil)))))) (tNil)))))) (tRet (tTup (tCons (FW.tCallX a ["_law_e", "_law_some", "_law_names", "_law_name", "_law_is_it"] (rd_l_class K a cls d) (tVar 1)) (tCons (FW.tByX K "value" a cls d (tVar 1)) (tNil))))) (tNext)))) (tRet (tTup (tCons (FW.tCallX a ["_law_e", "_law_some", "_law_names", "_law_name", "_law_is_it"] (rd_l_class K a cls d) (tVar 1)) (tCons (tC .non) (tNil)))))⟩) sc_l_refusedH.nd rfl rfl ⟨rfl, by decide, .inl T.g_FloorError⟩ (fun a oe cls d pn hz hf => by (refine FW.pss_hx (a := a) (oe := oe) (cls := cls) (d := d) (t := tSeq (tFor (iList K (tLst (tCons (tC (.str "word")) (tCons (tC (.str "value")) (tNil))))) (gName 2) (tSeq (tIfS (tAnd (tTest (tOp rEq (tVar 2) (tC (.str "word")))) (tB (tCB (FW.rIsXT K a cls d) (tCons (tVar 1) (tCons (tTup (tCons (tC (.ref (He.ga K "BadLoop"))) (tCons (tC (.ref (He.ga K "BadSought"))) (tCons (tC (.ref (He.ga K "BadBeginning"))) (tNil))))) (tNil)))))) (tRet (tTup (tCons (FW.tCallX a ["_law_e", "_law_some", "_law_names", "_law_name", "_law_is_it"] (rd_l_class K a cls d) (tVar 1)) (tCons (FW.tByX K "word" a cls d (tVar 1)) (tNil))))) (tNext)) (tIfS (tAnd (tTest (tOp rEq (tVar 2) (tC (.str "value")))) (tB (tCB (FW.rIsXT K a cls d) (tCons (tVar 1) (tCons (tTup (tCons (tC (.ref (He.ga K "BadNumber"))) (tCons (tC (.ref (He.ga K "BadPower"))) (tCons (tC (.ref (He.ga K "BadStart"))) (tCons (tC (.ref (He.ga K "BadKind"))) (tNil)))))) (tNil)))))) (tRet (tTup (tCons (FW.tCallX a ["_law_e", "_law_some", "_law_names", "_law_name", "_law_is_it"] (rd_l_class K a cls d) (tVar 1)) (tCons (FW.tByX K "value" a cls d (tVar 1)) (tNil))))) (tNext)))) (tRet (tTup (tCons (FW.tCallX a ["_law_e", "_law_some", "_law_names", "_law_name", "_law_is_it"] (rd_l_class K a cls d) (tVar 1)) (tCons (tC .non) (tNil)))))) ?_ ?_; (exact FW.hx_suite hz hf); (intro hx; exact pss_cons (L2H.ps_forH PassesOwn.never hx.hot (FW.pi_listH (pe_lst (pa_cons (pe_str) (pa_cons (pe_str) (pa_nil))))) (pg_name (i := 2) sc_l_refusedH.nd rfl (Or.inl rfl)) (pss_cons (ps_if (PW.pt (pw_and (pt_cmpR op_eq (pv 2) (pe_str) (nomark _)) (pw_and1 (pt_val (pe_callB (FW.call_isXT hx) (by rfl) T.n_isinstance (by decide +kernel) (pa_cons (pv 1) (pa_cons (pe_tup (pa_cons (FW.pe_gref (by rfl) T.g_BadLoop) (pa_cons (FW.pe_gref (by rfl) T.g_BadSought) (pa_cons (FW.pe_gref (by rfl) T.g_BadBeginning) (pa_nil))))) (pa_nil)))))))) (pss_one (ps_ret (pe_tup (pa_cons (FW.pe_callX (k := 0) (pn := "_law_e") hx T.d_l_class T.g__law_class (by rfl) sc_l_class (fun _ _ _ _ _ _ us hl => match us, hl with | [_], _ => rfl) (FW.roomS hr (by omega)) (pv 1) (fun cdv s H _ => dv_l_class T rfl hz hf)) (pa_cons (FW.pe_byX hx (pv 1)) (pa_nil)))))) (pss_nil)) (pss_one (ps_if (PW.pt (pw_and (pt_cmpR op_eq (pv 2) (pe_str) (nomark _)) (pw_and1 (pt_val (pe_callB (FW.call_isXT hx) (by rfl) T.n_isinstance (by decide +kernel) (pa_cons (pv 1) (pa_cons (pe_tup (pa_cons (FW.pe_gref (by rfl) T.g_BadNumber) (pa_cons (FW.pe_gref (by rfl) T.g_BadPower) (pa_cons (FW.pe_gref (by rfl) T.g_BadStart) (pa_cons (FW.pe_gref (by rfl) T.g_BadKind) (pa_nil)))))) (pa_nil)))))))) (pss_one (ps_ret (pe_tup (pa_cons (FW.pe_callX (k := 0) (pn := "_law_e") hx T.d_l_class T.g__law_class (by rfl) sc_l_class (fun _ _ _ _ _ _ us hl => match us, hl with | [_], _ => rfl) (FW.roomS hr (by omega)) (pv 1) (fun cdv s H _ => dv_l_class T rfl hz hf)) (pa_cons (FW.pe_byX hx (pv 1)) (pa_nil)))))) (pss_nil))))) (pss_one (ps_ret (pe_tup (pa_cons (FW.pe_callX (k := 0) (pn := "_law_e") hx T.d_l_class T.g__law_class (by rfl) sc_l_class (fun _ _ _ _ _ _ us hl => match us, hl with | [_], _ => rfl) (FW.roomS hr (by omega)) (pv 1) (fun cdv s H _ => dv_l_class T rfl hz hf)) (pa_cons (pe_non) (pa_nil))))))))) (FWN.Hds.nil))) (pss_one (ps_ret (pe_non)))
theorem dvH_l_showsO {cdv : Value} {A : Around} {outer : List Env} {s : Shared} {H : Hp} {a : Addr} {oe : Obj} (T : Tx K mg base) (hr : L2H.RoomH 0 (A.deeper (envOfC "_law_shows" (defScope st_l_showsO) s.heap.objs.size (He.ga K "_law_shows") cdv))) : PSs (L2H.cxH CX0 PP w K mg base N_l_showsO "_law_shows" (defScope st_l_showsO) (He.ga K "_law_shows") cdv A outer s H E0 (a, oe)) (defBody st_l_showsO) (rd_l_showsO K) := by
  exact pss_one (ps_ret (pe_cmpR (op_eqD (FW.unitsH hr)) (pe_tup (pa_cons (pe_fld (pv 1) rfl) (pa_cons (pe_fld (pv 1) rfl) (pa_cons (pe_fld (pv 1) rfl) (pa_nil))))) (pe_ix ix_list (pv 0) (pe_un un_neg (pe_int)) (fun _ _ => rfl)) (nomark _)))
theorem dv_l_showsO {f : Addr} {cdv : Value} {A : Around} {outer : List Env} {s : Shared} {H : Hp} {E : XK} (T : Tx K mg base) (hr : Room 0 (A.deeper (envOfC "_law_shows" (defScope st_l_showsO) s.heap.objs.size f cdv))) : PSs (cxOf CX0 PP w K mg base N_l_showsO "_law_shows" (defScope st_l_showsO) f cdv A outer s H E).nox (defBody st_l_showsO) (rd_l_showsO K) := by
  exact pss_one (ps_ret (pe_cmpR (op_eqD hr.units) (pe_tup (pa_cons (pe_fld (pv 1) rfl) (pa_cons (pe_fld (pv 1) rfl) (pa_cons (pe_fld (pv 1) rfl) (pa_nil))))) (pe_ix ix_list (pv 0) (pe_un un_neg (pe_int)) (fun _ _ => rfl)) (nomark _)))
theorem ok_l_showsO (T : Tx K mg base) : Fn PP w K mg base CX0 1 "_law_shows" (sp_l_showsO K) [] :=
  Fn.mk0 T.d_l_showsO T.g__law_shows sc_l_showsO (fun _ _ _ _ _ _ us hl => match us, hl with | [_, _], _ => rfl) (by walk_at "ln") (fun cdv A outer s H vs Q E hr h => ⟨rd_l_showsO K, dv_l_showsO T hr, pure_l_showsO K T.ld vs H Q E h⟩)
theorem dv_is_whole_from {f : Addr} {cdv : Value} {A : Around} {outer : List Env} {s : Shared} {H : Hp} {E : XK} (T : Tx K mg base) (hr : Room 1 (A.deeper (envOfC "is_whole_from" (defScope st_is_whole_from) s.heap.objs.size f cdv))) : PSs (cxOf CX0 PP w K mg base N_is_whole_from "is_whole_from" (defScope st_is_whole_from) f cdv A outer s H E).nox (defBody st_is_whole_from) (rd_is_whole_from K) := by
  exact pss_one (ps_ret (pe_and (FW.pe_f (ok_is_whole T) hr (by decide) (by rfl) (pa_cons (pv 0) (pa_nil))) (pe_one (pe_cmpR op_ge (pv 0) (pv 1) (nomark _)))))
theorem ok_is_whole_from (T : Tx K mg base) : Fn PP w K mg base CX0 2 "is_whole_from" (sp_is_whole_from K) [] :=
  Fn.mk0 T.d_is_whole_from T.g_is_whole_from sc_is_whole_from (fun _ _ _ _ _ _ us hl => match us, hl with | [_, _], _ => rfl) (by walk_at "ln") (fun cdv A outer s H vs Q E hr h => ⟨rd_is_whole_from K, dv_is_whole_from T hr, pure_is_whole_from K vs H Q E h⟩)
theorem dv_Average_led {f : Addr} {cdv : Value} {A : Around} {outer : List Env} {s : Shared} {H : Hp} {E : XK} (T : Tx K mg base) (hr : Room 1 (A.deeper (envOfC "Average.led" (defScope st_Average_led) s.heap.objs.size f cdv))) : PSs (cxOf CX0 PP w K mg base N_Average_led "Average.led" (defScope st_Average_led) f cdv A outer s H E).nox (defBody st_Average_led) (rd_Average_led K) := by
  exact pss_cons (ps_set (i := 3) sc_Average_led.nd rfl (Or.inl rfl) (pe_op FW.opDiv (pv 1) (FW.pe_f (ok_power T) hr (by decide) (by rfl) (pa_cons (pv 2) (pa_cons (pe_op FW.opSub (pe_fld (pv 0) rfl) (pe_int)) (pa_nil)))))) (pss_one (ps_ret (pe_op FW.opDiv (pe_op FW.opAdd (pe_op FW.opAdd (pe_op FW.opMul (pe_fld (pv 0) rfl) (pv 2)) (pe_op FW.opMul (pe_fld (pv 0) rfl) (pv 3))) (pe_fld (pv 0) rfl)) (pe_op FW.opAdd (pe_fld (pv 0) rfl) (pe_fld (pv 0) rfl)))))
theorem ok_Average_led (T : Tx K mg base) : Mt PP w K mg base CX0 2 (He.ga K "Average") "led" (sp_Average_led K) [] :=
  Mt.mk0 T.c_Average T.m_Average_led T.d_Average_led sc_Average_led (fun _ _ _ _ _ _ us hl => match us, hl with | [_, _, _], _ => rfl) (by walk_at "ln") (fun cdv A outer s H vs Q E hr h => ⟨rd_Average_led K, dv_Average_led T hr, pure_Average_led K T.av vs H Q E h⟩)
theorem dv_Average_looks {f : Addr} {cdv : Value} {A : Around} {outer : List Env} {s : Shared} {H : Hp} {E : XK} (T : Tx K mg base) (hr : Room 1 (A.deeper (envOfC "Average.looks" (defScope st_Average_looks) s.heap.objs.size f cdv))) : PSs (cxOf CX0 PP w K mg base N_Average_looks "Average.looks" (defScope st_Average_looks) f cdv A outer s H E).nox (defBody st_Average_looks) (rd_Average_looks K) := by
  exact pss_cons (ps_if (pt_cmpR op_eq (pe_fld (pv 0) rfl) (pe_str) (nomark _)) (pss_one (ps_ret (pe_cmpR op_le (FW.pe_f (ok_power T) hr (by decide) (by rfl) (pa_cons (pv 2) (pa_cons (pe_fld (pv 0) rfl) (pa_nil)))) (pv 1) (nomark _)))) (pss_nil)) (pss_one (ps_ret (pe_and (pe_cmpR op_eq (pe_fld (pv 0) rfl) (pe_str) (nomark _)) (pe_one (pe_chain op_le op_lt (FW.pe_f (ok_power T) hr (by decide) (by rfl) (pa_cons (pv 2) (pa_cons (pe_fld (pv 0) rfl) (pa_nil)))) (pv 1) (FW.pe_f (ok_power T) hr (by decide) (by rfl) (pa_cons (pe_op FW.opAdd (pv 2) (pe_int)) (pa_cons (pe_fld (pv 0) rfl) (pa_nil)))))))))
theorem ok_Average_looks (T : Tx K mg base) : Mt PP w K mg base CX0 2 (He.ga K "Average") "looks" (sp_Average_looks K) [] :=
  Mt.mk0 T.c_Average T.m_Average_looks T.d_Average_looks sc_Average_looks (fun _ _ _ _ _ _ us hl => match us, hl with | [_, _, _], _ => rfl) (by walk_at "ln") (fun cdv A outer s H vs Q E hr h => ⟨rd_Average_looks K, dv_Average_looks T hr, pure_Average_looks K T.av vs H Q E h⟩)
theorem dv_Average_ends {f : Addr} {cdv : Value} {A : Around} {outer : List Env} {s : Shared} {H : Hp} {E : XK} (T : Tx K mg base) (hr : Room 1 (A.deeper (envOfC "Average.ends" (defScope st_Average_ends) s.heap.objs.size f cdv))) : PSs (cxOf CX0 PP w K mg base N_Average_ends "Average.ends" (defScope st_Average_ends) f cdv A outer s H E).nox (defBody st_Average_ends) (rd_Average_ends K) := by
  exact pss_cons (ps_if (pt_cmpR op_eq (pe_fld (pv 0) rfl) (pe_str) (nomark _)) (pss_one (ps_ret (pe_cmpR op_ge (pv 2) (pv 1) (nomark _)))) (pss_nil)) (pss_cons (ps_if (pt_cmpR op_in_seq (pe_fld (pv 0) rfl) (pe_tup (pa_cons (pe_str) (pa_cons (pe_str) (pa_nil)))) (by rfl)) (pss_one (ps_ret (pe_cmpR op_le (pe_callB call_abs (by rfl) T.n_abs (by decide +kernel) (pa_cons (pe_op FW.opSub (pv 1) (pv 2)) (pa_nil))) (FW.pe_o0 (ok_Average_nearness T) hr (by decide) (pv 0)) (nomark _)))) (pss_nil)) (pss_one (ps_ret (pe_and (pe_cmpR op_in_seq (pe_fld (pv 0) rfl) (pe_tup (pa_cons (pe_str) (pa_cons (pe_str) (pa_nil)))) (by rfl)) (pe_one (pe_or (pe_cmpR op_eq (pv 2) (pv 1) (nomark _)) (pe_one (pe_and (pe_cmpR op_eq (pe_fld (pv 0) rfl) (pe_str) (nomark _)) (pe_one (pe_cmpR op_eq (pv 2) (pv 3) (nomark _)))))))))))
theorem ok_Average_ends (T : Tx K mg base) : Mt PP w K mg base CX0 2 (He.ga K "Average") "ends" (sp_Average_ends K) [] :=
  Mt.mk0 T.c_Average T.m_Average_ends T.d_Average_ends sc_Average_ends (fun _ _ _ _ _ _ us hl => match us, hl with | [_, _, _, _], _ => rfl) (by walk_at "ln") (fun cdv A outer s H vs Q E hr h => ⟨rd_Average_ends K, dv_Average_ends T hr, pure_Average_ends K T.av vs H Q E h⟩)
theorem dv_Average_mended {f : Addr} {cdv : Value} {A : Around} {outer : List Env} {s : Shared} {H : Hp} {E : XK} (T : Tx K mg base) (hr : Room 1 (A.deeper (envOfC "Average.mended" (defScope st_Average_mended) s.heap.objs.size f cdv))) : PSs (cxOf CX0 PP w K mg base N_Average_mended "Average.mended" (defScope st_Average_mended) f cdv A outer s H E).nox (defBody st_Average_mended) (rd_Average_mended K) := by
  exact pss_cons (ps_if (PW.pt (pw_and (pt_cmpR op_in_seq (pe_fld (pv 0) rfl) (pe_tup (pa_cons (pe_str) (pa_cons (pe_str) (pa_nil)))) (by rfl)) (pw_and1 (pt_cmpR op_gt (FW.pe_f (ok_power T) hr (by decide) (by rfl) (pa_cons (pv 2) (pa_cons (pe_fld (pv 0) rfl) (pa_nil)))) (pv 1) (nomark _))))) (pss_one (ps_ret (pe_op FW.opSub (pv 2) (pe_int)))) (pss_nil)) (pss_cons (ps_if (PW.pt (pw_and (pt_cmpR op_in_seq (pe_fld (pv 0) rfl) (pe_tup (pa_cons (pe_str) (pa_cons (pe_str) (pa_nil)))) (by rfl)) (pw_and1 (pt_cmpR op_le (FW.pe_f (ok_power T) hr (by decide) (by rfl) (pa_cons (pe_op FW.opAdd (pv 2) (pe_int)) (pa_cons (pe_fld (pv 0) rfl) (pa_nil)))) (pv 1) (nomark _))))) (pss_one (ps_ret (pe_op FW.opAdd (pv 2) (pe_int)))) (pss_nil)) (pss_one (ps_ret (pv 2))))
theorem ok_Average_mended (T : Tx K mg base) : Mt PP w K mg base CX0 2 (He.ga K "Average") "mended" (sp_Average_mended K) [] :=
  Mt.mk0 T.c_Average T.m_Average_mended T.d_Average_mended sc_Average_mended (fun _ _ _ _ _ _ us hl => match us, hl with | [_, _, _], _ => rfl) (by walk_at "ln") (fun cdv A outer s H vs Q E hr h => ⟨rd_Average_mended K, dv_Average_mended T hr, pure_Average_mended K T.av vs H Q E h⟩)
theorem dv_Led_undo {f : Addr} {cdv : Value} {A : Around} {outer : List Env} {s : Shared} {H : Hp} {E : XK} (T : Tx K mg base) (hr : Room 1 (A.deeper (envOfC "Led.undo" (defScope st_Led_undo) s.heap.objs.size f cdv))) : PSs (cxOf CX0 PP w K mg base N_Led_undo "Led.undo" (defScope st_Led_undo) f cdv A outer s H E).nox (defBody st_Led_undo) (rd_Led_undo K) := by
  exact pss_cons (ps_if (pt_not (pt_truth (pe_fld (pv 0) rfl) (by intro _; rfl))) (pss_one (ps_ret (pe_bl))) (pss_nil)) (pss_cons (ps_asg (pe_bm0 PySem.F.plainAttrs_list PySem.F.slot_list_pop PySem.F.type_list_pop mt_pop (pe_fld (pv 0) rfl)) (pg_tup rfl (pgs_cons (pg_name (i := 1) sc_Led_undo.nd rfl (Or.inl rfl)) (pgs_cons (pg_name (i := 2) sc_Led_undo.nd rfl (Or.inl rfl)) (pgs_cons (pg_name (i := 3) sc_Led_undo.nd rfl (Or.inl rfl)) (pgs_nil)))))) (pss_cons (ps_expr (FW.pe_o (ok_Led_put_back T) hr (by decide) (pv 0) (pa_cons (pv 1) (pa_cons (pv 2) (pa_cons (pv 3) (pa_nil)))))) (pss_one (ps_ret (pe_bl)))))
theorem ok_Led_undo (T : Tx K mg base) : Mt PP w K mg base CX0 2 (He.ga K "Led") "undo" (sp_Led_undo K) [] :=
  Mt.mk0 T.c_Led T.m_Led_undo T.d_Led_undo sc_Led_undo (fun _ _ _ _ _ _ us hl => match us, hl with | [_], _ => rfl) (by walk_at "ln") (fun cdv A outer s H vs Q E hr h => ⟨rd_Led_undo K, dv_Led_undo T hr, pure_Led_undo K T.ld vs H Q E h⟩)
theorem gv_Led_trial {X : Cx} {cdv : Value} {q : Str} (hP : X.prog = PP) (T : Tx X.K X.mg X.base) : FWP.GivesT X N_Led_trial "Led.trial" (defScope st_Led_trial) (He.ma X.K (He.ga X.K "Led") "trial") cdv (defBody st_Led_trial) "work" 1 q (TT_Led_trial X.K) := by
  obtain ⟨prog, w, K, mg, base, A, N, s_0, H_0, env, outer, stack, ex, fn, calm, pn, xe⟩ := X
  change prog = PP at hP
  subst hP
  change Tx K mg base at T
  intro f c s H vs Q E tl j hr act hc h h8
  refine ⟨rd_Led_trial K f c q tl E, ?_, pure_Led_trial K T.ld f c q tl vs H Q E hc h⟩
  exact pss_cons (ps_asg (FW.pe_o0 (ok_Led_noted T) hr (by omega) (pv 0)) (pg_tup rfl (pgs_cons (pg_name (i := 2) sc_Led_trial.nd rfl (Or.inl rfl)) (pgs_cons (pg_name (i := 3) sc_Led_trial.nd rfl (Or.inl rfl)) (pgs_cons (pg_name (i := 4) sc_Led_trial.nd rfl (Or.inl rfl)) (pgs_nil)))))) (pss_cons (ps_set (i := 5) sc_Led_trial.nd rfl (Or.inl rfl) (pe_callTy call_list_of (by rfl) T.n_list (by decide +kernel) (pa_cons (pe_fld (pv 0) rfl) (pa_nil)))) (pss_one (FWN.ps_retFinN (te := fun W => FWP.tActT W f c q tl 1 (tVar 0)) (Wo := (fun cls d _ H => E cls d H)) rfl rfl rfl (L2N.takes_of rfl rfl rfl rfl) (fun W pn xe tk _ => act _ _ _ _ _ _ _ tk (pv 0) rfl) (pss_cons (ps_fld (pv 0) (pv 2) rfl) (pss_cons (ps_fld (pv 0) (pv 3) rfl) (pss_cons (ps_fld (pv 0) (pv 4) rfl) (pss_one (ps_fld (pv 0) (pv 5) rfl))))) (fun a pn => pss_cons (ps_fld (pv 0) (pv 2) rfl) (pss_cons (ps_fld (pv 0) (pv 3) rfl) (pss_cons (ps_fld (pv 0) (pv 4) rfl) (pss_one (ps_fld (pv 0) (pv 5) rfl))))))))
theorem dv_l_row {f : Addr} {cdv : Value} {A : Around} {outer : List Env} {s : Shared} {H : Hp} {E : XK} (T : Tx K mg base) (hr : Room 1 (A.deeper (envOfC "_law_row" (defScope st_l_row) s.heap.objs.size f cdv))) : PSs (cxOf CX0 PP w K mg base N_l_row "_law_row" (defScope st_l_row) f cdv A outer s H E).nox (defBody st_l_row) (rd_l_row K) := by
  exact pss_cons (ps_set (i := 2) sc_l_row.nd rfl (Or.inl rfl) (pe_ifExp (pt_cmpR op_ge (pe_callB call_abs (by rfl) T.n_abs (by decide +kernel) (pa_cons (pv 0) (pa_nil))) (pe_op FW.opPow (pe_int) (pe_int)) (nomark _)) (pe_callB call_abs (by rfl) T.n_abs (by decide +kernel) (pa_cons (pv 0) (pa_nil))) (pe_int))) (pss_cons (ps_set (i := 3) sc_l_row.nd rfl (Or.inl rfl) (pe_lst (pa_nil))) (pss_cons (ps_for PassesOwn.never rfl (pi_range1 (by rfl) T.n_range (pa_cons (pv 1) (pa_nil))) (pg_name (i := 4) sc_l_row.nd rfl (Or.inl rfl)) (pss_cons (ps_expr (pe_bm PySem.F.plainAttrs_list PySem.F.slot_list_append PySem.F.type_list_append mt_append (pv 3) (pa_cons (pe_op FW.opMod (pe_callTy call_int1 (by rfl) T.n_int (by decide +kernel) (pa_cons (pe_ifExp (pt_cmpR op_gt (pv 2) (pe_int) (nomark _)) (pv 2) (FW.pe_f (ok_l_mixed T) hr (by decide) (by rfl) (pa_cons (pv 0) (pa_cons (pv 4) (pa_nil))))) (pa_nil))) (pe_int)) (pa_nil)))) (pss_one (ps_set (i := 2) sc_l_row.nd rfl (Or.inl rfl) (pe_op FW.opDiv (pv 2) (pe_int)))))) (pss_one (ps_ret (pv 3)))))
theorem ok_l_row (T : Tx K mg base) : Fn PP w K mg base CX0 2 "_law_row" (sp_l_row K) [] :=
  Fn.mk0 T.d_l_row T.g__law_row sc_l_row (fun _ _ _ _ _ _ us hl => match us, hl with | [_, _], _ => rfl) (by walk_at "ln") (fun cdv A outer s H vs Q E hr h => ⟨rd_l_row K, dv_l_row T hr, pure_l_row K vs H Q E h⟩)
theorem dv_l_loop_parts {f : Addr} {cdv : Value} {A : Around} {outer : List Env} {s : Shared} {H : Hp} {E : XK} (T : Tx K mg base) (hr : Room 1 (A.deeper (envOfC "_law_loop_parts" (defScope st_l_loop_parts) s.heap.objs.size f cdv))) : PSs (cxOf CX0 PP w K mg base N_l_loop_parts "_law_loop_parts" (defScope st_l_loop_parts) f cdv A outer s H E).nox (defBody st_l_loop_parts) (rd_l_loop_parts K) := by
  exact pss_cons (ps_set (i := 2) sc_l_loop_parts.nd rfl (Or.inl rfl) (pe_ix ix_list (pe_lst (pa_cons (pe_int) (pa_cons (pe_int) (pa_cons (pe_int) (pa_cons (pe_int) (pa_nil)))))) (pe_op FW.opMod (pe_callTy call_int1 (by rfl) T.n_int (by decide +kernel) (pa_cons (pe_ix ix_list (pv 0) (pv 1) (fun _ _ => rfl)) (pa_nil))) (pe_int)) (fun _ _ => rfl))) (pss_cons (ps_set (i := 3) sc_l_loop_parts.nd rfl (Or.inl rfl) (FW.pe_f (ok_l_weights2 T) hr (by decide) (by rfl) (pa_cons (pv 2) (pa_nil)))) (pss_cons (ps_asg (pe_ix ix_list (pv 3) (pe_op FW.opMod (pe_callTy call_int1 (by rfl) T.n_int (by decide +kernel) (pa_cons (pe_ix ix_list (pv 0) (pe_op FW.opAdd (pv 1) (pe_int)) (fun _ _ => rfl)) (pa_nil))) (pe_callB call_len_seq (by rfl) T.n_len (by decide +kernel) (pa_cons (pv 3) (pa_nil)))) (fun _ _ => rfl)) (pg_tup rfl (pgs_cons (pg_name (i := 4) sc_l_loop_parts.nd rfl (Or.inl rfl)) (pgs_cons (pg_name (i := 5) sc_l_loop_parts.nd rfl (Or.inl rfl)) (pgs_nil))))) (pss_cons (ps_if (pt_cmpR op_eq (pe_op FW.opMod (pe_op FW.opDiv (pe_callTy call_int1 (by rfl) T.n_int (by decide +kernel) (pa_cons (pe_ix ix_list (pv 0) (pe_op FW.opAdd (pv 1) (pe_int)) (fun _ _ => rfl)) (pa_nil))) (pe_int)) (pe_int)) (pe_int) (nomark _)) (pss_one (ps_par (by rfl) sc_l_loop_parts.nd rfl rfl (by decide) rfl rfl (pa_cons (pe_op FW.opSub (pv 2) (pe_int)) (pa_cons (pe_int) (pa_nil))) (by rfl))) (pss_nil)) (pss_cons (ps_set (i := 6) sc_l_loop_parts.nd rfl (Or.inl rfl) (pe_op FW.opSub (pe_op FW.opMod (pe_callTy call_int1 (by rfl) T.n_int (by decide +kernel) (pa_cons (pe_ix ix_list (pv 0) (pe_op FW.opAdd (pv 1) (pe_int)) (fun _ _ => rfl)) (pa_nil))) (pe_op FW.opAdd (pe_op FW.opAdd (pe_op FW.opMul (pe_int) (pv 4)) (pv 5)) (pe_int))) (pv 4))) (pss_cons (ps_if (pt_cmpR op_eq (pe_op FW.opMod (pe_op FW.opDiv (pe_callTy call_int1 (by rfl) T.n_int (by decide +kernel) (pa_cons (pe_ix ix_list (pv 0) (pe_op FW.opAdd (pv 1) (pe_int)) (fun _ _ => rfl)) (pa_nil))) (pe_int)) (pe_int)) (pe_int) (nomark _)) (pss_one (ps_set (i := 6) sc_l_loop_parts.nd rfl (Or.inl rfl) (pe_int))) (pss_nil)) (pss_cons (ps_set (i := 7) sc_l_loop_parts.nd rfl (Or.inl rfl) (pe_ix ix_list (pe_lst (pa_cons (pe_str) (pa_cons (pe_str) (pa_cons (pe_str) (pa_cons (pe_str) (pa_cons (pe_str) (pa_cons (pe_str) (pa_cons (pe_str) (pa_nil))))))))) (pe_op FW.opMod (pe_callTy call_int1 (by rfl) T.n_int (by decide +kernel) (pa_cons (pe_ix ix_list (pv 0) (pe_op FW.opAdd (pv 1) (pe_int)) (fun _ _ => rfl)) (pa_nil))) (pe_int)) (fun _ _ => rfl))) (pss_cons (ps_set (i := 8) sc_l_loop_parts.nd rfl (Or.inl rfl) (pe_ix ix_list (pe_lst (pa_cons (pe_str) (pa_cons (pe_str) (pa_cons (pe_str) (pa_cons (pe_str) (pa_nil)))))) (pe_op FW.opMod (pe_callTy call_int1 (by rfl) T.n_int (by decide +kernel) (pa_cons (pe_ix ix_list (pv 0) (pe_op FW.opAdd (pv 1) (pe_int)) (fun _ _ => rfl)) (pa_nil))) (pe_int)) (fun _ _ => rfl))) (pss_cons (ps_if (pt_cmpR op_in_seq (pv 7) (pe_lst (pa_cons (pe_str) (pa_cons (pe_str) (pa_nil)))) (by rfl)) (pss_one (ps_set (i := 8) sc_l_loop_parts.nd rfl (Or.inl rfl) (pe_str))) (pss_nil)) (pss_one (ps_ret (pe_lst (pa_cons (pv 2) (pa_cons (pv 4) (pa_cons (pv 5) (pa_cons (pv 6) (pa_cons (pv 7) (pa_cons (pv 8) (pa_cons (pe_ix ix_list (pe_lst (pa_cons (pe_str) (pa_cons (pe_str) (pa_cons (pe_str) (pa_cons (pe_str) (pa_nil)))))) (pe_op FW.opMod (pe_callTy call_int1 (by rfl) T.n_int (by decide +kernel) (pa_cons (pe_ix ix_list (pv 0) (pe_op FW.opAdd (pv 1) (pe_int)) (fun _ _ => rfl)) (pa_nil))) (pe_int)) (fun _ _ => rfl)) (pa_nil)))))))))))))))))))
theorem ok_l_loop_parts (T : Tx K mg base) : Fn PP w K mg base CX0 2 "_law_loop_parts" (sp_l_loop_parts K) [] :=
  Fn.mk0 T.d_l_loop_parts T.g__law_loop_parts sc_l_loop_parts (fun _ _ _ _ _ _ us hl => match us, hl with | [_, _], _ => rfl) (by walk_at "ln") (fun cdv A outer s H vs Q E hr h => ⟨rd_l_loop_parts K, dv_l_loop_parts T hr, pure_l_loop_parts K vs H Q E h⟩)
theorem dv_l_led_to {f : Addr} {cdv : Value} {A : Around} {outer : List Env} {s : Shared} {H : Hp} {E : XK} (T : Tx K mg base) (hr : Room 1 (A.deeper (envOfC "_law_led_to" (defScope st_l_led_to) s.heap.objs.size f cdv))) : PSs (cxOf CX0 PP w K mg base N_l_led_to "_law_led_to" (defScope st_l_led_to) f cdv A outer s H E).nox (defBody st_l_led_to) (rd_l_led_to K) := by
  exact pss_cons (ps_asg (pe_slice sl_list (pv 0) (po_none) (po_some (pe_int))) (pg_lst rfl (pgs_cons (pg_name (i := 3) sc_l_led_to.nd rfl (Or.inl rfl)) (pgs_cons (pg_name (i := 4) sc_l_led_to.nd rfl (Or.inl rfl)) (pgs_cons (pg_name (i := 5) sc_l_led_to.nd rfl (Or.inl rfl)) (pgs_cons (pg_name (i := 6) sc_l_led_to.nd rfl (Or.inl rfl)) (pgs_nil))))))) (pss_one (ps_ret (pe_op FW.opDiv (pe_op FW.opAdd (pe_op FW.opAdd (pe_op FW.opMul (pv 4) (pv 2)) (pe_op FW.opMul (pv 5) (pe_op FW.opDiv (pv 1) (FW.pe_f (ok_l_power T) hr (by decide) (by rfl) (pa_cons (pv 2) (pa_cons (pe_op FW.opSub (pv 3) (pe_int)) (pa_nil))))))) (pv 6)) (pe_op FW.opAdd (pv 4) (pv 5)))))
theorem ok_l_led_to (T : Tx K mg base) : Fn PP w K mg base CX0 2 "_law_led_to" (sp_l_led_to K) [] :=
  Fn.mk0 T.d_l_led_to T.g__law_led_to sc_l_led_to (fun _ _ _ _ _ _ us hl => match us, hl with | [_, _, _], _ => rfl) (by walk_at "ln") (fun cdv A outer s H vs Q E hr h => ⟨rd_l_led_to K, dv_l_led_to T hr, pure_l_led_to K vs H Q E h⟩)
theorem dv_l_looks2 {f : Addr} {cdv : Value} {A : Around} {outer : List Env} {s : Shared} {H : Hp} {E : XK} (T : Tx K mg base) (hr : Room 1 (A.deeper (envOfC "_law_looks" (defScope st_l_looks2) s.heap.objs.size f cdv))) : PSs (cxOf CX0 PP w K mg base N_l_looks2 "_law_looks" (defScope st_l_looks2) f cdv A outer s H E).nox (defBody st_l_looks2) (rd_l_looks2 K) := by
  exact pss_cons (ps_par (by rfl) sc_l_looks2.nd rfl rfl (by decide) rfl rfl (pa_cons (pe_ix ix_list (pv 0) (pe_int) (fun _ _ => rfl)) (pa_cons (pe_ix ix_list (pv 0) (pe_int) (fun _ _ => rfl)) (pa_nil))) (by rfl)) (pss_cons (ps_if (PW.pt (pw_or (pt_cmpR op_notIn_seq (pv 4) (pe_lst (pa_cons (pe_str) (pa_cons (pe_str) (pa_nil)))) (by rfl)) (pw_or1 (pt_cmpR op_gt (FW.pe_f (ok_l_power T) hr (by decide) (by rfl) (pa_cons (pv 2) (pa_cons (pv 3) (pa_nil)))) (pv 1) (nomark _))))) (pss_one (ps_ret (pe_bl))) (pss_nil)) (pss_one (ps_ret (pe_or (pe_cmpR op_eq (pv 4) (pe_str) (nomark _)) (pe_one (pe_cmpR op_gt (FW.pe_f (ok_l_power T) hr (by decide) (by rfl) (pa_cons (pe_op FW.opAdd (pv 2) (pe_int)) (pa_cons (pv 3) (pa_nil)))) (pv 1) (nomark _)))))))
theorem ok_l_looks2 (T : Tx K mg base) : Fn PP w K mg base CX0 2 "_law_looks" (sp_l_looks2 K) [] :=
  Fn.mk0 T.d_l_looks2 T.g__law_looks sc_l_looks2 (fun _ _ _ _ _ _ us hl => match us, hl with | [_, _, _], _ => rfl) (by walk_at "ln") (fun cdv A outer s H vs Q E hr h => ⟨rd_l_looks2 K, dv_l_looks2 T hr, pure_l_looks2 K vs H Q E h⟩)
theorem dv_l_mended2 {f : Addr} {cdv : Value} {A : Around} {outer : List Env} {s : Shared} {H : Hp} {E : XK} (T : Tx K mg base) (hr : Room 1 (A.deeper (envOfC "_law_mended" (defScope st_l_mended2) s.heap.objs.size f cdv))) : PSs (cxOf CX0 PP w K mg base N_l_mended2 "_law_mended" (defScope st_l_mended2) f cdv A outer s H E).nox (defBody st_l_mended2) (rd_l_mended2 K) := by
  exact pss_cons (ps_par (by rfl) sc_l_mended2.nd rfl rfl (by decide) rfl rfl (pa_cons (pe_ix ix_list (pv 0) (pe_int) (fun _ _ => rfl)) (pa_cons (pe_ix ix_list (pv 0) (pe_int) (fun _ _ => rfl)) (pa_nil))) (by rfl)) (pss_cons (ps_if (PW.pt (pw_and (pt_cmpR op_in_seq (pv 4) (pe_lst (pa_cons (pe_str) (pa_cons (pe_str) (pa_nil)))) (by rfl)) (pw_and1 (pt_cmpR op_gt (FW.pe_f (ok_l_power T) hr (by decide) (by rfl) (pa_cons (pv 2) (pa_cons (pv 3) (pa_nil)))) (pv 1) (nomark _))))) (pss_one (ps_ret (pe_op FW.opSub (pv 2) (pe_int)))) (pss_nil)) (pss_one (ps_ret (pe_op FW.opAdd (pv 2) (pe_callTy call_int1 (by rfl) T.n_int (by decide +kernel) (pa_cons (pe_and (pe_cmpR op_in_seq (pv 4) (pe_lst (pa_cons (pe_str) (pa_cons (pe_str) (pa_nil)))) (by rfl)) (pe_one (pe_cmpR op_le (FW.pe_f (ok_l_power T) hr (by decide) (by rfl) (pa_cons (pe_op FW.opAdd (pv 2) (pe_int)) (pa_cons (pv 3) (pa_nil)))) (pv 1) (nomark _)))) (pa_nil)))))))
theorem ok_l_mended2 (T : Tx K mg base) : Fn PP w K mg base CX0 2 "_law_mended" (sp_l_mended2 K) [] :=
  Fn.mk0 T.d_l_mended2 T.g__law_mended sc_l_mended2 (fun _ _ _ _ _ _ us hl => match us, hl with | [_, _, _], _ => rfl) (by walk_at "ln") (fun cdv A outer s H vs Q E hr h => ⟨rd_l_mended2 K, dv_l_mended2 T hr, pure_l_mended2 K vs H Q E h⟩)
theorem dv_check_numberX {f : Addr} {cdv : Value} {A : Around} {outer : List Env} {s : Shared} {H : Hp} {E : XK} (T : Tx K mg base) (hr : Room 2 (A.deeper (envOfC "check_number" (defScope st_check_number) s.heap.objs.size f cdv))) : PSs (cxOf (FWN.CXP PP w) PP w K mg base N_check_number "check_number" (defScope st_check_number) f cdv A outer s H E) (defBody st_check_number) (rd_check_numberX K E) := by
  exact pss_one (ps_if (pt_not (pt_val (FW.pe_f (ok_is_whole_from T) hr (by decide) (by rfl) (pa_cons (pv 0) (pa_cons (pe_int) (pa_nil)))))) (pss_one (FWN.ps_raiseE rfl T.e_BadNumber (Or.inl rfl) T.g_BadNumber hr (L2N.takes_of rfl rfl rfl rfl) (pa_cons (pv 0) (pa_nil)) (by rfl))) (pss_nil))
theorem ok_check_numberX (T : Tx K mg base) : Fn PP w K mg base (FWN.CXP PP w) 3 "check_number" (sp_check_numberX K) [] :=
  FWN.Fn.mkX T.d_check_number T.g_check_number sc_check_number (fun _ _ _ _ _ _ us hl => match us, hl with | [_], _ => rfl) (by walk_at "ln") (fun cdv A outer s H vs Q E hr h => ⟨rd_check_numberX K E, dv_check_numberX T hr, pure_check_numberX K vs H Q E h⟩)
theorem dv_wrong_part {f : Addr} {cdv : Value} {A : Around} {outer : List Env} {s : Shared} {H : Hp} {E : XK} (T : Tx K mg base) (hr : Room 2 (A.deeper (envOfC "wrong_part" (defScope st_wrong_part) s.heap.objs.size f cdv))) : PSs (cxOf CX0 PP w K mg base N_wrong_part "wrong_part" (defScope st_wrong_part) f cdv A outer s H E).nox (defBody st_wrong_part) (rd_wrong_part K) := by
  exact pss_cons (ps_if (PW.pt (pw_or (pt_not (pt_val (FW.pe_f (ok_is_whole T) hr (by decide) (by rfl) (pa_cons (pv 0) (pa_nil))))) (pw_or1 (pt_cmpR op_notIn_seq (pv 0) (pe_tup (pa_cons (pe_int) (pa_cons (pe_int) (pa_cons (pe_int) (pa_nil))))) (by rfl))))) (pss_one (ps_ret (pe_str))) (pss_nil)) (pss_cons (ps_if (PW.pt (pw_or (pt_not (pt_val (FW.pe_f (ok_is_whole T) hr (by decide) (by rfl) (pa_cons (pv 1) (pa_nil))))) (pw_or1 (pt_not (pt_chain op_le op_le (pe_int) (pv 1) (pe_int)))))) (pss_one (ps_ret (pe_str))) (pss_nil)) (pss_cons (ps_if (PW.pt (pw_or (pt_not (pt_val (FW.pe_f (ok_is_whole_from T) hr (by decide) (by rfl) (pa_cons (pv 2) (pa_cons (pe_int) (pa_nil)))))) (pw_or (pt_cmpR op_lt (pv 1) (pe_op FW.opMul (pv 2) (pe_op FW.opSub (pv 0) (pe_int))) (nomark _)) (pw_or1 (pt_cmpR op_gt (pe_op FW.opAdd (pv 1) (pv 2)) (pe_int) (nomark _)))))) (pss_one (ps_ret (pe_str))) (pss_nil)) (pss_cons (ps_if (PW.pt (pw_or (pt_not (pt_val (FW.pe_f (ok_is_whole T) hr (by decide) (by rfl) (pa_cons (pv 3) (pa_nil))))) (pw_or1 (pt_not (pt_chain op_le op_le (pe_un un_neg (pv 1)) (pv 3) (pe_op FW.opAdd (pv 1) (pv 2))))))) (pss_one (ps_ret (pe_str))) (pss_nil)) (pss_cons (ps_if (pt_not (pt_val (FW.pe_f (ok_is_word_of T) hr (by decide) (by rfl) (pa_cons (pv 4) (pa_cons (FW.pe_gref (by rfl) T.g_STOPS) (pa_nil)))))) (pss_one (ps_ret (pe_str))) (pss_nil)) (pss_cons (ps_if (PW.pt (pw_or (pt_not (pt_val (FW.pe_f (ok_is_word_of T) hr (by decide) (by rfl) (pa_cons (pv 5) (pa_cons (FW.pe_gref (by rfl) T.g_TOLDS) (pa_nil)))))) (pw_or1 (PW.pt (pw_and (pt_cmpR op_in_seq (pv 4) (FW.pe_gref (by rfl) T.g_LOOKS) (by rfl)) (pw_and1 (pt_cmpR op_ne (pv 5) (pe_str) (nomark _)))))))) (pss_one (ps_ret (pe_str))) (pss_nil)) (pss_one (ps_ret (pe_ifExp (pt_val (FW.pe_f (ok_is_word_of T) hr (by decide) (by rfl) (pa_cons (pv 6) (pa_cons (FW.pe_gref (by rfl) T.g_MENDS) (pa_nil))))) (pe_non) (pe_str)))))))))
theorem ok_wrong_part (T : Tx K mg base) : Fn PP w K mg base CX0 3 "wrong_part" (sp_wrong_part K) [] :=
  Fn.mk0 T.d_wrong_part T.g_wrong_part sc_wrong_part (fun _ _ _ _ _ _ us hl => match us, hl with | [_, _, _, _, _, _, _], _ => rfl) (by walk_at "ln") (fun cdv A outer s H vs Q E hr h => ⟨rd_wrong_part K, dv_wrong_part T hr, pure_wrong_part K T.av vs H Q E h⟩)
theorem dv_check_startX {f : Addr} {cdv : Value} {A : Around} {outer : List Env} {s : Shared} {H : Hp} {E : XK} (T : Tx K mg base) (hr : Room 2 (A.deeper (envOfC "check_start" (defScope st_check_start) s.heap.objs.size f cdv))) : PSs (cxOf (FWN.CXP PP w) PP w K mg base N_check_start "check_start" (defScope st_check_start) f cdv A outer s H E) (defBody st_check_start) (rd_check_startX K E) := by
  exact pss_one (ps_if (pt_not (pt_val (FW.pe_f (ok_is_whole_from T) hr (by decide) (by rfl) (pa_cons (pv 0) (pa_cons (pe_int) (pa_nil)))))) (pss_one (FWN.ps_raiseE rfl T.e_BadStart (Or.inl rfl) T.g_BadStart hr (L2N.takes_of rfl rfl rfl rfl) (pa_cons (pv 0) (pa_nil)) (by rfl))) (pss_nil))
theorem ok_check_startX (T : Tx K mg base) : Fn PP w K mg base (FWN.CXP PP w) 3 "check_start" (sp_check_startX K) [] :=
  FWN.Fn.mkX T.d_check_start T.g_check_start sc_check_start (fun _ _ _ _ _ _ us hl => match us, hl with | [_], _ => rfl) (by walk_at "ln") (fun cdv A outer s H vs Q E hr h => ⟨rd_check_startX K E, dv_check_startX T hr, pure_check_startX K vs H Q E h⟩)
theorem dv_Led_tell {f : Addr} {cdv : Value} {A : Around} {outer : List Env} {s : Shared} {H : Hp} {E : XK} (T : Tx K mg base) (hr : Room 2 (A.deeper (envOfC "Led.tell" (defScope st_Led_tell) s.heap.objs.size f cdv))) : PSs (cxOf CX0 PP w K mg base N_Led_tell "Led.tell" (defScope st_Led_tell) f cdv A outer s H E).nox (defBody st_Led_tell) (rd_Led_tell K) := by
  exact pss_cons (ps_expr (pe_bm PySem.F.plainAttrs_list PySem.F.slot_list_append PySem.F.type_list_append mt_append (pe_fld (pv 0) rfl) (pa_cons (FW.pe_o0 (ok_Led_noted T) hr (by decide) (pv 0)) (pa_nil)))) (pss_cons (ps_fld (pv 0) (FW.pe_o (ok_Average_mended T) hr (by decide) (pe_fld (pv 0) rfl) (pa_cons (pe_fld (pv 0) rfl) (pa_cons (pv 1) (pa_nil)))) rfl) (pss_one (ps_ret (pe_str))))
theorem ok_Led_tell (T : Tx K mg base) : Mt PP w K mg base CX0 3 (He.ga K "Led") "tell" (sp_Led_tell K) [] :=
  Mt.mk0 T.c_Led T.m_Led_tell T.d_Led_tell sc_Led_tell (fun _ _ _ _ _ _ us hl => match us, hl with | [_, _], _ => rfl) (by walk_at "ln") (fun cdv A outer s H vs Q E hr h => ⟨rd_Led_tell K, dv_Led_tell T hr, pure_Led_tell K T.ld vs H Q E h⟩)
theorem dv_l_round {f : Addr} {cdv : Value} {A : Around} {outer : List Env} {s : Shared} {H : Hp} {E : XK} (T : Tx K mg base) (hr : Room 2 (A.deeper (envOfC "_law_round" (defScope st_l_round) s.heap.objs.size f cdv))) : PSs (cxOf CX0 PP w K mg base N_l_round "_law_round" (defScope st_l_round) f cdv A outer s H E).nox (defBody st_l_round) (rd_l_round K) := by
  exact pss_cons (ps_asg (pe_ix ix_list (pv 0) (pe_un un_neg (pe_int)) (fun _ _ => rfl)) (pg_tup rfl (pgs_cons (pg_name (i := 3) sc_l_round.nd rfl (Or.inl rfl)) (pgs_cons (pg_name (i := 4) sc_l_round.nd rfl (Or.inl rfl)) (pgs_cons (pg_name (i := 5) sc_l_round.nd rfl (Or.inl rfl)) (pgs_nil)))))) (pss_cons (ps_if (pt_cmpR op_notN (pv 5) (pe_non) (nomark _)) (pss_one (ps_ret (pe_str))) (pss_nil)) (pss_cons (ps_set (i := 6) sc_l_round.nd rfl (Or.inl rfl) (pe_ifExp (pt_val (FW.pe_f (ok_l_looks2 T) hr (by decide) (by rfl) (pa_cons (pv 1) (pa_cons (pv 2) (pa_cons (pv 3) (pa_nil)))))) (pv 3) (pe_non))) (pss_cons (ps_if (PW.pt (pw_and (pt_cmpR op_isN (pv 6) (pe_non) (nomark _)) (pw_and1 (pt_cmpR op_eq (pv 3) (pe_int) (nomark _))))) (pss_one (ps_ret (pe_str))) (pss_nil)) (pss_cons (ps_if (pt_cmpR op_isN (pv 6) (pe_non) (nomark _)) (pss_cons (ps_set (i := 7) sc_l_round.nd rfl (Or.inl rfl) (FW.pe_f (ok_l_led_to T) hr (by decide) (by rfl) (pa_cons (pv 1) (pa_cons (pv 2) (pa_cons (pv 3) (pa_nil)))))) (pss_cons (ps_if (pt_not (pt_val (FW.pe_f (ok_l_ends2 T) hr (by decide) (by rfl) (pa_cons (pv 1) (pa_cons (pv 3) (pa_cons (pv 7) (pa_cons (pv 4) (pa_nil)))))))) (pss_cons (ps_expr (pe_bm PySem.F.plainAttrs_list PySem.F.slot_list_append PySem.F.type_list_append mt_append (pv 0) (pa_cons (pe_tup (pa_cons (pv 7) (pa_cons (pv 3) (pa_cons (pe_non) (pa_nil))))) (pa_nil)))) (pss_one (ps_ret (pe_str)))) (pss_nil)) (pss_one (ps_set (i := 6) sc_l_round.nd rfl (Or.inl rfl) (FW.pe_f (ok_l_chosen2 T) hr (by decide) (by rfl) (pa_cons (pv 1) (pa_cons (pv 3) (pa_cons (pv 7) (pa_nil))))))))) (pss_nil)) (pss_cons (ps_expr (pe_bm PySem.F.plainAttrs_list PySem.F.slot_list_append PySem.F.type_list_append mt_append (pv 0) (pa_cons (pe_tup (pa_cons (pv 3) (pa_cons (pv 4) (pa_cons (FW.pe_f (ok_l_mended2 T) hr (by decide) (by rfl) (pa_cons (pv 1) (pa_cons (pv 2) (pa_cons (pv 6) (pa_nil))))) (pa_nil))))) (pa_nil)))) (pss_one (ps_ret (pe_str))))))))
theorem ok_l_round (T : Tx K mg base) : Fn PP w K mg base CX0 3 "_law_round" (sp_l_round K) [] :=
  Fn.mk0 T.d_l_round T.g__law_round sc_l_round (fun _ _ _ _ _ _ us hl => match us, hl with | [_, _, _], _ => rfl) (by walk_at "ln") (fun cdv A outer s H vs Q E hr h => ⟨rd_l_round K, dv_l_round T hr, pure_l_round K vs H Q E h⟩)
theorem dv_l_undone {f : Addr} {cdv : Value} {A : Around} {outer : List Env} {s : Shared} {H : Hp} {E : XK} (T : Tx K mg base) (hr : Room 2 (A.deeper (envOfC "_law_undone" (defScope st_l_undone) s.heap.objs.size f cdv))) : PSs (cxOf CX0 PP w K mg base N_l_undone "_law_undone" (defScope st_l_undone) f cdv A outer s H E).nox (defBody st_l_undone) (rd_l_undone K) := by
  exact pss_cons (ps_if (pt_cmpR op_eq (pe_callB call_len_seq (by rfl) T.n_len (by decide +kernel) (pa_cons (pv 0) (pa_nil))) (pe_int) (nomark _)) (pss_one (ps_ret (pe_cmpR FW.op_isB (FW.pe_o0 (ok_Led_undo T) hr (by decide) (pv 1)) (pe_bl) (nomark _)))) (pss_nil)) (pss_cons (ps_expr (pe_bm0 PySem.F.plainAttrs_list PySem.F.slot_list_pop PySem.F.type_list_pop mt_pop (pv 0))) (pss_one (ps_ret (pe_cmpR FW.op_isB (FW.pe_o0 (ok_Led_undo T) hr (by decide) (pv 1)) (pe_bl) (nomark _)))))
theorem ok_l_undone (T : Tx K mg base) : Fn PP w K mg base CX0 3 "_law_undone" (sp_l_undone K) [] :=
  Fn.mk0 T.d_l_undone T.g__law_undone sc_l_undone (fun _ _ _ _ _ _ us hl => match us, hl with | [_, _], _ => rfl) (by walk_at "ln") (fun cdv A outer s H vs Q E hr h => ⟨rd_l_undone K, dv_l_undone T hr, pure_l_undone K T.ld vs H Q E h⟩)
theorem dv_Average_init {f : Addr} {cdv : Value} {A : Around} {outer : List Env} {s : Shared} {H : Hp} {E : XK} (T : Tx K mg base) (hr : Room 3 (A.deeper (envOfC "Average.__init__" (defScope st_Average_init) s.heap.objs.size f cdv))) : PSs (cxOf CX0 PP w K mg base N_Average_init "Average.__init__" (defScope st_Average_init) f cdv A outer s H E).nox (defBody st_Average_init) (rd_Average_init K) := by
  exact pss_cons (ps_set (i := 8) sc_Average_init.nd rfl (Or.inl rfl) (FW.pe_f (ok_wrong_part T) hr (by decide) (by rfl) (pa_cons (pv 1) (pa_cons (pv 2) (pa_cons (pv 3) (pa_cons (pv 4) (pa_cons (pv 5) (pa_cons (pv 6) (pa_cons (pv 7) (pa_nil)))))))))) (pss_cons (ps_if (pt_cmpR op_notN (pv 8) (pe_non) (nomark _)) (pss_one (ps_never)) (pss_nil)) (pss_cons (ps_fld (pv 0) (pv 1) rfl) (pss_cons (ps_fld (pv 0) (pv 2) rfl) (pss_cons (ps_fld (pv 0) (pv 3) rfl) (pss_cons (ps_fld (pv 0) (pv 4) rfl) (pss_cons (ps_fld (pv 0) (pv 5) rfl) (pss_cons (ps_fld (pv 0) (pv 6) rfl) (pss_one (ps_fld (pv 0) (pv 7) rfl)))))))))
theorem ok_Average_init (T : Tx K mg base) : Mkr PP w K mg base CX0 4 "Average" (He.ga K "Average") (sp_Average_init K) [] :=
  Mkr.mkD 8 2 T.k_Average T.g_Average T.d_Average_init sc_Average_init (by simp) rfl (fun _ _ _ _ _ _ _ us its hl hi => match us, its, hl, hi with | [_, _, _, _, _, _, _, _], [_, _], _, _ => ⟨_, rfl, rfl⟩) (by walk_at "ln") (fun cdv A outer s H vs Q E hr h => ⟨rd_Average_init K, dv_Average_init T hr, pure_Average_init K T.av vs H Q E h⟩)
theorem dv_Led_initX {f : Addr} {cdv : Value} {A : Around} {outer : List Env} {s : Shared} {H : Hp} {E : XK} (T : Tx K mg base) (hr : Room 3 (A.deeper (envOfC "Led.__init__" (defScope st_Led_init) s.heap.objs.size f cdv))) : PSs (cxOf (FWN.CXP PP w) PP w K mg base N_Led_init "Led.__init__" (defScope st_Led_init) f cdv A outer s H E) (defBody st_Led_init) (rd_Led_initX K E) := by
  exact pss_cons (ps_expr (FWN.pe_fX (L2N.takes_of rfl rfl rfl rfl) (ok_check_numberX T) hr (by decide) (by rfl) (pa_cons (pv 2) (pa_nil)))) (pss_cons (ps_expr (FWN.pe_fX (L2N.takes_of rfl rfl rfl rfl) (ok_check_startX T) hr (by decide) (by rfl) (pa_cons (pv 3) (pa_nil)))) (pss_cons (ps_fld (pv 0) (pv 1) rfl) (pss_cons (ps_fld (pv 0) (pv 2) rfl) (pss_cons (ps_fld (pv 0) (pv 3) rfl) (pss_cons (ps_fld (pv 0) (pv 3) rfl) (pss_cons (ps_fld (pv 0) (pe_non) rfl) (pss_cons (ps_fld (pv 0) (pe_non) rfl) (pss_one (ps_fld (pv 0) (pe_lst (pa_nil)) rfl)))))))))
theorem ok_Led_initX (T : Tx K mg base) : Mkr PP w K mg base (FWN.CXP PP w) 4 "Led" (He.ga K "Led") (sp_Led_initX K) [] :=
  FWN.Mkr.mkX0 T.k_Led T.g_Led T.d_Led_init sc_Led_init (fun _ _ _ _ _ _ us hl => match us, hl with | [_, _, _, _], _ => rfl) (by walk_at "ln") (fun cdv A outer s H vs Q E hr h => ⟨rd_Led_initX K E, dv_Led_initX T hr, pure_Led_initX K T.ld vs H Q E h⟩)
theorem dv_Led_roundX {f : Addr} {cdv : Value} {A : Around} {outer : List Env} {s : Shared} {H : Hp} {E : XK} (T : Tx K mg base) (hr : Room 3 (A.deeper (envOfC "Led.round" (defScope st_Led_round) s.heap.objs.size f cdv))) : PSs (cxOf (FWN.CXP PP w) PP w K mg base N_Led_round "Led.round" (defScope st_Led_round) f cdv A outer s H E) (defBody st_Led_round) (rd_Led_roundX K E) := by
  exact pss_cons (ps_if (pt_cmpR op_notN (pe_fld (pv 0) rfl) (pe_non) (nomark _)) (pss_one (ps_ret (pe_str))) (pss_nil)) (pss_cons (ps_set (i := 1) sc_Led_round.nd rfl (Or.inl rfl) (pe_fld (pv 0) rfl)) (pss_cons (ps_if (pt_val (FW.pe_o (ok_Average_looks T) hr (by decide) (pe_fld (pv 0) rfl) (pa_cons (pe_fld (pv 0) rfl) (pa_cons (pv 1) (pa_nil))))) (pss_one (ps_ret (FW.pe_o (ok_Led_tell T) hr (by decide) (pv 0) (pa_cons (pv 1) (pa_nil))))) (pss_nil)) (pss_cons (ps_if (pt_cmpR op_eq (pv 1) (pe_int) (nomark _)) (pss_one (FWN.ps_raise0 rfl T.e_NoGuess T.g_NoGuess hr (L2N.takes_of rfl rfl rfl rfl) (by rfl))) (pss_nil)) (pss_cons (ps_set (i := 2) sc_Led_round.nd rfl (Or.inl rfl) (FW.pe_o (ok_Average_led T) hr (by decide) (pe_fld (pv 0) rfl) (pa_cons (pe_fld (pv 0) rfl) (pa_cons (pv 1) (pa_nil))))) (pss_cons (ps_if (pt_val (FW.pe_o (ok_Average_ends T) hr (by decide) (pe_fld (pv 0) rfl) (pa_cons (pv 1) (pa_cons (pv 2) (pa_cons (pe_fld (pv 0) rfl) (pa_nil)))))) (pss_one (ps_ret (FW.pe_o (ok_Led_tell T) hr (by decide) (pv 0) (pa_cons (FW.pe_o (ok_Average_chosen T) hr (by decide) (pe_fld (pv 0) rfl) (pa_cons (pv 1) (pa_cons (pv 2) (pa_nil)))) (pa_nil))))) (pss_nil)) (pss_cons (ps_expr (pe_bm PySem.F.plainAttrs_list PySem.F.slot_list_append PySem.F.type_list_append mt_append (pe_fld (pv 0) rfl) (pa_cons (FW.pe_o0 (ok_Led_noted T) hr (by decide) (pv 0)) (pa_nil)))) (pss_cons (ps_expr (FW.pe_o (ok_Led_put_back T) hr (by decide) (pv 0) (pa_cons (pv 2) (pa_cons (pv 1) (pa_cons (pe_non) (pa_nil)))))) (pss_one (ps_ret (pe_str))))))))))
theorem ok_Led_roundX (T : Tx K mg base) : Mt PP w K mg base (FWN.CXP PP w) 4 (He.ga K "Led") "round" (sp_Led_roundX K) [] :=
  FWN.Mt.mkX T.c_Led T.m_Led_round T.d_Led_round sc_Led_round (fun _ _ _ _ _ _ us hl => match us, hl with | [_], _ => rfl) (by walk_at "ln") (fun cdv A outer s H vs Q E hr h => ⟨rd_Led_roundX K E, dv_Led_roundX T hr, pure_Led_roundX K T.ld vs H Q E h⟩)
theorem dv_Led_putX {f : Addr} {cdv : Value} {A : Around} {outer : List Env} {s : Shared} {H : Hp} {E : XK} (T : Tx K mg base) (hr : Room 3 (A.deeper (envOfC "Led.put" (defScope st_Led_put) s.heap.objs.size f cdv))) : PSs (cxOf (FWN.CXP PP w) PP w K mg base N_Led_put "Led.put" (defScope st_Led_put) f cdv A outer s H E) (defBody st_Led_put) (rd_Led_putX K E) := by
  exact pss_cons (ps_expr (FWN.pe_fX (L2N.takes_of rfl rfl rfl rfl) (ok_check_startX T) hr (by decide) (by rfl) (pa_cons (pv 1) (pa_nil)))) (pss_cons (ps_expr (pe_bm PySem.F.plainAttrs_list PySem.F.slot_list_append PySem.F.type_list_append mt_append (pe_fld (pv 0) rfl) (pa_cons (FW.pe_o0 (ok_Led_noted T) hr (by decide) (pv 0)) (pa_nil)))) (pss_one (ps_expr (FW.pe_o (ok_Led_put_back T) hr (by decide) (pv 0) (pa_cons (pv 1) (pa_cons (pe_non) (pa_cons (pe_non) (pa_nil))))))))
theorem ok_Led_putX (T : Tx K mg base) : Mt PP w K mg base (FWN.CXP PP w) 4 (He.ga K "Led") "put" (sp_Led_putX K) [] :=
  FWN.Mt.mkX T.c_Led T.m_Led_put T.d_Led_put sc_Led_put (fun _ _ _ _ _ _ us hl => match us, hl with | [_, _], _ => rfl) (by walk_at "ln") (fun cdv A outer s H vs Q E hr h => ⟨rd_Led_putX K E, dv_Led_putX T hr, pure_Led_putX K T.ld vs H Q E h⟩)
theorem dv_l_tried {f : Addr} {cdv : Value} {A : Around} {outer : List Env} {s : Shared} {H : Hp} {E : XK} (T : Tx K mg base) (hr : Room 4 (A.deeper (envOfC "_law_tried" (defScope st_l_tried) s.heap.objs.size f cdv))) : PSs (cxOf CX0 PP w K mg base N_l_tried "_law_tried" (defScope st_l_tried) f cdv A outer s H E).nox (defBody st_l_tried) (rd_l_tried K) := by
  exact pss_one (FWN.ps_tryO (tb := fun W => tRet (FW.tMethW (He.ga K "Led") "round" (sp_Led_roundX K) W (tVar 0) tNil)) (Wout := (fun _ _ _ _ => False)) rfl rfl ⟨rfl, by decide, .inl T.g_NoGuess⟩ FW.L2takesNo (fun W pn xe tk _ => pss_one (ps_ret (FWN.pe_oS0 tk (ok_Led_roundX T) hr (by decide) (pv 0)))) (fun a oe pn => pss_one (ps_ret (pe_str))))
theorem ok_l_tried (T : Tx K mg base) : Fn PP w K mg base CX0 5 "_law_tried" (sp_l_tried K) [] :=
  Fn.mk0 T.d_l_tried T.g__law_tried sc_l_tried (fun _ _ _ _ _ _ us hl => match us, hl with | [_], _ => rfl) (by walk_at "ln") (fun cdv A outer s H vs Q E hr h => ⟨rd_l_tried K, dv_l_tried T hr, pure_l_tried K T.x_NoGuess_NoGuess vs H Q E h⟩)
theorem dv_Led_twin {f : Addr} {cdv : Value} {A : Around} {outer : List Env} {s : Shared} {H : Hp} {E : XK} (T : Tx K mg base) (hr : Room 5 (A.deeper (envOfC "Led.twin" (defScope st_Led_twin) s.heap.objs.size f cdv))) : PSs (cxOf CX0 PP w K mg base N_Led_twin "Led.twin" (defScope st_Led_twin) f cdv A outer s H E).nox (defBody st_Led_twin) (rd_Led_twin K) := by
  exact pss_cons (ps_set (i := 1) sc_Led_twin.nd rfl (Or.inl rfl) (FWN.pe_mN (ok_Led_initX T) hr (by decide) (by rfl) (pa_cons (pe_fld (pv 0) rfl) (pa_cons (pe_fld (pv 0) rfl) (pa_cons (pe_fld (pv 0) rfl) (pa_nil)))))) (pss_cons (ps_expr (FW.pe_o (ok_Led_put_back T) hr (by decide) (pv 1) (pa_cons (pe_fld (pv 0) rfl) (pa_cons (pe_fld (pv 0) rfl) (pa_cons (pe_fld (pv 0) rfl) (pa_nil)))))) (pss_cons (ps_fld (pv 1) (pe_callTy call_list_of (by rfl) T.n_list (by decide +kernel) (pa_cons (pe_fld (pv 0) rfl) (pa_nil))) rfl) (pss_one (ps_ret (pv 1)))))
theorem ok_Led_twin (T : Tx K mg base) : Mt PP w K mg base CX0 6 (He.ga K "Led") "twin" (sp_Led_twin K) [] :=
  Mt.mk0 T.c_Led T.m_Led_twin T.d_Led_twin sc_Led_twin (fun _ _ _ _ _ _ us hl => match us, hl with | [_], _ => rfl) (by walk_at "ln") (fun cdv A outer s H vs Q E hr h => ⟨rd_Led_twin K, dv_Led_twin T hr, pure_Led_twin K T.ld vs H Q E h⟩)
theorem dv_l_loop2 {f : Addr} {cdv : Value} {A : Around} {outer : List Env} {s : Shared} {H : Hp} {E : XK} (T : Tx K mg base) (hr : Room 5 (A.deeper (envOfC "_law_loop" (defScope st_l_loop2) s.heap.objs.size f cdv))) : PSs (cxOf CX0 PP w K mg base N_l_loop2 "_law_loop" (defScope st_l_loop2) f cdv A outer s H E).nox (defBody st_l_loop2) (rd_l_loop2 K) := by
  exact pss_one (ps_ret (FW.pe_m (ok_Average_init T) hr (by decide) (by rfl) (pa_cons (pe_ix ix_list (pv 0) (pe_int) (fun _ _ => rfl)) (pa_cons (pe_ix ix_list (pv 0) (pe_int) (fun _ _ => rfl)) (pa_cons (pe_ix ix_list (pv 0) (pe_int) (fun _ _ => rfl)) (pa_cons (pe_ix ix_list (pv 0) (pe_int) (fun _ _ => rfl)) (pa_cons (pe_ix ix_list (pv 0) (pe_int) (fun _ _ => rfl)) (pa_cons (pe_ix ix_list (pv 0) (pe_int) (fun _ _ => rfl)) (pa_cons (pe_ix ix_list (pv 0) (pe_int) (fun _ _ => rfl)) (pa_nil))))))))))
theorem ok_l_loop2 (T : Tx K mg base) : Fn PP w K mg base CX0 6 "_law_loop" (sp_l_loop2 K) [] :=
  Fn.mk0 T.d_l_loop2 T.g__law_loop sc_l_loop2 (fun _ _ _ _ _ _ us hl => match us, hl with | [_], _ => rfl) (by walk_at "ln") (fun cdv A outer s H vs Q E hr h => ⟨rd_l_loop2 K, dv_l_loop2 T hr, pure_l_loop2 K vs H Q E h⟩)
theorem dv_l_put {A : Around} {outer : List Env} {s : Shared} {H : Hp} {E : XK} (T : Tx K mg base) (hr : Room 11 (A.deeper (envOfC "_law_put" (defScope st_l_put) s.heap.objs.size (He.fAd K ("_law_put", none)) (.ref (He.codeOf K ("_law_put", none)))))) : PSs (cxOf CX0 PP w K mg base N_l_put "_law_put" (defScope st_l_put) (He.fAd K ("_law_put", none)) (.ref (He.codeOf K ("_law_put", none))) A outer s H E).nox (defBody st_l_put) (rd_l_put K) := by
  exact pss_cons (ps_if (pt_cmpR op_gt (pv 2) (pe_int) (nomark _)) (pss_cons (ps_expr (pe_bm PySem.F.plainAttrs_list PySem.F.slot_list_append PySem.F.type_list_append mt_append (pv 0) (pa_cons (pe_tup (pa_cons (pv 2) (pa_cons (pe_non) (pa_cons (pe_non) (pa_nil))))) (pa_nil)))) (pss_one (ps_ret (pe_cmpR op_isN (FWN.pe_oN (ok_Led_putX T) hr (by decide) (pv 1) (pa_cons (pv 2) (pa_nil))) (pe_non) (nomark _))))) (pss_nil)) (pss_one (ps_ret (pe_cmpR (op_eqD hr.units) (FWN.pe_lamN (k := 4) T.d_l_refusedH T.g__law_refused (by rfl) (fun _ _ _ _ _ _ us hl => match us, hl with | [_], _ => rfl) sc_l_refusedH rfl (Or.inl rfl) (fun cdv => gv_l_refusedH rfl T) T.tb_l_put rfl (by first | exact List.mem_cons_self | exact List.mem_cons_of_mem _ List.mem_cons_self | exact List.mem_cons_of_mem _ (List.mem_cons_of_mem _ List.mem_cons_self)) (hu_l_put T) hr (by decide) (by decide) (LamX.lamS_by (by kernel_rfl)) rfl (fun _ _ _ _ _ => rfl) (fun A outer s H E f c hr => FWN.pe_oX (L2N.takes_of rfl rfl rfl rfl) (ok_Led_putX T) hr (by decide) (pv 1) (pa_cons (pv 2) (pa_nil)))) (pe_tup (pa_cons (pe_str) (pa_cons (pv 2) (pa_nil)))) (nomark _))))
theorem ok_l_put (T : Tx K mg base) : Fn PP w K mg base CX0 12 "_law_put" (sp_l_put K) [] :=
  Fn.mkC T.d_l_put T.g__law_put sc_l_put (fun _ _ _ _ _ _ us hl => match us, hl with | [_, _, _], _ => rfl) (by walk_at "ln") (fun A outer s H vs Q E hr h => ⟨rd_l_put K, dv_l_put T hr, pure_l_put K T.h52 vs H Q E h⟩)
theorem dv_l_busy {f : Addr} {cdv : Value} {A : Around} {outer : List Env} {s : Shared} {H : Hp} {E : XK} (T : Tx K mg base) (hr : Room 12 (A.deeper (envOfC "_law_busy" (defScope st_l_busy) s.heap.objs.size f cdv))) : PSs (cxOf CX0 PP w K mg base N_l_busy "_law_busy" (defScope st_l_busy) f cdv A outer s H E).nox (defBody st_l_busy) (rd_l_busy K) := by
  exact pss_cons (ps_for PassesOwn.never rfl (pi_list (pv 4)) (pg_name (i := 5) sc_l_busy.nd rfl (Or.inl rfl)) (pss_cons (ps_set (i := 6) sc_l_busy.nd rfl (Or.inl rfl) (pe_op FW.opMod (pv 5) (pe_int))) (pss_cons (ps_if (PW.pt (pw_and (pt_cmpR op_lt (pv 6) (pe_int) (nomark _)) (pw_and1 (pt_cmpR op_ne (FW.pe_f (ok_l_tried T) hr (by decide) (by rfl) (pa_cons (pv 1) (pa_nil))) (FW.pe_f (ok_l_round T) hr (by decide) (by rfl) (pa_cons (pv 0) (pa_cons (pv 2) (pa_cons (pv 3) (pa_nil))))) (nomark _))))) (pss_one (ps_ret (pe_bl))) (pss_nil)) (pss_cons (ps_if (PW.pt (pw_and (pt_cmpR op_eq (pv 6) (pe_int) (nomark _)) (pw_and1 (pt_not (pt_val (FW.pe_f (ok_l_put T) hr (by decide) (by rfl) (pa_cons (pv 0) (pa_cons (pv 1) (pa_cons (pe_op FW.opMod (pe_op FW.opDiv (pv 5) (pe_int)) (pe_int)) (pa_nil)))))))))) (pss_one (ps_ret (pe_bl))) (pss_nil)) (pss_cons (ps_if (PW.pt (pw_and (pt_cmpR op_gt (pv 6) (pe_int) (nomark _)) (pw_and1 (pt_not (pt_val (FW.pe_f (ok_l_undone T) hr (by decide) (by rfl) (pa_cons (pv 0) (pa_cons (pv 1) (pa_nil))))))))) (pss_one (ps_ret (pe_bl))) (pss_nil)) (pss_one (ps_if (pt_not (pt_val (FW.pe_f (ok_l_showsO T) hr (by decide) (by rfl) (pa_cons (pv 0) (pa_cons (pv 1) (pa_nil)))))) (pss_one (ps_ret (pe_bl))) (pss_nil)))))))) (pss_one (ps_ret (pe_bl)))
theorem ok_l_busy (T : Tx K mg base) : Fn PP w K mg base CX0 13 "_law_busy" (sp_l_busy K) [] :=
  Fn.mk0 T.d_l_busy T.g__law_busy sc_l_busy (fun _ _ _ _ _ _ us hl => match us, hl with | [_, _, _, _, _], _ => rfl) (by walk_at "ln") (fun cdv A outer s H vs Q E hr h => ⟨rd_l_busy K, dv_l_busy T hr, pure_l_busy K vs H Q E h⟩)
theorem dv_l_twin_right {f : Addr} {cdv : Value} {A : Around} {outer : List Env} {s : Shared} {H : Hp} {E : XK} (T : Tx K mg base) (hr : Room 13 (A.deeper (envOfC "_law_twin_right" (defScope st_l_twin_right) s.heap.objs.size f cdv))) : PSs (cxOf CX0 PP w K mg base N_l_twin_right "_law_twin_right" (defScope st_l_twin_right) f cdv A outer s H E).nox (defBody st_l_twin_right) (rd_l_twin_right K) := by
  exact pss_cons (ps_par (by rfl) sc_l_twin_right.nd rfl rfl (by decide) rfl rfl (pa_cons (FW.pe_o0 (ok_Led_twin T) hr (by decide) (pv 1)) (pa_cons (pe_callTy call_list_of (by rfl) T.n_list (by decide +kernel) (pa_cons (pv 0) (pa_nil))) (pa_nil))) (by rfl)) (pss_cons (ps_if (PW.pt (pw_or (pt_not (pt_val (pe_callB call_isi (by rfl) T.n_isinstance (by decide +kernel) (pa_cons (pv 5) (pa_cons (FW.pe_gref (by rfl) T.g_Led) (pa_nil)))))) (pw_or1 (pt_not (pt_val (FW.pe_f (ok_l_busy T) hr (by decide) (by rfl) (pa_cons (pv 6) (pa_cons (pv 5) (pa_cons (pv 2) (pa_cons (pv 3) (pa_cons (pv 4) (pa_nil)))))))))))) (pss_one (ps_ret (pe_bl))) (pss_nil)) (pss_cons (ps_par (by rfl) sc_l_twin_right.nd rfl rfl (by decide) rfl rfl (pa_cons (pe_callTy call_list_of (by rfl) T.n_list (by decide +kernel) (pa_cons (pv 6) (pa_nil))) (pa_cons (FW.pe_o0 (ok_Led_twin T) hr (by decide) (pv 5)) (pa_nil))) (by rfl)) (pss_cons (ps_for PassesOwn.never rfl (pi_range1 (by rfl) T.n_range (pa_cons (pe_callB call_len_seq (by rfl) T.n_len (by decide +kernel) (pa_cons (pv 7) (pa_nil))) (pa_nil))) (pg_name (i := 9) sc_l_twin_right.nd rfl (Or.inl rfl)) (pss_one (ps_if (PW.pt (pw_or (pt_not (pt_val (FW.pe_f (ok_l_undone T) hr (by decide) (by rfl) (pa_cons (pv 7) (pa_cons (pv 8) (pa_nil)))))) (pw_or1 (pt_not (pt_val (FW.pe_f (ok_l_showsO T) hr (by decide) (by rfl) (pa_cons (pv 7) (pa_cons (pv 8) (pa_nil))))))))) (pss_one (ps_ret (pe_bl))) (pss_nil)))) (pss_cons (ps_if (PW.pt (pw_or (pt_cmpR FW.op_isNB (FW.pe_o0 (ok_Led_undo T) hr (by decide) (pv 8)) (pe_bl) (nomark _)) (pw_or1 (pt_not (pt_val (FW.pe_f (ok_l_busy T) hr (by decide) (by rfl) (pa_cons (pv 7) (pa_cons (pv 8) (pa_cons (pv 2) (pa_cons (pv 3) (pa_cons (pe_revL (pv 4)) (pa_nil)))))))))))) (pss_one (ps_ret (pe_bl))) (pss_nil)) (pss_one (ps_ret (pe_and (FW.pe_f (ok_l_showsO T) hr (by decide) (by rfl) (pa_cons (pv 0) (pa_cons (pv 1) (pa_nil)))) (pe_one (FW.pe_f (ok_l_showsO T) hr (by decide) (by rfl) (pa_cons (pv 6) (pa_cons (pv 5) (pa_nil))))))))))))
theorem ok_l_twin_right (T : Tx K mg base) : Fn PP w K mg base CX0 14 "_law_twin_right" (sp_l_twin_right K) [] :=
  Fn.mk0 T.d_l_twin_right T.g__law_twin_right sc_l_twin_right (fun _ _ _ _ _ _ us hl => match us, hl with | [_, _, _, _, _], _ => rfl) (by walk_at "ln") (fun cdv A outer s H vs Q E hr h => ⟨rd_l_twin_right K, dv_l_twin_right T hr, pure_l_twin_right K T.h52 vs H Q E h⟩)
theorem dv_l_deeper {A : Around} {outer : List Env} {s : Shared} {H : Hp} {E : XK} (T : Tx K mg base) (hr : Room 15 (A.deeper (envOfC "_law_deeper" (defScope st_l_deeper) s.heap.objs.size (He.fAd K ("_law_deeper", none)) (.ref (He.codeOf K ("_law_deeper", none)))))) : PSs (cxOf CX0 PP w K mg base N_l_deeper "_law_deeper" (defScope st_l_deeper) (He.fAd K ("_law_deeper", none)) (.ref (He.codeOf K ("_law_deeper", none))) A outer s H E).nox (defBody st_l_deeper) (rd_l_deeper K) := by
  exact pss_cons (ps_set (i := 5) sc_l_deeper.nd rfl (Or.inl rfl) (pe_callTy call_list_of (by rfl) T.n_list (by decide +kernel) (pa_cons (pv 0) (pa_nil)))) (pss_cons (ps_if (pt_not (pt_val (FW.pe_f (ok_l_busy T) hr (by decide) (by rfl) (pa_cons (pv 5) (pa_cons (pv 1) (pa_cons (pv 2) (pa_cons (pv 3) (pa_cons (pe_slice sl_list (pv 4) (po_none) (po_some (pe_int))) (pa_nil))))))))) (pss_one (ps_ret (pe_bl))) (pss_nil)) (pss_cons (ps_asg (pe_tup (pa_cons (pe_callTy call_list_of (by rfl) T.n_list (by decide +kernel) (pa_cons (pv 5) (pa_nil))) (pa_cons (pe_callTy call_list_of (by rfl) T.n_list (by decide +kernel) (pa_cons (pv 5) (pa_nil))) (pa_cons (FW.pe_o0 (ok_Led_twin T) hr (by decide) (pv 1)) (pa_nil))))) (pg_tup rfl (pgs_cons (pg_name (i := 6) sc_l_deeper.nd rfl (Or.inr rfl)) (pgs_cons (pg_name (i := 7) sc_l_deeper.nd rfl (Or.inl rfl)) (pgs_cons (pg_name (i := 8) sc_l_deeper.nd rfl (Or.inl rfl)) (pgs_nil)))))) (pss_cons (ps_if (pt_cmpR FW.op_isNB (FWP.pe_lamT (x := "_law_it") (k := 13) FWN.takesNo (pv 1) T.c_Led T.m_Led_trial T.d_Led_trial (fun _ _ _ _ _ _ us hl => match us, hl with | [_, _], _ => rfl) sc_Led_trial rfl rfl (Or.inl rfl) (fun cdv => gv_Led_trial rfl T) T.tb_l_deeper rfl (by first | exact List.mem_cons_self | exact List.mem_cons_of_mem _ List.mem_cons_self | exact List.mem_cons_of_mem _ (List.mem_cons_of_mem _ List.mem_cons_self)) (hu_l_deeper T) hr (by decide) (by decide) (FWP.lamP_by (by kernel_rfl)) (show ("_law_it" : Str) ∉ N_l_deeper by decide +kernel) rfl (fun _ _ _ _ _ _ => rfl) (fun A outer s H E f c hr => FW.pe_f (ok_l_busy T) hr (by decide) (by rfl) (pa_cons (pv 6) (pa_cons (pv 9) (pa_cons (pv 2) (pa_cons (pv 3) (pa_cons (pe_slice sl_list (pv 4) (po_some (pe_int)) (po_none)) (pa_nil)))))))) (pe_bl) (nomark _)) (pss_one (ps_ret (pe_bl))) (pss_nil)) (pss_cons (ps_if (PW.pt (pw_or (pt_not (pt_val (FW.pe_f (ok_l_busy T) hr (by decide) (by rfl) (pa_cons (pv 7) (pa_cons (pv 8) (pa_cons (pv 2) (pa_cons (pv 3) (pa_cons (pv 4) (pa_nil))))))))) (pw_or1 (pt_not (pt_val (FW.pe_f (ok_l_showsO T) hr (by decide) (by rfl) (pa_cons (pv 5) (pa_cons (pv 1) (pa_nil))))))))) (pss_one (ps_ret (pe_bl))) (pss_nil)) (pss_one (ps_ret (FW.pe_f (ok_l_busy T) hr (by decide) (by rfl) (pa_cons (pv 5) (pa_cons (pv 1) (pa_cons (pv 2) (pa_cons (pv 3) (pa_cons (pe_slice sl_list (pv 4) (po_some (pe_int)) (po_none)) (pa_nil)))))))))))))
theorem ok_l_deeper (T : Tx K mg base) : Fn PP w K mg base CX0 16 "_law_deeper" (sp_l_deeper K) [] :=
  Fn.mkC T.d_l_deeper T.g__law_deeper sc_l_deeper (fun _ _ _ _ _ _ us hl => match us, hl with | [_, _, _, _, _], _ => rfl) (by walk_at "ln") (fun A outer s H vs Q E hr h => ⟨rd_l_deeper K, dv_l_deeper T hr, pure_l_deeper K T.h52 vs H Q E h⟩)
theorem dv_l_trial_right {A : Around} {outer : List Env} {s : Shared} {H : Hp} {E : XK} (T : Tx K mg base) (hr : Room 18 (A.deeper (envOfC "_law_trial_right" (defScope st_l_trial_right) s.heap.objs.size (He.fAd K ("_law_trial_right", none)) (.ref (He.codeOf K ("_law_trial_right", none)))))) : PSs (cxOf CX0 PP w K mg base N_l_trial_right "_law_trial_right" (defScope st_l_trial_right) (He.fAd K ("_law_trial_right", none)) (.ref (He.codeOf K ("_law_trial_right", none))) A outer s H E).nox (defBody st_l_trial_right) (rd_l_trial_right K) := by
  exact pss_cons (ps_set (i := 5) sc_l_trial_right.nd rfl (Or.inr rfl) (pe_callTy call_list_of (by rfl) T.n_list (by decide +kernel) (pa_cons (pv 0) (pa_nil)))) (pss_cons (ps_set (i := 6) sc_l_trial_right.nd rfl (Or.inl rfl) (FWP.pe_lamT (x := "_law_one") (k := 16) FWN.takesNo (pv 1) T.c_Led T.m_Led_trial T.d_Led_trial (fun _ _ _ _ _ _ us hl => match us, hl with | [_, _], _ => rfl) sc_Led_trial rfl rfl (Or.inl rfl) (fun cdv => gv_Led_trial rfl T) T.tb_l_trial_right rfl (by first | exact List.mem_cons_self | exact List.mem_cons_of_mem _ List.mem_cons_self | exact List.mem_cons_of_mem _ (List.mem_cons_of_mem _ List.mem_cons_self)) (hu_l_trial_right T) hr (by decide) (by decide) (FWP.lamP_by (by kernel_rfl)) (show ("_law_one" : Str) ∉ N_l_trial_right by decide +kernel) rfl (fun _ _ _ _ _ _ => rfl) (fun A outer s H E f c hr => pe_lst (pa_cons (FW.pe_f (ok_l_busy T) hr (by decide) (by rfl) (pa_cons (pv 5) (pa_cons (pv 8) (pa_cons (pv 2) (pa_cons (pv 3) (pa_cons (pv 4) (pa_nil))))))) (pa_cons (pe_fld (pv 8) rfl) (pa_nil)))))) (pss_cons (ps_if (PW.pt (pw_or (pt_cmpR (op_neD hr.units) (pv 6) (pe_lst (pa_cons (pe_bl) (pa_cons (pe_ix ix_tup (pe_ix ix_list (pv 5) (pe_un un_neg (pe_int)) (fun _ _ => rfl)) (pe_int) (fun _ _ => rfl)) (pa_nil)))) (nomark _)) (pw_or1 (pt_not (pt_val (FW.pe_f (ok_l_showsO T) hr (by decide) (by rfl) (pa_cons (pv 0) (pa_cons (pv 1) (pa_nil))))))))) (pss_one (ps_ret (pe_bl))) (pss_nil)) (pss_cons (ps_if (PW.pt (pw_or (pt_cmpR FW.op_isNB (FWP.pe_lamT (x := "_law_one") (k := 16) FWN.takesNo (pv 1) T.c_Led T.m_Led_trial T.d_Led_trial (fun _ _ _ _ _ _ us hl => match us, hl with | [_, _], _ => rfl) sc_Led_trial rfl rfl (Or.inl rfl) (fun cdv => gv_Led_trial rfl T) T.tb_l_trial_right rfl (by first | exact List.mem_cons_self | exact List.mem_cons_of_mem _ List.mem_cons_self | exact List.mem_cons_of_mem _ (List.mem_cons_of_mem _ List.mem_cons_self)) (hu_l_trial_right T) hr (by decide) (by decide) (FWP.lamP_by (by kernel_rfl)) (show ("_law_one" : Str) ∉ N_l_trial_right by decide +kernel) rfl (fun _ _ _ _ _ _ => rfl) (fun A outer s H E f c hr => FW.pe_f (ok_l_deeper T) hr (by decide) (by rfl) (pa_cons (pv 0) (pa_cons (pv 8) (pa_cons (pv 2) (pa_cons (pv 3) (pa_cons (pv 4) (pa_nil)))))))) (pe_bl) (nomark _)) (pw_or1 (pt_not (pt_val (FW.pe_f (ok_l_showsO T) hr (by decide) (by rfl) (pa_cons (pv 0) (pa_cons (pv 1) (pa_nil))))))))) (pss_one (ps_ret (pe_bl))) (pss_nil)) (pss_cons (ps_set (i := 7) sc_l_trial_right.nd rfl (Or.inr rfl) (pe_callTy call_list_of (by rfl) T.n_list (by decide +kernel) (pa_cons (pv 0) (pa_nil)))) (pss_cons (FWN.ps_tryOH (tb := fun W => tDrop (FWP.tLamT (FWL.tabs K) (TT_Led_trial K) (He.ga K "Led") "trial" W (tVar 1) (fun E => tLst (tCons (tCall (sp_l_busy K) [] E0 (tCons (tVar 7) (tCons (tVar 8) (tCons (tVar 2) (tCons (tVar 3) (tCons (tVar 4) (tNil))))))) (tCons (tDGetX (fun cls d _ H => E cls d H) tDNewK (tC (.str "none"))) (tNil)))))) (Wout := (fun _ _ _ _ => False)) rfl rfl ⟨rfl, by decide, .inr ⟨T.n_KeyError, by decide +kernel, by decide⟩⟩ FWN.takesNo (fun W pn xe tk _ => pss_one (ps_expr (FWP.pe_lamT (x := "_law_one") (k := 16) tk (pv 1) T.c_Led T.m_Led_trial T.d_Led_trial (fun _ _ _ _ _ _ us hl => match us, hl with | [_, _], _ => rfl) sc_Led_trial rfl rfl (Or.inl rfl) (fun cdv => gv_Led_trial rfl T) T.tb_l_trial_right rfl (by first | exact List.mem_cons_self | exact List.mem_cons_of_mem _ List.mem_cons_self | exact List.mem_cons_of_mem _ (List.mem_cons_of_mem _ List.mem_cons_self)) (hu_l_trial_right T) hr (by decide) (by decide) (FWP.lamP_by (by kernel_rfl)) (show ("_law_one" : Str) ∉ N_l_trial_right by decide +kernel) rfl (fun _ _ _ _ _ _ => rfl) (fun A outer s H E f c hr => pe_lst (pa_cons (FW.pe_f (ok_l_busy T) hr (by decide) (by rfl) (pa_cons (pv 7) (pa_cons (pv 8) (pa_cons (pv 2) (pa_cons (pv 3) (pa_cons (pv 4) (pa_nil))))))) (pa_cons (FWP.pe_dgetN rfl (FW.u1 hr) (L2N.takes_of rfl rfl rfl rfl) pe_dnewK (pe_str) (fun _ _ => rfl)) (pa_nil))))))) (fun a oe cls d pn hz hf => pss_one (ps_ret (FW.pe_callHs (k := 0) (FW.hx_suite hz hf) T.d_l_showsO T.g__law_shows (by rfl) sc_l_showsO (fun _ _ _ _ _ _ us hl => match us, hl with | [_, _], _ => rfl) (FW.roomS hr (by omega)) (pa_cons (pv 0) (pa_cons (pv 1) (pa_nil))) (fun cdv s H hr => dvH_l_showsO T hr))))) (pss_one (ps_ret (pe_bl))))))))
theorem ok_l_trial_right (T : Tx K mg base) : Fn PP w K mg base CX0 19 "_law_trial_right" (sp_l_trial_right K) [] :=
  Fn.mkC T.d_l_trial_right T.g__law_trial_right sc_l_trial_right (fun _ _ _ _ _ _ us hl => match us, hl with | [_, _, _, _, _], _ => rfl) (by walk_at "ln") (fun A outer s H vs Q E hr h => ⟨rd_l_trial_right K, dv_l_trial_right T hr, pure_l_trial_right K T.h52 vs H Q E h⟩)
theorem dv_law {f : Addr} {cdv : Value} {A : Around} {outer : List Env} {s : Shared} {H : Hp} {E : XK} (T : Tx K mg base) (hr : Room 19 (A.deeper (envOfC "law" (defScope st_law) s.heap.objs.size f cdv))) : PSs (cxOf CX0 PP w K mg base N_law "law" (defScope st_law) f cdv A outer s H E).nox (defBody st_law) (rd_law K) := by
  exact pss_cons (ps_for PassesOwn.never rfl (pi_range1 (by rfl) T.n_range (pa_cons (pe_int) (pa_nil))) (pg_name (i := 1) sc_law.nd rfl (Or.inl rfl)) (pss_cons (ps_set (i := 2) sc_law.nd rfl (Or.inl rfl) (FW.pe_f (ok_l_row T) hr (by decide) (by rfl) (pa_cons (FW.pe_f (ok_l_apart T) hr (by decide) (by rfl) (pa_cons (FW.pe_f (ok_l_cell_at T) hr (by decide) (by rfl) (pa_cons (pv 0) (pa_cons (pv 1) (pa_nil)))) (pa_cons (pv 1) (pa_nil)))) (pa_cons (pe_int) (pa_nil))))) (pss_cons (ps_set (i := 3) sc_law.nd rfl (Or.inl rfl) (FW.pe_f (ok_l_loop_parts T) hr (by decide) (by rfl) (pa_cons (pv 2) (pa_cons (pe_int) (pa_nil))))) (pss_cons (ps_set (i := 4) sc_law.nd rfl (Or.inl rfl) (FW.pe_f (ok_l_great T) hr (by decide) (by rfl) (pa_cons (pv 2) (pa_cons (pe_int) (pa_cons (pe_ix ix_list (pe_lst (pa_cons (pe_int) (pa_cons (pe_int) (pa_cons (pe_int) (pa_cons (pe_int) (pa_nil)))))) (pe_op FW.opMod (pe_callTy call_int1 (by rfl) T.n_int (by decide +kernel) (pa_cons (pe_ix ix_list (pv 2) (pe_int) (fun _ _ => rfl)) (pa_nil))) (pe_int)) (fun _ _ => rfl)) (pa_nil)))))) (pss_cons (ps_set (i := 5) sc_law.nd rfl (Or.inl rfl) (pe_op FW.opAdd (pe_int) (pe_op FW.opMod (pe_callTy call_int1 (by rfl) T.n_int (by decide +kernel) (pa_cons (pe_ix ix_list (pv 2) (pe_int) (fun _ _ => rfl)) (pa_nil))) (pe_ix ix_list (pe_lst (pa_cons (pe_int) (pa_cons (pe_int) (pa_cons (pe_int) (pa_nil))))) (pe_op FW.opMod (pe_callTy call_int1 (by rfl) T.n_int (by decide +kernel) (pa_cons (pe_ix ix_list (pv 2) (pe_int) (fun _ _ => rfl)) (pa_nil))) (pe_int)) (fun _ _ => rfl))))) (pss_cons (ps_par (by rfl) sc_law.nd rfl rfl (by decide) rfl rfl (pa_cons (FWN.pe_mN (ok_Led_initX T) hr (by decide) (by rfl) (pa_cons (FW.pe_f (ok_l_loop2 T) hr (by decide) (by rfl) (pa_cons (pv 3) (pa_nil))) (pa_cons (pv 4) (pa_cons (pv 5) (pa_nil))))) (pa_cons (pe_lst (pa_cons (pe_tup (pa_cons (pv 5) (pa_cons (pe_non) (pa_cons (pe_non) (pa_nil))))) (pa_nil))) (pa_nil))) (by rfl)) (pss_cons (ps_for PassesOwn.never rfl (pi_range1 (by rfl) T.n_range (pa_cons (pe_int) (pa_nil))) (pg_name (i := 8) sc_law.nd rfl (Or.inl rfl)) (pss_cons (ps_setLc (i := 9) (own := [("_law_draw", 10)]) (g := gName 10) (tt := tYes) rfl sc_law.nd rfl rfl (sw_true rfl rfl rfl (by decide +kernel)) (pi_list (pe_slice sl_list (pv 2) (po_some (pe_op FW.opAdd (pe_int) (pe_op FW.opMul (pe_int) (pv 8)))) (po_some (pe_op FW.opAdd (pe_int) (pe_op FW.opMul (pe_int) (pv 8)))))) (blkOk_by (own := [("_law_draw", 10)]) (N := N_law) (sc := defScope st_law) (by decide +kernel)) (fun _ _ _ _ _ => pg_name (i := 10) sc_law.nd rfl (Or.inl rfl)) (fun _ _ _ _ _ => pts_nil) (fun _ _ _ _ _ => pe_callTy call_int1 (by rfl) T.n_int (by decide +kernel) (pa_cons (pv 10) (pa_nil)))) (pss_cons (ps_if (PW.pt (pw_and (pt_cmpR op_eq (pe_op FW.opMod (pe_ix ix_list (pv 9) (pe_int) (fun _ _ => rfl)) (pe_int)) (pe_int) (nomark _)) (pw_and1 (pt_not (pt_val (FW.pe_f (ok_l_trial_right T) hr (by decide) (by rfl) (pa_cons (pv 7) (pa_cons (pv 6) (pa_cons (pv 3) (pa_cons (pv 4) (pa_cons (pv 9) (pa_nil)))))))))))) (pss_one (ps_ret (pe_bl))) (pss_nil)) (pss_cons (ps_if (PW.pt (pw_and (pt_cmpR op_eq (pe_op FW.opMod (pe_ix ix_list (pv 9) (pe_int) (fun _ _ => rfl)) (pe_int)) (pe_int) (nomark _)) (pw_and1 (pt_not (pt_val (FW.pe_f (ok_l_twin_right T) hr (by decide) (by rfl) (pa_cons (pv 7) (pa_cons (pv 6) (pa_cons (pv 3) (pa_cons (pv 4) (pa_cons (pv 9) (pa_nil)))))))))))) (pss_one (ps_ret (pe_bl))) (pss_nil)) (pss_one (ps_if (pt_not (pt_val (FW.pe_f (ok_l_busy T) hr (by decide) (by rfl) (pa_cons (pv 7) (pa_cons (pv 6) (pa_cons (pv 3) (pa_cons (pv 4) (pa_cons (pe_slice sl_list (pv 9) (po_none) (po_some (pe_int))) (pa_nil))))))))) (pss_one (ps_ret (pe_bl))) (pss_nil))))))) (pss_cons (ps_for PassesOwn.never rfl (pi_range1 (by rfl) T.n_range (pa_cons (pe_op FW.opSub (pe_callB call_len_seq (by rfl) T.n_len (by decide +kernel) (pa_cons (pv 7) (pa_nil))) (pe_int)) (pa_nil))) (pg_name (i := 8) sc_law.nd rfl (Or.inl rfl)) (pss_one (ps_if (PW.pt (pw_or (pt_not (pt_val (FW.pe_f (ok_l_undone T) hr (by decide) (by rfl) (pa_cons (pv 7) (pa_cons (pv 6) (pa_nil)))))) (pw_or1 (pt_not (pt_val (FW.pe_f (ok_l_showsO T) hr (by decide) (by rfl) (pa_cons (pv 7) (pa_cons (pv 6) (pa_nil))))))))) (pss_one (ps_ret (pe_bl))) (pss_nil)))) (pss_one (ps_if (pt_cmpR FW.op_isNB (FW.pe_o0 (ok_Led_undo T) hr (by decide) (pv 6)) (pe_bl) (nomark _)) (pss_one (ps_ret (pe_bl))) (pss_nil))))))))))) (pss_one (ps_ret (pe_bl)))
theorem ok_law (T : Tx K mg base) : Fn PP w K mg base CX0 20 "law" (sp_law K) [] :=
  Fn.mk0 T.d_law T.g_law sc_law (fun _ _ _ _ _ _ us hl => match us, hl with | [_], _ => rfl) (by walk_at "ln") (fun cdv A outer s H vs Q E hr h => ⟨rd_law K, dv_law T hr, pure_law K T.h52 vs H Q E h⟩)
end
/-! ### the head -/
theorem tx_of {K : PySem.W.Frag} {h : Heap} {mg : Str → Option Value} {base : Heap} (X : K.In h) (G : h.Ns mainGlobals mg) (c : He.SaysD fa fn K) (cx : ex K = true) (ce : er.map (fun d => fnE K d.x) = er.map ErrD.val) (TB : ∀ p ∈ tf.map (He.cT K), LamX.TabB base mg p.1 p.2) : Tx K mg base := by
  have EX0 : errB K PySem.Challenge.pw_floorward_k52_whole_led_put_and_taken_ba.main.file "BadNumber" "value" = true := List.all_eq_true.mp cx _ (List.mem_of_getElem? (i := 0) rfl)
  have EX1 : errB K PySem.Challenge.pw_floorward_k52_whole_led_put_and_taken_ba.main.file "BadStart" "value" = true := List.all_eq_true.mp cx _ (List.mem_of_getElem? (i := 1) rfl)
  have EX2 : errB0 K PySem.Challenge.pw_floorward_k52_whole_led_put_and_taken_ba.main.file "NoGuess" = true := List.all_eq_true.mp cx _ (List.mem_of_getElem? (i := 2) rfl)
  have EX3 : FW.excB K "BadStart" = true := List.all_eq_true.mp cx _ (List.mem_of_getElem? (i := 3) rfl)
  have EX4 : decide (PySem.W.kitOne K (.ref (He.ga K "BadStart")) (.ref (He.ga K "BadNumber")) = some false) = true := List.all_eq_true.mp cx _ (List.mem_of_getElem? (i := 4) rfl)
  have EX5 : decide (PySem.W.kitOne K (.ref (He.ga K "BadStart")) (.ref (He.ga K "BadPower")) = some false) = true := List.all_eq_true.mp cx _ (List.mem_of_getElem? (i := 5) rfl)
  have EX6 : decide (PySem.W.kitOne K (.ref (He.ga K "BadStart")) (.ref (He.ga K "BadLoop")) = some false) = true := List.all_eq_true.mp cx _ (List.mem_of_getElem? (i := 6) rfl)
  have EX7 : decide (PySem.W.kitOne K (.ref (He.ga K "BadStart")) (.ref (He.ga K "BadStart")) = some true) = true := List.all_eq_true.mp cx _ (List.mem_of_getElem? (i := 7) rfl)
  have EX8 : decide (PySem.W.kitOne K (.ref (He.ga K "BadStart")) (.ref (He.ga K "BadGuesses")) = some false) = true := List.all_eq_true.mp cx _ (List.mem_of_getElem? (i := 8) rfl)
  have EX9 : decide (PySem.W.kitOne K (.ref (He.ga K "BadStart")) (.ref (He.ga K "BadBeginning")) = some false) = true := List.all_eq_true.mp cx _ (List.mem_of_getElem? (i := 9) rfl)
  have EX10 : decide (PySem.W.kitOne K (.ref (He.ga K "BadStart")) (.ref (He.ga K "BadSought")) = some false) = true := List.all_eq_true.mp cx _ (List.mem_of_getElem? (i := 10) rfl)
  have EX11 : decide (PySem.W.kitOne K (.ref (He.ga K "BadStart")) (.ref (He.ga K "BadBracket")) = some false) = true := List.all_eq_true.mp cx _ (List.mem_of_getElem? (i := 11) rfl)
  have EX12 : decide (PySem.W.kitOne K (.ref (He.ga K "BadStart")) (.ref (He.ga K "BadKind")) = some false) = true := List.all_eq_true.mp cx _ (List.mem_of_getElem? (i := 12) rfl)
  have EX13 : decide (PySem.W.kitOne K (.ref (He.ga K "BadStart")) (.ref (He.ga K "BadText")) = some false) = true := List.all_eq_true.mp cx _ (List.mem_of_getElem? (i := 13) rfl)
  have EX14 : decide (PySem.W.kitOne K (.ref (He.ga K "BadStart")) (.ref (He.ga K "NoGuess")) = some false) = true := List.all_eq_true.mp cx _ (List.mem_of_getElem? (i := 14) rfl)
  have EX15 : He.tupB K "STOPS" [.str "notless", .str "equal", .str "near1", .str "near2", .str "back", .str "under", .str "held"] = true := List.all_eq_true.mp cx _ (List.mem_of_getElem? (i := 15) rfl)
  have EX16 : He.tupB K "TOLDS" [.str "old", .str "new", .str "less", .str "more"] = true := List.all_eq_true.mp cx _ (List.mem_of_getElem? (i := 16) rfl)
  have EX17 : He.tupB K "MENDS" [.str "none", .str "down", .str "up", .str "both"] = true := List.all_eq_true.mp cx _ (List.mem_of_getElem? (i := 17) rfl)
  have EX18 : He.tupB K "LOOKS" [.str "under", .str "held"] = true := List.all_eq_true.mp cx _ (List.mem_of_getElem? (i := 18) rfl)
  have EX19 : (He.eqO (PySem.W.findIn K (.ref (He.ga K "Led")) "__class__") (some (some (.builtin "object.__class__"))) && (He.eqO (PySem.W.specialIn K (.builtin "object.__class__") "__get__") (some (some (.builtin "getset_descriptor.__get__"))) && (decide (PySem.W.takesIn K (.builtin "object.__class__") = some true) && decide (PySem.W.mroIn K (He.ga K "Led") (.type "object") = some true)))) = true := List.all_eq_true.mp cx _ (List.mem_of_getElem? (i := 19) rfl)
  have EX20 : decide ((He.cT K ("_law_put", none)).2 ≠ (He.cT K ("_law_trial_right", none)).2) = true := List.all_eq_true.mp cx _ (List.mem_of_getElem? (i := 20) rfl)
  have EX21 : decide ((He.cT K ("_law_put", none)).2 ≠ (He.cT K ("_law_deeper", none)).2) = true := List.all_eq_true.mp cx _ (List.mem_of_getElem? (i := 21) rfl)
  have EX22 : decide ((He.cT K ("_law_trial_right", none)).2 ≠ (He.cT K ("_law_deeper", none)).2) = true := List.all_eq_true.mp cx _ (List.mem_of_getElem? (i := 22) rfl)
  exact {
    n_KeyError := He.free_ok X G (c.fact 0 (f := .free "KeyError") rfl),
    n_abs := He.free_ok X G (c.fact 1 (f := .free "abs") rfl),
    n_bool := He.free_ok X G (c.fact 2 (f := .free "bool") rfl),
    n_int := He.free_ok X G (c.fact 3 (f := .free "int") rfl),
    n_isinstance := He.free_ok X G (c.fact 4 (f := .free "isinstance") rfl),
    n_len := He.free_ok X G (c.fact 5 (f := .free "len") rfl),
    n_list := He.free_ok X G (c.fact 6 (f := .free "list") rfl),
    n_max := He.free_ok X G (c.fact 7 (f := .free "max") rfl),
    n_min := He.free_ok X G (c.fact 8 (f := .free "min") rfl),
    n_range := He.free_ok X G (c.fact 9 (f := .free "range") rfl),
    n_str := He.free_ok X G (c.fact 10 (f := .free "str") rfl),
    n_zip := He.free_ok X G (c.fact 11 (f := .free "zip") rfl),
    g_BadBeginning := He.glo_ok X G (c.fact 12 (f := .glo "BadBeginning") rfl),
    g_BadBracket := He.glo_ok X G (c.fact 13 (f := .glo "BadBracket") rfl),
    g_BadGuesses := He.glo_ok X G (c.fact 14 (f := .glo "BadGuesses") rfl),
    g_BadKind := He.glo_ok X G (c.fact 15 (f := .glo "BadKind") rfl),
    g_BadLoop := He.glo_ok X G (c.fact 16 (f := .glo "BadLoop") rfl),
    g_BadNumber := He.glo_ok X G (c.fact 17 (f := .glo "BadNumber") rfl),
    g_BadPower := He.glo_ok X G (c.fact 18 (f := .glo "BadPower") rfl),
    g_BadSought := He.glo_ok X G (c.fact 19 (f := .glo "BadSought") rfl),
    g_BadStart := He.glo_ok X G (c.fact 20 (f := .glo "BadStart") rfl),
    g_BadText := He.glo_ok X G (c.fact 21 (f := .glo "BadText") rfl),
    g_FloorError := He.glo_ok X G (c.fact 22 (f := .glo "FloorError") rfl),
    g_LOOKS := He.glo_ok X G (c.fact 23 (f := .glo "LOOKS") rfl),
    g_Led := He.glo_ok X G (c.fact 24 (f := .glo "Led") rfl),
    g_MENDS := He.glo_ok X G (c.fact 25 (f := .glo "MENDS") rfl),
    g_NoGuess := He.glo_ok X G (c.fact 26 (f := .glo "NoGuess") rfl),
    g_STOPS := He.glo_ok X G (c.fact 27 (f := .glo "STOPS") rfl),
    g_TOLDS := He.glo_ok X G (c.fact 28 (f := .glo "TOLDS") rfl),
    g__law_class := He.glo_ok X G (c.fact 29 (f := .glo "_law_class") rfl),
    g__law_shows := He.glo_ok X G (c.fact 30 (f := .glo "_law_shows") rfl),
    g_is_whole := He.glo_ok X G (c.fact 31 (f := .glo "is_whole") rfl),
    g_is_whole_from := He.glo_ok X G (c.fact 32 (f := .glo "is_whole_from") rfl),
    g_check_number := He.glo_ok X G (c.fact 33 (f := .glo "check_number") rfl),
    g_power := He.glo_ok X G (c.fact 34 (f := .glo "power") rfl),
    g_is_word_of := He.glo_ok X G (c.fact 35 (f := .glo "is_word_of") rfl),
    g_wrong_part := He.glo_ok X G (c.fact 36 (f := .glo "wrong_part") rfl),
    g_check_start := He.glo_ok X G (c.fact 37 (f := .glo "check_start") rfl),
    g__law_cell_at := He.glo_ok X G (c.fact 38 (f := .glo "_law_cell_at") rfl),
    g__law_mixed := He.glo_ok X G (c.fact 39 (f := .glo "_law_mixed") rfl),
    g__law_row := He.glo_ok X G (c.fact 40 (f := .glo "_law_row") rfl),
    g__law_apart := He.glo_ok X G (c.fact 41 (f := .glo "_law_apart") rfl),
    g__law_power := He.glo_ok X G (c.fact 42 (f := .glo "_law_power") rfl),
    g__law_great := He.glo_ok X G (c.fact 43 (f := .glo "_law_great") rfl),
    g__law_weights := He.glo_ok X G (c.fact 44 (f := .glo "_law_weights") rfl),
    g__law_loop_parts := He.glo_ok X G (c.fact 45 (f := .glo "_law_loop_parts") rfl),
    g__law_loop := He.glo_ok X G (c.fact 46 (f := .glo "_law_loop") rfl),
    g__law_led_to := He.glo_ok X G (c.fact 47 (f := .glo "_law_led_to") rfl),
    g__law_looks := He.glo_ok X G (c.fact 48 (f := .glo "_law_looks") rfl),
    g__law_ends := He.glo_ok X G (c.fact 49 (f := .glo "_law_ends") rfl),
    g__law_mended := He.glo_ok X G (c.fact 50 (f := .glo "_law_mended") rfl),
    g__law_chosen := He.glo_ok X G (c.fact 51 (f := .glo "_law_chosen") rfl),
    g__law_refused := He.glo_ok X G (c.fact 52 (f := .glo "_law_refused") rfl),
    g__law_round := He.glo_ok X G (c.fact 53 (f := .glo "_law_round") rfl),
    g__law_tried := He.glo_ok X G (c.fact 54 (f := .glo "_law_tried") rfl),
    g__law_put := He.glo_ok X G (c.fact 55 (f := .glo "_law_put") rfl),
    g__law_undone := He.glo_ok X G (c.fact 56 (f := .glo "_law_undone") rfl),
    g__law_busy := He.glo_ok X G (c.fact 57 (f := .glo "_law_busy") rfl),
    g__law_trial_right := He.glo_ok X G (c.fact 58 (f := .glo "_law_trial_right") rfl),
    g__law_deeper := He.glo_ok X G (c.fact 59 (f := .glo "_law_deeper") rfl),
    g__law_twin_right := He.glo_ok X G (c.fact 60 (f := .glo "_law_twin_right") rfl),
    g_law := He.glo_ok X G (c.fact 61 (f := .glo "law") rfl),
    g_Average := He.glo_ok X G (c.fact 62 (f := .glo "Average") rfl),
    g_Run := He.glo_ok X G (c.fact 63 (f := .glo "Run") rfl),
    d_is_whole := c.def_ 0 rfl,
    d_is_whole_from := c.def_ 1 rfl,
    d_check_number := c.def_ 2 rfl,
    d_power := c.def_ 3 rfl,
    d_is_word_of := c.def_ 4 rfl,
    d_wrong_part := c.def_ 5 rfl,
    d_Average_init := c.def_ 6 rfl,
    d_Average_led := c.def_ 7 rfl,
    d_Average_looks := c.def_ 8 rfl,
    d_Average_ends := c.def_ 9 rfl,
    d_Average_nearness := c.def_ 10 rfl,
    d_Average_chosen := c.def_ 11 rfl,
    d_Average_mended := c.def_ 12 rfl,
    d_check_start := c.def_ 13 rfl,
    d_Led_init := c.def_ 14 rfl,
    d_Led_noted := c.def_ 15 rfl,
    d_Led_put_back := c.def_ 16 rfl,
    d_Led_tell := c.def_ 17 rfl,
    d_Led_round := c.def_ 18 rfl,
    d_Led_put := c.def_ 19 rfl,
    d_Led_undo := c.def_ 20 rfl,
    d_Led_trial := c.def_ 21 rfl,
    d_Led_twin := c.def_ 22 rfl,
    d_l_cell_at := c.def_ 23 rfl,
    d_l_mixed := c.def_ 24 rfl,
    d_l_row := c.def_ 25 rfl,
    d_l_apart := c.def_ 26 rfl,
    d_l_power := c.def_ 27 rfl,
    d_l_great := c.def_ 28 rfl,
    d_l_weights2 := c.def_ 29 rfl,
    d_l_loop_parts := c.def_ 30 rfl,
    d_l_loop2 := c.def_ 31 rfl,
    d_l_led_to := c.def_ 32 rfl,
    d_l_looks2 := c.def_ 33 rfl,
    d_l_ends2 := c.def_ 34 rfl,
    d_l_mended2 := c.def_ 35 rfl,
    d_l_chosen2 := c.def_ 36 rfl,
    d_l_refusedH := c.def_ 37 rfl,
    d_l_class := c.def_ 38 rfl,
    d_l_round := c.def_ 39 rfl,
    d_l_tried := c.def_ 40 rfl,
    d_l_put := c.def_ 41 rfl,
    d_l_undone := c.def_ 42 rfl,
    d_l_showsO := c.def_ 43 rfl,
    d_l_busy := c.def_ 44 rfl,
    d_l_trial_right := c.def_ 45 rfl,
    d_l_deeper := c.def_ 46 rfl,
    d_l_twin_right := c.def_ 47 rfl,
    d_law := c.def_ 48 rfl,
    c_Average := He.cls_ok (c.fact 64 (f := .cls "Average") rfl),
    k_Average := He.mkr_ok (c.fact 65 (f := .mkr "Average") rfl),
    m_Average_led := He.meth_ok (c.fact 66 (f := .meth "Average" "led") rfl),
    m_Average_looks := He.meth_ok (c.fact 67 (f := .meth "Average" "looks") rfl),
    m_Average_ends := He.meth_ok (c.fact 68 (f := .meth "Average" "ends") rfl),
    m_Average_nearness := He.meth_ok (c.fact 69 (f := .meth "Average" "nearness") rfl),
    m_Average_chosen := He.meth_ok (c.fact 70 (f := .meth "Average" "chosen") rfl),
    m_Average_mended := He.meth_ok (c.fact 71 (f := .meth "Average" "mended") rfl),
    a_Average_k := He.noat_ok (c.fact 72 (f := .noat "Average" "k") rfl),
    a_Average_a := He.noat_ok (c.fact 73 (f := .noat "Average" "a") rfl),
    a_Average_c := He.noat_ok (c.fact 74 (f := .noat "Average" "c") rfl),
    a_Average_d := He.noat_ok (c.fact 75 (f := .noat "Average" "d") rfl),
    a_Average_stop := He.noat_ok (c.fact 76 (f := .noat "Average" "stop") rfl),
    a_Average_told := He.noat_ok (c.fact 77 (f := .noat "Average" "told") rfl),
    a_Average_mend := He.noat_ok (c.fact 78 (f := .noat "Average" "mend") rfl),
    c_Run := He.cls_ok (c.fact 79 (f := .cls "Run") rfl),
    c_Led := He.cls_ok (c.fact 80 (f := .cls "Led") rfl),
    k_Led := He.mkr_ok (c.fact 81 (f := .mkr "Led") rfl),
    m_Led_noted := He.meth_ok (c.fact 82 (f := .meth "Led" "noted") rfl),
    m_Led_put_back := He.meth_ok (c.fact 83 (f := .meth "Led" "put_back") rfl),
    m_Led_tell := He.meth_ok (c.fact 84 (f := .meth "Led" "tell") rfl),
    m_Led_round := He.meth_ok (c.fact 85 (f := .meth "Led" "round") rfl),
    m_Led_put := He.meth_ok (c.fact 86 (f := .meth "Led" "put") rfl),
    m_Led_undo := He.meth_ok (c.fact 87 (f := .meth "Led" "undo") rfl),
    m_Led_trial := He.meth_ok (c.fact 88 (f := .meth "Led" "trial") rfl),
    m_Led_twin := He.meth_ok (c.fact 89 (f := .meth "Led" "twin") rfl),
    a_Led_loop := He.noat_ok (c.fact 90 (f := .noat "Led" "loop") rfl),
    a_Led_n := He.noat_ok (c.fact 91 (f := .noat "Led" "n") rfl),
    a_Led_first := He.noat_ok (c.fact 92 (f := .noat "Led" "first") rfl),
    a_Led_guess := He.noat_ok (c.fact 93 (f := .noat "Led" "guess") rfl),
    a_Led_before := He.noat_ok (c.fact 94 (f := .noat "Led" "before") rfl),
    a_Led_told := He.noat_ok (c.fact 95 (f := .noat "Led" "told") rfl),
    a_Led_past := He.noat_ok (c.fact 96 (f := .noat "Led" "past") rfl),
    e_BadNumber := errC_of (prog := PySem.Challenge.pw_floorward_k52_whole_led_put_and_taken_ba) (errs_at ce 0 rfl) EX0 ⟨_, _, rfl⟩ ⟨_, _, _, _, _, _, _, _, _, _, _, rfl, by decide⟩ rfl (by decide +kernel),
    x_BadNumber_BadNumber := He.exm_ok (c.fact 97 (f := .exm "BadNumber" "BadNumber" true) rfl),
    x_BadNumber_BadStart := He.exm_ok (c.fact 98 (f := .exm "BadNumber" "BadStart" false) rfl),
    x_BadNumber_NoGuess := He.exm_ok (c.fact 99 (f := .exm "BadNumber" "NoGuess" false) rfl),
    e_BadStart := errC_of (prog := PySem.Challenge.pw_floorward_k52_whole_led_put_and_taken_ba) (errs_at ce 1 rfl) EX1 ⟨_, _, rfl⟩ ⟨_, _, _, _, _, _, _, _, _, _, _, rfl, by decide⟩ rfl (by decide +kernel),
    x_BadStart_BadNumber := He.exm_ok (c.fact 100 (f := .exm "BadStart" "BadNumber" false) rfl),
    x_BadStart_BadStart := He.exm_ok (c.fact 101 (f := .exm "BadStart" "BadStart" true) rfl),
    x_BadStart_NoGuess := He.exm_ok (c.fact 102 (f := .exm "BadStart" "NoGuess" false) rfl),
    e_NoGuess := errC0_of (prog := PySem.Challenge.pw_floorward_k52_whole_led_put_and_taken_ba) (errs_at ce 2 rfl) EX2 ⟨_, rfl⟩ ⟨_, _, _, _, _, _, _, rfl, by decide⟩ rfl (by decide +kernel),
    x_NoGuess_BadNumber := He.exm_ok (c.fact 103 (f := .exm "NoGuess" "BadNumber" false) rfl),
    x_NoGuess_BadStart := He.exm_ok (c.fact 104 (f := .exm "NoGuess" "BadStart" false) rfl),
    x_NoGuess_NoGuess := He.exm_ok (c.fact 105 (f := .exm "NoGuess" "NoGuess" true) rfl),
    xc_BadStart := FW.excB_ok EX3,
    xf_BadStart := He.exm_ok (c.fact 106 (f := .exm "BadStart" "FloorError" true) rfl),
    xk_BadStart_BadNumber := of_decide_eq_true EX4,
    xk_BadStart_BadPower := of_decide_eq_true EX5,
    xk_BadStart_BadLoop := of_decide_eq_true EX6,
    xk_BadStart_BadStart := of_decide_eq_true EX7,
    xk_BadStart_BadGuesses := of_decide_eq_true EX8,
    xk_BadStart_BadBeginning := of_decide_eq_true EX9,
    xk_BadStart_BadSought := of_decide_eq_true EX10,
    xk_BadStart_BadBracket := of_decide_eq_true EX11,
    xk_BadStart_BadKind := of_decide_eq_true EX12,
    xk_BadStart_BadText := of_decide_eq_true EX13,
    xk_BadStart_NoGuess := of_decide_eq_true EX14,
    t_STOPS := fun H => He.tupB_ok (vs := [.str "notless", .str "equal", .str "near1", .str "near2", .str "back", .str "under", .str "held"]) EX15 H,
    t_TOLDS := fun H => He.tupB_ok (vs := [.str "old", .str "new", .str "less", .str "more"]) EX16 H,
    t_MENDS := fun H => He.tupB_ok (vs := [.str "none", .str "down", .str "up", .str "both"]) EX17 H,
    t_LOOKS := fun H => He.tupB_ok (vs := [.str "under", .str "held"]) EX18 H,
    in_Led := insKB_ok EX19,
    ne_tabs01 := of_decide_eq_true EX20,
    ne_tabs02 := of_decide_eq_true EX21,
    ne_tabs12 := of_decide_eq_true EX22,
    tb_l_put := TB _ (List.mem_map.mpr ⟨("_law_put", none), by simp [tf], rfl⟩),
    tb_l_trial_right := TB _ (List.mem_map.mpr ⟨("_law_trial_right", none), by simp [tf], rfl⟩),
    tb_l_deeper := TB _ (List.mem_map.mpr ⟨("_law_deeper", none), by simp [tf], rfl⟩) }
theorem facts {w : World} {K : PySem.W.Frag} {h : Heap} {mg : Str → Option Value} {f : Addr} (X : K.In h) (G : h.Ns mainGlobals mg) (hfa : mg ("law" : Str) = some (.ref f)) (c : He.SaysD fa fn K) (cx : ex K = true) (ce : er.map (fun d => fnE K d.x) = er.map ErrD.val) :
    ∃ fd : FuncData, (∀ (s : Shared) (v : Value), BindsTo s fd ⟨[v], []⟩ [("_law_script", v)]) ∧ ∀ base : Heap, K.In base → base.Ns mainGlobals mg → (∀ p ∈ tf.map (He.cT K), LamX.TabB base mg p.1 p.2) → FnOk PP w K mg base CX0 20 f fd ["_law_script"] (sp_law K) := by
  have e := hfa.symm.trans (He.glo_ok X G (c.fact 61 (f := .glo "law") rfl))
  cases e
  obtain ⟨fd, F⟩ := (c.def_ 48 rfl : ∃ fd, FunD K "law" "law" (defArgs st_law) (defBody st_law) (defScope st_law) [] [] (He.ga K "law") fd)
  have b := FunD.bindsA (ps := ["_law_script"]) F fun _ _ _ _ _ _ us hl => match us, hl with | [_], _ => rfl
  refine ⟨fd, fun s v => b s [v] rfl, fun base _ _ TB => ?_⟩
  have T := tx_of (base := base) X G c cx ce TB
  refine F.ok sc_law (by walk_at "ln") fun cdv A outer s H vs Q E hr h => ?_
  exact ⟨rd_law K, (dv_law T hr).nox, pure_law K T.h52 vs H Q E h⟩
end FWL
open PySem PySem.W PySem.Calls PyProof.Rows
theorem PySem.Challenge.cw_floorward_k52_whole_led_put_and_taken_ba_holds : PySem.Challenge.rw_floorward_k52_whole_led_put_and_taken_ba.Holds := by
  w_on; o_law
  refine HandSHeadRun.head_any (r := OpenLaw.row PySem.Challenge.rw_floorward_k52_whole_led_put_and_taken_ba) (q := view (OpenLaw.row PySem.Challenge.rw_floorward_k52_whole_led_put_and_taken_ba).prog [57]) (H := FWL.hk) (ob := FWL.ob) (M := 30000) (loose := FWL.loose) (d := HandSHeadRun.topDef (OpenLaw.row PySem.Challenge.rw_floorward_k52_whole_led_put_and_taken_ba).prog 57) (kwd := []) FWL.ob_eq
    (by kernel_rfl) (fun s => by kernel_rfl) FWL.run (by kernel_rfl) (by kernel_rfl) (by kernel_rfl) (by rfl) (by first | assumption | decide +kernel) (by decide +kernel) ⟨rfl, rfl, rfl, rfl, rfl, by decide +kernel⟩ ?hw ?hc
  case hw => w_witness2
  case hc =>
    refine LamX.walk_ofTsE (l := PySem.Challenge.rw_floorward_k52_whole_led_put_and_taken_ba) (n := 63) (k := 20) (x := "_law_script") (CX := fun _ => L2.CX0) rfl (by decide) (by kernel_rfl) ⟨rfl, by decide, by decide⟩ ?F (fun _ _ _ _ _ z => z)
    intro w mg fa h Y G hmg0
    obtain ⟨K, KX, S⟩ := Y
    have hmg : mg ("law" : PySem.Str) = some (.ref fa) := by
      have e : (HandSHeadRun.topDef (OpenLaw.row PySem.Challenge.rw_floorward_k52_whole_led_put_and_taken_ba).prog 57).name = ("law" : PySem.Str) := by kernel_rfl
      rw [← e]
      exact hmg0
    obtain ⟨fd, hb, hF⟩ := FWL.facts (w := w) KX G hmg S.d S.ex S.er
    refine ⟨K, KX, fd, FWL.tf.map (He.cT K), FWL.sp_law K, fun p hp => ?_, fun p hp => ?_, fun p hp => ?_, hb, fun H a ns hl hbits hH hS => ⟨a, ns, rfl, FWL.tabs_of hH, hS, fun _ => rfl⟩, hF⟩
    · obtain ⟨q, hq, rfl⟩ := List.mem_map.mp hp; exact S.empty q hq
    · obtain ⟨q, hq, rfl⟩ := List.mem_map.mp hp; exact S.out q hq
    · obtain ⟨q, hq, rfl⟩ := List.mem_map.mp hp; exact PySem.W.codeHd_of_K KX (S.hd q hq)
