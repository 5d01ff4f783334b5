import PyProof.Rows.All
import Wide.All
import OpenK.AllK
import Wide.FinOn
import PyProof.ZipIter
import PyProof.EnumIter
import HandS.HotCalls
import HandS.Iter
import HandS.Comp
import KE.KStateDown
import Lean
import HandS.ForMost
import HandS.Exc
import HandS.WordsExc
import HandS.More
import HandS.Wide
import HandS.WideBits
import HandS.IsInst
import HandS.Style
import HandS.TupAny
import HandS.TupMul
import HandS.SortInts
import HandS.Conv
import HandS.Evl
import HandS.Zip
import HandS.Flow
import HandS.Defaults
import HandS.Head0
import HandS.Head1
import HandS.Head2
import HandS.HeadEnd
import HandS.HeadHook1
import HandS.HeadHook2
import KE.KExcSuper
import HandS.TryMany
import HandS.TryOnly
import HandS.ExcOwn
import HandS.Lambda
import HandS.EndTab
import HandS.HeadHook4
import HandS.HeadWalk
import HandS.ExcCtx
import HandS.ExcIs
import HandS.Text
import PySem.Challenge.RW_floorward_k26_errors_made
import HandS.MakeKw
import HandS.ExcValue
import KE.GoesMore
import KE.KRevSl
import HandS.Walk
import HandS.Strs
import HandS.Deep
set_option Elab.async false
set_option linter.all false
set_option maxRecDepth 100000
set_option maxHeartbeats 4000000
namespace FW
open PySem PySem.Spec PyProof.Rows HotX
/-! ### walked things come to their end while an exception is handled -/
section
variable {prog : Program} {w : World} {A : Around} {E : Value → Shared → Prop} {s : Shared}
/-- a StopIteration is made and thrown: the old objects stay -/
theorem stop_hot {α : Type} {x1 : Addr} {Q : α → Shared → Prop} (hot : HotAt A x1 s.heap)
    (hE : ∀ h' e, (∀ b o, s.heap.get? b = some o → h'.get? b = some o) → (∃ o, h'.get? e = some o ∧ o.cls = .type "StopIteration") → E (.ref e) { s with heap := h' }) :
    wpAny (model prog w) A (Builtin.SmallTypes.stopIteration : Sem α) Q E s := by
  obtain ⟨hh, o1, v1, g1, d1, c1⟩ := hot
  unfold Builtin.SmallTypes.stopIteration
  refine wpAny_bind ?_
  unfold newExc newTuple
  refine wpAny_bind (wpAny_newObj_type (wpAny_bind (m := firstArgMember _ _) (wpAny_of_eq (a := Value.none) (by first | rfl | (simp only [firstArgMember]; rfl)) (wpAny_newObj_type ?_ (by size_fits)))) (by size_fits))
  refine raiseNew_hot ⟨hh, o1, v1, Heap.get?_push_of_some _ (Heap.get?_push_of_some _ g1), d1, c1⟩ (Nat.ne_of_lt (Heap.lt_size (Heap.get?_push_of_some _ g1))) (Heap.get?_push_size _ rfl) rfl (by first | (simp; done) | (simp; omega)) ?_
  refine hE _ _ (fun b o q => ?_) ⟨_, Heap.get?_update_self _ (Heap.get?_push_size _ rfl) rfl, rfl⟩
  have q2 := Heap.get?_push_of_some { cls := .type "tuple", data := .seq ([] : List Value).toArray } q
  rw [Heap.get?_update_other _ _ (Nat.ne_of_gt (Heap.lt_size q2))]
  exact Heap.get?_push_of_some _ q2
theorem hot_but {x1 it : Addr} {h h' : Heap} (hot : HotAt A x1 h) (k : ∀ b o, b ≠ it → h.get? b = some o → h'.get? b = some o) (n : x1 ≠ it) : HotAt A x1 h' := by
  obtain ⟨hh, o1, v1, g1, d⟩ := hot
  exact ⟨hh, o1, v1, k _ _ n g1, d⟩
/-- the objects but one are kept -/
abbrev KpB (it : Addr) (h h' : Heap) : Prop := ∀ b o, b ≠ it → h.get? b = some o → h'.get? b = some o
/-- what list and tuple iterators do behind the last item -/
theorem list_end_hot {it l x1 : Addr} {i : Nat} {items : Array Value} {Q : Fin → Shared → Prop} (hot : HotAt A x1 s.heap) (n1 : x1 ≠ it) (hit : s.heap.IsListIter it l i) (hl : s.heap.IsList l items) (hx : items[i]? = none)
    (hE : ∀ h' e, KpB it s.heap h' → (∃ o, h'.get? e = some o ∧ o.cls = .type "StopIteration") → E (.ref e) { s with heap := h' }) :
    wpAny (model prog w) A (Builtin.«list_iterator.__next__» ⟨[.ref it], []⟩) Q E s := by
  obtain ⟨oi, gi, ci, di⟩ := id hit
  obtain ⟨ol, gl, _, nl, dl⟩ := hl
  show wpAny _ _ (field (.ref it) 0 >>= _) _ _ s
  refine wpAny_bind (wpAny_field gi di (x := .ref l) rfl ?_)
  rw [if_neg (show ¬ (Value.ref l == Value.none) = true from Bool.false_ne_true)]
  refine wpAny_bind (wpAny_field gi di (x := .int i 0) rfl (wpAny_bind (wpAny_seqItems gl dl ?_)))
  simp only [Int.toNat_natCast, hx]
  refine wpAny_bind (wpAny_rule (wpAny_bind (wpAny_setField gi di (by simp) (stop_hot (hot_but hot (fun b o nb q => (Heap.SameBut.update ..).extBut b o nb q) n1) fun h' e k he => hE h' e (fun b o nb q => k b o ((Heap.SameBut.update ..).extBut b o nb q)) he))))
theorem tuple_end_hot {it l x1 : Addr} {i : Nat} {items : Array Value} {Q : Fin → Shared → Prop} (hot : HotAt A x1 s.heap) (n1 : x1 ≠ it) (hit : IsTupIter s.heap it l i) (hl : IsTup s.heap l items) (hx : items[i]? = none)
    (hE : ∀ h' e, KpB it s.heap h' → (∃ o, h'.get? e = some o ∧ o.cls = .type "StopIteration") → E (.ref e) { s with heap := h' }) :
    wpAny (model prog w) A (Builtin.«tuple_iterator.__next__» ⟨[.ref it], []⟩) Q E s := by
  obtain ⟨oi, gi, ci, di⟩ := id hit
  obtain ⟨ol, gl, _, nl, dl⟩ := hl
  show wpAny _ _ (field (.ref it) 0 >>= _) _ _ s
  refine wpAny_bind (wpAny_field gi di (x := .ref l) rfl ?_)
  rw [if_neg (show ¬ (Value.ref l == Value.none) = true from Bool.false_ne_true)]
  refine wpAny_bind (wpAny_field gi di (x := .int i 0) rfl (wpAny_bind (wpAny_seqItems gl dl ?_)))
  simp only [Int.toNat_natCast, hx]
  refine wpAny_bind (wpAny_rule (wpAny_bind (wpAny_setField gi di (by simp) (stop_hot (hot_but hot (fun b o nb q => (Heap.SameBut.update ..).extBut b o nb q) n1) fun h' e k he => hE h' e (fun b o nb q => k b o ((Heap.SameBut.update ..).extBut b o nb q)) he))))
theorem next_list_end_hot {it l x1 : Addr} {i : Nat} {items : Array Value} {Q : Option Value → Shared → Prop} (hot : HotAt A x1 s.heap) (n1 : x1 ≠ it) (hit : s.heap.IsListIter it l i) (hl : s.heap.IsList l items) (hx : items[i]? = none)
    (hQ : ∀ h', KpB it s.heap h' → Q none { s with heap := h' }) : wpAny (model prog w) A (pyNext (.ref it)) Q E s := by
  unfold pyNext
  refine wpAny_bind (wpAny_attempt (wpAny_callSpecial?_slot (name := Str.ofString "__next__") hit.typeIs slot_listiter_next (wpAny_call_entry slot_listiter_next hit.typeIs entry_listiter_next
    (list_end_hot hot n1 hit hl hx fun h' e k he => ?_) (args_listiter_next _))))
  obtain ⟨o, go, co⟩ := he
  exact wpAny_bind (wpAny_isInstance (T := "StopIteration") (b := true) ⟨o, go, co⟩ isSubtype_stop (wpAny_pure (hQ _ k)))
theorem next_tuple_end_hot {it l x1 : Addr} {i : Nat} {items : Array Value} {Q : Option Value → Shared → Prop} (hot : HotAt A x1 s.heap) (n1 : x1 ≠ it) (hit : IsTupIter s.heap it l i) (hl : IsTup s.heap l items) (hx : items[i]? = none)
    (hQ : ∀ h', KpB it s.heap h' → Q none { s with heap := h' }) : wpAny (model prog w) A (pyNext (.ref it)) Q E s := by
  unfold pyNext
  refine wpAny_bind (wpAny_attempt (wpAny_callSpecial?_slot (name := Str.ofString "__next__") hit.typeIs slot_tupleiter_next (wpAny_call_entry slot_tupleiter_next hit.typeIs entry_tupleiter_next
    (tuple_end_hot hot n1 hit hl hx fun h' e k he => ?_) (args_tupleiter_next _))))
  obtain ⟨o, go, co⟩ := he
  exact wpAny_bind (wpAny_isInstance (T := "StopIteration") (b := true) ⟨o, go, co⟩ isSubtype_stop (wpAny_pure (hQ _ k)))
theorem nextOf_end_hot {it l x1 : Addr} {i : Nat} {items : Array Value} {Q : Value → Shared → Prop} (hot : HotAt A x1 s.heap) (n1 : x1 ≠ it) (hit : s.heap.IsListIter it l i) (hl : s.heap.IsList l items) (hx : items[i]? = none)
    (hE : ∀ h' e, KpB it s.heap h' → (∃ o, h'.get? e = some o ∧ o.cls = .type "StopIteration") → E (.ref e) { s with heap := h' }) :
    wpAny (model prog w) A (Builtin.SmallTypes.nextOf (.ref it)) Q E s := by
  unfold Builtin.SmallTypes.nextOf
  exact wpAny_bind (wpAny_callSpecial?_slot (name := Str.ofString "__next__") hit.typeIs slot_listiter_next (wpAny_call_entry slot_listiter_next hit.typeIs entry_listiter_next
    (list_end_hot hot n1 hit hl hx hE) (args_listiter_next _)))
/-- a tuple is taken apart -/
theorem unpack_hot {env : Env} {elts : List Expr} {k1} {pos : Pos} {t x1 : Addr} {items : Array Value} {Q : Unit → Shared → Prop} (hot : HotAt A x1 s.heap) (ht : IsTup s.heap t items)
    (hn : (assignEach elts env).length = items.size) (hstar : (assignEach elts env).findIdx? (·.1) = none)
    (h : ∀ h', KpB s.heap.objs.size s.heap h' → wpAny (model prog w) A (assignInOrder ((assignEach elts env).map (·.2)) items.toList) Q E { s with heap := h' }) :
    wpAny (model prog w) A (assign (.Tuple elts k1 pos) env (.ref t)) Q E s := by
  have lt : t ≠ s.heap.objs.size := by obtain ⟨o, ho, _⟩ := ht; exact Nat.ne_of_lt (Heap.lt_size ho)
  have lx : x1 ≠ s.heap.objs.size := by obtain ⟨_, o, _, ho, _⟩ := hot; exact Nat.ne_of_lt (Heap.lt_size ho)
  rw [assign_Tuple]
  refine wpAny_bind (wpAny_standAt ?_)
  unfold unpack
  rw [hn, hstar]
  refine wpAny_bind (wpAny_holding ?_)
  unfold unpackItems notIterableAtAll
  refine wpAny_bind (wpAny_bind (wpAny_specialOf ht.typeIs slot_tuple_iter.lookup (wpAny_pure ?_)))
  rw [if_neg (by decide)]
  refine wpAny_bind (wpAny_holding (iter_tuple ht (wpAny_bind (wpAny_holding (draw_tuple lt items.size 0 _ _ ⟨_, Heap.get?_push_size _ rfl, rfl, rfl⟩ (ht.push _) (by omega) fun h₁ it₁ sb => ?_)))))
  have all : ((items.toList.drop 0).take items.size) = items.toList := by
    rw [List.drop_zero]; exact List.take_of_length_le (by simp)
  rw [all, if_neg (by simp)]
  refine wpAny_bind (wpAny_holding (next_tuple_end_hot (s := { s with heap := h₁ }) (hot_but (hot_but hot (it := s.heap.objs.size) (fun b o _ q => Heap.get?_push_of_some _ q) lx) (fun b o nb q => sb.extBut b o nb q) lx) lx it₁ ((ht.push _).extBut sb.extBut lt) (by simp) fun h₂ k₂ => ?_))
  simp only [Option.isSome_none, Bool.false_eq_true, if_false]
  exact wpAny_pure (h h₂ fun b o nb q => k₂ b o nb (sb.extBut b o nb (Heap.get?_push_of_some _ q)))
/-- a zip of two lists comes to its end -/
theorem zip_end_hot {z TI TO i1 i2 l1 l2 x1 : Addr} {k1 k2 : Nat} {xs ys : Array Value} {a b : Value} {Q : Fin → Shared → Prop} (hot : HotAt A x1 s.heap) (nz : x1 ≠ z) (n1 : x1 ≠ i1) (n2 : x1 ≠ i2) (nT : x1 ≠ TO) (D : ZipApart z TI TO i1 i2 l1 l2)
    (hz : IsZip s.heap z TI TO .none) (hTI : IsPair s.heap TI (.ref i1) (.ref i2)) (hTO : IsPair s.heap TO a b) (h1 : s.heap.IsListIter i1 l1 k1) (h2 : s.heap.IsListIter i2 l2 k2) (hl1 : s.heap.IsList l1 xs) (hl2 : s.heap.IsList l2 ys) (hend : xs[k1]? = none ∨ ys[k2]? = none)
    (hE : ∀ h' e, (∀ c o, c ∉ [z, TO, i1, i2] → s.heap.get? c = some o → h'.get? c = some o) → (∃ o, h'.get? e = some o ∧ o.cls = .type "StopIteration") → E (.ref e) { s with heap := h' }) :
    wpAny (model prog w) A (Builtin.«zip.__next__» ⟨[.ref z], []⟩) Q E s := by
  have nm : ∀ {c : Addr}, c ∉ [z, TO, i1, i2] → c ≠ z ∧ c ≠ TO ∧ c ≠ i1 ∧ c ≠ i2 := fun {c} q => ⟨fun e => q (by simp [e]), fun e => q (by simp [e]), fun e => q (by simp [e]), fun e => q (by simp [e])⟩
  show wpAny _ _ (field (.ref z) 2 >>= _) _ _ _
  refine wpAny_bind (wpAny_field hz rfl (x := .bool false) rfl (wpAny_bind (wpAny_field hz rfl (x := .ref TI) rfl (wpAny_bind (wpAny_seqItems hTI rfl ?_)))))
  show wpAny _ _ (Builtin.SmallTypes.ownedTupleIsFree (.ref z) >>= _) _ _ _
  unfold Builtin.SmallTypes.ownedTupleIsFree
  refine wpAny_bind (wpAny_bind (wpAny_field hz rfl (x := .none) rfl (wpAny_pure ?_)))
  simp only [if_true]
  refine wpAny_bind (wpAny_rule (wpAny_bind (wpAny_field hz rfl (x := .ref TO) rfl (wpAny_bind (wpAny_setField_rec hz (by simp) fun ha za sa => ?_)))))
  have za : IsZip ha z TI TO .ellipsis := za
  have kza := sa.extBut
  refine wpAny_bind ?_
  simp only [List.zipIdx_cons, List.zipIdx_nil, List.forIn_cons, List.forIn_nil]
  refine wpAny_bind (wpAny_bind (wpAny_onRaise ?_))
  show wpAny _ _ (Builtin.SmallTypes.nextOf (.ref i1) >>= _) _ _ _
  have hota : HotAt A x1 ha := hot_but hot (fun b o nb q => kza b o nb q) nz
  cases hx : xs[k1]? with
  | none =>
    refine wpAny_bind (nextOf_end_hot (s := { s with heap := ha }) hota n1 (h1.extBut kza D.i1z) (hl1.extBut kza D.l1z) hx fun hb e kb ⟨oe, ge, ce⟩ => ?_)
    have zb : IsZip hb z TI TO .ellipsis := kb _ _ D.i1z.symm za
    have ez : e ≠ z := fun q => by rw [q, zb] at ge; cases ge; simp at ce
    exact wpAny_setField_rec zb (by simp) fun hc _ sc => hE hc e (fun c o q g => sc.extBut _ _ (nm q).1 (kb _ _ (nm q).2.2.1 (kza _ _ (nm q).1 g))) ⟨oe, sc.extBut _ _ ez ge, ce⟩
  | some x =>
    have hy : ys[k2]? = none := by
      rcases hend with q | q
      · rw [hx] at q; cases q
      · exact q
    refine wpAny_bind (wpAny_nextOf_list_item (h1.extBut kza D.i1z) (hl1.extBut kza D.l1z) hx fun hb ib sb => wpAny_pure ?_)
    have tb : IsPair hb TO a b := sb.extBut _ _ D.TOi1 (kza _ _ D.TOz hTO)
    refine wpAny_bind (wpAny_seqItems tb rfl (wpAny_bind (wpAny_updateSeq_pair tb fun hc tc sc => wpAny_bind (wpAny_letGo (wpAny_pure ?_)))))
    refine wpAny_bind (wpAny_bind (wpAny_onRaise ?_))
    show wpAny _ _ (Builtin.SmallTypes.nextOf (.ref i2) >>= _) _ _ _
    have hotc : HotAt A x1 hc := hot_but (hot_but hota (fun b o nb q => sb.extBut b o nb q) n1) (fun b o nb q => sc.extBut b o nb q) nT
    refine wpAny_bind (nextOf_end_hot (s := { s with heap := hc }) hotc n2 (((h2.extBut kza D.i2z).extBut sb.extBut D.i12.symm).extBut sc.extBut D.TOi2.symm) (((hl2.extBut kza D.l2z).extBut sb.extBut D.l2i1).extBut sc.extBut D.l2TO) hy fun hd e kd ⟨oe, ge, ce⟩ => ?_)
    have zd : IsZip hd z TI TO .ellipsis := kd _ _ D.i2z.symm (sc.extBut _ _ D.TOz.symm (sb.extBut _ _ D.i1z.symm za))
    have ez : e ≠ z := fun q => by rw [q, zd] at ge; cases ge; simp at ce
    exact wpAny_setField_rec zd (by simp) fun hf _ sf => hE hf e (fun c o q g => sf.extBut _ _ (nm q).1 (kd _ _ (nm q).2.2.2 (sc.extBut _ _ (nm q).2.1 (sb.extBut _ _ (nm q).2.2.1 (kza _ _ (nm q).1 g))))) ⟨oe, sf.extBut _ _ ez ge, ce⟩
theorem next_zip_end_hot {z TI TO i1 i2 l1 l2 x1 : Addr} {k1 k2 : Nat} {xs ys : Array Value} {a b : Value} {Q : Option Value → Shared → Prop} (hot : HotAt A x1 s.heap) (nz : x1 ≠ z) (n1 : x1 ≠ i1) (n2 : x1 ≠ i2) (nT : x1 ≠ TO) (D : ZipApart z TI TO i1 i2 l1 l2)
    (hz : IsZip s.heap z TI TO .none) (hTI : IsPair s.heap TI (.ref i1) (.ref i2)) (hTO : IsPair s.heap TO a b) (h1 : s.heap.IsListIter i1 l1 k1) (h2 : s.heap.IsListIter i2 l2 k2) (hl1 : s.heap.IsList l1 xs) (hl2 : s.heap.IsList l2 ys) (hend : xs[k1]? = none ∨ ys[k2]? = none)
    (hQ : ∀ h', (∀ c o, c ∉ [z, TO, i1, i2] → s.heap.get? c = some o → h'.get? c = some o) → Q none { s with heap := h' }) : wpAny (model prog w) A (pyNext (.ref z)) Q E s := by
  have ty : s.TypeIs (.ref z) "zip" := ⟨_, hz, rfl⟩
  unfold pyNext
  refine wpAny_bind (wpAny_attempt (wpAny_callSpecial?_slot (name := Str.ofString "__next__") ty F.slot_zip_next (wpAny_call_entry F.slot_zip_next ty F.entry_zip_next (zip_end_hot hot nz n1 n2 nT D hz hTI hTO h1 h2 hl1 hl2 hend fun h' e k ⟨o, go, co⟩ => ?_) (F.args_zip_next_1 _))))
  exact wpAny_bind (wpAny_isInstance (T := "StopIteration") (b := true) ⟨o, go, co⟩ isSubtype_stop (wpAny_pure (hQ _ k)))
end
end FW
namespace FW
open PySem PySem.Spec PyProof.Rows L2 L2H HotX
/-! ### the layer's walks while an exception is handled -/
theorem hot_at {X : Cx} {pins : List (Addr × Obj)} {σ : L2.St} {H : Hp} {s : Shared} (c : HotC X) (I : Inv X pins σ H s) : ∃ x1, HotAt X.A x1 s.heap ∧ ∀ b, FpOk X pins H b → x1 ≠ b := by
  obtain ⟨p, ⟨hh, v1, e1, c1⟩, hp⟩ := c
  exact ⟨p.1, ⟨hh, p.2, v1, (I.pin p (List.mem_append_left _ hp)).1, e1, c1⟩, fun b f => f.2.2.2.2.2 p (List.mem_append_left _ hp)⟩
theorem turnH_list {P : Program} {w : World} {K : PySem.W.Frag} {tg : Expr} (a it : Addr) : TurnH P w K tg (Itl K a) [it] it (fun i h => h.IsListIter it a i) where
  mem := List.mem_cons_self
  obj := (turn_list (P := P) (w := w) (K := K) (tg := tg) a it).obj
  keep := (turn_list (P := P) (w := w) (K := K) (tg := tg) a it).keep
  self := (turn_list (P := P) (w := w) (K := K) (tg := tg) a it).self
  item := by
    rintro X rfl rfl rfl _ i pins s σ H E I ff st ⟨xs, x, sq, ex⟩
    obtain ⟨us, rs, pl, _⟩ := I.list sq
    obtain ⟨u, eu, ru⟩ := rs.get ex
    have fi := ff it List.mem_cons_self
    refine wpAny_pyNext_list_item st pl.isList (x := u) (by simpa using eu) fun g sg sb => ?_
    obtain ⟨o, go, co, dO⟩ := id sg
    refine ⟨u, rfl, go_of (s := { s with heap := g }) go co dO (by decide) ⟨x, H, I.turnedL (t' := s.toks) (ch := [it]) (fun b o nb q => (sb.2 b (fun z => nb (by simp [z]))).trans q) ff, ru, ⟨rfl, fun ys hy => ?_⟩, sg, fun b hb => (ff b hb).1⟩⟩
    rw [I.list_inj hy sq]; exact ex
  done := by
    rintro X rfl rfl rfl hc i pins s σ H E I ff st ⟨xs, sq, ex⟩
    obtain ⟨us, rs, pl, _⟩ := I.list sq
    obtain ⟨x1, hot, ne⟩ := hot_at hc I
    have := rs.length
    exact next_list_end_hot hot (ne it (ff it List.mem_cons_self)) st pl.isList (by simp; omega) fun g kg => ⟨rfl, I.turnedL (t' := s.toks) (ch := [it]) (fun b o nb q => kg b o (fun z => nb (by simp [z])) q) ff⟩
theorem turnH_zip {P : Program} {w : World} {K : PySem.W.Frag} {elts : List Expr} {kk : Nat} {tpos : Pos} {a b z TI TO i1 i2 : Addr} (D : ZipApart z TI TO i1 i2 a b) :
    TurnH P w K (.Tuple elts kk tpos) (Itz K a b) [z, TI, TO, i1, i2] z (fun i h => IsZip h z TI TO .none ∧ IsPair h TI (.ref i1) (.ref i2) ∧ (∃ x y, IsPair h TO x y) ∧ h.IsListIter i1 a i ∧ h.IsListIter i2 b i) where
  mem := List.mem_cons_self
  obj := (turn_zip (P := P) (w := w) (K := K) (elts := elts) (kk := kk) (tpos := tpos) D).obj
  keep := (turn_zip (P := P) (w := w) (K := K) (elts := elts) (kk := kk) (tpos := tpos) D).keep
  self := (turn_zip (P := P) (w := w) (K := K) (elts := elts) (kk := kk) (tpos := tpos) D).self
  item := by
    rintro X rfl rfl rfl _ i pins s σ H E I ff st ⟨xs, ys, x, y, sx, sy, ex, ey⟩
    have lt : ∀ c ∈ [z, TI, TO, i1, i2], c < s.heap.objs.size := fun c hc => by
      obtain ⟨o, g, _⟩ := (turn_zip (P := X.prog) (w := X.w) (K := X.K) (elts := elts) (kk := kk) (tpos := tpos) D).obj i _ st c hc
      exact Heap.lt_size g
    obtain ⟨fz, fI, ⟨x0, y0, fO⟩, f1, f2⟩ := st
    obtain ⟨us, rs, pl, _⟩ := I.list sx
    obtain ⟨ws, rt, pm, _⟩ := I.list sy
    obtain ⟨u, eu, ru⟩ := rs.get ex
    obtain ⟨v, ev, rv⟩ := rt.get ey
    refine wpAny_pyNext_zip_item D fz fI fO f1 f2 pl.isList pm.isList (x := u) (y := v) (by simpa using eu) (by simpa using ev) fun g gz gO g1 g2 gT gs gk => ?_
    refine ⟨_, rfl, wpAny_letOwnedTupleGo_zip (s := { s with heap := g }) gz fun g' z' sb => ?_⟩
    have up : ∀ c o, c ≠ z → g.get? c = some o → g'.get? c = some o := fun c o n q => (sb.2 c n).trans q
    have tz : s.heap.objs.size ≠ z := Nat.ne_of_gt (lt z (by simp))
    have kp : ∀ c o, c ∉ [z, TI, TO, i1, i2] → s.heap.get? c = some o → g'.get? c = some o := fun c o n q => up c o (fun e => n (by simp [e])) (gk c o (fun e => n (by simp [e])) (fun e => n (by simp [e])) (fun e => n (by simp [e])) (fun e => n (by simp [e])) q)
    refine ⟨.ref s.heap.objs.size, _, I.turnedNew (t' := s.toks) (ob := .tup [x, y]) kp ff (Nat.le_refl _) ⟨by show 2 ≤ sizeLine; decide, [u, v], .cons ru (.cons rv .nil), ⟨_, up _ _ tz gT, rfl, _, rfl⟩⟩, rfl,
      ⟨_, x, y, rfl, I.hok.fresh (Nat.le_refl _), rfl, fun l hl => ?_, fun l hl => ?_⟩, ⟨z', up _ _ D.TIz (gk _ _ D.TIz D.TITO D.TIi1 D.TIi2 fI), ⟨u, v, up _ _ D.TOz gO⟩, g1.at fun o q => up _ o D.i1z q, g2.at fun o q => up _ o D.i2z q⟩, fun c hc => ?_⟩
    · rw [I.list_inj hl sx]; exact ex
    · rw [I.list_inj hl sy]; exact ey
    · rw [upd_ne (Nat.ne_of_lt (lt c hc))]; exact (ff c hc).1
  done := by
    rintro X rfl rfl rfl hc i pins s σ H E I ff ⟨fz, fI, ⟨x0, y0, fO⟩, f1, f2⟩ ⟨xs, ys, sx, sy, en⟩
    obtain ⟨us, rs, pl, _⟩ := I.list sx
    obtain ⟨ws, rt, pm, _⟩ := I.list sy
    obtain ⟨x1, hot, ne⟩ := hot_at hc I
    have := rs.length
    have := rt.length
    refine next_zip_end_hot hot (ne _ (ff _ (by simp))) (ne _ (ff _ (by simp))) (ne _ (ff _ (by simp))) (ne _ (ff _ (by simp))) D fz fI fO f1 f2 pl.isList pm.isList (en.elim (fun q => .inl (by simp; omega)) fun q => .inr (by simp; omega)) fun g kg => ⟨rfl, ?_⟩
    exact I.turnedL (t' := s.toks) (ch := [z, TI, TO, i1, i2]) (fun c o n q => kg c o (fun m => n (by simp at m ⊢; rcases m with m | m | m | m <;> simp [m])) q) ff
section
variable {X : Cx} {tg : Expr}
theorem pi_listH {l : Expr} {tl : TE} (hl : PE X l tl) : PIH X tg l (iList X.K tl) := by
  refine ⟨fun pins s σ H R I h => thn (hl.run pins s σ H _ I h) ?_⟩
  rintro v s1 ⟨x, H1, I1, r1, a, rfl, ⟨xs, sq⟩, q⟩
  cases r1
  obtain ⟨us, rs, pl, _⟩ := I1.list sq
  refine wpAny_pyIter_list pl.isList ⟨s1.heap.objs.size, [s1.heap.objs.size], _, _, H1, rfl, I1.kept (t' := s1.toks) fun b o e => Heap.get?_push_of_some _ e, turnH_list a _, ⟨_, Heap.get?_push_size _ rfl, rfl, rfl⟩, fun b hb => ?_, q⟩
  rw [List.mem_singleton.mp hb]
  exact I1.fpOk (Nat.le_refl _) (I1.hok.fresh (Nat.le_refl _))
theorem pi_zipH {e e2 : Expr} {ta : TA} {p pos tpos : Pos} {elts : List Expr} {kk : Nat} (hg : Gl X "zip") (hm : X.mg "zip" = none) (ha : PA X [e, e2] ta)
    (hs : starEach [e, e2] X.env = (false, eval e X.env) :: starEach [e2] X.env := by rfl) (hpl : (backTo pos (starEach [e2] X.env)).any (·.1) = false := by rfl) : PIH X (.Tuple elts kk tpos) (.Call (.Name "zip" p) [e, e2] [] pos) (iZip X.K ta) := by
  refine ⟨fun pins s σ H R I h => Call_ (ld_blt I hg hm PyProof.Rows.boot_zip (PyProof.Rows.callWith_type1 (thn (ha.run pos pins s σ H _ I h) ?_) hs hpl))⟩
  rintro us s1 ⟨vs, H1, I1, r1, a, b, xs, ys, rfl, sx, sy, q⟩
  cases r1 with
  | cons r rr => cases rr with
    | cons r' rr =>
      cases rr
      cases r
      cases r'
      obtain ⟨_, _, pl, _⟩ := I1.list sx
      obtain ⟨_, _, pm, _⟩ := I1.list sy
      refine call_zip_2 pl.isList pm.isList fun g gz gI gO g1 g2 _ gk => wpAny_pyIter_zip gz ⟨s1.heap.objs.size + 4, [s1.heap.objs.size + 4, s1.heap.objs.size + 2, s1.heap.objs.size + 3, s1.heap.objs.size, s1.heap.objs.size + 1], _, _, H1, rfl, I1.kept (t' := s1.toks) gk,
        turnH_zip (PySem.W.ktu_apart s1.heap.objs.size a b pl.lt pm.lt), ⟨gz, gI, ⟨_, _, gO⟩, g1, g2⟩, fun c hc => ?_, q⟩
      have le : s1.heap.objs.size ≤ c := by
        simp at hc
        rcases hc with rfl | rfl | rfl | rfl | rfl <;> omega
      exact I1.fpOk le (I1.hok.fresh le)
theorem pg_tupH {pos : Pos} {es : List Expr} {k : Nat} {t : TGs} {n : Nat} (hc : HotC X) (h : PGs X es t) (hn : (assignEach es X.env).length = n := by rfl) (hst : (assignEach es X.env).findIdx? (·.1) = none := by rfl) : PG X (.Tuple es k pos) (gTup X.K n t) := by
  refine ⟨?_⟩
  rintro pins s σ H v u Q I r ⟨a, xs, rfl, sq, ln, q⟩
  cases r
  obtain ⟨us, rs, it, _⟩ := I.tuple sq
  obtain ⟨x1, hot, _⟩ := hot_at hc I
  refine unpack_hot hot it (by simp [hn, ← ln, rs.length]) hst fun g kg => ?_
  exact h.run pins _ σ H xs _ Q (I.kept (t' := s.toks) fun b o e => kg b o (Nat.ne_of_lt (Heap.lt_size e)) e) (by simpa using rs) q
end
/-! ### a comprehension while an exception is handled -/
/-- the block's context, which bears the handled exception -/
abbrev blkP (X : Cx) (s : Shared) (H : Hp) (scope : Scope) (ce : Env) (fp : List Addr) (p : Addr × Obj) : Cx := { X.blk s H scope ce fp with pn := [p] }
theorem inv_blkP {X : Cx} {s s' : Shared} {H H' : Hp} {scope : Scope} {ce : Env} {fp : List Addr} {p : Addr × Obj} {σ : L2.St} (I : Inv (X.blk s H scope ce fp) [] σ H' s')
    (g : s'.heap.get? p.1 = some p.2 ∧ H' p.1 = none ∧ p.1 ≠ ce.locals ∧ p.1 ∉ frs X.stack ∧ ∀ v, p.2.data ≠ .cell v) : Inv (blkP X s H scope ce fp p) [] σ H' s' :=
  ⟨⟨I.ok.mod, I.ok.kind, I.ok.glob, I.ok.blt, I.ok.above, I.ok.inj, I.ok.has, I.ok.cab, I.ok.hd, I.ok.frames, I.ok.stk, I.ok.exf, I.ok.bs, I.ok.bsz, I.ok.noex, I.ok.exfs, I.ok.funs, I.ok.frf⟩, I.os, I.bare, I.base, I.loc, I.cell, I.free, I.freeC,
    fun q hq => by
      have e : q = p := by simpa using (show q ∈ [p] ++ ([] : List (Addr × Obj)) from hq)
      rw [e]; exact g, I.hok, I.len⟩
end FW
namespace FW
open PySem PySem.Spec PyProof.Rows L2 L2H HotX
section
variable {X : Cx} {tg iter elt : Expr} {ifs : List Expr} {scope : Scope} {own : List (Str × Nat)} {g : TG} {tt : TT} {te : TE}
/-- the rounds of a comprehension's block: from the block's state to what is behind the last round -/
theorem lcH_rounds {s3 : Shared} {H3 : Hp} {ce : Env} {fp : List Addr} {p : Addr × Obj} {tn : Nat → Heap → Prop} {J : It} {it D : Addr} {σ0 : L2.St} {W : Nat → Nat → Hp → Prop} {Q : VK} {R : Result → Shared → Prop} {pos : Pos} {vs : List Nat} {s4 : Shared} {m0 : Nat}
    (hot : HotC (blkP X s3 H3 scope ce fp p)) (T : TurnH X.prog X.w X.K tg J fp it tn) (pg : PG (blkP X s3 H3 scope ce fp p) tg g) (pt : PTs (blkP X s3 H3 scope ce fp p) ifs tt) (pe : PE (blkP X s3 H3 scope ce fp p) elt te)
    (npin : ∀ b ∈ fp, p.1 ≠ b)
    (I4 : Inv (blkP X s3 H3 scope ce fp p) [] (wipe σ0 vs) H3 s4) (st4 : tn 0 s4.heap) (n4 : ∀ b ∈ fp, H3 b = none) (w0 : W 0 m0 H3)
    (turn : ∀ i m H, W i m H → (J.stop i H ∧ Q (.ref D) H) ∨ (J.go i H ∧ ∃ Nx : Hp → Prop, (∀ H', Nx H' → ∃ m', m' < m ∧ W (i + 1) m' H') ∧ ∀ x H', J.yld i H x H' → g x (wipe σ0 vs) H' fun σ2 H2 => wipe σ2 vs = wipe σ0 vs ∧ tt σ2 H2 fun b H3 =>
      if b = true then te σ2 H3 fun y H4 => ∃ acc, H4 D = some (.lst acc) ∧ acc.length < sizeLine ∧ Nx (upd H4 D (.lst (acc ++ [y]))) else Nx H3))
    (fin : ∀ H5 s6, Inv (blkP X s3 H3 scope ce fp p) [] (wipe σ0 vs) H5 s6 → Q (.ref D) H5 → R (.ok .next) s6) :
    codeAny (model X.prog X.w) X.A (.compLoop (.ListComp elt [⟨tg, iter, ifs, 0⟩] scope pos) 0 (.ref it) (.ref D) ce) R s4 := by
  have fpk : ∀ {σ' : L2.St} {H' : Hp} {s' : Shared}, Inv (blkP X s3 H3 scope ce fp p) [] σ' H' s' → (∀ b ∈ fp, H' b = none) → ∀ b ∈ fp, FpOk (blkP X s3 H3 scope ce fp p) [] H' b := fun {σ' H' s'} I n b hb =>
    ⟨n b hb, (I.ok.exf b hb).1, I.ok.exfs b hb, .inl hb, fun x c e => (I.ok.exf b hb).2 x c e, fun q hq => by
      have e : q = p := by simpa using (show q ∈ [p] ++ ([] : List (Addr × Obj)) from hq)
      rw [e]; exact npin b hb⟩
  refine compLoop_any (fun n s' => ∃ i H', Inv (blkP X s3 H3 scope ce fp p) [] (wipe σ0 vs) H' s' ∧ tn i s'.heap ∧ (∀ b ∈ fp, H' b = none) ∧ W i n H') ?_ m0 ⟨0, H3, I4, st4, n4, w0⟩
  rintro n s5 ⟨i, H5, I5, st5, n5, w5⟩
  rcases turn i n H5 w5 with ⟨stop, qe⟩ | ⟨go, Nx, less, step⟩
  · refine thnF (T.done (blkP X s3 H3 scope ce fp p) rfl rfl rfl hot i [] s5 _ H5 (fun _ _ => False) I5 (fpk I5 n5) st5 stop) ?_
    rintro r s6 ⟨rfl, I6⟩
    exact fin H5 s6 I6 qe
  · refine thnF (T.item (blkP X s3 H3 scope ce fp p) rfl rfl rfl hot i [] s5 _ H5 (fun _ _ => False) I5 (fpk I5 n5) st5 go) ?_
    rintro r s6 ⟨u, rfl, h6⟩
    refine thnF h6 ?_
    rintro _ s7 ⟨x, H7, I7, r7, y7, st7, n7⟩
    refine thnF (pg.run _ s7 _ H7 x u _ (I7.pinned (fpk I7 n7) (T.obj _ _ st7)) r7 (step x H7 y7)) ?_
    rintro _ s8 ⟨σ8, H8, I8, e8, q8⟩
    refine thnF (pt.run _ s8 σ8 H8 _ I8 q8) ?_
    rintro b s9 ⟨H9, I9, q9⟩
    have again : ∀ {s' : Shared} {H' : Hp}, Inv (blkP X s3 H3 scope ce fp p) ([] ++ pinsAt fp s7.heap) σ8 H' s' → Nx H' → ∃ m, m < n ∧ ∃ i H', Inv (blkP X s3 H3 scope ce fp p) [] (wipe σ0 vs) H' s' ∧ tn i s'.heap ∧ (∀ b ∈ fp, H' b = none) ∧ W i m H' := fun {s' H'} I' nx => by
      obtain ⟨m', lt, w'⟩ := less H' nx
      have pinned : ∀ b ∈ fp, ∀ o, s7.heap.get? b = some o → s'.heap.get? b = some o ∧ H' b = none := fun b hb o e => by
        have z := I'.pin (b, o) (List.mem_append_right _ (List.mem_append_right _ (mem_pinsAt hb e)))
        exact ⟨z.1, z.2.1⟩
      refine ⟨m', lt, i + 1, H', (I'.unpinned (pins := [])).weak (by rw [← e8, wipe_length]) (fun j v e => ?_), T.keep _ _ _ st7 fun b hb o e => (pinned b hb o e).1, fun b hb => ?_, w'⟩
      · rw [← e8] at e
        exact (wipe_some e).1
      · obtain ⟨o, e, _⟩ := T.obj _ _ st7 b hb
        exact (pinned b hb o e).2
    cases b with
    | false =>
      rw [if_neg (by decide)] at q9 ⊢
      exact again I9 q9
    | true =>
      rw [if_pos rfl] at q9 ⊢
      refine thnF (pe.run _ s9 σ8 H9 _ I9 q9) ?_
      rintro z sA ⟨y, HA, IA, rA, acc, eD, ln, nx⟩
      exact app_ok (X := blkP X s3 H3 scope ce fp p) IA eD ln rA fun sB IB => again IB nx
/-- [elt for target in iter if ..] as a value, while an exception is handled -/
theorem pe_lcH {pos : Pos} {wi : TI} (hc : HotC X) (hN : X.N.Nodup) (hi : PIH X tg iter wi) (ok : BlkOk X.N X.env.scope scope own)
    (hg : ∀ (s : Shared) (H : Hp) (C : Addr) (cl : List (Str × Addr)) (fp : List Addr) (p : Addr × Obj), Hot1 X.A p → PG (blkP X s H scope (compEnvC scope cl C X.env) fp p) tg g)
    (ht : ∀ (s : Shared) (H : Hp) (C : Addr) (cl : List (Str × Addr)) (fp : List Addr) (p : Addr × Obj), Hot1 X.A p → PTs (blkP X s H scope (compEnvC scope cl C X.env) fp p) ifs tt)
    (he : ∀ (s : Shared) (H : Hp) (C : Addr) (cl : List (Str × Addr)) (fp : List Addr) (p : Addr × Obj), Hot1 X.A p → PE (blkP X s H scope (compEnvC scope cl C X.env) fp p) elt te)
    (hs : ∀ x, foldedSetIterable iter X.env x = pure x := by intro _; rfl) : PE X (.ListComp elt [⟨tg, iter, ifs, 0⟩] scope pos) (tLc wi g tt te (own.map (·.2))) := by
  refine ⟨fun pins s σ H Q I h => ?_⟩
  obtain ⟨p, hot, hp⟩ := hc
  rw [eval_ListComp]
  have fre : ∀ y ∈ scope.names, y.2 = .free → ∃ c, X.env.cells.lookup y.1 = some c := fun y hy e => (ok.free y hy e).elim (fun k => I.ok.has _ (.inl k)) fun k => I.ok.has _ (.inr k)
  refine wpAny_comprehension_free (use := none) rfl hs (closure_ok fre) ok.kind (fun y hy e => by rw [ok.uniq y hy, e]) (thn (hi.run pins s σ H _ I h) fun xv s1 hx => thn hx ?_)
  rintro itv s2 ⟨it, fp, tn, J, H2, rfl, I2, T, st2, f2, q⟩
  refine wpAny_newObj_type (newEnv_comp ?_) (by show 0 ≤ sizeLine; decide)
  obtain ⟨W, ⟨m0, w0⟩, turn⟩ := q s2.heap.objs.size (I2.hok.fresh (Nat.le_refl _))
  have lt : ∀ b ∈ fp, b < s2.heap.objs.size := fun b hb => by
    obtain ⟨o, e, _⟩ := T.obj _ _ st2 b hb
    exact Heap.lt_size e
  obtain ⟨s3, hs3⟩ : ∃ s3 : Shared, s3 = { s2 with heap := s2.heap.push { cls := .type "list", data := .seq ([] : List Value).toArray } } := ⟨_, rfl⟩
  have I3 : Inv X pins σ (upd H2 s2.heap.objs.size (.lst [])) s3 := by
    rw [hs3]
    exact I2.laid (t' := s2.toks) (fun b o e => Heap.get?_push_of_some _ e) (Nat.le_refl _) ⟨Nat.zero_le _, [], 0, .nil, Heap.get?_push_size _ rfl⟩
  have up : ∀ b o, s2.heap.get? b = some o → s3.heap.get? b = some o := fun b o e => by rw [hs3]; exact Heap.get?_push_of_some _ e
  have sz3 : s3.heap.objs.size = s2.heap.objs.size + 1 := by rw [hs3]; exact Heap.size_push _ _
  have f3 : ∀ b ∈ fp, FpOk X pins (upd H2 s2.heap.objs.size (.lst [])) b ∧ b < s3.heap.objs.size := fun b hb => by
    refine ⟨⟨?_, (f2 b hb).2⟩, by rw [sz3]; exact Nat.lt_succ_of_lt (lt b hb)⟩
    rw [upd_ne (Nat.ne_of_lt (lt b hb))]
    exact (f2 b hb).1
  rw [← hs3]
  obtain ⟨H3, hH3⟩ : ∃ H3 : Hp, H3 = upd H2 s2.heap.objs.size (.lst []) := ⟨_, rfl⟩
  rw [← hH3] at I3 f3 w0
  have I4 := block_start I3 ok hN f3
  have P1 := I3.pin p (List.mem_append_left _ hp)
  have I5 := inv_blkP (p := p) I4 ⟨pushCells_keeps _ _ _ _ (Heap.get?_push_of_some _ P1.1), P1.2.1, Nat.ne_of_lt (Heap.lt_size P1.1), fun m => (List.mem_cons.mp (I3.stkSub p.1 m)).elim P1.2.2.1 P1.2.2.2.1, P1.2.2.2.2⟩
  have st4 : tn 0 (pushCells (s3.heap.push { cls := .type "dict", data := .dict #[] }) scope.names) := T.keep _ _ _ st2 fun b _ o e => pushCells_keeps _ _ _ _ (Heap.get?_push_of_some _ (up _ _ e))
  have loop : codeAny (model X.prog X.w) X.A (.compLoop (.ListComp elt [⟨tg, iter, ifs, 0⟩] scope pos) 0 (.ref it) (.ref s2.heap.objs.size) (compEnvC scope (cellsFrom (s3.heap.objs.size + 1) scope.names (cloFrom X.env.cells scope.names [])) s3.heap.objs.size X.env))
      (compPost (model X.prog X.w) X.A X.xe none (EP X pins σ Q) (.ref s2.heap.objs.size) s3.heap.objs.size) { s3 with heap := pushCells (s3.heap.push { cls := .type "dict", data := .dict #[] }) scope.names } := by
    refine lcH_rounds (vs := own.map (·.2)) ⟨p, hot, List.mem_singleton.mpr rfl⟩ T (hg _ _ _ _ _ p hot) (ht _ _ _ _ _ p hot) (he _ _ _ _ _ p hot) (fun b hb => (f2 b hb).2.2.2.2.2 p (List.mem_append_left _ hp)) I5 st4 (fun b hb => (f3 b hb).1.1) w0 turn ?_
    intro H6 s6 I6 q6
    have I7 : Inv X pins σ H6 s6 := I3.call' (ch := fp) I6.os I6.base I6.hok I6.bare fun b hb => ⟨(f3 b hb).1.2.2.2.1, (f3 b hb).1.2.1, (f3 b hb).1.2.2.2.2.1, (f3 b hb).1.2.2.2.2.2⟩
    obtain ⟨m, ns, _⟩ := I6.loc
    obtain ⟨k0, k1, k2, k3, k4, k5⟩ := I3.fpOk (Nat.le_refl _) (show H6 s3.heap.objs.size = none from I6.free)
    exact ⟨m, ns, fun h'' sb => ⟨.ref s2.heap.objs.size, H6, I7.turned (t' := s6.toks) (fun b o nb e => (sb.2 b nb).trans e) k0 k1 k3 k4 k5, rfl, q6⟩⟩
  exact codeAny_compStart_list loop (T.self X.A 0 _ _ _ st4 loop)
end
end FW
namespace FW
open PySem PySem.Spec PyProof.Rows L2
/-! ### operators on ints, by short names -/
abbrev rAdd : R2 := rI0 fun i j => .int (i + j)
abbrev rSub : R2 := rI0 fun i j => .int (i - j)
abbrev rMul : R2 := rI CMulW fun i j => .int (i * j)
abbrev rDiv : R2 := rI CDivW fun i j => .int (i / j)
abbrev rMod : R2 := rI (fun _ j => 0 < j) fun i j => .int (i % j)
abbrev rPow : R2 := rI CPow fun i j => .int (i ^ j.toNat)
abbrev rShr : R2 := rI (fun _ j => 0 ≤ j) fun i j => .int (i / 2 ^ j.toNat)
abbrev rNeg : V → Hp → VK → Prop := rU fun i => .int (-i)
abbrev rLt : R2 := rI0 fun i j => .bl (decide (i < j))
abbrev rLe : R2 := rI0 fun i j => .bl (decide (i ≤ j))
abbrev rGt : R2 := rI0 fun i j => .bl (decide (j < i))
abbrev rGe : R2 := rI0 fun i j => .bl (decide (j ≤ i))
abbrev rIsN : R2 := fun x y H Q => y = .non ∧ Q (.bl (decide (x = .non))) H
abbrev rNotN : R2 := fun x y H Q => y = .non ∧ Q (.bl (!decide (x = .non))) H
abbrev rAddS : R2 := fun x y H Q => ∃ i j, x = .str i ∧ y = .str j ∧ i.length + j.length ≤ sizeLine ∧ Q (.str (i ++ j)) H
abbrev rAbs : List V → Hp → VK → Prop := fun xs H Q => ∃ i, xs = [.int i] ∧ Q (.int (if i < 0 then -i else i)) H
abbrev rMax2 : List V → Hp → VK → Prop := fun xs H Q => ∃ i j, xs = [.int i, .int j] ∧ Q (.int (if j > i then j else i)) H
abbrev rMin2 : List V → Hp → VK → Prop := fun xs H Q => ∃ i j, xs = [.int i, .int j] ∧ Q (.int (if j < i then j else i)) H
abbrev rInt1 : List V → Hp → VK → Prop := fun xs H Q => (∃ i, xs = [.int i] ∧ Q (.int i) H) ∨ ∃ k, xs = [.bl k] ∧ Q (.int (if k then 1 else 0)) H
abbrev rStrI : List V → Hp → VK → Prop := fun xs H Q => ∃ i, xs = [.int i] ∧ i.natAbs.log2 < 1920 ∧ Q (.str (toString i)) H
abbrev rLenStr : List V → Hp → VK → Prop := fun xs H Q => ∃ z, xs = [.str z] ∧ z.length ≤ sizeLine ∧ Q (.int z.length) H
abbrev rTupS (K : PySem.W.Frag) : List V → Hp → VK → Prop := fun xs H Q => ∃ p ys, xs = [.ref p] ∧ ((SqL K H p ys ∧ ∀ l, H l = none → Q (.ref l) (upd H l (.tup ys))) ∨ (SqT K H p ys ∧ Q (.ref p) H))
abbrev tTru (K : PySem.W.Frag) (ta : TE) : TT := fun σ H Q => ta σ H fun x H' => ∃ k, TruV K x H' k ∧ Q k H'
/-- x op= y -/
abbrev iAdd : TIp := ipI fun i j => i + j
abbrev iSub : TIp := ipI fun i j => i - j
abbrev iMul : TIp := rI CMulW fun i j => .int (i * j)
section
variable {X : Cx}
theorem opAdd : OpR X (binaryOp .Add) rAdd := op_add
theorem opSub : OpR X (binaryOp .Sub) rSub := op_sub
theorem opMul : OpR X (binaryOp .Mult) rMul := op_mulW
theorem opDiv : OpR X (binaryOp .FloorDiv) rDiv := op_fdivW
theorem opMod : OpR X (binaryOp .Mod) rMod := op_mod
theorem opPow : OpR X (binaryOp .Pow) rPow := op_pow
theorem opShr : OpR X (binaryOp .RShift) rShr := op_shr
theorem op_addS : OpR X (binaryOp .Add) rAddS := op_add_str
theorem ipAdd : PIp X .Add iAdd := ip_add
theorem ipSub : PIp X .Sub iSub := ip_sub
theorem ipMul : PIp X .Mult iMul := fun pins s σ H x y v u Q I rx ry h => by
  obtain ⟨i, j, rfl, rfl, hc, q⟩ := h
  obtain ⟨t, rfl⟩ := rx
  obtain ⟨t', rfl⟩ := ry
  exact imul_int ⟨.int (i * j), H, I.tok _, ⟨_, rfl⟩, q⟩ hc.ok
end
/-! ### defs by their promises -/
/-- a def that may be called by its name -/
structure Fn (P : Program) (w : World) (K : PySem.W.Frag) (mg : Str → Option Value) (base : Heap) (CX : CXT) (k : Nat) (x : Str) (sp : Sp) (dvs : List V) : Prop where
  ex : ∃ (f : Addr) (fd : FuncData) (ps : List Str) (ds : List Value), FnOk P w K mg base CX k f fd ps sp ∧ mg x = some (.ref f) ∧ PySem.W.keepIn K (.ref f) = true ∧ Binds K fd ps ds ∧ Vals dvs ds
/-- a method of the class at C -/
structure Mt (P : Program) (w : World) (K : PySem.W.Frag) (mg : Str → Option Value) (base : Heap) (CX : CXT) (k : Nat) (C : Addr) (m : Str) (sp : Sp) (dvs : List V) : Prop where
  ex : ∃ (f : Addr) (fd : FuncData) (ps : List Str) (ds : List Value), Cls K C ∧ Meth K C m f ∧ FnOk P w K mg base CX k f fd ps sp ∧ Binds K fd ps ds ∧ Vals dvs ds
/-- a class that may be made by its name -/
structure Mkr (P : Program) (w : World) (K : PySem.W.Frag) (mg : Str → Option Value) (base : Heap) (CX : CXT) (k : Nat) (x : Str) (C : Addr) (sp : Sp) (dvs : List V) : Prop where
  ex : ∃ (f : Addr) (fd : FuncData) (ps : List Str) (ds : List Value), Mk K C f ∧ FnOk P w K mg base CX k f fd ps sp ∧ mg x = some (.ref C) ∧ Binds K fd ps ds ∧ Vals dvs ds
section
variable {X : Cx} {CX : CXT} {k j : Nat} {C : Addr} {x m : Str} {sp : Sp} {dvs : List V} {p pos apos : Pos} {e o : Expr} {es : List Expr} {ta : TE} {t : TA} {E : XK}
theorem pe_f (c : Fn X.prog X.w X.K X.mg X.base CX0 k x sp dvs) (hr : Room j X.A) (hk : k ≤ j) (hg : Gl X x) (ha : PA X (e :: es) t)
    (hdb : (x == ("__debug__" : Str)) = false := by decide) (he : starEach (e :: es) X.env = (false, eval e X.env) :: starEach es X.env := by rfl) (hpl : (backTo pos (starEach es X.env)).any (·.1) = false := by rfl) :
    PE X (.Call (.Name x p) (e :: es) [] pos) (tCall sp dvs E0 t) := by
  obtain ⟨f, fd, ps, ds, F, hm, kp, b, d⟩ := c.ex
  exact pe_call F (hr.mono hk) hg hm kp b d pass0 ha hdb he hpl
theorem pe_f0 (c : Fn X.prog X.w X.K X.mg X.base CX0 k x sp dvs) (hr : Room j X.A) (hk : k ≤ j) (hg : Gl X x)
    (hdb : (x == ("__debug__" : Str)) = false := by decide) : PE X (.Call (.Name x p) [] [] pos) (tCall sp dvs E0 tNil) := by
  obtain ⟨f, fd, ps, ds, F, hm, kp, b, d⟩ := c.ex
  exact pe_call0 F (hr.mono hk) hg hm kp b d pass0 hdb
theorem pe_m (c : Mkr X.prog X.w X.K X.mg X.base CX0 k x C sp dvs) (hr : Room j X.A) (hk : k + 1 ≤ j) (hg : Gl X x) (ha : PA X (e :: es) t)
    (hdb : (x == ("__debug__" : Str)) = false := by decide) (he : starEach (e :: es) X.env = (false, eval e X.env) :: starEach es X.env := by rfl) (hpl : (backTo pos (starEach es X.env)).any (·.1) = false := by rfl) :
    PE X (.Call (.Name x p) (e :: es) [] pos) (tMake C sp dvs E0 t) := by
  obtain ⟨f, fd, ps, ds, M, F, hm, b, d⟩ := c.ex
  exact pe_make M F (hr.mono hk) hg hm b d pass0 ha hdb he hpl
theorem pe_o {pl : Sem Bool} (c : Mt X.prog X.w X.K X.mg X.base CX0 k C m sp dvs) (hr : Room j X.A) (hk : k ≤ j) (he : PE X o ta) (ha : PA X (e :: es) t)
    (hst : starEach (e :: es) X.env = (false, eval e X.env) :: starEach es X.env := by rfl) (hpl : (backTo pos (starEach es X.env)).any (·.1) = false := by rfl)
    (ht : eval (.Call (.Attribute o m apos) (e :: es) [] pos) X.env = (do
      let ov ← eval o X.env
      standAt apos.atName
      let (f, first) ← holding [ov] (getMethod ov m pl)
      callWith pos f first (backTo pos (starEach (e :: es) X.env)) (backToKw pos (keywordEach [] X.env))) := by rfl) :
    PE X (.Call (.Attribute o m apos) (e :: es) [] pos) (tMeth C m sp dvs E0 ta t) := by
  obtain ⟨f, fd, ps, ds, hc, hm, F, b, d⟩ := c.ex
  exact pe_meth (pl := pl) he hc hm F (hr.mono hk) b d pass0 ha hst hpl ht
theorem pe_o0 {pl : Sem Bool} (c : Mt X.prog X.w X.K X.mg X.base CX0 k C m sp dvs) (hr : Room j X.A) (hk : k ≤ j) (he : PE X o ta)
    (ht : eval (.Call (.Attribute o m apos) [] [] pos) X.env = (do
      let ov ← eval o X.env
      standAt apos.atName
      let (f, first) ← holding [ov] (getMethod ov m pl)
      callWith pos f first (backTo pos (starEach [] X.env)) (backToKw pos (keywordEach [] X.env))) := by rfl) :
    PE X (.Call (.Attribute o m apos) [] [] pos) (tMeth C m sp dvs E0 ta tNil) := by
  obtain ⟨f, fd, ps, ds, hc, hm, F, b, d⟩ := c.ex
  exact pe_meth0 (pl := pl) he hc hm F (hr.mono hk) b d pass0 ht
/-- a module's name that is an int -/
theorem pe_gcI {i : Int} (hg : Gl X x) (h : ∃ t, X.mg x = some (.int i t)) (hd : (x == ("__debug__" : Str)) = false := by decide) : PE X (.Name x pos) (tC (.int i)) := by
  obtain ⟨t, hm⟩ := h
  exact pe_glob hg hm ⟨t, rfl⟩ hd
end
/-! ### defs of the head, by their data -/
section
variable {P : Program} {w : World} {K : PySem.W.Frag} {mg : Str → Option Value} {base : Heap}
/-- a def of the module (no defaults), from its body -/
theorem Fn.mk0 {x : Str} {params : Arguments} {body : List Stmt} {scope : Scope} {f : Addr} {N ps : List Str} {k : Nat} {sp : Sp}
    (F : ∃ fd, FunD K x x params body scope [] [] f fd) (g : mg x = some (.ref f)) (S : FnScope N ps scope)
    (hb : ∀ (kV doc pm : Value) (an : Option Addr) (cdv ct : Value) (us : List Value), us.length = ps.length → bindArgs (PySem.W.fnOf x x params body scope .none kV doc pm an cdv ct) ⟨us, []⟩ = pure (ps.zip us))
    (len : ∀ vs H Q E, sp vs H Q E → vs.length = ps.length)
    (hbody : ∀ (cdv : Value) (A : Around) (outer : List Env) (s : Shared) (H : Hp) (vs : List V) (Q : VK) (E : XK), Room k (A.deeper (envOfC x scope s.heap.objs.size f cdv)) → sp vs H Q E →
      ∃ t, PSs (cxOf CX0 P w K mg base N x scope f cdv A outer s H E).nox body t ∧ t { nx := fun _ H' => Q .non H', rt := Q } (start N vs) H) : Fn P w K mg base CX0 (k + 1) x sp [] := by
  obtain ⟨fd, F⟩ := F
  refine ⟨f, fd, ps, [], ?_, g, F.kp, ?_, .nil⟩
  · refine F.ok S len fun cdv A outer s H vs Q E hr h => ?_
    obtain ⟨t, h1, h2⟩ := hbody cdv A outer s H vs Q E hr h
    exact ⟨t, h1.nox, h2⟩
  · exact F.bindsN fun kV doc pm an cdv ct us hl => hb kV doc pm an cdv ct us hl
/-- a method (no defaults) -/
theorem Mt.mk0 {m qual : Str} {C : Addr} {params : Arguments} {body : List Stmt} {scope : Scope} {f : Addr} {N ps : List Str} {k : Nat} {sp : Sp}
    (c : Cls K C) (me : Meth K C m f) (F : ∃ fd, FunD K m qual params body scope [] [] f fd) (S : FnScope N ps scope)
    (hb : ∀ (kV doc pm : Value) (an : Option Addr) (cdv ct : Value) (us : List Value), us.length = ps.length → bindArgs (PySem.W.fnOf m qual params body scope .none kV doc pm an cdv ct) ⟨us, []⟩ = pure (ps.zip us))
    (len : ∀ vs H Q E, sp vs H Q E → vs.length = ps.length)
    (hbody : ∀ (cdv : Value) (A : Around) (outer : List Env) (s : Shared) (H : Hp) (vs : List V) (Q : VK) (E : XK), Room k (A.deeper (envOfC qual scope s.heap.objs.size f cdv)) → sp vs H Q E →
      ∃ t, PSs (cxOf CX0 P w K mg base N qual scope f cdv A outer s H E).nox body t ∧ t { nx := fun _ H' => Q .non H', rt := Q } (start N vs) H) : Mt P w K mg base CX0 (k + 1) C m sp [] := by
  obtain ⟨fd, F⟩ := F
  refine ⟨f, fd, ps, [], c, me, ?_, ?_, .nil⟩
  · refine F.ok S len fun cdv A outer s H vs Q E hr h => ?_
    obtain ⟨t, h1, h2⟩ := hbody cdv A outer s H vs Q E hr h
    exact ⟨t, h1.nox, h2⟩
  · exact F.bindsN hb
/-- a class by its __init__ (no defaults) -/
theorem Mkr.mk0 {x qual : Str} {C : Addr} {params : Arguments} {body : List Stmt} {scope : Scope} {f : Addr} {N ps : List Str} {k : Nat} {sp : Sp}
    (M : Mk K C f) (g : mg x = some (.ref C)) (F : ∃ fd, FunD K "__init__" qual params body scope [] [] f fd) (S : FnScope N ps scope)
    (hb : ∀ (kV doc pm : Value) (an : Option Addr) (cdv ct : Value) (us : List Value), us.length = ps.length → bindArgs (PySem.W.fnOf "__init__" qual params body scope .none kV doc pm an cdv ct) ⟨us, []⟩ = pure (ps.zip us))
    (len : ∀ vs H Q E, sp vs H Q E → vs.length = ps.length)
    (hbody : ∀ (cdv : Value) (A : Around) (outer : List Env) (s : Shared) (H : Hp) (vs : List V) (Q : VK) (E : XK), Room k (A.deeper (envOfC qual scope s.heap.objs.size f cdv)) → sp vs H Q E →
      ∃ t, PSs (cxOf CX0 P w K mg base N qual scope f cdv A outer s H E).nox body t ∧ t { nx := fun _ H' => Q .non H', rt := Q } (start N vs) H) : Mkr P w K mg base CX0 (k + 1) x C sp [] := by
  obtain ⟨fd, F⟩ := F
  refine ⟨f, fd, ps, [], M, ?_, g, ?_, .nil⟩
  · refine F.ok S len fun cdv A outer s H vs Q E hr h => ?_
    obtain ⟨t, h1, h2⟩ := hbody cdv A outer s H vs Q E hr h
    exact ⟨t, h1.nox, h2⟩
  · exact F.bindsN hb
/-- .. with defaults dvs, of which those behind the first j fill up -/
theorem Mkr.mkD {x qual : Str} {C : Addr} {params : Arguments} {body : List Stmt} {scope : Scope} {f : Addr} {N ps : List Str} {k : Nat} {sp : Sp} {dvs : List V}
    (n j : Nat) (M : Mk K C f) (g : mg x = some (.ref C)) (F : ∃ fd, FunD K "__init__" qual params body scope dvs [] f fd) (S : FnScope N ps scope) (hd : dvs ≠ []) (hn : n + (dvs.length - j) = ps.length)
    (hb : ∀ (T : Addr) (kV doc pm : Value) (an : Option Addr) (cdv ct : Value) (us its : List Value), us.length = n → its.length = dvs.length →
      ∃ k, bindArgs (PySem.W.fnOf "__init__" qual params body scope (.ref T) kV doc pm an cdv ct) ⟨us, []⟩ = seqItems? (.ref T) >>= k ∧ k (some its.toArray) = pure (ps.zip (us ++ its.drop j)))
    (len : ∀ vs H Q E, sp vs H Q E → vs.length = ps.length)
    (hbody : ∀ (cdv : Value) (A : Around) (outer : List Env) (s : Shared) (H : Hp) (vs : List V) (Q : VK) (E : XK), Room k (A.deeper (envOfC qual scope s.heap.objs.size f cdv)) → sp vs H Q E →
      ∃ t, PSs (cxOf CX0 P w K mg base N qual scope f cdv A outer s H E).nox body t ∧ t { nx := fun _ H' => Q .non H', rt := Q } (start N vs) H) : Mkr P w K mg base CX0 (k + 1) x C sp (dvs.drop j) := by
  obtain ⟨fd, F⟩ := F
  obtain ⟨ds, hv, hbn⟩ := F.binds1 (ps := ps) n j hd hn hb
  refine ⟨f, fd, ps, ds, M, ?_, g, hbn, hv⟩
  refine F.ok S len fun cdv A outer s H vs Q E hr h => ?_
  obtain ⟨t, h1, h2⟩ := hbody cdv A outer s H vs Q E hr h
  exact ⟨t, h1.nox, h2⟩
end
/-! ### the head's facts, with one more Bool -/
abbrev AlX : Type := He.AlD × Bool
def obsX (fa : List He.Fa) (fn : List He.DefD) (ex : PySem.W.Frag → Bool) (K : PySem.W.Frag) : AlX := (He.obsD fa fn K, ex K)
def obsXG (n : Nat) (fa : List He.Fa) (fn : List He.DefD) (ex : PySem.W.Frag → Bool) (g : Addr → Option Obj) : AlX := obsX fa fn ex (He.frG g (He.asD g n))
def hookX (n : Nat) (fa : List He.Fa) (fn : List He.DefD) (ex : PySem.W.Frag → Bool) : PySem.W.Hook where
  α := AlX
  obs := fun s => obsXG n fa fn ex s.heap.get?
  val := fun _ => (He.valD fn, true)
  says := fun _ h => ∃ K : PySem.W.Frag, K.In h ∧ He.SaysD fa fn K ∧ ex K = true
  of := fun _ _ e => ⟨_, He.frG_in, congrArg (fun z : AlX => z.1) e, congrArg (fun z : AlX => z.2) e⟩
  keeps := fun _ _ _ ⟨K, hK, c⟩ k => ⟨K, PySem.W.Frag.In.keeps hK k, c⟩
theorem obsXG_eq {n : Nat} {fa : List He.Fa} {fn : List He.DefD} {ex : PySem.W.Frag → Bool} {g : Addr → Option Obj} {s : Shared} (h : ∀ a, g a = s.heap.get? a) : obsXG n fa fn ex g = (hookX n fa fn ex).obs s := by
  have e : g = s.heap.get? := funext h
  rw [e] <;> rfl
end FW
namespace FW
open PySem PySem.Spec PyProof.Rows L2
/-! ### readings, step by step: the main goal first, the side goals behind it -/
section
variable {K : PySem.W.Frag} {σ : L2.St} {H : Hp} {Q : VK} {D : Ends} {ta tb tc te : TE} {tt tu : TT} {ts tv : TS} {tA tA' : TA} {v : V} {i j : Int} {n : Nat} {a : Addr} {xs ys : List V}
theorem s_seq (k : ts { D with nx := tv D } σ H) : tSeq ts tv D σ H := k
theorem s_next (k : D.nx σ H) : tNext D σ H := k
theorem s_asg (k : te σ H fun v H1 => D.nx (σ.set n (some v)) H1) : tAsg te (gName n) D σ H := k
theorem s_asgG {g : TG} (k : te σ H fun v H1 => g v σ H1 D.nx) : tAsg te g D σ H := k
theorem s_ret (k : te σ H D.rt) : tRet te D σ H := k
theorem s_if (k : tt σ H fun b H1 => if b = true then ts D σ H1 else tv D σ H1) : tIfS tt ts tv D σ H := k
theorem s_drop (k : te σ H fun _ H1 => D.nx σ H1) : tDrop te D σ H := k
theorem s_par {m : Nat} (k : tA σ H fun vs H1 => ∃ v w, vs = [v, w] ∧ D.nx ((σ.set n (some v)).set m (some w)) H1) : tPar n m tA D σ H := k
theorem s_par2 {R : V → V → Prop} {x y : V} (k : R x y) : ∃ v w, [x, y] = [v, w] ∧ R v w := ⟨x, y, rfl, k⟩
theorem s_aug {ti : TIp} {x : V} (k : te σ H fun y H1 => ti x y H1 fun z H2 => D.nx (σ.set n (some z)) H2) (h : σ[n]? = some (some x)) : tAug n te ti D σ H := ⟨x, h, k⟩
theorem s_fld {f : Str} (k : te σ H fun y H1 => ta σ H1 fun x H2 => ∃ a C dx fs, x = .ref a ∧ H2 a = some (.ins C dx fs) ∧ Cls K C ∧ NoAttr K C f ∧ fs.length < 1000 ∧ D.nx σ (upd H2 a (.ins C dx (putF f y fs)))) : sFld K ta te f D σ H := k
theorem e_var (k : Q v H) (h : σ[n]? = some (some v)) : tVar n σ H Q := ⟨v, h, k⟩
theorem e_c (k : Q v H) : tC v σ H Q := k
theorem e_op {r : R2} (k : ta σ H fun x H1 => tb σ H1 fun y H2 => r x y H2 Q) : tOp r ta tb σ H Q := k
theorem e_un {r : V → Hp → VK → Prop} (k : ta σ H fun x H1 => r x H1 Q) : tUn r ta σ H Q := k
theorem e_U {g : Int → V} (k : Q (g i) H) : rU g (.int i) H Q := ⟨i, rfl, k⟩
theorem e_I0 {g : Int → Int → V} (k : Q (g i j) H) : rI0 g (.int i) (.int j) H Q := ⟨i, j, rfl, rfl, k⟩
theorem e_I {C : Int → Int → Prop} {g : Int → Int → V} (k : Q (g i j) H) (c : C i j) : rI C g (.int i) (.int j) H Q := ⟨i, j, rfl, rfl, c, k⟩
theorem e_ip {f : Int → Int → Int} (k : Q (.int (f i j)) H) : ipI f (.int i) (.int j) H Q := ⟨i, j, rfl, rfl, k⟩
theorem e_eq {x y : V} (k : Q (.bl (decide (x = y))) H) (h : scal x y = true) : rEq x y H Q := ⟨h, k⟩
theorem e_ne {x y : V} (k : Q (.bl (!decide (x = y))) H) (h : scal x y = true) : rNe x y H Q := ⟨h, k⟩
theorem e_test {R : Bool → Hp → Prop} (k : te σ H fun x H' => ∃ k, x = .bl k ∧ R k H') : tTest te σ H R := k
theorem e_tB {R : Bool → Hp → Prop} (k : te σ H fun x H' => ∃ k, x = .bl k ∧ R k H') : L2.tB te σ H R := k
theorem e_bl {R : Bool → Prop} {b : Bool} (k : R b) : ∃ k, V.bl b = .bl k ∧ R k := ⟨b, rfl, k⟩
theorem e_not {R : Bool → Hp → Prop} (k : tt σ H fun c H1 => R (!c) H1) : tNot tt σ H R := k
theorem e_and {R : Bool → Hp → Prop} (k : tt σ H fun c H1 => if c = true then tu σ H1 R else R false H1) : tAnd tt tu σ H R := k
theorem e_or {R : Bool → Hp → Prop} (k : tt σ H fun c H1 => if c = true then R true H1 else tu σ H1 R) : tOr tt tu σ H R := k
theorem e_andV (k : ta σ H fun x H1 => ∃ c, x = .bl c ∧ if c = true then tb σ H1 Q else Q (.bl false) H1) : tAndV ta tb σ H Q := k
theorem e_orV (k : ta σ H fun x H1 => ∃ c, x = .bl c ∧ if c = true then Q (.bl true) H1 else tb σ H1 Q) : tOrV ta tb σ H Q := k
theorem e_notV (k : ta σ H fun x H1 => ∃ c, x = .bl c ∧ Q (.bl (!c)) H1) : tNotV ta σ H Q := k
theorem e_ifx (k : tt σ H fun c H1 => if c = true then ta σ H1 Q else tb σ H1 Q) : tIf tt ta tb σ H Q := k
theorem e_nil {R : List V → Hp → Prop} (k : R [] H) : tNil σ H R := k
theorem e_cons {R : List V → Hp → Prop} (k : te σ H fun x H1 => tA σ H1 fun xs H2 => R (x :: xs) H2) : tCons te tA σ H R := k
theorem e_call {sp : Sp} {E : XK} (k : tA σ H fun vs H1 => sp vs H1 Q E) : tCall sp [] E tA σ H Q := by
  unfold tCall
  have e : (fun vs H1 => sp (vs ++ []) H1 Q E) = fun vs H1 => sp vs H1 Q E := by funext vs H1; rw [List.append_nil]
  rw [e]; exact k
theorem e_cb {r : List V → Hp → VK → Prop} (k : tA σ H fun vs H1 => r vs H1 Q) : tCB r tA σ H Q := k
theorem e_lst (k : tA σ H fun xs H1 => xs.length ≤ sizeLine ∧ ∀ p, H1 p = none → Q (.ref p) (upd H1 p (.lst xs))) : tLst tA σ H Q := k
theorem e_tup (k : tA σ H fun xs H1 => xs.length ≤ sizeLine ∧ ∀ p, H1 p = none → Q (.ref p) (upd H1 p (.tup xs))) : tTup tA σ H Q := k
theorem e_ixL (k : Q v H) (h : SqL K H a xs) (ha : atI xs i = some v) : rIxL K (.ref a) (.int i) H Q := ⟨a, xs, i, v, rfl, rfl, h, ha, k⟩
theorem e_ixT (k : Q v H) (h : SqT K H a xs) (ha : atI xs i = some v) : rIxT K (.ref a) (.int i) H Q := ⟨a, xs, i, v, rfl, rfl, h, ha, k⟩
theorem e_len (k : Q (.int xs.length) H) (h : SqL K H a xs ∨ SqT K H a xs) : Evl.rLenS K [.ref a] H Q := ⟨a, xs, rfl, h, k⟩
theorem e_int (k : Q (.int i) H) : rInt1 [.int i] H Q := .inl ⟨i, rfl, k⟩
theorem e_intB {b : Bool} (k : Q (.int (if b then 1 else 0)) H) : rInt1 [.bl b] H Q := .inr ⟨b, rfl, k⟩
theorem e_abs (k : Q (.int (if i < 0 then -i else i)) H) : rAbs [.int i] H Q := ⟨i, rfl, k⟩
theorem e_max2 (k : Q (.int (if j > i then j else i)) H) : rMax2 [.int i, .int j] H Q := ⟨i, j, rfl, k⟩
theorem e_min2 (k : Q (.int (if j < i then j else i)) H) : rMin2 [.int i, .int j] H Q := ⟨i, j, rfl, k⟩
theorem e_isN {x : V} (k : Q (.bl (decide (x = .non))) H) : rIsN x .non H Q := ⟨rfl, k⟩
theorem e_notN {x : V} (k : Q (.bl (!decide (x = .non))) H) : rNotN x .non H Q := ⟨rfl, k⟩
theorem e_in {x : V} {neg : Bool} (k : Q (.bl (if neg then !inV x xs else inV x xs)) H) (h : SqL K H a xs ∨ SqT K H a xs) (hx : flatV x = true) (ha : xs.all flatV = true) : rIn K neg x (.ref a) H Q := ⟨a, xs, rfl, h, hx, ha, k⟩
theorem e_chain {r r' : R2} (k : ta σ H fun x H1 => tb σ H1 fun y H2 => r x y H2 fun z H3 => ∃ k, z = .bl k ∧ (if k = true then tc σ H3 fun w' H4 => r' y w' H4 Q else Q (.bl false) H3)) : tChain r r' ta tb tc σ H Q := k
theorem e_fld {f : Str} {C dx : Addr} {fs : List (Str × V)} (k : ta σ H fun x H1 => ∃ a C dx fs v, x = .ref a ∧ H1 a = some (.ins C dx fs) ∧ Cls K C ∧ NoAttr K C f ∧ fs.lookup f = some v ∧ Q v H1) : tFld K ta f σ H Q := k
/-- what a for asks behind its walked thing -/
def ForK (g : TG) (tb : TS) (D : Ends) (σ : L2.St) (J : It) (H : Hp) : Prop := ∃ W : Nat → Nat → L2.St → Hp → Prop, (∃ m, W 0 m σ H) ∧ ∀ i m σ H, W i m σ H →
  (J.stop i H ∧ D.nx σ H) ∨ (J.go i H ∧ ∃ N : L2.St → Hp → Prop, (∀ σ' H', N σ' H' → ∃ m', m' < m ∧ W (i + 1) m' σ' H') ∧ ∀ x H', J.yld i H x H' → g x σ H' fun σ2 H2 => tb { D with nx := N, ct := N, bk := D.nx } σ2 H2)
theorem s_for {wi : TI} {g : TG} (k : wi σ H fun J H1 => ForK g ts D σ J H1) : tFor wi g ts D σ H := k
theorem i_rng1 {R : It → Hp → Prop} (k : tA σ H fun vs H1 => ∃ j : Int, vs = [.int j] ∧ -(2 ^ 62) ≤ j ∧ j < 2 ^ 62 ∧ R (Itr 0 j.toNat) H1) : iRng1 tA σ H R := k
theorem i_rng1' {R : Int → Prop} (k : R j) (h : -(2 ^ 62) ≤ j ∧ j < 2 ^ 62) : ∃ j' : Int, [V.int j] = [.int j'] ∧ -(2 ^ 62) ≤ j' ∧ j' < 2 ^ 62 ∧ R j' := ⟨j, rfl, h.1, h.2, k⟩
theorem i_rng2 {R : It → Hp → Prop} (k : tA σ H fun vs H1 => ∃ i j : Int, vs = [.int i, .int j] ∧ (-(2 ^ 62) ≤ i ∧ i < 2 ^ 62 ∧ -(2 ^ 62) ≤ j ∧ j < 2 ^ 62) ∧ R (Itr i (j - i).toNat) H1) : iRng2 tA σ H R := k
theorem i_rng2' {R : Int → Int → Prop} (k : R i j) (h : -(2 ^ 62) ≤ i ∧ i < 2 ^ 62 ∧ -(2 ^ 62) ≤ j ∧ j < 2 ^ 62) : ∃ i' j' : Int, [V.int i, V.int j] = [.int i', .int j'] ∧ (-(2 ^ 62) ≤ i' ∧ i' < 2 ^ 62 ∧ -(2 ^ 62) ≤ j' ∧ j' < 2 ^ 62) ∧ R i' j' := ⟨i, j, rfl, h, k⟩
theorem i_list {R : It → Hp → Prop} (k : te σ H fun x H1 => ∃ a, x = .ref a ∧ (∃ xs, SqL K H1 a xs) ∧ R (Itl K a) H1) : iList K te σ H R := k
theorem i_tup {R : It → Hp → Prop} (k : te σ H fun x H1 => ∃ a, x = .ref a ∧ (∃ xs, SqT K H1 a xs) ∧ R (Itt K a) H1) : iTup K te σ H R := k
theorem i_list' {R : Addr → Prop} (xs : List V) (k : R a) (h : SqL K H a xs) : ∃ a', V.ref a = .ref a' ∧ (∃ xs, SqL K H a' xs) ∧ R a' := ⟨a, rfl, ⟨xs, h⟩, k⟩
theorem i_tup' {R : Addr → Prop} (xs : List V) (k : R a) (h : SqT K H a xs) : ∃ a', V.ref a = .ref a' ∧ (∃ xs, SqT K H a' xs) ∧ R a' := ⟨a, rfl, ⟨xs, h⟩, k⟩
theorem s_while (W : Nat → L2.St → Hp → Prop) (m : Nat) (h0 : W m σ H) (hs : ∀ m σ H, W m σ H → tt σ H fun b H1 => if b = true then ∃ N : L2.St → Hp → Prop, (∀ σ' H', N σ' H' → ∃ m', m' < m ∧ W m' σ' H') ∧ ts { D with nx := N, ct := N, bk := D.nx } σ H1 else D.nx σ H1) : tWhile tt ts D σ H := ⟨W, ⟨m, h0⟩, hs⟩
/-- what a comprehension asks behind its walked thing -/
def LcK (g : TG) (tt : TT) (te : TE) (vs : List Nat) (σ : L2.St) (Q : VK) (J : It) (H1 : Hp) : Prop := ∀ D, H1 D = none → ∃ W : Nat → Nat → Hp → Prop, (∃ m, W 0 m (upd H1 D (.lst []))) ∧ ∀ i m H, W i m H →
  (J.stop i H ∧ Q (.ref D) H) ∨ (J.go i H ∧ ∃ Nx : Hp → Prop, (∀ H', Nx H' → ∃ m', m' < m ∧ W (i + 1) m' H') ∧ ∀ x H', J.yld i H x H' → g x (wipe σ vs) H' fun σ2 H2 => wipe σ2 vs = wipe σ vs ∧ tt σ2 H2 fun b H3 =>
    if b = true then te σ2 H3 fun y H4 => ∃ acc, H4 D = some (.lst acc) ∧ acc.length < sizeLine ∧ Nx (upd H4 D (.lst (acc ++ [y]))) else Nx H3)
theorem e_lc {wi : TI} {g : TG} {vs : List Nat} (k : wi σ H fun J H1 => LcK g tt te vs σ Q J H1) : tLc wi g tt te vs σ H Q := k
theorem g_sub {t : TSet} {R : L2.St → Hp → Prop} (k : ta σ H fun o H1 => tb σ H1 fun i H2 => t o i v H2 fun H3 => R σ H3) : gSub ta tb t v σ H R := k
theorem g_name {R : L2.St → Hp → Prop} (k : R (σ.set n (some v)) H) : gName n v σ H R := k
theorem g_nil {R : L2.St → Hp → Prop} (k : R σ H) : gNil [] σ H R := ⟨rfl, k⟩
theorem g_cons {g : TG} {gs : TGs} {R : L2.St → Hp → Prop} (k : g v σ H fun σ' H' => gs xs σ' H' R) : gCons g gs (v :: xs) σ H R := ⟨v, xs, rfl, k⟩
theorem g_tup {gs : TGs} {R : L2.St → Hp → Prop} (k : gs xs σ H R) (h : SqT K H a xs) (hl : xs.length = n) : gTup K n gs (.ref a) σ H R := ⟨a, xs, rfl, h, hl, k⟩
theorem e_setL {R : Hp → Prop} {m : Nat} (k : R (upd H a (.lst (xs.set m v)))) (h : H a = some (.lst xs)) (hi : ixN xs.length i = some m) : rSetL (.ref a) (.int i) v H R := ⟨a, xs, i, m, rfl, rfl, h, hi, k⟩
theorem e_yes {R : Bool → Hp → Prop} (k : R true H) : tYes σ H R := k
theorem e_bm {T : String} {r : V → List V → Hp → VK → Prop} (k : ta σ H fun x H1 => tyV K T x H1 ∧ tA σ H1 fun xs H2 => r x xs H2 Q) : tBM K T r ta tA σ H Q := k
theorem e_bm0 {T : String} {r : V → List V → Hp → VK → Prop} (k : ta σ H fun x H1 => tyV K T x H1 ∧ r x [] H1 Q) : tBM0 K T r ta σ H Q := k
theorem e_mk {C : Addr} {sp : Sp} {dvs : List V} {E : XK} (k : tA σ H fun vs H1 => ∀ x dx, H1 x = none → H1 dx = none → dx ≠ x → sp (.ref x :: (vs ++ dvs)) (upd (upd H1 dx (.own x)) x (.ins C dx [])) (fun v H2 => v = .non ∧ Q (.ref x) H2) E) : tMake C sp dvs E tA σ H Q := k
theorem e_mt {C : Addr} {m : Str} {sp : Sp} {dvs : List V} {E : XK} (k : ta σ H fun x H1 => ∃ a dx fs, x = .ref a ∧ H1 a = some (.ins C dx fs) ∧ fs.lookup m = none ∧ tA σ H1 fun vs H2 => sp (x :: (vs ++ dvs)) H2 Q E) : tMeth C m sp dvs E ta tA σ H Q := k
theorem e_fldk {f : Str} (k : ta σ H fun x H1 => ∃ a C dx fs v, x = .ref a ∧ H1 a = some (.ins C dx fs) ∧ Cls K C ∧ NoAttr K C f ∧ fs.lookup f = some v ∧ Q v H1) : tFld K ta f σ H Q := k
theorem e_ite {p : Prop} [Decidable p] {A B : Prop} (h1 : p → A) (h2 : ¬ p → B) : if decide p = true then A else B := by
  by_cases h : p
  · rw [if_pos (decide_eq_true h)]; exact h1 h
  · rw [if_neg (by rw [decide_eq_false h]; decide)]; exact h2 h
theorem e_iteN {p : Prop} [Decidable p] {A B : Prop} (h1 : ¬ p → A) (h2 : p → B) : if (!decide p) = true then A else B := by
  by_cases h : p
  · rw [if_neg (by rw [decide_eq_true h]; decide)]; exact h2 h
  · rw [if_pos (by rw [decide_eq_false h]; decide)]; exact h1 h
theorem e_iteB {b : Bool} {A B : Prop} (h1 : b = true → A) (h2 : b = false → B) : if b = true then A else B := by
  cases b
  · rw [if_neg (by decide)]; exact h2 rfl
  · rw [if_pos rfl]; exact h1 rfl
theorem e_T {A B : Prop} (h : A) : if true = true then A else B := by rw [if_pos rfl]; exact h
theorem e_nT {A B : Prop} (h : B) : if (!true) = true then A else B := by rw [if_neg (by decide)]; exact h
theorem e_nF {A B : Prop} (h : A) : if (!false) = true then A else B := by rw [if_pos (by decide)]; exact h
theorem e_F {A B : Prop} (h : B) : if false = true then A else B := by rw [if_neg (by decide)]; exact h
end
/-! ### extensions -/
abbrev Ext (H H' : Hp) : Prop := ∀ a o, H a = some o → H' a = some o
/-- all but the object at p is kept -/
def ExtB (p : Addr) (H H' : Hp) : Prop := ∀ a o, a ≠ p → H a = some o → H' a = some o
theorem Ext.rfl' {H : Hp} : Ext H H := fun _ _ h => h
theorem Ext.tr {H H1 H2 : Hp} (a : Ext H H1) (b : Ext H1 H2) : Ext H H2 := fun x o h => b x o (a x o h)
theorem Ext.new {H : Hp} {p : Addr} {o : HO} (h : H p = none) : Ext H (upd H p o) := fun a u e => by
  rw [upd_ne (ne_of_none e h)]; exact e
theorem Ext.non {H H' : Hp} {p : Addr} (e : Ext H H') (h : H' p = none) : H p = none := by
  cases q : H p with
  | none => rfl
  | some o => rw [e p o q] at h; cases h
theorem Ext.sqL {K : PySem.W.Frag} {H H' : Hp} {a : Addr} {xs : List V} (e : Ext H H') (h : SqL K H a xs) : SqL K H' a xs := Evl.ex_l e h
theorem Ext.sqT {K : PySem.W.Frag} {H H' : Hp} {a : Addr} {xs : List V} (e : Ext H H') (h : SqT K H a xs) : SqT K H' a xs := Evl.ex_t e h
theorem ExtB.of {p : Addr} {H H' : Hp} (e : Ext H H') : ExtB p H H' := fun a o _ h => e a o h
theorem ExtB.tr {p : Addr} {H H1 H2 : Hp} (a : ExtB p H H1) (b : ExtB p H1 H2) : ExtB p H H2 := fun x o n h => b x o n (a x o n h)
theorem ExtB.upd {p : Addr} {H : Hp} {o : HO} : ExtB p H (upd H p o) := fun a u n e => by rw [upd_ne n]; exact e
theorem Ext.upds {H H' : Hp} {p : Addr} {o : HO} (e : Ext H H') (h : H p = Option.none) : Ext H (upd H' p o) := fun a u q => by
  rw [upd_ne (ne_of_none q h)]; exact e a u q
end FW
/-! own errors: class X(FloorError): def __init__(self, f): super().__init__('..'); self.f = f -/
namespace PySem
namespace ErrX
open PySem.W PySem.Calls PyProof.Rows PySem.HandSPX
def eA1 (f : Str) (p1 p2 : Pos) : Arguments := { posonlyargs := [], args := [{ arg := "self", annotation := none, pos := p1 }, { arg := f, annotation := none, pos := p2 }], vararg := none, kwonlyargs := [], kw_defaults := [], kwarg := none, defaults := [] }
def eB1 (f txt : Str) (q1 q2 q3 q4 q5 q6 q7 q8 q9 q10 : Pos) : List Stmt := [.Expr (.Call (.Attribute (.Call (.Name "super" q1) [] [] q2) "__init__" q3) [.Constant (.str txt) 0 q4] [] q5) q6, .Assign [.Attribute (.Name "self" q7) f q8] (.Name f q9) q10]
def eS1 (f : Str) : Scope := { kind := .function, names := [("self", .local), (f, .local), ("__class__", .free), ("super", .globalImplicit)], isGenerator := false, isCoroutine := false, more := [] }
/-- what the written part says of a class at C and of its __init__ at fI -/
structure ErrC (prog : Program) (K : Frag) (C fI : Addr) (f : Str) : Prop where
  cls : ∃ nm q N bs bm sn sub ab col dd k0 k1 k2 k3 k5, K.lookup C = some (excClassObj nm q C N bs bm true sn sub ab col dd k0 k1 k2 k3 k5 "ValueError.__new__") ∧ refsVE bm = true
  sa : findIn K (.ref C) "__setattr__" = some (some (.builtin "object.__setattr__"))
  ga : findIn K (.ref C) "__getattribute__" = some (some (.builtin "BaseException.__getattribute__"))
  gg : findIn K (.ref C) "__getattr__" = some none
  noN : findIn K (.ref C) f = some none
  iC : findIn K (.ref C) "__init__" = some (some (.ref fI))
  tC : typeIn K (.ref fI) = some (.type "function")
  kC : keepIn K (.ref C) = true
  exC : subIn K (.ref C) (.type "BaseException") = some true
  veC : subIn K (.ref C) (.type "ValueError") = some true
  tyC : typeIn K (.ref C) = some (.type "type")
  hdC : hasDictIn K C = true
  mro : mroIn K C (.ref C) = some true
  sup : nsIn K mainGlobals "super" = some none
  tp : nsIn K cStatics "thirdparty.any" = some none
  si : ks_superIn K C C "__init__" = some (some (.builtin "ValueError.__init__"))
  top : (prog.main.scope.names.lookup ("super" : Str)).isSome = false
  fn : ∃ (cc cda : Addr) (qual : Str) (oc : Value) (od : Option Addr) (kV doc pm : Value) (an : Option Addr) (ct : Value) (osl : Array (Option Value)) (txt : Str) (p1 p2 q1 q2 q3 q4 q5 q6 q7 q8 q9 q10 : Pos) (cl ccl : Value) (cld cdd : Option Addr) (csl ccs : Array (Option Value)) (vs : Array Value) (tf : Tok), (q3.endLine == q5.line) = true ∧
    K.lookup fI = some ⟨oc, od, .func (ksFn "__init__" qual (eA1 f p1 p2) (eB1 f txt q1 q2 q3 q4 q5 q6 q7 q8 q9 q10) (eS1 f) .none kV doc pm an (.ref cda) ct cc), osl⟩ ∧ codeIn K (.ref cda) qual = true ∧
    K.lookup cc = some ⟨cl, cld, .cell (some (.ref C)), csl⟩ ∧ K.lookup cda = some ⟨ccl, cdd, .fields vs, ccs⟩ ∧ vs[2]? = some (.str prog.main.file tf)
/-- what __init__ leaves of a fresh exception at x -/
structure InitEnd (h h' : Heap) (x C dx t1 : Addr) (f : Str) (v : Value) : Prop where
  keep : ∀ b o, b ≠ x → h.get? b = some o → h'.get? b = some o
  obj : h'.get? x = some { cls := .ref C, dict := some dx, data := .fields #[.ref t1, .none, .none, .none, .bool false, .none] }
  dbig : h.objs.size ≤ dx
  dne : dx ≠ x
  ns : h'.Ns1 dx (fun y => if y = f then some v else none)
/-- a made one -/
structure OwnMade (h h' : Heap) (e C d : Addr) (f : Str) (v : Value) : Prop where
  keep : ∀ b o, h.get? b = some o → h'.get? b = some o
  new : h.objs.size ≤ e
  obj : ∃ oe vs, h'.get? e = some oe ∧ oe.cls = .ref C ∧ oe.dict = some d ∧ oe.data = .fields vs ∧ vs[1]? = some .none ∧ vs[2]? = some .none
  dbig : h.objs.size ≤ d
  dne : d ≠ e
  ns : h'.Ns1 d (fun y => if y = f then some v else none)
section
variable {prog : Program} {w : World} {A : Around} {E : Value → Shared → Prop} {R : Result → Shared → Prop} {s : Shared} {K : Frag} {mg mb : Str → Option Value} {C fI : Addr} {f : Str}
/-- the bound __init__ called -/
theorem call_mw {h : Heap} {g : Array GenState} {d : Drawn} {tk : Nat} {os : OsState} {u x t0 : Addr} {rest : List Value} {Q : Value → Shared → Prop} {nm q : Str} {N : Addr} {bs bm : List Value} {sn : List Str} {sub : List Value} {ab : Bool} {col : Option Bool} {dd : Option Addr} {k0 k1 k2 k3 k5 : Option Value}
    (hC : h.get? C = some (excClassObj nm q C N bs bm true sn sub ab col dd k0 k1 k2 k3 k5 "ValueError.__new__")) (hx : h.get? x = some (excO C t0)) (hu : h.get? u = some (kxs_mw "ValueError.__init__" x)) (hz : rest.length ≤ sizeLine)
    (hq : ∀ h' t1, (∀ b o, b ≠ x → h.get? b = some o → h'.get? b = some o) → h'.get? x = some (excO C t1) → Q .none ⟨h', g, d, tk, os⟩) :
    wpAny (model prog w) A (call (.ref u) rest) Q E ⟨h, g, d, tk, os⟩ := by
  refine wpAny_call (codeAny_of_tree ?_)
  show wpAny _ A.in1 (callAny (.ref u) ⟨rest, []⟩) _ _ _
  simp only [callAny]
  refine wpAny_bind (wpAny_load hu ?_)
  simp only [kxs_mw, show (Value.type "method-wrapper" == Value.type "method" || Value.type "method-wrapper" == Value.type "builtin_function_or_method" || Value.type "method-wrapper" == Value.type "method-wrapper") = true by decide, if_true]
  refine KFB.if_so (by decide) ?_
  refine wpAny_bind (check_bound_init F.excBase_ValueError.toExcCallFacts hC hx rfl ?_)
  refine wpAny_bind (wpAny_pure (wpAny_pure ?_))
  refine ⟨plainId_quiet F.excBase_ValueError.init.plain _, codeAny_builtin F.excBase_ValueError.initEntry ?_⟩
  exact exc_init_tree (cls := .ref C) (t0 := t0) (dv := none) (c2 := .none) (c3 := .none) (b4 := .bool false) hx hz fun h' k e' _ => hq h' _ k e'
theorem ns_keep {h h' : Heap} {L : Addr} {m : Str → Option Value} (hn : h.Ns L m) (k : ∀ o, h.get? L = some o → h'.get? L = some o) : h'.Ns L m := by
  obtain ⟨oL, esL, epL, eL, rL⟩ := hn
  exact ⟨oL, esL, epL, k _ eL, rL⟩
/-- a method call whose name stands in the row of the call -/
theorem eval_mc {env : Env} {o : Expr} {name txt : Str} {q3 q4 q5 : Pos} (hl : (q3.endLine == q5.line) = true) : eval (.Call (.Attribute o name q3) [.Constant (.str txt) 0 q4] [] q5) env = (do
    let ov ← attributeBase o name env (eval o env)
    standAt q3.atName
    let (f, first) ← holding [ov] (getMethod ov name (do return (← importBound o env).getD true))
    callWith q5 f first (backTo q5 (starEach [.Constant (.str txt) 0 q4] env)) []) := by
  show (do
    let ov ← attributeBase o name env (eval o env)
    standAt q3.atName
    methodCall o name q3 q5 env ov 1 (backTo q5 (starEach [.Constant (.str txt) 0 q4] env)) []) = _
  have hf : methodCallForm 1 (backTo q5 (starEach [.Constant (.str txt) 0 q4] env)) [] = true := rfl
  have hp : methodCallPos true o env q3 q5 = pure q5 := by
    unfold methodCallPos
    rw [hl]
    rfl
  unfold methodCall calleeOf
  rw [hf, hp]
  rfl
theorem err_init (T : ErrC prog K C fI f) (hf : f = "value" ∨ f = "word" ∨ f = "field") {x t0 : Addr} {v : Value} (X : K.In s.heap) (hlim : s.heap.NoLimit) (G : s.heap.Ns mainGlobals mg) (B : s.heap.Ns builtinsNs mb) (hB : ∀ x : Str, x ≠ "__name__" → mb x = bootBuiltins x)
    (hx : s.heap.get? x = some (excO C t0)) (hnx : ¬ (K.lookup x).isSome = true) (hroom : A.depth < recursionLimit)
    (hq : ∀ h' tk dx t1, InitEnd s.heap h' x C dx t1 f v → R (.ok (.ret .none)) { s with heap := h', toks := tk }) :
    codeAny (model prog w) A (.call (.ref fI) ⟨[.ref x, v], []⟩) R s := by
  obtain ⟨cc, cda, qual, oc, od, kV, doc, pm, an, ct, osl, txt, p1, p2, q1, q2, q3, q4, q5, q6, q7, q8, q9, q10, cl, ccl, cld, cdd, csl, ccs, vs, tf, hln, ho, hcd, hcc, hcda, hvs⟩ := T.fn
  obtain ⟨nm, q, N, bs, bm, sn, sub, ab, col, dd, k0, k1, k2, k3, k5, hC, hbm⟩ := T.cls
  have hcl : clsIn K C = some { name := nm, bases := bs, mro := .ref C :: bm, ns := N, qualname := q, hasDict := true, slotNames := sn, subclasses := sub, abstract := ab, collection := col, hasDel := false } := by unfold clsIn; rw [hC] <;> rfl
  obtain ⟨hp, g, d, tk, os⟩ := s
  have hsi : alongIn K "__init__" ((((Value.ref C :: bm)).dropWhile (· != .ref C)).drop 1) = some (some (.builtin "ValueError.__init__")) := by
    have z := T.si
    unfold ks_superIn at z
    rw [hcl] at z
    exact z
  rcases hf with rfl | rfl | rfl
  all_goals
    refine ks_codeAny_call_defAt (fd := ksFn "__init__" qual (eA1 _ p1 p2) (eB1 _ txt q1 q2 q3 q4 q5 q6 q7 q8 q9 q10) (eS1 _) .none kV doc pm an (.ref cda) ct cc) (body := eB1 _ txt q1 q2 q3 q4 q5 q6 q7 q8 q9 q10) (binds := [("self", .ref x), (_, v)])
      hroom (X _ _ ho) rfl hlim (codeRec_of X hcd) rfl (BindsTo.of_eq (by first | rfl | with_unfolding_all rfl)) (fun y hy => (show ∀ y ∈ (eS1 _).names, y.2 ≠ .cell by decide) y hy)
      (fun y hy => by
        rcases List.mem_cons.mp hy with rfl | hy
        · rfl
        · rcases List.mem_cons.mp hy with rfl | hy
          · rfl
          · cases hy) (fun h₁ hns hk₁ => ?_) rfl rfl rfl
    have X₁ : K.In h₁ := X.keeps hk₁
    have hx₁ := hk₁ _ _ hx
    have zL : hp.objs.size < h₁.objs.size := hns.lt
    have hxL : hp.objs.size ≠ x := Nat.ne_of_gt (Heap.lt_size hx)
    -- super().__init__('..')
    show wpAt _ _ _ (execs (_ :: _) _) _ _ _
    refine ks_wpAt_execs_cons (ks_wpAt_Expr_any (ks_wpAt_MethodCall ?_ (eval_mc hln)))
    refine ks_wpAt_super_base (f := fI) (cc := cda) (ar := { arg := "self", annotation := none, pos := p1 }) rfl rfl (by decide) rfl (X₁ _ _ ho) rfl rfl rfl (X₁ _ _ hcda) rfl hvs (beq_self_eq_true _) T.top ?_
    refine ks_loadName_global rfl rfl (loadGlobal_builtin (G.keeps hk₁) (mg_none_of X G T.sup) (B.keeps hk₁) ((hB _ (by decide)).trans (by first | boot_by_name | rfl | kernel_rfl)) ⟨rfl, ?_⟩)
    refine wpAny_loadName_free rfl rfl rfl ⟨_, X₁ _ _ hcc, rfl⟩ ?_
    refine wpAny_loadName_local rfl rfl hns (by rfl) ?_
    refine ks_wpAny_isType_cls (X₁ _ _ hC) rfl ⟨rfl, ?_⟩
    refine ks_wpAny_call_super (X₁ _ _ hC) rfl hx₁ rfl (fun c e => by cases e) (looks_mroIn X₁ T.mro) (fun h₂ hso k₂ => ?_)
    have X₂ : K.In h₂ := X₁.keeps k₂
    have hx₂ := k₂ _ _ hx₁
    have I₂ : InstAt h₂ x (excO C t0) C none := ⟨hx₂, rfl, rfl, trivial⟩
    refine kxs_getMethod kxs_ValueError hso (looks_opaque X₂ T.tp) (l₀ := .ref C :: bm) (fun A Q E s k q => wpAny_bind ((looks_clsIn X₂ hcl) A _ E s k (wpAny_pure q))) rfl X₂ hsi (I₂.type.andThen (looks_subIn X₂ T.veC)) (ks_ne X₂ I₂ hcl) (by decide) ?_
    have k₃ : ∀ b o, h₂.get? b = some o → (h₂.push (kxs_mw "ValueError.__init__" x)).get? b = some o := fun b o e => Heap.get?_push_of_some _ e
    have hmw : (h₂.push (kxs_mw "ValueError.__init__" x)).get? h₂.objs.size = some (kxs_mw "ValueError.__init__" x) := Heap.get?_push_at rfl rfl
    refine kxs_callWith (i := "ValueError.__init__") (x := x) rfl (evalArgs_plain (Calls.spliced_cons ?_))
    show wpAny _ _ (eval (.Constant (.str txt) 0 q4) _) _ _ _
    refine Calls.Constant_str (Calls.spliced_nil ⟨hmw, ?_⟩)
    refine call_mw ((X₂.keeps k₃) _ _ hC) (k₃ _ _ hx₂) hmw (by show 1 ≤ sizeLine; decide) (fun h₄ t1 k₄ hx₄ => ?_)
    -- self.f = f
    have k14 : ∀ b o, b ≠ x → h₁.get? b = some o → h₄.get? b = some o := fun b o hb e => k₄ b o hb (k₃ _ _ (k₂ _ _ e))
    have hn4 := ns_keep hns (k14 _ · hxL)
    have X₄ : K.In h₄ := fun a o e => by
      by_cases ha : a = x
      · subst ha
        have z := X _ _ e
        rw [hx] at z
        exact absurd z (fun z => hnx (by rw [e]; rfl))
      · exact k14 _ _ ha (X₁ _ _ e)
    refine wpAt_of_wpAny ?_
    show wpAny _ _ (execs (_ :: _) _) _ _ _
    refine wpAny_execs_cons (plainObj_wpAny_Assign_Attribute ?_)
    refine wpAny_Name (wpAny_loadName_local rfl rfl hn4 (by rfl) ?_)
    refine wpAny_Name (wpAny_loadName_local rfl rfl hn4 (by rfl) ?_)
    refine set_plain X₄ (ox := excO C t1) (od := none) ⟨hx₄, rfl, rfl, trivial⟩ T.sa ?_
    refine exc_osa X₄ hx₄ hcl (show refsVE (.ref C :: bm) = true from hbm) rfl T.noN (fun h₅ tk₅ dx k₅ dn dne hx₅ hn₅ => ?_)
    show wpAny _ _ (execs _ _) _ _ _
    refine wpAny_execs_nil (hq h₅ tk₅ dx t1 ⟨fun b o hb e => k₅ b o hb (k14 b o hb (hk₁ b o e)), hx₅, ?_, dne, hn₅⟩)
    have z4 : hp.objs.size < h₄.objs.size := hn4.lt
    exact Nat.le_of_lt (Nat.lt_of_lt_of_le z4 dn)
theorem err_made (T : ErrC prog K C fI f) (hf : f = "value" ∨ f = "word" ∨ f = "field") {v : Value} (X : K.In s.heap) (hlim : s.heap.NoLimit) (G : s.heap.Ns mainGlobals mg) (B : s.heap.Ns builtinsNs mb) (hB : ∀ x : Str, x ≠ "__name__" → mb x = bootBuiltins x) (hroom : A.depth + 1 < recursionLimit)
    (hq : ∀ h' tk e d, OwnMade s.heap h' e C d f v → R (.ok (.ret (.ref e))) { s with heap := h', toks := tk }) :
    codeAny (model prog w) A (.call (.ref C) ⟨[v], []⟩) R s := by
  obtain ⟨nm, q, N, bs, bm, sn, sub, ab, col, dd, k0, k1, k2, k3, k5, hC, hbm⟩ := T.cls
  obtain ⟨hp, g, dr, tk, os⟩ := s
  have k : ∀ b o, hp.get? b = some o → ((hp.push (kdv_tup [v])).push (excO C hp.objs.size)).get? b = some o := fun b o e => Heap.get?_push_of_some _ (Heap.get?_push_of_some _ e)
  have hget : ((hp.push (kdv_tup [v])).push (excO C hp.objs.size)).get? (hp.objs.size + 1) = some (excO C hp.objs.size) := by heap_get
  have hnx : ¬ (K.lookup (hp.objs.size + 1)).isSome = true := by
    cases e : K.lookup (hp.objs.size + 1) with
    | none => intro z; cases z
    | some o =>
      have z : hp.get? (hp.objs.size + 1) = some o := X _ _ e
      exact absurd (Nat.lt_of_succ_lt (Heap.lt_size z)) (Nat.lt_irrefl _)
  refine call_own F.excBase_ValueError (fun X => refsVE_contains X bm hbm) (X _ _ hC) (looks_findIn X T.iC) (fun self => bind_fn X self T.tC) (by show 1 ≤ sizeLine; decide) ?_
  refine err_init (s := ⟨(hp.push (kdv_tup [v])).push (excO C hp.objs.size), g, dr, tk, os⟩) T hf (X.keeps k) (hlim.keeps k) (G.keeps k) (B.keeps k) hB hget hnx ?_ fun h' tk' dx t1 ⟨k', hx, dn, dne, hns⟩ => ?_
  · show A.depth + 1 < recursionLimit
    exact hroom
  · have old : ∀ b o, hp.get? b = some o → h'.get? b = some o := fun b o e => k' b o (Nat.ne_of_lt (Nat.lt_succ_of_lt (Heap.lt_size e))) (k b o e)
    have z : hp.objs.size + 1 + 1 ≤ dx := by
      have q := dn
      rw [Heap.size_push, Heap.size_push] at q
      exact q
    exact ⟨rfl, hq h' tk' (hp.objs.size + 1) dx ⟨old, Nat.le_succ _, ⟨_, _, hx, rfl, rfl, rfl, rfl, rfl⟩, Nat.le_trans (Nat.le_trans (Nat.le_succ _) (Nat.le_succ _)) z, dne, hns⟩⟩
end
end ErrX
end PySem
namespace FW
open PySem PySem.Spec PyProof.Rows L2
theorem relO_err {f : Str} {v : V} {v' : Value} (r : RelV v v') (g : Str) : RelO (List.lookup g [(f, v)]) (if g = f then some v' else none) := by
  by_cases hw : g = f
  · subst hw
    rw [if_pos rfl]
    have q : List.lookup g [(g, v)] = some v := by simp [List.lookup]
    rw [q]
    exact r
  · rw [if_neg hw]
    have qw : (g == f) = false := by simpa using hw
    have q2 : List.lookup g [(f, v)] = none := by simp [List.lookup, qw]
    rw [q2]
    trivial
/-- the fields' names -/
def ErrF (f : Str) : Prop := f = "value" ∨ f = "word" ∨ f = "field"
/-- C(e), C an own error with the field f -/
def tMkE (C : Addr) (f : Str) (ta : TA) : L2.St → Hp → XK → Prop := fun σ H Q => ta σ H fun vs H1 => ∃ v, vs = [v] ∧ ∀ d, H1 d = none → Q (.ref C) (some d) (upd H1 d (.xd [(f, v)]))
section
variable {X : Cx} {C fI : Addr} {f x : Str}
theorem pmk_err {a : Expr} {ta : TA} {p pos : Pos} {k : Nat} (T : PySem.ErrX.ErrC X.prog X.K C fI f) (hf : ErrF f) (gC : X.mg x = some (.ref C)) (hr : Room k X.A) (ha : PA X [a] ta) (hg : Gl X x) (hdb : (x == ("__debug__" : Str)) = false := by decide)
    (he : starEach (a :: []) X.env = (false, eval a X.env) :: starEach [] X.env := by rfl) (hpl : (backTo pos (starEach [] X.env)).any (·.1) = false := by rfl) :
    PMk X (.Call (.Name x p) [a] [] pos) (tMkE C f ta) := by
  intro pins s σ H Q I h
  refine wpAny_Call_Name_kw (ld_glob I hg gC ?_ hdb)
  refine PySem.W.callWith_K (h₀ := X.base) I.ok.mod.kin T.kC (thn (ha.run pos pins s σ H _ I h) fun us s1 hh => ?_) he hpl
  obtain ⟨vs, H1, I1, r1, v, ev, q1⟩ := hh
  subst ev
  refine ⟨I1.kIn, ?_⟩
  cases r1 with
  | cons rv rn =>
    rename_i v' us'
    cases rn
    show wpAny _ _ (call (.ref C) [v']) _ _ _
    have hlim := I1.nolimit
    have hG := I1.mod.glob.keeps I1.bk
    obtain ⟨mb, hb1, hb2⟩ := I1.mod.blt
    have hB := hb1.keeps I1.bk
    obtain ⟨hp, g, dr, tk, os⟩ := s1
    refine wpAny_call (PySem.ErrX.err_made T hf I1.kIn hlim hG hB hb2 (by have := hr.dp; omega) fun h' tk' e d M => ?_)
    show MkP X pins σ Q (.ref e) ⟨h', g, dr, tk', os⟩
    obtain ⟨oe, fv, hoe, hc, hd, hdat, h1, _⟩ := M.obj
    have hns := M.ns
    obtain ⟨G', g1, g2⟩ := restrict h' fun b => decide (b ≠ e)
    have gk : ∀ b, b ≠ e → G'.get? b = h'.get? b := fun b hb => g1 b (decide_eq_true hb)
    have ge : G'.get? e = none := g2 e (by simp)
    have old : ∀ b o, hp.get? b = some o → G'.get? b = some o := fun b o q => (gk b (Nat.ne_of_lt (Nat.lt_of_lt_of_le (Heap.lt_size q) M.new))).trans (M.keep b o q)
    have ob : ObjOk X.prog X.w (upd H1 d (.xd [(f, v)])) G' d (.xd [(f, v)]) :=
      ⟨_, hns.at (fun o q => (gk d M.dne).trans q), fun f => relO_err rv f⟩
    have J : Inv X pins σ (upd H1 d (.xd [(f, v)])) ⟨G', g, dr, tk', os⟩ := I1.laid (t' := tk') old M.dbig ob
    refine ⟨e, oe, fv, ⟨G', g, dr, tk', os⟩, _, .ref C, some d, rfl, J, fun b o q => ?_, ge, hoe, ⟨hc, hd⟩, hdat, h1, ?_, rfl, I1.bare, raises_own T.exC T.tyC, q1 d (I1.hok.fresh M.dbig)⟩
    · by_cases hb : b = e
      · have q' : G'.get? b = some o := q
        rw [hb, ge] at q'; cases q'
      · exact (gk b hb).symm.trans q
    · rw [upd_ne (Ne.symm M.dne)]
      exact I1.hok.fresh M.new
/-- raise C(e) -/
def tRaiseE (C : Addr) (f : Str) (W : WX) (ta : TA) : TS := fun _ σ H => tMkE C f ta σ H fun cls d H' => W cls d σ H'
theorem ps_raiseE {a : Expr} {ta : TA} {W : WX} {p pos pos2 : Pos} {k : Nat} (hc : X.calm = true) (T : PySem.ErrX.ErrC X.prog X.K C fI f) (hf : ErrF f) (gC : X.mg x = some (.ref C)) (hr : Room k X.A) (tk : Takes X W) (ha : PA X [a] ta) (hg : Gl X x) (hdb : (x == ("__debug__" : Str)) = false := by decide)
    (he : starEach (a :: []) X.env = (false, eval a X.env) :: starEach [] X.env := by rfl) (hpl : (backTo pos (starEach [] X.env)).any (·.1) = false := by rfl) :
    PS X (.Raise (some (.Call (.Name x p) [a] [] pos)) none pos2) (tRaiseE C f W ta) := ps_raise hc tk (pmk_err T hf gC hr ha hg hdb he hpl)
/-- e.f, e the exception that the suite holds (at a; its class cls, its dict d) -/
def tByE (C : Addr) (f : Str) (a : Addr) (cls : Value) (d : Option Addr) (te : TE) : TE := fun σ H Q => te σ H fun x H1 => x = .ref a ∧ cls = .ref C ∧ ∃ (dd : Addr) (v : V), d = some dd ∧ H1 dd = some (.xd [(f, v)]) ∧ Q v H1
theorem pe_byE {prog : Program} {a : Addr} {oe : Obj} {cls : Value} {d : Option Addr} {pn : List (Addr × Obj)} {e : Expr} {te : TE} {pos : Pos} (T : PySem.ErrX.ErrC prog X.K C fI f) (hz : Zc cls d oe) (hfl : ∃ vs, oe.data = .fields vs) (he : PE (X.suite a ((a, oe) :: pn)) e te)
    (hb : attributeBase e f X.env (eval e X.env) = eval e X.env := by rfl) :
    PE (X.suite a ((a, oe) :: pn)) (.Attribute e f pos) (tByE C f a cls d te) := by
  refine ⟨fun pins s σ H Q I h => ?_⟩
  refine attr_of hb (thn (he.run pins s σ H _ I h) fun u s1 hh => ?_)
  obtain ⟨x, H1, I1, rx, ex, ec, dd, v, ed, ea, q⟩ := hh
  subst ex
  obtain rfl : u = Value.ref a := rx
  subst ec
  subst ed
  obtain ⟨ha, _⟩ := I1.pin (a, oe) (List.mem_append_left _ List.mem_cons_self)
  obtain ⟨vs, hd⟩ := hfl
  have hx : ObjOk X.prog X.w H1 s1.heap dd (.xd [(f, v)]) := I1.hok dd _ ea
  obtain ⟨mA, hns, hr⟩ := hx
  obtain ⟨od, ho, hl⟩ := lookIn_ns hns
  have l : List.lookup f [(f, v)] = some v := by simp [List.lookup]
  obtain ⟨u, hu, ru⟩ := RelO.some_of (v := v) (o := mA f) (by rw [← l]; exact hr f)
  have J : PySem.W.InstAt s1.heap a oe C (some od) := ⟨ha, hz.1, by unfold PySem.W.notCls; rw [hd] <;> rfl, by rw [hz.2]; exact ho⟩
  exact HandSPX.exc_get I1.kIn J T.ga T.gg T.exC (PySem.W.findObj_own T.hdC T.noN rfl (by rw [hl, hu])) (handed_of ru) ⟨v, H1, I1.tok _, ru, q⟩
end
end FW
namespace FW
open PySem PySem.Spec PyProof.Rows L2 PySem.W PySem.HandSPX PySem.ErrX
/-! ### what the head looks at of an own error -/
abbrev FnE : Type := Option (Str × Str × Arguments × FuncBody × Scope × Addr × Value × Addr)
def fnE (K : Frag) (x : Str) : FnE := match K.lookup (He.ma K (He.ga K x) "__init__") with
  | some ⟨_, _, .func fd, _⟩ => some (fd.name, fd.qualname, fd.params, fd.body, fd.scope, fd.globals, fd.defaults, fd.builtins)
  | _ => none
def clsE (K : Frag) (C : Addr) : Bool := match K.lookup C with
  | some ⟨.type "type", _, .cls cd, sl⟩ => (match cd.mro, sl.toList with
    | .ref C' :: bm, [_, _, _, _, some (.builtin n), _] => C' == C && n == "ValueError.__new__" && !cd.hasDel && cd.hasDict && refsVE bm
    | _, _ => false)
  | _ => false
theorem clsE_ok {K : Frag} {C : Addr} (q : clsE K C = true) : ∃ nm q N bs bm sn sub ab col dd k0 k1 k2 k3 k5, K.lookup C = some (excClassObj nm q C N bs bm true sn sub ab col dd k0 k1 k2 k3 k5 "ValueError.__new__") ∧ refsVE bm = true := by
  unfold clsE at q
  split at q
  · rename_i dd cd sl ho
    split at q
    · rename_i C' bm k0 k1 k2 k3 n k5 hm hs
      simp only [Bool.and_eq_true, beq_iff_eq, Bool.not_eq_true'] at q
      obtain ⟨⟨⟨⟨rfl, rfl⟩, hdel⟩, hdd⟩, ht⟩ := q
      obtain ⟨nm, bs, mro, ns, qn, hd, sn, sub, ab, col, del⟩ := cd
      dsimp only at hm hdel hdd
      subst hm hdel hdd
      have hsl : sl = #[k0, k1, k2, k3, some (.builtin "ValueError.__new__"), k5] := by
        obtain ⟨l⟩ := sl
        simp only at hs
        rw [hs]
      subst hsl
      exact ⟨nm, qn, ns, bs, bm, sn, sub, ab, col, dd, k0, k1, k2, k3, k5, ho, ht⟩
    · cases q
  · cases q
def codeE (K : Frag) (file : Str) (x : Str) : Bool := match K.lookup (He.ma K (He.ga K x) "__init__") with
  | some ⟨_, _, .func fd, _⟩ => (match fd.code, fd.closure with
    | .ref cda, [(n, cc)] => codeIn K (.ref cda) fd.qualname && (decide (n = "__class__") && ((match K.lookup cda with
        | some ⟨_, _, .fields vs, _⟩ => (match (vs[2]? : Option Value) with
          | some (Value.str z _) => decide (z = file)
          | _ => false)
        | _ => false) && (match K.lookup cc with
        | some ⟨_, _, .cell (some (.ref D)), _⟩ => decide (D = He.ga K x)
        | _ => false)))
    | _, _ => false)
  | _ => false
def errB (K : Frag) (file x f : Str) : Bool := ([clsE K (He.ga K x), He.eqO (findIn K (.ref (He.ga K x)) "__setattr__") (some (some (.builtin "object.__setattr__"))), He.eqO (findIn K (.ref (He.ga K x)) "__getattribute__") (some (some (.builtin "BaseException.__getattribute__"))),
  He.eqO (findIn K (.ref (He.ga K x)) "__getattr__") (some none), He.eqO (findIn K (.ref (He.ga K x)) f) (some none), He.eqO (findIn K (.ref (He.ga K x)) "__init__") (some (some (.ref (He.ma K (He.ga K x) "__init__")))), decide (typeIn K (.ref (He.ma K (He.ga K x) "__init__")) = some (.type "function")),
  keepIn K (.ref (He.ga K x)), decide (subIn K (.ref (He.ga K x)) (.type "BaseException") = some true), decide (subIn K (.ref (He.ga K x)) (.type "ValueError") = some true), decide (typeIn K (.ref (He.ga K x)) = some (.type "type")), hasDictIn K (He.ga K x), decide (mroIn K (He.ga K x) (.ref (He.ga K x)) = some true),
  He.eqO (nsIn K mainGlobals "super") (some none), He.eqO (nsIn K cStatics "thirdparty.any") (some none), He.eqO (ks_superIn K (He.ga K x) (He.ga K x) "__init__") (some (some (.builtin "ValueError.__init__"))), codeE K file x] : List Bool).all id
theorem errB_at {K : Frag} {file x f : Str} (h : errB K file x f = true) {b : Bool} (i : Nat) (hb : ([clsE K (He.ga K x), He.eqO (findIn K (.ref (He.ga K x)) "__setattr__") (some (some (.builtin "object.__setattr__"))), He.eqO (findIn K (.ref (He.ga K x)) "__getattribute__") (some (some (.builtin "BaseException.__getattribute__"))),
  He.eqO (findIn K (.ref (He.ga K x)) "__getattr__") (some none), He.eqO (findIn K (.ref (He.ga K x)) f) (some none), He.eqO (findIn K (.ref (He.ga K x)) "__init__") (some (some (.ref (He.ma K (He.ga K x) "__init__")))), decide (typeIn K (.ref (He.ma K (He.ga K x) "__init__")) = some (.type "function")),
  keepIn K (.ref (He.ga K x)), decide (subIn K (.ref (He.ga K x)) (.type "BaseException") = some true), decide (subIn K (.ref (He.ga K x)) (.type "ValueError") = some true), decide (typeIn K (.ref (He.ga K x)) = some (.type "type")), hasDictIn K (He.ga K x), decide (mroIn K (He.ga K x) (.ref (He.ga K x)) = some true),
  He.eqO (nsIn K mainGlobals "super") (some none), He.eqO (nsIn K cStatics "thirdparty.any") (some none), He.eqO (ks_superIn K (He.ga K x) (He.ga K x) "__init__") (some (some (.builtin "ValueError.__init__"))), codeE K file x] : List Bool)[i]? = some b) : b = true :=
  List.all_eq_true.mp h b (List.mem_of_getElem? hb)
theorem errC_of {prog : Program} {K : Frag} {x f qual : Str} {params : Arguments} {body : List Stmt} {scope : Scope} (e : fnE K x = (some (("__init__" : Str), qual, params, FuncBody.stmts body, scope, mainGlobals, Value.none, builtinsNs) : FnE)) (h : errB K prog.main.file x f = true)
    (h1 : ∃ p1 p2, params = eA1 f p1 p2) (h2 : ∃ txt q1 q2 q3 q4 q5 q6 q7 q8 q9 q10, body = eB1 f txt q1 q2 q3 q4 q5 q6 q7 q8 q9 q10 ∧ (q3.endLine == q5.line) = true) (h3 : scope = eS1 f) (top : (prog.main.scope.names.lookup ("super" : Str)).isSome = false) :
    ErrC prog K (He.ga K x) (He.ma K (He.ga K x) "__init__") f := by
  have hc : codeE K prog.main.file x = true := errB_at h 16 rfl
  refine ⟨clsE_ok (errB_at h 0 rfl), He.eqO_ok (errB_at h 1 rfl), He.eqO_ok (errB_at h 2 rfl), He.eqO_ok (errB_at h 3 rfl), He.eqO_ok (errB_at h 4 rfl), He.eqO_ok (errB_at h 5 rfl), of_decide_eq_true (errB_at h 6 rfl), errB_at h 7 rfl, of_decide_eq_true (errB_at h 8 rfl), of_decide_eq_true (errB_at h 9 rfl),
    of_decide_eq_true (errB_at h 10 rfl), errB_at h 11 rfl, of_decide_eq_true (errB_at h 12 rfl), He.eqO_ok (errB_at h 13 rfl), He.eqO_ok (errB_at h 14 rfl), He.eqO_ok (errB_at h 15 rfl), top, ?_⟩
  obtain ⟨p1, p2, rfl⟩ := h1
  obtain ⟨txt, q1, q2, q3, q4, q5, q6, q7, q8, q9, q10, rfl, hl⟩ := h2
  subst h3
  unfold codeE at hc
  unfold fnE at e
  cases q : K.lookup (He.ma K (He.ga K x) "__init__") with
  | none => rw [q] at hc; cases hc
  | some o =>
    obtain ⟨oc, od, dt, osl⟩ := o
    rw [q] at hc e
    cases dt with
    | func fd =>
      obtain ⟨n1, n2, n3, n4, n5, n6, n7, n8, n9, n10, n11, n12, n13, n14, n15⟩ := fd
      have e2 : (some (n1, n2, n3, n4, n5, n6, n8, n15) : FnE) = (some (("__init__" : Str), qual, eA1 f p1 p2, FuncBody.stmts (eB1 f txt q1 q2 q3 q4 q5 q6 q7 q8 q9 q10), eS1 f, mainGlobals, Value.none, builtinsNs) : FnE) := e
      simp only [Option.some.injEq, Prod.mk.injEq] at e2
      obtain ⟨g1, g2, g3, g4, g5, g6, g7, g8⟩ := e2
      subst g1 g2 g3 g4 g5 g6 g7 g8
      dsimp only at hc
      split at hc
      · rename_i c0 l0 cda n cc
        simp only [Bool.and_eq_true, decide_eq_true_eq] at hc
        obtain ⟨hc1, rfl, hc2, hc3⟩ := hc
        split at hc2
        · rename_i ccl cdd vs ccs hcda
          split at hc2
          · rename_i z tf hvs
            have hz := of_decide_eq_true hc2
            subst hz
            split at hc3
            · rename_i cl cld D csl hcc
              have hD := of_decide_eq_true hc3
              subst hD
              exact ⟨cc, cda, _, oc, od, n9, n10, n11, n12, n14, osl, txt, p1, p2, q1, q2, q3, q4, q5, q6, q7, q8, q9, q10, cl, ccl, cld, cdd, csl, ccs, vs, tf, hl, rfl, hc1, hcc, hcda, hvs⟩
            · cases hc3
          · cases hc2
        · cases hc2
      · cases hc
    | _ => cases hc
/-- an own error's __init__, as the text has it -/
structure ErrD where
  x : Str
  qual : Str
  params : Arguments
  body : List Stmt
  scope : Scope
def ErrD.val (d : ErrD) : FnE := some (("__init__" : Str), d.qual, d.params, FuncBody.stmts d.body, d.scope, mainGlobals, Value.none, builtinsNs)
abbrev AlY : Type := He.AlD × Bool × List FnE
def obsY (fa : List He.Fa) (fn : List He.DefD) (ex : Frag → Bool) (er : List ErrD) (K : Frag) : AlY := (He.obsD fa fn K, ex K, er.map fun d => fnE K d.x)
def obsYG (n : Nat) (fa : List He.Fa) (fn : List He.DefD) (ex : Frag → Bool) (er : List ErrD) (g : Addr → Option Obj) : AlY := obsY fa fn ex er (He.frG g (He.asD g n ++ [cStatics]))
def hookY (n : Nat) (fa : List He.Fa) (fn : List He.DefD) (ex : Frag → Bool) (er : List ErrD) : PySem.W.Hook where
  α := AlY
  obs := fun s => obsYG n fa fn ex er s.heap.get?
  val := fun _ => (He.valD fn, true, er.map ErrD.val)
  says := fun _ h => ∃ K : Frag, K.In h ∧ He.SaysD fa fn K ∧ ex K = true ∧ er.map (fun d => fnE K d.x) = er.map ErrD.val
  of := fun _ _ e => ⟨_, He.frG_in, congrArg (fun z : AlY => z.1) e, congrArg (fun z : AlY => z.2.1) e, congrArg (fun z : AlY => z.2.2) e⟩
  keeps := fun _ _ _ ⟨K, hK, c⟩ k => ⟨K, PySem.W.Frag.In.keeps hK k, c⟩
theorem obsYG_eq {n : Nat} {fa : List He.Fa} {fn : List He.DefD} {ex : Frag → Bool} {er : List ErrD} {g : Addr → Option Obj} {s : Shared} (h : ∀ a, g a = s.heap.get? a) : obsYG n fa fn ex er g = (hookY n fa fn ex er).obs s := by
  have e : g = s.heap.get? := funext h
  rw [e] <;> rfl
theorem errs_at {K : Frag} {er : List ErrD} (h : er.map (fun d => fnE K d.x) = er.map ErrD.val) (i : Nat) {d : ErrD} (hd : er[i]? = some d) : fnE K d.x = d.val := by
  have e2 : (er.map fun d => fnE K d.x)[i]? = (er.map ErrD.val)[i]? := by rw [h]
  rw [List.getElem?_map, List.getElem?_map, hd] at e2
  exact Option.some.inj e2
end FW
namespace FW
open PySem PySem.Spec PyProof.Rows L2
/-! ### several clauses «except X as n» -/
/-- an exception that a try of X has caught; s: the state in which the clauses are asked -/
structure Cau (X : Cx) (pins : List (Addr × Obj)) (a : Addr) (B : Heap) (sI : Shared) (σ : L2.St) (H : Hp) (cls : Value) (d : Option Addr) (s : Shared) : Prop where
  hs : X.stack = X.env :: X.outer
  hf : X.env.frame = some X.env.locals
  inv : Inv X pins σ H sI
  nb : ∀ b o, sI.heap.get? b = some o → b ∉ frs X.stack → B.get? b = some o
  up : sI.heap.UpToSlots s.heap
  fly : HandSPX.FlyingZ B (X.env :: X.outer) a (Zc cls d) s.heap
  na : H a = none
  os : s.os = sI.os
  ag : AllBare s.gens
section
variable {X : Cx} {pins : List (Addr × Obj)} {a : Addr} {B : Heap} {sI s : Shared} {σ : L2.St} {H : Hp} {cls : Value} {d : Option Addr}
theorem Cau.now (c : Cau X pins a B sI σ H cls d s) : Inv X pins σ H s := c.inv.landed c.nb c.fly.1 c.up c.os c.ag
theorem Cau.on (c : Cau X pins a B sI σ H cls d s) {g : Heap} (f : HandSPX.FlyingZ B (X.env :: X.outer) a (Zc cls d) g) (u : s.heap.UpToSlots g) : Cau X pins a B sI σ H cls d { s with heap := g } :=
  ⟨c.hs, c.hf, c.inv, c.nb, c.up.trans u, f, c.na, c.os, c.ag⟩
theorem Cau.apart (c : Cau X pins a B sI σ H cls d s) : a ≠ X.env.locals ∧ a ∉ X.fs := by
  have no : a ∉ frs (X.env :: X.outer) := fun m => by
    obtain ⟨ox, vx, hx, _, dx⟩ := c.fly.there
    obtain ⟨_, ox', hx', nx⟩ := c.fly.2.2.1.mem m
    rw [hx] at hx'
    cases hx'
    exact nx _ dx
  have m0 : X.env.locals ∈ frs (X.env :: X.outer) := List.mem_filterMap.mpr ⟨X.env, List.mem_cons_self, c.hf⟩
  refine ⟨fun z => no (by rw [z]; exact m0), fun m => no ?_⟩
  obtain ⟨en, me, q⟩ := List.mem_filterMap.mp m
  exact List.mem_filterMap.mpr ⟨en, List.mem_cons_of_mem _ me, q⟩
theorem Cau.hold (c : Cau X pins a B sI σ H cls d s) : ∃ oe, Zc cls d oe ∧ (∃ vs, oe.data = .fields vs) ∧ s.heap.get? a = some oe ∧ Inv (X.suite a ((a, oe) :: (X.pn ++ pins))) [] σ H s := by
  obtain ⟨oe, vs, he, hz, hd⟩ := c.fly.there
  exact ⟨oe, hz, ⟨vs, hd⟩, he, c.now.suite he hd c.na c.apart.1 c.apart.2⟩
/-- a clause: its class, the slot of its name, its suite's reading -/
structure Cl where
  c : Value
  i : Nat
  ts : Addr → Value → Option Addr → TS
/-- what is wanted where clause after clause is asked -/
def wCls (K : PySem.W.Frag) (Wout : WX) (D : Ends) : List Cl → WX
  | [] => Wout
  | k :: r => fun cls d σ H => ∃ b, PySem.W.exmOne K cls k.c = some b ∧
      (b = true → ∀ a, H a = none → k.ts a cls d { nx := fun τ G => D.nx (τ.set k.i none) G, rt := D.rt, bk := fun τ G => D.bk (τ.set k.i none) G, ct := fun τ G => D.ct (τ.set k.i none) G } (σ.set k.i (some (.ref a))) H) ∧
      (b = false → wCls K Wout D r cls d σ H)
inductive Hds (X : Cx) : List ExceptHandler → List Cl → Prop
  | nil : Hds X [] []
  | cons {x n : Str} {k : Cl} {b₀ : Stmt} {suite : List Stmt} {np pos' : Pos} {hds : List ExceptHandler} {l : List Cl} (hN : X.N.Nodup) (hi : X.N[k.i]? = some n) (hln : X.env.kindOf n = some .local) (hc : Names X x k.c)
      (hsu : ∀ (a : Addr) (oe : Obj) (cls : Value) (d : Option Addr) (pn : List (Addr × Obj)), Zc cls d oe → (∃ vs, oe.data = .fields vs) → PSs (X.suite a ((a, oe) :: pn)) (b₀ :: suite) (k.ts a cls d)) (r : Hds X hds l) :
      Hds X (.ExceptHandler (some (.Name x np)) (some n) (b₀ :: suite) pos' :: hds) (k :: l)
/-- no clause takes it: it goes on -/
theorem Cau.pass (c : Cau X pins a B sI σ H cls d s) {Wout : WX} {Q : Flow → Shared → Prop} (tk : Takes X Wout) (w : Wout cls d σ H) : wpAny (model X.prog X.w) X.A (handleBy (.ref a) X.env []) Q X.xe s := by
  refine wpAny_handleBy_nil ?_
  have up0 : wpAny (model X.prog X.w) X.A (setFlight (.ref a) X.env.frame) (fun _ s4 => wpAny (model X.prog X.w) X.A (throw (.ref a) : Sem Flow) Q X.xe s4) X.xe s := by
    rw [c.hf]
    refine HandSPX.setFlight_upZ c.fly fun g gh gu => wpAny_throw (tk _ _ ?_)
    exact ⟨a, B, sI, pins, σ, H, cls, d, rfl, c.inv, c.nb, c.up.trans gu, .inr (.inr (by rw [c.hs]; exact gh)), c.na, c.os, c.ag, w⟩
  obtain ⟨_, _, _, oe, vs, Tb, oT, us, he, _, hd, h1, _⟩ := c.fly
  unfold PySem.passOn
  refine wpAny_bind (wpAny_field he hd h1 ?_)
  rw [if_neg (by simp)]
  first
    | exact wpAny_bind (wpAny_pure (wpAny_bind up0))
    | exact wpAny_bind up0
/-- the clauses, one behind the other -/
theorem Cau.ask {D : Ends} {Wout : WX} (tk : Takes X Wout) : ∀ {hds : List ExceptHandler} {l : List Cl}, Hds X hds l → Cau X pins a B sI σ H cls d s → wCls X.K Wout D l cls d σ H →
    wpAny (model X.prog X.w) X.A (handleBy (.ref a) X.env hds) (SP X pins D) X.xe s := by
  intro hds l hk c
  induction hk with
  | nil => exact fun w => c.pass tk w
  | @cons x n k b₀ suite np pos' hds' l' hN hi hln hc hsu _ ih =>
    rintro ⟨b, hb, yes, no⟩
    obtain ⟨oe, hz, hfl, he, S⟩ := c.hold
    refine wpAny_handleBy_cons (codeAny_handlers_test ?_) (by intro q; cases q)
    have lt : PySem.W.Looks (model X.prog X.w) s.heap (typeOf (.ref a)) cls := fun _ _ _ _ kp q => wpAny_typeOf_ref (kp _ _ he) (by rw [hz.1]; exact q)
    have lm := PySem.W.exm_one (M := model X.prog X.w) c.now.kIn lt hb
    have name : ∀ {Q : Value → Shared → Prop} {E : Value → Shared → Prop}, Q k.c s → wpAny (model X.prog X.w) (X.A.mark (some (.ref a))) (eval (.Name x np) X.env) Q E s := fun {Q E} q => by
      rcases hc with ⟨hg, hdb, hm | ⟨hm, hv, hnn⟩⟩
      · exact ld_glob (X := X.suite a ((a, oe) :: (X.pn ++ pins))) S hg hm q hdb
      · exact ld_blt (X := X.suite a ((a, oe) :: (X.pn ++ pins))) S hg hm hv q hnn hdb
    refine name (lm.here ?_)
    cases b with
    | false =>
      show wpAny _ X.A (handleBy (.ref a) X.env hds') _ _ _
      exact ih (no rfl)
    | true =>
      refine codeAny_handlers_suite_as (HandSPX.lands_againZ c.fly fun g gf gu => ?_)
      have c' := c.on gf gu
      obtain ⟨o2, z2, f2, e2, S2⟩ := c'.hold
      refine store_ok (X := X.suite a ((a, o2) :: (X.pn ++ pins))) (v := .ref a) S2 hN hi (.inl hln) rfl (fun s5 S5 => ?_) (.inr hln)
      refine wpAny_mono ((hsu a o2 cls d (X.pn ++ pins) z2 f2).run [] s5 _ H _ S5 (yes rfl a c.na)) (fun fl s6 hsp => ?_) (fun _ _ z => False.elim z)
      have leave : ∀ {τ : L2.St} {G : Hp} {Q : Shared → Prop}, Inv (X.suite a ((a, o2) :: (X.pn ++ pins))) [] τ G s6 → (∀ s7, Inv X pins (τ.set k.i none) G s7 → Q s7) →
          wpAny (model X.prog X.w) X.A (do bindName X.env n .none; unbindBehindTheSuite X.env n pos') (fun _ s7 => Q s7) X.xe s6 := fun {τ G Q} S6 hq => gone_ok (S6.unsuite c.inv.ok) hN hi hln hq
      cases fl with
      | ret u =>
        obtain ⟨v6, τ, G, S6, r6, q6⟩ := hsp
        exact leave S6 fun s7 J7 => ⟨_, _, _, J7, r6, q6⟩
      | next =>
        obtain ⟨τ, G, S6, q6⟩ := hsp
        exact leave S6 fun s7 J7 => ⟨_, _, J7, q6⟩
      | brk =>
        obtain ⟨τ, G, S6, q6⟩ := hsp
        exact leave S6 fun s7 J7 => ⟨_, _, J7, q6⟩
      | cont =>
        obtain ⟨τ, G, S6, q6⟩ := hsp
        exact leave S6 fun s7 J7 => ⟨_, _, J7, q6⟩
end
section
variable {X : Cx} {body : List Stmt} {h₀ : ExceptHandler} {hds : List ExceptHandler} {l : List Cl} {pos : Pos} {tb : WX → TS} {Wout : WX}
/-- try: body except X1 as n1: .. except X2 as n2: .. -/
def tTryA (K : PySem.W.Frag) (tb : WX → TS) (l : List Cl) (Wout : WX) : TS := fun D σ H => tb (wCls K Wout D l) D σ H
theorem ps_tryA (hs : X.stack = X.env :: X.outer) (hf : X.env.frame = some X.env.locals) (tk : Takes X Wout)
    (hb : ∀ (W : WX) (pn : List (Addr × Obj)) (xe : Value → Shared → Prop), Takes (X.tr pn xe) W → PassesOwn (model X.prog X.w) X.A X.env xe → PSs (X.tr pn xe) body (tb W))
    (hh : Hds X (h₀ :: hds) l) : PS X (.Try body (h₀ :: hds) [] [] pos) (tTryA X.K tb l Wout) := by
  refine ⟨fun pins s σ H D I h => wpAny_Try_except ?_⟩
  have fr : X.A.frames = some (X.env :: X.outer) := by rw [I.ok.frames, hs]
  have run := (hb (wCls X.K Wout D l) (X.pn ++ pins) (fun e s₁ => wpAny (model X.prog X.w) X.A (noteFrame e X.env) (fun _ s₂ => wpAny (model X.prog X.w) X.A (setFlight e none)
    (fun _ s₃ => wpAny (model X.prog X.w) X.A (handleBy e X.env (h₀ :: hds)) (SP X pins D) X.xe s₃) X.xe s₂) X.xe s₁) ?_ PassesOwn.looking).run [] s σ H D (I.toTry _) h
  · refine wpAny_mono run (fun fl s1 hsp => ?_) (fun _ _ he => he)
    cases fl with
    | ret u =>
      obtain ⟨v, τ, G, J, r, q⟩ := hsp
      exact ⟨v, τ, G, J.ofTry I.ok, r, q⟩
    | next =>
      obtain ⟨τ, G, J, q⟩ := hsp
      exact wpAny_execs_nil ⟨τ, G, J.ofTry I.ok, q⟩
    | brk =>
      obtain ⟨τ, G, J, q⟩ := hsp
      exact ⟨τ, G, J.ofTry I.ok, q⟩
    | cont =>
      obtain ⟨τ, G, J, q⟩ := hsp
      exact ⟨τ, G, J.ofTry I.ok, q⟩
  · rintro u s1 ⟨a, B, sI, ps, τ, G, cls, d, rfl, J, nb, up, sky, na, os, ag, w⟩
    have sky' : Sky B (X.env :: X.outer) a (Zc cls d) X.env.locals s1.heap := by rw [← hs]; exact sky
    show wpAny (model X.prog X.w) X.A (noteFrame (.ref a) X.env) _ _ _
    refine Sky.land Zc.steady fr hf sky' fun g gf gu => ?_
    exact Cau.ask (s := { s1 with heap := g }) tk hh ⟨hs, hf, J.ofTry I.ok, nb, up.trans gu, gf, na, os, ag⟩ w
/-- no exception leaves: a def that may raise, called where E0 is wanted -/
theorem passNo {P : Program} {w : World} {X : Cx} : Passes (L2.CX P w) X E0 := fun _ _ _ _ _ _ _ ⟨_, _, _, _, _, _, _, _, _, _, _, _, z⟩ => z.elim
theorem takesNo {X : Cx} : Takes X (fun _ _ _ _ => False) := fun _ _ ⟨_, _, _, _, _, _, _, _, _, _, _, _, _, _, _, _, z⟩ => z.elim
end
/-! ### calls of defs that may raise -/
section
variable {X : Cx} {k j : Nat} {C : Addr} {x m : Str} {sp : Sp} {dvs : List V} {p pos apos : Pos} {e o : Expr} {es : List Expr} {ta : TE} {t : TA} {E : XK} {W : WX}
abbrev CXX (X : Cx) : CXT := L2.CX X.prog X.w
/-- where nothing is raised -/
theorem pe_fN (c : Fn X.prog X.w X.K X.mg X.base (CXX X) k x sp dvs) (hr : Room j X.A) (hk : k ≤ j) (hg : Gl X x) (ha : PA X (e :: es) t)
    (hdb : (x == ("__debug__" : Str)) = false := by decide) (he : starEach (e :: es) X.env = (false, eval e X.env) :: starEach es X.env := by rfl) (hpl : (backTo pos (starEach es X.env)).any (·.1) = false := by rfl) :
    PE X (.Call (.Name x p) (e :: es) [] pos) (tCall sp dvs E0 t) := by
  obtain ⟨f, fd, ps, ds, F, hm, kp, b, d⟩ := c.ex
  exact pe_call F (hr.mono hk) hg hm kp b d passNo ha hdb he hpl
theorem pe_fX (tk : Takes X (fun cls d _ H => E cls d H)) (c : Fn X.prog X.w X.K X.mg X.base (CXX X) k x sp dvs) (hr : Room j X.A) (hk : k ≤ j) (hg : Gl X x) (ha : PA X (e :: es) t)
    (hdb : (x == ("__debug__" : Str)) = false := by decide) (he : starEach (e :: es) X.env = (false, eval e X.env) :: starEach es X.env := by rfl) (hpl : (backTo pos (starEach es X.env)).any (·.1) = false := by rfl) :
    PE X (.Call (.Name x p) (e :: es) [] pos) (tCall sp dvs E t) := by
  obtain ⟨f, fd, ps, ds, F, hm, kp, b, d⟩ := c.ex
  exact pe_call F (hr.mono hk) hg hm kp b d (passes_call tk fun _ _ _ _ h => h) ha hdb he hpl
theorem pe_fS (tk : Takes X W) (c : Fn X.prog X.w X.K X.mg X.base (CXX X) k x sp []) (hr : Room j X.A) (hk : k ≤ j) (hg : Gl X x) (ha : PA X (e :: es) t)
    (hdb : (x == ("__debug__" : Str)) = false := by decide) (he : starEach (e :: es) X.env = (false, eval e X.env) :: starEach es X.env := by rfl) (hpl : (backTo pos (starEach es X.env)).any (·.1) = false := by rfl) :
    PE X (.Call (.Name x p) (e :: es) [] pos) (tCallS sp (WE W) t) := by
  obtain ⟨f, fd, ps, ds, F, hm, kp, b, d⟩ := c.ex
  cases d
  exact pe_callS F (hr.mono hk) hg hm kp b (fun σ => passAt tk σ) ha hdb he hpl
theorem pe_mN (c : Mkr X.prog X.w X.K X.mg X.base (CXX X) k x C sp dvs) (hr : Room j X.A) (hk : k + 1 ≤ j) (hg : Gl X x) (ha : PA X (e :: es) t)
    (hdb : (x == ("__debug__" : Str)) = false := by decide) (he : starEach (e :: es) X.env = (false, eval e X.env) :: starEach es X.env := by rfl) (hpl : (backTo pos (starEach es X.env)).any (·.1) = false := by rfl) :
    PE X (.Call (.Name x p) (e :: es) [] pos) (tMake C sp dvs E0 t) := by
  obtain ⟨f, fd, ps, ds, M, F, hm, b, d⟩ := c.ex
  exact pe_make M F (hr.mono hk) hg hm b d passNo ha hdb he hpl
theorem pe_mX (tk : Takes X (fun cls d _ H => E cls d H)) (c : Mkr X.prog X.w X.K X.mg X.base (CXX X) k x C sp dvs) (hr : Room j X.A) (hk : k + 1 ≤ j) (hg : Gl X x) (ha : PA X (e :: es) t)
    (hdb : (x == ("__debug__" : Str)) = false := by decide) (he : starEach (e :: es) X.env = (false, eval e X.env) :: starEach es X.env := by rfl) (hpl : (backTo pos (starEach es X.env)).any (·.1) = false := by rfl) :
    PE X (.Call (.Name x p) (e :: es) [] pos) (tMake C sp dvs E t) := by
  obtain ⟨f, fd, ps, ds, M, F, hm, b, d⟩ := c.ex
  exact pe_make M F (hr.mono hk) hg hm b d (passes_call tk fun _ _ _ _ h => h) ha hdb he hpl
/-- the shape of o.m(..) in the model's words -/
abbrev MTree (X : Cx) (o : Expr) (m : Str) (apos pos : Pos) (args : List Expr) (pl : Sem Bool) : Prop := eval (.Call (.Attribute o m apos) args [] pos) X.env = (do
  let ov ← eval o X.env; standAt apos.atName; let (f, first) ← holding [ov] (getMethod ov m pl); callWith pos f first (backTo pos (starEach args X.env)) (backToKw pos (keywordEach [] X.env)))
theorem pe_oN {pl : Sem Bool} (c : Mt X.prog X.w X.K X.mg X.base (CXX X) k C m sp dvs) (hr : Room j X.A) (hk : k ≤ j) (he : PE X o ta) (ha : PA X (e :: es) t)
    (hst : starEach (e :: es) X.env = (false, eval e X.env) :: starEach es X.env := by rfl) (hpl : (backTo pos (starEach es X.env)).any (·.1) = false := by rfl) (ht : MTree X o m apos pos (e :: es) pl := by rfl) :
    PE X (.Call (.Attribute o m apos) (e :: es) [] pos) (tMeth C m sp dvs E0 ta t) := by
  obtain ⟨f, fd, ps, ds, hc, hm, F, b, d⟩ := c.ex
  exact pe_meth (pl := pl) he hc hm F (hr.mono hk) b d passNo ha hst hpl ht
theorem pe_oX {pl : Sem Bool} (tk : Takes X (fun cls d _ H => E cls d H)) (c : Mt X.prog X.w X.K X.mg X.base (CXX X) k C m sp dvs) (hr : Room j X.A) (hk : k ≤ j) (he : PE X o ta) (ha : PA X (e :: es) t)
    (hst : starEach (e :: es) X.env = (false, eval e X.env) :: starEach es X.env := by rfl) (hpl : (backTo pos (starEach es X.env)).any (·.1) = false := by rfl) (ht : MTree X o m apos pos (e :: es) pl := by rfl) :
    PE X (.Call (.Attribute o m apos) (e :: es) [] pos) (tMeth C m sp dvs E ta t) := by
  obtain ⟨f, fd, ps, ds, hc, hm, F, b, d⟩ := c.ex
  exact pe_meth (pl := pl) he hc hm F (hr.mono hk) b d (passes_call tk fun _ _ _ _ h => h) ha hst hpl ht
/-- in a try's body: what is raised is wished for at the slots as they stand -/
def tMethW (C : Addr) (m : Str) (sp : Sp) (W : WX) (ta : TE) (t : TA) : TE := fun σ H Q => ta σ H fun x H1 => ∃ a dx fs, x = .ref a ∧ H1 a = some (.ins C dx fs) ∧ fs.lookup m = none ∧ t σ H1 fun vs H2 => sp (x :: vs) H2 Q (WE W σ)
theorem pe_oS {pl : Sem Bool} (tk : Takes X W) (c : Mt X.prog X.w X.K X.mg X.base (CXX X) k C m sp []) (hr : Room j X.A) (hk : k ≤ j) (he : PE X o ta) (ha : PA X (e :: es) t)
    (hst : starEach (e :: es) X.env = (false, eval e X.env) :: starEach es X.env := by rfl) (hpl : (backTo pos (starEach es X.env)).any (·.1) = false := by rfl) (ht : MTree X o m apos pos (e :: es) pl := by rfl) :
    PE X (.Call (.Attribute o m apos) (e :: es) [] pos) (tMethW C m sp W ta t) := by
  obtain ⟨f, fd, ps, ds, hc, hm, F, b, d⟩ := c.ex
  cases d
  refine ⟨fun pins s σ H Q I h => PySem.W.methodCall_KW (pl := pl) (thn (he.run pins s σ H _ I h) ?_) ht⟩
  rintro u s1 ⟨x, H1, I1, rx, a, dx, fs, rfl, ea, l, q⟩
  obtain rfl : u = Value.ref a := rx
  refine getmeth_ok I1 ea hc hm l (PySem.W.callWith_K (first := [.ref a]) (h₀ := X.base) I.ok.mod.kin hm.kp (thn (ha.run pos pins s1 σ H1 _ I1 q) ?_) hst hpl)
  rintro us s2 ⟨vs, H2, I2, r, q2⟩
  exact ⟨I2.kIn, run_fnS (us := .ref a :: us) (vs := .ref a :: vs) F (hr.mono hk) b (passAt tk σ) I2 (.cons rfl r) q2⟩
end
section
variable {P : Program} {w : World} {K : PySem.W.Frag} {mg : Str → Option Value} {base : Heap}
abbrev CXP (P : Program) (w : World) : CXT := L2.CX P w
theorem Fn.mkX {x : Str} {params : Arguments} {body : List Stmt} {scope : Scope} {f : Addr} {N ps : List Str} {k : Nat} {sp : Sp}
    (F : ∃ fd, FunD K x x params body scope [] [] f fd) (g : mg x = some (.ref f)) (S : FnScope N ps scope)
    (hb : ∀ (kV doc pm : Value) (an : Option Addr) (cdv ct : Value) (us : List Value), us.length = ps.length → bindArgs (PySem.W.fnOf x x params body scope .none kV doc pm an cdv ct) ⟨us, []⟩ = pure (ps.zip us))
    (len : ∀ vs H Q E, sp vs H Q E → vs.length = ps.length)
    (hbody : ∀ (cdv : Value) (A : Around) (outer : List Env) (s : Shared) (H : Hp) (vs : List V) (Q : VK) (E : XK), Room k (A.deeper (envOfC x scope s.heap.objs.size f cdv)) → sp vs H Q E →
      ∃ t, PSs (cxOf (CXP P w) P w K mg base N x scope f cdv A outer s H E) body t ∧ t { nx := fun _ H' => Q .non H', rt := Q } (start N vs) H) : Fn P w K mg base (CXP P w) (k + 1) x sp [] := by
  obtain ⟨fd, F⟩ := F
  exact ⟨f, fd, ps, [], F.ok S len hbody, g, F.kp, F.bindsN hb, .nil⟩
theorem Mt.mkX {m qual : Str} {C : Addr} {params : Arguments} {body : List Stmt} {scope : Scope} {f : Addr} {N ps : List Str} {k : Nat} {sp : Sp}
    (c : Cls K C) (me : Meth K C m f) (F : ∃ fd, FunD K m qual params body scope [] [] f fd) (S : FnScope N ps scope)
    (hb : ∀ (kV doc pm : Value) (an : Option Addr) (cdv ct : Value) (us : List Value), us.length = ps.length → bindArgs (PySem.W.fnOf m qual params body scope .none kV doc pm an cdv ct) ⟨us, []⟩ = pure (ps.zip us))
    (len : ∀ vs H Q E, sp vs H Q E → vs.length = ps.length)
    (hbody : ∀ (cdv : Value) (A : Around) (outer : List Env) (s : Shared) (H : Hp) (vs : List V) (Q : VK) (E : XK), Room k (A.deeper (envOfC qual scope s.heap.objs.size f cdv)) → sp vs H Q E →
      ∃ t, PSs (cxOf (CXP P w) P w K mg base N qual scope f cdv A outer s H E) body t ∧ t { nx := fun _ H' => Q .non H', rt := Q } (start N vs) H) : Mt P w K mg base (CXP P w) (k + 1) C m sp [] := by
  obtain ⟨fd, F⟩ := F
  exact ⟨f, fd, ps, [], c, me, F.ok S len hbody, F.bindsN hb, .nil⟩
theorem Mkr.mkX {x qual : Str} {C : Addr} {params : Arguments} {body : List Stmt} {scope : Scope} {f : Addr} {N ps : List Str} {k : Nat} {sp : Sp} {dvs : List V}
    (n j : Nat) (M : Mk K C f) (g : mg x = some (.ref C)) (F : ∃ fd, FunD K "__init__" qual params body scope dvs [] f fd) (S : FnScope N ps scope) (hd : dvs ≠ []) (hn : n + (dvs.length - j) = ps.length)
    (hb : ∀ (T : Addr) (kV doc pm : Value) (an : Option Addr) (cdv ct : Value) (us its : List Value), us.length = n → its.length = dvs.length →
      ∃ k, bindArgs (PySem.W.fnOf "__init__" qual params body scope (.ref T) kV doc pm an cdv ct) ⟨us, []⟩ = seqItems? (.ref T) >>= k ∧ k (some its.toArray) = pure (ps.zip (us ++ its.drop j)))
    (len : ∀ vs H Q E, sp vs H Q E → vs.length = ps.length)
    (hbody : ∀ (cdv : Value) (A : Around) (outer : List Env) (s : Shared) (H : Hp) (vs : List V) (Q : VK) (E : XK), Room k (A.deeper (envOfC qual scope s.heap.objs.size f cdv)) → sp vs H Q E →
      ∃ t, PSs (cxOf (CXP P w) P w K mg base N qual scope f cdv A outer s H E) body t ∧ t { nx := fun _ H' => Q .non H', rt := Q } (start N vs) H) : Mkr P w K mg base (CXP P w) (k + 1) x C sp (dvs.drop j) := by
  obtain ⟨fd, F⟩ := F
  obtain ⟨ds, hv, hbn⟩ := F.binds1 (ps := ps) n j hd hn hb
  exact ⟨f, fd, ps, ds, M, F.ok S len hbody, g, hbn, hv⟩
theorem Mkr.mkX0 {x qual : Str} {C : Addr} {params : Arguments} {body : List Stmt} {scope : Scope} {f : Addr} {N ps : List Str} {k : Nat} {sp : Sp}
    (M : Mk K C f) (g : mg x = some (.ref C)) (F : ∃ fd, FunD K "__init__" qual params body scope [] [] f fd) (S : FnScope N ps scope)
    (hb : ∀ (kV doc pm : Value) (an : Option Addr) (cdv ct : Value) (us : List Value), us.length = ps.length → bindArgs (PySem.W.fnOf "__init__" qual params body scope .none kV doc pm an cdv ct) ⟨us, []⟩ = pure (ps.zip us))
    (len : ∀ vs H Q E, sp vs H Q E → vs.length = ps.length)
    (hbody : ∀ (cdv : Value) (A : Around) (outer : List Env) (s : Shared) (H : Hp) (vs : List V) (Q : VK) (E : XK), Room k (A.deeper (envOfC qual scope s.heap.objs.size f cdv)) → sp vs H Q E →
      ∃ t, PSs (cxOf (CXP P w) P w K mg base N qual scope f cdv A outer s H E) body t ∧ t { nx := fun _ H' => Q .non H', rt := Q } (start N vs) H) : Mkr P w K mg base (CXP P w) (k + 1) x C sp [] := by
  obtain ⟨fd, F⟩ := F
  exact ⟨f, fd, ps, [], M, F.ok S len hbody, g, F.bindsN hb, .nil⟩
end
end FW
namespace FW
open PySem PySem.Spec PyProof.Rows L2 PySem.W PySem.HandSPX PySem.ErrX
/-! ### the head's facts, with empty tables left out -/
abbrev AlZ : Type := He.AlD × Bool × List FnE
def obsZK (fa : List He.Fa) (fn : List He.DefD) (ex : Frag → Bool) (er : List ErrD) (tf : List He.Defn) (g : Addr → Option Obj) (K : Frag) : AlZ := (He.obsD fa fn K, ex K && He.tabsB g tf K, er.map fun d => fnE K d.x)
def obsZ (n : Nat) (fa : List He.Fa) (fn : List He.DefD) (ex : Frag → Bool) (er : List ErrD) (tf : List He.Defn) (g : Addr → Option Obj) : AlZ := obsZK fa fn ex er tf g (He.frT g (He.asD g n ++ [cStatics, sysModules]))
structure SaysZ (fa : List He.Fa) (fn : List He.DefD) (ex : Frag → Bool) (er : List ErrD) (tf : List He.Defn) (h : Heap) (K : Frag) : Prop where
  d : He.SaysD fa fn K
  ex : ex K = true
  er : er.map (fun d => fnE K d.x) = er.map ErrD.val
  hd : ∀ p ∈ tf, codeHdIn K (He.cT K p).1 (He.cT K p).2 = true
  out : ∀ p ∈ tf, K.lookup (He.cT K p).2 = none
  empty : ∀ p ∈ tf, h.get? (He.cT K p).2 = some { cls := .none, data := .fields #[] }
def valZ (fn : List He.DefD) (er : List ErrD) : AlZ := (He.valD fn, true, er.map ErrD.val)
theorem saysZ_of {fa : List He.Fa} {fn : List He.DefD} {ex : Frag → Bool} {er : List ErrD} {tf : List He.Defn} {h : Heap} {as : List Addr} (e : obsZK fa fn ex er tf h.get? (He.frT h.get? as) = valZ fn er) : SaysZ fa fn ex er tf h (He.frT h.get? as) := by
  have e2 : (ex (He.frT h.get? as) && He.tabsB h.get? tf (He.frT h.get? as)) = true := congrArg (fun z : AlZ => z.2.1) e
  obtain ⟨h1, h2⟩ := He.ba e2
  have key : ∀ p ∈ tf, codeHdIn (He.frT h.get? as) (He.cT (He.frT h.get? as) p).1 (He.cT (He.frT h.get? as) p).2 = true ∧ ∃ o, h.get? (He.cT (He.frT h.get? as) p).2 = some o ∧ He.emptyTab o = true := fun p hp => by
    obtain ⟨h3, h4⟩ := He.ba (List.all_eq_true.mp h2 p hp)
    refine ⟨h3, ?_⟩
    cases q : h.get? (He.cT (He.frT h.get? as) p).2 with
    | none => rw [q] at h4; cases h4
    | some o => rw [q] at h4; exact ⟨o, rfl, h4⟩
  exact ⟨congrArg (fun z : AlZ => z.1) e, h1, congrArg (fun z : AlZ => z.2.2) e, fun p hp => (key p hp).1, fun p hp => by
    obtain ⟨_, o, q, z⟩ := key p hp
    exact He.frT_none q z, fun p hp => by
    obtain ⟨_, o, q, z⟩ := key p hp
    rw [q, He.emptyTab_eq z]⟩
def hookZ (n : Nat) (fa : List He.Fa) (fn : List He.DefD) (ex : Frag → Bool) (er : List ErrD) (tf : List He.Defn) : PySem.W.Hook where
  α := AlZ
  obs := fun s => obsZ n fa fn ex er tf s.heap.get?
  val := fun _ => valZ fn er
  says := fun _ h => ∃ K : Frag, K.In h ∧ SaysZ fa fn ex er tf h K
  of := fun _ _ e => ⟨_, He.frT_in, saysZ_of e⟩
  keeps := fun _ _ _ ⟨K, hK, c⟩ k => ⟨K, PySem.W.Frag.In.keeps hK k, ⟨c.d, c.ex, c.er, c.hd, c.out, fun p hp => k _ _ (c.empty p hp)⟩⟩
theorem obsZ_eq {n : Nat} {fa : List He.Fa} {fn : List He.DefD} {ex : Frag → Bool} {er : List ErrD} {tf : List He.Defn} {g : Addr → Option Obj} {s : Shared} (h : ∀ a, g a = s.heap.get? a) : obsZ n fa fn ex er tf g = (hookZ n fa fn ex er tf).obs s := by
  have e : g = s.heap.get? := funext h
  rw [e] <;> rfl
/-! ### a def whose code object is known -/
section
variable {P : Program} {w : World} {K : PySem.W.Frag} {mg : Str → Option Value} {base : Heap}
theorem funD_okC {CX : CXT} {x qual : Str} {params : Arguments} {body : List Stmt} {scope : Scope} {dvs : List V} {kws : List (Str × V)} {fd : FuncData} {p : He.Defn} {N ps : List Str} {k : Nat} {sp : Sp}
    (F : FunD K x qual params body scope dvs kws (He.fAd K p) fd) (S : FnScope N ps scope) (len : ∀ vs H Q E, sp vs H Q E → vs.length = ps.length)
    (hbody : ∀ (A : Around) (outer : List Env) (s : Shared) (H : Hp) (vs : List V) (Q : VK) (E : XK), Room k (A.deeper (envOfC qual scope s.heap.objs.size (He.fAd K p) (.ref (He.codeOf K p)))) → sp vs H Q E →
      ∃ t, PSs (cxOf CX P w K mg base N qual scope (He.fAd K p) (.ref (He.codeOf K p)) A outer s H E) body t ∧ t { nx := fun _ H' => Q .non H', rt := Q } (start N vs) H) : FnOk P w K mg base CX (k + 1) (He.fAd K p) fd ps sp := by
  obtain ⟨oc, od, dV, kV, doc, pm, an, cdv, ct, osl, rfl, lk, hcd, _, _⟩ := F.ex
  obtain ⟨c, rfl⟩ := He.codeIn_ref hcd
  have e : He.codeOf K p = c := He.codeOf_eq lk rfl
  exact fn_of lk hcd S len fun A outer s H vs Q E hr hsp => by
    rw [← e] at hr ⊢
    exact hbody A outer s H vs Q E hr hsp
/-- a def of the module that makes lambdas -/
theorem Fn.mkC {x : Str} {params : Arguments} {body : List Stmt} {scope : Scope} {N ps : List Str} {k : Nat} {sp : Sp}
    (F : ∃ fd, FunD K x x params body scope [] [] (He.fAd K (x, none)) fd) (g : mg x = some (.ref (He.fAd K (x, none)))) (S : FnScope N ps scope)
    (hb : ∀ (kV doc pm : Value) (an : Option Addr) (cdv ct : Value) (us : List Value), us.length = ps.length → bindArgs (PySem.W.fnOf x x params body scope .none kV doc pm an cdv ct) ⟨us, []⟩ = pure (ps.zip us))
    (len : ∀ vs H Q E, sp vs H Q E → vs.length = ps.length)
    (hbody : ∀ (A : Around) (outer : List Env) (s : Shared) (H : Hp) (vs : List V) (Q : VK) (E : XK), Room k (A.deeper (envOfC x scope s.heap.objs.size (He.fAd K (x, none)) (.ref (He.codeOf K (x, none))))) → sp vs H Q E →
      ∃ t, PSs (cxOf CX0 P w K mg base N x scope (He.fAd K (x, none)) (.ref (He.codeOf K (x, none))) A outer s H E).nox body t ∧ t { nx := fun _ H' => Q .non H', rt := Q } (start N vs) H) : Fn P w K mg base CX0 (k + 1) x sp [] := by
  obtain ⟨fd, F⟩ := F
  refine ⟨_, fd, ps, [], funD_okC F S len fun A outer s H vs Q E hr h => ?_, g, F.kp, F.bindsN hb, .nil⟩
  obtain ⟨t, h1, h2⟩ := hbody A outer s H vs Q E hr h
  exact ⟨t, h1.nox, h2⟩
end
/-! ### a body that may raise what W takes, whatever the slots -/
def wLen (n : Nat) (W : WX) : WX := fun cls d σ H => σ.length = n → W cls d σ H
theorem takes_len {X : Cx} {W : WX} {n : Nat} (h : X.N.length = n) (t : Takes X W) : Takes X (wLen n W) := fun u s' ⟨a, B, sI, pins, σ, H, cls, d, e, I, nb, up, sky, na, os, ag, w⟩ =>
  t u s' ⟨a, B, sI, pins, σ, H, cls, d, e, I, nb, up, sky, na, os, ag, w (I.len.trans h)⟩
def tWithE (n : Nat) (t : XK → TS) (W : WX) : TS := fun D σ H => ∃ Ech : XK, (∀ cls d σ' H', Ech cls d H' → wLen n W cls d σ' H') ∧ t Ech D σ H
theorem pss_withE {X : Cx} {body : List Stmt} {n : Nat} {t : XK → TS} {W : WX} (h : ∀ Ech : XK, (∀ cls d σ' H', Ech cls d H' → wLen n W cls d σ' H') → PSs X body (t Ech)) : PSs X body (tWithE n t W) :=
  ⟨fun pins s σ H D I ⟨Ech, hW, q⟩ => (h Ech hW).run pins s σ H D I q⟩
/-- a() where a is the lambda at f, in slot 0 -/
def tAsk (f c : Addr) (q : Str) (tl : XK → Hp → VK → Prop) (E : XK) : TE := fun σ H Q => σ[0]? = some (some (.ref f)) ∧ H c = some (LamX.CodeO c q) ∧ tl E H Q
section
variable {X : Cx}
/-- x(lambda: body): the def x by its data -/
theorem pe_lam {T : List (Addr × Str)} {TT : (XK → Hp → VK → Prop) → Hp → VK → Prop} {x a : Str} {g c P : Addr} {k j : Nat} {pg : Arguments} {bg : List Stmt} {sg : Scope} {Ng : List Str}
    {params : Arguments} {body : Expr} {scope : Scope} {t : XK → TE} {p lpos pos : Pos} (F : ∃ fd, FunD X.K x x pg bg sg [] [] g fd) (hm : X.mg x = some (.ref g)) (hg : Gl X x)
    (hb : ∀ (kV doc pm : Value) (an : Option Addr) (cdv ct : Value) (us : List Value), us.length = [a].length → bindArgs (PySem.W.fnOf x x pg bg sg .none kV doc pm an cdv ct) ⟨us, []⟩ = pure ([a].zip us)) (Sg : FnScope Ng [a] sg) (hNg : Ng[0]? = some a) (hva : Vis sg a)
    (hG : ∀ cdv, LamX.GivesTo X Ng x sg g cdv bg a (X.env.qual ++ "<lambda>") TT)
    (TB : LamX.TabB X.base X.mg c P) (hcode : X.env.code = .ref c) (hmT : (P, X.env.qual ++ "<lambda>") ∈ T) (hu : ∀ p ∈ T, p.1 = P → p.2 = X.env.qual ++ "<lambda>") (hr : Room j X.A) (hk : k + 2 ≤ j) (L : LamX.LamS X.env.scope scope) (hdef : defaultsOf params X.env = ([], []))
    (hbind : ∀ (q : Str) (cl : List (Str × Addr)) (pm cv ctv : Value), bindArgs (PySem.W.kla_fn "<lambda>" q params body scope cl pm cv ctv) ⟨[], []⟩ = pure [])
    (hbody : ∀ (A : Around) (outer : List Env) (s : Shared) (H : Hp) (E : XK) (f c' : Addr), Room k (A.deeper (LamX.lamEnv X scope s.heap.objs.size f c')) → PE (LamX.lamCx X A outer s H E scope f c') body (t E))
    (hdb : (x == ("__debug__" : Str)) = false := by decide) (hd : (a == ("__debug__" : Str)) = false := by decide) (hcd : (a == ("__classdict__" : Str)) = false := by decide) :
    PE X (.Call (.Name x p) [.Lambda params body scope lpos] [] pos) (LamX.tLam T TT t) := by
  obtain ⟨fd, F⟩ := F
  have hbn := F.bindsN (ps := [a]) hb
  obtain ⟨oc, od, dV, kV, doc, pm, an, cdv, ct, osl, rfl, lk, hcd', _, _⟩ := F.ex
  exact LamX.pe_lamcall hg hm F.kp lk hcd' hbn Sg hNg hva (hG cdv) TB hcode hmT hu (hr.mono hk) L hdef hbind hbody hdb hd hcd
end
/-! ### what stays where lambdas are made -/
theorem extN_sqL {K : PySem.W.Frag} {H H' : Hp} {a : Addr} {xs : List V} (e : LamX.ExtN H H') (h : SqL K H a xs) : SqL K H' a xs := by
  rcases h with h | h
  · rcases h with h | ⟨o, h⟩
    · exact .inl (.inl (e _ _ h (fun _ z => by cases z)))
    · exact .inl (.inr ⟨o, e _ _ h (fun _ z => by cases z)⟩)
  · exact .inr h
theorem extN_tr {H H1 H2 : Hp} (a : LamX.ExtN H H1) (b : LamX.ExtN H1 H2) : LamX.ExtN H H2 := a.trans b
end FW
namespace FWN
open PySem PySem.Spec PyProof.Rows L2 FW
/-! ### several clauses «except X as n» -/
/-- an exception that a try of X has caught; s: the state in which the clauses are asked -/
structure Cau (X : Cx) (pins : List (Addr × Obj)) (a : Addr) (B : Heap) (sI : Shared) (σ : L2.St) (H : Hp) (cls : Value) (d : Option Addr) (s : Shared) : Prop where
  hs : X.stack = X.env :: X.outer
  hf : X.env.frame = some X.env.locals
  inv : Inv X pins σ H sI
  nb : ∀ b o, sI.heap.get? b = some o → b ∉ frs X.stack → B.get? b = some o
  up : sI.heap.UpToSlots s.heap
  fly : HandSPX.FlyingZ B (X.env :: X.outer) a (L2N.Zn cls d) s.heap
  na : H a = none
  os : s.os = sI.os
  ag : AllBare s.gens
section
variable {X : Cx} {pins : List (Addr × Obj)} {a : Addr} {B : Heap} {sI s : Shared} {σ : L2.St} {H : Hp} {cls : Value} {d : Option Addr}
theorem Cau.now (c : Cau X pins a B sI σ H cls d s) : Inv X pins σ H s := c.inv.landed c.nb c.fly.1 c.up c.os c.ag
theorem Cau.on (c : Cau X pins a B sI σ H cls d s) {g : Heap} (f : HandSPX.FlyingZ B (X.env :: X.outer) a (L2N.Zn cls d) g) (u : s.heap.UpToSlots g) : Cau X pins a B sI σ H cls d { s with heap := g } :=
  ⟨c.hs, c.hf, c.inv, c.nb, c.up.trans u, f, c.na, c.os, c.ag⟩
theorem Cau.apart (c : Cau X pins a B sI σ H cls d s) : a ≠ X.env.locals ∧ a ∉ X.fs := by
  have no : a ∉ frs (X.env :: X.outer) := fun m => by
    obtain ⟨ox, vx, hx, _, dx⟩ := c.fly.there
    obtain ⟨_, ox', hx', nx⟩ := c.fly.2.2.1.mem m
    rw [hx] at hx'
    cases hx'
    exact nx _ dx
  have m0 : X.env.locals ∈ frs (X.env :: X.outer) := List.mem_filterMap.mpr ⟨X.env, List.mem_cons_self, c.hf⟩
  refine ⟨fun z => no (by rw [z]; exact m0), fun m => no ?_⟩
  obtain ⟨en, me, q⟩ := List.mem_filterMap.mp m
  exact List.mem_filterMap.mpr ⟨en, List.mem_cons_of_mem _ me, q⟩
theorem Cau.hold (c : Cau X pins a B sI σ H cls d s) : ∃ oe, L2N.Zn cls d oe ∧ (∃ vs, oe.data = .fields vs) ∧ s.heap.get? a = some oe ∧ Inv (X.suite a ((a, oe) :: (X.pn ++ pins))) [] σ H s := by
  obtain ⟨oe, vs, he, hz, hd⟩ := c.fly.there
  exact ⟨oe, hz, ⟨vs, hd⟩, he, c.now.suite he hd c.na c.apart.1 c.apart.2⟩
inductive Hds (X : Cx) : List ExceptHandler → List Cl → Prop
  | nil : Hds X [] []
  | cons {x n : Str} {k : Cl} {b₀ : Stmt} {suite : List Stmt} {np pos' : Pos} {hds : List ExceptHandler} {l : List Cl} (hN : X.N.Nodup) (hi : X.N[k.i]? = some n) (hln : X.env.kindOf n = some .local) (hc : Names X x k.c)
      (hsu : ∀ (a : Addr) (oe : Obj) (cls : Value) (d : Option Addr) (pn : List (Addr × Obj)), L2N.Zn cls d oe → (∃ vs, oe.data = .fields vs) → PSs (X.suite a ((a, oe) :: pn)) (b₀ :: suite) (k.ts a cls d)) (r : Hds X hds l) :
      Hds X (.ExceptHandler (some (.Name x np)) (some n) (b₀ :: suite) pos' :: hds) (k :: l)
/-- no clause takes it: it goes on -/
theorem Cau.pass (c : Cau X pins a B sI σ H cls d s) {Wout : WX} {Q : Flow → Shared → Prop} (tk : L2N.Takes X Wout) (w : Wout cls d σ H) : wpAny (model X.prog X.w) X.A (handleBy (.ref a) X.env []) Q X.xe s := by
  refine wpAny_handleBy_nil ?_
  have up0 : wpAny (model X.prog X.w) X.A (setFlight (.ref a) X.env.frame) (fun _ s4 => wpAny (model X.prog X.w) X.A (throw (.ref a) : Sem Flow) Q X.xe s4) X.xe s := by
    rw [c.hf]
    refine HandSPX.setFlight_upZ c.fly fun g gh gu => wpAny_throw (tk _ _ ?_)
    exact ⟨a, B, sI, pins, σ, H, cls, d, rfl, c.inv, c.nb, c.up.trans gu, .inr (.inr (by rw [c.hs]; exact gh)), c.na, c.os, c.ag, w⟩
  obtain ⟨_, _, _, oe, vs, Tb, oT, us, he, _, hd, h1, _⟩ := c.fly
  unfold PySem.passOn
  refine wpAny_bind (wpAny_field he hd h1 ?_)
  rw [if_neg (by simp)]
  first
    | exact wpAny_bind (wpAny_pure (wpAny_bind up0))
    | exact wpAny_bind up0
/-- the clauses, one behind the other -/
theorem Cau.ask {D : Ends} {Wout : WX} (tk : L2N.Takes X Wout) : ∀ {hds : List ExceptHandler} {l : List Cl}, Hds X hds l → Cau X pins a B sI σ H cls d s → wCls X.K Wout D l cls d σ H →
    wpAny (model X.prog X.w) X.A (handleBy (.ref a) X.env hds) (SP X pins D) X.xe s := by
  intro hds l hk c
  induction hk with
  | nil => exact fun w => c.pass tk w
  | @cons x n k b₀ suite np pos' hds' l' hN hi hln hc hsu _ ih =>
    rintro ⟨b, hb, yes, no⟩
    obtain ⟨oe, hz, hfl, he, S⟩ := c.hold
    refine wpAny_handleBy_cons (codeAny_handlers_test ?_) (by intro q; cases q)
    have lt : PySem.W.Looks (model X.prog X.w) s.heap (typeOf (.ref a)) cls := fun _ _ _ _ kp q => wpAny_typeOf_ref (kp _ _ he) (by rw [hz.1]; exact q)
    have lm := PySem.W.exm_one (M := model X.prog X.w) c.now.kIn lt hb
    have name : ∀ {Q : Value → Shared → Prop} {E : Value → Shared → Prop}, Q k.c s → wpAny (model X.prog X.w) (X.A.mark (some (.ref a))) (eval (.Name x np) X.env) Q E s := fun {Q E} q => by
      rcases hc with ⟨hg, hdb, hm | ⟨hm, hv, hnn⟩⟩
      · exact ld_glob (X := X.suite a ((a, oe) :: (X.pn ++ pins))) S hg hm q hdb
      · exact ld_blt (X := X.suite a ((a, oe) :: (X.pn ++ pins))) S hg hm hv q hnn hdb
    refine name (lm.here ?_)
    cases b with
    | false =>
      show wpAny _ X.A (handleBy (.ref a) X.env hds') _ _ _
      exact ih (no rfl)
    | true =>
      refine codeAny_handlers_suite_as (HandSPX.lands_againZ c.fly fun g gf gu => ?_)
      have c' := c.on gf gu
      obtain ⟨o2, z2, f2, e2, S2⟩ := c'.hold
      refine store_ok (X := X.suite a ((a, o2) :: (X.pn ++ pins))) (v := .ref a) S2 hN hi (.inl hln) rfl (fun s5 S5 => ?_) (.inr hln)
      refine wpAny_mono ((hsu a o2 cls d (X.pn ++ pins) z2 f2).run [] s5 _ H _ S5 (yes rfl a c.na)) (fun fl s6 hsp => ?_) (fun _ _ z => False.elim z)
      have leave : ∀ {τ : L2.St} {G : Hp} {Q : Shared → Prop}, Inv (X.suite a ((a, o2) :: (X.pn ++ pins))) [] τ G s6 → (∀ s7, Inv X pins (τ.set k.i none) G s7 → Q s7) →
          wpAny (model X.prog X.w) X.A (do bindName X.env n .none; unbindBehindTheSuite X.env n pos') (fun _ s7 => Q s7) X.xe s6 := fun {τ G Q} S6 hq => gone_ok (S6.unsuite c.inv.ok) hN hi hln hq
      cases fl with
      | ret u =>
        obtain ⟨v6, τ, G, S6, r6, q6⟩ := hsp
        exact leave S6 fun s7 J7 => ⟨_, _, _, J7, r6, q6⟩
      | next =>
        obtain ⟨τ, G, S6, q6⟩ := hsp
        exact leave S6 fun s7 J7 => ⟨_, _, J7, q6⟩
      | brk =>
        obtain ⟨τ, G, S6, q6⟩ := hsp
        exact leave S6 fun s7 J7 => ⟨_, _, J7, q6⟩
      | cont =>
        obtain ⟨τ, G, S6, q6⟩ := hsp
        exact leave S6 fun s7 J7 => ⟨_, _, J7, q6⟩
end
section
variable {X : Cx} {body : List Stmt} {h₀ : ExceptHandler} {hds : List ExceptHandler} {l : List Cl} {pos : Pos} {tb : WX → TS} {Wout : WX}
/-- try: body except X1 as n1: .. except X2 as n2: .. -/
theorem ps_tryA (hs : X.stack = X.env :: X.outer) (hf : X.env.frame = some X.env.locals) (tk : L2N.Takes X Wout)
    (hb : ∀ (W : WX) (pn : List (Addr × Obj)) (xe : Value → Shared → Prop), L2N.Takes (X.tr pn xe) W → PassesOwn (model X.prog X.w) X.A X.env xe → PSs (X.tr pn xe) body (tb W))
    (hh : Hds X (h₀ :: hds) l) : PS X (.Try body (h₀ :: hds) [] [] pos) (tTryA X.K tb l Wout) := by
  refine ⟨fun pins s σ H D I h => wpAny_Try_except ?_⟩
  have fr : X.A.frames = some (X.env :: X.outer) := by rw [I.ok.frames, hs]
  have run := (hb (wCls X.K Wout D l) (X.pn ++ pins) (fun e s₁ => wpAny (model X.prog X.w) X.A (noteFrame e X.env) (fun _ s₂ => wpAny (model X.prog X.w) X.A (setFlight e none)
    (fun _ s₃ => wpAny (model X.prog X.w) X.A (handleBy e X.env (h₀ :: hds)) (SP X pins D) X.xe s₃) X.xe s₂) X.xe s₁) ?_ PassesOwn.looking).run [] s σ H D (I.toTry _) h
  · refine wpAny_mono run (fun fl s1 hsp => ?_) (fun _ _ he => he)
    cases fl with
    | ret u =>
      obtain ⟨v, τ, G, J, r, q⟩ := hsp
      exact ⟨v, τ, G, J.ofTry I.ok, r, q⟩
    | next =>
      obtain ⟨τ, G, J, q⟩ := hsp
      exact wpAny_execs_nil ⟨τ, G, J.ofTry I.ok, q⟩
    | brk =>
      obtain ⟨τ, G, J, q⟩ := hsp
      exact ⟨τ, G, J.ofTry I.ok, q⟩
    | cont =>
      obtain ⟨τ, G, J, q⟩ := hsp
      exact ⟨τ, G, J.ofTry I.ok, q⟩
  · rintro u s1 ⟨a, B, sI, ps, τ, G, cls, d, rfl, J, nb, up, sky, na, os, ag, w⟩
    have sky' : Sky B (X.env :: X.outer) a (L2N.Zn cls d) X.env.locals s1.heap := by rw [← hs]; exact sky
    show wpAny (model X.prog X.w) X.A (noteFrame (.ref a) X.env) _ _ _
    refine L2N.Sky.land L2N.Zn.steady fr hf sky' fun g gf gu => ?_
    exact Cau.ask (s := { s1 with heap := g }) tk hh ⟨hs, hf, J.ofTry I.ok, nb, up.trans gu, gf, na, os, ag⟩ w
/-- no exception leaves: a def that may raise, called where E0 is wanted -/
theorem passNo {P : Program} {w : World} {X : Cx} : Passes (L2N.CX P w) X E0 := fun _ _ _ _ _ _ _ ⟨_, _, _, _, _, _, _, _, _, _, _, _, z⟩ => z.elim
theorem takesNo {X : Cx} : L2N.Takes X (fun _ _ _ _ => False) := fun _ _ ⟨_, _, _, _, _, _, _, _, _, _, _, _, _, _, _, _, z⟩ => z.elim
end
/-! ### calls of defs that may raise -/
section
variable {X : Cx} {k j : Nat} {C : Addr} {x m : Str} {sp : Sp} {dvs : List V} {p pos apos : Pos} {e o : Expr} {es : List Expr} {ta : TE} {t : TA} {E : XK} {W : WX}
abbrev CXX (X : Cx) : CXT := L2N.CX X.prog X.w
/-- where nothing is raised -/
theorem pe_fN (c : Fn X.prog X.w X.K X.mg X.base (CXX X) k x sp dvs) (hr : Room j X.A) (hk : k ≤ j) (hg : Gl X x) (ha : PA X (e :: es) t)
    (hdb : (x == ("__debug__" : Str)) = false := by decide) (he : starEach (e :: es) X.env = (false, eval e X.env) :: starEach es X.env := by rfl) (hpl : (backTo pos (starEach es X.env)).any (·.1) = false := by rfl) :
    PE X (.Call (.Name x p) (e :: es) [] pos) (tCall sp dvs E0 t) := by
  obtain ⟨f, fd, ps, ds, F, hm, kp, b, d⟩ := c.ex
  exact pe_call F (hr.mono hk) hg hm kp b d passNo ha hdb he hpl
theorem pe_fX (tk : L2N.Takes X (fun cls d _ H => E cls d H)) (c : Fn X.prog X.w X.K X.mg X.base (CXX X) k x sp dvs) (hr : Room j X.A) (hk : k ≤ j) (hg : Gl X x) (ha : PA X (e :: es) t)
    (hdb : (x == ("__debug__" : Str)) = false := by decide) (he : starEach (e :: es) X.env = (false, eval e X.env) :: starEach es X.env := by rfl) (hpl : (backTo pos (starEach es X.env)).any (·.1) = false := by rfl) :
    PE X (.Call (.Name x p) (e :: es) [] pos) (tCall sp dvs E t) := by
  obtain ⟨f, fd, ps, ds, F, hm, kp, b, d⟩ := c.ex
  exact pe_call F (hr.mono hk) hg hm kp b d (L2N.passes_call tk fun _ _ _ _ h => h) ha hdb he hpl
theorem pe_fS (tk : L2N.Takes X W) (c : Fn X.prog X.w X.K X.mg X.base (CXX X) k x sp []) (hr : Room j X.A) (hk : k ≤ j) (hg : Gl X x) (ha : PA X (e :: es) t)
    (hdb : (x == ("__debug__" : Str)) = false := by decide) (he : starEach (e :: es) X.env = (false, eval e X.env) :: starEach es X.env := by rfl) (hpl : (backTo pos (starEach es X.env)).any (·.1) = false := by rfl) :
    PE X (.Call (.Name x p) (e :: es) [] pos) (tCallS sp (WE W) t) := by
  obtain ⟨f, fd, ps, ds, F, hm, kp, b, d⟩ := c.ex
  cases d
  exact pe_callS F (hr.mono hk) hg hm kp b (fun σ => L2N.passAt tk σ) ha hdb he hpl
theorem pe_mN (c : Mkr X.prog X.w X.K X.mg X.base (CXX X) k x C sp dvs) (hr : Room j X.A) (hk : k + 1 ≤ j) (hg : Gl X x) (ha : PA X (e :: es) t)
    (hdb : (x == ("__debug__" : Str)) = false := by decide) (he : starEach (e :: es) X.env = (false, eval e X.env) :: starEach es X.env := by rfl) (hpl : (backTo pos (starEach es X.env)).any (·.1) = false := by rfl) :
    PE X (.Call (.Name x p) (e :: es) [] pos) (tMake C sp dvs E0 t) := by
  obtain ⟨f, fd, ps, ds, M, F, hm, b, d⟩ := c.ex
  exact pe_make M F (hr.mono hk) hg hm b d passNo ha hdb he hpl
theorem pe_mX (tk : L2N.Takes X (fun cls d _ H => E cls d H)) (c : Mkr X.prog X.w X.K X.mg X.base (CXX X) k x C sp dvs) (hr : Room j X.A) (hk : k + 1 ≤ j) (hg : Gl X x) (ha : PA X (e :: es) t)
    (hdb : (x == ("__debug__" : Str)) = false := by decide) (he : starEach (e :: es) X.env = (false, eval e X.env) :: starEach es X.env := by rfl) (hpl : (backTo pos (starEach es X.env)).any (·.1) = false := by rfl) :
    PE X (.Call (.Name x p) (e :: es) [] pos) (tMake C sp dvs E t) := by
  obtain ⟨f, fd, ps, ds, M, F, hm, b, d⟩ := c.ex
  exact pe_make M F (hr.mono hk) hg hm b d (L2N.passes_call tk fun _ _ _ _ h => h) ha hdb he hpl
theorem pe_oN {pl : Sem Bool} (c : Mt X.prog X.w X.K X.mg X.base (CXX X) k C m sp dvs) (hr : Room j X.A) (hk : k ≤ j) (he : PE X o ta) (ha : PA X (e :: es) t)
    (hst : starEach (e :: es) X.env = (false, eval e X.env) :: starEach es X.env := by rfl) (hpl : (backTo pos (starEach es X.env)).any (·.1) = false := by rfl) (ht : MTree X o m apos pos (e :: es) pl := by rfl) :
    PE X (.Call (.Attribute o m apos) (e :: es) [] pos) (tMeth C m sp dvs E0 ta t) := by
  obtain ⟨f, fd, ps, ds, hc, hm, F, b, d⟩ := c.ex
  exact pe_meth (pl := pl) he hc hm F (hr.mono hk) b d passNo ha hst hpl ht
theorem pe_oX {pl : Sem Bool} (tk : L2N.Takes X (fun cls d _ H => E cls d H)) (c : Mt X.prog X.w X.K X.mg X.base (CXX X) k C m sp dvs) (hr : Room j X.A) (hk : k ≤ j) (he : PE X o ta) (ha : PA X (e :: es) t)
    (hst : starEach (e :: es) X.env = (false, eval e X.env) :: starEach es X.env := by rfl) (hpl : (backTo pos (starEach es X.env)).any (·.1) = false := by rfl) (ht : MTree X o m apos pos (e :: es) pl := by rfl) :
    PE X (.Call (.Attribute o m apos) (e :: es) [] pos) (tMeth C m sp dvs E ta t) := by
  obtain ⟨f, fd, ps, ds, hc, hm, F, b, d⟩ := c.ex
  exact pe_meth (pl := pl) he hc hm F (hr.mono hk) b d (L2N.passes_call tk fun _ _ _ _ h => h) ha hst hpl ht
theorem pe_oS {pl : Sem Bool} (tk : L2N.Takes X W) (c : Mt X.prog X.w X.K X.mg X.base (CXX X) k C m sp []) (hr : Room j X.A) (hk : k ≤ j) (he : PE X o ta) (ha : PA X (e :: es) t)
    (hst : starEach (e :: es) X.env = (false, eval e X.env) :: starEach es X.env := by rfl) (hpl : (backTo pos (starEach es X.env)).any (·.1) = false := by rfl) (ht : MTree X o m apos pos (e :: es) pl := by rfl) :
    PE X (.Call (.Attribute o m apos) (e :: es) [] pos) (tMethW C m sp W ta t) := by
  obtain ⟨f, fd, ps, ds, hc, hm, F, b, d⟩ := c.ex
  cases d
  refine ⟨fun pins s σ H Q I h => PySem.W.methodCall_KW (pl := pl) (thn (he.run pins s σ H _ I h) ?_) ht⟩
  rintro u s1 ⟨x, H1, I1, rx, a, dx, fs, rfl, ea, l, q⟩
  obtain rfl : u = Value.ref a := rx
  refine getmeth_ok I1 ea hc hm l (PySem.W.callWith_K (first := [.ref a]) (h₀ := X.base) I.ok.mod.kin hm.kp (thn (ha.run pos pins s1 σ H1 _ I1 q) ?_) hst hpl)
  rintro us s2 ⟨vs, H2, I2, r, q2⟩
  exact ⟨I2.kIn, run_fnS (us := .ref a :: us) (vs := .ref a :: vs) F (hr.mono hk) b (L2N.passAt tk σ) I2 (.cons rfl r) q2⟩
end
section
variable {P : Program} {w : World} {K : PySem.W.Frag} {mg : Str → Option Value} {base : Heap}
abbrev CXP (P : Program) (w : World) : CXT := L2N.CX P w
theorem Fn.mkX {x : Str} {params : Arguments} {body : List Stmt} {scope : Scope} {f : Addr} {N ps : List Str} {k : Nat} {sp : Sp}
    (F : ∃ fd, FunD K x x params body scope [] [] f fd) (g : mg x = some (.ref f)) (S : FnScope N ps scope)
    (hb : ∀ (kV doc pm : Value) (an : Option Addr) (cdv ct : Value) (us : List Value), us.length = ps.length → bindArgs (PySem.W.fnOf x x params body scope .none kV doc pm an cdv ct) ⟨us, []⟩ = pure (ps.zip us))
    (len : ∀ vs H Q E, sp vs H Q E → vs.length = ps.length)
    (hbody : ∀ (cdv : Value) (A : Around) (outer : List Env) (s : Shared) (H : Hp) (vs : List V) (Q : VK) (E : XK), Room k (A.deeper (envOfC x scope s.heap.objs.size f cdv)) → sp vs H Q E →
      ∃ t, PSs (cxOf (CXP P w) P w K mg base N x scope f cdv A outer s H E) body t ∧ t { nx := fun _ H' => Q .non H', rt := Q } (start N vs) H) : Fn P w K mg base (CXP P w) (k + 1) x sp [] := by
  obtain ⟨fd, F⟩ := F
  exact ⟨f, fd, ps, [], F.ok S len hbody, g, F.kp, F.bindsN hb, .nil⟩
theorem Mt.mkX {m qual : Str} {C : Addr} {params : Arguments} {body : List Stmt} {scope : Scope} {f : Addr} {N ps : List Str} {k : Nat} {sp : Sp}
    (c : Cls K C) (me : Meth K C m f) (F : ∃ fd, FunD K m qual params body scope [] [] f fd) (S : FnScope N ps scope)
    (hb : ∀ (kV doc pm : Value) (an : Option Addr) (cdv ct : Value) (us : List Value), us.length = ps.length → bindArgs (PySem.W.fnOf m qual params body scope .none kV doc pm an cdv ct) ⟨us, []⟩ = pure (ps.zip us))
    (len : ∀ vs H Q E, sp vs H Q E → vs.length = ps.length)
    (hbody : ∀ (cdv : Value) (A : Around) (outer : List Env) (s : Shared) (H : Hp) (vs : List V) (Q : VK) (E : XK), Room k (A.deeper (envOfC qual scope s.heap.objs.size f cdv)) → sp vs H Q E →
      ∃ t, PSs (cxOf (CXP P w) P w K mg base N qual scope f cdv A outer s H E) body t ∧ t { nx := fun _ H' => Q .non H', rt := Q } (start N vs) H) : Mt P w K mg base (CXP P w) (k + 1) C m sp [] := by
  obtain ⟨fd, F⟩ := F
  exact ⟨f, fd, ps, [], c, me, F.ok S len hbody, F.bindsN hb, .nil⟩
theorem Mkr.mkX {x qual : Str} {C : Addr} {params : Arguments} {body : List Stmt} {scope : Scope} {f : Addr} {N ps : List Str} {k : Nat} {sp : Sp} {dvs : List V}
    (n j : Nat) (M : Mk K C f) (g : mg x = some (.ref C)) (F : ∃ fd, FunD K "__init__" qual params body scope dvs [] f fd) (S : FnScope N ps scope) (hd : dvs ≠ []) (hn : n + (dvs.length - j) = ps.length)
    (hb : ∀ (T : Addr) (kV doc pm : Value) (an : Option Addr) (cdv ct : Value) (us its : List Value), us.length = n → its.length = dvs.length →
      ∃ k, bindArgs (PySem.W.fnOf "__init__" qual params body scope (.ref T) kV doc pm an cdv ct) ⟨us, []⟩ = seqItems? (.ref T) >>= k ∧ k (some its.toArray) = pure (ps.zip (us ++ its.drop j)))
    (len : ∀ vs H Q E, sp vs H Q E → vs.length = ps.length)
    (hbody : ∀ (cdv : Value) (A : Around) (outer : List Env) (s : Shared) (H : Hp) (vs : List V) (Q : VK) (E : XK), Room k (A.deeper (envOfC qual scope s.heap.objs.size f cdv)) → sp vs H Q E →
      ∃ t, PSs (cxOf (CXP P w) P w K mg base N qual scope f cdv A outer s H E) body t ∧ t { nx := fun _ H' => Q .non H', rt := Q } (start N vs) H) : Mkr P w K mg base (CXP P w) (k + 1) x C sp (dvs.drop j) := by
  obtain ⟨fd, F⟩ := F
  obtain ⟨ds, hv, hbn⟩ := F.binds1 (ps := ps) n j hd hn hb
  exact ⟨f, fd, ps, ds, M, F.ok S len hbody, g, hbn, hv⟩
theorem Mkr.mkX0 {x qual : Str} {C : Addr} {params : Arguments} {body : List Stmt} {scope : Scope} {f : Addr} {N ps : List Str} {k : Nat} {sp : Sp}
    (M : Mk K C f) (g : mg x = some (.ref C)) (F : ∃ fd, FunD K "__init__" qual params body scope [] [] f fd) (S : FnScope N ps scope)
    (hb : ∀ (kV doc pm : Value) (an : Option Addr) (cdv ct : Value) (us : List Value), us.length = ps.length → bindArgs (PySem.W.fnOf "__init__" qual params body scope .none kV doc pm an cdv ct) ⟨us, []⟩ = pure (ps.zip us))
    (len : ∀ vs H Q E, sp vs H Q E → vs.length = ps.length)
    (hbody : ∀ (cdv : Value) (A : Around) (outer : List Env) (s : Shared) (H : Hp) (vs : List V) (Q : VK) (E : XK), Room k (A.deeper (envOfC qual scope s.heap.objs.size f cdv)) → sp vs H Q E →
      ∃ t, PSs (cxOf (CXP P w) P w K mg base N qual scope f cdv A outer s H E) body t ∧ t { nx := fun _ H' => Q .non H', rt := Q } (start N vs) H) : Mkr P w K mg base (CXP P w) (k + 1) x C sp [] := by
  obtain ⟨fd, F⟩ := F
  exact ⟨f, fd, ps, [], M, F.ok S len hbody, g, F.bindsN hb, .nil⟩
end
end FWN
namespace FWN
open PySem PySem.Spec PyProof.Rows L2 FW
section
variable {X : Cx} {C fI : Addr} {f x : Str}
theorem pmk_err {a : Expr} {ta : TA} {p pos : Pos} {k : Nat} (T : PySem.ErrX.ErrC X.prog X.K C fI f) (hf : ErrF f) (gC : X.mg x = some (.ref C)) (hr : Room k X.A) (ha : PA X [a] ta) (hg : Gl X x) (hdb : (x == ("__debug__" : Str)) = false := by decide)
    (he : starEach (a :: []) X.env = (false, eval a X.env) :: starEach [] X.env := by rfl) (hpl : (backTo pos (starEach [] X.env)).any (·.1) = false := by rfl) :
    L2N.PMk X (.Call (.Name x p) [a] [] pos) (tMkE C f ta) := by
  intro pins s σ H Q I h
  refine wpAny_Call_Name_kw (ld_glob I hg gC ?_ hdb)
  refine PySem.W.callWith_K (h₀ := X.base) I.ok.mod.kin T.kC (thn (ha.run pos pins s σ H _ I h) fun us s1 hh => ?_) he hpl
  obtain ⟨vs, H1, I1, r1, v, ev, q1⟩ := hh
  subst ev
  refine ⟨I1.kIn, ?_⟩
  cases r1 with
  | cons rv rn =>
    rename_i v' us'
    cases rn
    show wpAny _ _ (call (.ref C) [v']) _ _ _
    have hlim := I1.nolimit
    have hG := I1.mod.glob.keeps I1.bk
    obtain ⟨mb, hb1, hb2⟩ := I1.mod.blt
    have hB := hb1.keeps I1.bk
    obtain ⟨hp, g, dr, tk, os⟩ := s1
    refine wpAny_call (PySem.ErrX.err_made T hf I1.kIn hlim hG hB hb2 (by have := hr.dp; omega) fun h' tk' e d M => ?_)
    show L2N.MkP X pins σ Q (.ref e) ⟨h', g, dr, tk', os⟩
    obtain ⟨oe, fv, hoe, hc, hd, hdat, h1, h2⟩ := M.obj
    have hns := M.ns
    obtain ⟨G', g1, g2⟩ := restrict h' fun b => decide (b ≠ e)
    have gk : ∀ b, b ≠ e → G'.get? b = h'.get? b := fun b hb => g1 b (decide_eq_true hb)
    have ge : G'.get? e = none := g2 e (by simp)
    have old : ∀ b o, hp.get? b = some o → G'.get? b = some o := fun b o q => (gk b (Nat.ne_of_lt (Nat.lt_of_lt_of_le (Heap.lt_size q) M.new))).trans (M.keep b o q)
    have ob : ObjOk X.prog X.w (upd H1 d (.xd [(f, v)])) G' d (.xd [(f, v)]) :=
      ⟨_, hns.at (fun o q => (gk d M.dne).trans q), fun f => relO_err rv f⟩
    have J : Inv X pins σ (upd H1 d (.xd [(f, v)])) ⟨G', g, dr, tk', os⟩ := I1.laid (t' := tk') old M.dbig ob
    refine ⟨e, oe, fv, ⟨G', g, dr, tk', os⟩, _, .ref C, some d, rfl, J, fun b o q => ?_, ge, hoe, ⟨hc, hd, fun vs q => by rw [hdat] at q; cases q; exact h2⟩, hdat, h1, ?_, rfl, I1.bare, raises_own T.exC T.tyC, q1 d (I1.hok.fresh M.dbig)⟩
    · by_cases hb : b = e
      · have q' : G'.get? b = some o := q
        rw [hb, ge] at q'; cases q'
      · exact (gk b hb).symm.trans q
    · rw [upd_ne (Ne.symm M.dne)]
      exact I1.hok.fresh M.new
theorem ps_raiseE {a : Expr} {ta : TA} {W : WX} {p pos pos2 : Pos} {k : Nat} (hc : X.calm = true) (T : PySem.ErrX.ErrC X.prog X.K C fI f) (hf : ErrF f) (gC : X.mg x = some (.ref C)) (hr : Room k X.A) (tk : L2N.Takes X W) (ha : PA X [a] ta) (hg : Gl X x) (hdb : (x == ("__debug__" : Str)) = false := by decide)
    (he : starEach (a :: []) X.env = (false, eval a X.env) :: starEach [] X.env := by rfl) (hpl : (backTo pos (starEach [] X.env)).any (·.1) = false := by rfl) :
    PS X (.Raise (some (.Call (.Name x p) [a] [] pos)) none pos2) (tRaiseE C f W ta) := L2N.ps_raise hc tk (pmk_err T hf gC hr ha hg hdb he hpl)
end
end FWN
namespace FWN
open PySem PySem.Spec PyProof.Rows L2 FW LamX
/-! ### lambdas without parameters; what is raised has no context -/
theorem inv_xe {X : Cx} {g : Value → Shared → Prop} {pins : List (Addr × Obj)} {σ : L2.St} {H : Hp} {s : Shared} (I : Inv X pins σ H s) : Inv { X with xe := g } pins σ H s :=
  ⟨⟨I.ok.mod, I.ok.kind, I.ok.glob, I.ok.blt, I.ok.above, I.ok.inj, I.ok.has, I.ok.cab, I.ok.hd, I.ok.frames, I.ok.stk, I.ok.exf, I.ok.bs, I.ok.bsz, I.ok.noex, I.ok.exfs, I.ok.funs, I.ok.frf⟩, I.os, I.bare, I.base, I.loc, I.cell, I.free, I.freeC, I.pin, I.hok, I.len⟩
def lamCxN (X : Cx) (A : Around) (outer : List Env) (s : Shared) (H : Hp) (E : XK) (scope : Scope) (f c' : Addr) : Cx :=
  { lamCx X A outer s H E scope f c' with xe := fun e s' => wpAny (model X.prog X.w) (A.deeper (lamEnv X scope s.heap.objs.size f c')) (leaving (lamEnv X scope s.heap.objs.size f c') e) (fun _ s2 => L2N.CX X.prog X.w outer H s E e s2) (fun e2 s2 => L2N.CX X.prog X.w outer H s E e2 s2) s' }
/-- the def's context in which the lambda is called -/
abbrev defCx (X : Cx) (Ng : List Str) (qg : Str) (sg : Scope) (g : Addr) (cdg : Value) (s : Shared) (H : Hp) (pn : List (Addr × Obj)) (xe : Value → Shared → Prop) : Cx := (cxOf CX0 X.prog X.w X.K X.mg X.base Ng qg sg g cdg X.A X.stack s H E0).tr pn xe
section
variable {X : Cx} {pins : List (Addr × Obj)} {σ : L2.St} {H : Hp} {s : Shared}
theorem pe_actN {Ng : List Str} {qg : Str} {sg : Scope} {g f c' : Addr} {cdg pm ctv : Value} {params : Arguments} {body : Expr} {scope : Scope} {k i : Nat} {a : Str} {pn : List (Addr × Obj)} {xe : Value → Shared → Prop} {W : WX} {E : XK} {tb : TE} {p1 p2 : Pos}
    (I : Inv X pins σ H s) (L : LamS X.env.scope scope) (hf : s.heap.get? f = some (PySem.W.kla_obj "<lambda>" (X.env.qual ++ "<lambda>") params body scope (cloFrom X.env.cells scope.names []) pm c' ctv)) (hfn : H f = none) (hfr : f ∉ frs X.stack)
    (hbind : bindArgs (PySem.W.kla_fn "<lambda>" (X.env.qual ++ "<lambda>") params body scope (cloFrom X.env.cells scope.names []) pm (.ref c') ctv) ⟨[], []⟩ = pure [])
    (tk : L2N.Takes (defCx X Ng qg sg g cdg s H pn xe) W) (hW : ∀ cls d σ' H', E cls d H' → W cls d σ' H') (hr : Room (k + 1) (X.A.deeper (envOfC qg sg s.heap.objs.size g cdg)))
    (hbody : ∀ (A : Around) (outer : List Env) (s : Shared) (H : Hp), Room k (A.deeper (lamEnv X scope s.heap.objs.size f c')) → PE (lamCxN X A outer s H E scope f c') body tb)
    (hN : Ng[i]? = some a) (hv : Vis sg a) (hd : (a == ("__debug__" : Str)) = false) (hcd : (a == ("__classdict__" : Str)) = false) :
    PE (defCx X Ng qg sg g cdg s H pn xe) (.Call (.Name a p1) [] [] p2) (fun σZ HZ Q => σZ[i]? = some (some (.ref f)) ∧ HZ c' = some (CodeO c' (X.env.qual ++ "<lambda>")) ∧ tb σ HZ Q) := by
  refine ⟨?_⟩
  rintro pinsZ sZ σZ HZ Q IZ ⟨es, ec, et⟩
  refine wpAny_Call_Name_kw (thn ((pe_var (pos := p1) (i := i) hN hv hd hcd).run pinsZ sZ σZ HZ (fun v H1 => v = .ref f ∧ H1 = HZ) IZ ⟨.ref f, es, rfl, rfl⟩) ?_)
  rintro u s1 ⟨v, H1, I1, r1, rfl, rfl⟩
  obtain rfl : u = Value.ref f := r1
  have keptF := I1.base.keep f _ hf hfn hfr (fun z => nomatch (show f ∈ ([] : List Addr) from z))
  refine PySem.W.callWith_F0 ⟨_, _, _, _, keptF⟩ (wpAny_call ?_)
  obtain ⟨⟨oc, vs, t, hoc, hdc, hvc⟩, _, _⟩ := I1.hok c' _ ec
  have ran : codeAny (model X.prog X.w) (X.A.deeper (envOfC qg sg s.heap.objs.size g cdg)) (.call (.ref f) ⟨[], []⟩) (CR (L2N.CX X.prog X.w) (envOfC qg sg s.heap.objs.size g cdg :: X.stack) X.prog X.w H1 s1 Q E) s1 := by
    refine PySem.W.kla_callFunE hr.depth keptF rfl L.co L.gen rfl ⟨c', oc, vs, t, rfl, hoc, hdc, hvc⟩ ?_
    rw [hbind]
    refine wpAny_pure (wpAny_newFunctionEnv (fun y hy => (L.own y hy).2) (fun y hy => absurd hy (by simp)) (fun h₁ hns hsb => ⟨I1.nolimit.fresh _ hsb, ?_⟩) L.kind)
    show codeAny _ _ (.expr body (lamEnv X scope s1.heap.objs.size f c')) _ _
    have J0 := lam_start2 (E := E) (f := f) (c' := c') (tk := s1.toks + ([] : List (Str × Value)).length) I L I1.env0 hr.hd I1.base hns (fun b o e => hsb.extBut b o (Nat.ne_of_lt (Heap.lt_size e)) (Heap.get?_push_of_some _ e))
    refine PySem.W.kla_codeExpr (wpAny_mono ((hbody _ _ s1 H1 (hr.deeper _)).run [] _ _ H1 Q (inv_xe J0) et) ?_ fun e s' hq => hq)
    rintro v s' ⟨w', H', J', rv, q⟩
    exact ⟨w', H', J'.os, J'.bare, J'.base, J'.hok, rv, q⟩
  have pass := L2N.passes_call tk hW
  refine codeAny_mono ran fun r s' hq => ?_
  match r, hq with
  | .error e, hq => exact pass pinsZ σZ H1 s1 e s' I1 hq
  | .ok (.ret u), hq => exact I1.after hq
  | .ok .next, hq => exact False.elim hq
  | .ok .brk, hq => exact False.elim hq
  | .ok .cont, hq => exact False.elim hq
/-- the def that calls what it got -/
def GivesToN (X : Cx) (Ng : List Str) (x : Str) (sg : Scope) (g : Addr) (cdg : Value) (bg : List Stmt) (a : Str) (q : Str) (TT : (XK → Hp → VK → Prop) → Hp → VK → Prop) : Prop :=
  ∀ (f c' : Addr) (s : Shared) (H : Hp) (Q : VK) (tl : XK → Hp → VK → Prop) (j : Nat), Room j (X.A.deeper (envOfC x sg s.heap.objs.size g cdg)) →
    (∀ (W : WX) (pn : List (Addr × Obj)) (xe : Value → Shared → Prop) (E : XK) (p1 p2 : Pos), L2N.Takes (defCx X Ng x sg g cdg s H pn xe) W → (∀ cls d σ' H', E cls d H' → W cls d σ' H') →
      PE (defCx X Ng x sg g cdg s H pn xe) (.Call (.Name a p1) [] [] p2) (fun σZ HZ Q => σZ[0]? = some (some (.ref f)) ∧ HZ c' = some (CodeO c' q) ∧ tl E HZ Q)) →
    H c' = some (CodeO c' q) → TT tl H Q → 8 ≤ j →
    ∃ t, PSs (cxOf CX0 X.prog X.w X.K X.mg X.base Ng x sg g cdg X.A X.stack s H E0).nox bg t ∧ t { nx := fun _ H' => Q .non H', rt := Q } (L2.start Ng [.ref f]) H
end
section
variable {X : Cx}
/-- x(lambda: body): the def x by its data -/
theorem pe_lamN {T : List (Addr × Str)} {TT : (XK → Hp → VK → Prop) → Hp → VK → Prop} {x a : Str} {g c P : Addr} {k j : Nat} {pg : Arguments} {bg : List Stmt} {sg : Scope} {Ng : List Str}
    {params : Arguments} {body : Expr} {scope : Scope} {t : XK → TE} {p lpos pos : Pos} (F : ∃ fd, FunD X.K x x pg bg sg [] [] g fd) (hm : X.mg x = some (.ref g)) (hg : Gl X x)
    (hb : ∀ (kV doc pm : Value) (an : Option Addr) (cdv ct : Value) (us : List Value), us.length = [a].length → bindArgs (PySem.W.fnOf x x pg bg sg .none kV doc pm an cdv ct) ⟨us, []⟩ = pure ([a].zip us)) (Sg : FnScope Ng [a] sg) (hNg : Ng[0]? = some a) (hva : Vis sg a)
    (hG : ∀ cdv, GivesToN X Ng x sg g cdv bg a (X.env.qual ++ "<lambda>") TT)
    (TB : TabB X.base X.mg c P) (hcode : X.env.code = .ref c) (hmT : (P, X.env.qual ++ "<lambda>") ∈ T) (hu : ∀ p ∈ T, p.1 = P → p.2 = X.env.qual ++ "<lambda>") (hr : Room j X.A) (hk : k + 2 ≤ j) (hk8 : 10 ≤ j) (L : LamS X.env.scope scope) (hdef : defaultsOf params X.env = ([], []))
    (hbind : ∀ (q : Str) (cl : List (Str × Addr)) (pm cv ctv : Value), bindArgs (PySem.W.kla_fn "<lambda>" q params body scope cl pm cv ctv) ⟨[], []⟩ = pure [])
    (hbody : ∀ (A : Around) (outer : List Env) (s : Shared) (H : Hp) (E : XK) (f c' : Addr), Room k (A.deeper (lamEnv X scope s.heap.objs.size f c')) → PE (lamCxN X A outer s H E scope f c') body (t E))
    (hdb : (x == ("__debug__" : Str)) = false := by decide) (hd : (a == ("__debug__" : Str)) = false := by decide) (hcd : (a == ("__classdict__" : Str)) = false := by decide) :
    PE X (.Call (.Name x p) [.Lambda params body scope lpos] [] pos) (LamX.tLam T TT t) := by
  obtain ⟨fd, F⟩ := F
  have bnd := F.bindsN (ps := [a]) hb
  obtain ⟨oc, od, dV, kV, doc, pm, an, cdv, ct, osl, rfl, lk, hcd', _, _⟩ := F.ex
  refine ⟨?_⟩
  rintro pins s σ H Q I ⟨hT, h⟩
  refine wpAny_Call_Name_kw (ld_glob I hg hm (PySem.W.callWith_K (h₀ := X.base) I.ok.mod.kin F.kp ?_ (by rfl) (by rfl)) hdb)
  show wpAny _ _ (spliced ((false, eval (.Lambda params body scope lpos) X.env) :: backTo pos (starEach [] X.env))) _ _ s
  refine Calls.spliced_cons (lam_make2 I TB hcode hmT hu hT hdef (L.has I.ok) fun f c' pm' ctv H1 s' I1 eN T1 hf hfn hfr hco => Calls.spliced_nil ⟨I1.kIn, wpAny_call ?_⟩)
  have ran : codeAny (model X.prog X.w) X.A (.call (.ref g) ⟨[.ref f], []⟩) (CR CX0 X.stack X.prog X.w H1 s' Q E0) s' := by
    obtain ⟨j', rfl⟩ : ∃ j', j = j' + 1 := ⟨j - 1, by omega⟩
    refine run_ofS (N := Ng) (ps := [a]) (us := [.ref f]) (vs := [.ref f]) lk hcd' Sg hr I1.env0 (bnd s' [.ref f] I1.kIn rfl) (.cons rfl .nil) rfl fun hr' => ?_
    obtain ⟨t', ht', hq'⟩ := hG cdv f c' s' H1 Q (fun E H' Q' => t E σ H' Q') j' hr' (fun W pn xe E p1 p2 tk hW => pe_actN (k := k) (i := 0) I1 L hf hfn hfr (hbind _ _ _ _ _) tk hW (hr'.mono (by omega)) (fun A outer s H hr2 => hbody A outer s H E f c' hr2) hNg hva hd hcd) hco (h H1 eN T1) (by omega)
    exact ⟨t', ht'.nox, hq'⟩
  refine codeAny_mono ran fun r s2 hq => ?_
  match r, hq with
  | .error e, hq => exact (show False from hq).elim
  | .ok (.ret u), hq => exact I1.after hq
  | .ok .next, hq => exact False.elim hq
  | .ok .brk, hq => exact False.elim hq
  | .ok .cont, hq => exact False.elim hq
end
theorem takes_len {X : Cx} {W : WX} {n : Nat} (h : X.N.length = n) (t : L2N.Takes X W) : L2N.Takes X (wLen n W) := fun u s' ⟨a, B, sI, pins, σ, H, cls, d, e, I, nb, up, sky, na, os, ag, w⟩ =>
  t u s' ⟨a, B, sI, pins, σ, H, cls, d, e, I, nb, up, sky, na, os, ag, w (I.len.trans h)⟩
end FWN
namespace FW
open PySem PySem.Spec PyProof.Rows L2 L2H HotX PySem.W PySem.Calls
/-! ### isinstance of a held exception, with or without a dict -/
section
variable {prog : Program} {w : World} {A : Around} {E : Value → Shared → Prop} {s : Shared} {K : Frag} {x D : Addr} {ox : Obj} {od : Option Obj}
theorem exc_class {Q : Option Value → Shared → Prop} (T : ExcC K D) (X : K.In s.heap) (I : InstAt s.heap x ox D od) (h : Q (some (.ref D)) { s with toks := s.toks + 1 }) : wpAny (model prog w) A (getAttr? (.ref x) "__class__") Q E s := by
  have fo : findObj K D od "__class__" = some (.bind (.builtin "getset_descriptor.__get__") (.builtin "object.__class__")) := by
    obtain ⟨cd, hc, _⟩ := any_some T.hd
    unfold findObj
    rw [hc, Option.bind_some, T.ha, Option.bind_some]
    simp [T.hn, T.ht]
  obtain ⟨hp, g, d, t, os⟩ := s
  have lt := I.type (M := model prog w)
  have lf := looks_find (M := model prog w) X I fo
  have isB : Looks (model prog w) hp (isInstance (.ref x) (.type "BaseException")) true := lt.andThen (looks_subIn X T.hs)
  have no : (onTheHeap (Value.ref D) && Value.builtin "BaseException.__getattribute__" == Value.builtin "object.__getattribute__") = false := by
    rw [show (Value.builtin "BaseException.__getattribute__" == Value.builtin "object.__getattribute__") = false by decide +kernel]; rfl
  unfold getAttr? getAttrBy? getAttrBy
  refine wpAny_bind (wpAny_mkText (wpAny_bind (wpAny_attempt (wpAny_holding (wpAny_bind (lt.at (wpAny_bind ((looks_findIn (M := model prog w) X T.hg).at ?_))))))))
  show wpAny _ _ (if (onTheHeap (Value.ref D) && Value.builtin "BaseException.__getattribute__" == Value.builtin "object.__getattribute__") = true then _ else _) _ _ _
  rw [no, if_neg Bool.false_ne_true]
  unfold getAttrByItsOwn hookBefore
  refine wpAny_bind ?_
  rw [if_pos (show onTheHeap (Value.ref D) = true from rfl)]
  refine (looks_findIn (M := model prog w) X T.hk).at (wpAny_bind (wpAny_attempt (wpAny_holding ?_)))
  unfold callGetattribute
  rw [if_neg (show ¬ (false && onTheHeap (Value.builtin "BaseException.__getattribute__")) = true from Bool.false_ne_true)]
  unfold boundAndCalled
  rw [PySem.F.excAttr_ValueError.ga.bind (.ref x)]
  refine wpAny_bind (wpAny_pure ?_)
  show wpAny _ _ (call (.builtin "BaseException.__getattribute__") [.ref x, .str "__class__" t]) _ _ _
  refine wpAny_call (codeAny_call_builtin PySem.F.excAttr_ValueError.ga.plain PySem.F.entry_bexc_ga (@check_slot (model prog w) _ _ ⟨hp, g, d, t + 1, os⟩ "BaseException.__getattribute__" "BaseException" "__getattribute__" (.ref x) [.str "__class__" t] [] _ (by decide +kernel) (by decide +kernel) isB (PySem.F.args_bexc_ga (.ref x) (.str "__class__" t)) ?_))
  unfold Builtin.«object.__getattribute__»
  refine wpAny_bind (wpAny_of_eq (a := ((Value.ref x : Value), [Value.str "__class__" t])) (by first | rfl | (simp only [slotArgs]; rfl)) (wpAny_bind (wpAny_pure (wpAny_bind (lt.at (wpAny_bind (lf.at ?_)))))))
  show wpAny _ _ (holding [Value.builtin "object.__class__"] (call (.builtin "getset_descriptor.__get__") [.builtin "object.__class__", .ref x, .ref D]) >>= ret) _ _ _
  refine wpAny_bind (wpAny_holding (wpAny_call (class_get (s := ⟨hp, g, d, t + 1, os⟩) (ox := ox) (od := od) X I T.hm (wpAny_pure ?_))))
  show wpAny _ _ (handedOut (.ref D)) _ _ _
  rw [handedOut_of (v := .ref D) rfl]
  first
    | exact wpAny_pure (wpAny_pure h)
    | exact wpAny_pure h
    | exact wpAny_pure (wpAny_bind (wpAny_pure (wpAny_pure h)))
theorem kitx_exc (T : ExcC K D) : KitX K (.ref x) (.ref D) (fun h => InstAt h x ox D od) where
  ty := fun _ _ _ I => I.type
  it := fun M h X _ => by
    obtain ⟨cd, hc, _⟩ := any_some T.hd
    unfold clsIn at hc
    split at hc
    · rename_i c2 d2 cd2 sl2 ho
      intro A2 Q2 E2 s2 kk q
      unfold isType loadHead
      exact wpAny_bind (wpAny_loadPart (kk _ _ (X _ _ ho)) (wpAny_pure q))
    · cases hc
  ne := (handS_kitx_exc (x := x) (ox := ox) T.hg T.hk T.hs T.hd T.ha T.hn T.ht T.hm).ne
  ca := fun X I k => exc_class T X I k
end
/-- the context holds an exception that is handled: at a, of class cls, with the dict d -/
structure HX (Y : Cx) (a : Addr) (oe : Obj) (cls : Value) (d : Option Addr) : Prop where
  mem : (a, oe) ∈ Y.pn
  hh : Y.A.handled = some (.ref a)
  z : L2N.Zn cls d oe
  fl : ∃ vs, oe.data = .fields vs
theorem HX.hot1 {Y : Cx} {a : Addr} {oe : Obj} {cls : Value} {d : Option Addr} (h : HX Y a oe cls d) : Hot1 Y.A (a, oe) := by
  obtain ⟨vs, e⟩ := h.fl
  exact ⟨h.hh, vs, e, h.z.2.2 vs e⟩
theorem HX.hot {Y : Cx} {a : Addr} {oe : Obj} {cls : Value} {d : Option Addr} (h : HX Y a oe cls d) : HotC Y := ⟨_, h.hot1, h.mem⟩
/-- its dict, if it has one, is tracked -/
def DX (d : Option Addr) (H : Hp) : Prop := d = none ∨ ∃ dd fs, d = some dd ∧ H dd = some (.xd fs)
theorem HX.inst {Y : Cx} {a D : Addr} {oe : Obj} {d : Option Addr} {pins : List (Addr × Obj)} {σ : L2.St} {H : Hp} {s : Shared} (h : HX Y a oe (.ref D) d) (dx : DX d H) (I : Inv Y pins σ H s) : ∃ od, InstAt s.heap a oe D od := by
  have g := (I.pin (a, oe) (List.mem_append_left _ h.mem)).1
  obtain ⟨vs, e⟩ := h.fl
  have no : notCls oe = true := by unfold notCls; rw [e] <;> rfl
  rcases dx with rfl | ⟨dd, fs, rfl, hd⟩
  · exact ⟨none, g, h.z.1, no, by rw [h.z.2.1]; trivial⟩
  · obtain ⟨mA, hns, hr⟩ := (show ObjOk Y.prog Y.w H s.heap dd (.xd fs) from I.hok dd _ hd)
    obtain ⟨od, ho, _⟩ := lookIn_ns hns
    exact ⟨some od, g, h.z.1, no, by rw [h.z.2.1]; exact ho⟩
def rIsX (K : Frag) (a : Addr) (cls : Value) (d : Option Addr) : List V → Hp → VK → Prop := fun xs H Q => ∃ (D : Addr) (c : V) (u : Value) (b : Bool), cls = .ref D ∧ ExcC K D ∧ DX d H ∧ xs = [.ref a, c] ∧ ClsV c u ∧ kitOne K cls u = some b ∧ Q (.bl b) H
def rIsXT (K : Frag) (a : Addr) (cls : Value) (d : Option Addr) : List V → Hp → VK → Prop := fun xs H Q => ∃ (D : Addr) (tp : Addr) (cs : List V) (us : List Value) (b : Bool), cls = .ref D ∧ ExcC K D ∧ DX d H ∧ xs = [.ref a, .ref tp] ∧ H tp = some (.tup cs) ∧ Paired ClsV cs us ∧ kitAny K cls us = some b ∧ Q (.bl b) H
section
variable {Y : Cx} {a : Addr} {oe : Obj} {cls : Value} {d : Option Addr}
theorem call_isX (h : HX Y a oe cls d) : CallR Y (.builtin "isinstance") (rIsX Y.K a cls d) := by
  rintro pins s σ H xs us Q I r ⟨D, c, u, b, rfl, T, dx, rfl, k, e, q⟩
  obtain ⟨u1, u2, rfl, r1, r2⟩ := vals2 r
  obtain rfl : u1 = Value.ref a := r1
  obtain rfl := k.eq r2
  obtain ⟨od, J⟩ := h.inst dx I
  exact kia_one (kitx_exc T) I.kIn J e (fun z => nomatch z) fun tk => ⟨.bl b, H, I.tok tk, rfl, q⟩
theorem call_isXT (h : HX Y a oe cls d) : CallR Y (.builtin "isinstance") (rIsXT Y.K a cls d) := by
  rintro pins s σ H xs us Q I r ⟨D, tp, cs, ws, b, rfl, T, dx, rfl, et, k, e, q⟩
  obtain ⟨u1, u2, rfl, r1, r2⟩ := vals2 r
  obtain rfl : u1 = Value.ref a := r1
  obtain rfl : u2 = Value.ref tp := r2
  obtain ⟨od, J⟩ := h.inst dx I
  obtain ⟨_, its, rv, o, ho, hc, n, hdat⟩ := (show ObjOk Y.prog Y.w H s.heap tp (.tup cs) from I.hok tp _ et)
  have ei := ClsV.all k rv
  subst ei
  obtain ⟨oc, odd, odt, osl⟩ := o
  have hc : oc = .type "tuple" := hc
  have hdat : odt = .seq its.toArray n := hdat
  subst hc hdat
  exact kia_tup (kitx_exc T) I.kIn J ho e (fun z => nomatch z) fun tk => ⟨.bl b, H, I.tok tk, rfl, q⟩
/-- what reading a field of an own error asks -/
structure ErrG (K : Frag) (C : Addr) (f : Str) : Prop where
  ga : findIn K (.ref C) "__getattribute__" = some (some (.builtin "BaseException.__getattribute__"))
  gg : findIn K (.ref C) "__getattr__" = some none
  ex : subIn K (.ref C) (.type "BaseException") = some true
  hd : hasDictIn K C = true
  no : findIn K (.ref C) f = some none
theorem ErrG.of {prog : Program} {K : Frag} {C fI : Addr} {f : Str} (T : PySem.ErrX.ErrC prog K C fI f) : ErrG K C f := ⟨T.ga, T.gg, T.exC, T.hdC, T.noN⟩
def tByX (K : Frag) (f : Str) (a : Addr) (cls : Value) (d : Option Addr) (te : TE) : TE := fun σ H Q => te σ H fun x H1 => x = .ref a ∧ ∃ (C dd : Addr) (v : V), cls = .ref C ∧ ErrG K C f ∧ d = some dd ∧ H1 dd = some (.xd [(f, v)]) ∧ Q v H1
theorem pe_byX {e : Expr} {te : TE} {f : Str} {pos : Pos} (h : HX Y a oe cls d) (he : PE Y e te) (hb : attributeBase e f Y.env (eval e Y.env) = eval e Y.env := by rfl) : PE Y (.Attribute e f pos) (tByX Y.K f a cls d te) := by
  refine ⟨fun pins s σ H Q I hq => attr_of hb (thn (he.run pins s σ H _ I hq) ?_)⟩
  rintro u s1 ⟨x, H1, I1, rx, rfl, C, dd, v, rfl, T, rfl, ed, q⟩
  obtain rfl : u = Value.ref a := rx
  have g := (I1.pin (a, oe) (List.mem_append_left _ h.mem)).1
  obtain ⟨vs, hd⟩ := h.fl
  obtain ⟨mA, hns, hr⟩ := (show ObjOk Y.prog Y.w H1 s1.heap dd (.xd [(f, v)]) from I1.hok dd _ ed)
  obtain ⟨od, ho, hl⟩ := lookIn_ns hns
  obtain ⟨u, hu, ru⟩ := RelO.some_of (v := v) (o := mA f) (by rw [← show List.lookup f [(f, v)] = some v by simp [List.lookup]]; exact hr f)
  have J : InstAt s1.heap a oe C (some od) := ⟨g, h.z.1, by unfold notCls; rw [hd] <;> rfl, by rw [h.z.2.1]; exact ho⟩
  exact HandSPX.exc_get I1.kIn J T.ga T.gg T.ex (findObj_own T.hd T.no rfl (by rw [hl, hu])) (handed_of ru) ⟨v, H1, I1.tok _, ru, q⟩
end
/-! ### a def called with the held exception -/
section
variable {P : Program} {w : World} {K : Frag} {mg : Str → Option Value} {base : Heap}
theorem run_ofX {k : Nat} {f : Addr} {name qual : Str} {params : Arguments} {body : List Stmt} {scope : Scope} {dV kV doc pm cdv ct oc : Value} {an od : Option Addr} {osl : Array (Option Value)} {N ps : List Str}
    (lk : K.lookup f = some ⟨oc, od, .func (fnOf name qual params body scope dV kV doc pm an cdv ct), osl⟩) (hcd : codeIn K cdv qual = true) (S : FnScope N ps scope) {A : Around} {outer : List Env} {s : Shared} {H : Hp} {args : Args} {us : List Value} {vs : List V} {Q : VK} {p : Addr × Obj}
    (hr : RoomH (k + 1) A) (hp : PinOk outer H s p) (e0 : Env0 P w K mg base A outer s H) (hb : BindsTo s (fnOf name qual params body scope dV kV doc pm an cdv ct) args (ps.zip us)) (r : Vals vs us) (hl : vs.length = ps.length)
    (hbody : RoomH k (A.deeper (envOfC qual scope s.heap.objs.size f cdv)) → ∃ t, PSs (cxH CX0 P w K mg base N qual scope f cdv A outer s H E0 p) body t ∧ t { nx := fun _ H' => Q .non H', rt := Q } (L2.start N vs) H) :
    codeAny (model P w) A (.call (.ref f) args) (CR CX0 outer P w H s Q E0) s := by
  have kin : K.In s.heap := e0.mod.kin.keeps fun b o e => (e0.bs b o e).1
  have lim : s.heap.NoLimit := e0.mod.nolimit.keeps fun b o e => (e0.bs b o e).1
  refine codeAny_call_function hr.depth (kin _ _ lk) rfl S.co S.gen rfl (codeRec_of kin hcd) (hb _ _ _ _ (wpAny_newFunctionEnv_cells S.kind (fun ⟨n, v⟩ hy => ?_) fun env he s1 x => ?_))
  · rcases S.par n (List.of_mem_zip hy).1 with q | q
    · exact .inl q
    · exact .inr ⟨q, cellsFrom_some _ _ _ (.inl q)⟩
  · subst he
    refine ⟨lim.keeps x.toInCall.keep, codeAny_func ?_⟩
    obtain ⟨t, ht, hq⟩ := hbody (hr.deeper _)
    refine wpAny_mono (ht.run [] s1 (L2.start N vs) H _ (inv_startH S hp e0 hl r x) hq) (fun fl s' hs => ?_) fun e s' hs => hs
    match fl, hs with
    | .ret u, ⟨v, σ', H', J, rv, q⟩ => exact ⟨v, H', J.os, J.bare, J.base, J.hok, rv, q⟩
    | .next, ⟨σ', H', J, q⟩ => exact ⟨V.non, H', J.os, J.bare, J.base, J.hok, rfl, q⟩
    | .brk, ⟨_, _, _, q⟩ => exact False.elim q
    | .cont, ⟨_, _, _, q⟩ => exact False.elim q
theorem hx_cxH {N : List Str} {qual : Str} {scope : Scope} {f : Addr} {cd : Value} {A : Around} {outer : List Env} {s : Shared} {H : Hp} {a : Addr} {oe : Obj} {cls : Value} {d : Option Addr} (hh : A.handled = some (.ref a)) (z : L2N.Zn cls d oe) (fl : ∃ vs, oe.data = .fields vs) :
    HX (cxH CX0 P w K mg base N qual scope f cd A outer s H E0 (a, oe)) a oe cls d := ⟨List.mem_singleton.mpr rfl, hh, z, fl⟩
end
section
variable {Y : Cx} {a : Addr} {oe : Obj} {cls : Value} {d : Option Addr}
/-- x(e), e the held exception: the def's reading itself -/
def tCallX (a : Addr) (N : List Str) (t : TS) (te : TE) : TE := fun σ H Q => te σ H fun v H1 => v = .ref a ∧ t { nx := fun _ H' => Q .non H', rt := Q } (L2.start N [.ref a]) H1
theorem pe_callX {x pn : Str} {params : Arguments} {body : List Stmt} {scope : Scope} {f : Addr} {N : List Str} {k : Nat} {t : TS} {te : TE} {e : Expr} {q pos : Pos} (h : HX Y a oe cls d) (F : ∃ fd, FunD Y.K x x params body scope [] [] f fd) (hm : Y.mg x = some (.ref f)) (hg : Gl Y x) (S : FnScope N [pn] scope)
    (hb : ∀ (kV doc pm : Value) (an : Option Addr) (cdv ct : Value) (us : List Value), us.length = [pn].length → bindArgs (fnOf x x params body scope .none kV doc pm an cdv ct) ⟨us, []⟩ = pure ([pn].zip us))
    (hr : RoomH (k + 1) Y.A) (he : PE Y e te)
    (hbody : ∀ (cdv : Value) (s : Shared) (H : Hp), RoomH k (Y.A.deeper (envOfC x scope s.heap.objs.size f cdv)) → PSs (cxH CX0 Y.prog Y.w Y.K Y.mg Y.base N x scope f cdv Y.A Y.stack s H E0 (a, oe)) body t)
    (hdb : (x == ("__debug__" : Str)) = false := by decide) (hs : starEach [e] Y.env = (false, eval e Y.env) :: starEach [] Y.env := by rfl) (hpl : (backTo pos (starEach [] Y.env)).any (·.1) = false := by rfl) :
    PE Y (.Call (.Name x q) [e] [] pos) (tCallX a N t te) := by
  obtain ⟨fd, F⟩ := F
  have bnd := F.bindsN (ps := [pn]) hb
  obtain ⟨oc, od, dV, kV, doc, pm, an, cdv, ct, osl, rfl, lk, hcd', _, _⟩ := F.ex
  refine ⟨fun pins s σ H Q I hq => wpAny_Call_Name_kw (ld_glob I hg hm (callWith_K (h₀ := Y.base) I.ok.mod.kin F.kp (thn ((pa_cons he pa_nil hs).run pos pins s σ H (fun vs H1 => vs = [.ref a] ∧ t { nx := fun _ H' => Q .non H', rt := Q } (L2.start N [.ref a]) H1) I ?_) ?_) hs hpl) hdb)⟩
  · show te σ H _
    refine (show te σ H _ = te σ H _ from congrArg (te σ H) ?_) ▸ hq
    funext v H1
    simp [tNil]
  · rintro us s1 ⟨vs, H1, I1, r1, rfl, q1⟩
    have P1 := I1.pin (a, oe) (List.mem_append_left _ h.mem)
    refine ⟨I1.kIn, wpAny_call (codeAny_mono (run_ofX (k := k) (N := N) (ps := [pn]) (p := (a, oe)) (vs := [.ref a]) (us := us) lk hcd' S hr ⟨P1.1, P1.2.1, fun m => (List.mem_cons.mp (I1.stkSub a m)).elim P1.2.2.1 P1.2.2.2.1, P1.2.2.2.2⟩ I1.env0 (by have b := bnd s1 us I1.kIn (by rw [List.append_nil, ← r1.length]; rfl); rw [List.append_nil] at b; exact b) r1 rfl fun hr' => ⟨t, hbody cdv s1 H1 hr', q1⟩) fun r s2 hq2 => ?_)⟩
    match r, hq2 with
    | .error e, hq2 => exact (show False from hq2).elim
    | .ok (.ret u), hq2 => exact I1.after hq2
    | .ok .next, hq2 => exact False.elim hq2
    | .ok .brk, hq2 => exact False.elim hq2
    | .ok .cont, hq2 => exact False.elim hq2
end
end FW
namespace FW
open PySem PySem.Spec PyProof.Rows L2 L2H HotX PySem.W PySem.Calls
theorem roomS {j k : Nat} {A : Around} {v : Option Value} (r : Room j A) (h : k ≤ j) : RoomH k (A.mark v) := ⟨(r.mono h).dp, (r.mono h).un⟩
theorem hx_suite {X : Cx} {a : Addr} {oe : Obj} {cls : Value} {d : Option Addr} {pn : List (Addr × Obj)} (z : L2N.Zn cls d oe) (fl : ∃ vs, oe.data = .fields vs) : HX (X.suite a ((a, oe) :: pn)) a oe cls d := ⟨List.mem_cons_self, rfl, z, fl⟩
abbrev rJoin (K : Frag) : V → List V → Hp → VK → Prop := fun x xs H Q => ∃ a p, ∃ ys : List Str, x = .str a ∧ xs = [.ref p] ∧ (SqL K H p (ys.map V.str) ∨ SqT K H p (ys.map V.str)) ∧ (ys.map (·.length)).sum + ys.length * a.length ≤ 16777216 ∧ Q (.str (Txt.join a ys)) H
/-- what the head looks at of an error's class, for isinstance -/
def excB (K : Frag) (x : Str) : Bool := ([He.eqO (findIn K (.ref (He.ga K x)) "__getattribute__") (some (some (.builtin "BaseException.__getattribute__"))), He.eqO (findIn K (.ref (He.ga K x)) "__getattr__") (some none), decide (subIn K (.ref (He.ga K x)) (.type "BaseException") = some true), hasDictIn K (He.ga K x),
  He.eqO (findIn K (.ref (He.ga K x)) "__class__") (some (some (.builtin "object.__class__"))), He.eqO (specialIn K (.builtin "object.__class__") "__get__") (some (some (.builtin "getset_descriptor.__get__"))), decide (takesIn K (.builtin "object.__class__") = some true), decide (mroIn K (He.ga K x) (.type "object") = some true)] : List Bool).all id
theorem excB_ok {K : Frag} {x : Str} (h : excB K x = true) : ExcC K (He.ga K x) := by
  unfold excB at h
  simp only [List.all_cons, List.all_nil, id, Bool.and_true, Bool.and_eq_true] at h
  obtain ⟨h1, h2, h3, h4, h5, h6, h7, h8⟩ := h
  exact ⟨He.eqO_ok h1, He.eqO_ok h2, of_decide_eq_true h3, h4, He.eqO_ok h5, He.eqO_ok h6, of_decide_eq_true h7, of_decide_eq_true h8⟩
theorem DX.ext {d : Option Addr} {H H' : Hp} (h : DX d H) (e : Ext H H') : DX d H' := h.imp id fun ⟨dd, fs, a, b⟩ => ⟨dd, fs, a, e _ _ b⟩
theorem pss_hx {Y : Cx} {a : Addr} {oe : Obj} {cls : Value} {d : Option Addr} {body : List Stmt} {t : TS} (h : HX Y a oe cls d) (k : HX Y a oe cls d → PSs Y body t) : PSs Y body t := k h
theorem pe_gref {X : Cx} {x : Str} {a : Addr} {pos : Pos} (hg : Gl X x) (hm : X.mg x = some (.ref a)) (hd : (x == ("__debug__" : Str)) = false := by decide) : PE X (.Name x pos) (tC (.ref a)) := pe_glob hg hm rfl hd
end FW
namespace FWL
open PySem PySem.Spec PyProof.Rows L2 FW
def top (i : Nat) : Stmt := PySem.Challenge.pw_floorward_k26_errors_made.main.body.getD i (.Pass ⟨0, 0, 0, 0⟩)
def clsBody : Stmt → List Stmt | .ClassDef (body := b) .. => b | _ => []
def meth (i j : Nat) : Stmt := (clsBody (top i)).getD j (.Pass ⟨0, 0, 0, 0⟩)
abbrev st_l_kinds : Stmt := FWL.top 17
abbrev N_l_kinds : List Str := ["_law_e", "_law_found"]
theorem sc_l_kinds : FnScope N_l_kinds ["_law_e"] (defScope st_l_kinds) := ⟨rfl, rfl, rfl, by decide +kernel, rfl, by decide +kernel, by decide +kernel⟩
abbrev st_l_kept : Stmt := FWL.top 18
abbrev N_l_kept : List Str := ["_law_thing", "_law_found"]
theorem sc_l_kept : FnScope N_l_kept ["_law_thing"] (defScope st_l_kept) := ⟨rfl, rfl, rfl, by decide +kernel, rfl, by decide +kernel, by decide +kernel⟩
abbrev st_law : Stmt := FWL.top 19
abbrev N_law : List Str := ["_law_script", "_law_made", "_law_k", "_law_e", "_law_j", "_law_cell", "_law_thing"]
theorem sc_law : FnScope N_law ["_law_script"] (defScope st_law) := ⟨rfl, rfl, rfl, by decide +kernel, rfl, by decide +kernel, by decide +kernel⟩
abbrev st_BadBeginning_init : Stmt := FWL.meth 8 0
abbrev st_BadBracket_init : Stmt := FWL.meth 10 0
abbrev st_BadField_init : Stmt := FWL.meth 6 0
abbrev st_BadGuesses_init : Stmt := FWL.meth 7 0
abbrev st_BadKind_init : Stmt := FWL.meth 11 0
abbrev st_BadLoop_init : Stmt := FWL.meth 4 0
abbrev st_BadNumber_init : Stmt := FWL.meth 2 0
abbrev st_BadPower_init : Stmt := FWL.meth 3 0
abbrev st_BadSought_init : Stmt := FWL.meth 9 0
abbrev st_BadStart_init : Stmt := FWL.meth 5 0
abbrev st_BadText_init : Stmt := FWL.meth 12 0
abbrev st_NoGuess_init : Stmt := FWL.meth 15 0
abbrev st_UnlikePowers_init : Stmt := FWL.meth 13 0
abbrev st_UnlikeSteps_init : Stmt := FWL.meth 14 0
open PySem.W PySem.HandSPX PySem.ErrX in
def errB0z (K : Frag) (file x : Str) : Bool := ([clsE K (He.ga K x), He.eqO (findIn K (.ref (He.ga K x)) "__init__") (some (some (.ref (He.ma K (He.ga K x) "__init__")))), decide (typeIn K (.ref (He.ma K (He.ga K x) "__init__")) = some (.type "function")),
  keepIn K (.ref (He.ga K x)), decide (subIn K (.ref (He.ga K x)) (.type "BaseException") = some true), decide (subIn K (.ref (He.ga K x)) (.type "ValueError") = some true), decide (typeIn K (.ref (He.ga K x)) = some (.type "type")), decide (mroIn K (He.ga K x) (.ref (He.ga K x)) = some true),
  He.eqO (nsIn K mainGlobals "super") (some none), He.eqO (nsIn K cStatics "thirdparty.any") (some none), He.eqO (ks_superIn K (He.ga K x) (He.ga K x) "__init__") (some (some (.builtin "ValueError.__init__"))), codeE K file x] : List Bool).all id
def fn : List He.DefD := [⟨("_law_kinds", none), "_law_kinds", "_law_kinds", defArgs st_l_kinds, defBody st_l_kinds, defScope st_l_kinds, [], []⟩,
  ⟨("_law_kept", none), "_law_kept", "_law_kept", defArgs st_l_kept, defBody st_l_kept, defScope st_l_kept, [], []⟩,
  ⟨("law", none), "law", "law", defArgs st_law, defBody st_law, defScope st_law, [], []⟩]
def fa : List He.Fa := [.free "ValueError", .free "enumerate", .free "int", .free "isinstance", .free "len", .free "list", .free "range", .free "str", .glo "BadBeginning", .glo "BadBracket", .glo "BadField", .glo "BadGuesses", .glo "BadKind", .glo "BadLoop", .glo "BadNumber", .glo "BadPower", .glo "BadSought", .glo "BadStart", .glo "BadText", .glo "FloorError", .glo "NoGuess", .glo "UnlikePowers", .glo "UnlikeSteps", .glo "_law_kinds", .glo "_law_kept", .glo "law"]
def ex (K : PySem.W.Frag) : Bool := ([errB K PySem.Challenge.pw_floorward_k26_errors_made.main.file "BadBeginning" "word", errB0z K PySem.Challenge.pw_floorward_k26_errors_made.main.file "BadBracket", errB K PySem.Challenge.pw_floorward_k26_errors_made.main.file "BadField" "field", errB0z K PySem.Challenge.pw_floorward_k26_errors_made.main.file "BadGuesses", errB K PySem.Challenge.pw_floorward_k26_errors_made.main.file "BadKind" "value", errB K PySem.Challenge.pw_floorward_k26_errors_made.main.file "BadLoop" "word", errB K PySem.Challenge.pw_floorward_k26_errors_made.main.file "BadNumber" "value", errB K PySem.Challenge.pw_floorward_k26_errors_made.main.file "BadPower" "value", errB K PySem.Challenge.pw_floorward_k26_errors_made.main.file "BadSought" "word", errB K PySem.Challenge.pw_floorward_k26_errors_made.main.file "BadStart" "value", errB0z K PySem.Challenge.pw_floorward_k26_errors_made.main.file "BadText", errB0z K PySem.Challenge.pw_floorward_k26_errors_made.main.file "NoGuess", errB0z K PySem.Challenge.pw_floorward_k26_errors_made.main.file "UnlikePowers", errB0z K PySem.Challenge.pw_floorward_k26_errors_made.main.file "UnlikeSteps", PySem.W.excIn K (He.ga K "FloorError") [.type "ValueError", .type "Exception", .type "BaseException", .type "object"] "ValueError.__new__", PySem.W.keepIn K (.ref (He.ga K "FloorError")), (["FloorError", "BadNumber", "BadPower", "BadLoop", "BadStart", "BadField", "BadGuesses", "BadBeginning", "BadSought", "BadBracket", "BadKind", "BadText", "UnlikePowers", "UnlikeSteps", "NoGuess"] : List Str).all (FW.excB K), ((["FloorError", "BadNumber", "BadPower", "BadLoop", "BadStart", "BadField", "BadGuesses", "BadBeginning", "BadSought", "BadBracket", "BadKind", "BadText", "UnlikePowers", "UnlikeSteps", "NoGuess"] : List Str).all fun x => (["FloorError", "BadNumber", "BadPower", "BadLoop", "BadStart", "BadField", "BadGuesses", "BadBeginning", "BadSought", "BadBracket", "BadKind", "BadText", "UnlikePowers", "UnlikeSteps", "NoGuess"] : List Str).all fun y => decide (PySem.W.kitOne K (.ref (He.ga K x))  (.ref (He.ga K y)) = some (decide (x = y ∨ y = "FloorError")))), ((["FloorError", "BadNumber", "BadPower", "BadLoop", "BadStart", "BadField", "BadGuesses", "BadBeginning", "BadSought", "BadBracket", "BadKind", "BadText", "UnlikePowers", "UnlikeSteps", "NoGuess"] : List Str).all fun x => decide (PySem.W.kitOne K (.ref (He.ga K x))  (.type "ValueError") = some true))] : List Bool).all id
abbrev R : PySem.W.OpenRow := PySem.W.OpenLaw.row PySem.Challenge.rw_floorward_k26_errors_made
def er : List FW.ErrD := [⟨"BadBeginning", "BadBeginning.__init__", defArgs st_BadBeginning_init, defBody st_BadBeginning_init, defScope st_BadBeginning_init⟩,
  ⟨"BadBracket", "BadBracket.__init__", defArgs st_BadBracket_init, defBody st_BadBracket_init, defScope st_BadBracket_init⟩,
  ⟨"BadField", "BadField.__init__", defArgs st_BadField_init, defBody st_BadField_init, defScope st_BadField_init⟩,
  ⟨"BadGuesses", "BadGuesses.__init__", defArgs st_BadGuesses_init, defBody st_BadGuesses_init, defScope st_BadGuesses_init⟩,
  ⟨"BadKind", "BadKind.__init__", defArgs st_BadKind_init, defBody st_BadKind_init, defScope st_BadKind_init⟩,
  ⟨"BadLoop", "BadLoop.__init__", defArgs st_BadLoop_init, defBody st_BadLoop_init, defScope st_BadLoop_init⟩,
  ⟨"BadNumber", "BadNumber.__init__", defArgs st_BadNumber_init, defBody st_BadNumber_init, defScope st_BadNumber_init⟩,
  ⟨"BadPower", "BadPower.__init__", defArgs st_BadPower_init, defBody st_BadPower_init, defScope st_BadPower_init⟩,
  ⟨"BadSought", "BadSought.__init__", defArgs st_BadSought_init, defBody st_BadSought_init, defScope st_BadSought_init⟩,
  ⟨"BadStart", "BadStart.__init__", defArgs st_BadStart_init, defBody st_BadStart_init, defScope st_BadStart_init⟩,
  ⟨"BadText", "BadText.__init__", defArgs st_BadText_init, defBody st_BadText_init, defScope st_BadText_init⟩,
  ⟨"NoGuess", "NoGuess.__init__", defArgs st_NoGuess_init, defBody st_NoGuess_init, defScope st_NoGuess_init⟩,
  ⟨"UnlikePowers", "UnlikePowers.__init__", defArgs st_UnlikePowers_init, defBody st_UnlikePowers_init, defScope st_UnlikePowers_init⟩,
  ⟨"UnlikeSteps", "UnlikeSteps.__init__", defArgs st_UnlikeSteps_init, defBody st_UnlikeSteps_init, defScope st_UnlikeSteps_init⟩]
abbrev hk : PySem.W.Hook := FW.hookY 4 fa fn ex er
def ob (s : PySem.W.SharedT) : FW.AlY := FW.obsYG 4 fa fn ex er (HandSHeadRun.getT s)
theorem ob_eq (s : PySem.W.SharedT) : ob s = hk.obs s.abs := FW.obsYG_eq (HandSHeadRun.getT_eq s)
def loose0 : List Str := ["FloorError", "BadNumber", "BadPower", "BadLoop", "BadStart", "BadField", "BadGuesses", "BadBeginning", "BadSought", "BadBracket", "BadKind", "BadText", "UnlikePowers", "UnlikeSteps", "NoGuess", "_law_kinds", "_law_kept"]
def loose : List Str := loose0
theorem map3 {σ α β γ : Type} {o : Option σ} {f : σ → α} {g : σ → β} {h : σ → γ} {a : α} {b : β} {c : γ} (h1 : o.map f = some a) (h2 : o.map g = some b) (h3 : o.map h = some c) : o.map (fun s => (f s, g s, h s)) = some (a, b, c) := by
  cases o with
  | none => cases h1
  | some s => cases h1; cases h2; cases h3; rfl
open PySem PySem.W PySem.Calls PyProof.Rows HandSHeadRun in
theorem runA (w : World) : ∀ os : OsState, (endF (stepQ (denQ tabQ) R.prog w) 30000 R.prog w os).map (fun s => looksF R.prog (boot_heap w.params) s.abs) = some true := by
  intro os
  kernel_rfl
open PySem PySem.W PySem.Calls PyProof.Rows HandSHeadRun in
theorem runB (w : World) : ∀ os : OsState, (endF (stepQ (denQ tabQ) R.prog w) 30000 R.prog w os).map (fun s => seenQ (view R.prog [19]) loose (importedModules R.prog.main.body) (fun s => xlAt (view R.prog [19]) [] s && recOk R.toRowW.records s) s.abs) = some (openGood (view R.prog [19]) loose) := by
  intro os
  kernel_rfl
open PySem PySem.W PySem.Calls PyProof.Rows HandSHeadRun in
theorem runC (w : World) : ∀ os : OsState, (endF (stepQ (denQ tabQ) R.prog w) 30000 R.prog w os).map (fun s => ob s) = some (hk.val w) := by
  intro os
  kernel_rfl
theorem run (w : World) : HandSHeadRun.RunEq R (PySem.W.view R.prog [19]) hk ob 30000 loose w := fun os => map3 (runA w os) (runB w os) (runC w os)
end FWL
/-! own errors without a field: class X(FloorError): def __init__(self): super().__init__('..') -/
namespace PySem
namespace ErrX
open PySem.W PySem.Calls PyProof.Rows PySem.HandSPX
def eA0 (p1 : Pos) : Arguments := { posonlyargs := [], args := [{ arg := "self", annotation := none, pos := p1 }], vararg := none, kwonlyargs := [], kw_defaults := [], kwarg := none, defaults := [] }
def eB0 (txt : Str) (q1 q2 q3 q4 q5 q6 : Pos) : List Stmt := [.Expr (.Call (.Attribute (.Call (.Name "super" q1) [] [] q2) "__init__" q3) [.Constant (.str txt) 0 q4] [] q5) q6]
def eS0 : Scope := { kind := .function, names := [("self", .local), ("__class__", .free), ("super", .globalImplicit)], isGenerator := false, isCoroutine := false, more := [] }
structure ErrC0 (prog : Program) (K : Frag) (C fI : Addr) : Prop where
  cls : ∃ nm q N bs bm sn sub ab col dd k0 k1 k2 k3 k5, K.lookup C = some (excClassObj nm q C N bs bm true sn sub ab col dd k0 k1 k2 k3 k5 "ValueError.__new__") ∧ refsVE bm = true
  iC : findIn K (.ref C) "__init__" = some (some (.ref fI))
  tC : typeIn K (.ref fI) = some (.type "function")
  kC : keepIn K (.ref C) = true
  exC : subIn K (.ref C) (.type "BaseException") = some true
  veC : subIn K (.ref C) (.type "ValueError") = some true
  tyC : typeIn K (.ref C) = some (.type "type")
  mro : mroIn K C (.ref C) = some true
  sup : nsIn K mainGlobals "super" = some none
  tp : nsIn K cStatics "thirdparty.any" = some none
  si : ks_superIn K C C "__init__" = some (some (.builtin "ValueError.__init__"))
  top : (prog.main.scope.names.lookup ("super" : Str)).isSome = false
  fn : ∃ (cc cda : Addr) (qual : Str) (oc : Value) (od : Option Addr) (kV doc pm : Value) (an : Option Addr) (ct : Value) (osl : Array (Option Value)) (txt : Str) (p1 q1 q2 q3 q4 q5 q6 : Pos) (cl ccl : Value) (cld cdd : Option Addr) (csl ccs : Array (Option Value)) (vs : Array Value) (tf : Tok), (q3.endLine == q5.line) = true ∧
    K.lookup fI = some ⟨oc, od, .func (ksFn "__init__" qual (eA0 p1) (eB0 txt q1 q2 q3 q4 q5 q6) eS0 .none kV doc pm an (.ref cda) ct cc), osl⟩ ∧ codeIn K (.ref cda) qual = true ∧
    K.lookup cc = some ⟨cl, cld, .cell (some (.ref C)), csl⟩ ∧ K.lookup cda = some ⟨ccl, cdd, .fields vs, ccs⟩ ∧ vs[2]? = some (.str prog.main.file tf)
/-- a made one -/
structure OwnMade0 (h h' : Heap) (e C : Addr) : Prop where
  keep : ∀ b o, h.get? b = some o → h'.get? b = some o
  new : h.objs.size ≤ e
  obj : ∃ oe vs, h'.get? e = some oe ∧ oe.cls = .ref C ∧ oe.dict = none ∧ oe.data = .fields vs ∧ vs[1]? = some .none ∧ vs[2]? = some .none
section
variable {prog : Program} {w : World} {A : Around} {E : Value → Shared → Prop} {R : Result → Shared → Prop} {s : Shared} {K : Frag} {mg mb : Str → Option Value} {C fI : Addr}
theorem err0_init (T : ErrC0 prog K C fI) {x t0 : Addr} (X : K.In s.heap) (hlim : s.heap.NoLimit) (G : s.heap.Ns mainGlobals mg) (B : s.heap.Ns builtinsNs mb) (hB : ∀ x : Str, x ≠ "__name__" → mb x = bootBuiltins x)
    (hx : s.heap.get? x = some (excO C t0)) (hroom : A.depth < recursionLimit)
    (hq : ∀ h' tk t1, (∀ b o, b ≠ x → s.heap.get? b = some o → h'.get? b = some o) → h'.get? x = some (excO C t1) → R (.ok (.ret .none)) { s with heap := h', toks := tk }) :
    codeAny (model prog w) A (.call (.ref fI) ⟨[.ref x], []⟩) R s := by
  obtain ⟨cc, cda, qual, oc, od, kV, doc, pm, an, ct, osl, txt, p1, q1, q2, q3, q4, q5, q6, cl, ccl, cld, cdd, csl, ccs, vs, tf, hln, ho, hcd, hcc, hcda, hvs⟩ := T.fn
  obtain ⟨nm, q, N, bs, bm, sn, sub, ab, col, dd, k0, k1, k2, k3, k5, hC, hbm⟩ := T.cls
  have hcl : clsIn K C = some { name := nm, bases := bs, mro := .ref C :: bm, ns := N, qualname := q, hasDict := true, slotNames := sn, subclasses := sub, abstract := ab, collection := col, hasDel := false } := by unfold clsIn; rw [hC] <;> rfl
  obtain ⟨hp, g, d, tk, os⟩ := s
  have hsi : alongIn K "__init__" ((((Value.ref C :: bm)).dropWhile (· != .ref C)).drop 1) = some (some (.builtin "ValueError.__init__")) := by
    have z := T.si
    unfold ks_superIn at z
    rw [hcl] at z
    exact z
  refine ks_codeAny_call_defAt (fd := ksFn "__init__" qual (eA0 p1) (eB0 txt q1 q2 q3 q4 q5 q6) eS0 .none kV doc pm an (.ref cda) ct cc) (body := eB0 txt q1 q2 q3 q4 q5 q6) (binds := [("self", .ref x)])
    hroom (X _ _ ho) rfl hlim (codeRec_of X hcd) rfl (BindsTo.of_eq (by first | rfl | with_unfolding_all rfl)) (fun y hy => (show ∀ y ∈ eS0.names, y.2 ≠ .cell by decide) y hy)
    (fun y hy => by
      rcases List.mem_cons.mp hy with rfl | hy
      · rfl
      · cases hy) (fun h₁ hns hk₁ => ?_) rfl rfl rfl
  have X₁ : K.In h₁ := X.keeps hk₁
  have hx₁ := hk₁ _ _ hx
  show wpAt _ _ _ (execs (_ :: _) _) _ _ _
  refine ks_wpAt_execs_cons (ks_wpAt_Expr_any (ks_wpAt_MethodCall ?_ (eval_mc hln)))
  refine ks_wpAt_super_base (f := fI) (cc := cda) (ar := { arg := "self", annotation := none, pos := p1 }) rfl rfl (by decide) rfl (X₁ _ _ ho) rfl rfl rfl (X₁ _ _ hcda) rfl hvs (beq_self_eq_true _) T.top ?_
  refine ks_loadName_global rfl rfl (loadGlobal_builtin (G.keeps hk₁) (mg_none_of X G T.sup) (B.keeps hk₁) ((hB _ (by decide)).trans (by first | boot_by_name | rfl | kernel_rfl)) ⟨rfl, ?_⟩)
  refine wpAny_loadName_free rfl rfl rfl ⟨_, X₁ _ _ hcc, rfl⟩ ?_
  refine wpAny_loadName_local rfl rfl hns (by rfl) ?_
  refine ks_wpAny_isType_cls (X₁ _ _ hC) rfl ⟨rfl, ?_⟩
  refine ks_wpAny_call_super (X₁ _ _ hC) rfl hx₁ rfl (fun c e => by cases e) (looks_mroIn X₁ T.mro) (fun h₂ hso k₂ => ?_)
  have X₂ : K.In h₂ := X₁.keeps k₂
  have hx₂ := k₂ _ _ hx₁
  have I₂ : InstAt h₂ x (excO C t0) C none := ⟨hx₂, rfl, rfl, trivial⟩
  refine kxs_getMethod kxs_ValueError hso (looks_opaque X₂ T.tp) (l₀ := .ref C :: bm) (fun A Q E s k q => wpAny_bind ((looks_clsIn X₂ hcl) A _ E s k (wpAny_pure q))) rfl X₂ hsi (I₂.type.andThen (looks_subIn X₂ T.veC)) (ks_ne X₂ I₂ hcl) (by decide) ?_
  have k₃ : ∀ b o, h₂.get? b = some o → (h₂.push (kxs_mw "ValueError.__init__" x)).get? b = some o := fun b o e => Heap.get?_push_of_some _ e
  have hmw : (h₂.push (kxs_mw "ValueError.__init__" x)).get? h₂.objs.size = some (kxs_mw "ValueError.__init__" x) := Heap.get?_push_at rfl rfl
  refine kxs_callWith (i := "ValueError.__init__") (x := x) rfl (evalArgs_plain (Calls.spliced_cons ?_))
  show wpAny _ _ (eval (.Constant (.str txt) 0 q4) _) _ _ _
  refine Calls.Constant_str (Calls.spliced_nil ⟨hmw, ?_⟩)
  refine call_mw ((X₂.keeps k₃) _ _ hC) (k₃ _ _ hx₂) hmw (by show 1 ≤ sizeLine; decide) (fun h₄ t1 k₄ hx₄ => ?_)
  refine wpAt_of_wpAny ?_
  show wpAny _ _ (execs [] _) _ _ _
  exact wpAny_execs_nil (hq h₄ _ t1 (fun b o hb e => k₄ b o hb (k₃ _ _ (k₂ _ _ (hk₁ _ _ e)))) hx₄)
theorem err0_made (T : ErrC0 prog K C fI) (X : K.In s.heap) (hlim : s.heap.NoLimit) (G : s.heap.Ns mainGlobals mg) (B : s.heap.Ns builtinsNs mb) (hB : ∀ x : Str, x ≠ "__name__" → mb x = bootBuiltins x) (hroom : A.depth + 1 < recursionLimit)
    (hq : ∀ h' tk e, OwnMade0 s.heap h' e C → R (.ok (.ret (.ref e))) { s with heap := h', toks := tk }) :
    codeAny (model prog w) A (.call (.ref C) ⟨[], []⟩) R s := by
  obtain ⟨nm, q, N, bs, bm, sn, sub, ab, col, dd, k0, k1, k2, k3, k5, hC, hbm⟩ := T.cls
  obtain ⟨hp, g, dr, tk, os⟩ := s
  have k : ∀ b o, hp.get? b = some o → ((hp.push (kdv_tup [])).push (excO C hp.objs.size)).get? b = some o := fun b o e => Heap.get?_push_of_some _ (Heap.get?_push_of_some _ e)
  have hget : ((hp.push (kdv_tup [])).push (excO C hp.objs.size)).get? (hp.objs.size + 1) = some (excO C hp.objs.size) := by heap_get
  refine call_own F.excBase_ValueError (fun X => refsVE_contains X bm hbm) (X _ _ hC) (looks_findIn X T.iC) (fun self => bind_fn X self T.tC) (by show 0 ≤ sizeLine; decide) ?_
  refine err0_init (s := ⟨(hp.push (kdv_tup [])).push (excO C hp.objs.size), g, dr, tk, os⟩) T (X.keeps k) (hlim.keeps k) (G.keeps k) (B.keeps k) hB hget ?_ fun h' tk' t1 k' hx => ?_
  · show A.depth + 1 < recursionLimit
    exact hroom
  · exact ⟨rfl, hq h' tk' (hp.objs.size + 1) ⟨fun b o e => k' b o (Nat.ne_of_lt (Nat.lt_succ_of_lt (Heap.lt_size e))) (k b o e), Nat.le_succ _, ⟨_, _, hx, rfl, rfl, rfl, rfl, rfl⟩⟩⟩
end
end ErrX
end PySem
namespace FWN
open PySem PySem.Spec PyProof.Rows L2 FW
/-- C(), C an own error without a field -/
def tMk0 (C : Addr) : L2.St → Hp → XK → Prop := fun σ H Q => Q (.ref C) none H
section
variable {X : Cx} {C fI : Addr} {x : Str}
theorem pmk_err0 {p pos : Pos} {k : Nat} (T : PySem.ErrX.ErrC0 X.prog X.K C fI) (gC : X.mg x = some (.ref C)) (hr : Room k X.A) (hg : Gl X x) (hdb : (x == ("__debug__" : Str)) = false := by decide) : L2N.PMk X (.Call (.Name x p) [] [] pos) (tMk0 C) := by
  intro pins s σ H Q I h
  refine wpAny_Call_Name_kw (ld_glob I hg gC ?_ hdb)
  refine PySem.W.callWith_K0 I.kIn T.kC ?_
  have hlim := I.nolimit
  have hG := I.mod.glob.keeps I.bk
  obtain ⟨mb, hb1, hb2⟩ := I.mod.blt
  have hB := hb1.keeps I.bk
  obtain ⟨hp, g, dr, tk, os⟩ := s
  refine wpAny_call (PySem.ErrX.err0_made T I.kIn hlim hG hB hb2 (by have := hr.dp; omega) fun h' tk' e M => ?_)
  show L2N.MkP X pins σ Q (.ref e) ⟨h', g, dr, tk', os⟩
  obtain ⟨oe, fv, hoe, hc, hd, hdat, h1, h2⟩ := M.obj
  obtain ⟨G', g1, g2⟩ := restrict h' fun b => decide (b ≠ e)
  have gk : ∀ b, b ≠ e → G'.get? b = h'.get? b := fun b hb => g1 b (decide_eq_true hb)
  have ge : G'.get? e = none := g2 e (by simp)
  have old : ∀ b o, hp.get? b = some o → G'.get? b = some o := fun b o q => (gk b (Nat.ne_of_lt (Nat.lt_of_lt_of_le (Heap.lt_size q) M.new))).trans (M.keep b o q)
  have J : Inv X pins σ H ⟨G', g, dr, tk', os⟩ := I.kept (t' := tk') old
  refine ⟨e, oe, fv, ⟨G', g, dr, tk', os⟩, _, .ref C, none, rfl, J, fun b o q => ?_, ge, hoe, ⟨hc, hd, fun vs q => by rw [hdat] at q; cases q; exact h2⟩, hdat, h1, I.hok.fresh M.new, rfl, I.bare, raises_own T.exC T.tyC, h⟩
  by_cases hb : b = e
  · have q' : G'.get? b = some o := q
    rw [hb, ge] at q'; cases q'
  · exact (gk b hb).symm.trans q
def tRaise0 (C : Addr) (W : WX) : TS := fun _ σ H => W (.ref C) none σ H
theorem ps_raise0 {W : WX} {p pos pos2 : Pos} {k : Nat} (hc : X.calm = true) (T : PySem.ErrX.ErrC0 X.prog X.K C fI) (gC : X.mg x = some (.ref C)) (hr : Room k X.A) (tk : L2N.Takes X W) (hg : Gl X x) (hdb : (x == ("__debug__" : Str)) = false := by decide) :
    PS X (.Raise (some (.Call (.Name x p) [] [] pos)) none pos2) (tRaise0 C W) := L2N.ps_raise hc tk (pmk_err0 T gC hr hg hdb)
end
end FWN
namespace FW
open PySem PySem.Spec PyProof.Rows L2 PySem.W PySem.HandSPX PySem.ErrX
def errB0 (K : Frag) (file x : Str) : Bool := ([clsE K (He.ga K x), He.eqO (findIn K (.ref (He.ga K x)) "__init__") (some (some (.ref (He.ma K (He.ga K x) "__init__")))), decide (typeIn K (.ref (He.ma K (He.ga K x) "__init__")) = some (.type "function")),
  keepIn K (.ref (He.ga K x)), decide (subIn K (.ref (He.ga K x)) (.type "BaseException") = some true), decide (subIn K (.ref (He.ga K x)) (.type "ValueError") = some true), decide (typeIn K (.ref (He.ga K x)) = some (.type "type")), decide (mroIn K (He.ga K x) (.ref (He.ga K x)) = some true),
  He.eqO (nsIn K mainGlobals "super") (some none), He.eqO (nsIn K cStatics "thirdparty.any") (some none), He.eqO (ks_superIn K (He.ga K x) (He.ga K x) "__init__") (some (some (.builtin "ValueError.__init__"))), codeE K file x] : List Bool).all id
theorem errC0_of {prog : Program} {K : Frag} {x qual : Str} {params : Arguments} {body : List Stmt} {scope : Scope} (e : fnE K x = (some (("__init__" : Str), qual, params, FuncBody.stmts body, scope, mainGlobals, Value.none, builtinsNs) : FnE)) (h : errB0 K prog.main.file x = true)
    (h1 : ∃ p1, params = eA0 p1) (h2 : ∃ txt q1 q2 q3 q4 q5 q6, body = eB0 txt q1 q2 q3 q4 q5 q6 ∧ (q3.endLine == q5.line) = true) (h3 : scope = eS0) (top : (prog.main.scope.names.lookup ("super" : Str)).isSome = false) :
    ErrC0 prog K (He.ga K x) (He.ma K (He.ga K x) "__init__") := by
  unfold errB0 at h
  simp only [List.all_cons, List.all_nil, id, Bool.and_true, Bool.and_eq_true] at h
  obtain ⟨b0, b1, b2, b3, b4, b5, b6, b7, b8, b9, bA, hc⟩ := h
  refine ⟨clsE_ok b0, He.eqO_ok b1, of_decide_eq_true b2, b3, of_decide_eq_true b4, of_decide_eq_true b5, of_decide_eq_true b6, of_decide_eq_true b7, He.eqO_ok b8, He.eqO_ok b9, He.eqO_ok bA, top, ?_⟩
  obtain ⟨p1, rfl⟩ := h1
  obtain ⟨txt, q1, q2, q3, q4, q5, q6, rfl, hl⟩ := h2
  subst h3
  unfold codeE at hc
  unfold fnE at e
  cases q : K.lookup (He.ma K (He.ga K x) "__init__") with
  | none => rw [q] at hc; cases hc
  | some o =>
    obtain ⟨oc, od, dt, osl⟩ := o
    rw [q] at hc e
    cases dt with
    | func fd =>
      obtain ⟨n1, n2, n3, n4, n5, n6, n7, n8, n9, n10, n11, n12, n13, n14, n15⟩ := fd
      have e2 : (some (n1, n2, n3, n4, n5, n6, n8, n15) : FnE) = (some (("__init__" : Str), qual, eA0 p1, FuncBody.stmts (eB0 txt q1 q2 q3 q4 q5 q6), eS0, mainGlobals, Value.none, builtinsNs) : FnE) := e
      simp only [Option.some.injEq, Prod.mk.injEq] at e2
      obtain ⟨g1, g2, g3, g4, g5, g6, g7, g8⟩ := e2
      subst g1 g2 g3 g4 g5 g6 g7 g8
      dsimp only at hc
      split at hc
      · rename_i c0 l0 cda n cc
        simp only [Bool.and_eq_true, decide_eq_true_eq] at hc
        obtain ⟨hc1, rfl, hc2, hc3⟩ := hc
        split at hc2
        · rename_i ccl cdd vs ccs hcda
          split at hc2
          · rename_i z tf hvs
            have hz := of_decide_eq_true hc2
            subst hz
            split at hc3
            · rename_i cl cld D csl hcc
              have hD := of_decide_eq_true hc3
              subst hD
              exact ⟨cc, cda, _, oc, od, n9, n10, n11, n12, n14, osl, txt, p1, q1, q2, q3, q4, q5, q6, cl, ccl, cld, cdd, csl, ccs, vs, tf, hl, rfl, hc1, hcc, hcda, hvs⟩
            · cases hc3
          · cases hc2
        · cases hc2
      · cases hc
    | _ => cases hc
end FW
/-! own errors made by the name of their parameter -/
namespace PySem
namespace PX
section
variable {M : Model} {A : Around} {E : Value → Shared → Prop} {h : Heap} {g : Array GenState} {d : Drawn} {t : Nat} {os : OsState}
variable {nm q : Str} {C N : Addr} {bs bm bmB : List Value} {hdct : Bool} {sn : List Str} {sub : List Value} {ab : Bool} {col : Option Bool} {dd : Option Addr} {k0 k1 k2 k3 k5 : Option Value} {B newId initId : String}
theorem check_new_kw (F : ExcBaseFacts B newId initId bmB) (hT : ∀ X : String, bm.contains (.type X) = bmB.contains (.type X)) {rest : List Value} {kw : List (Str × Value)} {Q : Unit → Shared → Prop}
    (hC : h.get? C = some (excClassObj nm q C N bs bm hdct sn sub ab col dd k0 k1 k2 k3 k5 newId)) (hq : Q () ⟨h, g, d, t, os⟩) : wpAny M A (checkBuiltinCall newId ⟨.ref C :: rest, kw⟩) Q E ⟨h, g, d, t, os⟩ := by
  have hcont : (Value.ref C :: bm).contains (.type B) = true := by rw [List.contains_cons, hT, F.hasB, Bool.or_true]
  have hstar := F.noStar
  simp only [checkBuiltinCall, F.newKind, F.newSplit, F.newRow]
  repeat (first | refine wpAny_loadPart_at hC ?_ | (refine wpAny_isSubtype_exc hC ?_; rw [hcont]) | refine wpAny_staticBase_exc hC ?_ | refine wpAny_madeBy_exc hC ?_ | simp only [bne_self_eq_false, Bool.false_eq_true, if_false] | wp_step)
  exact hq
end
section
variable {prog : Program} {w : World} {A : Around} {E : Value → Shared → Prop} {R : Result → Shared → Prop} {h : Heap} {g : Array GenState} {d : Drawn} {t : Nat} {os : OsState}
variable {nm q : Str} {C N : Addr} {bs bm bmB : List Value} {hdct : Bool} {sn : List Str} {sub : List Value} {ab : Bool} {col : Option Bool} {dd : Option Addr} {k0 k1 k2 k3 k5 : Option Value} {B newId initId : String}
theorem new_kw (F : ExcBaseFacts B newId initId bmB) (hT : ∀ X : String, bm.contains (.type X) = bmB.contains (.type X)) {rest : List Value} {kw : List (Str × Value)}
    (hC : h.get? C = some (excClassObj nm q C N bs bm hdct sn sub ab col dd k0 k1 k2 k3 k5 newId))
    (hq : R (.ok (.ret (.ref (h.objs.size + 1)))) ⟨(h.push { cls := .type "tuple", data := .seq rest.toArray }).push
      { cls := .ref C, data := .fields #[.ref h.objs.size, .none, .none, .none, .bool false, .none] }, g, d, t, os⟩) (hrest : rest.length ≤ sizeLine) :
    codeAny (model prog w) A (.builtin newId ⟨.ref C :: rest, kw⟩) R ⟨h, g, d, t, os⟩ := by
  have hends := F.ends
  have hcB : (Value.ref C :: bm).contains (.type B) = true := by rw [List.contains_cons, hT, F.hasB, Bool.or_true]
  have hcA : (Value.ref C :: bm).contains (.type "AttributeError") = false := by rw [List.contains_cons, hT, F.noAttr]; rfl
  have hcN : (Value.ref C :: bm).contains (.type "NameError") = false := by rw [List.contains_cons, hT, F.noName]; rfl
  refine codeAny_builtinAt F.entry ?_
  unfold Builtin.«BaseException.__new__»
  refine wpAt_bind ?_
  show wpAt _ _ _ (stack >>= _) _ _ _
  refine wpAt_bind (wpAt_stack fun p below => wpAt_of_wpAny ?_)
  wp_walk
  refine wpAt_of_wpAny ?_
  rw [F.owner]
  repeat (first | with_reducible refine wpAny_madeHere_exc F.canon hC ?_ | with_reducible refine wpAny_loadPart_at hC ?_ | (with_reducible refine wpAny_isSubtype_exc hC ?_; first | rw [hcB] | rw [hcA] | rw [hcN]) | wp_step)
  show R _ _
  rw [Heap.size_push]
  exact hq
theorem type_call_kw (F : ExcBaseFacts B newId initId bmB) (hT : ∀ X : String, bm.contains (.type X) = bmB.contains (.type X)) {rest : List Value} {kw : List (Str × Value)} {fI : Addr} {Q : Fin → Shared → Prop}
    (hC : h.get? C = some (excClassObj nm q C N bs bm hdct sn sub ab col dd k0 k1 k2 k3 k5 newId))
    (hi : W.Looks (model prog w) h (typeLookup (.ref C) "__init__") (some (.ref fI))) (hb : ∀ self, W.Looks (model prog w) h (bindSpecial (.ref fI) self) (.ref fI, [self])) (hrest : rest.length ≤ sizeLine)
    (hq : codeAny (model prog w) A (.call (.ref fI) ⟨.ref (h.objs.size + 1) :: rest, kw⟩)
      (fun r s' => match r with | .ok (.ret v) => v = .none ∧ Q (.done (.ret (.ref (h.objs.size + 1)))) s' | .ok _ => False | .error e => E e s')
      ⟨(h.push (W.kdv_tup rest)).push (excO C h.objs.size), g, d, t, os⟩) :
    wpAny (model prog w) A (Builtin.«type.__call__» ⟨.ref C :: rest, kw⟩) Q E ⟨h, g, d, t, os⟩ := by
  repeat (first | with_reducible refine wpAny_loadPart_at hC ?_ | with_reducible refine wpAny_madeBy_exc hC ?_ | wp_step)
  refine codeAny_call_builtin_code (Code.quiet_builtin _ F.quiet) (check_new_kw F hT hC ?_)
  refine new_kw F hT hC ?_ hrest
  show wpAny _ _ _ _ _ _
  have k : ∀ b o, h.get? b = some o → ((h.push (W.kdv_tup rest)).push (excO C h.objs.size)).get? b = some o := fun b o e => Heap.get?_push_of_some _ (Heap.get?_push_of_some _ e)
  have hC₁ := k _ _ hC
  have hget : ((h.push (W.kdv_tup rest)).push (excO C h.objs.size)).get? (h.objs.size + 1) = some (excO C h.objs.size) := by heap_get
  have hcC : (Value.ref C :: bm).contains (.ref C) = true := by simp
  have i1 := hi.keeps k
  have b1 := (hb (.ref (h.objs.size + 1))).keeps k
  unfold isInstance
  repeat (first | with_reducible refine wpAny_loadPart_at hget ?_ | (with_reducible refine wpAny_isSubtype_exc hC₁ ?_; rw [hcC]) | wp_step)
  show wpAny _ _ (typeLookup (.ref C) _) _ _ _
  refine i1.at ?_
  refine wpAny_holding (wpAny_bind (b1.at ?_))
  refine wpAny_bind (wpAny_call (codeAny_mono hq fun r s' z => ?_))
  rcases r with e | (v | _ | _ | _) <;> first | exact z | exact z.elim | skip
  obtain ⟨rfl, z⟩ := z
  first
    | exact wpAny_pure (wpAny_pure z)
    | (wp_walk; exact z)
end
end PX
end PySem
namespace PySem
namespace PX
section
variable {M : Model} {A : Around} {E : Value → Shared → Prop} {h : Heap} {g : Array GenState} {d : Drawn} {t : Nat} {os : OsState}
variable {nm q : Str} {C N : Addr} {bs bm : List Value} {hdct : Bool} {sn : List Str} {sub : List Value} {ab : Bool} {col : Option Bool} {dd : Option Addr} {k0 k1 k2 k3 k5 : Option Value} {newId : String}
theorem check_type_call_kw {rest : List Value} {kw : List (Str × Value)} {Q : Unit → Shared → Prop} (hC : h.get? C = some (excClassObj nm q C N bs bm hdct sn sub ab col dd k0 k1 k2 k3 k5 newId))
    (hq : Q () ⟨h, g, d, t, os⟩) : wpAny M A (checkBuiltinCall "type.__call__" ⟨.ref C :: rest, kw⟩) Q E ⟨h, g, d, t, os⟩ := by
  have f3 := tc_sub
  have hT : (⟨h, g, d, t, os⟩ : Shared).TypeIs (.ref C) "type" := ⟨_, hC, rfl⟩
  simp only [checkBuiltinCall, tc_kind, tc_split]
  repeat (any_goals (first | assumption | with_reducible refine wpAny_loadPart_at hC ?_ | with_reducible refine wpAny_onRaise ?_ | with_reducible refine wpAny_map ?_ | wp_step))
end
section
variable {prog : Program} {w : World} {A : Around} {E : Value → Shared → Prop} {R : Result → Shared → Prop} {h : Heap} {g : Array GenState} {d : Drawn} {t : Nat} {os : OsState}
variable {nm q : Str} {C N : Addr} {bs bm bmB : List Value} {hdct : Bool} {sn : List Str} {sub : List Value} {ab : Bool} {col : Option Bool} {dd : Option Addr} {k0 k1 k2 k3 k5 : Option Value} {B newId initId : String}
theorem call_kw (F : ExcBaseFacts B newId initId bmB) (hT : ∀ X : String, bm.contains (.type X) = bmB.contains (.type X)) {rest : List Value} {kw : List (Str × Value)} {fI : Addr}
    (hC : h.get? C = some (excClassObj nm q C N bs bm hdct sn sub ab col dd k0 k1 k2 k3 k5 newId))
    (hi : W.Looks (model prog w) h (typeLookup (.ref C) "__init__") (some (.ref fI))) (hb : ∀ self, W.Looks (model prog w) h (bindSpecial (.ref fI) self) (.ref fI, [self])) (hrest : rest.length ≤ sizeLine)
    (hq : codeAny (model prog w) (A.under (.builtin "type.__call__" ⟨.ref C :: rest, kw⟩)) (.call (.ref fI) ⟨.ref (h.objs.size + 1) :: rest, kw⟩) (W.InitBack (h.objs.size + 1) R)
      ⟨(h.push (W.kdv_tup rest)).push (excO C h.objs.size), g, d, t, os⟩) :
    codeAny (model prog w) A (.call (.ref C) ⟨rest, kw⟩) R ⟨h, g, d, t, os⟩ := by
  have f1 := tc_lookup
  have f2 := tc_bind (.ref C)
  have hTy : (⟨h, g, d, t, os⟩ : Shared).TypeIs (.ref C) "type" := ⟨_, hC, rfl⟩
  refine codeAny_of_tree ?_
  show wpAny _ _ (callAny (.ref C) _) _ _ _
  repeat (any_goals (first | assumption | with_reducible refine wpAny_loadPart_at hC ?_ | wp_step))
  refine ⟨rfl, ?_⟩
  refine codeAny_call_builtin_at (Code.quiet_builtin _ (by decide +kernel)) entry_typeCall (check_type_call_kw hC (type_call_kw F hT hC hi hb hrest ?_))
  refine codeAny_mono hq fun r s' z => ?_
  rcases r with e | (v | _ | _ | _) <;> exact z
end
end PX
end PySem
namespace PySem
namespace ErrX
open PySem.W PySem.Calls PyProof.Rows PySem.HandSPX
section
variable {prog : Program} {w : World} {A : Around} {E : Value → Shared → Prop} {R : Result → Shared → Prop} {s : Shared} {K : Frag} {mg mb : Str → Option Value} {C fI : Addr} {f : Str}
theorem err_init_kw (T : ErrC prog K C fI f) (hf : f = "value" ∨ f = "word" ∨ f = "field") {x t0 : Addr} {v : Value} (X : K.In s.heap) (hlim : s.heap.NoLimit) (G : s.heap.Ns mainGlobals mg) (B : s.heap.Ns builtinsNs mb) (hB : ∀ x : Str, x ≠ "__name__" → mb x = bootBuiltins x)
    (hx : s.heap.get? x = some (excO C t0)) (hnx : ¬ (K.lookup x).isSome = true) (hroom : A.depth < recursionLimit)
    (hq : ∀ h' tk dx t1, InitEnd s.heap h' x C dx t1 f v → R (.ok (.ret .none)) { s with heap := h', toks := tk }) :
    codeAny (model prog w) A (.call (.ref fI) ⟨[.ref x], [(f, v)]⟩) R s := by
  obtain ⟨cc, cda, qual, oc, od, kV, doc, pm, an, ct, osl, txt, p1, p2, q1, q2, q3, q4, q5, q6, q7, q8, q9, q10, cl, ccl, cld, cdd, csl, ccs, vs, tf, hln, ho, hcd, hcc, hcda, hvs⟩ := T.fn
  obtain ⟨nm, q, N, bs, bm, sn, sub, ab, col, dd, k0, k1, k2, k3, k5, hC, hbm⟩ := T.cls
  have hcl : clsIn K C = some { name := nm, bases := bs, mro := .ref C :: bm, ns := N, qualname := q, hasDict := true, slotNames := sn, subclasses := sub, abstract := ab, collection := col, hasDel := false } := by unfold clsIn; rw [hC] <;> rfl
  obtain ⟨hp, g, d, tk, os⟩ := s
  have hsi : alongIn K "__init__" ((((Value.ref C :: bm)).dropWhile (· != .ref C)).drop 1) = some (some (.builtin "ValueError.__init__")) := by
    have z := T.si
    unfold ks_superIn at z
    rw [hcl] at z
    exact z
  rcases hf with rfl | rfl | rfl
  all_goals
    refine ks_codeAny_call_defAt (fd := ksFn "__init__" qual (eA1 _ p1 p2) (eB1 _ txt q1 q2 q3 q4 q5 q6 q7 q8 q9 q10) (eS1 _) .none kV doc pm an (.ref cda) ct cc) (body := eB1 _ txt q1 q2 q3 q4 q5 q6 q7 q8 q9 q10) (binds := [("self", .ref x), (_, v)])
      hroom (X _ _ ho) rfl hlim (codeRec_of X hcd) rfl (BindsTo.of_eq (by first | rfl | with_unfolding_all rfl)) (fun y hy => (show ∀ y ∈ (eS1 _).names, y.2 ≠ .cell by decide) y hy)
      (fun y hy => by
        rcases List.mem_cons.mp hy with rfl | hy
        · rfl
        · rcases List.mem_cons.mp hy with rfl | hy
          · rfl
          · cases hy) (fun h₁ hns hk₁ => ?_) rfl rfl rfl
    have X₁ : K.In h₁ := X.keeps hk₁
    have hx₁ := hk₁ _ _ hx
    have zL : hp.objs.size < h₁.objs.size := hns.lt
    have hxL : hp.objs.size ≠ x := Nat.ne_of_gt (Heap.lt_size hx)
    -- super().__init__('..')
    show wpAt _ _ _ (execs (_ :: _) _) _ _ _
    refine ks_wpAt_execs_cons (ks_wpAt_Expr_any (ks_wpAt_MethodCall ?_ (eval_mc hln)))
    refine ks_wpAt_super_base (f := fI) (cc := cda) (ar := { arg := "self", annotation := none, pos := p1 }) rfl rfl (by decide) rfl (X₁ _ _ ho) rfl rfl rfl (X₁ _ _ hcda) rfl hvs (beq_self_eq_true _) T.top ?_
    refine ks_loadName_global rfl rfl (loadGlobal_builtin (G.keeps hk₁) (mg_none_of X G T.sup) (B.keeps hk₁) ((hB _ (by decide)).trans (by first | boot_by_name | rfl | kernel_rfl)) ⟨rfl, ?_⟩)
    refine wpAny_loadName_free rfl rfl rfl ⟨_, X₁ _ _ hcc, rfl⟩ ?_
    refine wpAny_loadName_local rfl rfl hns (by rfl) ?_
    refine ks_wpAny_isType_cls (X₁ _ _ hC) rfl ⟨rfl, ?_⟩
    refine ks_wpAny_call_super (X₁ _ _ hC) rfl hx₁ rfl (fun c e => by cases e) (looks_mroIn X₁ T.mro) (fun h₂ hso k₂ => ?_)
    have X₂ : K.In h₂ := X₁.keeps k₂
    have hx₂ := k₂ _ _ hx₁
    have I₂ : InstAt h₂ x (excO C t0) C none := ⟨hx₂, rfl, rfl, trivial⟩
    refine kxs_getMethod kxs_ValueError hso (looks_opaque X₂ T.tp) (l₀ := .ref C :: bm) (fun A Q E s k q => wpAny_bind ((looks_clsIn X₂ hcl) A _ E s k (wpAny_pure q))) rfl X₂ hsi (I₂.type.andThen (looks_subIn X₂ T.veC)) (ks_ne X₂ I₂ hcl) (by decide) ?_
    have k₃ : ∀ b o, h₂.get? b = some o → (h₂.push (kxs_mw "ValueError.__init__" x)).get? b = some o := fun b o e => Heap.get?_push_of_some _ e
    have hmw : (h₂.push (kxs_mw "ValueError.__init__" x)).get? h₂.objs.size = some (kxs_mw "ValueError.__init__" x) := Heap.get?_push_at rfl rfl
    refine kxs_callWith (i := "ValueError.__init__") (x := x) rfl (evalArgs_plain (Calls.spliced_cons ?_))
    show wpAny _ _ (eval (.Constant (.str txt) 0 q4) _) _ _ _
    refine Calls.Constant_str (Calls.spliced_nil ⟨hmw, ?_⟩)
    refine call_mw ((X₂.keeps k₃) _ _ hC) (k₃ _ _ hx₂) hmw (by show 1 ≤ sizeLine; decide) (fun h₄ t1 k₄ hx₄ => ?_)
    -- self.f = f
    have k14 : ∀ b o, b ≠ x → h₁.get? b = some o → h₄.get? b = some o := fun b o hb e => k₄ b o hb (k₃ _ _ (k₂ _ _ e))
    have hn4 := ns_keep hns (k14 _ · hxL)
    have X₄ : K.In h₄ := fun a o e => by
      by_cases ha : a = x
      · subst ha
        have z := X _ _ e
        rw [hx] at z
        exact absurd z (fun z => hnx (by rw [e]; rfl))
      · exact k14 _ _ ha (X₁ _ _ e)
    refine wpAt_of_wpAny ?_
    show wpAny _ _ (execs (_ :: _) _) _ _ _
    refine wpAny_execs_cons (plainObj_wpAny_Assign_Attribute ?_)
    refine wpAny_Name (wpAny_loadName_local rfl rfl hn4 (by rfl) ?_)
    refine wpAny_Name (wpAny_loadName_local rfl rfl hn4 (by rfl) ?_)
    refine set_plain X₄ (ox := excO C t1) (od := none) ⟨hx₄, rfl, rfl, trivial⟩ T.sa ?_
    refine exc_osa X₄ hx₄ hcl (show refsVE (.ref C :: bm) = true from hbm) rfl T.noN (fun h₅ tk₅ dx k₅ dn dne hx₅ hn₅ => ?_)
    show wpAny _ _ (execs _ _) _ _ _
    refine wpAny_execs_nil (hq h₅ tk₅ dx t1 ⟨fun b o hb e => k₅ b o hb (k14 b o hb (hk₁ b o e)), hx₅, ?_, dne, hn₅⟩)
    have z4 : hp.objs.size < h₄.objs.size := hn4.lt
    exact Nat.le_of_lt (Nat.lt_of_lt_of_le z4 dn)
theorem err_made_kw (T : ErrC prog K C fI f) (hf : f = "value" ∨ f = "word" ∨ f = "field") {v : Value} (X : K.In s.heap) (hlim : s.heap.NoLimit) (G : s.heap.Ns mainGlobals mg) (B : s.heap.Ns builtinsNs mb) (hB : ∀ x : Str, x ≠ "__name__" → mb x = bootBuiltins x) (hroom : A.depth + 1 < recursionLimit)
    (hq : ∀ h' tk e d, OwnMade s.heap h' e C d f v → R (.ok (.ret (.ref e))) { s with heap := h', toks := tk }) :
    codeAny (model prog w) A (.call (.ref C) ⟨[], [(f, v)]⟩) R s := by
  obtain ⟨nm, q, N, bs, bm, sn, sub, ab, col, dd, k0, k1, k2, k3, k5, hC, hbm⟩ := T.cls
  obtain ⟨hp, g, dr, tk, os⟩ := s
  have k : ∀ b o, hp.get? b = some o → ((hp.push (kdv_tup [])).push (excO C hp.objs.size)).get? b = some o := fun b o e => Heap.get?_push_of_some _ (Heap.get?_push_of_some _ e)
  have hget : ((hp.push (kdv_tup [])).push (excO C hp.objs.size)).get? (hp.objs.size + 1) = some (excO C hp.objs.size) := by heap_get
  have hnx : ¬ (K.lookup (hp.objs.size + 1)).isSome = true := by
    cases e : K.lookup (hp.objs.size + 1) with
    | none => intro z; cases z
    | some o =>
      have z : hp.get? (hp.objs.size + 1) = some o := X _ _ e
      exact absurd (Nat.lt_of_succ_lt (Heap.lt_size z)) (Nat.lt_irrefl _)
  refine PX.call_kw (kw := [(f, v)]) F.excBase_ValueError (fun X => refsVE_contains X bm hbm) (X _ _ hC) (looks_findIn X T.iC) (fun self => bind_fn X self T.tC) (Nat.zero_le _) ?_
  refine err_init_kw (s := ⟨(hp.push (kdv_tup [])).push (excO C hp.objs.size), g, dr, tk, os⟩) T hf (X.keeps k) (hlim.keeps k) (G.keeps k) (B.keeps k) hB hget hnx ?_ fun h' tk' dx t1 ⟨k', hx, dn, dne, hns⟩ => ?_
  · show A.depth + 1 < recursionLimit
    exact hroom
  · have old : ∀ b o, hp.get? b = some o → h'.get? b = some o := fun b o e => k' b o (Nat.ne_of_lt (Nat.lt_succ_of_lt (Heap.lt_size e))) (k b o e)
    have z : hp.objs.size + 1 + 1 ≤ dx := by
      have q := dn
      rw [Heap.size_push, Heap.size_push] at q
      exact q
    exact ⟨rfl, hq h' tk' (hp.objs.size + 1) dx ⟨old, Nat.le_succ _, ⟨_, _, hx, rfl, rfl, rfl, rfl, rfl⟩, Nat.le_trans (Nat.le_trans (Nat.le_succ _) (Nat.le_succ _)) z, dne, hns⟩⟩
end
end ErrX
end PySem
namespace FW
open PySem PySem.Spec PyProof.Rows L2 L2H HotX PySem.W PySem.Calls
/-! ### own errors as values -/
/-- at a: an exception of the own class at C with the dict d -/
def exm (C a : Addr) (d : Option Addr) : HO := .ext fun h => ∃ (oe : Obj) (vs : Array Value), h.get? a = some oe ∧ oe.cls = .ref C ∧ oe.dict = d ∧ oe.data = .fields vs
theorem exm_okO {P : Program} {w : World} {H : Hp} {h : Heap} {C a : Addr} {d : Option Addr} {oe : Obj} {vs : Array Value} (e : h.get? a = some oe) (z : oe.cls = .ref C) (z2 : oe.dict = d) (dt : oe.data = .fields vs) : ObjOk P w H h a (exm C a d) :=
  ⟨⟨oe, vs, e, z, z2, dt⟩, ⟨oe, e⟩, fun _ _ ⟨o, v, q, r⟩ k => ⟨o, v, k o q, r⟩⟩
def tErrV (C : Addr) (f : Str) (ta : TA) : TE := fun σ H Q => ta σ H fun vs H1 => ∃ v, vs = [v] ∧ ∀ e d G, H1 e = none → FW.Ext H1 G → G e = some (exm C e (some d)) → G d = some (.xd [(f, v)]) → Q (.ref e) G
def tErr0 (C : Addr) : TE := fun σ H Q => ∀ e G, H e = none → FW.Ext H G → G e = some (exm C e none) → Q (.ref e) G
section
variable {X : Cx} {C fI : Addr} {f x : Str}
theorem laid_err {H1 : Hp} {pins : List (Addr × Obj)} {σ : L2.St} {hp h' : Heap} {g : Array GenState} {dr : Drawn} {tk tk' : Nat} {os : OsState} {e d : Addr} {v : V} {v' : Value} (I1 : Inv X pins σ H1 ⟨hp, g, dr, tk, os⟩) (rv : RelV v v') (M : PySem.ErrX.OwnMade hp h' e C d f v') :
    ∃ G, H1 e = none ∧ FW.Ext H1 G ∧ G e = some (exm C e (some d)) ∧ G d = some (.xd [(f, v)]) ∧ Inv X pins σ G ⟨h', g, dr, tk', os⟩ := by
  obtain ⟨oe, fv, hoe, hc, hd, hdat, h1, _⟩ := M.obj
  have hns := M.ns
  obtain ⟨G', g1, g2⟩ := restrict h' fun b => decide (b ≠ e)
  have gk : ∀ b, b ≠ e → G'.get? b = h'.get? b := fun b hb => g1 b (decide_eq_true hb)
  have ge : G'.get? e = none := g2 e (by simp)
  have old : ∀ b o, hp.get? b = some o → G'.get? b = some o := fun b o q => (gk b (Nat.ne_of_lt (Nat.lt_of_lt_of_le (Heap.lt_size q) M.new))).trans (M.keep b o q)
  have ob : ObjOk X.prog X.w (upd H1 d (.xd [(f, v)])) G' d (.xd [(f, v)]) :=
    ⟨_, hns.at (fun o q => (gk d M.dne).trans q), fun f => relO_err rv f⟩
  have J : Inv X pins σ (upd H1 d (.xd [(f, v)])) ⟨G', g, dr, tk', os⟩ := I1.laid (t' := tk') old M.dbig ob
  have he : H1 e = none := I1.hok.fresh M.new
  have hd0 : H1 d = none := I1.hok.fresh M.dbig
  have k2 : ∀ b u, G'.get? b = some u → h'.get? b = some u := fun b u q => by
    by_cases hb : b = e
    · rw [hb, ge] at q; cases q
    · exact (gk b hb).symm.trans q
  have he2 : (upd H1 d (.xd [(f, v)])) e = none := by rw [upd_ne (Ne.symm M.dne)]; exact he
  have J2 := J.laidN (t' := tk') (o := exm C e (some d)) k2 ge he2 (exm_okO hoe hc hd hdat)
  refine ⟨_, he, fun b u q => ?_, upd_same, ?_, J2⟩
  · rw [upd_ne (ne_of_none q he), upd_ne (ne_of_none q hd0)]; exact q
  · rw [upd_ne M.dne]; exact upd_same
theorem laid_err0 {H1 : Hp} {pins : List (Addr × Obj)} {σ : L2.St} {hp h' : Heap} {g : Array GenState} {dr : Drawn} {tk tk' : Nat} {os : OsState} {e : Addr} {oe : Obj} {vs : Array Value} (I1 : Inv X pins σ H1 ⟨hp, g, dr, tk, os⟩) (k : ∀ b o, hp.get? b = some o → h'.get? b = some o) (hn : hp.get? e = none) (ho : h'.get? e = some oe) (hc : oe.cls = .ref C) (hd : oe.dict = none) (hdat : oe.data = .fields vs) :
    ∃ G, H1 e = none ∧ FW.Ext H1 G ∧ G e = some (exm C e none) ∧ Inv X pins σ G ⟨h', g, dr, tk', os⟩ := by
  have he : H1 e = none := I1.hok.gone hn
  exact ⟨_, he, fun b u q => by rw [upd_ne (ne_of_none q he)]; exact q, upd_same, I1.laidN (t' := tk') k hn he (exm_okO ho hc hd hdat)⟩
/-- C(e) -/
theorem pe_errV {a : Expr} {ta : TA} {p pos : Pos} {k : Nat} (T : PySem.ErrX.ErrC X.prog X.K C fI f) (hf : ErrF f) (gC : X.mg x = some (.ref C)) (hr : Room k X.A) (ha : PA X [a] ta) (hg : Gl X x) (hdb : (x == ("__debug__" : Str)) = false := by decide)
    (he : starEach (a :: []) X.env = (false, eval a X.env) :: starEach [] X.env := by rfl) (hpl : (backTo pos (starEach [] X.env)).any (·.1) = false := by rfl) :
    PE X (.Call (.Name x p) [a] [] pos) (tErrV C f ta) := by
  refine ⟨fun pins s σ H Q I h => ?_⟩
  refine wpAny_Call_Name_kw (ld_glob I hg gC ?_ hdb)
  refine PySem.W.callWith_K (h₀ := X.base) I.ok.mod.kin T.kC (thn (ha.run pos pins s σ H _ I h) fun us s1 hh => ?_) he hpl
  obtain ⟨vs, H1, I1, r1, v, ev, q1⟩ := hh
  subst ev
  refine ⟨I1.kIn, ?_⟩
  cases r1 with
  | cons rv rn =>
    rename_i v' us'
    cases rn
    show wpAny _ _ (call (.ref C) [v']) _ _ _
    have hlim := I1.nolimit
    have hG := I1.mod.glob.keeps I1.bk
    obtain ⟨mb, hb1, hb2⟩ := I1.mod.blt
    have hB := hb1.keeps I1.bk
    obtain ⟨hp, g, dr, tk, os⟩ := s1
    refine wpAny_call (PySem.ErrX.err_made T hf I1.kIn hlim hG hB hb2 (by have := hr.dp; omega) fun h' tk' e d M => ?_)
    obtain ⟨G, g1, g2, g3, g4, J⟩ := laid_err (tk' := tk') I1 rv M
    exact ⟨.ref e, G, J, rfl, q1 e d G g1 g2 g3 g4⟩
/-- C(f=e) -/
theorem pe_errK {kw : Keyword} {ta : TA} {p pos : Pos} {k : Nat} (T : PySem.ErrX.ErrC X.prog X.K C fI f) (hf : ErrF f) (gC : X.mg x = some (.ref C)) (hr : Room k X.A) (hkw : PK X [kw] ta) (hg : Gl X x)
    (hall : (backToKw pos (keywordEach [kw] X.env)).all (·.1.isSome) = true := by rfl) (hks : (backToKw pos (keywordEach [kw] X.env)).filterMap (·.1) = [f] := by rfl) (hdb : (x == ("__debug__" : Str)) = false := by decide)
    (hpl : ((backTo pos (starEach [] X.env)).any (·.1) || (backToKw pos (keywordEach [kw] X.env)).any (·.1.isNone)) = false := by rfl) :
    PE X (.Call (.Name x p) [] [kw] pos) (tErrV C f ta) := by
  refine ⟨fun pins s σ H Q I h => ?_⟩
  refine wpAny_Call_Name_kw (ld_glob I hg gC ?_ hdb)
  refine PySem.W.callWith_KW0 (h₀ := X.base) I.ok.mod.kin T.kC hall ?_ hpl
  refine thn (hkw.run pos pins s σ H _ I h) fun us s1 hh => ?_
  obtain ⟨vs, H1, I1, r1, v, ev, q1⟩ := hh
  subst ev
  rw [hks]
  refine ⟨I1.kIn, ?_⟩
  match us, r1 with
  | [v'], .cons rv .nil =>
    show wpAny _ _ (call (.ref C) [] [(f, v')]) _ _ _
    have hlim := I1.nolimit
    have hG := I1.mod.glob.keeps I1.bk
    obtain ⟨mb, hb1, hb2⟩ := I1.mod.blt
    have hB := hb1.keeps I1.bk
    obtain ⟨hp, g, dr, tk, os⟩ := s1
    refine wpAny_call (PySem.ErrX.err_made_kw T hf I1.kIn hlim hG hB hb2 (by have := hr.dp; omega) fun h' tk' e d M => ?_)
    obtain ⟨G, g1, g2, g3, g4, J⟩ := laid_err (tk' := tk') I1 rv M
    exact ⟨.ref e, G, J, rfl, q1 e d G g1 g2 g3 g4⟩
/-- C(), its own __init__ without parameters -/
theorem pe_err0V {p pos : Pos} {k : Nat} (T : PySem.ErrX.ErrC0 X.prog X.K C fI) (gC : X.mg x = some (.ref C)) (hr : Room k X.A) (hg : Gl X x) (hdb : (x == ("__debug__" : Str)) = false := by decide) : PE X (.Call (.Name x p) [] [] pos) (tErr0 C) := by
  refine ⟨fun pins s σ H Q I h => ?_⟩
  refine wpAny_Call_Name_kw (ld_glob I hg gC ?_ hdb)
  refine PySem.W.callWith_K0 I.kIn T.kC ?_
  have hlim := I.nolimit
  have hG := I.mod.glob.keeps I.bk
  obtain ⟨mb, hb1, hb2⟩ := I.mod.blt
  have hB := hb1.keeps I.bk
  obtain ⟨hp, g, dr, tk, os⟩ := s
  refine wpAny_call (PySem.ErrX.err0_made T I.kIn hlim hG hB hb2 (by have := hr.dp; omega) fun h' tk' e M => ?_)
  obtain ⟨oe, fv, hoe, hc, hd, hdat, h1, h2⟩ := M.obj
  have hn : hp.get? e = none := by
    cases z : hp.get? e with
    | none => rfl
    | some o => exact absurd (Heap.lt_size z) (Nat.not_lt.mpr M.new)
  obtain ⟨G, g1, g2, g3, J⟩ := laid_err0 (tk' := tk') I M.keep hn hoe hc hd hdat
  exact ⟨.ref e, G, J, rfl, h e G g1 g2 g3⟩
/-- C(), no own __init__ -/
theorem pe_errB {bmB : List Value} {B newId initId : String} {p pos : Pos} (F : ExcBaseFacts B newId initId bmB) (q : PySem.W.excIn X.K C bmB newId = true) (gC : X.mg x = some (.ref C)) (kC : PySem.W.keepIn X.K (.ref C) = true) (hg : Gl X x) (hdb : (x == ("__debug__" : Str)) = false := by decide) :
    PE X (.Call (.Name x p) [] [] pos) (tErr0 C) := by
  refine ⟨fun pins s σ H Q I h => ?_⟩
  refine wpAny_Call_Name_kw (ld_glob I hg gC ?_ hdb)
  refine PySem.W.callWith_K0 I.kIn kC ?_
  show wpAny _ _ (call (.ref C) []) _ _ _
  obtain ⟨bm, N, nm, qn, bs, hdct, sn, sub, ab, col, dd, k0, k1, k2, k3, k5, mN, hC, hN, hni, T⟩ := exc_obj I.kIn q
  refine wpAny_call_exc_subT F T hC hN hni (fun h' a hm => ?_) (Nat.zero_le _)
  obtain ⟨t, ht, _, _⟩ := hm.there
  obtain ⟨G, g1, g2, g3, J⟩ := laid_err0 (C := C) (tk' := s.toks) I hm.keeps hm.new ht rfl rfl rfl
  exact ⟨.ref a, G, J, rfl, h a G g1 g2 g3⟩
/-- e.f -/
def tByV (K : Frag) (f : Str) (te : TE) : TE := fun σ H Q => te σ H fun x H1 => ∃ (a C d : Addr) (v : V), x = .ref a ∧ H1 a = some (exm C a (some d)) ∧ ErrG K C f ∧ H1 d = some (.xd [(f, v)]) ∧ Q v H1
theorem pe_byV {e : Expr} {te : TE} {pos : Pos} (he : PE X e te) (hb : attributeBase e f X.env (eval e X.env) = eval e X.env := by rfl) : PE X (.Attribute e f pos) (tByV X.K f te) := by
  refine ⟨fun pins s σ H Q I hq => attr_of hb (thn (he.run pins s σ H _ I hq) ?_)⟩
  rintro u s1 ⟨x, H1, I1, rx, a, C, d, v, rfl, ha, T, ed, q⟩
  obtain rfl : u = Value.ref a := rx
  obtain ⟨⟨oe, vs, ho, hc, hd, hdat⟩, _, _⟩ := I1.hok a _ ha
  obtain ⟨mA, hns, hr⟩ := (show ObjOk X.prog X.w H1 s1.heap d (.xd [(f, v)]) from I1.hok d _ ed)
  obtain ⟨od, ho2, hl⟩ := lookIn_ns hns
  obtain ⟨u, hu, ru⟩ := RelO.some_of (v := v) (o := mA f) (by rw [← show List.lookup f [(f, v)] = some v by simp [List.lookup]]; exact hr f)
  have J : InstAt s1.heap a oe C (some od) := ⟨ho, hc, by unfold notCls; rw [hdat] <;> rfl, by rw [hd]; exact ho2⟩
  exact HandSPX.exc_get I1.kIn J T.ga T.gg T.ex (findObj_own T.hd T.no rfl (by rw [hl, hu])) (handed_of ru) ⟨v, H1, I1.tok _, ru, q⟩
/-- isinstance(e, c) -/
def rIsV (K : Frag) : List V → Hp → VK → Prop := fun xs H Q => ∃ (a D : Addr) (d : Option Addr) (c : V) (u : Value) (b : Bool), H a = some (exm D a d) ∧ ExcC K D ∧ DX d H ∧ xs = [.ref a, c] ∧ ClsV c u ∧ kitOne K (.ref D) u = some b ∧ Q (.bl b) H
theorem call_isV : CallR X (.builtin "isinstance") (rIsV X.K) := by
  rintro pins s σ H xs us Q I r ⟨a, D, d, c, u, b, ha, T, dx, rfl, k, e, q⟩
  obtain ⟨u1, u2, rfl, r1, r2⟩ := vals2 r
  obtain rfl : u1 = Value.ref a := r1
  obtain rfl := k.eq r2
  obtain ⟨⟨oe, vs, ho, hc, hd, hdat⟩, _, _⟩ := I.hok a _ ha
  have no : notCls oe = true := by unfold notCls; rw [hdat] <;> rfl
  obtain ⟨od, J⟩ : ∃ od, InstAt s.heap a oe D od := by
    rcases dx with rfl | ⟨dd, fs, rfl, hdd⟩
    · exact ⟨none, ho, hc, no, by rw [hd]; trivial⟩
    · obtain ⟨mA, hns, hr⟩ := (show ObjOk X.prog X.w H s.heap dd (.xd fs) from I.hok dd _ hdd)
      obtain ⟨od, ho2, _⟩ := lookIn_ns hns
      exact ⟨some od, ho, hc, no, by rw [hd]; exact ho2⟩
  exact kia_one (kitx_exc T) I.kIn J e (fun z => nomatch z) fun tk => ⟨.bl b, H, I.tok tk, rfl, q⟩
end
end FW
/-! tuples turned about, counted, and things that are a list or a tuple -/
namespace PySem
namespace SeqX
open PyProof.Rows PySem.W
theorem adjust_rev (n : Nat) : Builtin.Slice.sliceAdjust none none (-1) (n : Int) = ((n : Int) - 1, -1) := by
  unfold Builtin.Slice.sliceAdjust
  rfl
theorem places_rev (n : Nat) : Builtin.Slice.slicePlaces ((n : Int) - 1) (-1) (-1) = n := by
  unfold Builtin.Slice.slicePlaces
  have h1 : ¬ ((-1 : Int) > 0) := by omega
  simp only [h1, if_false, show (- -1 : Int) = 1 from rfl, Int.ediv_one]
  split <;> omega
section
variable {prog : Program} {w : World} {A : Around} {E : Value → Shared → Prop} {s : Shared}
theorem sliceApplied_rev {sl : Addr} {vl vu vs : Value} {n : Nat} {Q : Int × Int × Nat → Shared → Prop} (hs : s.heap.IsSliceOf sl vl vu vs) (pl : IsPart vl none) (pu : IsPart vu none) (ps : IsPart vs (some (-1)))
    (h : Q ((n : Int) - 1, -1, n) s) : wpAny (model prog w) A (Builtin.Slice.sliceApplied (.ref sl) (pure (n : Int))) Q E s := by
  obtain ⟨os, hos, hcs, hds⟩ := id hs
  unfold Builtin.Slice.sliceApplied Builtin.Slice.sliceFields
  refine wpAny_bind (wpAny_bind (wpAny_field hos hds (x := vl) rfl (wpAny_bind (wpAny_field hos hds (x := vu) rfl (wpAny_bind (wpAny_field hos hds (x := vs) rfl (wpAny_pure ?_)))))))
  refine wpAny_bind (HT.slicePart_ ps ?_)
  show wpAny _ _ (if ((-1 : Int) == 0) = true then _ else _) _ _ s
  rw [if_neg (by decide)]
  refine wpAny_bind (HT.slicePart_ pl (wpAny_bind (HT.slicePart_ pu (wpAny_bind (wpAny_pure ?_)))))
  show wpAny _ _ (match Builtin.Slice.sliceAdjust none none (-1) (n : Int) with | (lo, hi) => pure (lo, (-1 : Int), Builtin.Slice.slicePlaces lo hi (-1))) _ _ s
  rw [adjust_rev n]
  show wpAny _ _ (pure ((n : Int) - 1, (-1 : Int), Builtin.Slice.slicePlaces ((n : Int) - 1) (-1) (-1))) _ _ s
  rw [places_rev]
  exact wpAny_pure h
theorem pick_rev (xs : Array Value) : ((List.range xs.size).filterMap fun (m : Nat) => xs[(((xs.size : Nat) : Int) - 1 + (m : Int) * (-1)).toNat]?).toArray = xs.toList.reverse.toArray := by
  have e : (List.range xs.size).filterMap (fun (m : Nat) => xs[(((xs.size : Nat) : Int) - 1 + (m : Int) * (-1)).toNat]?) = ((List.range xs.size).map fun k => xs.size - 1 - k).filterMap (xs[·]?) := by
    rw [List.filterMap_map]
    congr 1
    funext m
    show xs[(((xs.size : Nat) : Int) - 1 + (m : Int) * (-1)).toNat]? = xs[xs.size - 1 - m]?
    have q : (((xs.size : Nat) : Int) - 1 + (m : Int) * (-1)).toNat = xs.size - 1 - m := by omega
    rw [q]
  rw [e, krv_range, List.filterMap_reverse, krv_all]
theorem getItem_tuple_rev {t sl : Addr} {items : Array Value} {vl vu vs : Value} {Q : Value → Shared → Prop} (ht : IsTup s.heap t items) (hs : s.heap.IsSliceOf sl vl vu vs) (pl : IsPart vl none) (pu : IsPart vu none) (ps : IsPart vs (some (-1)))
    (h : Q (.ref s.heap.objs.size) { s with heap := s.heap.push { cls := .type "tuple", data := .seq items.toList.reverse.toArray } })
    (hsz : items.size ≤ sizeLine) : wpAny (model prog w) A (getItem (.ref t) (.ref sl)) Q E s := by
  have htake : sizeOk (.seq items.toList.reverse.toArray) := by
    show items.toList.reverse.toArray.size ≤ sizeLine
    rw [List.size_toArray, List.length_reverse, Array.length_toList]
    exact hsz
  obtain ⟨os, hos, hcs, hds⟩ := id hs
  have hTs : s.TypeIs (.ref sl) "slice" := ⟨os, hos, hcs⟩
  unfold getItem
  try with_reducible refine wpAny_holding ?_
  first | refine wpAny_bind (wpAny_pure ?_) | skip
  refine wpAny_bind (wpAny_sequenceKey ht.typeIs (by decide) ?_)
  refine wpAny_bind (wpAny_callSpecial?_slot (name := Str.ofString "__getitem__") ht.typeIs PyProof.Rows.slot_tuple_getitem
    (wpAny_call_entry PyProof.Rows.slot_tuple_getitem ht.typeIs entry_tuple_getitem ?_ (args_tuple_getitem _ _)))
  show wpAny _ _ (Builtin.Tuple.tupleItemsOf (.ref t) >>= _) _ _ s
  refine wpAny_bind (tupleItemsOf_ ht ?_)
  refine wpAny_bind (wpAny_typeOf hTs ?_)
  rw [if_pos (by decide)]
  refine wpAny_bind (sliceApplied_rev hs pl pu ps ?_)
  show wpAny _ _ (if ((((items.size : Nat) : Int) - 1) == 0 && (-1 : Int) == 1 && items.size == items.size) = true then _ else _) _ _ s
  rw [if_neg (by rw [show ((-1 : Int) == 1) = false from rfl, Bool.and_false, Bool.false_and]; exact Bool.false_ne_true), pick_rev]
  first
    | exact wpAny_bind (m := Builtin.Tuple.tupleExact _) (wpAny_newObj_type (wpAny_pure ⟨_, rfl, wpAny_pure h⟩) htake)
    | exact wpAny_bind (m := Builtin.Tuple.tupleExact _) (wpAny_newObj_type (wpAny_bind (wpAny_pure (wpAny_pure ⟨_, rfl, wpAny_pure h⟩))) htake)
    | exact wpAny_bind (wpAny_bind (m := Builtin.Tuple.tupleExact _) (wpAny_newObj_type (wpAny_pure (wpAny_pure ⟨_, rfl, wpAny_pure h⟩)) htake))
    | exact wpAny_bind (wpAny_bind (m := Builtin.Tuple.tupleExact _) (wpAny_newObj_type (wpAny_pure ⟨_, rfl, wpAny_pure h⟩) htake))
end
set_option maxHeartbeats 1000000 in
theorem meets_enumerate_newT {v : Value} {o : Obj} {H : Heap → Prop} (B : Begins v o H) :
    Meets (Builtin.«enumerate.__new__» ⟨[.type "enumerate", v], []⟩) (fun _ R s => H s.heap ∧
      R (.ok (.ret (.ref (s.heap.push o).objs.size))) { s with heap := (s.heap.push o).push { cls := .type "enumerate", data := .fields #[.none, .bool false, .ref s.heap.objs.size, rawInt 0, .none, .none] } }) :=
  .of_wp fun prog w A R s h => by
    obtain ⟨hp, g, d, tk, os⟩ := s; obtain ⟨h1, h⟩ := h
    have hsub := sub_enumerate
    have q1 : ∀ {A' : Around} {E : Value → Shared → Prop} {Q : Value → Shared → Prop}, Q (.ref hp.objs.size) ⟨hp.push o, g, d, tk, os⟩ → wpAny (model prog w) A' (pyIter v) Q E ⟨hp, g, d, tk, os⟩ :=
      fun q => B.iter prog w _ _ ⟨hp, g, d, tk, os⟩ _ h1 q
    wp_walk using q1
    refine wpAny_stack_any fun st => wpAny_pure ?_
    split
    · rename_i c _ _ _ _ _
      cases (c == Value.type "enumerate")
      · wp_walk using q1
        exact ⟨_, rfl, h⟩
      · wp_walk using q1
        exact ⟨_, rfl, h⟩
    · wp_walk using q1
      exact ⟨_, rfl, h⟩
section
variable {prog : Program} {w : World} {A : Around} {E : Value → Shared → Prop} {s : Shared}
theorem call_enumerate_tuple {t : Addr} {items : Array Value} {Q : Value → Shared → Prop} (hL : s.heap.IsTuple t items)
    (h : ∀ h', IsEnum h' (s.heap.objs.size + 1) s.heap.objs.size 0 .none → h'.IsTupleIter s.heap.objs.size t 0 → h'.objs.size = s.heap.objs.size + 2 →
      (∀ b o, s.heap.get? b = some o → h'.get? b = some o) → Q (.ref (s.heap.objs.size + 1)) { s with heap := h' }) :
    wpAny (model prog w) A (call (.type "enumerate") [.ref t]) Q E s := by
  refine callType_new F.called_enumerate (by decide) (F.typeCall_enumerate_1 _) (F.newCall_enumerate_1 _) (fun obj => F.args_object_init_2 obj _) F.entry_enumerate_new
    (meets_enumerate_newT (begins_tuple t items)) ⟨hL, ?_⟩
  have hz : (s.heap.push { cls := .type "tuple_iterator", data := .fields #[.ref t, .int 0 0] }).objs.size = s.heap.objs.size + 1 := Heap.size_push ..
  show _ ∧ _
  rw [hz]
  have he : IsEnum ((s.heap.push { cls := .type "tuple_iterator", data := .fields #[.ref t, .int 0 0] }).push
      { cls := .type "enumerate", data := .fields #[.none, .bool false, .ref s.heap.objs.size, rawInt 0, .none, .none] }) (s.heap.objs.size + 1) s.heap.objs.size 0 .none := by
    have := Heap.get?_push_size (s.heap.push { cls := .type "tuple_iterator", data := .fields #[.ref t, .int 0 0] })
      (o := { cls := .type "enumerate", data := .fields #[.none, .bool false, .ref s.heap.objs.size, rawInt 0, .none, .none] }) rfl
    rw [hz] at this; exact this
  refine ⟨⟨_, he, rfl⟩, h _ he ⟨_, Heap.get?_push_of_some _ (Heap.get?_push_size _ rfl), rfl, rfl⟩ (by rw [Heap.size_push, hz]) fun b o x => Heap.get?_push_of_some _ (Heap.get?_push_of_some _ x)⟩
end
end SeqX
end PySem
namespace FW
open PySem PySem.Spec PyProof.Rows L2
section
variable {X : Cx}
/-- t[::-1] of a tuple -/
def tRevT (K : PySem.W.Frag) (te : TE) : TE := fun σ H Q => te σ H fun x H1 => ∃ a xs, x = .ref a ∧ SqT K H1 a xs ∧ ∀ p, H1 p = none → Q (.ref p) (upd H1 p (.tup xs.reverse))
theorem pe_revT {e : Expr} {te : TE} {k : Nat} {p1 p2 p3 pos : Pos} (he : PE X e te) : PE X (.Subscript e (.Slice none none (some (.UnaryOp .USub (.Constant (.int 1) k p1) p2)) p3) pos) (tRevT X.K te) := by
  refine ⟨fun pins s σ H Q I h => ?_⟩
  refine Subscript_ (thn (he.run pins s σ H _ I h) fun v s1 ⟨x, H1, I1, r1, q1⟩ => ?_)
  obtain ⟨a, xs, ex, hx, q⟩ := q1
  subst ex
  cases r1
  have hst : PO X (some (.UnaryOp .USub (.Constant (.int 1) k p1) p2)) (tPart (tUn (rU fun i => .int (-i)) (tC (.int 1)))) := po_some (pe_un un_neg pe_int)
  refine wpAny_Slice (thn (po_none.run pins s1 σ H1 (fun o H2 => o = none ∧ H2 = H1) I1 ⟨rfl, rfl⟩) fun vl s2 ⟨l, H2, I2, pl, el, e2⟩ => ?_)
  subst el e2
  refine thn (po_none.run pins s2 σ H2 (fun o H3 => o = none ∧ H3 = H2) I2 ⟨rfl, rfl⟩) fun vu s3 ⟨u, H3, I3, pu, eu, e3⟩ => ?_
  subst eu e3
  refine thn (hst.run pins s3 σ H3 (fun o H4 => o = some (-1) ∧ H4 = H3) I3 ⟨1, rfl, -1, rfl, rfl, rfl⟩) fun vs s4 ⟨o, H4, I4, ps, eo, e4⟩ => ?_
  subst eo e4
  have I5 : Inv X pins σ H4 { s4 with heap := s4.heap.push { cls := .type "slice", data := .fields #[vl, vu, vs] } } := I4.kept (t' := s4.toks) fun b ob q => Heap.get?_push_of_some _ q
  obtain ⟨its, r, ht, hz⟩ := I5.tuple hx
  have hlen := r.length
  show wpAny (model X.prog X.w) X.A (subscriptTail e (.Slice none none (some (.UnaryOp .USub (.Constant (.int 1) k p1) p2)) p3) (.ref a) (.ref s4.heap.objs.size)) (EP X pins σ Q) X.xe { s4 with heap := s4.heap.push { cls := .type "slice", data := .fields #[vl, vu, vs] } }
  refine tail_any (ops := [.ref a, .ref s4.heap.objs.size]) ht.typeIs (PyProof.Rows.slot_tuple_getitem.lookup) ?_ (by with_unfolding_all rfl)
  refine SeqX.getItem_tuple_rev ht (Heap.IsSliceOf.new _ vl vu vs) pl pu ps ?_ (by rw [List.size_toArray]; omega)
  refine ⟨.ref _, _, I5.laid (t' := s4.toks) (o := .tup xs.reverse) (fun b ob q => Heap.get?_push_of_some _ q) (Nat.le_refl _) ?_, rfl, q _ (I5.hok.fresh (Nat.le_refl _))⟩
  exact ⟨by rw [List.length_reverse]; exact hz, _, r.reverse, IsTup.new _ _⟩
/-- one reading or another -/
def tEither (t u : TE) : TE := fun σ H Q => t σ H Q ∨ u σ H Q
theorem pe_either {e : Expr} {t u : TE} (h1 : PE X e t) (h2 : PE X e u) : PE X e (tEither t u) := ⟨fun pins s σ H Q I h => by
  rcases h with h | h
  · exact h1.run pins s σ H Q I h
  · exact h2.run pins s σ H Q I h⟩
def iEither (t u : TI) : TI := fun σ H Q => t σ H Q ∨ u σ H Q
theorem pi_either {tg e : Expr} {t u : TI} (h1 : PI X tg e t) (h2 : PI X tg e u) : PI X tg e (iEither t u) := ⟨fun pins s σ H Q I h => by
  rcases h with h | h
  · exact h1.run pins s σ H Q I h
  · exact h2.run pins s σ H Q I h⟩
/-! ### enumerate(tuple) -/
def IteT (K : PySem.W.Frag) (a : Addr) : It :=
  ⟨fun i H => ∃ (xs : List V) (x : V), SqT K H a xs ∧ xs[i]? = some x, fun i H v H' => ∃ T x, v = .ref T ∧ H T = none ∧ H' = upd H T (.tup [.int (i : Nat), x]) ∧ ∀ xs, SqT K H a xs → xs[i]? = some x, fun i H => ∃ xs : List V, SqT K H a xs ∧ xs.length = i⟩
theorem turn_enumT {P : Program} {w : World} {K : PySem.W.Frag} {elts : List Expr} {kk : Nat} {tpos : Pos} (a e it : Addr) :
    Turn P w K (.Tuple elts kk tpos) (IteT K a) [e, it] e (fun i h => (∃ old, IsEnum h e it ((i : Nat) : Int) old) ∧ h.IsTupleIter it a i ∧ e ≠ it) where
  mem := by simp
  obj := fun i h st b hb => by
    obtain ⟨⟨old, he⟩, ⟨o, ho, hc, hd⟩, _⟩ := st
    have e' : b = e ∨ b = it := by simpa using hb
    rcases e' with z | z
    · rw [z]; exact ⟨_, he, fun v q => nomatch q⟩
    · rw [z]; exact ⟨o, ho, fun v q => by rw [hd] at q; cases q⟩
  keep := fun i h h' st k => let ⟨⟨old, he⟩, hi, hne⟩ := st; ⟨⟨old, k e (by simp) _ he⟩, hi.at fun o q => k it (by simp) o q, hne⟩
  item := by
    intro X hP hw hK hc i pins s σ H E I hf st hg
    subst hP hw hK
    obtain ⟨⟨old, he⟩, hit, hne⟩ := st
    obtain ⟨xs, x, hq, hx⟩ := hg
    obtain ⟨its, rv, p, hz⟩ := I.tuple hq
    obtain ⟨u, hu, ru⟩ := rv.get hx
    have hel : e < s.heap.objs.size := Heap.lt_size he
    have hil : it < s.heap.objs.size := by obtain ⟨_, q, _⟩ := hit; exact Heap.lt_size q
    have hia : a ≠ it := by
      obtain ⟨o1, q1, c1, _⟩ := hit
      obtain ⟨o2, q2, c2, _⟩ := p
      intro z
      rw [z, q1] at q2
      cases q2
      rw [c1] at c2
      exact absurd c2 (by decide)
    have hea : e ∉ [it, a] := by
      intro z
      rcases List.mem_cons.mp z with z | z
      · exact hne z
      · have z := List.mem_singleton.mp z
        obtain ⟨o2, q2, c2, _⟩ := p
        rw [← z, he] at q2
        cases q2
        exact absurd (show Value.type "enumerate" = Value.type "tuple" from c2) (by decide)
    have hilen : i < its.toArray.size := by
      have := (List.getElem?_eq_some_iff.mp hu).1
      rw [List.size_toArray]; exact this
    refine wpAny_pyNext_enum_itemD (Draws.tuple (A := X.A.in1) (show X.A.in1.handled = none from I.ok.hd hc) it a hia its.toArray) he ⟨hit, p⟩ hilen hne hea fun y h' tk hy ho hst hT hsz hk => ?_
    obtain ⟨hit', _⟩ := hst
    have ey : y = u := by
      have : its[i]? = some y := by simpa using hy
      rw [hu] at this; injection this with z; exact z.symm
    subst ey
    refine ⟨_, rfl, wpAny_letOwnedTupleGo_enum (s := { s with heap := h', toks := tk + 1 }) ho fun h'' he' sb => ?_⟩
    have hT2 : h''.get? s.heap.objs.size = some { cls := .type "tuple", data := .seq #[.int i tk, y] } := (sb.2 _ (Nat.ne_of_gt hel)).trans hT
    have new : ObjOk X.prog X.w (upd H s.heap.objs.size (.tup [.int (i : Nat), x])) h'' s.heap.objs.size (.tup [.int (i : Nat), x]) :=
      ⟨by show 2 ≤ sizeLine; decide, [.int i tk, y], .cons ⟨_, rfl⟩ (.cons ru .nil), ⟨_, hT2, rfl, _, rfl⟩⟩
    have I1 : Inv X pins σ (upd H s.heap.objs.size (.tup [.int (i : Nat), x])) { s with heap := h'', toks := tk + 1 } :=
      I.turnedNew (ch := [e, it]) (fun b ob hb q => (sb.2 b (fun z => hb (by simp [z]))).trans (hk b ob (fun z => hb (by simp [z])) (fun z => hb (by simp [z])) q)) hf (Nat.le_refl _) new
    refine ⟨.ref s.heap.objs.size, _, I1, rfl, ⟨_, x, rfl, I.hok.fresh (Nat.le_refl _), rfl, fun ys hy => by rw [I.tuple_inj hy hq]; exact hx⟩, ⟨⟨y, ?_⟩, hit'.at fun o q => (sb.2 it (Ne.symm hne)).trans q, hne⟩, fun b hb => ?_⟩
    · have e1 : ((i + 1 : Nat) : Int) = (i : Int) + 1 := by omega
      rw [e1]; exact he'
    · have hb' : b < s.heap.objs.size := by
        have e' : b = e ∨ b = it := by simpa using hb
        rcases e' with z | z
        · rw [z]; exact hel
        · rw [z]; exact hil
      rw [upd_ne (Nat.ne_of_lt hb')]
      exact (hf b hb).1
  done := by
    intro X hP hw hK hc i pins s σ H E I hf st hg
    subst hP hw hK
    obtain ⟨⟨old, he⟩, hit, hne⟩ := st
    obtain ⟨xs, hq, hx⟩ := hg
    obtain ⟨its, rv, p, hz⟩ := I.tuple hq
    obtain ⟨f0, f1, f2, f3, f4, f5⟩ := hf it (by simp)
    have hl := rv.length
    have hia : a ≠ it := by
      obtain ⟨o1, q1, c1, _⟩ := hit
      obtain ⟨o2, q2, c2, _⟩ := p
      intro z
      rw [z, q1] at q2
      cases q2
      rw [c1] at c2
      exact absurd c2 (by decide)
    have hn : its.toArray.size = i := by rw [List.size_toArray]; omega
    exact wpAny_pyNext_enum_endD (Draws.tuple (A := X.A.in1) (show X.A.in1.handled = none from I.ok.hd hc) it a hia its.toArray) he ⟨by rw [hn]; exact hit, p⟩ fun h' eb => ⟨rfl, I.turned (t' := s.toks) (fun b o hb q => eb b o hb q) f0 f1 f3 f4 f5⟩
  self := fun A i s Q E st h => let ⟨⟨_, he⟩, _⟩ := st; wpAny_pyIter_enum he h
def iEnumT (K : PySem.W.Frag) (ta : TA) : TI := fun σ H R => ta σ H fun vs H1 => ∃ a xs, vs = [.ref a] ∧ SqT K H1 a xs ∧ R (IteT K a) H1
theorem pi_enumT {e : Expr} {ta : TA} {p pos tpos : Pos} {elts : List Expr} {kk : Nat} (hg : Gl X "enumerate") (hm : X.mg "enumerate" = none) (ha : PA X [e] ta) (hs : starEach [e] X.env = [(false, eval e X.env)] := by rfl) :
    PI X (.Tuple elts kk tpos) (.Call (.Name "enumerate" p) [e] [] pos) (iEnumT X.K ta) := by
  refine ⟨fun pins s σ H R I h => ?_⟩
  refine Call_ (ld_blt I hg hm boot_enumerate (PyProof.Rows.callWith_type1 (thn (ha.run pos pins s σ H _ I h) fun us s1 ⟨vs, H1, I1, r1, q1⟩ => ?_) hs rfl))
  obtain ⟨a, xs, ex, hq, q⟩ := q1
  subst ex
  cases r1 with
  | cons r rr =>
    cases rr
    cases r
    obtain ⟨its, rv, p', hz⟩ := I1.tuple hq
    refine SeqX.call_enumerate_tuple p' fun h' he hit hsz hk => wpAny_pyIter_enum he ?_
    have I2 : Inv X pins σ H1 { s1 with heap := h' } := I1.kept (t' := s1.toks) hk
    refine ⟨s1.heap.objs.size + 1, [s1.heap.objs.size + 1, s1.heap.objs.size], _, _, H1, rfl, I2, turn_enumT a (s1.heap.objs.size + 1) s1.heap.objs.size, ⟨⟨.none, he⟩, hit, Nat.succ_ne_self _⟩, fun b hb => ?_, q⟩
    have e' : b = s1.heap.objs.size + 1 ∨ b = s1.heap.objs.size := by simpa using hb
    have hle : s1.heap.objs.size ≤ b := by
      rcases e' with z | z
      · rw [z]; exact Nat.le_add_right _ _
      · rw [z]; exact Nat.le_refl _
    exact I1.fpOk hle (I1.hok.fresh hle)
end
end FW
namespace FW
open PySem PySem.Spec PyProof.Rows L2
section
variable {X : Cx}
theorem get_list : PGet X (rIxL X.K) := by
  intro pins s σ H x y v u Q I rx ry h
  obtain ⟨p, xs, i, z, rfl, rfl, hq, he, q⟩ := h
  cases rx
  obtain ⟨t, rfl⟩ := ry
  obtain ⟨its, r, pl, hz⟩ := I.list hq
  obtain ⟨j, h1, h2, h3, h4, h5⟩ := atI_get he
  obtain ⟨w, ew, rw'⟩ := r.get h2
  have hl := r.length
  have hn := line63
  have fin : EP X pins σ Q w s := ⟨z, H, I, rw', q⟩
  by_cases h0 : 0 ≤ i
  · have hj : i.toNat = j := by
      rw [seqIndex_of h0 h5] at h1
      exact Option.some.inj h1
    exact wpAny_getItem_list pl.isList h0 (by omega) (by rw [hj]; simpa using ew) fin
  · have hj : (i + (its.toArray.size : Int)).toNat = j := by
      rw [seqIndex_neg (by omega) h4] at h1
      rw [List.size_toArray, ← hl]
      exact Option.some.inj h1
    exact wpAny_getItem_list_neg pl.isList (by omega) (by rw [List.size_toArray] <;> omega) (by omega) (by rw [hj]; simpa using ew) fin
theorem walk_enumT {K : PySem.W.Frag} {a : Addr} {xs : List V} : Walk (IteT K a) xs.length (fun H => SqT K H a xs) (YPair (fun i => some (.int (i : Nat))) (fun i => xs[i]?)) := by
  refine ⟨fun i _ hi q => ⟨xs, xs[i], q, by simp [hi]⟩, fun _ q => ⟨xs, q, rfl⟩, fun i H v H' _ q y => ?_⟩
  obtain ⟨T, x, h1, h2, h3, h4⟩ := y
  exact ⟨T, .int (i : Nat), x, h1, h2, h3, rfl, h4 xs q⟩
end
abbrev rShl : R2 := rI CPow fun i j => .int (i * 2 ^ j.toNat)
theorem opShl {X : Cx} : OpR X (binaryOp .LShift) rShl := op_shl
end FW
local macro_rules | `(tactic| walk_at "re1") => `(tactic| with_reducible first
  | refine FW.e_var ?_ (by with_unfolding_all rfl) | refine FW.e_c ?_ | refine FW.e_op ?_ | refine FW.e_un ?_ | refine FW.e_U ?_ | refine FW.e_I0 ?_ | refine FW.e_I ?_ ?_ | refine FW.e_ip ?_
  | refine FW.e_test ?_ | refine FW.e_tB ?_ | refine FW.e_bl ?_ | refine FW.e_not ?_ | refine FW.e_and ?_ | refine FW.e_or ?_ | refine FW.e_andV ?_ | refine FW.e_orV ?_ | refine FW.e_notV ?_ | refine FW.e_ifx ?_
  | refine FW.e_nil ?_ | refine FW.e_cons ?_ | refine FW.e_call ?_ | refine FW.e_cb ?_ | refine FW.e_lst ?_ | refine FW.e_tup ?_ | refine FW.e_int ?_ | refine FW.e_intB ?_ | refine FW.e_abs ?_ | refine FW.e_max2 ?_ | refine FW.e_min2 ?_
  | refine FW.e_eq ?_ rfl | refine FW.e_ne ?_ rfl | refine FW.e_isN ?_ | refine FW.e_notN ?_ | refine FW.e_chain ?_ | refine FW.e_T ?_ | refine FW.e_F ?_ | refine FW.e_nT ?_ | refine FW.e_nF ?_ | refine FW.s_par2 ?_ | refine FW.i_rng1' ?_ ?_ | refine FW.i_rng2' ?_ ?_ | refine FW.g_sub ?_ | refine FW.e_lc ?_ | refine FW.e_yes ?_ | refine FW.e_bm ?_ | refine FW.e_bm0 ?_ | refine FW.e_mk ?_ | refine FW.e_mt ?_ | refine FW.e_fldk ?_ | refine FW.g_name ?_ | refine FW.g_nil ?_ | refine FW.g_cons ?_)
local macro_rules | `(tactic| walk_at "rs1") => `(tactic| with_reducible first
  | refine FW.s_seq ?_ | refine FW.s_asg ?_ | refine FW.s_ret ?_ | refine FW.s_if ?_ | refine FW.s_next ?_ | refine FW.s_drop ?_ | refine FW.s_fld ?_ | refine FW.s_par ?_ | refine FW.s_aug ?_ (by with_unfolding_all rfl) | refine FW.s_asgG ?_ | refine FW.s_for ?_ | refine FW.i_rng1 ?_ | refine FW.i_rng2 ?_ | refine FW.i_list ?_ | refine FW.i_tup ?_)
local macro_rules | `(tactic| walk_at "re") => `(tactic| repeat (walk_at "re1"))
local macro_rules | `(tactic| walk_at "rd") => `(tactic| repeat (first | walk_at "rs1" | walk_at "re1"))
namespace FWL
open PySem PySem.Spec PyProof.Rows L2 FW
/-! ### is_whole, is_whole_from -/
def tyNames : List String := ["NoneType", "bool", "int", "str", "float", "list", "tuple", "dict"]
/-- a thing of a built-in kind -/
def WT (K : PySem.W.Frag) (H : Hp) (v : V) (n : String) : Prop := TyX K H v (.type n) ∧ n ∈ tyNames
def isInt : V → Bool
  | .int _ => true
  | _ => false
def isStr : V → Bool
  | .str _ => true
  | _ => false
def iv : V → Int
  | .int i => i
  | _ => 0
def fromI (v : V) (l : Int) : Bool := isInt v && decide (l ≤ iv v)
theorem WT.isInt {K : PySem.W.Frag} {H : Hp} {v : V} {n : String} (h : WT K H v n) : isInt v = decide (n = "int") := by
  obtain ⟨h, _⟩ := h
  generalize ht : Value.type n = t at h
  cases h with
  | base b => cases b <;> first | (cases ht; rfl) | (injection ht with e; subst e; rfl) | cases ht
  | _ => injection ht with e; subst e; rfl
theorem WT.isStr {K : PySem.W.Frag} {H : Hp} {v : V} {n : String} (h : WT K H v n) : isStr v = decide (n = "str") := by
  obtain ⟨h, _⟩ := h
  generalize ht : Value.type n = t at h
  cases h with
  | base b => cases b <;> first | (cases ht; rfl) | (injection ht with e; subst e; rfl) | cases ht
  | _ => injection ht with e; subst e; rfl
theorem isInt_of {v : V} (h : isInt v = true) : ∃ i, v = .int i := by cases v <;> first | exact ⟨_, rfl⟩ | cases h
theorem isStr_of {v : V} (h : isStr v = true) : ∃ i, v = .str i := by cases v <;> first | exact ⟨_, rfl⟩ | cases h
theorem WT.i {K : PySem.W.Frag} {H : Hp} (i : Int) : WT K H (.int i) "int" := ⟨.base (.int i), by decide⟩
theorem WT.s {K : PySem.W.Frag} {H : Hp} (i : Str) : WT K H (.str i) "str" := ⟨.base (.str i), by decide⟩
theorem WT.non {K : PySem.W.Frag} {H : Hp} : WT K H .non "NoneType" := ⟨.base .non, by decide⟩
theorem WT.bl {K : PySem.W.Frag} {H : Hp} (b : Bool) : WT K H (.bl b) "bool" := ⟨.base (.bl b), by decide⟩
theorem WT.lst {K : PySem.W.Frag} {H : Hp} {a : Addr} {xs : List V} (h : H a = some (.lst xs)) : WT K H (.ref a) "list" := ⟨.base (.lst h), by decide⟩
theorem WT.tup {K : PySem.W.Frag} {H : Hp} {a : Addr} {xs : List V} (h : H a = some (.tup xs)) : WT K H (.ref a) "tuple" := ⟨.base (.tup h), by decide⟩
theorem kitI {n : String} (h : n ∈ tyNames) : kitB n "int" = some (decide (n = "int" ∨ n = "bool")) := by
  simp only [tyNames, List.mem_cons, List.not_mem_nil, or_false] at h
  rcases h with rfl | rfl | rfl | rfl | rfl | rfl | rfl | rfl <;> decide +kernel
theorem kitBl {n : String} (h : n ∈ tyNames) : kitB n "bool" = some (decide (n = "bool")) := by
  simp only [tyNames, List.mem_cons, List.not_mem_nil, or_false] at h
  rcases h with rfl | rfl | rfl | rfl | rfl | rfl | rfl | rfl <;> decide +kernel
theorem kitS {n : String} (h : n ∈ tyNames) : kitB n "str" = some (decide (n = "str")) := by
  simp only [tyNames, List.mem_cons, List.not_mem_nil, or_false] at h
  rcases h with rfl | rfl | rfl | rfl | rfl | rfl | rfl | rfl <;> decide +kernel
theorem e_isi {K : PySem.W.Frag} {H : Hp} {Q : VK} {v : V} {n m : String} {b : Bool} (k : Q (.bl b) H) (h : WT K H v n) (hk : kitB n m = some b) : rIsi K [v, .ty m] H Q :=
  ⟨v, .ty m, .type n, .type m, b, rfl, .ty m, h.1, kit_ty hk, k⟩
def sp_is_whole (K : PySem.W.Frag) : Sp := fun vs H Q _ => ∃ (v : V) (n : String), vs = [v] ∧ WT K H v n ∧ Q (.bl (isInt v)) H
def rd_is_whole (K : PySem.W.Frag) : TS := tRet (tAndV (tCB (rIsi K) (tCons (tVar 0) (tCons (tC (.ty "int")) (tNil)))) (tNotV (tCB (rIsi K) (tCons (tVar 0) (tCons (tC (.ty "bool")) (tNil))))))
theorem pure_is_whole (K : PySem.W.Frag) (vs : List V) (H : Hp) (Q : VK) (E : XK) (h : sp_is_whole K vs H Q E) : rd_is_whole K { nx := fun _ H' => Q .non H', rt := Q } (start ["thing"] vs) H := by
  obtain ⟨v, n, rfl, hv, q⟩ := h
  have e := hv.isInt
  unfold rd_is_whole
  walk_at "rd"
  refine e_isi ?_ hv (kitI hv.2)
  refine ?_
  walk_at "rd"
  refine e_ite (fun h => ?_) (fun h => ?_)
  · walk_at "rd"
    refine e_isi ?_ hv (kitBl hv.2)
    walk_at "rd"
    show Q (.bl (!decide (n = "bool"))) H
    have : (!decide (n = "bool")) = isInt v := by
      rw [e]
      rcases h with rfl | rfl <;> decide
    rw [this]; exact q
  · have : isInt v = false := by
      rw [e]; exact decide_eq_false fun z => h (.inl z)
    rw [this] at q; exact q
def sp_is_whole_from (K : PySem.W.Frag) : Sp := fun vs H Q _ => ∃ (v : V) (n : String) (l : Int), vs = [v, .int l] ∧ WT K H v n ∧ Q (.bl (fromI v l)) H
def rd_is_whole_from (K : PySem.W.Frag) : TS := tRet (tAndV (tCall (sp_is_whole K) [] E0 (tCons (tVar 0) (tNil))) (tOp FW.rGe (tVar 0) (tVar 1)))
theorem pure_is_whole_from (K : PySem.W.Frag) (vs : List V) (H : Hp) (Q : VK) (E : XK) (h : sp_is_whole_from K vs H Q E) : rd_is_whole_from K { nx := fun _ H' => Q .non H', rt := Q } (start ["thing", "least"] vs) H := by
  obtain ⟨v, n, l, rfl, hv, q⟩ := h
  unfold rd_is_whole_from
  walk_at "rd"
  refine ⟨v, n, rfl, hv, ?_⟩
  walk_at "rd"
  refine e_iteB (fun h => ?_) (fun h => ?_)
  · obtain ⟨i, rfl⟩ := isInt_of h
    walk_at "rd"
    have : fromI (.int i) l = decide (l ≤ i) := Bool.true_and _
    rw [this] at q; exact q
  · have : fromI v l = false := by simp [fromI, h]
    rw [this] at q; exact q
/-! ### check_number, check_start where nothing is raised -/
def sp_check_number (K : PySem.W.Frag) : Sp := fun vs H Q _ => ∃ n : Int, vs = [.int n] ∧ 0 ≤ n ∧ Q .non H
def sp_check_start (K : PySem.W.Frag) : Sp := fun vs H Q _ => ∃ n : Int, vs = [.int n] ∧ 1 ≤ n ∧ Q .non H
def rd_check_number (K : PySem.W.Frag) : TS := tIfS (tNot (tB (tCall (sp_is_whole_from K) [] E0 (tCons (tVar 0) (tCons (tC (.int 0)) (tNil)))))) (tNever) (tNext)
def rd_check_start (K : PySem.W.Frag) : TS := tIfS (tNot (tB (tCall (sp_is_whole_from K) [] E0 (tCons (tVar 0) (tCons (tC (.int 1)) (tNil)))))) (tNever) (tNext)
theorem pure_check_number (K : PySem.W.Frag) (vs : List V) (H : Hp) (Q : VK) (E : XK) (h : sp_check_number K vs H Q E) : rd_check_number K { nx := fun _ H' => Q .non H', rt := Q } (start ["n"] vs) H := by
  obtain ⟨n, rfl, hn, q⟩ := h
  unfold rd_check_number
  walk_at "rd"
  refine ⟨_, _, _, rfl, WT.i n, ?_⟩
  have : fromI (.int n) 0 = true := by simp [fromI, isInt, iv, hn]
  rw [this]
  walk_at "rd"
  exact q
theorem pure_check_start (K : PySem.W.Frag) (vs : List V) (H : Hp) (Q : VK) (E : XK) (h : sp_check_start K vs H Q E) : rd_check_start K { nx := fun _ H' => Q .non H', rt := Q } (start ["x"] vs) H := by
  obtain ⟨n, rfl, hn, q⟩ := h
  unfold rd_check_start
  walk_at "rd"
  refine ⟨_, _, _, rfl, WT.i n, ?_⟩
  have : fromI (.int n) 1 = true := by simp [fromI, isInt, iv, hn]
  rw [this]
  walk_at "rd"
  exact q

def rd_power_L1 (K : PySem.W.Frag) : TS := tAug 2 (tVar 0) FW.iMul
def rd_power (K : PySem.W.Frag) : TS := tSeq (tAsg (tC (.int 1)) (gName 2)) (tSeq (tFor (iRng1 (tCons (tVar 1) (tNil))) (gName 3) (rd_power_L1 K)) (tRet (tVar 2)))
/-- x ^ k, x below 2 ^ b -/
def sp_power (K : PySem.W.Frag) : Sp := fun vs H Q _ => ∃ (x k : Int) (b : Nat), vs = [.int x, .int k] ∧ 0 ≤ k ∧ x.natAbs < 2 ^ b ∧ 0 < b ∧ (k.toNat + 1) * b ≤ 900000 ∧ Q (.int (x ^ k.toNat)) H
theorem pow_lt {x : Int} {b : Nat} (h : x.natAbs < 2 ^ b) (hb : 0 < b) : ∀ n : Nat, (x ^ n).natAbs < 2 ^ (n * b + 1)
  | 0 => by simp
  | n + 1 => by
    have ih := pow_lt h hb n
    rw [Int.pow_succ, Int.natAbs_mul, Nat.add_mul, Nat.one_mul, Nat.add_right_comm, Nat.pow_add]
    exact Nat.mul_lt_mul'' ih h
theorem pure_power (K : PySem.W.Frag) (vs : List V) (H : Hp) (Q : VK) (E : XK) (h : sp_power K vs H Q E) : rd_power K { nx := fun _ H' => Q .non H', rt := Q } (start ["x", "k", "found", "turn"] vs) H := by
  obtain ⟨x, k, b, rfl, hk, hx, hb, hz, q⟩ := h
  unfold rd_power
  walk_at "rd"
  refine for_range (lo := 0) (n := k.toNat) (fun i σ H' => H' = H ∧ ∃ v, σ = [some (.int x), some (.int k), some (.int (x ^ i)), v]) ⟨rfl, _, by rw [Int.pow_zero]; rfl⟩ ?_ ?_
  · rintro i σ H' hi ⟨rfl, v, rfl⟩
    show rd_power_L1 K _ _ _
    unfold rd_power_L1
    walk_at "rd"
    · exact ⟨rfl, _, by rw [Int.pow_succ]; rfl⟩
    · refine wide_mul (pow_lt hx hb i) hx (by omega) hb ?_
      have : (i + 1) * b ≤ (k.toNat + 1) * b := Nat.mul_le_mul_right _ (by omega)
      rw [Nat.add_mul] at this
      omega
  · rintro σ H' ⟨rfl, v, rfl⟩
    walk_at "rd"
    exact q
  · have : k.toNat * 1 ≤ k.toNat * b := Nat.mul_le_mul_left _ hb
    rw [Nat.add_mul] at hz
    omega

/-! ### words -/
def wordOf (v : V) (ws : List V) : Bool := isStr v && inV v ws
def sp_is_word_of (K : PySem.W.Frag) : Sp := fun vs H Q _ => ∃ (v : V) (n : String) (a : Addr) (ws : List V), vs = [v, .ref a] ∧ WT K H v n ∧ SqT K H a ws ∧ ws.all flatV = true ∧ Q (.bl (wordOf v ws)) H
def rd_is_word_of (K : PySem.W.Frag) : TS := tRet (tAndV (tCB (rIsi K) (tCons (tVar 0) (tCons (tC (.ty "str")) (tNil)))) (tOp (rIn K false) (tVar 0) (tVar 1)))
theorem pure_is_word_of (K : PySem.W.Frag) (vs : List V) (H : Hp) (Q : VK) (E : XK) (h : sp_is_word_of K vs H Q E) : rd_is_word_of K { nx := fun _ H' => Q .non H', rt := Q } (start ["thing", "words"] vs) H := by
  obtain ⟨v, n, a, ws, rfl, hv, hw, hf, q⟩ := h
  have e := hv.isStr
  unfold rd_is_word_of
  walk_at "rd"
  refine e_isi ?_ hv (kitS hv.2)
  refine ?_
  walk_at "rd"
  refine e_ite (fun h => ?_) (fun h => ?_)
  · rw [decide_eq_true h] at e
    obtain ⟨x, rfl⟩ := isStr_of e
    walk_at "rd"
    refine e_in ?_ (.inr hw) rfl hf
    exact q
  · rw [decide_eq_false h] at e
    have : wordOf v ws = false := by simp [wordOf, e]
    rw [this] at q; exact q
def stopsV : List V := [.str "notless", .str "equal", .str "near1", .str "near2", .str "back", .str "under", .str "held"]
def toldsV : List V := [.str "old", .str "new", .str "less", .str "more"]
def mendsV : List V := [.str "none", .str "down", .str "up", .str "both"]
def looksV : List V := [.str "under", .str "held"]
/-- what the text's top holds for averages -/
structure AvK (K : PySem.W.Frag) : Prop where
  cls : Cls K (He.ga K "Average")
  n_k : NoAttr K (He.ga K "Average") "k"
  n_a : NoAttr K (He.ga K "Average") "a"
  n_c : NoAttr K (He.ga K "Average") "c"
  n_d : NoAttr K (He.ga K "Average") "d"
  n_stop : NoAttr K (He.ga K "Average") "stop"
  n_told : NoAttr K (He.ga K "Average") "told"
  n_mend : NoAttr K (He.ga K "Average") "mend"
  stops : ∀ H, SqT K H (He.ga K "STOPS") stopsV
  tolds : ∀ H, SqT K H (He.ga K "TOLDS") toldsV
  mends : ∀ H, SqT K H (He.ga K "MENDS") mendsV
  looks : ∀ H, SqT K H (He.ga K "LOOKS") looksV
/-- the first part that is not so -/
def wrongP (k a c d s t m : V) : V :=
  if (!isInt k || !inV k [.int 2, .int 3, .int 4]) = true then .str "k"
  else if (!isInt a || !(decide (1 ≤ iv a) && decide (iv a ≤ 5))) = true then .str "a"
  else if (!fromI c 1 || (decide (iv a < iv c * (iv k - 1)) || decide (6 < iv a + iv c))) = true then .str "c"
  else if (!isInt d || !(decide (-iv a ≤ iv d) && decide (iv d ≤ iv a + iv c))) = true then .str "d"
  else if (!wordOf s stopsV) = true then .str "stop"
  else if (!wordOf t toldsV || (inV s looksV && !decide (t = .str "old"))) = true then .str "told"
  else if wordOf m mendsV = true then .non else .str "mend"
def sp_wrong_part (K : PySem.W.Frag) : Sp := fun vs H Q _ => ∃ k a c d s t m : V, vs = [k, a, c, d, s, t, m] ∧ (∀ v ∈ [k, a, c, d, s, t, m], ∃ n, WT K H v n) ∧ (iv c).natAbs < 2 ^ 900 ∧
  ∀ H', Ext H H' → Q (wrongP k a c d s t m) H'
theorem WT.ext {K : PySem.W.Frag} {H H' : Hp} {v : V} {n : String} (e : Ext H H') (h : WT K H v n) : WT K H' v n := by
  obtain ⟨h, hn⟩ := h
  refine ⟨?_, hn⟩
  cases h with
  | base b =>
    refine .base ?_
    cases b with
    | non => exact .non
    | bl x => exact .bl x
    | int x => exact .int x
    | str x => exact .str x
    | flt x => exact .flt x
    | lst q => exact .lst (e _ _ q)
    | frz q => exact .frz (e _ _ q)
    | tup q => exact .tup (e _ _ q)
    | dK q => exact .dK (e _ _ q)
    | dT q => exact .dT (e _ _ q)
  | byt x => exact .byt x
  | set q => exact .set (e _ _ q)
  | kList q c => exact .kList q c
  | kTuple q c => exact .kTuple q c
  | kDict q c => exact .kDict q c
  | fTuple q => exact .fTuple (e _ _ q)
  | fDict q => exact .fDict (e _ _ q)
theorem or_ite {a b : Bool} {A B C : Prop} (h1 : (a || b) = true → A) (h2 : (a || b) = false → B) : if a = true then A else (if b = true then A else B) := by
  cases a <;> cases b <;> simp_all
def rd_wrong_part (K : PySem.W.Frag) : TS := tSeq (tIfS (tOr (tNot (tB (tCall (sp_is_whole K) [] E0 (tCons (tVar 0) (tNil))))) (tTest (tOp (rIn K true) (tVar 0) (tTup (tCons (tC (.int 2)) (tCons (tC (.int 3)) (tCons (tC (.int 4)) (tNil)))))))) (tRet (tC (.str "k"))) (tNext)) (tSeq (tIfS (tOr (tNot (tB (tCall (sp_is_whole K) [] E0 (tCons (tVar 1) (tNil))))) (tNot (tTest (tChain FW.rLe FW.rLe (tC (.int 1)) (tVar 1) (tC (.int 5)))))) (tRet (tC (.str "a"))) (tNext)) (tSeq (tIfS (tOr (tNot (tB (tCall (sp_is_whole_from K) [] E0 (tCons (tVar 2) (tCons (tC (.int 1)) (tNil)))))) (tOr (tTest (tOp FW.rLt (tVar 1) (tOp FW.rMul (tVar 2) (tOp FW.rSub (tVar 0) (tC (.int 1)))))) (tTest (tOp FW.rGt (tOp FW.rAdd (tVar 1) (tVar 2)) (tC (.int 6)))))) (tRet (tC (.str "c"))) (tNext)) (tSeq (tIfS (tOr (tNot (tB (tCall (sp_is_whole K) [] E0 (tCons (tVar 3) (tNil))))) (tNot (tTest (tChain FW.rLe FW.rLe (tUn FW.rNeg (tVar 1)) (tVar 3) (tOp FW.rAdd (tVar 1) (tVar 2)))))) (tRet (tC (.str "d"))) (tNext)) (tSeq (tIfS (tNot (tB (tCall (sp_is_word_of K) [] E0 (tCons (tVar 4) (tCons (tC (.ref (He.ga K "STOPS"))) (tNil)))))) (tRet (tC (.str "stop"))) (tNext)) (tSeq (tIfS (tOr (tNot (tB (tCall (sp_is_word_of K) [] E0 (tCons (tVar 5) (tCons (tC (.ref (He.ga K "TOLDS"))) (tNil)))))) (tAnd (tTest (tOp (rIn K false) (tVar 4) (tC (.ref (He.ga K "LOOKS"))))) (tTest (tOp rNe (tVar 5) (tC (.str "old")))))) (tRet (tC (.str "told"))) (tNext)) (tRet (tIf (tB (tCall (sp_is_word_of K) [] E0 (tCons (tVar 6) (tCons (tC (.ref (He.ga K "MENDS"))) (tNil))))) (tC .non) (tC (.str "mend")))))))))
set_option maxHeartbeats 8000000 in
theorem pure_wrong_part (K : PySem.W.Frag) (A : AvK K) (vs : List V) (H : Hp) (Q : VK) (E : XK) (h : sp_wrong_part K vs H Q E) : rd_wrong_part K { nx := fun _ H' => Q .non H', rt := Q } (start ["k", "a", "c", "d", "stop", "told", "mend"] vs) H := by
  obtain ⟨k, a, c, d, s, t, m, rfl, hW, hc, q⟩ := h
  obtain ⟨nk, wk⟩ := hW k (by simp)
  obtain ⟨na, wa⟩ := hW a (by simp)
  obtain ⟨nc, wc⟩ := hW c (by simp)
  obtain ⟨nd, wd⟩ := hW d (by simp)
  obtain ⟨ns, ws⟩ := hW s (by simp)
  obtain ⟨nt, wt⟩ := hW t (by simp)
  obtain ⟨nm, wm⟩ := hW m (by simp)
  unfold wrongP at q
  unfold rd_wrong_part
  walk_at "rd"
  refine ⟨_, _, rfl, wk, ?_⟩
  walk_at "rd"
  refine e_iteB (fun h1 => ?_) (fun h1 => ?_)
  · walk_at "rd"
    rw [if_pos (by rw [h1]; rfl)] at q
    exact q _ Ext.rfl'
  rw [h1, Bool.false_or] at q
  have h1' : isInt k = true := by simpa using h1
  obtain ⟨k, rfl⟩ := isInt_of h1'
  walk_at "rd"
  refine ⟨by show 3 ≤ sizeLine; decide, fun p hp => ?_⟩
  refine e_in ?_ (.inr (SqT.of upd_same)) rfl rfl
  have eH : Ext H (upd H p (.tup [.int 2, .int 3, .int 4])) := Ext.new hp
  generalize upd H p (.tup [.int 2, .int 3, .int 4]) = H1 at *
  rw [if_pos rfl]
  refine ?_
  walk_at "rd"
  refine e_iteB (fun h2 => ?_) (fun h2 => ?_)
  · walk_at "rd"
    rw [if_pos h2] at q
    exact q _ eH
  rw [if_neg (by rw [h2]; decide)] at q
  have hk : k = 2 ∨ k = 3 ∨ k = 4 := by
    simp [inV, eqV] at h2
    omega
  walk_at "rd"
  refine ⟨_, _, rfl, wa.ext eH, ?_⟩
  walk_at "rd"
  refine e_iteB (fun h3 => ?_) (fun h3 => ?_)
  · walk_at "rd"
    rw [if_pos (by rw [h3]; rfl)] at q
    exact q _ eH
  rw [h3, Bool.false_or] at q
  have h3' : isInt a = true := by simpa using h3
  obtain ⟨a, rfl⟩ := isInt_of h3'
  walk_at "rd"
  have ha : (1 ≤ a ∧ a ≤ 5) ∨ ¬ (1 ≤ a ∧ a ≤ 5) := Classical.em _
  rcases ha with ha | ha
  · rw [decide_eq_true ha.1]
    walk_at "rd"
    rw [decide_eq_true ha.2]
    walk_at "rd"
    rw [if_neg (by simp [iv, ha.1, ha.2])] at q
    refine ⟨_, _, _, rfl, wc.ext eH, ?_⟩
    walk_at "rd"
    refine e_iteB (fun h4 => ?_) (fun h4 => ?_)
    · walk_at "rd"
      rw [if_pos (by rw [h4]; rfl)] at q
      exact q _ eH
    rw [h4, Bool.false_or] at q
    have h4' : fromI c 1 = true := by simpa using h4
    have h4i : isInt c = true := by
      unfold fromI at h4'
      rw [Bool.and_eq_true] at h4'
      exact h4'.1
    obtain ⟨c, rfl⟩ := isInt_of h4i
    walk_at "rd"
    rotate_left 1
    · exact wide_mul (a := 900) (b := 10) hc (by omega) (by decide) (by decide) (by decide)
    refine e_ite (fun h5 => ?_) (fun h5 => ?_)
    · walk_at "rd"
      rw [if_pos (by rw [decide_eq_true (by exact h5)]; rfl)] at q
      exact q _ eH
    rw [decide_eq_false (by exact h5), Bool.false_or] at q
    walk_at "rd"
    refine e_ite (fun h6 => ?_) (fun h6 => ?_)
    · walk_at "rd"
      rw [if_pos (decide_eq_true (by exact h6))] at q
      exact q _ eH
    rw [if_neg (by rw [decide_eq_false (by exact h6)]; decide)] at q
    walk_at "rd"
    refine ⟨_, _, rfl, wd.ext eH, ?_⟩
    walk_at "rd"
    refine e_iteB (fun h7 => ?_) (fun h7 => ?_)
    · walk_at "rd"
      rw [if_pos (by rw [h7]; rfl)] at q
      exact q _ eH
    rw [h7, Bool.false_or] at q
    have h7' : isInt d = true := by simpa using h7
    obtain ⟨d, rfl⟩ := isInt_of h7'
    walk_at "rd"
    have hd : (-a ≤ d ∧ d ≤ a + c) ∨ ¬ (-a ≤ d ∧ d ≤ a + c) := Classical.em _
    rcases hd with hd | hd
    · rw [decide_eq_true hd.1]
      walk_at "rd"
      rw [decide_eq_true hd.2]
      walk_at "rd"
      rw [if_neg (by simp [iv, hd.1, hd.2])] at q
      refine ⟨_, _, _, _, rfl, ws.ext eH, A.stops _, by decide, ?_⟩
      walk_at "rd"
      refine e_iteB (fun h8 => ?_) (fun h8 => ?_)
      · walk_at "rd"
        rw [if_pos h8] at q
        exact q _ eH
      rw [if_neg (by rw [h8]; decide)] at q
      have h8' : wordOf s stopsV = true := by simpa using h8
      have h8s : isStr s = true := by
        unfold wordOf at h8'
        rw [Bool.and_eq_true] at h8'
        exact h8'.1
      obtain ⟨s, rfl⟩ := isStr_of h8s
      walk_at "rd"
      refine ⟨_, _, _, _, rfl, wt.ext eH, A.tolds _, by decide, ?_⟩
      walk_at "rd"
      refine e_iteB (fun h9 => ?_) (fun h9 => ?_)
      · walk_at "rd"
        rw [if_pos (by rw [h9]; rfl)] at q
        exact q _ eH
      rw [h9, Bool.false_or] at q
      have h9' : wordOf t toldsV = true := by simpa using h9
      have h9s : isStr t = true := by
        unfold wordOf at h9'
        rw [Bool.and_eq_true] at h9'
        exact h9'.1
      obtain ⟨t, rfl⟩ := isStr_of h9s
      walk_at "rd"
      refine e_in ?_ (.inr (A.looks _)) rfl (by decide)
      rw [if_neg (by decide)]
      refine ?_
      walk_at "rd"
      refine e_iteB (fun h10 => ?_) (fun h10 => ?_)
      · rw [h10, Bool.true_and] at q
        walk_at "rd"
        refine e_iteB (fun h11 => ?_) (fun h11 => ?_)
        · walk_at "rd"
          rw [if_pos h11] at q
          exact q _ eH
        rw [if_neg (by rw [h11]; decide)] at q
        walk_at "rd"
        refine ⟨_, _, _, _, rfl, wm.ext eH, A.mends _, by decide, ?_⟩
        walk_at "rd"
        refine e_iteB (fun h12 => ?_) (fun h12 => ?_)
        · walk_at "rd"
          rw [if_pos h12] at q
          exact q _ eH
        · walk_at "rd"
          rw [if_neg (by rw [h12]; decide)] at q
          exact q _ eH
      · rw [h10, Bool.false_and, if_neg (by decide)] at q
        walk_at "rd"
        refine ⟨_, _, _, _, rfl, wm.ext eH, A.mends _, by decide, ?_⟩
        walk_at "rd"
        refine e_iteB (fun h12 => ?_) (fun h12 => ?_)
        · walk_at "rd"
          rw [if_pos h12] at q
          exact q _ eH
        · walk_at "rd"
          rw [if_neg (by rw [h12]; decide)] at q
          exact q _ eH
    · by_cases h : -a ≤ d
      · have h' : ¬ d ≤ a + c := fun z => hd ⟨h, z⟩
        rw [if_pos (by show (!(decide (-a ≤ d) && decide (d ≤ a + c))) = true; rw [decide_eq_false h', Bool.and_false]; rfl)] at q
        rw [decide_eq_true h]
        walk_at "rd"
        rw [decide_eq_false h']
        walk_at "rd"
        exact q _ eH
      · rw [if_pos (by show (!(decide (-a ≤ d) && decide (d ≤ a + c))) = true; rw [decide_eq_false h]; rfl)] at q
        rw [decide_eq_false h]
        walk_at "rd"
        exact q _ eH
  · by_cases h : 1 ≤ a
    · have h' : ¬ a ≤ 5 := fun z => ha ⟨h, z⟩
      rw [if_pos (by show (!(decide (1 ≤ a) && decide (a ≤ 5))) = true; rw [decide_eq_false h', Bool.and_false]; rfl)] at q
      rw [decide_eq_true h]
      walk_at "rd"
      rw [decide_eq_false h']
      walk_at "rd"
      exact q _ eH
    · rw [if_pos (by show (!(decide (1 ≤ a) && decide (a ≤ 5))) = true; rw [decide_eq_false h]; rfl)] at q
      rw [decide_eq_false h]
      walk_at "rd"
      exact q _ eH
end FWL
namespace FWL
open PySem PySem.Spec PyProof.Rows L2 FW
/-! ### sizes -/
abbrev Sz (b : Nat) (x : Int) : Prop := x.natAbs < 2 ^ b
theorem Sz.mono {a b : Nat} {x : Int} (h : Sz a x) (l : a ≤ b) : Sz b x := Nat.lt_of_lt_of_le h (Nat.pow_le_pow_right (by decide) l)
theorem Sz.add {a : Nat} {x y : Int} (h : Sz a x) (h' : Sz a y) : Sz (a + 1) (x + y) := by
  show (x + y).natAbs < 2 ^ (a + 1)
  rw [Nat.pow_succ]
  have h1 : x.natAbs < 2 ^ a := h
  have h2 : y.natAbs < 2 ^ a := h'
  omega
theorem Sz.sub {a : Nat} {x y : Int} (h : Sz a x) (h' : Sz a y) : Sz (a + 1) (x - y) := by
  show (x - y).natAbs < 2 ^ (a + 1)
  rw [Nat.pow_succ]
  have h1 : x.natAbs < 2 ^ a := h
  have h2 : y.natAbs < 2 ^ a := h'
  omega
theorem Sz.mul {a b : Nat} {x y : Int} (h : Sz a x) (h' : Sz b y) : Sz (a + b) (x * y) := wide_lt h h'
theorem Sz.of_le {a : Nat} {x y : Int} (h0 : 0 ≤ x) (h : x ≤ y) (hy : Sz a y) : Sz a x := wide_le h0 h hy
theorem Sz.pow {b : Nat} {x : Int} (h : Sz b x) (hb : 0 < b) (n : Nat) : Sz (n * b + 1) (x ^ n) := pow_lt h hb n
theorem Sz.log2 {b : Nat} {x : Int} (h : Sz b x) (hb : 0 < b) (h9 : b ≤ 9000) : x.natAbs.log2 < 9000 := Nat.lt_of_lt_of_le (PySem.Flt.log2_lt_of hb h) h9
theorem Sz.powk {b : Nat} {x k : Int} (h : Sz b x) (hb : 0 < b) (hk : k ≤ 4) : Sz (4 * b + 1) (x ^ k.toNat) :=
  (h.pow hb k.toNat).mono (by have : k.toNat ≤ 4 := by omega
                              have := Nat.mul_le_mul_right b this
                              omega)
theorem pow_room {k : Int} {b : Nat} (hk : k ≤ 4) (hb : b ≤ 1000) : (k.toNat + 1) * b ≤ 900000 := by
  have : k.toNat + 1 ≤ 5 := by omega
  have := Nat.mul_le_mul this hb
  omega
end FWL
namespace FWL
open PySem PySem.Spec PyProof.Rows L2 FW
/-! ### more readings -/
section
variable {K : PySem.W.Frag} {σ : L2.St} {H : Hp} {Q : VK} {D : Ends} {ta tb tc te : TE} {tA : TA} {v : V} {i j : Int} {n : Nat} {a b : Addr} {xs ys : List V}
theorem e_rep (q : ∀ p, H p = none → Q (.ref p) (upd H p (.lst (List.replicate i.toNat v)))) (h : H a = some (.lst [v])) (hz : i ≤ 1000) (h0 : -1000 ≤ i) : rRep (.ref a) (.int i) H Q := by
  refine ⟨a, i, [v], rfl, rfl, h, by omega, by omega, ?_, fun p hp => ?_⟩
  · show 1 * i.toNat ≤ 2 ^ 24
    omega
  · have e : (List.replicate i.toNat [v]).flatten = List.replicate i.toNat v := by
      induction i.toNat with
      | zero => rfl
      | succ m ih => rw [List.replicate_succ, List.flatten_cons, ih, List.replicate_succ]; rfl
    rw [e]
    exact q p hp
theorem e_cat (q : ∀ p, H p = none → Q (.ref p) (upd H p (.lst (xs ++ ys)))) (h : H a = some (.lst xs)) (h' : H b = some (.lst ys)) (hz : xs.length + ys.length ≤ sizeLine) : rCat (.ref a) (.ref b) H Q := ⟨a, b, xs, ys, rfl, rfl, h, h', hz, q⟩
theorem e_listS (q : ∀ p, H p = none → Q (.ref p) (upd H p (.lst xs))) (h : SqL K H a xs ∨ SqT K H a xs) : Evl.rListS K [.ref a] H Q := ⟨a, xs, rfl, h, q⟩
theorem e_tupL (q : ∀ p, H p = none → Q (.ref p) (upd H p (.tup xs))) (h : SqL K H a xs) : FW.rTupS K [.ref a] H Q := ⟨a, xs, rfl, .inl ⟨h, q⟩⟩
theorem e_sl {r : V → Option Int → Option Int → Hp → VK → Prop} {tl th : L2.TO} (k : te σ H fun x H1 => tl σ H1 fun l H2 => th σ H2 fun u H3 => r x l u H3 Q) : L2.tSl r te tl th σ H Q := k
theorem e_noP {R : Option Int → Hp → Prop} (k : R none H) : tNoPart σ H R := k
theorem e_part {R : Option Int → Hp → Prop} (k : te σ H fun x H1 => ∃ i, x = .int i ∧ R (some i) H1) : tPart te σ H R := k
theorem e_part' {R : Int → Prop} (k : R i) : ∃ j, V.int i = .int j ∧ R j := ⟨i, rfl, k⟩
theorem e_slL {lo hi : Option Int} (q : ∀ p, H p = none → Q (.ref p) (upd H p (.lst (cutV xs lo hi)))) (h : SqL K H a xs) : rSlL K (.ref a) lo hi H Q := ⟨a, xs, rfl, h, q⟩
theorem e_sum {ns : List Int} (q : Q (.int ns.sum) H) (h : SqL K H a (ns.map V.int)) : rSum K [.ref a] H Q := ⟨a, ns, rfl, h, q⟩
theorem e_all {bs : List Bool} (q : Q (.bl (bs.all id)) H) (h : SqL K H a (bs.map V.bl)) : rAll K [.ref a] H Q := ⟨a, bs, rfl, h, q⟩
theorem e_eqD {d e : PyData} (q : Q (.bl (PyData.eqv d e)) H) {x y : V} (h1 : Dp K H x d) (h2 : Dp K H y e) (s1 : SeqAt.shaped d = true) (s2 : SeqAt.shaped e = true) : rEqD K x y H Q := ⟨d, e, h1, h2, s1, s2, q⟩
theorem e_neD {d e : PyData} (q : Q (.bl (!PyData.eqv d e)) H) {x y : V} (h1 : Dp K H x d) (h2 : Dp K H y e) (s1 : SeqAt.shaped d = true) (s2 : SeqAt.shaped e = true) : rNeD K x y H Q := ⟨d, e, h1, h2, s1, s2, q⟩
theorem e_rev (q : ∀ p, H p = none → Q (.ref p) (upd H p (.lst xs.reverse))) (q' : ∀ p, H p = none → Q (.ref p) (upd H p (.tup xs.reverse))) (hv : σ[n]? = some (some (.ref a))) (h : SqL K H a xs ∨ SqT K H a xs) : FW.tEither (tRevL K (tVar n)) (FW.tRevT K (tVar n)) σ H Q := by
  rcases h with h | h
  · exact .inl ⟨_, hv, a, xs, rfl, h, q⟩
  · exact .inr ⟨_, hv, a, xs, rfl, h, q'⟩
theorem i_zip {R : It → Hp → Prop} (k : tA σ H fun vs H1 => ∃ a b xs ys, vs = [.ref a, .ref b] ∧ SqL K H1 a xs ∧ SqL K H1 b ys ∧ R (Itz K a b) H1) : iZip K tA σ H R := k
theorem i_enum {R : It → Hp → Prop} (k : tA σ H fun vs H1 => ∃ a xs, vs = [.ref a] ∧ SqL K H1 a xs ∧ R (Ite K a) H1) : iEnum K tA σ H R := k
theorem i_enumT {R : It → Hp → Prop} (k : tA σ H fun vs H1 => ∃ a xs, vs = [.ref a] ∧ SqT K H1 a xs ∧ R (FW.IteT K a) H1) : FW.iEnumT K tA σ H R := k
theorem s_augS {to ti : TE} {tget : V → V → Hp → VK → Prop} {tip : TIp} {tset : TSet} (k : to σ H fun o H1 => ti σ H1 fun i H2 => tget o i H2 fun x H3 => te σ H3 fun y H4 => tip x y H4 fun z H5 => tset o i z H5 fun H6 => D.nx σ H6) : tAugS to ti te tget tip tset D σ H := k
end
/-- a list or a tuple -/
abbrev SqA (K : PySem.W.Frag) (H : Hp) (a : Addr) (xs : List V) : Prop := SqL K H a xs ∨ SqT K H a xs
theorem SqA.ext {K : PySem.W.Frag} {H H' : Hp} {a : Addr} {xs : List V} (e : Ext H H') (h : SqA K H a xs) : SqA K H' a xs := h.elim (fun h => .inl (e.sqL h)) (fun h => .inr (e.sqT h))
/-- for x in s, s a list or a tuple -/
theorem for_seq {K : PySem.W.Frag} {tl : TE} {g : TG} {tb : TS} {D : Ends} {σ : L2.St} {H H1 : Hp} {a : Addr} {xs : List V} (Pv : Nat → L2.St → Hp → Prop)
    (hl : ∀ R : V → Hp → Prop, R (.ref a) H1 → tl σ H R) (hq : SqA K H1 a xs) (h0 : Pv 0 σ H1) (hk : ∀ i σ H', Pv i σ H' → Ext H1 H')
    (hs : ∀ i x σ H', xs[i]? = some x → Pv i σ H' → g x σ H' fun σ2 H2 => tb { D with nx := Pv (i + 1), ct := Pv (i + 1), bk := D.nx } σ2 H2) (hd : ∀ σ H', Pv xs.length σ H' → D.nx σ H') :
    tFor (FW.iEither (iList K tl) (iTup K tl)) g tb D σ H := by
  rcases hq with hq | hq
  · refine s_for (.inl (i_list (hl _ (i_list' xs ?_ hq))))
    exact for_list (xs := xs) Pv h0 (fun i σ H' _ p => (hk i σ H' p).sqL hq) hs hd
  · refine s_for (.inr (i_tup (hl _ (i_tup' xs ?_ hq))))
    exact for_tup (xs := xs) Pv h0 (fun i σ H' _ p => (hk i σ H' p).sqT hq) hs hd
/-- for i, x in enumerate(s), s a list or a tuple at slot n -/
theorem for_enumA {K : PySem.W.Frag} {n : Nat} {g : TG} {tb : TS} {D : Ends} {σ : L2.St} {H0 H : Hp} {a : Addr} {xs : List V} (Pv : Nat → L2.St → Hp → Prop)
    (hv : σ[n]? = some (some (.ref a))) (hq : SqA K H0 a xs) (h0 : Pv 0 σ H) (hk : ∀ i σ H', Pv i σ H' → Ext H0 H')
    (hs : ∀ i x σ H' T, xs[i]? = some x → Pv i σ H' → H' T = none → g (.ref T) σ (upd H' T (.tup [.int (i : Nat), x])) fun σ2 H2 => tb { D with nx := Pv (i + 1), ct := Pv (i + 1), bk := D.nx } σ2 H2) (hd : ∀ σ H', Pv xs.length σ H' → D.nx σ H') :
    tFor (FW.iEither (iEnum K (tCons (tVar n) tNil)) (FW.iEnumT K (tCons (tVar n) tNil))) g tb D σ H := by
  rcases hq with hq | hq
  · refine s_for (.inl ?_)
    refine ⟨_, hv, a, xs, rfl, (hk _ _ _ h0).sqL hq, ?_⟩
    refine for_it (walk_enum (K := K) (a := a) (xs := xs)) Pv h0 (fun i σ H' _ p => (hk i σ H' p).sqL hq) ?_ hd
    rintro i x σ H' H'' hi p ⟨T, y, z, rfl, hT, rfl, e1, e2⟩
    cases e1
    exact hs i z σ H' T e2 p hT
  · refine s_for (.inr ?_)
    refine ⟨_, hv, a, xs, rfl, (hk _ _ _ h0).sqT hq, ?_⟩
    refine for_it (FW.walk_enumT (K := K) (a := a) (xs := xs)) Pv h0 (fun i σ H' _ p => (hk i σ H' p).sqT hq) ?_ hd
    rintro i x σ H' H'' hi p ⟨T, y, z, rfl, hT, rfl, e1, e2⟩
    cases e1
    exact hs i z σ H' T e2 p hT
/-! data of ints -/
theorem dpI {K : PySem.W.Frag} {H : Hp} : ∀ ns : List Int, DpAll K H (ns.map V.int) (ns.map PyData.int)
  | [] => .nil
  | n :: ns => .cons (.int n) (dpI ns)
theorem layI : ∀ ns : List Int, PyData.canLayAll0 (ns.map PyData.int) = true
  | [] => rfl
  | n :: ns => by rw [List.map_cons, PyData.canLayAll0, layI ns]; rfl
theorem depI : ∀ ns : List Int, PyData.depthAll (ns.map PyData.int) = 0
  | [] => rfl
  | n :: ns => by rw [List.map_cons, PyData.depthAll, depI ns]; rfl
theorem shL (ns : List Int) : SeqAt.shaped (.list (ns.map PyData.int)) = true := by
  unfold SeqAt.shaped
  rw [PyData.canLay0, layI, PyData.depth, depI]; rfl
theorem shT (ns : List Int) : SeqAt.shaped (.tuple (ns.map PyData.int)) = true := by
  unfold SeqAt.shaped
  rw [PyData.canLay0, layI, PyData.depth, depI]; rfl
theorem eqvI (ns ms : List Int) : PyData.eqvAll (ns.map PyData.int) (ms.map PyData.int) = decide (ns = ms) := by
  induction ns generalizing ms with
  | nil => cases ms <;> simp [PyData.eqvAll]
  | cons n ns ih =>
    cases ms with
    | nil => simp [PyData.eqvAll]
    | cons m ms =>
      simp [PyData.eqvAll, PyData.eqv, ih, Bool.and_comm]
      rfl
end FWL
namespace FWL
open PySem PySem.Spec PyProof.Rows L2 FW
/-! ### _law_class and _law_refused -/
def clsNames : List Str := ["BadNumber", "BadPower", "BadLoop", "BadStart", "BadGuesses", "BadBeginning", "BadSought", "BadBracket", "BadKind", "BadText", "NoGuess"]
def clsWords : List Str := ["number", "power", "loop", "start", "guesses", "beginning", "sought", "bracket", "kind", "text", "nought"]
structure HotK (K : PySem.W.Frag) (x : Str) : Prop where
  xc : ExcC K (He.ga K x)
  fl : PySem.W.exmOne K (.ref (He.ga K x)) (.ref (He.ga K "FloorError")) = some true
  kit : ∀ y ∈ clsNames, PySem.W.kitOne K (.ref (He.ga K x)) (.ref (He.ga K y)) = some (decide (x = y))
def picked : List Str → List Bool → List Str
  | w :: ws, b :: bs => if b then w :: picked ws bs else picked ws bs
  | _, _ => []
def errWord (x : Str) : Str := Txt.join " " (picked clsWords (clsNames.map fun y => decide (x = y)))
theorem picked_snoc : ∀ (ws : List Str) (bs : List Bool) (w : Str) (b : Bool), ws.length = bs.length → picked (ws ++ [w]) (bs ++ [b]) = picked ws bs ++ (if b then [w] else [])
  | [], [], w, b, _ => by cases b <;> rfl
  | v :: ws, c :: bs, w, b, h => by
    have ih := picked_snoc ws bs w b (by simpa using h)
    rw [List.cons_append, List.cons_append, picked, picked, ih]
    cases c <;> simp
theorem picked_len : ∀ (ws : List Str) (bs : List Bool), (picked ws bs).length ≤ ws.length
  | [], bs => by cases bs <;> simp [picked]
  | w :: ws, [] => by simp [picked]
  | w :: ws, b :: bs => by
    have ih := picked_len ws bs
    cases b
    · simp [picked]; omega
    · simp [picked]; omega
theorem picked_sum : ∀ (ws : List Str) (bs : List Bool), ((picked ws bs).map (·.length)).sum ≤ (ws.map (·.length)).sum
  | [], bs => by cases bs <;> simp [picked]
  | w :: ws, [] => by simp [picked]
  | w :: ws, b :: bs => by
    have ih := picked_sum ws bs
    cases b
    · simp [picked]; omega
    · simp [picked]; omega
section
variable {K : PySem.W.Frag} {H : Hp} {Q : VK} {x : Str} {a : Addr} {d : Option Addr}
theorem e_m1 {r : V → List V → Hp → VK → Prop} {to te : TE} {σ : L2.St} (k : to σ H fun x H1 => (∃ a, x = .str a) ∧ te σ H1 fun y H2 => r x [y] H2 Q) : tM1 r to te σ H Q := k
theorem e_isX {y : Str} (hk : HotK K x) (hd : DX d H) (hy : y ∈ clsNames) (q : Q (.bl (decide (x = y))) H) : FW.rIsX K a (.ref (He.ga K x)) d [.ref a, .ref (He.ga K y)] H Q :=
  ⟨_, _, _, _, rfl, hk.xc, hd, rfl, .own _, hk.kit y hy, q⟩
theorem lc_zipW {b : Addr} {ws : List Str} {bs : List Bool} {v0 v1 v2 v3 v4 : Option V} (ha : H a = some (.lst (ws.map V.str))) (hb : H b = some (.lst (bs.map V.bl))) (hl : ws.length = bs.length) (hz : ws.length ≤ 1000)
    (q : ∀ D H', Ext H H' → H' D = some (.lst ((picked ws bs).map V.str)) → Q (.ref D) H') : LcK (gTup K 2 (gCons (gName 3) (gCons (gName 4) gNil))) (L2.tB (tVar 4)) (tVar 3) [3, 4] [v0, v1, v2, v3, v4] Q (Itz K a b) H := by
  intro D hD
  refine ⟨fun i m H' => m = ws.length - i ∧ i ≤ ws.length ∧ Ext H H' ∧ H' D = some (.lst ((picked (ws.take i) (bs.take i)).map V.str)), ⟨_, rfl, Nat.zero_le _, Ext.new hD, upd_same⟩, ?_⟩
  rintro i m H' ⟨rfl, hi, ex, eD⟩
  have sx : SqL K H' a (ws.map V.str) := .inl (.inl (ex _ _ ha))
  have sy : SqL K H' b (bs.map V.bl) := .inl (.inl (ex _ _ hb))
  by_cases lt : i < ws.length
  · have lt2 : i < bs.length := by omega
    refine .inr ⟨⟨_, _, .str ws[i], .bl bs[i], sx, sy, by simp [lt], by simp [lt2]⟩, fun H2 => Ext H H2 ∧ H2 D = some (.lst ((picked (ws.take (i + 1)) (bs.take (i + 1))).map V.str)), fun H2 h2 => ⟨ws.length - (i + 1), by omega, rfl, lt, h2.1, h2.2⟩, ?_⟩
    rintro v H2 ⟨T, y, z, rfl, hT, rfl, f1, f2⟩
    have e1 := f1 _ sx
    have e2 := f2 _ sy
    rw [List.getElem?_map, List.getElem?_eq_getElem lt] at e1
    rw [List.getElem?_map, List.getElem?_eq_getElem lt2] at e2
    cases e1
    cases e2
    have nD : D ≠ T := fun z => by rw [z, hT] at eD; cases eD
    have ex2 : Ext H (upd H' T (.tup [.str ws[i], .bl bs[i]])) := ex.tr (Ext.new hT)
    have eT : ws.take (i + 1) = ws.take i ++ [ws[i]] := by rw [List.take_add_one, List.getElem?_eq_getElem lt]; rfl
    have eB : bs.take (i + 1) = bs.take i ++ [bs[i]] := by rw [List.take_add_one, List.getElem?_eq_getElem lt2]; rfl
    have eP := picked_snoc (ws.take i) (bs.take i) ws[i] bs[i] (by rw [List.length_take, List.length_take]; omega)
    have pl := picked_len (ws.take i) (bs.take i)
    rw [List.length_take] at pl
    refine ⟨T, _, rfl, .inl (.inl upd_same), rfl, ?_⟩
    walk_at "rd"
    refine ⟨rfl, ?_⟩
    walk_at "rd"
    cases hbi : bs[i] with
    | true =>
      refine e_T ?_
      walk_at "rd"
      rw [hbi] at ex2
      refine ⟨_, by rw [upd_ne nD]; exact eD, ?_, Ext.upds ex2 hD, ?_⟩
      · rw [List.length_map]
        show _ < 2 ^ 24
        omega
      · rw [upd_same, eT, eB, eP, hbi, if_pos rfl, List.map_append]; rfl
    | false =>
      refine e_F ?_
      refine ⟨by rw [hbi] at ex2; exact ex2, ?_⟩
      rw [upd_ne nD, eT, eB, eP, hbi, if_neg (by decide), List.append_nil]
      exact eD
  · have ei : i = ws.length := by omega
    subst ei
    refine .inl ⟨⟨_, _, sx, sy, .inl (by rw [List.length_map]; exact Nat.le_refl _)⟩, q D H' ex ?_⟩
    rw [List.take_of_length_le (Nat.le_refl _), List.take_of_length_le (by omega)] at eD
    exact eD
end
def rd_l_class (K : PySem.W.Frag) (a : Addr) (cls : Value) (d : Option Addr) : TS := tSeq (tAsg (tLst (tCons (tCB (FW.rIsX K a cls d) (tCons (tVar 0) (tCons (tC (.ref (He.ga K "BadNumber"))) (tNil)))) (tCons (tCB (FW.rIsX K a cls d) (tCons (tVar 0) (tCons (tC (.ref (He.ga K "BadPower"))) (tNil)))) (tCons (tCB (FW.rIsX K a cls d) (tCons (tVar 0) (tCons (tC (.ref (He.ga K "BadLoop"))) (tNil)))) (tNil))))) (gName 1)) (tSeq (tAsg (tOp rCat (tVar 1) (tLst (tCons (tCB (FW.rIsX K a cls d) (tCons (tVar 0) (tCons (tC (.ref (He.ga K "BadStart"))) (tNil)))) (tCons (tCB (FW.rIsX K a cls d) (tCons (tVar 0) (tCons (tC (.ref (He.ga K "BadGuesses"))) (tNil)))) (tCons (tCB (FW.rIsX K a cls d) (tCons (tVar 0) (tCons (tC (.ref (He.ga K "BadBeginning"))) (tNil)))) (tNil)))))) (gName 1)) (tSeq (tAsg (tOp rCat (tVar 1) (tLst (tCons (tCB (FW.rIsX K a cls d) (tCons (tVar 0) (tCons (tC (.ref (He.ga K "BadSought"))) (tNil)))) (tCons (tCB (FW.rIsX K a cls d) (tCons (tVar 0) (tCons (tC (.ref (He.ga K "BadBracket"))) (tNil)))) (tCons (tCB (FW.rIsX K a cls d) (tCons (tVar 0) (tCons (tC (.ref (He.ga K "BadKind"))) (tNil)))) (tNil)))))) (gName 1)) (tSeq (tAsg (tOp rCat (tVar 1) (tLst (tCons (tCB (FW.rIsX K a cls d) (tCons (tVar 0) (tCons (tC (.ref (He.ga K "BadText"))) (tNil)))) (tCons (tCB (FW.rIsX K a cls d) (tCons (tVar 0) (tCons (tC (.ref (He.ga K "NoGuess"))) (tNil)))) (tNil))))) (gName 1)) (tSeq (tAsg (tLst (tCons (tC (.str "number")) (tCons (tC (.str "power")) (tCons (tC (.str "loop")) (tCons (tC (.str "start")) (tCons (tC (.str "guesses")) (tCons (tC (.str "beginning")) (tNil)))))))) (gName 2)) (tSeq (tAsg (tOp rCat (tVar 2) (tLst (tCons (tC (.str "sought")) (tCons (tC (.str "bracket")) (tCons (tC (.str "kind")) (tCons (tC (.str "text")) (tCons (tC (.str "nought")) (tNil)))))))) (gName 2)) (tRet (tM1 (FW.rJoin K) (tC (.str " ")) (tLc (iZip K (tCons (tVar 2) (tCons (tVar 1) (tNil)))) (gTup K 2 (gCons (gName 3) (gCons (gName 4) (gNil)))) (tB (tVar 4)) (tVar 3) [3, 4]))))))))
theorem pure_l_class (K : PySem.W.Frag) (x : Str) (hk : HotK K x) (a : Addr) (d : Option Addr) (H : Hp) (Q : VK) (hd : DX d H) (q : ∀ H', Ext H H' → Q (.str (errWord x)) H') :
    rd_l_class K a (.ref (He.ga K x)) d { nx := fun _ H' => Q .non H', rt := Q } (start ["_law_e", "_law_some", "_law_names", "_law_name", "_law_is_it"] [.ref a]) H := by
  unfold rd_l_class
  walk_at "rd"
  refine e_isX hk hd (by decide) ?_
  walk_at "rd"
  refine e_isX hk hd (by decide) ?_
  walk_at "rd"
  refine e_isX hk hd (by decide) ?_
  walk_at "rd"
  refine ⟨by show 3 ≤ sizeLine; decide, fun p1 h1 => ?_⟩
  walk_at "rd"
  refine e_isX hk (hd.ext (Ext.new h1)) (by decide) ?_
  walk_at "rd"
  refine e_isX hk (hd.ext (Ext.new h1)) (by decide) ?_
  walk_at "rd"
  refine e_isX hk (hd.ext (Ext.new h1)) (by decide) ?_
  walk_at "rd"
  refine ⟨by show 3 ≤ sizeLine; decide, fun p2 h2 => ?_⟩
  refine e_cat (fun p3 h3 => ?_) (by rw [upd_ne (ne_of_none upd_same h2)]; exact upd_same) upd_same (by show 6 ≤ sizeLine; decide)
  walk_at "rd"
  refine e_isX hk (((hd.ext (Ext.new h1)).ext (Ext.new h2)).ext (Ext.new h3)) (by decide) ?_
  walk_at "rd"
  refine e_isX hk (((hd.ext (Ext.new h1)).ext (Ext.new h2)).ext (Ext.new h3)) (by decide) ?_
  walk_at "rd"
  refine e_isX hk (((hd.ext (Ext.new h1)).ext (Ext.new h2)).ext (Ext.new h3)) (by decide) ?_
  walk_at "rd"
  refine ⟨by show 3 ≤ sizeLine; decide, fun p4 h4 => ?_⟩
  refine e_cat (fun p5 h5 => ?_) (by rw [upd_ne (ne_of_none upd_same h4)]; exact upd_same) upd_same (by show 9 ≤ sizeLine; decide)
  walk_at "rd"
  refine e_isX hk (((((hd.ext (Ext.new h1)).ext (Ext.new h2)).ext (Ext.new h3)).ext (Ext.new h4)).ext (Ext.new h5)) (by decide) ?_
  walk_at "rd"
  refine e_isX hk (((((hd.ext (Ext.new h1)).ext (Ext.new h2)).ext (Ext.new h3)).ext (Ext.new h4)).ext (Ext.new h5)) (by decide) ?_
  walk_at "rd"
  refine ⟨by show 2 ≤ sizeLine; decide, fun p6 h6 => ?_⟩
  refine e_cat (fun p7 h7 => ?_) (by rw [upd_ne (ne_of_none upd_same h6)]; exact upd_same) upd_same (by show 11 ≤ sizeLine; decide)
  walk_at "rd"
  refine ⟨by show 6 ≤ sizeLine; decide, fun p8 h8 => ?_⟩
  walk_at "rd"
  refine ⟨by show 5 ≤ sizeLine; decide, fun p9 h9 => ?_⟩
  refine e_cat (fun pA hA => ?_) (by rw [upd_ne (ne_of_none upd_same h9)]; exact upd_same) upd_same (by show 11 ≤ sizeLine; decide)
  walk_at "rd"
  refine e_m1 ?_
  walk_at "rd"
  refine ⟨⟨_, rfl⟩, ?_⟩
  walk_at "rd"
  refine i_zip ?_
  walk_at "rd"
  refine ⟨pA, p7, clsWords.map V.str, (clsNames.map fun y => decide (x = y)).map V.bl, rfl, .inl (.inl upd_same), .inl (.inl ((((Ext.new h8).tr (Ext.new h9)).tr (Ext.new hA)) _ _ upd_same)), ?_⟩
  refine lc_zipW (ws := clsWords) (bs := clsNames.map fun y => decide (x = y)) upd_same ((((Ext.new h8).tr (Ext.new h9)).tr (Ext.new hA)) _ _ upd_same) rfl (by decide) fun D H' ex eD => ?_
  refine ⟨" ", D, _, rfl, rfl, .inl (.inl (.inl eD)), ?_, q H' (((((((((((Ext.new h1).tr (Ext.new h2)).tr (Ext.new h3)).tr (Ext.new h4)).tr (Ext.new h5)).tr (Ext.new h6)).tr (Ext.new h7)).tr (Ext.new h8)).tr (Ext.new h9)).tr (Ext.new hA)).tr ex)⟩
  have b1 := picked_sum clsWords (clsNames.map fun y => decide (x = y))
  have b2 := picked_len clsWords (clsNames.map fun y => decide (x = y))
  have c1 : (clsWords.map (·.length)).sum ≤ 100 := by decide
  have c2 : clsWords.length = 11 := rfl
  have c3 : (" " : Str).length = 1 := rfl
  rw [c3]
  omega
/-! ### _law_refused -/
def valC : List Str := ["BadNumber", "BadPower", "BadStart", "BadKind"]
def wrdC : List Str := ["BadLoop", "BadSought", "BadBeginning"]
def nonC : List Str := ["BadGuesses", "BadBracket", "BadText", "NoGuess"]
theorem dis1 : ∀ x ∈ valC, x ∉ wrdC := by decide
theorem dis2 : ∀ x ∈ nonC, x ∉ wrdC := by decide
theorem dis3 : ∀ x ∈ nonC, x ∉ valC := by decide
/-- what is wished of an error that comes to _law_refused -/
def RefX (K : PySem.W.Frag) (Q : VK) (cls : Value) (d : Option Addr) (H : Hp) : Prop := ∃ x : Str, cls = .ref (He.ga K x) ∧ HotK K x ∧
  ((x ∈ valC ∧ ∃ (dd : Addr) (v : V), ErrG K (He.ga K x) "value" ∧ d = some dd ∧ H dd = some (.xd [("value", v)]) ∧ ∀ t H', Ext H H' → H' t = some (.tup [.str (errWord x), v]) → Q (.ref t) H') ∨
   (x ∈ wrdC ∧ ∃ (dd : Addr) (v : V), ErrG K (He.ga K x) "word" ∧ d = some dd ∧ H dd = some (.xd [("word", v)]) ∧ ∀ t H', Ext H H' → H' t = some (.tup [.str (errWord x), v]) → Q (.ref t) H') ∨
   (x ∈ nonC ∧ d = none ∧ ∀ t H', Ext H H' → H' t = some (.tup [.str (errWord x), .non]) → Q (.ref t) H'))
def TT_l_refusedH (K : PySem.W.Frag) : (XK → Hp → VK → Prop) → Hp → VK → Prop := fun tl H Q => ∃ Ech : XK, tl Ech H (fun _ H' => Q .non H') ∧ ∀ cls d H', Ech cls d H' → RefX K Q cls d H'
def rd_l_refusedH (K : PySem.W.Frag) (f c : Addr) (q : Str) (tl : XK → Hp → VK → Prop) : TS := tSeq (FW.tTryA K (fun W => FW.tWithE 3 (fun Ech => tDrop (FW.tAsk f c q tl Ech)) W) [⟨.ref (He.ga K "FloorError"), 1, fun a cls d => tSeq (tFor (iList K (tLst (tCons (tC (.str "word")) (tCons (tC (.str "value")) (tNil))))) (gName 2) (tSeq (tIfS (tAnd (tTest (tOp rEq (tVar 2) (tC (.str "word")))) (tB (tCB (FW.rIsXT K a cls d) (tCons (tVar 1) (tCons (tTup (tCons (tC (.ref (He.ga K "BadLoop"))) (tCons (tC (.ref (He.ga K "BadSought"))) (tCons (tC (.ref (He.ga K "BadBeginning"))) (tNil))))) (tNil)))))) (tRet (tTup (tCons (FW.tCallX a ["_law_e", "_law_some", "_law_names", "_law_name", "_law_is_it"] (rd_l_class K a cls d) (tVar 1)) (tCons (FW.tByX K "word" a cls d (tVar 1)) (tNil))))) (tNext)) (tIfS (tAnd (tTest (tOp rEq (tVar 2) (tC (.str "value")))) (tB (tCB (FW.rIsXT K a cls d) (tCons (tVar 1) (tCons (tTup (tCons (tC (.ref (He.ga K "BadNumber"))) (tCons (tC (.ref (He.ga K "BadPower"))) (tCons (tC (.ref (He.ga K "BadStart"))) (tCons (tC (.ref (He.ga K "BadKind"))) (tNil)))))) (tNil)))))) (tRet (tTup (tCons (FW.tCallX a ["_law_e", "_law_some", "_law_names", "_law_name", "_law_is_it"] (rd_l_class K a cls d) (tVar 1)) (tCons (FW.tByX K "value" a cls d (tVar 1)) (tNil))))) (tNext)))) (tRet (tTup (tCons (FW.tCallX a ["_law_e", "_law_some", "_law_names", "_law_name", "_law_is_it"] (rd_l_class K a cls d) (tVar 1)) (tCons (tC .non) (tNil)))))⟩] (fun _ _ _ _ => False)) (tRet (tC .non))
section
variable {K : PySem.W.Frag} {H : Hp} {Q : VK} {x : Str} {a : Addr} {d : Option Addr}
theorem kit_any (hk : HotK K x) : ∀ l : List Str, (∀ y ∈ l, y ∈ clsNames) → PySem.W.kitAny K (.ref (He.ga K x)) (l.map fun y => .ref (He.ga K y)) = some (l.any fun y => decide (x = y))
  | [], _ => rfl
  | y :: l, h => by
    have ih := kit_any hk l fun z hz => h z (List.mem_cons_of_mem _ hz)
    rw [List.map_cons, PySem.W.kitAny, hk.kit y (h y List.mem_cons_self), List.any_cons]
    cases e : decide (x = y)
    · rw [Bool.false_or]; exact ih
    · rfl
theorem clsV_all : ∀ l : List Str, Paired ClsV (l.map fun y => V.ref (He.ga K y)) (l.map fun y => Value.ref (He.ga K y))
  | [] => .nil
  | y :: l => .cons (.own _) (clsV_all l)
theorem e_isXT {tp : Addr} (l : List Str) (hk : HotK K x) (hd : DX d H) (ht : H tp = some (.tup (l.map fun y => V.ref (He.ga K y)))) (hl : ∀ y ∈ l, y ∈ clsNames) (q : Q (.bl (l.any fun y => decide (x = y))) H) : FW.rIsXT K a (.ref (He.ga K x)) d [.ref a, .ref tp] H Q :=
  ⟨_, tp, _, _, _, rfl, hk.xc, hd, rfl, ht, clsV_all l, kit_any hk l hl, q⟩
end
theorem e_callX {N : List Str} {t : TS} {te : TE} {σ : L2.St} {H : Hp} {Q : VK} {a : Addr} (k : te σ H fun v H1 => v = .ref a ∧ t { nx := fun _ H' => Q .non H', rt := Q } (L2.start N [.ref a]) H1) : FW.tCallX a N t te σ H Q := k
theorem e_byX {K : PySem.W.Frag} {f : Str} {a : Addr} {cls : Value} {d : Option Addr} {te : TE} {σ : L2.St} {H : Hp} {Q : VK} (k : te σ H fun x H1 => x = .ref a ∧ ∃ (C dd : Addr) (v : V), cls = .ref C ∧ ErrG K C f ∧ d = some dd ∧ H1 dd = some (.xd [(f, v)]) ∧ Q v H1) : FW.tByX K f a cls d te σ H Q := k
/-- return (_law_class(e), e.f) -/
theorem ret_f {K : PySem.W.Frag} {x f : Str} {a dd : Addr} {v : V} {s0 s2 : Option V} {H : Hp} {D : Ends} (hk : HotK K x) (hg : ErrG K (He.ga K x) f) (hd : H dd = some (.xd [(f, v)])) (q : ∀ t H', Ext H H' → H' t = some (.tup [.str (errWord x), v]) → D.rt (.ref t) H') :
    tRet (tTup (tCons (FW.tCallX a ["_law_e", "_law_some", "_law_names", "_law_name", "_law_is_it"] (rd_l_class K a (.ref (He.ga K x)) (some dd)) (tVar 1)) (tCons (FW.tByX K f a (.ref (He.ga K x)) (some dd) (tVar 1)) (tNil)))) D [s0, some (.ref a), s2] H := by
  walk_at "rd"
  refine e_callX ?_
  walk_at "rd"
  refine ⟨rfl, pure_l_class K x hk a (some dd) H _ (.inr ⟨dd, _, rfl, hd⟩) fun H' e => ?_⟩
  walk_at "rd"
  refine e_byX ?_
  walk_at "rd"
  refine ⟨rfl, _, dd, v, rfl, hg, rfl, e _ _ hd, ?_⟩
  walk_at "rd"
  exact ⟨by show 2 ≤ sizeLine; decide, fun p hp => q p _ (e.tr (Ext.new hp)) upd_same⟩
theorem pure_l_refusedH (K : PySem.W.Frag) (f c : Addr) (q : Str) (tl : XK → Hp → VK → Prop) (H : Hp) (Q : VK) (hc : H c = some (LamX.CodeO c q)) (h : TT_l_refusedH K tl H Q) : rd_l_refusedH K f c q tl { nx := fun _ H' => Q .non H', rt := Q } (start ["_law_ask", "_law_e", "_law_word"] [.ref f]) H := by
  obtain ⟨Ech, ht, he⟩ := h
  unfold rd_l_refusedH tTryA tWithE
  refine s_seq ⟨Ech, fun cls d σ' H' h1 hl => ?_, ?_⟩
  · match σ', hl with
    | [s0, s1, s2], _ =>
    obtain ⟨x, rfl, hk, hx⟩ := he _ _ _ h1
    refine ⟨true, hk.fl, fun _ a ha => ?_, fun z => by cases z⟩
    have hd : DX d H' := by
      rcases hx with ⟨_, dd, v, _, rfl, e, _⟩ | ⟨_, dd, v, _, rfl, e, _⟩ | ⟨_, rfl, _⟩
      · exact .inr ⟨dd, _, rfl, e⟩
      · exact .inr ⟨dd, _, rfl, e⟩
      · exact .inl rfl
    have xw : (wrdC.any fun y => decide (x = y)) = true ↔ x ∈ wrdC := by simp
    have xv : (valC.any fun y => decide (x = y)) = true ↔ x ∈ valC := by simp
    walk_at "rd"
    refine ⟨by show 2 ≤ sizeLine; decide, fun p hp => i_list' [.str "word", .str "value"] ?_ (.inl (.inl upd_same))⟩
    refine for_list (xs := [.str "word", .str "value"]) (fun i σ G => Ext H' G ∧ G p = some (.lst [.str "word", .str "value"]) ∧ (∃ z, σ = [s0, some (.ref a), z]) ∧ (1 ≤ i → x ∉ wrdC) ∧ (2 ≤ i → x ∉ valC)) ⟨Ext.new hp, upd_same, ⟨_, rfl⟩, by omega, by omega⟩ (fun i σ G _ h => .inl (.inl h.2.1)) ?_ ?_
    · rintro i y σ G hy ⟨eG, ep, ⟨z, rfl⟩, n1, n2⟩
      match i, hy with
      | 0, hy =>
        cases hy
        refine g_name ?_
        walk_at "rd"
        refine e_ite (fun _ => ?_) fun h => absurd rfl h
        walk_at "rd"
        refine ⟨by show 3 ≤ sizeLine; decide, fun t ht => ?_⟩
        walk_at "rd"
        refine e_isXT wrdC hk ((hd.ext eG).ext (Ext.new ht)) upd_same (by decide) ?_
        walk_at "rd"
        refine e_iteB (fun hb => ?_) fun hb => ?_
        · rcases hx with ⟨m, _⟩ | ⟨_, dd, v, hg, rfl, e, k⟩ | ⟨m, _⟩
          · exact absurd (xw.mp hb) (dis1 x m)
          · exact ret_f hk hg (Ext.new ht _ _ (eG _ _ e)) fun t' G' e' et => k t' G' ((eG.tr (Ext.new ht)).tr e') et
          · exact absurd (xw.mp hb) (dis2 x m)
        · have nw : x ∉ wrdC := fun m => by rw [xw.mpr m] at hb; cases hb
          walk_at "rd"
          refine e_ite (fun h => by cases h) fun h => ?_
          walk_at "rd"
          exact ⟨eG.tr (Ext.new ht), Ext.new ht _ _ ep, ⟨_, rfl⟩, fun _ => nw, by omega⟩
      | 1, hy =>
        cases hy
        refine g_name ?_
        walk_at "rd"
        refine e_ite (fun h => by cases h) fun h => ?_
        walk_at "rd"
        refine e_ite (fun _ => ?_) fun h => absurd rfl h
        walk_at "rd"
        refine ⟨by show 4 ≤ sizeLine; decide, fun t ht => ?_⟩
        walk_at "rd"
        refine e_isXT valC hk ((hd.ext eG).ext (Ext.new ht)) upd_same (by decide) ?_
        walk_at "rd"
        refine e_iteB (fun hb => ?_) fun hb => ?_
        · rcases hx with ⟨_, dd, v, hg, rfl, e, k⟩ | ⟨m, _⟩ | ⟨m, _⟩
          · exact ret_f hk hg (Ext.new ht _ _ (eG _ _ e)) fun t' G' e' et => k t' G' ((eG.tr (Ext.new ht)).tr e') et
          · exact absurd m (n1 (by omega))
          · exact absurd (xv.mp hb) (dis3 x m)
        · have nw : x ∉ valC := fun m => by rw [xv.mpr m] at hb; cases hb
          walk_at "rd"
          exact ⟨eG.tr (Ext.new ht), Ext.new ht _ _ ep, ⟨_, rfl⟩, fun _ => n1 (by omega), fun _ => nw⟩
    · rintro σ G ⟨eG, ep, ⟨z, rfl⟩, n1, n2⟩
      have nv := n2 (by decide)
      have nw := n1 (by decide)
      rcases hx with ⟨m, _⟩ | ⟨m, _⟩ | ⟨m, rfl, k⟩
      · exact absurd m nv
      · exact absurd m nw
      · walk_at "rd"
        refine e_callX ?_
        walk_at "rd"
        refine ⟨rfl, pure_l_class K x hk a none G _ (.inl rfl) fun G' e => ?_⟩
        walk_at "rd"
        exact ⟨by show 2 ≤ sizeLine; decide, fun p hp => k p _ ((eG.tr e).tr (Ext.new hp)) upd_same⟩
  · walk_at "rd"
    exact ⟨rfl, hc, ht⟩
end FWL
namespace FWL
open PySem PySem.Spec PyProof.Rows L2 FW
/-! ### a stream: three ints; n bounds the draws so far -/
def Strm (H : Hp) (p : Addr) (n : Nat) : Prop := ∃ a b c : Int, H p = some (.lst [.int a, .int b, .int c]) ∧ 0 ≤ a ∧ 0 ≤ b ∧ b < 2 ^ 40 ∧ 0 ≤ c ∧ c ≤ n
theorem Strm.mono {H : Hp} {p : Addr} {n m : Nat} (h : Strm H p n) (l : n ≤ m) : Strm H p m := by
  obtain ⟨a, b, c, h1, h2, h3, h4, h5, h6⟩ := h
  exact ⟨a, b, c, h1, h2, h3, h4, h5, by omega⟩
theorem Strm.ext {H H' : Hp} {p : Addr} {n : Nat} (h : Strm H p n) (e : Ext H H') : Strm H' p n := by
  obtain ⟨a, b, c, h1, h2⟩ := h
  exact ⟨a, b, c, e _ _ h1, h2⟩
theorem Strm.ne {H : Hp} {p q : Addr} {n : Nat} (h : Strm H p n) (e : H q = none) : q ≠ p := by
  obtain ⟨a, b, c, h1, h2⟩ := h
  exact (ne_of_none h1 e).symm
def sp_l_stream (K : PySem.W.Frag) : Sp := fun vs H Q _ => ∃ (a : Addr) (ns : List Int) (k : Int), vs = [.ref a, .int k] ∧ SqL K H a (ns.map V.int) ∧ 0 ≤ k ∧ k < 1000 ∧
  ∀ p H', H p = none → Ext H H' → Strm H' p 0 → Q (.ref p) H'
def sp_l_draw (K : PySem.W.Frag) : Sp := fun vs H Q _ => ∃ (p : Addr) (many : Int) (n : Nat), vs = [.ref p, .int many] ∧ Strm H p n ∧ n < 1000000 ∧ 0 < many ∧ many.natAbs.log2 < 9000 ∧
  ∀ d H', 0 ≤ d → d < many → ExtB p H H' → Strm H' p (n + 1) → Q (.int d) H'
def sp_l_pick (K : PySem.W.Frag) : Sp := fun vs H Q _ => ∃ (p q : Addr) (xs : List V) (n : Nat), vs = [.ref p, .ref q] ∧ Strm H p n ∧ n < 1000000 ∧ q ≠ p ∧ H q = some (.lst xs) ∧ xs ≠ [] ∧ xs.length < 1000 ∧
  ∀ v H', v ∈ xs → ExtB p H H' → Strm H' p (n + 1) → Q v H'
def rd_l_stream (K : PySem.W.Frag) : TS := tSeq (tAsg (tIf (tTest (tOp FW.rLt (tVar 1) (tCB (Evl.rLenS K) (tCons (tVar 0) (tNil))))) (tCB FW.rAbs (tCons (tOp (rIxL K) (tVar 0) (tVar 1)) (tNil))) (tC (.int 0))) (gName 2)) (tRet (tLst (tCons (tIf (tTest (tOp FW.rGe (tVar 2) (tOp FW.rPow (tC (.int 10)) (tC (.int 18))))) (tVar 2) (tC (.int 0))) (tCons (tOp FW.rAdd (tOp FW.rMod (tCB FW.rInt1 (tCons (tVar 2) (tNil))) (tC (.int 2147483647))) (tOp FW.rMul (tC (.int 31)) (tVar 1))) (tCons (tC (.int 0)) (tNil))))))
def rd_l_draw (K : PySem.W.Frag) : TS := tSeq (tIfS (tTest (tOp FW.rGt (tOp (rIxL K) (tVar 0) (tC (.int 0))) (tC (.int 0)))) (tSeq (tAsg (tOp FW.rMod (tCB FW.rInt1 (tCons (tOp (rIxL K) (tVar 0) (tC (.int 0))) (tNil))) (tVar 1)) (gName 2)) (tSeq (tAsg (tOp FW.rDiv (tOp (rIxL K) (tVar 0) (tC (.int 0))) (tVar 1)) (gSub (tVar 0) (tC (.int 0)) rSetL)) (tRet (tVar 2)))) (tNext)) (tSeq (tAsg (tOp FW.rAdd (tOp (rIxL K) (tVar 0) (tC (.int 2))) (tC (.int 1))) (gSub (tVar 0) (tC (.int 2)) rSetL)) (tSeq (tAsg (tOp FW.rMod (tOp FW.rPow (tCB FW.rInt1 (tCons (tOp FW.rAdd (tOp FW.rAdd (tOp (rIxL K) (tVar 0) (tC (.int 1))) (tOp FW.rMul (tC (.int 7919)) (tOp (rIxL K) (tVar 0) (tC (.int 2))))) (tC (.int 104729))) (tNil))) (tC (.int 5))) (tC (.int 2147483647))) (gName 3)) (tRet (tOp FW.rMod (tOp FW.rDiv (tOp FW.rMod (tCB FW.rInt1 (tCons (tOp FW.rMul (tOp FW.rAdd (tVar 3) (tOp (rIxL K) (tVar 0) (tC (.int 2)))) (tC (.int 40692))) (tNil))) (tC (.int 2147483629))) (tC (.int 7))) (tVar 1)))))
def rd_l_pick (K : PySem.W.Frag) : TS := tRet (tOp (rIxL K) (tVar 1) (tCall (sp_l_draw K) [] E0 (tCons (tVar 0) (tCons (tCB (Evl.rLenS K) (tCons (tVar 1) (tNil))) (tNil)))))
theorem at_map {ns : List Int} {k : Int} (h0 : 0 ≤ k) (h : k < (ns.length : Int)) : ∃ i, atI (ns.map V.int) k = some (.int i) := by
  obtain ⟨k, rfl⟩ := Int.eq_ofNat_of_zero_le h0
  have hk : k < ns.length := by omega
  refine ⟨ns[k], atI_nat ?_⟩
  rw [List.getElem?_map, List.getElem?_eq_getElem hk]
  rfl
theorem pure_l_stream (K : PySem.W.Frag) (vs : List V) (H : Hp) (Q : VK) (E : XK) (h : sp_l_stream K vs H Q E) : rd_l_stream K { nx := fun _ H' => Q .non H', rt := Q } (start ["_law_script", "_law_k", "_law_cell"] vs) H := by
  obtain ⟨a, ns, k, rfl, hS, h0, hk, q⟩ := h
  have fin : ∀ cell : Int, 0 ≤ cell → (tRet (tLst (tCons (tIf (tTest (tOp FW.rGe (tVar 2) (tOp FW.rPow (tC (.int 10)) (tC (.int 18))))) (tVar 2) (tC (.int 0))) (tCons (tOp FW.rAdd (tOp FW.rMod (tCB FW.rInt1 (tCons (tVar 2) (tNil))) (tC (.int 2147483647))) (tOp FW.rMul (tC (.int 31)) (tVar 1))) (tCons (tC (.int 0)) (tNil)))))) { nx := fun _ H' => Q .non H', rt := Q } [some (.ref a), some (.int k), some (.int cell)] H := by
    intro cell hc
    have hm : 0 ≤ cell % 2147483647 := Int.emod_nonneg _ (by decide)
    have hm2 : cell % 2147483647 < 2147483647 := Int.emod_lt_of_pos _ (by decide)
    walk_at "rd"
    · refine e_ite (fun h => ?_) (fun h => ?_)
      · walk_at "rd"
        · refine ⟨by show 3 ≤ sizeLine; decide, fun p hp => q p _ hp (Ext.new hp) ⟨_, _, _, upd_same, hc, by omega, by omega, by decide, by decide⟩⟩
        · exact wide_mul (a := 10) (b := 10) (by decide) (by omega) (by decide) (by decide) (by decide)
        · decide
      · walk_at "rd"
        · refine ⟨by show 3 ≤ sizeLine; decide, fun p hp => q p _ hp (Ext.new hp) ⟨_, _, _, upd_same, by decide, by omega, by omega, by decide, by decide⟩⟩
        · exact wide_mul (a := 10) (b := 10) (by decide) (by omega) (by decide) (by decide) (by decide)
        · decide
    · exact ⟨by decide, by decide, by decide⟩
  unfold rd_l_stream
  walk_at "rd"
  refine e_len ?_ (.inl hS)
  walk_at "rd"
  refine e_ite (fun h => ?_) (fun h => ?_)
  · rw [List.length_map] at h
    obtain ⟨i, hi⟩ := at_map h0 h
    walk_at "rd"
    refine e_ixL ?_ hS hi
    walk_at "re"
    exact fin (if i < 0 then -i else i) (by split <;> omega)
  · walk_at "re"
    exact fin 0 (by decide)
theorem pure_l_draw (K : PySem.W.Frag) (vs : List V) (H : Hp) (Q : VK) (E : XK) (h : sp_l_draw K vs H Q E) : rd_l_draw K { nx := fun _ H' => Q .non H', rt := Q } (start ["_law_stream_here", "_law_many", "_law_digit", "_law_spread"] vs) H := by
  obtain ⟨p, many, n, rfl, ⟨a, b, c, hp, ha, hb, hb2, hc, hcn⟩, hn, hm, hml, q⟩ := h
  unfold rd_l_draw
  walk_at "rd"
  refine e_ixL ?_ (SqL.of hp) rfl
  walk_at "rd"
  refine e_ite (fun h => ?_) (fun h => ?_)
  · walk_at "rd"
    refine e_ixL ?_ (SqL.of hp) rfl
    walk_at "rd"
    · refine e_ixL ?_ (SqL.of hp) rfl
      walk_at "rd"
      · refine e_setL (m := 0) ?_ hp rfl
        walk_at "rd"
        refine q _ _ (Int.emod_nonneg _ (by omega)) (Int.emod_lt_of_pos _ hm) ExtB.upd ⟨_, _, _, upd_same, Int.ediv_nonneg ha (by omega), hb, hb2, hc, by omega⟩
      · exact ⟨hm, hml⟩
    · exact hm
  · walk_at "rd"
    refine e_ixL ?_ (SqL.of hp) rfl
    walk_at "rd"
    refine e_setL (m := 2) ?_ hp rfl
    have hp' : (upd H p (.lst ([V.int a, V.int b, V.int c].set 2 (.int (c + 1))))) p = some (.lst [.int a, .int b, .int (c + 1)]) := upd_same
    have eB : ExtB p H (upd H p (.lst ([V.int a, V.int b, V.int c].set 2 (.int (c + 1))))) := ExtB.upd
    generalize upd H p (.lst ([V.int a, V.int b, V.int c].set 2 (.int (c + 1)))) = H1 at *
    walk_at "rd"
    refine e_ixL ?_ (SqL.of hp') rfl
    walk_at "rd"
    refine e_ixL ?_ (SqL.of hp') rfl
    walk_at "rd"
    · refine e_ixL ?_ (SqL.of hp') rfl
      have hs : 0 ≤ ((b + 7919 * (c + 1) + 104729) ^ (5 : Int).toNat) % 2147483647 := Int.emod_nonneg _ (by decide)
      have hs2 : ((b + 7919 * (c + 1) + 104729) ^ (5 : Int).toNat) % 2147483647 < 2147483647 := Int.emod_lt_of_pos _ (by decide)
      walk_at "rd"
      · refine q _ _ (Int.emod_nonneg _ (by omega)) (Int.emod_lt_of_pos _ hm) eB ⟨_, _, _, hp', ha, hb, hb2, by omega, by omega⟩
      · exact hm
      · exact ⟨by decide, by decide⟩
      · decide
      · exact wide_mul (a := 60) (b := 20) (by omega) (by decide) (by decide) (by decide) (by decide)
    · decide
    · exact ⟨by decide, by decide, by omega⟩
    · exact wide_mul (a := 20) (b := 40) (by decide) (by omega) (by decide) (by decide) (by decide)
theorem log2_small {n : Nat} (h : n < 1000) : n.log2 < 9000 := by
  have : n.log2 ≤ n := Nat.log2_le_self n
  omega
theorem pure_l_pick (K : PySem.W.Frag) (vs : List V) (H : Hp) (Q : VK) (E : XK) (h : sp_l_pick K vs H Q E) : rd_l_pick K { nx := fun _ H' => Q .non H', rt := Q } (start ["_law_stream_here", "_law_things"] vs) H := by
  obtain ⟨p, a, xs, n, rfl, hS, hn, hne, ha, hx, hl, q⟩ := h
  have h0 : 0 < xs.length := List.length_pos_iff.mpr hx
  unfold rd_l_pick
  walk_at "rd"
  refine e_len ?_ (.inl (SqL.of ha))
  walk_at "rd"
  refine ⟨p, _, n, rfl, hS, hn, by omega, by rw [Int.natAbs_natCast]; exact log2_small hl, fun d H' d0 d1 e s => ?_⟩
  obtain ⟨d, rfl⟩ := Int.eq_ofNat_of_zero_le d0
  have hd : d < xs.length := by omega
  refine e_ixL (v := xs[d]) ?_ (SqL.of (e _ _ hne ha)) (atI_nat (List.getElem?_eq_getElem hd))
  exact q _ _ (List.getElem_mem _) e s
end FWL
namespace FWL
open PySem PySem.Spec PyProof.Rows L2 FW

/-! ### weights -/
def okW (k a c : Int) : Bool := decide (c * (k - 1) ≤ a) && decide (a + c ≤ 6)
def wRow (k a : Int) (cs : List Int) : List (Int × Int) := (cs.filter (okW k a)).map fun c => (a, c)
def wAll (k : Int) : Nat → List (Int × Int)
  | 0 => []
  | n + 1 => wAll k n ++ wRow k (1 + (n : Int)) [1, 2, 3]
def weightsL (k : Int) : List (Int × Int) := wAll k 5
/-- tuples of two ints -/
def Prs (H : Hp) : List V → List (Int × Int) → Prop
  | [], [] => True
  | v :: vs, w :: ws => (∃ t, v = .ref t ∧ H t = some (.tup [.int w.1, .int w.2])) ∧ Prs H vs ws
  | _, _ => False
theorem Prs.ext {H H' : Hp} (e : Ext H H') : ∀ {vs : List V} {ws : List (Int × Int)}, Prs H vs ws → Prs H' vs ws
  | [], [], _ => True.intro
  | _ :: _, _ :: _, ⟨⟨t, h1, h2⟩, r⟩ => ⟨⟨t, h1, e _ _ h2⟩, Prs.ext e r⟩
theorem Prs.upd {H : Hp} {D : Addr} {xs ys : List V} (hD : H D = some (.lst xs)) : ∀ {vs : List V} {ws : List (Int × Int)}, Prs H vs ws → Prs (upd H D (.lst ys)) vs ws
  | [], [], _ => True.intro
  | _ :: _, _ :: _, ⟨⟨t, h1, h2⟩, r⟩ => ⟨⟨t, h1, by rw [upd_ne (ne_of h2 hD (by intro z; cases z))]; exact h2⟩, Prs.upd hD r⟩
theorem Prs.app {H : Hp} : ∀ {vs vs' : List V} {ws ws' : List (Int × Int)}, Prs H vs ws → Prs H vs' ws' → Prs H (vs ++ vs') (ws ++ ws')
  | [], _, [], _, _, h => h
  | _ :: _, _, _ :: _, _, ⟨a, r⟩, h => ⟨a, Prs.app r h⟩
theorem Prs.len {H : Hp} : ∀ {vs : List V} {ws : List (Int × Int)}, Prs H vs ws → vs.length = ws.length
  | [], [], _ => rfl
  | _ :: _, _ :: _, ⟨_, r⟩ => congrArg Nat.succ (Prs.len r)
theorem Prs.mem {H : Hp} {v : V} : ∀ {vs : List V} {ws : List (Int × Int)}, Prs H vs ws → v ∈ vs → ∃ w ∈ ws, ∃ t, v = .ref t ∧ H t = some (.tup [.int w.1, .int w.2])
  | [], [], _, h => by cases h
  | x :: xs, w :: ws, ⟨a, r⟩, h => by
    rcases List.mem_cons.mp h with rfl | h
    · exact ⟨w, List.mem_cons_self, a⟩
    · obtain ⟨w', m, q⟩ := Prs.mem r h
      exact ⟨w', List.mem_cons_of_mem _ m, q⟩
theorem wRow_snoc (k a c : Int) (cs : List Int) : wRow k a (cs ++ [c]) = if okW k a c = true then wRow k a cs ++ [(a, c)] else wRow k a cs := by
  unfold wRow
  rw [List.filter_append]
  cases h : okW k a c <;> simp [List.filter_cons, h]
theorem wRow_len (k a : Int) (cs : List Int) : (wRow k a cs).length ≤ cs.length := by
  unfold wRow
  rw [List.length_map]
  exact List.length_filter_le _ _
theorem wAll_len (k : Int) : ∀ n, (wAll k n).length ≤ 3 * n
  | 0 => by simp [wAll]
  | n + 1 => by
    have := wAll_len k n
    have := wRow_len k (1 + (n : Int)) [1, 2, 3]
    simp only [wAll, List.length_append, List.length_cons, List.length_nil] at *
    omega
def sp_l_weights (K : PySem.W.Frag) : Sp := fun vs H Q _ => ∃ k : Int, vs = [.int k] ∧ 2 ≤ k ∧ k ≤ 4 ∧
  ∀ l ts H', H l = none → Ext H H' → H' l = some (.lst ts) → Prs H' ts (weightsL k) → Q (.ref l) H'
def rd_l_weights_L1 (K : PySem.W.Frag) : TS := tDrop (tBM K "list" rExtend (tVar 1) (tCons (tLc (iTup K (tTup (tCons (tC (.int 1)) (tCons (tC (.int 2)) (tCons (tC (.int 3)) (tNil)))))) (gName 3) (tAnd (tTest (tOp FW.rGe (tVar 2) (tOp FW.rMul (tVar 3) (tOp FW.rSub (tVar 0) (tC (.int 1)))))) (tTest (tOp FW.rLe (tOp FW.rAdd (tVar 2) (tVar 3)) (tC (.int 6))))) (tTup (tCons (tVar 2) (tCons (tVar 3) (tNil)))) [3]) (tNil)))
def rd_l_weights (K : PySem.W.Frag) : TS := tSeq (tAsg (tLst (tNil)) (gName 1)) (tSeq (tFor (iRng2 (tCons (tC (.int 1)) (tCons (tC (.int 6)) (tNil)))) (gName 2) (rd_l_weights_L1 K)) (tRet (tVar 1)))
theorem pure_l_weights (K : PySem.W.Frag) (vs : List V) (H : Hp) (Q : VK) (E : XK) (h : sp_l_weights K vs H Q E) : rd_l_weights K { nx := fun _ H' => Q .non H', rt := Q } (start ["_law_k", "_law_found", "_law_a", "_law_c"] vs) H := by
  obtain ⟨k, rfl, h2, h4, q⟩ := h
  unfold rd_l_weights
  walk_at "rd"
  refine ⟨by decide, fun l hl => ?_⟩
  walk_at "rd"
  · refine for_range (lo := 1) (n := 5) (fun i σ H' => Ext H H' ∧ (∃ ts, H' l = some (.lst ts) ∧ Prs H' ts (wAll k i)) ∧ ∃ u v, σ = [some (.int k), some (.ref l), u, v]) ⟨Ext.new hl, ⟨[], upd_same, True.intro⟩, _, _, rfl⟩ ?_ ?_
    · rintro i σ H' hi ⟨e, ⟨ts, hts, hp⟩, u, v, rfl⟩
      have hlen := hp.len
      have hwl := wAll_len k i
      walk_at "re"
      unfold rd_l_weights_L1
      walk_at "rd"
      refine ⟨.inl ⟨rfl, _, SqL.of hts⟩, ?_⟩
      walk_at "rd"
      refine ⟨by decide, fun c hc => ?_⟩
      have eC : Ext H' (upd H' c (.tup [.int 1, .int 2, .int 3])) := Ext.new hc
      have hC : (upd H' c (.tup [.int 1, .int 2, .int 3])) c = some (.tup [.int 1, .int 2, .int 3]) := upd_same
      generalize upd H' c (.tup [.int 1, .int 2, .int 3]) = H1 at *
      refine i_tup' [.int 1, .int 2, .int 3] ?_ (SqT.of hC)
      intro D hD
      refine lc_tup (xs := [.int 1, .int 2, .int 3]) (fun j H2 => Ext H1 H2 ∧ ∃ as, H2 D = some (.lst as) ∧ Prs H2 as (wRow k (1 + (i : Int)) ([(1 : Int), 2, 3].take j))) ⟨Ext.new hD, [], upd_same, True.intro⟩ (fun j H2 _ p => SqT.of (p.1 _ _ hC)) ?_ ?_
      · rintro j x H2 hx ⟨e2, as, has, hpr⟩
        have hal : as.length ≤ 3 := by
          rw [hpr.len]
          exact Nat.le_trans (wRow_len _ _ _) (by rw [List.length_take]; exact Nat.min_le_right _ _)
        obtain ⟨c0, hc0, rfl, hb⟩ : ∃ c0 : Int, [(1 : Int), 2, 3].take (j + 1) = [(1 : Int), 2, 3].take j ++ [c0] ∧ x = .int c0 ∧ 1 ≤ c0 ∧ c0 ≤ 3 := by
          match j, hx with
          | 0, hx => exact ⟨1, rfl, (Option.some.inj hx).symm, by decide, by decide⟩
          | 1, hx => exact ⟨2, rfl, (Option.some.inj hx).symm, by decide, by decide⟩
          | 2, hx => exact ⟨3, rfl, (Option.some.inj hx).symm, by decide, by decide⟩
          | (n + 3), hx => simp at hx
        have fin : ∀ b : Bool, okW k (1 + (i : Int)) c0 = b → (if b = true then tTup (tCons (tVar 2) (tCons (tVar 3) tNil)) [some (.int k), some (.ref l), some (.int (1 + (i : Int))), some (.int c0)] H2 fun y H4 => ∃ acc, H4 D = some (.lst acc) ∧ acc.length < sizeLine ∧ (Ext H1 (L2.upd H4 D (.lst (acc ++ [y]))) ∧ ∃ as, (L2.upd H4 D (.lst (acc ++ [y]))) D = some (.lst as) ∧ Prs (L2.upd H4 D (.lst (acc ++ [y]))) as (wRow k (1 + (i : Int)) ([(1 : Int), 2, 3].take (j + 1)))) else (Ext H1 H2 ∧ ∃ as, H2 D = some (.lst as) ∧ Prs H2 as (wRow k (1 + (i : Int)) ([(1 : Int), 2, 3].take (j + 1))))) := by
          intro b hb'
          rw [hc0, wRow_snoc, hb']
          cases b with
          | true =>
            rw [if_pos rfl, if_pos rfl]
            walk_at "rd"
            refine ⟨by show 2 ≤ sizeLine; decide, fun t ht => ⟨as, (Ext.new ht) _ _ has, Nat.lt_of_le_of_lt hal (by decide), (e2.tr (Ext.new ht)).upds hD, _, upd_same, ?_⟩⟩
            refine Prs.upd ((Ext.new ht) _ _ has) (Prs.app (hpr.ext (Ext.new ht)) ⟨⟨t, rfl, upd_same⟩, True.intro⟩)
          | false =>
            rw [if_neg (by decide), if_neg (by decide)]
            exact ⟨e2, as, has, hpr⟩
        walk_at "re"
        refine ⟨rfl, ?_⟩
        walk_at "re"
        · refine e_ite (fun h1 => ?_) (fun h1 => ?_)
          · walk_at "re"
            exact fin _ (by unfold okW; rw [decide_eq_true h1, Bool.true_and])
          · exact fin false (by unfold okW; rw [decide_eq_false h1, Bool.false_and])
        · exact wide_mul (a := 10) (b := 10) (by omega) (by omega) (by decide) (by decide) (by decide)
      · rintro H2 ⟨e2, as, has, hpr⟩
        have el : H2 l = some (.lst ts) := e2 _ _ (eC _ _ hts)
        have hne : D ≠ l := ((ne_of_none (eC _ _ hts) hD)).symm
        refine ⟨l, D, ts, as, rfl, rfl, el, has, ?_, ?_⟩
        · have hpr' : Prs H2 as (wRow k (1 + (i : Int)) [1, 2, 3]) := hpr
          have := hpr'.len
          have := wRow_len k (1 + (i : Int)) [1, 2, 3]
          simp only [List.length_cons, List.length_nil] at *
          exact Nat.le_trans (show ts.length + as.length ≤ 100 by omega) (by decide)
        · walk_at "rd"
          refine ⟨((e.tr eC).tr e2).upds hl, ⟨_, upd_same, ?_⟩, _, _, rfl⟩
          exact Prs.upd el (Prs.app ((hp.ext eC).ext e2) hpr)
    · rintro σ H' ⟨e, ⟨ts, hts, hp⟩, u, v, rfl⟩
      walk_at "rd"
      exact q _ _ _ hl e hts hp
  · decide
theorem weights_ok {k : Int} (h2 : 2 ≤ k) (h4 : k ≤ 4) : ∀ w ∈ weightsL k, 1 ≤ w.2 ∧ w.2 ≤ 3 ∧ w.2 * (k - 1) ≤ w.1 ∧ w.1 + w.2 ≤ 6 ∧ 1 ≤ w.1 ∧ w.1 ≤ 5 := by
  have : k = 2 ∨ k = 3 ∨ k = 4 := by omega
  rcases this with rfl | rfl | rfl <;> decide
theorem weights_ne {k : Int} (h2 : 2 ≤ k) (h4 : k ≤ 4) : weightsL k ≠ [] ∧ (weightsL k).length ≤ 15 := by
  have : k = 2 ∨ k = 3 ∨ k = 4 := by omega
  rcases this with rfl | rfl | rfl <;> decide
end FWL
namespace FWL
open PySem PySem.Spec PyProof.Rows L2 FW

/-! ### a loop's parts -/
structure Lp where
  k : Int
  a : Int
  c : Int
  d : Int
  stop : Str
  told : Str
  mend : Str
structure Lp.Ok (l : Lp) : Prop where
  hk : l.k = 2 ∨ l.k = 3 ∨ l.k = 4
  a1 : 1 ≤ l.a
  a5 : l.a ≤ 5
  c1 : 1 ≤ l.c
  c3 : l.c ≤ 3
  ca : l.c * (l.k - 1) ≤ l.a
  ac : l.a + l.c ≤ 6
  d0 : -l.a ≤ l.d
  d1 : l.d ≤ l.a + l.c
  hs : V.str l.stop ∈ stopsV
  ht : V.str l.told ∈ toldsV
  hl : V.str l.stop ∈ looksV → l.told = "old"
  hm : V.str l.mend ∈ mendsV
abbrev Lp.V (l : Lp) : List V := [.int l.k, .int l.a, .int l.c, .int l.d, .str l.stop, .str l.told, .str l.mend]
abbrev Lp.F (l : Lp) : List (Str × L2.V) := [("k", .int l.k), ("a", .int l.a), ("c", .int l.c), ("d", .int l.d), ("stop", .str l.stop), ("told", .str l.told), ("mend", .str l.mend)]
theorem eqV_str (a b : Str) : eqV (.str a) (.str b) = decide (a = b) := by
  show (a == b) = decide (a = b)
  by_cases h : a = b
  · subst h; simp
  · rw [decide_eq_false h]; exact beq_eq_false_iff_ne.mpr h
theorem inV_str (s : Str) : ∀ {xs : List V}, (∀ v ∈ xs, ∃ x, v = V.str x) → inV (.str s) xs = decide (V.str s ∈ xs)
  | [], _ => rfl
  | v :: vs, h => by
    obtain ⟨x, rfl⟩ := h v List.mem_cons_self
    have ih := inV_str s fun v hv => h v (List.mem_cons_of_mem _ hv)
    show (eqV (.str x) (.str s) || inV (.str s) vs) = _
    rw [ih, eqV_str]
    by_cases e : x = s
    · subst e; simp
    · have e' : ¬ s = x := fun z => e z.symm
      simp [e, e']
theorem strs_stops : ∀ v ∈ stopsV, ∃ x, v = V.str x := by
  intro v h
  simp only [stopsV, List.mem_cons, List.not_mem_nil, or_false] at h
  rcases h with rfl | rfl | rfl | rfl | rfl | rfl | rfl <;> exact ⟨_, rfl⟩
theorem strs_tolds : ∀ v ∈ toldsV, ∃ x, v = V.str x := by
  intro v h
  simp only [toldsV, List.mem_cons, List.not_mem_nil, or_false] at h
  rcases h with rfl | rfl | rfl | rfl <;> exact ⟨_, rfl⟩
theorem strs_mends : ∀ v ∈ mendsV, ∃ x, v = V.str x := by
  intro v h
  simp only [mendsV, List.mem_cons, List.not_mem_nil, or_false] at h
  rcases h with rfl | rfl | rfl | rfl <;> exact ⟨_, rfl⟩
theorem strs_looks : ∀ v ∈ looksV, ∃ x, v = V.str x := by
  intro v h
  simp only [looksV, List.mem_cons, List.not_mem_nil, or_false] at h
  rcases h with rfl | rfl <;> exact ⟨_, rfl⟩
theorem Lp.Ok.right {l : Lp} (o : l.Ok) : wrongP (.int l.k) (.int l.a) (.int l.c) (.int l.d) (.str l.stop) (.str l.told) (.str l.mend) = .non := by
  have h1 : inV (.int l.k) [.int 2, .int 3, .int 4] = true := by
    rcases o.hk with e | e | e <;> rw [e] <;> decide
  have h2 : wordOf (.str l.stop) stopsV = true := by
    show (true && inV (.str l.stop) stopsV) = true
    rw [Bool.true_and, inV_str _ strs_stops]; exact decide_eq_true o.hs
  have h3 : wordOf (.str l.told) toldsV = true := by
    show (true && inV (.str l.told) toldsV) = true
    rw [Bool.true_and, inV_str _ strs_tolds]; exact decide_eq_true o.ht
  have h4 : wordOf (.str l.mend) mendsV = true := by
    show (true && inV (.str l.mend) mendsV) = true
    rw [Bool.true_and, inV_str _ strs_mends]; exact decide_eq_true o.hm
  have h5 : (inV (.str l.stop) looksV && !decide (V.str l.told = .str "old")) = false := by
    rw [inV_str _ strs_looks]
    by_cases h : V.str l.stop ∈ looksV
    · rw [o.hl h]; simp
    · simp [h]
  have a1 := o.a1; have a5 := o.a5; have c1 := o.c1; have ca := o.ca; have ac := o.ac; have d0 := o.d0; have d1 := o.d1
  have e3 : ((decide (l.a < l.c * (l.k - 1)) || decide (6 < l.a + l.c))) = false := by
    rw [decide_eq_false (by omega), decide_eq_false (by omega)]; rfl
  have e1 : (decide (1 ≤ l.a) && decide (l.a ≤ 5)) = true := by rw [decide_eq_true a1, decide_eq_true a5]; rfl
  have e2 : (decide (-l.a ≤ l.d) && decide (l.d ≤ l.a + l.c)) = true := by rw [decide_eq_true d0, decide_eq_true d1]; rfl
  have e4 : fromI (.int l.c) 1 = true := by show (true && decide (1 ≤ l.c)) = true; rw [decide_eq_true c1]; rfl
  unfold wrongP
  rw [if_neg (by rw [h1]; show ¬ ((!true || !true) = true); decide), if_neg (by show ¬ ((!true || !(decide (1 ≤ l.a) && decide (l.a ≤ 5))) = true); rw [e1]; decide),
    if_neg (by show ¬ ((!fromI (.int l.c) 1 || (decide (l.a < l.c * (l.k - 1)) || decide (6 < l.a + l.c))) = true); rw [e4, e3]; decide),
    if_neg (by show ¬ ((!true || !(decide (-l.a ≤ l.d) && decide (l.d ≤ l.a + l.c))) = true); rw [e2]; decide),
    if_neg (by rw [h2]; decide), if_neg (by rw [h3, h5]; decide), if_pos h4]
/-- a loop as an object -/
def IsLp (K : PySem.W.Frag) (H : Hp) (x : Addr) (l : Lp) : Prop := ∃ dx, H x = some (.ins (He.ga K "Average") dx l.F)
theorem IsLp.ext {K : PySem.W.Frag} {H H' : Hp} {x : Addr} {l : Lp} (e : Ext H H') : IsLp K H x l → IsLp K H' x l
  | ⟨dx, h⟩ => ⟨dx, e _ _ h⟩
def sp_Average_init (K : PySem.W.Frag) : Sp := fun vs H Q _ => ∃ (x dx : Addr) (l : Lp), vs = .ref x :: l.V ∧ l.Ok ∧ H x = some (.ins (He.ga K "Average") dx []) ∧
  ∀ H', ExtB x H H' → H' x = some (.ins (He.ga K "Average") dx l.F) → Q .non H'
def rd_Average_init (K : PySem.W.Frag) : TS := tSeq (tAsg (tCall (sp_wrong_part K) [] E0 (tCons (tVar 1) (tCons (tVar 2) (tCons (tVar 3) (tCons (tVar 4) (tCons (tVar 5) (tCons (tVar 6) (tCons (tVar 7) (tNil))))))))) (gName 8)) (tSeq (tIfS (tTest (tOp FW.rNotN (tVar 8) (tC .non))) (tNever) (tNext)) (tSeq (sFld K (tVar 0) (tVar 1) "k") (tSeq (sFld K (tVar 0) (tVar 2) "a") (tSeq (sFld K (tVar 0) (tVar 3) "c") (tSeq (sFld K (tVar 0) (tVar 4) "d") (tSeq (sFld K (tVar 0) (tVar 5) "stop") (tSeq (sFld K (tVar 0) (tVar 6) "told") (sFld K (tVar 0) (tVar 7) "mend"))))))))
theorem e_sF {K : PySem.W.Frag} {H : Hp} {a C dx : Addr} {f : Str} {fs : List (Str × V)} {R : Hp → Prop} {y : V} (k : R (upd H a (.ins C dx (putF f y fs)))) (h : H a = some (.ins C dx fs)) (c : Cls K C) (n : NoAttr K C f) (hl : fs.length < 1000) :
    ∃ a' C dx fs, V.ref a = .ref a' ∧ H a' = some (.ins C dx fs) ∧ Cls K C ∧ NoAttr K C f ∧ fs.length < 1000 ∧ R (upd H a' (.ins C dx (putF f y fs))) := ⟨a, C, dx, fs, rfl, h, c, n, hl, k⟩
theorem pure_Average_init (K : PySem.W.Frag) (A : AvK K) (vs : List V) (H : Hp) (Q : VK) (E : XK) (h : sp_Average_init K vs H Q E) : rd_Average_init K { nx := fun _ H' => Q .non H', rt := Q } (start ["self", "k", "a", "c", "d", "stop", "told", "mend", "wrong"] vs) H := by
  obtain ⟨x, dx, l, rfl, o, hx, q⟩ := h
  unfold rd_Average_init
  walk_at "rd"
  refine ⟨_, _, _, _, _, _, _, rfl, ?_, ?_, fun H1 e1 => ?_⟩
  · intro v hv
    simp only [List.mem_cons, List.not_mem_nil, or_false] at hv
    rcases hv with rfl | rfl | rfl | rfl | rfl | rfl | rfl
    · exact ⟨_, WT.i _⟩
    · exact ⟨_, WT.i _⟩
    · exact ⟨_, WT.i _⟩
    · exact ⟨_, WT.i _⟩
    · exact ⟨_, WT.s _⟩
    · exact ⟨_, WT.s _⟩
    · exact ⟨_, WT.s _⟩
  · have := o.c1; have := o.c3
    exact Nat.lt_of_lt_of_le (show (iv (.int l.c)).natAbs < 2 ^ 3 by show l.c.natAbs < 8; omega) (Nat.pow_le_pow_right (by decide) (by decide))
  · rw [o.right]
    walk_at "rd"
    refine e_iteN (fun h => absurd rfl h) (fun _ => ?_)
    walk_at "rd"
    refine e_sF ?_ (e1 _ _ hx) A.cls A.n_k (by decide)
    walk_at "rd"
    refine e_sF ?_ upd_same A.cls A.n_a (by show 1 < 1000; decide)
    walk_at "rd"
    refine e_sF ?_ upd_same A.cls A.n_c (by show 2 < 1000; decide)
    walk_at "rd"
    refine e_sF ?_ upd_same A.cls A.n_d (by show 3 < 1000; decide)
    walk_at "rd"
    refine e_sF ?_ upd_same A.cls A.n_stop (by show 4 < 1000; decide)
    walk_at "rd"
    refine e_sF ?_ upd_same A.cls A.n_told (by show 5 < 1000; decide)
    walk_at "rd"
    refine e_sF ?_ upd_same A.cls A.n_mend (by show 6 < 1000; decide)
    refine q _ ?_ upd_same
    intro a o' ne h
    rw [upd_ne ne, upd_ne ne, upd_ne ne, upd_ne ne, upd_ne ne, upd_ne ne, upd_ne ne]
    exact e1 _ _ h
/-! ### led, step -/
theorem e_fL {K : PySem.W.Frag} {H : Hp} {x : Addr} {l : Lp} {f : Str} {R : V → Prop} {v : V} (k : R v) (A : AvK K) (h : IsLp K H x l) (n : NoAttr K (He.ga K "Average") f) (hl : l.F.lookup f = some v) :
    ∃ a C dx fs v, V.ref x = .ref a ∧ H a = some (.ins C dx fs) ∧ Cls K C ∧ NoAttr K C f ∧ fs.lookup f = some v ∧ R v := by
  obtain ⟨dx, h⟩ := h
  exact ⟨x, _, dx, _, v, rfl, h, A.cls, n, hl, k⟩
/-- the guess to which the step leads -/
def Lp.led (l : Lp) (n x : Int) : Int := (l.a * x + l.c * (n / x ^ (l.k - 1).toNat) + l.d) / (l.a + l.c)
def sp_Average_led (K : PySem.W.Frag) : Sp := fun vs H Q _ => ∃ (p : Addr) (l : Lp) (n x : Int), vs = [.ref p, .int n, .int x] ∧ IsLp K H p l ∧ l.Ok ∧ 1 ≤ x ∧ 0 ≤ n ∧ n.natAbs < 2 ^ 2000 ∧ x.natAbs < 2 ^ 2000 ∧ Q (.int (l.led n x)) H
def rd_Average_led (K : PySem.W.Frag) : TS := tSeq (tAsg (tOp FW.rDiv (tVar 1) (tCall (sp_power K) [] E0 (tCons (tVar 2) (tCons (tOp FW.rSub (tFld K (tVar 0) "k") (tC (.int 1))) (tNil))))) (gName 3)) (tRet (tOp FW.rDiv (tOp FW.rAdd (tOp FW.rAdd (tOp FW.rMul (tFld K (tVar 0) "a") (tVar 2)) (tOp FW.rMul (tFld K (tVar 0) "c") (tVar 3))) (tFld K (tVar 0) "d")) (tOp FW.rAdd (tFld K (tVar 0) "a") (tFld K (tVar 0) "c"))))
theorem pow_pos' {x : Int} (h : 1 ≤ x) : ∀ n : Nat, 1 ≤ x ^ n
  | 0 => by rw [Int.pow_zero]; omega
  | n + 1 => by
    have ih := pow_pos' h n
    rw [Int.pow_succ]
    have : 1 * 1 ≤ x ^ n * x := Int.mul_le_mul ih h (by decide) (by omega)
    simpa using this
theorem ediv_abs {a b : Int} (ha : 0 ≤ a) (hb : 1 ≤ b) : (a / b).natAbs ≤ a.natAbs := by
  have h1 : 0 ≤ a / b := Int.ediv_nonneg ha (by omega)
  have h2 : a / b ≤ a := Int.ediv_le_self _ ha
  omega
theorem pure_Average_led (K : PySem.W.Frag) (A : AvK K) (vs : List V) (H : Hp) (Q : VK) (E : XK) (h : sp_Average_led K vs H Q E) : rd_Average_led K { nx := fun _ H' => Q .non H', rt := Q } (start ["self", "n", "x", "quotient"] vs) H := by
  obtain ⟨p, l, n, x, rfl, hp, o, hx, hn, hnb, hxb, q⟩ := h
  have hk := o.hk; have a1 := o.a1; have a5 := o.a5; have c1 := o.c1; have c3 := o.c3
  have hk1 : 0 ≤ l.k - 1 ∧ l.k - 1 ≤ 3 := by omega
  have hpw := pow_lt hxb (by decide) (l.k - 1).toNat
  have hpp := pow_pos' hx (l.k - 1).toNat
  have hq : (n / x ^ (l.k - 1).toNat).natAbs < 2 ^ 2000 := Nat.lt_of_le_of_lt (ediv_abs hn hpp) hnb
  unfold rd_Average_led
  walk_at "rd"
  refine e_fL ?_ A hp A.n_k rfl
  walk_at "rd"
  refine ⟨x, l.k - 1, 2000, rfl, hk1.1, hxb, by decide, ?_, ?_⟩
  · have : (l.k - 1).toNat + 1 ≤ 4 := by omega
    have := Nat.mul_le_mul_right 2000 this
    omega
  walk_at "rd"
  · refine e_fL ?_ A hp A.n_a rfl
    walk_at "rd"
    · refine e_fL ?_ A hp A.n_c rfl
      walk_at "rd"
      · refine e_fL ?_ A hp A.n_d rfl
        walk_at "rd"
        refine e_fL ?_ A hp A.n_a rfl
        walk_at "rd"
        refine e_fL ?_ A hp A.n_c rfl
        walk_at "rd"
        · exact q
        · refine wide_div (b := 10) (by omega) ?_ (by decide) (by decide)
          show (l.a + l.c).natAbs < 1024
          omega
      · exact wide_mul (a := 10) (b := 2000) (by show l.c.natAbs < 1024; omega) hq (by decide) (by decide) (by decide)
    · exact wide_mul (a := 10) (b := 2000) (by show l.a.natAbs < 1024; omega) hxb (by decide) (by decide) (by decide)
  · refine wide_div (b := (l.k - 1).toNat * 2000 + 1) (by omega) hpw (by omega) ?_
    have : (l.k - 1).toNat ≤ 3 := by omega
    have := Nat.mul_le_mul_right 2000 this
    omega
def sp_Average_step (K : PySem.W.Frag) : Sp := sp_Average_led K
def rd_Average_step (K : PySem.W.Frag) : TS := tSeq (tDrop (tCall (sp_check_number K) [] E0 (tCons (tVar 1) (tNil)))) (tSeq (tDrop (tCall (sp_check_start K) [] E0 (tCons (tVar 2) (tNil)))) (tRet (tMeth (He.ga K "Average") "led" (sp_Average_led K) [] E0 (tVar 0) (tCons (tVar 1) (tCons (tVar 2) (tNil))))))
theorem pure_Average_step (K : PySem.W.Frag) (vs : List V) (H : Hp) (Q : VK) (E : XK) (h : sp_Average_step K vs H Q E) : rd_Average_step K { nx := fun _ H' => Q .non H', rt := Q } (start ["self", "n", "x"] vs) H := by
  obtain ⟨p, l, n, x, rfl, hp, o, hx, hn, hnb, hxb, q⟩ := h
  unfold rd_Average_step
  walk_at "rd"
  refine ⟨_, rfl, hn, ?_⟩
  walk_at "rd"
  refine ⟨_, rfl, hx, ?_⟩
  walk_at "rd"
  have hp' := hp
  obtain ⟨dx, hp'⟩ := hp'
  refine ⟨p, dx, _, rfl, hp', rfl, ?_⟩
  walk_at "rd"
  exact ⟨p, l, n, x, rfl, hp, o, hx, hn, hnb, hxb, q⟩
/-! ### parts drawn -/
theorem Strm.neT {H : Hp} {p t : Addr} {n : Nat} {xs : List V} (h : Strm H p n) (ht : H t = some (.tup xs)) : t ≠ p := by
  obtain ⟨a, b, c, h1, _⟩ := h
  exact ne_of ht h1 (by intro z; cases z)
theorem ExtB.non {p t : Addr} {H H' : Hp} {n : Nat} (e : ExtB p H H') (s : Strm H' p n) (h : H' t = none) : H t = none := by
  cases q : H t with
  | none => rfl
  | some o => rw [e t o (s.ne h) q] at h; cases h
def sp_l_parts (K : PySem.W.Frag) : Sp := fun vs H Q _ => ∃ (p : Addr) (n : Nat), vs = [.ref p] ∧ Strm H p n ∧ n + 10 < 1000000 ∧
  ∀ t l H', l.Ok → H t = none → ExtB p H H' → Strm H' p (n + 7) → H' t = some (.tup (Lp.V l)) → Q (.ref t) H'
def rd_l_parts (K : PySem.W.Frag) : TS := tSeq (tAsg (tOp FW.rAdd (tC (.int 2)) (tCall (sp_l_draw K) [] E0 (tCons (tVar 0) (tCons (tC (.int 3)) (tNil))))) (gName 1)) (tSeq (tAsg (tCall (sp_l_pick K) [] E0 (tCons (tVar 0) (tCons (tCall (sp_l_weights K) [] E0 (tCons (tVar 1) (tNil))) (tNil)))) (gTup K 2 (gCons (gName 2) (gCons (gName 3) (gNil))))) (tSeq (tAsg (tCall (sp_l_pick K) [] E0 (tCons (tVar 0) (tCons (tLst (tCons (tC (.int 0)) (tCons (tC (.int 0)) (tCons (tC (.int 1)) (tCons (tOp FW.rSub (tVar 3) (tC (.int 1))) (tCons (tVar 3) (tCons (tUn FW.rNeg (tC (.int 1))) (tCons (tOp FW.rSub (tCall (sp_l_draw K) [] E0 (tCons (tVar 0) (tCons (tOp FW.rAdd (tOp FW.rAdd (tOp FW.rMul (tC (.int 2)) (tVar 2)) (tVar 3)) (tC (.int 1))) (tNil)))) (tVar 2)) (tNil))))))))) (tNil)))) (gName 4)) (tSeq (tAsg (tCall (sp_l_pick K) [] E0 (tCons (tVar 0) (tCons (tLst (tCons (tC (.str "notless")) (tCons (tC (.str "equal")) (tCons (tC (.str "near1")) (tCons (tC (.str "near2")) (tCons (tC (.str "back")) (tCons (tC (.str "under")) (tCons (tC (.str "held")) (tNil))))))))) (tNil)))) (gName 5)) (tSeq (tAsg (tCall (sp_l_pick K) [] E0 (tCons (tVar 0) (tCons (tLst (tCons (tC (.str "old")) (tCons (tC (.str "new")) (tCons (tC (.str "less")) (tCons (tC (.str "more")) (tNil)))))) (tNil)))) (gName 6)) (tSeq (tAsg (tCall (sp_l_pick K) [] E0 (tCons (tVar 0) (tCons (tLst (tCons (tC (.str "none")) (tCons (tC (.str "none")) (tCons (tC (.str "down")) (tCons (tC (.str "up")) (tCons (tC (.str "both")) (tNil))))))) (tNil)))) (gName 7)) (tRet (tTup (tCons (tVar 1) (tCons (tVar 2) (tCons (tVar 3) (tCons (tVar 4) (tCons (tVar 5) (tCons (tIf (tTest (tOp (rIn K false) (tVar 5) (tTup (tCons (tC (.str "under")) (tCons (tC (.str "held")) (tNil)))))) (tC (.str "old")) (tVar 6)) (tCons (tVar 7) (tNil)))))))))))))))
theorem pure_l_parts (K : PySem.W.Frag) (vs : List V) (H : Hp) (Q : VK) (E : XK) (h : sp_l_parts K vs H Q E) : rd_l_parts K { nx := fun _ H' => Q .non H', rt := Q } (start ["_law_stream_here", "_law_k", "_law_a", "_law_c", "_law_d", "_law_stop", "_law_told", "_law_mend"] vs) H := by
  obtain ⟨p, n, rfl, hS, hn, q⟩ := h
  unfold rd_l_parts
  walk_at "rd"
  refine ⟨p, 3, n, rfl, hS, by omega, by decide, by decide, fun d H1 d0 d1 e1 s1 => ?_⟩
  walk_at "rd"
  refine ⟨2 + d, rfl, by omega, by omega, fun l ts H2 hl e2 hts hpr => ?_⟩
  obtain ⟨w1, w2⟩ := weights_ne (k := 2 + d) (by omega) (by omega)
  have hlen := hpr.len
  walk_at "rd"
  refine ⟨p, l, ts, n + 1, rfl, s1.ext e2, by omega, s1.ne hl, hts, ?_, by omega, fun v H3 hv e3 s3 => ?_⟩
  · intro z; rw [z] at hlen; exact w1 (List.length_eq_zero_iff.mp hlen.symm)
  obtain ⟨⟨a, c⟩, hw, t, rfl, ht⟩ := hpr.mem hv
  obtain ⟨c1, c3, ca, ac, a1, a5⟩ := weights_ok (k := 2 + d) (by omega) (by omega) _ hw
  dsimp only at c1 c3 ca ac a1 a5 ht
  refine g_tup ?_ (SqT.of (e3 _ _ ((s1.ext e2).neT ht) ht)) rfl
  walk_at "rd"
  · refine ⟨p, 2 * a + c + 1, n + 2, rfl, s3, by omega, by omega, log2_small (by omega), fun d' H4 d0' d1' e4 s4 => ?_⟩
    walk_at "rd"
    refine ⟨by show 7 ≤ sizeLine; decide, fun ql hq => ?_⟩
    walk_at "rd"
    refine ⟨p, ql, _, n + 3, rfl, s4.ext (Ext.new hq), by omega, s4.ne hq, upd_same, by simp, by show 7 < 1000; decide, fun v H5 hv5 e5 s5 => ?_⟩
    obtain ⟨dd, rfl, dd0, dd1⟩ : ∃ dd : Int, v = .int dd ∧ -a ≤ dd ∧ dd ≤ a + c := by
      simp only [List.mem_cons, List.not_mem_nil, or_false] at hv5
      rcases hv5 with rfl | rfl | rfl | rfl | rfl | rfl | rfl
      · exact ⟨_, rfl, by omega, by omega⟩
      · exact ⟨_, rfl, by omega, by omega⟩
      · exact ⟨_, rfl, by omega, by omega⟩
      · exact ⟨_, rfl, by omega, by omega⟩
      · exact ⟨_, rfl, by omega, by omega⟩
      · exact ⟨_, rfl, by omega, by omega⟩
      · exact ⟨_, rfl, by omega, by omega⟩
    walk_at "rd"
    refine ⟨by show 7 ≤ sizeLine; decide, fun q6 hq6 => ?_⟩
    walk_at "rd"
    refine ⟨p, q6, stopsV, n + 4, rfl, s5.ext (Ext.new hq6), by omega, s5.ne hq6, upd_same, by simp [stopsV], by show 7 < 1000; decide, fun v H7 hv7 e7 s7 => ?_⟩
    obtain ⟨ws, rfl⟩ := strs_stops v hv7
    walk_at "rd"
    refine ⟨by show 4 ≤ sizeLine; decide, fun q8 hq8 => ?_⟩
    walk_at "rd"
    refine ⟨p, q8, toldsV, n + 5, rfl, s7.ext (Ext.new hq8), by omega, s7.ne hq8, upd_same, by simp [toldsV], by show 4 < 1000; decide, fun v H9 hv9 e9 s9 => ?_⟩
    obtain ⟨wt, rfl⟩ := strs_tolds v hv9
    walk_at "rd"
    refine ⟨by show 5 ≤ sizeLine; decide, fun q10 hq10 => ?_⟩
    walk_at "rd"
    refine ⟨p, q10, _, n + 6, rfl, s9.ext (Ext.new hq10), by omega, s9.ne hq10, upd_same, by simp, by show 5 < 1000; decide, fun v H11 hv11 e11 s11 => ?_⟩
    obtain ⟨wm, rfl, hwm⟩ : ∃ x, v = .str x ∧ V.str x ∈ mendsV := by
      simp only [List.mem_cons, List.not_mem_nil, or_false] at hv11
      rcases hv11 with rfl | rfl | rfl | rfl | rfl <;> exact ⟨_, rfl, by simp [mendsV]⟩
    walk_at "rd"
    refine ⟨by show 2 ≤ sizeLine; decide, fun q12 hq12 => ?_⟩
    have eB : ExtB p H H11 := e1.tr ((ExtB.of e2).tr (e3.tr (e4.tr ((ExtB.of (Ext.new hq)).tr (e5.tr ((ExtB.of (Ext.new hq6)).tr (e7.tr ((ExtB.of (Ext.new hq8)).tr (e9.tr ((ExtB.of (Ext.new hq10)).tr e11))))))))))
    refine e_in ?_ (.inr (SqT.of upd_same)) rfl rfl
    rw [if_neg (by decide)]
    have fin : ∀ tt : Str, V.str tt ∈ toldsV → (V.str ws ∈ looksV → tt = "old") → ∀ r, (upd H11 q12 (.tup [.str "under", .str "held"])) r = none → Q (.ref r) (upd (upd H11 q12 (.tup [.str "under", .str "held"])) r (.tup [.int (2 + d), .int a, .int c, .int dd, .str ws, .str tt, .str wm])) := by
      intro tt htt hlk r hr
      have s12 : Strm (upd H11 q12 (.tup [.str "under", .str "held"])) p (n + 7) := s11.ext (Ext.new hq12)
      have eB12 : ExtB p H (upd H11 q12 (.tup [.str "under", .str "held"])) := eB.tr (ExtB.of (Ext.new hq12))
      exact q r ⟨2 + d, a, c, dd, ws, tt, wm⟩ _ ⟨by show 2 + d = 2 ∨ 2 + d = 3 ∨ 2 + d = 4; omega, a1, a5, c1, c3, ca, ac, dd0, dd1, hv7, htt, hlk, hwm⟩ (FWL.ExtB.non eB12 s12 hr) (eB12.tr (ExtB.of (Ext.new hr))) (s12.ext (Ext.new hr)) upd_same
    walk_at "rd"
    refine e_iteB (fun hb => ?_) (fun hb => ?_)
    · walk_at "rd"
      exact ⟨by show 7 ≤ sizeLine; decide, fin "old" (by simp [toldsV]) (fun _ => rfl)⟩
    · walk_at "rd"
      refine ⟨by show 7 ≤ sizeLine; decide, fin wt hv9 (fun hx => ?_)⟩
      have e := inV_str ws strs_looks
      rw [decide_eq_true hx] at e
      rw [show inV (V.str ws) [V.str "under", V.str "held"] = inV (V.str ws) looksV from rfl, e] at hb
      cases hb
  · exact wide_mul (a := 10) (b := 10) (by decide) (by omega) (by decide) (by decide) (by decide)
end FWL
namespace FWL
open PySem PySem.Spec PyProof.Rows L2 FW

/-! ### the law's power -/
def sp_l_power (K : PySem.W.Frag) : Sp := sp_power K
def rd_l_power_L1 (K : PySem.W.Frag) : TS := tAsg (tOp FW.rMul (tVar 2) (tVar 0)) (gName 2)
def rd_l_power (K : PySem.W.Frag) : TS := tSeq (tAsg (tC (.int 1)) (gName 2)) (tSeq (tFor (iRng1 (tCons (tVar 1) (tNil))) (gName 3) (rd_l_power_L1 K)) (tRet (tVar 2)))
theorem pure_l_power (K : PySem.W.Frag) (vs : List V) (H : Hp) (Q : VK) (E : XK) (h : sp_l_power K vs H Q E) : rd_l_power K { nx := fun _ H' => Q .non H', rt := Q } (start ["_law_x", "_law_k", "_law_found", "_law_turn"] vs) H := by
  obtain ⟨x, k, b, rfl, hk, hx, hb, hz, q⟩ := h
  unfold rd_l_power
  walk_at "rd"
  refine for_range (lo := 0) (n := k.toNat) (fun i σ H' => H' = H ∧ ∃ v, σ = [some (.int x), some (.int k), some (.int (x ^ i)), v]) ⟨rfl, _, by rw [Int.pow_zero]; rfl⟩ ?_ ?_
  · rintro i σ H' hi ⟨rfl, v, rfl⟩
    walk_at "re"
    unfold rd_l_power_L1
    walk_at "rd"
    · exact ⟨rfl, _, by rw [Int.pow_succ]; rfl⟩
    · refine wide_mul (pow_lt hx hb i) hx (by omega) hb ?_
      have : (i + 1) * b ≤ (k.toNat + 1) * b := Nat.mul_le_mul_right _ (by omega)
      rw [Nat.add_mul] at this
      omega
  · rintro σ H' ⟨rfl, v, rfl⟩
    walk_at "rd"
    exact q
  · have : k.toNat * 1 ≤ k.toNat * b := Nat.mul_le_mul_left _ hb
    rw [Nat.add_mul] at hz
    omega
end FWL
namespace FWL
open PySem PySem.Spec PyProof.Rows L2 FW

/-! ### the law's own root: the greatest number whose power is at most n -/
def sp_l_root (K : PySem.W.Frag) : Sp := fun vs H Q _ => ∃ n k : Int, vs = [.int n, .int k] ∧ 0 ≤ n ∧ 1 ≤ k ∧ k ≤ 4 ∧ Sz 2000 n ∧ ∀ (r : Int) H', 0 ≤ r → r ^ k.toNat ≤ n → n < (r + 1) ^ k.toNat → Ext H H' → Q (.int r) H'
def rd_l_root_L1 (K : PySem.W.Frag) : TS := tAsg (tOp FW.rMul (tVar 3) (tC (.int 2))) (gName 3)
def rd_l_root_L2 (K : PySem.W.Frag) : TS := tSeq (tAsg (tOp FW.rDiv (tOp FW.rAdd (tVar 2) (tVar 3)) (tC (.int 2))) (gName 4)) (tIfS (tTest (tOp FW.rLe (tCall (sp_l_power K) [] E0 (tCons (tVar 4) (tCons (tVar 1) (tNil)))) (tVar 0))) (tAsg (tVar 4) (gName 2)) (tAsg (tVar 4) (gName 3)))
def rd_l_root (K : PySem.W.Frag) : TS := tSeq (tAsg (tTup (tCons (tC (.int 0)) (tCons (tC (.int 1)) (tNil)))) (gTup K 2 (gCons (gName 2) (gCons (gName 3) (gNil))))) (tSeq (tWhile (tTest (tOp FW.rLe (tCall (sp_l_power K) [] E0 (tCons (tVar 3) (tCons (tVar 1) (tNil)))) (tVar 0))) (rd_l_root_L1 K)) (tSeq (tWhile (tTest (tOp FW.rGt (tOp FW.rSub (tVar 3) (tVar 2)) (tC (.int 1)))) (rd_l_root_L2 K)) (tRet (tVar 2))))
theorem pow_ge_self {x : Int} (h : 1 ≤ x) (n : Nat) (hn : 1 ≤ n) : x ≤ x ^ n := by
  obtain ⟨m, rfl⟩ : ∃ m, n = m + 1 := ⟨n - 1, by omega⟩
  have hp := pow_pos' h m
  rw [Int.pow_succ]
  have : 1 * x ≤ x ^ m * x := Int.mul_le_mul_of_nonneg_right hp (by omega)
  omega
theorem pow_mono {x y : Int} (h0 : 0 ≤ x) (h : x ≤ y) : ∀ n : Nat, x ^ n ≤ y ^ n
  | 0 => by simp
  | n + 1 => by
    have ih := pow_mono h0 h n
    have hx : 0 ≤ x ^ n := Int.pow_nonneg h0
    rw [Int.pow_succ, Int.pow_succ]
    exact Int.mul_le_mul ih h h0 (by omega)
theorem pow_lt_inv {x y : Int} (h0 : 0 ≤ y) {n : Nat} (h : x ^ n < y ^ n) (hx : 0 ≤ x) : x < y := by
  rcases Int.lt_or_le x y with h1 | h1
  · exact h1
  · have := pow_mono h0 h1 n
    omega
theorem pure_l_root (K : PySem.W.Frag) (vs : List V) (H : Hp) (Q : VK) (E : XK) (h : sp_l_root K vs H Q E) : rd_l_root K { nx := fun _ H' => Q .non H', rt := Q } (start ["_law_n", "_law_k", "_law_least", "_law_most", "_law_middle"] vs) H := by
  obtain ⟨n, k, rfl, hn, hk1, hk4, hs, q⟩ := h
  have hnb : n.natAbs < 2 ^ 2000 := hs
  unfold rd_l_root
  walk_at "rd"
  refine ⟨by show 2 ≤ sizeLine; decide, fun q1 hq1 => ?_⟩
  refine g_tup ?_ (SqT.of upd_same) rfl
  have eE := Ext.new (o := .tup [V.int 0, V.int 1]) hq1
  generalize upd H q1 (.tup [V.int 0, V.int 1]) = H at *
  walk_at "rd"
  refine s_while (fun m σ H' => H' = H ∧ ∃ (most : Int) (v : Option V), 1 ≤ most ∧ most ≤ 2 * n + 1 ∧ m = (n + 1 - most).toNat + 1 ∧ σ = [some (.int n), some (.int k), some (.int 0), some (.int most), v]) _ ⟨rfl, 1, none, by decide, by omega, rfl, rfl⟩ ?_
  rintro m σ H' ⟨rfl, most, v, h1, h2, rfl, rfl⟩
  have hms : Sz 2002 most := by
    show most.natAbs < 2 ^ 2002
    rw [show (2 : Nat) ^ 2002 = 4 * 2 ^ 2000 from by rw [Nat.pow_add 2 2000 2, Nat.mul_comm]]
    have : 0 < 2 ^ 2000 := Nat.pow_pos (by decide)
    omega
  walk_at "rd"
  refine ⟨most, k, 2002, rfl, by omega, hms, by decide, ?_, ?_⟩
  · have : k.toNat + 1 ≤ 5 := by omega
    have := Nat.mul_le_mul_right 2002 this
    omega
  walk_at "rd"
  refine e_ite (fun hle => ?_) (fun hgt => ?_)
  · have hself := pow_ge_self h1 k.toNat (by omega)
    refine ⟨fun σ' H'' => ∃ m', m' < (n + 1 - most).toNat + 1 ∧ (H'' = H' ∧ ∃ (most : Int) (v : Option V), 1 ≤ most ∧ most ≤ 2 * n + 1 ∧ m' = (n + 1 - most).toNat + 1 ∧ σ' = [some (.int n), some (.int k), some (.int 0), some (.int most), v]), fun _ _ h => h, ?_⟩
    unfold rd_l_root_L1
    walk_at "rd"
    · exact ⟨_, by omega, rfl, most * 2, v, by omega, by omega, rfl, rfl⟩
    · exact wide_mul hms (b := 10) (by decide) (by decide) (by decide) (by decide)
  · walk_at "rd"
    have h0k : (0 : Int) ^ k.toNat ≤ n := by
      rw [Int.zero_pow (by omega)]; exact hn
    refine s_while (fun m σ H'' => H'' = H' ∧ ∃ (lo hi : Int) (v : Option V), 0 ≤ lo ∧ lo < hi ∧ hi ≤ most ∧ lo ^ k.toNat ≤ n ∧ n < hi ^ k.toNat ∧ m = (hi - lo).toNat ∧ σ = [some (.int n), some (.int k), some (.int lo), some (.int hi), v]) _ ⟨rfl, 0, most, v, by decide, by omega, by omega, h0k, by omega, rfl, rfl⟩ ?_
    rintro m σ H'' ⟨rfl, lo, hi, v, l0, llt, lm, p1, p2, rfl, rfl⟩
    walk_at "rd"
    refine e_ite (fun hgo => ?_) (fun hno => ?_)
    · refine ⟨fun σ' H2 => ∃ m', m' < (hi - lo).toNat ∧ (H2 = H'' ∧ ∃ (lo hi : Int) (v : Option V), 0 ≤ lo ∧ lo < hi ∧ hi ≤ most ∧ lo ^ k.toNat ≤ n ∧ n < hi ^ k.toNat ∧ m' = (hi - lo).toNat ∧ σ' = [some (.int n), some (.int k), some (.int lo), some (.int hi), v]), fun _ _ h => h, ?_⟩
      unfold rd_l_root_L2
      walk_at "rd"
      · have hmid : lo < (lo + hi) / 2 ∧ (lo + hi) / 2 < hi := by omega
        generalize (lo + hi) / 2 = mid at *
        have hmds : Sz 2002 mid := Sz.of_le (by omega) (by omega : mid ≤ most) hms
        refine ⟨mid, k, 2002, rfl, by omega, hmds, by decide, ?_, ?_⟩
        · have : k.toNat + 1 ≤ 5 := by omega
          have := Nat.mul_le_mul_right 2002 this
          omega
        walk_at "rd"
        refine e_ite (fun hle => ?_) (fun hgt => ?_)
        · walk_at "rd"
          exact ⟨_, by omega, rfl, mid, hi, _, by omega, by omega, by omega, hle, p2, rfl, rfl⟩
        · walk_at "rd"
          exact ⟨_, by omega, rfl, lo, mid, _, by omega, by omega, by omega, p1, by omega, rfl, rfl⟩
      · exact ⟨by decide, by decide⟩
    · walk_at "rd"
      have e : hi = lo + 1 := by omega
      subst e
      exact q lo _ l0 p1 p2 eE
/-! ### led over a tuple of parts, a loop made of it -/
def sp_l_led (K : PySem.W.Frag) : Sp := fun vs H Q _ => ∃ (t : Addr) (l : Lp) (n x : Int), vs = [.ref t, .int n, .int x] ∧ H t = some (.tup l.V) ∧ l.Ok ∧ 1 ≤ x ∧ 0 ≤ n ∧ n.natAbs < 2 ^ 2000 ∧ x.natAbs < 2 ^ 2000 ∧ Q (.int (l.led n x)) H
def rd_l_led (K : PySem.W.Frag) : TS := tRet (tOp FW.rDiv (tOp FW.rAdd (tOp FW.rAdd (tOp FW.rMul (tOp (rIxT K) (tVar 0) (tC (.int 1))) (tVar 2)) (tOp FW.rMul (tOp (rIxT K) (tVar 0) (tC (.int 2))) (tOp FW.rDiv (tVar 1) (tCall (sp_l_power K) [] E0 (tCons (tVar 2) (tCons (tOp FW.rSub (tOp (rIxT K) (tVar 0) (tC (.int 0))) (tC (.int 1))) (tNil))))))) (tOp (rIxT K) (tVar 0) (tC (.int 3)))) (tOp FW.rAdd (tOp (rIxT K) (tVar 0) (tC (.int 1))) (tOp (rIxT K) (tVar 0) (tC (.int 2)))))
theorem pure_l_led (K : PySem.W.Frag) (vs : List V) (H : Hp) (Q : VK) (E : XK) (h : sp_l_led K vs H Q E) : rd_l_led K { nx := fun _ H' => Q .non H', rt := Q } (start ["_law_parts_here", "_law_n", "_law_x"] vs) H := by
  obtain ⟨t, l, n, x, rfl, ht, o, hx, hn, hnb, hxb, q⟩ := h
  have hk := o.hk; have a1 := o.a1; have a5 := o.a5; have c1 := o.c1; have c3 := o.c3
  have hpw := pow_lt hxb (by decide) (l.k - 1).toNat
  have hpp := pow_pos' hx (l.k - 1).toNat
  have hq : (n / x ^ (l.k - 1).toNat).natAbs < 2 ^ 2000 := Nat.lt_of_le_of_lt (ediv_abs hn hpp) hnb
  unfold rd_l_led
  walk_at "rd"
  refine e_ixT ?_ (SqT.of ht) rfl
  walk_at "rd"
  · refine e_ixT ?_ (SqT.of ht) rfl
    walk_at "rd"
    refine e_ixT ?_ (SqT.of ht) rfl
    walk_at "rd"
    refine ⟨x, l.k - 1, 2000, rfl, by omega, hxb, by decide, ?_, ?_⟩
    · have : (l.k - 1).toNat + 1 ≤ 4 := by omega
      have := Nat.mul_le_mul_right 2000 this
      omega
    walk_at "rd"
    · refine e_ixT ?_ (SqT.of ht) rfl
      walk_at "rd"
      refine e_ixT ?_ (SqT.of ht) rfl
      walk_at "rd"
      refine e_ixT ?_ (SqT.of ht) rfl
      walk_at "rd"
      · exact q
      · refine wide_div (b := 10) (by omega) ?_ (by decide) (by decide)
        show (l.a + l.c).natAbs < 1024
        omega
    · exact wide_mul (a := 10) (b := 2000) (by show l.c.natAbs < 1024; omega) hq (by decide) (by decide) (by decide)
    · refine wide_div (b := (l.k - 1).toNat * 2000 + 1) (by omega) hpw (by omega) ?_
      have : (l.k - 1).toNat ≤ 3 := by omega
      have := Nat.mul_le_mul_right 2000 this
      omega
  · exact wide_mul (a := 10) (b := 2000) (by show l.a.natAbs < 1024; omega) hxb (by decide) (by decide) (by decide)
def sp_l_loop (K : PySem.W.Frag) : Sp := fun vs H Q _ => ∃ (t : Addr) (l : Lp), vs = [.ref t] ∧ H t = some (.tup l.V) ∧ l.Ok ∧ ∀ x H', H x = none → Ext H H' → IsLp K H' x l → Q (.ref x) H'
def rd_l_loop (K : PySem.W.Frag) : TS := tRet (tMake (He.ga K "Average") (sp_Average_init K) [] E0 (tCons (tOp (rIxT K) (tVar 0) (tC (.int 0))) (tCons (tOp (rIxT K) (tVar 0) (tC (.int 1))) (tCons (tOp (rIxT K) (tVar 0) (tC (.int 2))) (tCons (tOp (rIxT K) (tVar 0) (tC (.int 3))) (tCons (tOp (rIxT K) (tVar 0) (tC (.int 4))) (tCons (tOp (rIxT K) (tVar 0) (tC (.int 5))) (tCons (tOp (rIxT K) (tVar 0) (tC (.int 6))) (tNil)))))))))
theorem pure_l_loop (K : PySem.W.Frag) (vs : List V) (H : Hp) (Q : VK) (E : XK) (h : sp_l_loop K vs H Q E) : rd_l_loop K { nx := fun _ H' => Q .non H', rt := Q } (start ["_law_parts_here"] vs) H := by
  obtain ⟨t, l, rfl, ht, o, q⟩ := h
  unfold rd_l_loop
  walk_at "rd"
  refine e_ixT ?_ (SqT.of ht) rfl
  walk_at "rd"
  refine e_ixT ?_ (SqT.of ht) rfl
  walk_at "rd"
  refine e_ixT ?_ (SqT.of ht) rfl
  walk_at "rd"
  refine e_ixT ?_ (SqT.of ht) rfl
  walk_at "rd"
  refine e_ixT ?_ (SqT.of ht) rfl
  walk_at "rd"
  refine e_ixT ?_ (SqT.of ht) rfl
  walk_at "rd"
  refine e_ixT ?_ (SqT.of ht) rfl
  walk_at "rd"
  intro x dx hx hdx hne
  have e3 : Ext H (upd (upd H dx (.own x)) x (.ins (He.ga K "Average") dx [])) := (Ext.new hdx).tr (Ext.new (by rw [upd_ne hne.symm]; exact hx))
  refine ⟨x, dx, l, rfl, o, upd_same, fun H4 e4 h4 => ⟨rfl, q x H4 hx (fun b ob q => e4 _ _ (ne_of_none q hx) (e3 _ _ q)) ⟨dx, h4⟩⟩⟩
end FWL
namespace FWL
open PySem PySem.Spec PyProof.Rows L2 FW
/-! ### polynomials: their values -/
def pvl : List Int → Int → Int
  | [], _ => 0
  | c :: cs, r => c + r * pvl cs r
theorem pv_append (xs ys : List Int) (r : Int) : pvl (xs ++ ys) r = pvl xs r + r ^ xs.length * pvl ys r := by
  induction xs with
  | nil => simp [pvl]
  | cons x xs ih => simp only [List.cons_append, pvl, ih, List.length_cons]; grind
theorem pv_zeros {xs : List Int} (h : ∀ c ∈ xs, c = 0) (r : Int) : pvl xs r = 0 := by
  induction xs with
  | nil => rfl
  | cons x xs ih => rw [pvl, ih fun c hc => h c (List.mem_cons_of_mem _ hc), h x List.mem_cons_self]; simp
theorem pv_zip : ∀ (xs ys : List Int), xs.length = ys.length → ∀ r, pvl (List.zipWith (· + ·) xs ys) r = pvl xs r + pvl ys r
  | [], [], _, r => by simp [pvl]
  | x :: xs, y :: ys, h, r => by
    have ih := pv_zip xs ys (by simpa using h) r
    simp only [List.zipWith_cons_cons, pvl, ih]; grind
  | [], _ :: _, h, _ => by simp at h
  | _ :: _, [], h, _ => by simp at h
theorem pv_set : ∀ (xs : List Int) (k : Nat) (c d r : Int), xs[k]? = some c → pvl (xs.set k (c + d)) r = pvl xs r + d * r ^ k
  | x :: xs, 0, c, d, r, h => by
    simp only [List.getElem?_cons_zero, Option.some.injEq] at h
    subst h
    simp only [List.set_cons_zero, pvl]; grind
  | x :: xs, k + 1, c, d, r, h => by
    have ih := pv_set xs k c d r (by simpa using h)
    simp only [List.set_cons_succ, pvl, ih, Int.pow_succ]; grind
  | [], k, c, d, r, h => by simp at h
/-! trimmed -/
def sp_trimmedL (K : PySem.W.Frag) : Sp := fun vs H Q _ => ∃ (a : Addr) (ns : List Int), vs = [.ref a] ∧ SqL K H a (ns.map V.int) ∧
  ∀ t cs H', H t = none → Ext H H' → H' t = some (.tup (cs.map V.int)) → (∀ r, pvl cs r = pvl ns r) → cs.getLast? ≠ some 0 → (∀ c ∈ cs, c ∈ ns) → cs.length ≤ ns.length → Q (.ref t) H'
def rd_trimmed_L1 (K : PySem.W.Frag) : TS := tAug 1 (tC (.int 1)) FW.iSub
def sp_trimmedT (K : PySem.W.Frag) : Sp := fun vs H Q _ => ∃ (a : Addr) (ns : List Int), vs = [.ref a] ∧ SqT K H a (ns.map V.int) ∧
  ∀ t cs H', Ext H H' → SqT K H' t (cs.map V.int) → (∀ r, pvl cs r = pvl ns r) → cs.getLast? ≠ some 0 → (∀ c ∈ cs, c ∈ ns) → cs.length ≤ ns.length → Q (.ref t) H'
def sp_trimmed (K : PySem.W.Frag) : Sp := fun vs H Q E => sp_trimmedL K vs H Q E ∨ sp_trimmedT K vs H Q E
def rd_trimmed (K : PySem.W.Frag) : TS := tSeq (tAsg (tCB (Evl.rLenS K) (tCons (tVar 0) (tNil))) (gName 1)) (tSeq (tWhile (tAnd (tTest (tOp FW.rGt (tVar 1) (tC (.int 0)))) (tTest (tOp rEq (tOp (rIx K) (tVar 0) (tOp FW.rSub (tVar 1) (tC (.int 1)))) (tC (.int 0))))) (rd_trimmed_L1 K)) (tRet (tCB (FW.rTupS K) (tCons (FW.tEither (tSl (rSlL K) (tVar 0) (tNoPart) (tPart (tVar 1))) (tSl (rSlA K) (tVar 0) (tNoPart) (tPart (tVar 1)))) (tNil)))))
theorem cut_take (ns : List Int) (m : Nat) : cutV (ns.map V.int) none (some (m : Int)) = (ns.take m).map V.int := by
  unfold cutV
  rw [HT.sIx_none, HT.sIx_nat]
  rw [List.drop_zero, List.length_map, Nat.sub_zero, List.map_take]
  rcases Nat.le_total m ns.length with h | h
  · rw [Nat.min_eq_left h]
  · rw [Nat.min_eq_right h, List.take_of_length_le (by simp), List.take_of_length_le (by simpa using h)]
theorem at_int {ns : List Int} {k : Nat} (h : k < ns.length) : atI (ns.map V.int) (k : Int) = some (.int ns[k]) := atI_nat (by simp [h])
theorem e_ixA {K : PySem.W.Frag} {H : Hp} {Q : VK} {a : Addr} {xs : List V} {i : Int} {v : V} (k : Q v H) (h : SqL K H a xs ∨ SqT K H a xs) (ha : atI xs i = some v) : rIx K (.ref a) (.int i) H Q :=
  h.elim (fun h => .inl (e_ixL k h ha)) fun h => .inr (.inl (e_ixT k h ha))
theorem trimmed_gen {K : PySem.W.Frag} {H : Hp} {Q : VK} {a : Addr} {ns : List Int} (hA : SqL K H a (ns.map V.int) ∨ SqT K H a (ns.map V.int))
    (fin0 : ∀ m : Nat, m ≤ ns.length → (∀ c ∈ ns.drop m, c = 0) → (ns.take m).getLast? ≠ some 0 → tRet (tCB (FW.rTupS K) (tCons (FW.tEither (tSl (rSlL K) (tVar 0) (tNoPart) (tPart (tVar 1))) (tSl (rSlA K) (tVar 0) (tNoPart) (tPart (tVar 1)))) (tNil))) { nx := fun _ H' => Q .non H', rt := Q } [some (.ref a), some (.int (m : Int))] H) :
    rd_trimmed K { nx := fun _ H' => Q .non H', rt := Q } (start ["coefficients", "many"] [.ref a]) H := by
  unfold rd_trimmed
  walk_at "rd"
  refine e_len ?_ hA
  walk_at "rd"
  rw [List.length_map]
  refine s_while (fun m σ H' => H' = H ∧ m ≤ ns.length ∧ (∀ c ∈ ns.drop m, c = 0) ∧ σ = [some (.ref a), some (.int (m : Int))]) ns.length ⟨rfl, Nat.le_refl _, by simp, rfl⟩ ?_
  rintro m σ H' ⟨rfl, hm, hz, rfl⟩
  have fin := fin0 m hm hz
  walk_at "rd"
  refine e_ite (fun hpos => ?_) (fun hno => ?_)
  · obtain ⟨k, rfl⟩ : ∃ k, m = k + 1 := ⟨m - 1, by omega⟩
    have hk : k < ns.length := by omega
    walk_at "rd"
    rw [show (((k + 1 : Nat) : Int) - 1) = (k : Int) by omega]
    refine e_ixA ?_ hA (at_int hk)
    walk_at "rd"
    have hd : decide (V.int ns[k] = V.int 0) = decide (ns[k] = 0) := decide_eq_decide.mpr ⟨fun z => by injection z, fun z => by rw [z]⟩
    rw [hd]
    refine e_ite (fun h0 => ?_) (fun h0 => ?_)
    · refine ⟨fun σ' H'' => H'' = H' ∧ k ≤ ns.length ∧ (∀ c ∈ ns.drop k, c = 0) ∧ σ' = [some (.ref a), some (.int (k : Int))], fun σ' H'' h => ⟨k, by omega, h⟩, ?_⟩
      unfold rd_trimmed_L1
      walk_at "rd"
      refine ⟨rfl, by omega, ?_, by rw [show (((k + 1 : Nat) : Int) - 1) = (k : Int) by omega]; rfl⟩
      intro c hc
      rw [List.drop_eq_getElem_cons hk] at hc
      rcases List.mem_cons.mp hc with rfl | hc
      · exact h0
      · exact hz c hc
    · refine fin ?_
      rw [List.getLast?_eq_getElem?, List.length_take, Nat.min_eq_left hm, Nat.add_sub_cancel, List.getElem?_take]
      simp [hk]
      exact h0
  · have : m = 0 := by omega
    subst this
    exact fin (by simp)
theorem pure_trimmed (K : PySem.W.Frag) (vs : List V) (H : Hp) (Q : VK) (E : XK) (h : sp_trimmed K vs H Q E) : rd_trimmed K { nx := fun _ H' => Q .non H', rt := Q } (start ["coefficients", "many"] vs) H := by
  have pvt : ∀ {ns : List Int} {m : Nat}, (∀ c ∈ ns.drop m, c = 0) → ∀ r, pvl (ns.take m) r = pvl ns r := fun {ns m} hz r => by
    have := pv_append (ns.take m) (ns.drop m) r
    rw [List.take_append_drop, pv_zeros hz r] at this
    simp at this
    exact this.symm
  rcases h with ⟨a, ns, rfl, hA, q⟩ | ⟨a, ns, rfl, hA, q⟩
  · refine trimmed_gen (.inl hA) fun m hm hz hl => ?_
    walk_at "rd"
    refine .inl ?_
    refine e_sl ?_
    walk_at "rd"
    refine e_noP ?_
    refine e_part ?_
    walk_at "rd"
    refine e_part' ?_
    refine e_slL (fun p hp => ?_) hA
    rw [cut_take]
    walk_at "rd"
    refine e_tupL (fun t ht => ?_) (SqL.of upd_same)
    have e1 := Ext.new (o := .lst ((ns.take m).map V.int)) hp
    exact q t (ns.take m) _ (e1.non ht) (e1.tr (Ext.new ht)) upd_same (pvt hz) hl (fun c hc => List.mem_of_mem_take hc) (by rw [List.length_take]; omega)
  · refine trimmed_gen (.inr hA) fun m hm hz hl => ?_
    have fin : ∀ (p : Addr) (H' : Hp), Ext H H' → SqT K H' p ((ns.take m).map V.int) → tCB (FW.rTupS K) (tCons (tC (.ref p)) tNil) [] H' Q := fun p H' e h => by
      walk_at "rd"
      exact ⟨p, _, rfl, .inr ⟨h, q p (ns.take m) H' e h (pvt hz) hl (fun c hc => List.mem_of_mem_take hc) (by rw [List.length_take]; omega)⟩⟩
    walk_at "rd"
    refine .inr ?_
    refine e_sl ?_
    walk_at "rd"
    refine e_noP ?_
    refine e_part ?_
    walk_at "rd"
    refine e_part' ?_
    refine ⟨a, _, rfl, hA, fun z => ?_, fun z p hp => ?_⟩
    · walk_at "rd"
      refine fin a H Ext.rfl' ?_
      have z2 := z.2
      rw [HT.sIx_nat, List.length_map] at z2
      have hml : ns.length ≤ m := by omega
      rw [List.take_of_length_le hml]; exact hA
    · rw [cut_take]
      walk_at "rd"
      exact fin p _ (Ext.new hp) (SqT.of upd_same)
/-! the value of a polynomial -/
theorem pv_sz : ∀ (cs : List Int) (r : Int) (b : Nat), (∀ c ∈ cs, Sz b c) → Sz b r → Sz (cs.length * (b + 1)) (pvl cs r)
  | [], r, b, _, _ => by show Sz (0 * (b + 1)) 0; rw [Nat.zero_mul]; decide
  | c :: cs, r, b, h, hr => by
    have ih := pv_sz cs r b (fun c hc => h c (List.mem_cons_of_mem _ hc)) hr
    have hm := Sz.mul hr ih
    have hc := h c List.mem_cons_self
    have e : (c :: cs).length * (b + 1) = (b + cs.length * (b + 1)) + 1 := by rw [List.length_cons, Nat.add_mul]; omega
    rw [e, pvl]
    exact (hc.mono (by omega)).add hm
def sp_poly_value (K : PySem.W.Frag) : Sp := fun vs H Q _ => ∃ (a : Addr) (ns : List Int) (r : Int) (b : Nat), vs = [.ref a, .int r] ∧ SqA K H a (ns.map V.int) ∧ (∀ c ∈ ns, Sz b c) ∧ Sz b r ∧ (ns.length + 2) * (b + 1) ≤ 900000 ∧
  ∀ H', Ext H H' → Q (.int (pvl ns r)) H'
def rd_poly_value_L1 (K : PySem.W.Frag) : TS := tAsg (tOp FW.rAdd (tOp FW.rMul (tVar 2) (tVar 1)) (tVar 3)) (gName 2)
def rd_poly_value (K : PySem.W.Frag) : TS := tSeq (tAsg (tC (.int 0)) (gName 2)) (tSeq (tFor (FW.iEither (iList K (FW.tEither (tRevL K (tVar 0)) (FW.tRevT K (tVar 0)))) (iTup K (FW.tEither (tRevL K (tVar 0)) (FW.tRevT K (tVar 0))))) (gName 3) (rd_poly_value_L1 K)) (tRet (tVar 2)))
theorem take_succ' {xs : List Int} {i : Nat} {x : Int} (h : xs[i]? = some x) : xs.take (i + 1) = xs.take i ++ [x] := by
  rw [List.take_add_one, h]; rfl
theorem rev_take {ns : List Int} {i : Nat} {x : Int} (h : ns.reverse[i]? = some x) : (ns.reverse.take (i + 1)).reverse = x :: (ns.reverse.take i).reverse := by
  rw [take_succ' h, List.reverse_append]; rfl
theorem rev_all {ns : List Int} {n : Nat} (h : n = ns.length) : (ns.reverse.take n).reverse = ns := by
  rw [h, List.take_of_length_le (by simp), List.reverse_reverse]
theorem int_at {ns : List Int} {i : Nat} {x : V} (h : (ns.map V.int).reverse[i]? = some x) : ∃ c, x = .int c ∧ ns.reverse[i]? = some c := by
  rw [← List.map_reverse, List.getElem?_map] at h
  cases e : ns.reverse[i]? with
  | none => rw [e] at h; cases h
  | some c => rw [e] at h; cases h; exact ⟨c, rfl, rfl⟩
theorem pure_poly_value (K : PySem.W.Frag) (vs : List V) (H : Hp) (Q : VK) (E : XK) (h : sp_poly_value K vs H Q E) : rd_poly_value K { nx := fun _ H' => Q .non H', rt := Q } (start ["poly", "r", "found", "coefficient"] vs) H := by
  obtain ⟨a, ns, r, b, rfl, hA, hc, hr, hsz, q⟩ := h
  unfold rd_poly_value
  walk_at "rd"
  have main : ∀ p o H1, H p = none → (o = HO.lst (ns.map V.int).reverse ∨ o = HO.tup (ns.map V.int).reverse) → H1 = upd H p o → ∃ Pv : Nat → L2.St → Hp → Prop, Pv 0 [some (.ref a), some (.int r), some (.int 0), none] H1 ∧ (∀ i σ H', Pv i σ H' → H' = H1) ∧
      (∀ i x σ H', (ns.map V.int).reverse[i]? = some x → Pv i σ H' → gName 3 x σ H' fun σ2 H2 => rd_poly_value_L1 K { nx := Pv (i + 1), ct := Pv (i + 1), bk := fun σ' H' => tRet (tVar 2) { nx := fun _ H' => Q .non H', rt := Q } σ' H', rt := Q } σ2 H2) ∧
      (∀ σ H', Pv (ns.map V.int).reverse.length σ H' → tRet (tVar 2) { nx := fun _ H' => Q .non H', rt := Q } σ H') := by
    intro p o H1 hp ho e1
    refine ⟨fun i σ H' => H' = H1 ∧ i ≤ ns.length ∧ ∃ v, σ = [some (.ref a), some (.int r), some (.int (pvl (ns.reverse.take i).reverse r)), v], ⟨rfl, Nat.zero_le _, none, rfl⟩, fun _ _ _ h => h.1, ?_, ?_⟩
    · rintro i x σ H' hx ⟨rfl, hi, v, rfl⟩
      obtain ⟨c, rfl, hci⟩ := int_at hx
      have hlt : i < ns.length := by
        have := (List.getElem?_eq_some_iff.mp hci).1
        simpa using this
      unfold rd_poly_value_L1
      walk_at "rd"
      · refine ⟨rfl, by omega, some (.int c), ?_⟩
        rw [rev_take hci, pvl]
        rw [show pvl (ns.reverse.take i).reverse r * r + c = c + r * pvl (ns.reverse.take i).reverse r by grind]
        rfl
      · have hs := pv_sz (ns.reverse.take i).reverse r b (fun c hc' => hc c (by
          have := List.mem_reverse.mp hc'
          exact List.mem_reverse.mp (List.mem_of_mem_take this))) hr
        have hlen : (ns.reverse.take i).reverse.length = i := by simp; omega
        rw [hlen] at hs
        have h1 : (i + 1) * (b + 1) ≤ (ns.length + 1) * (b + 1) := Nat.mul_le_mul_right _ (by omega)
        have h2 : (ns.length + 2) * (b + 1) = (ns.length + 1) * (b + 1) + (b + 1) := by rw [Nat.add_mul (ns.length + 1) 1, Nat.one_mul]
        have h3 : (i + 1) * (b + 1) = i * (b + 1) + (b + 1) := by rw [Nat.add_mul, Nat.one_mul]
        refine wide_mul (a := i * (b + 1) + 1) (b := b + 1) (hs.mono (by omega)) (hr.mono (by omega)) (by omega) (by omega) (by omega)
    · rintro σ H' ⟨rfl, _, v, rfl⟩
      walk_at "rd"
      rw [rev_all (by simp)]
      rw [e1]
      exact q _ (Ext.new hp)
  have hl0 : [some (V.ref a), some (V.int r), some (V.int 0), (none : Option V)][0]? = some (some (.ref a)) := rfl
  rcases hA with hA | hA
  · refine Or.inl (i_list (Or.inl ⟨_, hl0, a, _, rfl, hA, fun p hp => ?_⟩))
    obtain ⟨Pv, h0, hk, hs, hd⟩ := main p _ _ hp (.inl rfl) rfl
    refine i_list' _ ?_ (SqL.of upd_same)
    exact for_list (xs := (ns.map V.int).reverse) Pv h0 (fun i σ H' _ p => by rw [hk i σ H' p]; exact SqL.of upd_same) hs hd
  · refine Or.inr (i_tup (Or.inr ⟨_, hl0, a, _, rfl, hA, fun p hp => ?_⟩))
    obtain ⟨Pv, h0, hk, hs, hd⟩ := main p _ _ hp (.inr rfl) rfl
    refine i_tup' _ ?_ (SqT.of upd_same)
    exact for_tup (xs := (ns.map V.int).reverse) Pv h0 (fun i σ H' _ p => by rw [hk i σ H' p]; exact SqT.of upd_same) hs hd
end FWL
namespace FWL
open PySem PySem.Spec PyProof.Rows L2 FW
/-! ### cells and rows -/
theorem list_at {xs : List V} {i : Int} (h0 : 0 ≤ i) (h : i < (xs.length : Int)) : ∃ v, v ∈ xs ∧ atI xs i = some v := by
  obtain ⟨k, rfl⟩ := Int.eq_ofNat_of_zero_le h0
  have hk : k < xs.length := by omega
  exact ⟨xs[k], List.getElem_mem _, atI_nat (List.getElem?_eq_getElem hk)⟩
def sp_l_cell_at (K : PySem.W.Frag) : Sp := fun vs H Q _ => ∃ (a : Addr) (ns : List Int) (k : Int), vs = [.ref a, .int k] ∧ SqL K H a (ns.map V.int) ∧ 0 ≤ k ∧ ∀ c, Q (.int c) H
def rd_l_cell_at (K : PySem.W.Frag) : TS := tSeq (tIfS (tTest (tOp FW.rLt (tVar 1) (tCB (Evl.rLenS K) (tCons (tVar 0) (tNil))))) (tRet (tOp (rIxL K) (tVar 0) (tVar 1))) (tNext)) (tRet (tC (.int 0)))
theorem pure_l_cell_at (K : PySem.W.Frag) (vs : List V) (H : Hp) (Q : VK) (E : XK) (h : sp_l_cell_at K vs H Q E) : rd_l_cell_at K { nx := fun _ H' => Q .non H', rt := Q } (start ["_law_script", "_law_k"] vs) H := by
  obtain ⟨a, ns, k, rfl, hA, hk, q⟩ := h
  unfold rd_l_cell_at
  walk_at "rd"
  refine e_len ?_ (.inl hA)
  walk_at "rd"
  refine e_ite (fun h => ?_) (fun h => ?_)
  · rw [List.length_map] at h
    obtain ⟨i, hi⟩ := at_map hk h
    walk_at "rd"
    refine e_ixL ?_ hA hi
    exact q _
  · walk_at "rd"
    exact q _
def sp_l_mixed (K : PySem.W.Frag) : Sp := fun vs H Q _ => ∃ c k : Int, vs = [.int c, .int k] ∧ 0 ≤ k ∧ k < 100000 ∧ ∀ v, 0 ≤ v → Q (.int v) H
def rd_l_mixed (K : PySem.W.Frag) : TS := tSeq (tAsg (tOp FW.rMod (tCB FW.rInt1 (tCons (tOp FW.rPow (tOp FW.rAdd (tOp FW.rAdd (tOp FW.rMod (tCB FW.rInt1 (tCons (tVar 0) (tNil))) (tC (.int 2147483647))) (tOp FW.rMul (tC (.int 7919)) (tVar 1))) (tC (.int 104729))) (tC (.int 5))) (tNil))) (tC (.int 2147483647))) (gName 2)) (tRet (tOp FW.rMod (tCB FW.rInt1 (tCons (tOp FW.rMul (tOp FW.rAdd (tVar 2) (tVar 1)) (tC (.int 40692))) (tNil))) (tC (.int 2147483629))))
theorem pure_l_mixed (K : PySem.W.Frag) (vs : List V) (H : Hp) (Q : VK) (E : XK) (h : sp_l_mixed K vs H Q E) : rd_l_mixed K { nx := fun _ H' => Q .non H', rt := Q } (start ["_law_cell", "_law_k", "_law_spread"] vs) H := by
  obtain ⟨c, k, rfl, hk, hk1, q⟩ := h
  have h0 : 0 ≤ c % 2147483647 := Int.emod_nonneg _ (by decide)
  have h1 : c % 2147483647 < 2147483647 := Int.emod_lt_of_pos _ (by decide)
  have hs : 0 ≤ ((c % 2147483647 + 7919 * k + 104729) ^ (5 : Int).toNat) % 2147483647 := Int.emod_nonneg _ (by decide)
  have hs2 : ((c % 2147483647 + 7919 * k + 104729) ^ (5 : Int).toNat) % 2147483647 < 2147483647 := Int.emod_lt_of_pos _ (by decide)
  unfold rd_l_mixed
  walk_at "rd"
  · walk_at "rd"
    · exact q _ (Int.emod_nonneg _ (by decide))
  · decide
  · exact wide_mul (a := 60) (b := 20) (by omega) (by decide) (by decide) (by decide) (by decide)
  · decide
  · refine ⟨by decide, by decide, ?_⟩
    have : (2 : Nat) ^ 64 = 18446744073709551616 := by decide
    omega
  · exact wide_mul (a := 20) (b := 40) (by decide) (by omega) (by decide) (by decide) (by decide)
  · decide
def sp_l_apart (K : PySem.W.Frag) : Sp := fun vs H Q _ => ∃ c k : Int, vs = [.int c, .int k] ∧ 0 ≤ k ∧ k < 100000 ∧ ∀ v, Q (.int v) H
def rd_l_apart (K : PySem.W.Frag) : TS := tSeq (tIfS (tTest (tOp FW.rGe (tCB FW.rAbs (tCons (tVar 0) (tNil))) (tOp FW.rPow (tC (.int 10)) (tC (.int 18))))) (tRet (tVar 0)) (tNext)) (tRet (tOp FW.rAdd (tVar 0) (tOp FW.rMul (tC (.int 1000003)) (tVar 1))))
theorem pure_l_apart (K : PySem.W.Frag) (vs : List V) (H : Hp) (Q : VK) (E : XK) (h : sp_l_apart K vs H Q E) : rd_l_apart K { nx := fun _ H' => Q .non H', rt := Q } (start ["_law_cell", "_law_k"] vs) H := by
  obtain ⟨c, k, rfl, hk, hk1, q⟩ := h
  unfold rd_l_apart
  walk_at "rd"
  · refine e_ite (fun h => ?_) (fun h => ?_)
    · walk_at "rd"
      exact q _
    · walk_at "rd"
      · exact q _
      · exact wide_mul (a := 20) (b := 40) (by decide) (by omega) (by decide) (by decide) (by decide)
  · exact ⟨by decide, by decide, by decide⟩
/-- a row: numbers from 0 to 999 -/
def Row (xs : List Int) (n : Nat) : Prop := xs.length = n ∧ ∀ x ∈ xs, 0 ≤ x ∧ x < 1000
def sp_l_row (K : PySem.W.Frag) : Sp := fun vs H Q _ => ∃ (c : Int) (m : Nat), vs = [.int c, .int (m : Int)] ∧ m < 1000 ∧ ∀ (L : Addr) (xs : List Int) (H' : Hp), H L = none → Ext H H' → H' L = some (.lst (xs.map V.int)) → Row xs m → Q (.ref L) H'
def rd_l_row_L1 (K : PySem.W.Frag) : TS := tSeq (tDrop (tBM K "list" rAppend (tVar 3) (tCons (tOp FW.rMod (tCB FW.rInt1 (tCons (tIf (tTest (tOp FW.rGt (tVar 2) (tC (.int 0)))) (tVar 2) (tCall (sp_l_mixed K) [] E0 (tCons (tVar 0) (tCons (tVar 4) (tNil))))) (tNil))) (tC (.int 1000))) (tNil)))) (tAsg (tOp FW.rDiv (tVar 2) (tC (.int 1000))) (gName 2))
def rd_l_row (K : PySem.W.Frag) : TS := tSeq (tAsg (tIf (tTest (tOp FW.rGe (tCB FW.rAbs (tCons (tVar 0) (tNil))) (tOp FW.rPow (tC (.int 10)) (tC (.int 18))))) (tCB FW.rAbs (tCons (tVar 0) (tNil))) (tC (.int 0))) (gName 2)) (tSeq (tAsg (tLst (tNil)) (gName 3)) (tSeq (tFor (iRng1 (tCons (tVar 1) (tNil))) (gName 4) (rd_l_row_L1 K)) (tRet (tVar 3))))
theorem pure_l_row (K : PySem.W.Frag) (vs : List V) (H : Hp) (Q : VK) (E : XK) (h : sp_l_row K vs H Q E) : rd_l_row K { nx := fun _ H' => Q .non H', rt := Q } (start ["_law_cell", "_law_many", "_law_left", "_law_row_here", "_law_k"] vs) H := by
  obtain ⟨c, m, rfl, hm, q⟩ := h
  have main : ∀ left : Int, 0 ≤ left → (tSeq (tAsg (tLst (tNil)) (gName 3)) (tSeq (tFor (iRng1 (tCons (tVar 1) (tNil))) (gName 4) (rd_l_row_L1 K)) (tRet (tVar 3)))) { nx := fun _ H' => Q .non H', rt := Q } [some (.int c), some (.int (m : Int)), some (.int left), none, none] H := by
    intro left hleft
    walk_at "rd"
    refine ⟨by show 0 ≤ sizeLine; decide, fun L hL => ?_⟩
    walk_at "rd"
    · refine for_range (lo := 0) (n := (m : Int).toNat) (fun i σ H' => Ext H H' ∧ ∃ (left : Int) (xs : List Int) (v : Option V), 0 ≤ left ∧ H' L = some (.lst (xs.map V.int)) ∧ Row xs i ∧ σ = [some (.int c), some (.int (m : Int)), some (.int left), some (.ref L), v]) ⟨Ext.new hL, left, [], _, hleft, upd_same, ⟨rfl, by simp⟩, rfl⟩ ?_ ?_
      · rintro i σ H' hi ⟨e, left, xs, v, hl, hx, hr, rfl⟩
        have fin : ∀ y : Int, 0 ≤ y → y < 1000 → rAppend (.ref L) [.int y] H' fun _ H1 => (tAsg (tOp FW.rDiv (tVar 2) (tC (.int 1000))) (gName 2)) { nx := fun σ H' => Ext H H' ∧ ∃ (left : Int) (xs : List Int) (v : Option V), 0 ≤ left ∧ H' L = some (.lst (xs.map V.int)) ∧ Row xs (i + 1) ∧ σ = [some (.int c), some (.int (m : Int)), some (.int left), some (.ref L), v], ct := fun σ H' => Ext H H' ∧ ∃ (left : Int) (xs : List Int) (v : Option V), 0 ≤ left ∧ H' L = some (.lst (xs.map V.int)) ∧ Row xs (i + 1) ∧ σ = [some (.int c), some (.int (m : Int)), some (.int left), some (.ref L), v], bk := fun σ' H' => tRet (tVar 3) { nx := fun _ H' => Q .non H', rt := Q } σ' H', rt := Q } [some (.int c), some (.int (m : Int)), some (.int left), some (.ref L), some (.int (0 + (i : Int)))] H1 := by
          intro y y0 y1
          refine ⟨L, _, _, rfl, rfl, hx, ?_, ?_⟩
          · rw [List.length_map, hr.1]; show _ < 2 ^ 24; omega
          walk_at "rd"
          · refine ⟨e.upds hL, left / 1000, xs ++ [y], _, by omega, by rw [upd_same, List.map_append]; rfl, ⟨by simp [hr.1], fun x hx' => ?_⟩, rfl⟩
            rcases List.mem_append.mp hx' with h | h
            · exact hr.2 x h
            · rw [List.mem_singleton.mp h]; exact ⟨y0, y1⟩
          · exact ⟨by decide, by decide⟩
        walk_at "re"
        unfold rd_l_row_L1
        walk_at "rd"
        refine ⟨Or.inl ⟨rfl, _, SqL.of hx⟩, ?_⟩
        walk_at "rd"
        refine e_ite (fun h => ?_) (fun h => ?_)
        · walk_at "re"
          · exact fin _ (Int.emod_nonneg _ (by decide)) (Int.emod_lt_of_pos _ (by decide))
          · decide
        · walk_at "re"
          refine ⟨c, 0 + (i : Int), rfl, by omega, by omega, fun w hw => ?_⟩
          walk_at "re"
          · exact fin _ (Int.emod_nonneg _ (by decide)) (Int.emod_lt_of_pos _ (by decide))
          · decide
      · rintro σ H' ⟨e, left, xs, v, hl, hx, hr, rfl⟩
        walk_at "rd"
        exact q L xs H' hL e hx (by simpa using hr)
    · omega
  unfold rd_l_row
  walk_at "rd"
  · refine e_ite (fun h => ?_) (fun h => ?_)
    · walk_at "re"
      refine main (if c < 0 then -c else c) (by split <;> omega)
    · walk_at "re"
      exact main 0 (by decide)
  · exact ⟨by decide, by decide, by decide⟩
theorem row_at {xs : List Int} {n : Nat} {i : Int} (h : Row xs n) (h0 : 0 ≤ i) (h1 : i < n) : ∃ x, 0 ≤ x ∧ x < 1000 ∧ atI (xs.map V.int) i = some (.int x) := by
  obtain ⟨k, rfl⟩ := Int.eq_ofNat_of_zero_le h0
  have hk : k < xs.length := by rw [h.1]; omega
  obtain ⟨a, b⟩ := h.2 xs[k] (List.getElem_mem _)
  exact ⟨xs[k], a, b, at_int hk⟩
def sp_l_great (K : PySem.W.Frag) : Sp := fun vs H Q _ => ∃ (L : Addr) (xs : List Int) (n : Nat) (a m : Int), vs = [.ref L, .int a, .int m] ∧ H L = some (.lst (xs.map V.int)) ∧ Row xs n ∧ 0 ≤ a ∧ 0 ≤ m ∧ m ≤ 100 ∧ a + m ≤ n ∧ ∀ v : Int, 0 ≤ v → v < 1000 ^ m.toNat → Q (.int v) H
def rd_l_great_L1 (K : PySem.W.Frag) : TS := tAsg (tOp FW.rAdd (tOp FW.rMul (tC (.int 1000)) (tVar 3)) (tCB FW.rInt1 (tCons (tOp (rIxL K) (tVar 0) (tOp FW.rAdd (tVar 1) (tVar 4))) (tNil)))) (gName 3)
def rd_l_great (K : PySem.W.Frag) : TS := tSeq (tAsg (tC (.int 0)) (gName 3)) (tSeq (tFor (iRng1 (tCons (tVar 2) (tNil))) (gName 4) (rd_l_great_L1 K)) (tRet (tVar 3)))
theorem pure_l_great (K : PySem.W.Frag) (vs : List V) (H : Hp) (Q : VK) (E : XK) (h : sp_l_great K vs H Q E) : rd_l_great K { nx := fun _ H' => Q .non H', rt := Q } (start ["_law_row_here", "_law_at", "_law_many", "_law_found", "_law_k"] vs) H := by
  obtain ⟨L, xs, n, a, m, rfl, hL, hr, ha, hm, hm1, ham, q⟩ := h
  unfold rd_l_great
  walk_at "rd"
  · refine for_range (lo := 0) (n := m.toNat) (fun i σ H' => H' = H ∧ ∃ (f : Int) (v : Option V), 0 ≤ f ∧ f < 1000 ^ i ∧ σ = [some (.ref L), some (.int a), some (.int m), some (.int f), v]) ⟨rfl, 0, _, by decide, by decide, rfl⟩ ?_ ?_
    · rintro i σ H' hi ⟨rfl, f, v, f0, f1, rfl⟩
      obtain ⟨x, x0, x1, hx⟩ := row_at (i := a + (0 + (i : Int))) hr (by omega) (by omega)
      have hp : (1000 : Int) ^ (i + 1) = 1000 ^ i * 1000 := Int.pow_succ ..
      walk_at "re"
      unfold rd_l_great_L1
      walk_at "rd"
      · refine e_ixL ?_ (SqL.of hL) hx
        walk_at "rd"
        refine ⟨rfl, 1000 * f + x, _, by omega, ?_, rfl⟩
        rw [hp]; omega
      · refine wide_mul (a := 10) (b := 1001) (by decide) ?_ (by decide) (by decide) (by decide)
        exact (Sz.of_le f0 (by omega : f ≤ 1000 ^ i) (Sz.pow (b := 10) (by decide) (by decide) i)).mono (by omega)
    · rintro σ H' ⟨rfl, f, v, f0, f1, rfl⟩
      walk_at "rd"
      exact q f f0 f1
  · omega
theorem e_max1 {K : PySem.W.Frag} {H : Hp} {Q : VK} {a : Addr} {i j : Int} (k : ∀ m, (m = i ∨ m = j) → i ≤ m → j ≤ m → Q (.int m) H) (h : H a = some (.lst [.int i, .int j])) : rMax K [.ref a] H Q :=
  ⟨a, [i, j], rfl, SqL.of h, by show 0 < 2; decide, fun m hm hy => k m (by simpa using hm) (hy i (by simp)) (hy j (by simp))⟩
theorem e_min1 {K : PySem.W.Frag} {H : Hp} {Q : VK} {a : Addr} {i j : Int} (k : ∀ m, (m = i ∨ m = j) → m ≤ i → m ≤ j → Q (.int m) H) (h : H a = some (.lst [.int i, .int j])) : rMin K [.ref a] H Q :=
  ⟨a, [i, j], rfl, SqL.of h, by show 0 < 2; decide, fun m hm hy => k m (by simpa using hm) (hy i (by simp)) (hy j (by simp))⟩
end FWL
namespace FWL
open PySem PySem.Spec PyProof.Rows L2 FW
/-! ### walking with less to say -/
section
variable {K : PySem.W.Frag} {σ : L2.St} {H : Hp} {Q : VK} {R : VK} {D : Ends} {v : V} {i j : Int} {a C dx : Addr} {f : Str} {xs : List V} {fs : List (Str × L2.V)}
theorem al_tup (h : xs.length ≤ sizeLine) (k : ∀ p H1, H p = none → Ext H H1 → H1 p = some (.tup xs) → R (.ref p) H1) : xs.length ≤ sizeLine ∧ ∀ p, H p = none → R (.ref p) (upd H p (.tup xs)) := ⟨h, fun p hp => k p _ hp (Ext.new hp) upd_same⟩
theorem al_lst (h : xs.length ≤ sizeLine) (k : ∀ p H1, H p = none → Ext H H1 → H1 p = some (.lst xs) → R (.ref p) H1) : xs.length ≤ sizeLine ∧ ∀ p, H p = none → R (.ref p) (upd H p (.lst xs)) := ⟨h, fun p hp => k p _ hp (Ext.new hp) upd_same⟩
theorem ha_fld {R : V → Prop} (h : H a = some (.ins C dx fs)) (c : Cls K C) (n : NoAttr K C f) (l : fs.lookup f = some v) (k : R v) : ∃ a' C dx fs v, V.ref a = .ref a' ∧ H a' = some (.ins C dx fs) ∧ Cls K C ∧ NoAttr K C f ∧ fs.lookup f = some v ∧ R v := ⟨a, C, dx, fs, v, rfl, h, c, n, l, k⟩
theorem ha_ixL (h : H a = some (.lst xs)) (ha : atI xs i = some v) (k : Q v H) : rIxL K (.ref a) (.int i) H Q := e_ixL k (SqL.of h) ha
theorem ha_ixT (h : H a = some (.tup xs)) (ha : atI xs i = some v) (k : Q v H) : rIxT K (.ref a) (.int i) H Q := e_ixT k (SqT.of h) ha
theorem ha_tupL (h : H a = some (.lst xs)) (k : ∀ p H1, H p = none → Ext H H1 → H1 p = some (.tup xs) → Q (.ref p) H1) : FW.rTupS K [.ref a] H Q := e_tupL (fun p hp => k p _ hp (Ext.new hp) upd_same) (SqL.of h)
theorem ha_eqI (k : Q (.bl (decide (i = j))) H) : rEq (.int i) (.int j) H Q := ⟨rfl, by
  have e : decide (V.int i = V.int j) = decide (i = j) := decide_eq_decide.mpr ⟨fun z => by injection z, fun z => by rw [z]⟩
  show Q (.bl (decide (V.int i = V.int j))) H
  rw [e]; exact k⟩
theorem ha_neI (k : Q (.bl (!decide (i = j))) H) : rNe (.int i) (.int j) H Q := ⟨rfl, by
  have e : decide (V.int i = V.int j) = decide (i = j) := decide_eq_decide.mpr ⟨fun z => by injection z, fun z => by rw [z]⟩
  show Q (.bl (!decide (V.int i = V.int j))) H
  rw [e]; exact k⟩
theorem ha_eqS {s t : Str} (k : Q (.bl (decide (s = t))) H) : rEq (.str s) (.str t) H Q := ⟨rfl, by
  have e : decide (V.str s = V.str t) = decide (s = t) := decide_eq_decide.mpr ⟨fun z => by injection z, fun z => by rw [z]⟩
  show Q (.bl (decide (V.str s = V.str t))) H
  rw [e]; exact k⟩
theorem ha_neS {s t : Str} (k : Q (.bl (!decide (s = t))) H) : rNe (.str s) (.str t) H Q := ⟨rfl, by
  have e : decide (V.str s = V.str t) = decide (s = t) := decide_eq_decide.mpr ⟨fun z => by injection z, fun z => by rw [z]⟩
  show Q (.bl (!decide (V.str s = V.str t))) H
  rw [e]; exact k⟩
theorem ha_intD {p : Prop} [Decidable p] (k : Q (.int (if p then 1 else 0)) H) : rInt1 [.bl (decide p)] H Q := .inr ⟨_, rfl, by
  have e : (if decide p = true then (1 : Int) else 0) = if p then 1 else 0 := by
    by_cases h : p
    · rw [if_pos h, if_pos (decide_eq_true h)]
    · rw [if_neg h, if_neg (fun z => h (of_decide_eq_true z))]
  show Q (.int (if decide p = true then 1 else 0)) H
  rw [e]; exact k⟩
theorem ha_app {ys : List V} (h : H a = some (.lst ys)) (z : ys.length < sizeLine) (k : Q .non (upd H a (.lst (ys ++ [v])))) : rAppend (.ref a) [v] H Q := ⟨a, ys, v, rfl, rfl, h, z, k⟩
end
theorem al_of {H G : Hp} {p : Addr} {o : HO} (hp : H p = none) (e : upd H p o = G) : Ext H G ∧ G p = some o := by subst e; exact ⟨Ext.new hp, upd_same⟩
theorem ha_tyL {K : PySem.W.Frag} {H : Hp} {a : Addr} {xs : List V} {P : Prop} (h : H a = some (.lst xs)) (k : P) : tyV K "list" (.ref a) H ∧ P := ⟨.inl ⟨rfl, _, SqL.of h⟩, k⟩
/-! ### rows and picks -/
def strsOf (vs : List V) : List Str := vs.filterMap fun v => match v with | .str s => some s | _ => none
def intsOf (vs : List V) : List Int := vs.filterMap fun v => match v with | .int i => some i | _ => none
section
variable {K : PySem.W.Frag} {H : Hp} {Q : VK} {a : Addr} {i j : Int} {vs : List V}
theorem ha_row {xs : List Int} {n : Nat} (h : H a = some (.lst (xs.map V.int))) (hr : Row xs n) (h0 : 0 ≤ i) (h1 : i < n) (k : ∀ x, 0 ≤ x → x < 1000 → Q (.int x) H) : rIxL K (.ref a) (.int i) H Q := by
  obtain ⟨x, x0, x1, hx⟩ := row_at hr h0 h1
  exact e_ixL (k x x0 x1) (SqL.of h) hx
theorem ha_pick (h : H a = some (.lst vs)) (h0 : 0 ≤ i) (h1 : i < (vs.length : Int)) (k : ∀ v ∈ vs, Q v H) : rIxL K (.ref a) (.int i) H Q := by
  obtain ⟨v, hv, hat⟩ := list_at h0 h1
  exact e_ixL (k v hv) (SqL.of h) hat
theorem ha_pickS (h : H a = some (.lst vs)) (e : vs = (strsOf vs).map V.str) (h0 : 0 ≤ i) (h1 : i < (vs.length : Int)) (k : ∀ w, w ∈ strsOf vs → Q (.str w) H) : rIxL K (.ref a) (.int i) H Q := by
  refine ha_pick h h0 h1 fun v hv => ?_
  rw [e] at hv
  obtain ⟨w, hw, rfl⟩ := List.mem_map.mp hv
  exact k w hw
theorem ha_pickI (h : H a = some (.lst vs)) (e : vs = (intsOf vs).map V.int) (h0 : 0 ≤ i) (h1 : i < (vs.length : Int)) (k : ∀ w, w ∈ intsOf vs → Q (.int w) H) : rIxL K (.ref a) (.int i) H Q := by
  refine ha_pick h h0 h1 fun v hv => ?_
  rw [e] at hv
  obtain ⟨w, hw, rfl⟩ := List.mem_map.mp hv
  exact k w hw
theorem ha_cat {xs ys : List V} {b : Addr} (h : H a = some (.lst xs)) (h' : H b = some (.lst ys)) (hz : xs.length + ys.length ≤ sizeLine) (k : ∀ p G, H p = none → Ext H G → G p = some (.lst (xs ++ ys)) → Q (.ref p) G) : rCat (.ref a) (.ref b) H Q := e_cat (fun p hp => k p _ hp (Ext.new hp) upd_same) h h' hz
theorem ha_len {xs : List V} (h : H a = some (.lst xs)) (k : Q (.int xs.length) H) : Evl.rLenS K [.ref a] H Q := e_len k (.inl (SqL.of h))
theorem ha_lenT {xs : List V} (h : H a = some (.tup xs)) (k : Q (.int xs.length) H) : Evl.rLenS K [.ref a] H Q := e_len k (.inr (SqT.of h))
theorem ha_gT {gs : TGs} {R : L2.St → Hp → Prop} {σ : L2.St} {n : Nat} {xs : List V} (h : H a = some (.tup xs)) (hl : xs.length = n) (k : gs xs σ H R) : gTup K n gs (.ref a) σ H R := g_tup k (SqT.of h) hl
theorem ha_gL {gs : TGs} {R : L2.St → Hp → Prop} {σ : L2.St} {n : Nat} {xs : List V} (h : H a = some (.lst xs)) (hl : xs.length = n) (k : gs xs σ H R) : gLst K n gs (.ref a) σ H R := ⟨a, xs, rfl, SqL.of h, hl, k⟩
/-- a made object: its __init__'s promise -/
theorem ha_make {C : Addr} {sp : Sp} {ws : List V} {R : Addr → Hp → Prop} {E : XK} (k : ∀ x dx G, H x = none → Ext H G → G x = some (.ins C dx []) → sp (.ref x :: ws) G (fun v H2 => v = .non ∧ R x H2) E) :
    ∀ x dx, H x = none → H dx = none → dx ≠ x → sp (.ref x :: ws) (upd (upd H dx (.own x)) x (.ins C dx [])) (fun v H2 => v = .non ∧ R x H2) E := fun x dx hx hdx hne =>
  k x dx _ hx ((Ext.new hdx).tr (Ext.new (by rw [upd_ne hne.symm]; exact hx))) upd_same
/-- what is new to H is kept apart -/
theorem ext_B {G G' : Hp} {x : Addr} (e : Ext H G) (hx : H x = none) (b : ExtB x G G') : Ext H G' := fun p o h => b p o (ne_of_none h hx) (e p o h)
end
theorem ha_mod {H : Hp} {Q : VK} {i j : Int} (h : 0 < j) (k : ∀ m : Int, 0 ≤ m → m < j → m = i % j → Q (.int m) H) : FW.rMod (.int i) (.int j) H Q := e_I (k _ (Int.emod_nonneg _ (by omega)) (Int.emod_lt_of_pos _ h) rfl) h
theorem ha_lenN {K : PySem.W.Frag} {H : Hp} {Q : VK} {a : Addr} {xs : List V} {n : Nat} (h : H a = some (.lst xs)) (e : xs.length = n) (k : Q (.int n) H) : Evl.rLenS K [.ref a] H Q := by subst e; exact ha_len h k
theorem mk_of {H G : Hp} {x dx C : Addr} (hx : H x = none) (hd : H dx = none) (hne : dx ≠ x) (e : upd (upd H dx (.own x)) x (.ins C dx []) = G) : Ext H G ∧ G x = some (.ins C dx []) := by
  subst e
  exact ⟨(Ext.new hd).tr (Ext.new (by rw [upd_ne hne.symm]; exact hx)), upd_same⟩
theorem ha_mt {H : Hp} {p C dx : Addr} {fs : List (Str × L2.V)} {m : Str} {T : Prop} (h : H p = some (.ins C dx fs)) (l : fs.lookup m = none) (k : T) : ∃ a dx fs, V.ref p = .ref a ∧ H a = some (.ins C dx fs) ∧ fs.lookup m = none ∧ T := ⟨p, dx, fs, rfl, h, l, k⟩
theorem ap_of {H G : Hp} {a : Addr} {xs ys : List V} (h : H a = some (.lst xs)) (e : upd H a (.lst ys) = G) : G a = some (.lst ys) ∧ (∀ b C dx fs, H b = some (.ins C dx fs) → G b = some (.ins C dx fs)) ∧ (∀ b zs, H b = some (.tup zs) → G b = some (.tup zs)) ∧ ExtB a H G := by
  subst e
  exact ⟨upd_same, fun b C dx fs q => by rw [upd_ne (ne_of q h (fun z => nomatch z))]; exact q, fun b zs q => by rw [upd_ne (ne_of q h (fun z => nomatch z))]; exact q, ExtB.upd⟩
end FWL
local macro_rules | `(tactic| walk_at "rh") => `(tactic| first | assumption | solve_by_elim (maxDepth := 40))
local macro_rules | `(tactic| walk_at "rE") => `(tactic| (intro xa xo xh; solve_by_elim (maxDepth := 60)))
local macro_rules | `(tactic| walk_at "rc") => `(tactic| assumption)
local macro_rules | `(tactic| walk_at "rq") => `(tactic| first | decide | omega | exact L2.wide_div (b := 10) (by decide) (by decide) (by decide) (by decide) | (constructor <;> omega))
set_option hygiene false in
local macro_rules | `(tactic| walk_at "rn") => `(tactic| (intro nt nz; generalize hG : L2.upd _ nt _ = nH; obtain ⟨ne, nh⟩ := FWL.al_of nz hG; clear hG))
set_option hygiene false in
local macro_rules | `(tactic| walk_at "rz1") => `(tactic| first
  | ((with_reducible refine FWL.ha_mod (by walk_at "rq") ?_); intro md md0 md1 mdh)
  | (with_reducible first | refine FWL.ha_eqI ?_ | refine FWL.ha_eqS ?_ | refine FWL.ha_neI ?_ | refine FWL.ha_neS ?_ | refine FWL.ha_intD ?_ | refine FW.e_I ?_ (by walk_at "rq"))
  | walk_at "re1"
  | (refine ⟨Nat.le_of_ble_eq_true rfl, ?_⟩; walk_at "rn")
  | ((with_reducible apply FWL.ha_fld); (next => walk_at "rh"); (next => walk_at "rc"); (next => walk_at "rc"); (next => rfl))
  | ((with_reducible apply FWL.ha_mt); (next => walk_at "rh"); (next => rfl))
  | ((with_reducible apply FWL.ha_ixL); (next => walk_at "rh"); (next => rfl))
  | ((with_reducible apply FWL.ha_ixT); (next => walk_at "rh"); (next => rfl))
  | ((with_reducible refine FWL.ha_row (by walk_at "rh") (by assumption) (by omega) (by omega) ?_); intro xr xr0 xr1)
  | (with_reducible refine FWL.ha_pickI (by walk_at "rh") (by with_unfolding_all rfl) (by omega) (by (simp only [List.length_cons, List.length_nil]; omega)) ?_; intro w hw; simp only [FWL.strsOf, FWL.intsOf, List.filterMap_cons, List.filterMap_nil, List.mem_cons, List.not_mem_nil, or_false] at hw)
  | (with_reducible refine FWL.ha_pickS (by walk_at "rh") (by with_unfolding_all rfl) (by omega) (by (simp only [List.length_cons, List.length_nil]; omega)) ?_; intro w hw; simp only [FWL.strsOf, FWL.intsOf, List.filterMap_cons, List.filterMap_nil, List.mem_cons, List.not_mem_nil, or_false] at hw)
  | ((with_reducible refine FWL.ha_pick (by walk_at "rh") (by omega) (by (simp only [List.length_cons, List.length_nil]; omega)) ?_); intro pv hpv; simp only [List.mem_cons, List.not_mem_nil, or_false] at hpv)
  | ((with_reducible refine FWL.ha_cat (by walk_at "rh") (by walk_at "rh") (Nat.le_of_ble_eq_true (by with_unfolding_all rfl)) ?_); intro nt nH nz ne nh; try simp only [List.cons_append, List.nil_append] at nh)
  | ((with_reducible refine FWL.ha_tupL (by walk_at "rh") ?_); intro nt nH nz ne nh)
  | ((with_reducible refine FWL.e_max1 ?_ (by walk_at "rh")); intro mx hmx mx1 mx2)
  | ((with_reducible refine FWL.e_min1 ?_ (by walk_at "rh")); intro mn hmn mn1 mn2)
  | ((with_reducible apply FWL.ha_lenN); (next => walk_at "rh"); (next => (simp only [List.length_cons, List.length_nil, List.length_append, Nat.reduceAdd]; rfl)))
  | (with_reducible refine FWL.ha_len (by walk_at "rh") ?_)
  | (with_reducible refine FWL.ha_gT (by walk_at "rh") (by with_unfolding_all rfl) ?_)
  | (with_reducible refine FWL.ha_gL (by walk_at "rh") (by with_unfolding_all rfl) ?_)
  | (with_reducible refine FWL.ha_tyL (by walk_at "rh") ?_)
  | (intro nt nd nz nzd nne; generalize hG : L2.upd (L2.upd _ nd _) nt _ = nH; obtain ⟨ne, nh⟩ := FWL.mk_of nz nzd nne hG; clear hG nzd nne))
local macro_rules | `(tactic| walk_at "ry") => `(tactic| repeat (walk_at "rz1"))
local macro_rules | `(tactic| walk_at "rx") => `(tactic| repeat (first | walk_at "rz1" | walk_at "rs1"))
namespace FWL
open PySem PySem.Spec PyProof.Rows L2 FW
/-! ### heaps that keep all but tables -/
section
variable {H H' : Hp} {a C dx : Addr} {xs : List V} {fs : List (Str × L2.V)}
theorem nx_lst (e : LamX.ExtN H H') (h : H a = some (.lst xs)) : H' a = some (.lst xs) := e _ _ h (fun _ z => nomatch z)
theorem nx_tup (e : LamX.ExtN H H') (h : H a = some (.tup xs)) : H' a = some (.tup xs) := e _ _ h (fun _ z => nomatch z)
theorem nx_ins (e : LamX.ExtN H H') (h : H a = some (.ins C dx fs)) : H' a = some (.ins C dx fs) := e _ _ h (fun _ z => nomatch z)
theorem nx_of (e : Ext H H') : LamX.ExtN H H' := LamX.ExtN.of e
end
theorem nx_all {H H' : Hp} (e : LamX.ExtN H H') : (∀ a xs, H a = some (.lst xs) → H' a = some (.lst xs)) ∧ (∀ a xs, H a = some (.tup xs) → H' a = some (.tup xs)) ∧ (∀ a C dx fs, H a = some (.ins C dx fs) → H' a = some (.ins C dx fs)) :=
  ⟨fun _ _ h => nx_lst e h, fun _ _ h => nx_tup e h, fun _ _ _ _ h => nx_ins e h⟩
theorem tabs_lst {T : List (Addr × Str)} {H G : Hp} {a : Addr} {xs ys : List V} (t : LamX.Tabs T H) (h : H a = some (.lst xs)) (e : upd H a (.lst ys) = G) : LamX.Tabs T G := fun p hp => by
  subst e
  obtain ⟨ps, h1, h2, h3⟩ := t p hp
  refine ⟨ps, by rw [upd_ne (ne_of h1 h (fun z => nomatch z))]; exact h1, h2, fun pos cv hc => ?_⟩
  obtain ⟨c, e1, e2⟩ := h3 pos cv hc
  exact ⟨c, e1, by rw [upd_ne (ne_of e2 h (fun z => nomatch z))]; exact e2⟩
end FWL
local macro_rules | `(tactic| walk_at "rN") => `(tactic| (intro xa xo xh xn; solve_by_elim (maxDepth := 60)))
namespace FWL
open PySem PySem.Spec PyProof.Rows L2 FW
/-! ### comprehensions over ints: [f(c) for c in s if p(c)] -/
section
variable {K : PySem.W.Frag} {σ : L2.St} {H : Hp} {Q : VK} {a : Addr} {ns : List Int} {n : Nat} {tt : TT} {te : TE} {p : Int → Bool} {f : Int → Int}
theorem ints_at {i : Nat} {x : V} (h : (ns.map V.int)[i]? = some x) : ∃ c, x = .int c ∧ ns[i]? = some c := by
  rw [List.getElem?_map] at h
  cases e : ns[i]? with
  | none => rw [e] at h; cases h
  | some c => rw [e] at h; cases h; exact ⟨c, rfl, rfl⟩
theorem lc_step {D : Addr} {i : Nat} {c : Int} (hD : H D = none) (hl : ns.length ≤ 100000) (hc : ns[i]? = some c) (hw : ∀ v : V, wipe ((wipe σ [n]).set n (some v)) [n] = wipe σ [n])
    (ht : ∀ c ∈ ns, ∀ (H' : Hp) (R : Bool → Hp → Prop), Ext H H' → R (p c) H' → tt ((wipe σ [n]).set n (some (.int c))) H' R)
    (he : ∀ c ∈ ns, p c = true → ∀ (H' : Hp) (R : VK), Ext H H' → R (.int (f c)) H' → te ((wipe σ [n]).set n (some (.int c))) H' R) :
    gName n (.int c) (wipe σ [n]) (upd H D (.lst ((((ns.take i).filter p).map f).map V.int))) fun σ2 H2 => wipe σ2 [n] = wipe σ [n] ∧ tt σ2 H2 fun b H3 =>
      if b = true then te σ2 H3 fun y H4 => ∃ acc, H4 D = some (.lst acc) ∧ acc.length < sizeLine ∧ (i + 1 ≤ ns.length ∧ upd H4 D (.lst (acc ++ [y])) = upd H D (.lst ((((ns.take (i + 1)).filter p).map f).map V.int))) else (i + 1 ≤ ns.length ∧ H3 = upd H D (.lst ((((ns.take (i + 1)).filter p).map f).map V.int))) := by
  have hi := (List.getElem?_eq_some_iff.mp hc).1
  have hm : c ∈ ns := List.mem_of_getElem? hc
  have eX : Ext H (upd H D (.lst ((((ns.take i).filter p).map f).map V.int))) := Ext.new hD
  have et : ns.take (i + 1) = ns.take i ++ [c] := by rw [List.take_add_one, hc]; rfl
  refine g_name ⟨hw _, ht c hm _ _ eX ?_⟩
  cases hp : p c with
  | true =>
    rw [if_pos rfl]
    refine he c hm hp _ _ eX ⟨_, upd_same, ?_, hi, ?_⟩
    · rw [List.length_map, List.length_map]
      have := List.length_filter_le p (ns.take i)
      rw [List.length_take] at this
      show _ < 2 ^ 24
      omega
    · rw [et, List.filter_append, List.filter_cons_of_pos hp, List.filter_nil, List.map_append, List.map_append, upd_upd]; rfl
  | false =>
    rw [if_neg (by decide)]
    refine ⟨hi, ?_⟩
    rw [et, List.filter_append, List.filter_cons_of_neg (by rw [hp]; decide), List.filter_nil, List.append_nil]
theorem lcT_gen (h : SqT K H a (ns.map V.int)) (hl : ns.length ≤ 100000) (hw : ∀ v : V, wipe ((wipe σ [n]).set n (some v)) [n] = wipe σ [n])
    (ht : ∀ c ∈ ns, ∀ (H' : Hp) (R : Bool → Hp → Prop), Ext H H' → R (p c) H' → tt ((wipe σ [n]).set n (some (.int c))) H' R)
    (he : ∀ c ∈ ns, p c = true → ∀ (H' : Hp) (R : VK), Ext H H' → R (.int (f c)) H' → te ((wipe σ [n]).set n (some (.int c))) H' R)
    (q : ∀ D, H D = none → Q (.ref D) (upd H D (.lst (((ns.filter p).map f).map V.int)))) : LcK (gName n) tt te [n] σ Q (Itt K a) H := by
  intro D hD
  refine lc_tup (K := K) (a := a) (xs := ns.map V.int) (fun i H' => i ≤ ns.length ∧ H' = upd H D (.lst ((((ns.take i).filter p).map f).map V.int))) ⟨Nat.zero_le _, rfl⟩ (fun i H' _ h' => by rw [h'.2]; exact Ext.sqT (Ext.new hD) h) ?_ ?_
  · rintro i x H' hx ⟨_, rfl⟩
    obtain ⟨c, rfl, hc⟩ := ints_at hx
    exact lc_step hD hl hc hw ht he
  · rintro H' ⟨_, rfl⟩
    rw [List.length_map, List.take_of_length_le (Nat.le_refl _)]
    exact q D hD
theorem lcL_gen (h : SqL K H a (ns.map V.int)) (hl : ns.length ≤ 100000) (hw : ∀ v : V, wipe ((wipe σ [n]).set n (some v)) [n] = wipe σ [n])
    (ht : ∀ c ∈ ns, ∀ (H' : Hp) (R : Bool → Hp → Prop), Ext H H' → R (p c) H' → tt ((wipe σ [n]).set n (some (.int c))) H' R)
    (he : ∀ c ∈ ns, p c = true → ∀ (H' : Hp) (R : VK), Ext H H' → R (.int (f c)) H' → te ((wipe σ [n]).set n (some (.int c))) H' R)
    (q : ∀ D, H D = none → Q (.ref D) (upd H D (.lst (((ns.filter p).map f).map V.int)))) : LcK (gName n) tt te [n] σ Q (Itl K a) H := by
  intro D hD
  refine lc_list (K := K) (a := a) (xs := ns.map V.int) (fun i H' => i ≤ ns.length ∧ H' = upd H D (.lst ((((ns.take i).filter p).map f).map V.int))) ⟨Nat.zero_le _, rfl⟩ (fun i H' _ h' => by rw [h'.2]; exact Ext.sqL (Ext.new hD) h) ?_ ?_
  · rintro i x H' hx ⟨_, rfl⟩
    obtain ⟨c, rfl, hc⟩ := ints_at hx
    exact lc_step hD hl hc hw ht he
  · rintro H' ⟨_, rfl⟩
    rw [List.length_map, List.take_of_length_le (Nat.le_refl _)]
    exact q D hD
end
theorem filter_all (ns : List Int) : ns.filter (fun _ => true) = ns := by rw [List.filter_eq_self]; intro _ _; rfl
theorem yes_all {σ : L2.St} {H' : Hp} {R : Bool → Hp → Prop} (h : R true H') : tYes σ H' R := h
/-- the greatest, the least of a list of ints -/
theorem e_maxL {K : PySem.W.Frag} {H : Hp} {Q : VK} {a : Addr} {ns : List Int} (h : SqL K H a (ns.map V.int)) (hn : ns ≠ []) (k : ∀ m, m ∈ ns → (∀ c ∈ ns, c ≤ m) → Q (.int m) H) : rMax K [.ref a] H Q :=
  ⟨a, ns, rfl, h, List.length_pos_iff.mpr hn, k⟩
theorem e_minL {K : PySem.W.Frag} {H : Hp} {Q : VK} {a : Addr} {ns : List Int} (h : SqL K H a (ns.map V.int)) (hn : ns ≠ []) (k : ∀ m, m ∈ ns → (∀ c ∈ ns, m ≤ c) → Q (.int m) H) : rMin K [.ref a] H Q :=
  ⟨a, ns, rfl, h, List.length_pos_iff.mpr hn, k⟩
end FWL
namespace FWL
open PySem PySem.Spec PyProof.Rows L2 FW
/-! ### comprehensions whose items are made by calls -/
section
variable {K : PySem.W.Frag} {H : Hp} {σ : L2.St} {Q : VK} {a : Addr} {xs : List V} {n : Nat} {tt : TT} {te : TE} {P : V → V → Prop} {p : V → Bool}
def LcI (D : Addr) (P : V → V → Prop) (zs : List V) (H : Hp) (H' : Hp) : Prop := Ext H H' ∧ ∃ acc, H' D = some (.lst acc) ∧ Paired P zs acc
theorem lcx_step {D : Addr} {i : Nat} {x : V} {H' : Hp} (hD : H D = none) (hl : xs.length ≤ 1000000) (hx : xs[i]? = some x) (hw : ∀ v : V, wipe ((wipe σ [n]).set n (some v)) [n] = wipe σ [n])
    (ht : ∀ x ∈ xs, ∀ (H' : Hp) (R : Bool → Hp → Prop), Ext H H' → (∀ H'', Ext H' H'' → R (p x) H'') → tt ((wipe σ [n]).set n (some x)) H' R)
    (he : ∀ x ∈ xs, p x = true → ∀ (H' : Hp) (R : VK), Ext H H' → (∀ v H'', Ext H' H'' → P x v → R v H'') → te ((wipe σ [n]).set n (some x)) H' R)
    (h : LcI D P ((xs.take i).filter p) H H') :
    gName n x (wipe σ [n]) H' fun σ2 H2 => wipe σ2 [n] = wipe σ [n] ∧ tt σ2 H2 fun b H3 =>
      if b = true then te σ2 H3 fun y H4 => ∃ acc, H4 D = some (.lst acc) ∧ acc.length < sizeLine ∧ LcI D P ((xs.take (i + 1)).filter p) H (upd H4 D (.lst (acc ++ [y]))) else LcI D P ((xs.take (i + 1)).filter p) H H3 := by
  obtain ⟨e, acc, hacc, hp⟩ := h
  have hi := (List.getElem?_eq_some_iff.mp hx).1
  have hm : x ∈ xs := List.mem_of_getElem? hx
  have et : xs.take (i + 1) = xs.take i ++ [x] := by rw [List.take_add_one, hx]; rfl
  refine g_name ⟨hw _, ht x hm _ _ e fun H2 e2 => ?_⟩
  cases hpx : p x with
  | true =>
    rw [if_pos rfl]
    refine he x hm hpx _ _ (e.tr e2) fun v H4 e4 hv => ⟨acc, e4 _ _ (e2 _ _ hacc), ?_, ((e.tr e2).tr e4).upds hD, _, upd_same, ?_⟩
    · have h1 := hp.length
      have h2 := List.length_filter_le p (xs.take i)
      rw [List.length_take] at h2
      show _ < 2 ^ 24
      omega
    · rw [et, List.filter_append, List.filter_cons_of_pos hpx, List.filter_nil]
      exact Paired.snoc hp hv
  | false =>
    rw [if_neg (by decide)]
    refine ⟨e.tr e2, acc, e2 _ _ hacc, ?_⟩
    rw [et, List.filter_append, List.filter_cons_of_neg (by rw [hpx]; decide), List.filter_nil, List.append_nil]
    exact hp
theorem lcLX (h : SqL K H a xs) (hl : xs.length ≤ 1000000) (hw : ∀ v : V, wipe ((wipe σ [n]).set n (some v)) [n] = wipe σ [n])
    (ht : ∀ x ∈ xs, ∀ (H' : Hp) (R : Bool → Hp → Prop), Ext H H' → (∀ H'', Ext H' H'' → R (p x) H'') → tt ((wipe σ [n]).set n (some x)) H' R)
    (he : ∀ x ∈ xs, p x = true → ∀ (H' : Hp) (R : VK), Ext H H' → (∀ v H'', Ext H' H'' → P x v → R v H'') → te ((wipe σ [n]).set n (some x)) H' R)
    (q : ∀ D G ys, H D = none → Ext H G → G D = some (.lst ys) → Paired P (xs.filter p) ys → Q (.ref D) G) : LcK (gName n) tt te [n] σ Q (Itl K a) H := by
  intro D hD
  refine lc_list (K := K) (a := a) (xs := xs) (fun i H' => LcI D P ((xs.take i).filter p) H H') ⟨Ext.new hD, [], upd_same, .nil⟩ (fun i H' _ h' => h'.1.sqL h) ?_ ?_
  · rintro i x H' hx h'
    exact lcx_step hD hl hx hw ht he h'
  · rintro H' ⟨e, acc, hacc, hp⟩
    rw [List.take_of_length_le (Nat.le_refl _)] at hp
    exact q D H' acc hD e hacc hp
theorem lcTX (h : SqT K H a xs) (hl : xs.length ≤ 1000000) (hw : ∀ v : V, wipe ((wipe σ [n]).set n (some v)) [n] = wipe σ [n])
    (ht : ∀ x ∈ xs, ∀ (H' : Hp) (R : Bool → Hp → Prop), Ext H H' → (∀ H'', Ext H' H'' → R (p x) H'') → tt ((wipe σ [n]).set n (some x)) H' R)
    (he : ∀ x ∈ xs, p x = true → ∀ (H' : Hp) (R : VK), Ext H H' → (∀ v H'', Ext H' H'' → P x v → R v H'') → te ((wipe σ [n]).set n (some x)) H' R)
    (q : ∀ D G ys, H D = none → Ext H G → G D = some (.lst ys) → Paired P (xs.filter p) ys → Q (.ref D) G) : LcK (gName n) tt te [n] σ Q (Itt K a) H := by
  intro D hD
  refine lc_tup (K := K) (a := a) (xs := xs) (fun i H' => LcI D P ((xs.take i).filter p) H H') ⟨Ext.new hD, [], upd_same, .nil⟩ (fun i H' _ h' => h'.1.sqT h) ?_ ?_
  · rintro i x H' hx h'
    exact lcx_step hD hl hx hw ht he h'
  · rintro H' ⟨e, acc, hacc, hp⟩
    rw [List.take_of_length_le (Nat.le_refl _)] at hp
    exact q D H' acc hD e hacc hp
end
theorem paired_eq {α : Type} : ∀ {xs ys : List α}, Paired (fun x v => v = x) xs ys → ys = xs
  | _, _, .nil => rfl
  | _, _, .cons h t => by rw [h, paired_eq t]
theorem paired_all {α β : Type} {F : α → β → Prop} : ∀ {xs : List α} {ys : List β}, Paired F xs ys → (∀ y, y ∈ ys → ∃ x, x ∈ xs ∧ F x y) ∧ ∀ x, x ∈ xs → ∃ y, y ∈ ys ∧ F x y
  | _, _, .nil => ⟨(fun _ h => nomatch h), (fun _ h => nomatch h)⟩
  | _, _, .cons (a := a) (b := b) h t => by
    obtain ⟨h1, h2⟩ := paired_all t
    refine ⟨fun y hy => ?_, fun x hx => ?_⟩
    · rcases List.mem_cons.mp hy with rfl | hy
      · exact ⟨_, List.mem_cons_self, h⟩
      · obtain ⟨x, hx, hf⟩ := h1 y hy; exact ⟨x, List.mem_cons_of_mem _ hx, hf⟩
    · rcases List.mem_cons.mp hx with rfl | hx
      · exact ⟨_, List.mem_cons_self, h⟩
      · obtain ⟨y, hy, hf⟩ := h2 x hx; exact ⟨y, List.mem_cons_of_mem _ hy, hf⟩
theorem paired_keys {F : V → L2.Key → Prop} : ∀ {xs ys : List V}, Paired (fun x v => ∃ k, v = kV k ∧ F x k) xs ys → ∃ ks : List L2.Key, ys = ks.map kV ∧ Paired F xs ks
  | _, _, .nil => ⟨[], rfl, Paired.nil⟩
  | _, _, .cons h t => by
    obtain ⟨k, rfl, hk⟩ := h
    obtain ⟨ks, rfl, ht⟩ := paired_keys t
    exact ⟨k :: ks, rfl, Paired.cons hk ht⟩
theorem filter_yes {α : Type} (xs : List α) : xs.filter (fun _ => true) = xs := by rw [List.filter_eq_self]; intro _ _; rfl
theorem yes_ext {σ : L2.St} {H' : Hp} {R : Bool → Hp → Prop} (h : ∀ H'', Ext H' H'' → R true H'') : tYes σ H' R := h _ Ext.rfl'
end FWL
namespace FWL
open PySem PySem.Spec PyProof.Rows L2 FW
set_option hygiene false in
local macro_rules | `(tactic| walk_at "rv") => `(tactic| (have nt := (); have nz := (); have nH := (); have ne := (); have nh := ()))
/-! ### k26: errors made -/
def ek14 : List Str := ["BadNumber", "BadPower", "BadLoop", "BadStart", "BadField", "BadGuesses", "BadBeginning", "BadSought", "BadBracket", "BadKind", "BadText", "UnlikePowers", "UnlikeSteps", "NoGuess"]
def ek15 : List Str := "FloorError" :: ek14
structure ErV (K : PySem.W.Frag) : Prop where
  xc : ∀ x ∈ ek15, ExcC K (He.ga K x)
  ko : ∀ x ∈ ek15, ∀ y ∈ ek15, PySem.W.kitOne K (.ref (He.ga K x)) (.ref (He.ga K y)) = some (decide (x = y ∨ y = "FloorError"))
  kv : ∀ x ∈ ek15, PySem.W.kitOne K (.ref (He.ga K x)) (.type "ValueError") = some true
  gv : ∀ x ∈ (["BadNumber", "BadPower", "BadStart", "BadKind"] : List Str), ErrG K (He.ga K x) "value"
  gw : ∀ x ∈ (["BadLoop", "BadBeginning", "BadSought"] : List Str), ErrG K (He.ga K x) "word"
  gf : ErrG K (He.ga K "BadField") "field"
def ErX (K : PySem.W.Frag) (H : Hp) (e : Addr) (x : Str) : Prop := ∃ d, H e = some (exm (He.ga K x) e d) ∧ DX d H
theorem ErX.ext {K : PySem.W.Frag} {H H' : Hp} {e : Addr} {x : Str} (h : ErX K H e x) (k : Ext H H') : ErX K H' e x := by
  obtain ⟨d, h1, h2⟩ := h
  exact ⟨d, k _ _ h1, h2.ext k⟩
theorem ErX.updL {K : PySem.W.Frag} {H : Hp} {e M : Addr} {x : Str} {ys zs : List V} (h : ErX K H e x) (hM : H M = some (.lst ys)) : ErX K (upd H M (.lst zs)) e x := by
  obtain ⟨d, h1, h2⟩ := h
  refine ⟨d, by rw [upd_ne (ne_of h1 hM (fun z => by cases z))]; exact h1, ?_⟩
  rcases h2 with rfl | ⟨dd, fs, rfl, hd⟩
  · exact .inl rfl
  · exact .inr ⟨dd, fs, rfl, by rw [upd_ne (ne_of hd hM (fun z => by cases z))]; exact hd⟩
section
variable {K : PySem.W.Frag} {H : Hp} {Q : VK} {e : Addr} {x y : Str} {σ : L2.St}
theorem e_isV (T : ErV K) (hx : x ∈ ek15) (hy : y ∈ ek15) (h : ErX K H e x) (q : Q (.bl (decide (x = y ∨ y = "FloorError"))) H) : FW.rIsV K [.ref e, .ref (He.ga K y)] H Q := by
  obtain ⟨d, h1, h2⟩ := h
  exact ⟨e, _, d, _, _, _, h1, T.xc x hx, h2, rfl, .own _, T.ko x hx y hy, q⟩
theorem e_isVE (T : ErV K) (hx : x ∈ ek15) (h : ErX K H e x) (q : Q (.bl true) H) : FW.rIsV K [.ref e, .ty "ValueError"] H Q := by
  obtain ⟨d, h1, h2⟩ := h
  exact ⟨e, _, d, _, _, _, h1, T.xc x hx, h2, rfl, .ty _, T.kv x hx, q⟩
theorem ha_extend {l b : Addr} {xs zs : List V} (h : H l = some (.lst xs)) (h' : H b = some (.lst zs)) (z : xs.length + zs.length ≤ sizeLine) (k : Q .non (upd H l (.lst (xs ++ zs)))) : rExtend (.ref l) [.ref b] H Q := ⟨l, b, xs, zs, rfl, rfl, h, h', z, k⟩
theorem ha_extG {H0 : Hp} {l b : Addr} {xs zs : List V} (e : Ext H0 H) (zl : H0 l = none) (h : H l = some (.lst xs)) (h' : H b = some (.lst zs)) (z : xs.length + zs.length ≤ sizeLine) (k : ∀ G, Ext H0 G → (∀ c o, c ≠ l → H c = some o → G c = some o) → G l = some (.lst (xs ++ zs)) → Q .non G) : rExtend (.ref l) [.ref b] H Q :=
  ha_extend h h' z (k _ (e.upds zl) (fun c o hc hh => by rw [upd_ne hc]; exact hh) upd_same)
theorem ha_appG {H0 : Hp} {l : Addr} {xs : List V} {v : V} (e : Ext H0 H) (zl : H0 l = none) (h : H l = some (.lst xs)) (z : xs.length < sizeLine) (k : ∀ G, Ext H0 G → G l = some (.lst (xs ++ [v])) → Q .non G) : rAppend (.ref l) [v] H Q :=
  ha_app h z (k _ (e.upds zl) upd_same)
end
def sp_l_kinds (K : PySem.W.Frag) : Sp := fun vs H Q _ => ∃ (e : Addr) (x : Str), vs = [.ref e] ∧ x ∈ ek15 ∧ ErX K H e x ∧ ∀ p H', Ext H H' → H' p = some (.lst (ek14.map fun y => V.bl (decide (x = y)))) → Q (.ref p) H'
def rd_l_kinds (K : PySem.W.Frag) : TS := tSeq (tAsg (tLst (tCons (tCB (FW.rIsV K) (tCons (tVar 0) (tCons (tC (.ref (He.ga K "BadNumber"))) (tNil)))) (tCons (tCB (FW.rIsV K) (tCons (tVar 0) (tCons (tC (.ref (He.ga K "BadPower"))) (tNil)))) (tCons (tCB (FW.rIsV K) (tCons (tVar 0) (tCons (tC (.ref (He.ga K "BadLoop"))) (tNil)))) (tCons (tCB (FW.rIsV K) (tCons (tVar 0) (tCons (tC (.ref (He.ga K "BadStart"))) (tNil)))) (tNil)))))) (gName 1)) (tSeq (tDrop (tBM K "list" rExtend (tVar 1) (tCons (tLst (tCons (tCB (FW.rIsV K) (tCons (tVar 0) (tCons (tC (.ref (He.ga K "BadField"))) (tNil)))) (tCons (tCB (FW.rIsV K) (tCons (tVar 0) (tCons (tC (.ref (He.ga K "BadGuesses"))) (tNil)))) (tCons (tCB (FW.rIsV K) (tCons (tVar 0) (tCons (tC (.ref (He.ga K "BadBeginning"))) (tNil)))) (tNil))))) (tNil)))) (tSeq (tDrop (tBM K "list" rExtend (tVar 1) (tCons (tLst (tCons (tCB (FW.rIsV K) (tCons (tVar 0) (tCons (tC (.ref (He.ga K "BadSought"))) (tNil)))) (tCons (tCB (FW.rIsV K) (tCons (tVar 0) (tCons (tC (.ref (He.ga K "BadBracket"))) (tNil)))) (tCons (tCB (FW.rIsV K) (tCons (tVar 0) (tCons (tC (.ref (He.ga K "BadKind"))) (tNil)))) (tNil))))) (tNil)))) (tSeq (tDrop (tBM K "list" rExtend (tVar 1) (tCons (tLst (tCons (tCB (FW.rIsV K) (tCons (tVar 0) (tCons (tC (.ref (He.ga K "BadText"))) (tNil)))) (tCons (tCB (FW.rIsV K) (tCons (tVar 0) (tCons (tC (.ref (He.ga K "UnlikePowers"))) (tNil)))) (tCons (tCB (FW.rIsV K) (tCons (tVar 0) (tCons (tC (.ref (He.ga K "UnlikeSteps"))) (tNil)))) (tNil))))) (tNil)))) (tRet (tOp rCat (tVar 1) (tLst (tCons (tCB (FW.rIsV K) (tCons (tVar 0) (tCons (tC (.ref (He.ga K "NoGuess"))) (tNil)))) (tNil))))))))
theorem pure_l_kinds (K : PySem.W.Frag) (T : ErV K) (vs : List V) (H : Hp) (Q : VK) (E : XK) (h : sp_l_kinds K vs H Q E) : rd_l_kinds K { nx := fun _ H' => Q .non H', rt := Q } (start ["_law_e", "_law_found"] vs) H := by
  obtain ⟨e, x, rfl, hx, he, q⟩ := h
  have xF : ∀ y ∈ ek14, (decide (x = y ∨ y = "FloorError")) = decide (x = y) := fun y hy => by
    have : y ≠ "FloorError" := fun z => by rw [z] at hy; revert hy; decide
    simp [this]
  have st : ∀ {y : Str} {G : Hp} {R : VK}, y ∈ ek14 → Ext H G → R (.bl (decide (x = y))) G → FW.rIsV K [.ref e, .ref (He.ga K y)] G R := fun {y G R} hy k r => by
    refine e_isV T hx (List.mem_cons_of_mem _ hy) (he.ext k) ?_
    rw [xF y hy]
    exact r
  have k0 : Ext H H := fun _ _ z => z
  unfold rd_l_kinds
  walk_at "rx"
  refine st (by decide) k0 ?_
  walk_at "rx"
  refine st (by decide) k0 ?_
  walk_at "rx"
  refine st (by decide) k0 ?_
  walk_at "rx"
  refine st (by decide) k0 ?_
  walk_at "rx"
  walk_at "rv"
  rename_i M zM H1 e1 h1
  refine st (by decide) e1 ?_
  walk_at "rx"
  refine st (by decide) e1 ?_
  walk_at "rx"
  refine st (by decide) e1 ?_
  walk_at "rx"
  refine ha_extG (e1.tr ne) zM (ne _ _ h1) nh (Nat.le_of_ble_eq_true rfl) fun G2 e2 _ h2 => ?_
  walk_at "rx"
  refine st (by decide) e2 ?_
  walk_at "rx"
  refine st (by decide) e2 ?_
  walk_at "rx"
  refine st (by decide) e2 ?_
  walk_at "rx"
  refine ha_extG (e2.tr ne) zM (ne _ _ h2) nh (Nat.le_of_ble_eq_true rfl) fun G3 e3 _ h3 => ?_
  walk_at "rx"
  refine st (by decide) e3 ?_
  walk_at "rx"
  refine st (by decide) e3 ?_
  walk_at "rx"
  refine st (by decide) e3 ?_
  walk_at "rx"
  refine ha_extG (e3.tr ne) zM (ne _ _ h3) nh (Nat.le_of_ble_eq_true rfl) fun G4 e4 _ h4 => ?_
  walk_at "rx"
  refine st (by decide) e4 ?_
  walk_at "rx"
  exact q _ _ (by walk_at "rE") nh
end FWL
namespace FWL
open PySem PySem.Spec PyProof.Rows L2 FW
set_option hygiene false in
local macro_rules | `(tactic| walk_at "rv") => `(tactic| (have nt := (); have nz := (); have nH := (); have ne := (); have nh := ()))
section
variable {K : PySem.W.Frag} {H : Hp} {Q : VK} {σ : L2.St}
theorem e_kept {C : Addr} {f : Str} {v : V} {rest : L2.St} (g : ErrG K C f) (k : ∀ G, Ext H G → Q v G) : (FW.tByV K f (FW.tErrV C f (tCons (tVar 0) (tNil)))) (some v :: rest) H Q := by
  refine ⟨v, rfl, v, rfl, fun e d G _ h1 h2 h3 => ⟨e, C, d, v, rfl, h2, g, h3, k G h1⟩⟩
end
theorem dp_rep {K : PySem.W.Frag} {H : Hp} {v : V} {d : PyData} (h : Dp K H v d) : ∀ n, DpAll K H (List.replicate n v) (List.replicate n d)
  | 0 => .nil
  | n + 1 => .cons h (dp_rep h n)
def sp_l_kept (K : PySem.W.Frag) : Sp := fun vs H Q _ => ∃ (v : V) (d : PyData), vs = [v] ∧ (∀ H', Ext H H' → Dp K H' v d) ∧ SeqAt.shaped (.list (List.replicate 16 d)) = true ∧ ∀ H', Ext H H' → Q (.bl true) H'
def rd_l_kept (K : PySem.W.Frag) : TS := tSeq (tAsg (tLst (tCons (FW.tByV K "value" (FW.tErrV (He.ga K "BadNumber") "value" (tCons (tVar 0) (tNil)))) (tCons (FW.tByV K "value" (FW.tErrV (He.ga K "BadNumber") "value" (tCons (tVar 0) (tNil)))) (tCons (FW.tByV K "value" (FW.tErrV (He.ga K "BadPower") "value" (tCons (tVar 0) (tNil)))) (tNil))))) (gName 1)) (tSeq (tDrop (tBM K "list" rExtend (tVar 1) (tCons (tLst (tCons (FW.tByV K "value" (FW.tErrV (He.ga K "BadPower") "value" (tCons (tVar 0) (tNil)))) (tCons (FW.tByV K "word" (FW.tErrV (He.ga K "BadLoop") "word" (tCons (tVar 0) (tNil)))) (tCons (FW.tByV K "word" (FW.tErrV (He.ga K "BadLoop") "word" (tCons (tVar 0) (tNil)))) (tNil))))) (tNil)))) (tSeq (tDrop (tBM K "list" rExtend (tVar 1) (tCons (tLst (tCons (FW.tByV K "value" (FW.tErrV (He.ga K "BadStart") "value" (tCons (tVar 0) (tNil)))) (tCons (FW.tByV K "value" (FW.tErrV (He.ga K "BadStart") "value" (tCons (tVar 0) (tNil)))) (tCons (FW.tByV K "field" (FW.tErrV (He.ga K "BadField") "field" (tCons (tVar 0) (tNil)))) (tNil))))) (tNil)))) (tSeq (tDrop (tBM K "list" rExtend (tVar 1) (tCons (tLst (tCons (FW.tByV K "field" (FW.tErrV (He.ga K "BadField") "field" (tCons (tVar 0) (tNil)))) (tCons (FW.tByV K "word" (FW.tErrV (He.ga K "BadBeginning") "word" (tCons (tVar 0) (tNil)))) (tCons (FW.tByV K "word" (FW.tErrV (He.ga K "BadBeginning") "word" (tCons (tVar 0) (tNil)))) (tNil))))) (tNil)))) (tSeq (tDrop (tBM K "list" rExtend (tVar 1) (tCons (tLst (tCons (FW.tByV K "word" (FW.tErrV (He.ga K "BadSought") "word" (tCons (tVar 0) (tNil)))) (tCons (FW.tByV K "word" (FW.tErrV (He.ga K "BadSought") "word" (tCons (tVar 0) (tNil)))) (tCons (FW.tByV K "value" (FW.tErrV (He.ga K "BadKind") "value" (tCons (tVar 0) (tNil)))) (tNil))))) (tNil)))) (tSeq (tDrop (tBM K "list" rAppend (tVar 1) (tCons (FW.tByV K "value" (FW.tErrV (He.ga K "BadKind") "value" (tCons (tVar 0) (tNil)))) (tNil)))) (tRet (tOp (rEqD K) (tVar 1) (tOp rRep (tLst (tCons (tVar 0) (tNil))) (tCB (Evl.rLenS K) (tCons (tVar 1) (tNil)))))))))))
theorem pure_l_kept (K : PySem.W.Frag) (T : ErV K) (vs : List V) (H : Hp) (Q : VK) (E : XK) (h : sp_l_kept K vs H Q E) : rd_l_kept K { nx := fun _ H' => Q .non H', rt := Q } (start ["_law_thing", "_law_found"] vs) H := by
  obtain ⟨v, d, rfl, hv, sh, q⟩ := h
  have k0 : Ext H H := fun _ _ z => z
  have gv := T.gv
  have gw := T.gw
  have gf := T.gf
  unfold rd_l_kept
  walk_at "rx"
  refine e_kept (gv _ (by decide)) fun G e => ?_
  have yk0_0 := k0.tr e
  clear e
  walk_at "rx"
  refine e_kept (gv _ (by decide)) fun G e => ?_
  have yk0_1 := yk0_0.tr e
  clear e
  walk_at "rx"
  refine e_kept (gv _ (by decide)) fun G e => ?_
  have yk0_2 := yk0_1.tr e
  clear e
  walk_at "rx"
  walk_at "rv"
  rename_i M zM H1 e1 h1
  have zM0 : H M = none := by
    cases z : H M with
    | none => rfl
    | some o => have := yk0_2 _ _ z; rw [zM] at this; cases this
  have a1 := yk0_2.tr e1
  walk_at "rx"
  refine e_kept (gv _ (by decide)) fun G e => ?_
  have b0_0 := e
  clear e
  walk_at "rx"
  refine e_kept (gw _ (by decide)) fun G e => ?_
  have b0_1 := b0_0.tr e
  clear e
  walk_at "rx"
  refine e_kept (gw _ (by decide)) fun G e => ?_
  have b0_2 := b0_1.tr e
  clear e
  walk_at "rx"
  have c0 := b0_2.tr ne
  refine ha_extG (a1.tr c0) zM0 (c0 _ _ h1) nh (Nat.le_of_ble_eq_true rfl) fun G a _ hh => ?_
  clear nh nz ne c0 b0_0 b0_1 b0_2
  have a2 := a
  have h2 := hh
  clear a hh  h1
  walk_at "rx"
  refine e_kept (gv _ (by decide)) fun G e => ?_
  have b1_0 := e
  clear e
  walk_at "rx"
  refine e_kept (gv _ (by decide)) fun G e => ?_
  have b1_1 := b1_0.tr e
  clear e
  walk_at "rx"
  refine e_kept (gf) fun G e => ?_
  have b1_2 := b1_1.tr e
  clear e
  walk_at "rx"
  have c1 := b1_2.tr ne
  refine ha_extG (a2.tr c1) zM0 (c1 _ _ h2) nh (Nat.le_of_ble_eq_true rfl) fun G a _ hh => ?_
  clear nh nz ne c1 b1_0 b1_1 b1_2
  have a3 := a
  have h3 := hh
  clear a hh a2 h2
  walk_at "rx"
  refine e_kept (gf) fun G e => ?_
  have b2_0 := e
  clear e
  walk_at "rx"
  refine e_kept (gw _ (by decide)) fun G e => ?_
  have b2_1 := b2_0.tr e
  clear e
  walk_at "rx"
  refine e_kept (gw _ (by decide)) fun G e => ?_
  have b2_2 := b2_1.tr e
  clear e
  walk_at "rx"
  have c2 := b2_2.tr ne
  refine ha_extG (a3.tr c2) zM0 (c2 _ _ h3) nh (Nat.le_of_ble_eq_true rfl) fun G a _ hh => ?_
  clear nh nz ne c2 b2_0 b2_1 b2_2
  have a4 := a
  have h4 := hh
  clear a hh a3 h3
  walk_at "rx"
  refine e_kept (gw _ (by decide)) fun G e => ?_
  have b3_0 := e
  clear e
  walk_at "rx"
  refine e_kept (gw _ (by decide)) fun G e => ?_
  have b3_1 := b3_0.tr e
  clear e
  walk_at "rx"
  refine e_kept (gv _ (by decide)) fun G e => ?_
  have b3_2 := b3_1.tr e
  clear e
  walk_at "rx"
  have c3 := b3_2.tr ne
  refine ha_extG (a4.tr c3) zM0 (c3 _ _ h4) nh (Nat.le_of_ble_eq_true rfl) fun G a _ hh => ?_
  clear nh nz ne c3 b3_0 b3_1 b3_2
  have a5 := a
  have h5 := hh
  clear a hh a4 h4
  walk_at "rx"
  refine e_kept (gv _ (by decide)) fun G b => ?_
  walk_at "rx"
  refine ha_appG (a5.tr b) zM0 (b _ _ h5) (Nat.le_of_ble_eq_true rfl) fun G' a7 h7 => ?_
  walk_at "rx"
  refine e_rep (fun p hp => ?_) nh (by decide) (by decide)
  have g1 := Ext.new (o := .lst (List.replicate ((16 : Nat) : Int).toNat v)) hp
  have g2 := upd_same (H := nH) (a := p) (o := .lst (List.replicate ((16 : Nat) : Int).toNat v))
  generalize upd nH p _ = G8 at g1 g2 ⊢
  have aa := (a7.tr ne).tr g1
  refine e_eqD (d := .list (List.replicate 16 d)) (e := .list (List.replicate 16 d)) ?_ (.lst (SqL.of (g1 _ _ (ne _ _ h7))) (dp_rep (hv _ aa) 16)) (.lst (SqL.of g2) (dp_rep (hv _ aa) 16)) sh sh
  rw [SeqAt.eqv_refl _ (SeqAt.canLay_of_shaped sh)]
  exact q _ aa
end FWL
namespace FW
open PySem PySem.Spec PyProof.Rows L2
/-! ### x == y, x != y of two instances of a class with its own __eq__ -/
section
variable {M : Model} {prog : Program} {w : World} {A : Around} {E : Value → Shared → Prop} {s : Shared} {K : PySem.W.Frag} {x y C f : Addr} {ox oy : Obj} {od oe : Option Obj}
theorem ifBound_objNe {args : List Value} {Q : Option Value → Shared → Prop} (X : K.In s.heap) (I : PySem.W.InstAt s.heap x ox C od) (hs : PySem.W.findIn K (.ref C) "__ne__" = some (some (.builtin "object.__ne__")))
    (h : wpAny M A (call (.builtin "object.__ne__") (.ref x :: args)) (fun v => Q (some v)) E s) : wpAny M A (callSpecialIfBound? (.ref x) "__ne__" args) Q E s := by
  simp only [callSpecialIfBound?, bindSpecialIfBound?]
  refine wpAny_holding (wpAny_bind (wpAny_bind (wpAny_bind (I.type.here ((PySem.W.looks_findIn X hs).here ?_)))))
  refine wpAny_bind (wpAny_askSetting (wpAny_ite ?_))
  have fin : wpAny M A (call (.builtin "object.__ne__") ([.ref x] ++ args) >>= fun v => pure (some v)) Q E s := wpAny_bind (wpAny_mono h (fun v s' h' => wpAny_pure h') fun _ _ h' => h')
  split
  · exact wpAny_bind (wpAny_of_eq (F.cmp_object.ne.bind _) (wpAny_pure (by exact fin)))
  · exact wpAny_tryCatch (wpAny_bind (wpAny_of_eq (F.cmp_object.ne.bind _) (wpAny_pure (by exact fin))))
theorem entry_objNe {Q : Fin → Shared → Prop} (hu : A.units < cLine) (X : K.In s.heap) (I : PySem.W.InstAt s.heap x ox C od) (hs : PySem.W.findIn K (.ref C) "__eq__" = some (some (.ref f))) (hf : PySem.W.isFn K (.ref f) = true)
    (hcall : wpAny (model prog w) A (call (.ref f) [.ref x, .ref y]) (fun v s' => ∃ b, v = .bool b ∧ Q (.done (.ret (.bool (!b)))) s') E s) :
    wpAny (model prog w) A (Builtin.«object.__ne__» ⟨[.ref x, .ref y], []⟩) Q E s := by
  obtain ⟨hp, g, d, t, os⟩ := s
  unfold Builtin.«object.__ne__»
  repeat (first
    | with_reducible refine wpAny_cRoomFor hu ?_
    | (refine wpAny_bind (m := callSpecialIfBound? (.ref x) (Str.ofString "__eq__") [.ref y])
        (PySem.W.ifBound_K X I hs hf (wpAny_mono hcall (fun r s' hr => by
          obtain ⟨b, rfl, hq⟩ := hr
          repeat (first | exact hq | exact wpAny_pure hq | exact wpAny_truthy_bool hq | (refine wpAny_bind (m := truthy (.bool _)) (wpAny_truthy_bool ?_)) | wp_step)) fun _ _ e => e)))
    | wp_step)
theorem rcNe {Q : Value → Shared → Prop} (hu : A.units + 1 < cLine) (X : K.In s.heap) (I : PySem.W.InstAt s.heap x ox C od) (J : PySem.W.InstAt s.heap y oy C oe) (hm : PySem.W.mroIn K C (.type "object") = some true)
    (hn : PySem.W.findIn K (.ref C) "__ne__" = some (some (.builtin "object.__ne__"))) (hs : PySem.W.findIn K (.ref C) "__eq__" = some (some (.ref f))) (hf : PySem.W.isFn K (.ref f) = true)
    (hcall : wpAny (model prog w) A.in1 (call (.ref f) [.ref x, .ref y]) (fun v s' => ∃ b, v = .bool b ∧ Q (.bool (!b)) s') E s) :
    wpAny (model prog w) A (richCompare .NotEq (.ref x) (.ref y)) Q E s := by
  have one : wpAny (model prog w) A (tryCompare (.ref x) "__ne__" (.ref y)) (fun r s' => ∃ v, r = some v ∧ Q v s') E s := by
    unfold tryCompare
    refine wpAny_bind (ifBound_objNe X I hn (wpAny_call (codeAny_call_builtin F.cmp_object.ne.plain F.cmpEntry_ne (PySem.W.check_slot F.cmpKind_ne F.cmpSplit_ne (I.type.andThen (PySem.W.looks_mroIn X hm)) (F.cmpArgs_ne _ _)
      (entry_objNe (A := A.in1) hu X I hs hf (wpAny_mono hcall (fun v s' hv => ?_) fun _ _ e => e))))))
    obtain ⟨b, rfl, hq⟩ := hv
    exact ⟨b, rfl, wpAny_pure ⟨_, rfl, hq⟩⟩
  unfold richCompare
  simp only [oneThing_ref]
  refine wpAny_holding (wpAny_bind (wpAny_cRoomFor (Nat.lt_of_succ_lt hu) ?_))
  rw [cmpInfo_NotEq]
  dsimp only
  refine wpAny_bind (I.type.here (wpAny_bind (J.type.here ?_)))
  rw [show (Value.ref C != Value.ref C) = false from by simp]
  simp only [Bool.false_eq_true, if_false]
  refine wpAny_bind (wpAny_pure ?_)
  simp only [Bool.false_eq_true, if_false]
  refine wpAny_bind (wpAny_mono one (fun r s' z => ?_) fun _ _ e => e)
  obtain ⟨v, rfl, hq⟩ := z
  exact wpAny_pure hq
end
/-- what the head tells of a class with its own __eq__ and no __ne__ -/
structure OwnE (K : PySem.W.Frag) (C : Addr) : Prop where
  mro : PySem.W.mroIn K C (.type "object") = some true
  ne : PySem.W.findIn K (.ref C) "__ne__" = some (some (.builtin "object.__ne__"))
def ownEB (K : PySem.W.Frag) (x : Str) : Bool := decide (PySem.W.mroIn K (He.ga K x) (.type "object") = some true) && He.eqO (PySem.W.findIn K (.ref (He.ga K x)) "__ne__") (some (some (.builtin "object.__ne__")))
theorem ownEB_ok {K : PySem.W.Frag} {x : Str} (h : ownEB K x = true) : OwnE K (He.ga K x) := by
  obtain ⟨h1, h2⟩ := He.ba h
  exact ⟨of_decide_eq_true h1, He.eqO_ok h2⟩
def rEqO (C : Addr) (sp : Sp) : R2 := fun x y H Q => ∃ a b dx dy fs gs, x = .ref a ∧ y = .ref b ∧ H a = some (.ins C dx fs) ∧ H b = some (.ins C dy gs) ∧ sp [x, y] H (fun v H' => ∃ k, v = .bl k ∧ Q (.bl k) H') E0
def rNeO (C : Addr) (sp : Sp) : R2 := fun x y H Q => ∃ a b dx dy fs gs, x = .ref a ∧ y = .ref b ∧ H a = some (.ins C dx fs) ∧ H b = some (.ins C dy gs) ∧ sp [x, y] H (fun v H' => ∃ k, v = .bl k ∧ Q (.bl (!k)) H') E0
section
variable {X : Cx} {C : Addr} {k j : Nat} {sp : Sp}
theorem run_eqO {pins : List (Addr × Obj)} {σ : L2.St} {H : Hp} {s : Shared} {A : Around} {a b : Addr} {f : Addr} {fd : FuncData} {ps : List Str} {Q : VK} {R : Value → Shared → Prop} (F : FnOk X.prog X.w X.K X.mg X.base CX0 k f fd ps sp) (hr : Room k A) (hfr : A.frames = X.A.frames) (hb : Binds X.K fd ps []) (I : Inv X pins σ H s)
    (h : sp [.ref a, .ref b] H Q E0) (hq : ∀ v H' u s', Inv X pins σ H' s' → RelV v u → Q v H' → R u s') : wpAny (model X.prog X.w) A (call (.ref f) [.ref a, .ref b]) R X.xe s := by
  have e0 : Env0 X.prog X.w X.K X.mg X.base A X.stack s H := by
    have e := I.env0
    exact ⟨by rw [hfr]; exact e.frames, e.mod, e.bs, e.bsz, e.funs, e.frf, e.hok, e.bare⟩
  have hl := F.len _ _ _ _ h
  have r2 : Vals [V.ref a, V.ref b] [Value.ref a, Value.ref b] := .cons rfl (.cons rfl .nil)
  refine wpAny_call (codeAny_mono (F.run A X.stack s H ⟨[.ref a, .ref b], []⟩ [.ref a, .ref b] [.ref a, .ref b] _ E0 hr e0 (by
    have := hb s [.ref a, .ref b] I.kIn (by simpa using hl)
    simpa using this) r2 h) fun r s' hz => ?_)
  cases r with
  | error e => exact (show False from hz).elim
  | ok fl =>
    cases fl with
    | ret w =>
      obtain ⟨z, H', I', rz, ez⟩ := I.after hz
      exact hq z H' w s' I' rz ez
    | next => exact False.elim hz
    | brk => exact False.elim hz
    | cont => exact False.elim hz
theorem op_eqO (c : Mt X.prog X.w X.K X.mg X.base CX0 k C "__eq__" sp []) (hr : Room j X.A) (hk : k ≤ j) : OpR X (compareOp .Eq) (rEqO C sp) := by
  intro pins s σ H x y v u Q I rx ry h
  obtain ⟨a, b, dx, dy, fs, gs, rfl, rfl, ha, hb', hsp⟩ := h
  cases rx
  cases ry
  obtain ⟨f, fd, ps, ds, hc, hm, F, bd, d⟩ := c.ex
  cases d
  obtain ⟨mA, J, _⟩ := ins_get I.hok ha
  obtain ⟨mB, J', _⟩ := ins_get I.hok hb'
  obtain ⟨od, J, _⟩ := J.look
  obtain ⟨od', J', _⟩ := J'.look
  obtain ⟨m, hF⟩ := I.fr
  show wpAny (model X.prog X.w) X.A (richCompare .Eq (.ref a) (.ref b)) (EP X pins σ Q) X.xe s
  refine PySem.W.cmp_K (op := .Eq) (tb := .ref C) (hr.mono hk).units0 hF I.ok.mod.kin J J'.type (by simp [PySem.W.notFirst]) hm.at_ hm.fn ?_
  refine run_eqO F (hr.mono hk) rfl bd I hsp fun v H' u s' I' rv q => ?_
  obtain ⟨kk, rfl, q⟩ := q
  cases rv
  exact ⟨.bl kk, H', I', rfl, q⟩
theorem op_neO (o : OwnE X.K C) (c : Mt X.prog X.w X.K X.mg X.base CX0 k C "__eq__" sp []) (hr : Room j X.A) (hk : k + 1 ≤ j) : OpR X (compareOp .NotEq) (rNeO C sp) := by
  intro pins s σ H x y v u Q I rx ry h
  obtain ⟨a, b, dx, dy, fs, gs, rfl, rfl, ha, hb', hsp⟩ := h
  cases rx
  cases ry
  obtain ⟨f, fd, ps, ds, hc, hm, F, bd, d⟩ := c.ex
  cases d
  obtain ⟨mA, J, _⟩ := ins_get I.hok ha
  obtain ⟨mB, J', _⟩ := ins_get I.hok hb'
  obtain ⟨od, J, _⟩ := J.look
  obtain ⟨od', J', _⟩ := J'.look
  show wpAny (model X.prog X.w) X.A (richCompare .NotEq (.ref a) (.ref b)) (EP X pins σ Q) X.xe s
  have hr' := hr.mono hk
  refine rcNe (by have := hr'.un; omega) I.kIn J J' o.mro o.ne hm.at_ hm.fn ?_
  refine run_eqO F hr'.in1 rfl bd I hsp fun v H' u s' I' rv q => ?_
  obtain ⟨kk, rfl, q⟩ := q
  cases rv
  exact ⟨kk, rfl, .bl (!kk), H', I', rfl, q⟩
end
/-- t.index(x) of a tuple of texts -/
def rTIdx (K : PySem.W.Frag) : V → List V → Hp → VK → Prop := fun x xs H Q => ∃ p, ∃ ys : List Str, ∃ z j, x = .ref p ∧ xs = [.str z] ∧ SqT K H p (ys.map V.str) ∧ ys[j]? = some z ∧ (∀ m, m < j → ys[m]? ≠ some z) ∧ Q (.int (j : Nat)) H
/-- a tuple of the written part -/
def TupK (K : PySem.W.Frag) (a : Addr) : Prop := ∃ o, K.lookup a = some o ∧ o.cls = .type "tuple" ∧ o.dict = none
def tupKB (K : PySem.W.Frag) (x : Str) : Bool := match K.lookup (He.ga K x) with
  | some o => decide (o.cls = .type "tuple") && o.dict.isNone
  | none => false
theorem tupKB_ok {K : PySem.W.Frag} {x : Str} (h : tupKB K x = true) : TupK K (He.ga K x) := by
  unfold tupKB at h
  split at h
  · rename_i o ho
    obtain ⟨h1, h2⟩ := He.ba h
    exact ⟨o, ho, of_decide_eq_true h1, by simpa using h2⟩
  · cases h
theorem mtTIdx {X : Cx} : MtR X "tuple.index" (rTIdx X.K) := mt_tup_index
end FW
namespace FWL
open PySem PySem.Spec PyProof.Rows L2 FW
/-! ### average loops of any parts: made or refused; parts, == -/
abbrev clsL (K : PySem.W.Frag) : Value := .ref (He.ga K "BadLoop")
abbrev clsF (K : PySem.W.Frag) : Value := .ref (He.ga K "BadField")
/-- seven parts as a loop -/
theorem wrong_ok {k a c d s t m : V} (h : wrongP k a c d s t m = .non) : ∃ l : Lp, l.Ok ∧ [k, a, c, d, s, t, m] = l.V := by
  unfold wrongP at h
  by_cases h1 : (!isInt k || !inV k [.int 2, .int 3, .int 4]) = true
  · rw [if_pos h1] at h; cases h
  rw [if_neg h1] at h
  by_cases h2 : (!isInt a || !(decide (1 ≤ iv a) && decide (iv a ≤ 5))) = true
  · rw [if_pos h2] at h; cases h
  rw [if_neg h2] at h
  by_cases h3 : (!fromI c 1 || (decide (iv a < iv c * (iv k - 1)) || decide (6 < iv a + iv c))) = true
  · rw [if_pos h3] at h; cases h
  rw [if_neg h3] at h
  by_cases h4 : (!isInt d || !(decide (-iv a ≤ iv d) && decide (iv d ≤ iv a + iv c))) = true
  · rw [if_pos h4] at h; cases h
  rw [if_neg h4] at h
  by_cases h5 : (!wordOf s stopsV) = true
  · rw [if_pos h5] at h; cases h
  rw [if_neg h5] at h
  by_cases h6 : (!wordOf t toldsV || (inV s looksV && !decide (t = .str "old"))) = true
  · rw [if_pos h6] at h; cases h
  rw [if_neg h6] at h
  by_cases h7 : wordOf m mendsV = true
  · have isI : ∀ {v : V}, isInt v = true → ∃ i, v = .int i := fun {v} q => by cases v <;> first | (cases q; done) | exact ⟨_, rfl⟩
    have isS : ∀ {v : V}, isStr v = true → ∃ i, v = .str i := fun {v} q => by cases v <;> first | (cases q; done) | exact ⟨_, rfl⟩
    simp only [Bool.or_eq_true, Bool.not_eq_true', Bool.and_eq_true, decide_eq_true_eq, decide_eq_false_iff_not, not_or, Bool.not_eq_false, fromI, wordOf, not_and, Bool.and_eq_false_iff, Classical.not_not] at h1 h2 h3 h4 h5 h6 h7
    obtain ⟨k, rfl⟩ := isI h1.1
    obtain ⟨a, rfl⟩ := isI h2.1
    obtain ⟨c, rfl⟩ := isI h3.1.1
    obtain ⟨d, rfl⟩ := isI h4.1
    obtain ⟨s, rfl⟩ := isS h5.1
    obtain ⟨t, rfl⟩ := isS h6.1.1
    obtain ⟨m, rfl⟩ := isS h7.1
    have mI : inV (.int k) [.int 2, .int 3, .int 4] = true := h1.2
    have hk : k = 2 ∨ k = 3 ∨ k = 4 := by
      have : (decide (2 = k) || (decide (3 = k) || (decide (4 = k) || false))) = true := mI
      simp at this
      omega
    have c1 : 1 ≤ c := h3.1.2
    have ca : c * (k - 1) ≤ a := by have := h3.2.1; show c * (k - 1) ≤ a; have e : iv (.int a) = a := rfl; have e2 : iv (.int c) = c := rfl; have e3 : iv (.int k) = k := rfl; rw [e, e2, e3] at this; omega
    have ac : a + c ≤ 6 := by have := h3.2.2; have e : iv (.int a) = a := rfl; have e2 : iv (.int c) = c := rfl; rw [e, e2] at this; omega
    have c3 : c ≤ 3 := by
      rcases hk with rfl | rfl | rfl <;> omega
    have hS : V.str s ∈ stopsV := by have := h5.2; rw [inV_str _ strs_stops] at this; exact of_decide_eq_true this
    have hT : V.str t ∈ toldsV := by have := h6.1.2; rw [inV_str _ strs_tolds] at this; exact of_decide_eq_true this
    have hM : V.str m ∈ mendsV := by have := h7.2; rw [inV_str _ strs_mends] at this; exact of_decide_eq_true this
    refine ⟨⟨k, a, c, d, s, t, m⟩, ⟨hk, h2.2.1, h2.2.2, c1, c3, ca, ac, h4.2.1, h4.2.2, hS, hT, fun z => ?_, hM⟩, rfl⟩
    have := h6.2
    rw [inV_str _ strs_looks] at this
    have q := this (decide_eq_true z)
    exact V.str.inj q
  · rw [if_neg h7] at h; cases h

/-- an instance's class -/
structure InsK (K : PySem.W.Frag) (C : Addr) : Prop where
  cls : PySem.W.findIn K (.ref C) "__class__" = some (some (.builtin "object.__class__"))
  get : PySem.W.specialIn K (.builtin "object.__class__") "__get__" = some (some (.builtin "getset_descriptor.__get__"))
  tk : PySem.W.takesIn K (.builtin "object.__class__") = some true
  mro : PySem.W.mroIn K C (.type "object") = some true
def insKB (K : PySem.W.Frag) (x : Str) : Bool := He.eqO (PySem.W.findIn K (.ref (He.ga K x)) "__class__") (some (some (.builtin "object.__class__"))) && (He.eqO (PySem.W.specialIn K (.builtin "object.__class__") "__get__") (some (some (.builtin "getset_descriptor.__get__"))) &&
  (decide (PySem.W.takesIn K (.builtin "object.__class__") = some true) && decide (PySem.W.mroIn K (He.ga K x) (.type "object") = some true)))
theorem insKB_ok {K : PySem.W.Frag} {x : Str} (h : insKB K x = true) : InsK K (He.ga K x) := by
  obtain ⟨h1, h2⟩ := He.ba h
  obtain ⟨h3, h4⟩ := He.ba h2
  obtain ⟨h5, h6⟩ := He.ba h4
  exact ⟨He.eqO_ok h1, He.eqO_ok h3, of_decide_eq_true h5, of_decide_eq_true h6⟩
theorem kitSelf {K : PySem.W.Frag} {C : Addr} : PySem.W.kitOne K (.ref C) (.ref C) = some true := by
  unfold PySem.W.kitOne
  rw [if_pos (beq_self_eq_true _)]
theorem e_isiO {K : PySem.W.Frag} {H : Hp} {Q : VK} {a C dx : Addr} {fs : List (Str × V)} (k : Q (.bl true) H) (h : H a = some (.ins C dx fs)) (c : Cls K C) (i : InsK K C) : rIsi K [.ref a, .ref C] H Q :=
  ⟨_, _, _, _, true, rfl, .own C, .base (.ins h c i.cls i.get i.tk i.mro), kitSelf, k⟩
def sp_Average_parts (K : PySem.W.Frag) : Sp := fun vs H Q _ => ∃ (p : Addr) (l : Lp), vs = [.ref p] ∧ IsLp K H p l ∧ ∀ t, H t = none → Q (.ref t) (upd H t (.tup l.V))
def rd_Average_parts (K : PySem.W.Frag) : TS := tRet (tTup (tCons (tFld K (tVar 0) "k") (tCons (tFld K (tVar 0) "a") (tCons (tFld K (tVar 0) "c") (tCons (tFld K (tVar 0) "d") (tCons (tFld K (tVar 0) "stop") (tCons (tFld K (tVar 0) "told") (tCons (tFld K (tVar 0) "mend") (tNil)))))))))
theorem pure_Average_parts (K : PySem.W.Frag) (A : AvK K) (vs : List V) (H : Hp) (Q : VK) (E : XK) (h : sp_Average_parts K vs H Q E) : rd_Average_parts K { nx := fun _ H' => Q .non H', rt := Q } (start ["self"] vs) H := by
  obtain ⟨p, l, rfl, hp, q⟩ := h
  unfold rd_Average_parts
  walk_at "rd"
  refine e_fL ?_ A hp A.n_k rfl
  walk_at "rd"
  refine e_fL ?_ A hp A.n_a rfl
  walk_at "rd"
  refine e_fL ?_ A hp A.n_c rfl
  walk_at "rd"
  refine e_fL ?_ A hp A.n_d rfl
  walk_at "rd"
  refine e_fL ?_ A hp A.n_stop rfl
  walk_at "rd"
  refine e_fL ?_ A hp A.n_told rfl
  walk_at "rd"
  refine e_fL ?_ A hp A.n_mend rfl
  walk_at "rd"
  exact ⟨by show 7 ≤ sizeLine; decide, fun t ht => q t ht⟩
def Lp.D (l : Lp) : PyData := .tuple [.int l.k, .int l.a, .int l.c, .int l.d, .str l.stop, .str l.told, .str l.mend]
theorem Lp.dp {K : PySem.W.Frag} {H : Hp} {t : Addr} {l : Lp} (h : SqT K H t l.V) : Dp K H (.ref t) l.D :=
  .tup h (.cons (.int _) (.cons (.int _) (.cons (.int _) (.cons (.int _) (.cons (.str _) (.cons (.str _) (.cons (.str _) .nil)))))))
theorem strs_ok {s : Str} {xs : List V} {P : Str → Prop} (h : V.str s ∈ xs) (hx : ∀ z, V.str z ∈ xs → P z) : P s := hx s h
theorem Lp.Ok.sh {l : Lp} (o : l.Ok) : SeqAt.shaped l.D = true := by
  obtain ⟨k, a, c, d, s, t, m⟩ := l
  have hs := o.hs; have ht := o.ht; have hm := o.hm
  simp only [stopsV, toldsV, mendsV, List.mem_cons, List.not_mem_nil, or_false, V.str.injEq] at hs ht hm
  rcases hs with rfl | rfl | rfl | rfl | rfl | rfl | rfl <;> rcases ht with rfl | rfl | rfl | rfl <;> rcases hm with rfl | rfl | rfl | rfl <;> kernel_rfl
theorem Lp.eqv {l m : Lp} : PyData.eqv l.D m.D = decide (l.V = m.V) := by
  unfold Lp.D
  simp only [PyData.eqv, PyData.eqvAll, Lp.V, List.cons.injEq, V.int.injEq, V.str.injEq, and_true]
  by_cases h1 : l.k = m.k <;> by_cases h2 : l.a = m.a <;> by_cases h3 : l.c = m.c <;> by_cases h4 : l.d = m.d <;> by_cases h5 : l.stop = m.stop <;> by_cases h6 : l.told = m.told <;> by_cases h7 : l.mend = m.mend <;> simp [h1, h2, h3, h4, h5, h6, h7]
def sp_Average_eq (K : PySem.W.Frag) : Sp := fun vs H Q _ => ∃ (p r : Addr) (l m : Lp), vs = [.ref p, .ref r] ∧ IsLp K H p l ∧ IsLp K H r m ∧ l.Ok ∧ m.Ok ∧ ∀ H', Ext H H' → Q (.bl (decide (l.V = m.V))) H'
def rd_Average_eq (K : PySem.W.Frag) : TS := tSeq (tIfS (tNot (tB (tCB (rIsi K) (tCons (tVar 1) (tCons (tC (.ref (He.ga K "Average"))) (tNil)))))) (tNever) (tNext)) (tRet (tOp (rEqD K) (tMeth (He.ga K "Average") "parts" (sp_Average_parts K) [] E0 (tVar 0) tNil) (tMeth (He.ga K "Average") "parts" (sp_Average_parts K) [] E0 (tVar 1) tNil)))
theorem pure_Average_eq (K : PySem.W.Frag) (A : AvK K) (B : InsK K (He.ga K "Average")) (vs : List V) (H : Hp) (Q : VK) (E : XK) (h : sp_Average_eq K vs H Q E) : rd_Average_eq K { nx := fun _ H' => Q .non H', rt := Q } (start ["self", "other"] vs) H := by
  obtain ⟨p, r, l, m, rfl, hp, hr, o, o', q⟩ := h
  obtain ⟨dr, hr'⟩ := id hr
  obtain ⟨dp, hp'⟩ := id hp
  unfold rd_Average_eq
  walk_at "rd"
  refine e_isiO ?_ hr' A.cls B
  walk_at "rd"
  refine ⟨p, dp, _, rfl, hp', rfl, ?_⟩
  walk_at "rd"
  refine ⟨p, l, rfl, hp, fun t1 h1 => ?_⟩
  have e1 : Ext H (upd H t1 (.tup l.V)) := Ext.new h1
  walk_at "rd"
  refine ⟨r, dr, _, rfl, e1 _ _ hr', rfl, ?_⟩
  walk_at "rd"
  refine ⟨r, m, rfl, hr.ext e1, fun t2 h2 => ?_⟩
  have e2 : Ext (upd H t1 (.tup l.V)) (upd (upd H t1 (.tup l.V)) t2 (.tup m.V)) := Ext.new h2
  refine e_eqD (d := l.D) (e := m.D) ?_ (Lp.dp (SqT.of (e2 _ _ upd_same))) (Lp.dp (SqT.of upd_same)) o.sh o'.sh
  rw [Lp.eqv]
  exact q _ (e1.tr e2)
def sp_Average_initX (K : PySem.W.Frag) : Sp := fun vs H Q E => ∃ (x dx : Addr) (k a c d s t m : V), vs = [.ref x, k, a, c, d, s, t, m] ∧ (∀ v ∈ [k, a, c, d, s, t, m], ∃ n, WT K H v n) ∧ (iv c).natAbs < 2 ^ 900 ∧ H x = some (.ins (He.ga K "Average") dx []) ∧
  (∀ l : Lp, l.Ok → [k, a, c, d, s, t, m] = l.V → ∀ H', ExtB x H H' → H' x = some (.ins (He.ga K "Average") dx l.F) → Q .non H') ∧
  (wrongP k a c d s t m ≠ .non → ∀ H' e, Ext H H' → H' e = none → E (clsL K) (some e) (upd H' e (.xd [("word", wrongP k a c d s t m)])))
def rd_Average_initX (K : PySem.W.Frag) (E : XK) : TS := tSeq (tAsg (tCall (sp_wrong_part K) [] E0 (tCons (tVar 1) (tCons (tVar 2) (tCons (tVar 3) (tCons (tVar 4) (tCons (tVar 5) (tCons (tVar 6) (tCons (tVar 7) (tNil))))))))) (gName 8)) (tSeq (tIfS (tTest (tOp FW.rNotN (tVar 8) (tC .non))) (FW.tRaiseE (He.ga K "BadLoop") "word" (fun cls d _ H => E cls d H) (tCons (tVar 8) (tNil))) (tNext)) (tSeq (sFld K (tVar 0) (tVar 1) "k") (tSeq (sFld K (tVar 0) (tVar 2) "a") (tSeq (sFld K (tVar 0) (tVar 3) "c") (tSeq (sFld K (tVar 0) (tVar 4) "d") (tSeq (sFld K (tVar 0) (tVar 5) "stop") (tSeq (sFld K (tVar 0) (tVar 6) "told") (sFld K (tVar 0) (tVar 7) "mend"))))))))
theorem pure_Average_initX (K : PySem.W.Frag) (A : AvK K) (vs : List V) (H : Hp) (Q : VK) (E : XK) (h : sp_Average_initX K vs H Q E) : rd_Average_initX K E { nx := fun _ H' => Q .non H', rt := Q } (start ["self", "k", "a", "c", "d", "stop", "told", "mend", "wrong"] vs) H := by
  obtain ⟨x, dx, k, a, c, d, s, t, m, rfl, hw, hc, hx, q, qE⟩ := h
  unfold rd_Average_initX
  walk_at "rd"
  refine ⟨_, _, _, _, _, _, _, rfl, hw, hc, fun H1 e1 => ?_⟩
  by_cases hn : wrongP k a c d s t m = .non
  · obtain ⟨l, o, el⟩ := wrong_ok hn
    obtain ⟨k', a', c', d', s', t', m'⟩ := l
    have el' : [k, a, c, d, s, t, m] = [V.int k', V.int a', V.int c', V.int d', V.str s', V.str t', V.str m'] := el
    injection el' with z1 el'; injection el' with z2 el'; injection el' with z3 el'; injection el' with z4 el'; injection el' with z5 el'; injection el' with z6 el'; injection el' with z7 el'
    subst z1 z2 z3 z4 z5 z6 z7
    rw [hn]
    walk_at "rd"
    refine e_iteN (fun h => absurd rfl h) (fun _ => ?_)
    walk_at "rd"
    refine e_sF ?_ (e1 _ _ hx) A.cls A.n_k (by decide)
    walk_at "rd"
    refine e_sF ?_ upd_same A.cls A.n_a (by show 1 < 1000; decide)
    walk_at "rd"
    refine e_sF ?_ upd_same A.cls A.n_c (by show 2 < 1000; decide)
    walk_at "rd"
    refine e_sF ?_ upd_same A.cls A.n_d (by show 3 < 1000; decide)
    walk_at "rd"
    refine e_sF ?_ upd_same A.cls A.n_stop (by show 4 < 1000; decide)
    walk_at "rd"
    refine e_sF ?_ upd_same A.cls A.n_told (by show 5 < 1000; decide)
    walk_at "rd"
    refine e_sF ?_ upd_same A.cls A.n_mend (by show 6 < 1000; decide)
    refine q _ o el _ ?_ upd_same
    intro a o' ne h
    rw [upd_ne ne, upd_ne ne, upd_ne ne, upd_ne ne, upd_ne ne, upd_ne ne, upd_ne ne]
    exact e1 _ _ h
  · walk_at "rd"
    refine e_iteN (fun _ => ?_) (fun h => absurd h hn)
    unfold tRaiseE tMkE
    walk_at "rd"
    exact ⟨_, rfl, fun e he => qE hn H1 e e1 he⟩
def sp_l_loopX (K : PySem.W.Frag) : Sp := fun vs H Q E => ∃ (p : Addr) (k a c d s t m : V), vs = [.ref p] ∧ SqT K H p [k, a, c, d, s, t, m] ∧ (∀ v ∈ [k, a, c, d, s, t, m], ∃ n, WT K H v n) ∧ (iv c).natAbs < 2 ^ 900 ∧
  (∀ l : Lp, l.Ok → [k, a, c, d, s, t, m] = l.V → ∀ x H', H x = none → Ext H H' → IsLp K H' x l → Q (.ref x) H') ∧
  (wrongP k a c d s t m ≠ .non → ∀ H' e, Ext H H' → H' e = none → E (clsL K) (some e) (upd H' e (.xd [("word", wrongP k a c d s t m)])))
def rd_l_loopX (K : PySem.W.Frag) (E : XK) : TS := tRet (tMake (He.ga K "Average") (sp_Average_initX K) [] E (tCons (tOp (rIxT K) (tVar 0) (tC (.int 0))) (tCons (tOp (rIxT K) (tVar 0) (tC (.int 1))) (tCons (tOp (rIxT K) (tVar 0) (tC (.int 2))) (tCons (tOp (rIxT K) (tVar 0) (tC (.int 3))) (tCons (tOp (rIxT K) (tVar 0) (tC (.int 4))) (tCons (tOp (rIxT K) (tVar 0) (tC (.int 5))) (tCons (tOp (rIxT K) (tVar 0) (tC (.int 6))) (tNil)))))))))
theorem make_av {K : PySem.W.Frag} {H : Hp} {Q : VK} {E : XK} {k a c d s t m : V} (hw : ∀ v ∈ [k, a, c, d, s, t, m], ∃ n, WT K H v n) (hc : (iv c).natAbs < 2 ^ 900)
    (q : ∀ l : Lp, l.Ok → [k, a, c, d, s, t, m] = l.V → ∀ x H', H x = none → Ext H H' → IsLp K H' x l → Q (.ref x) H')
    (qE : wrongP k a c d s t m ≠ .non → ∀ H' e, Ext H H' → H' e = none → E (clsL K) (some e) (upd H' e (.xd [("word", wrongP k a c d s t m)]))) (x dx : Addr) (hx : H x = none) (hdx : H dx = none) (hne : dx ≠ x) :
    sp_Average_initX K (.ref x :: ([k, a, c, d, s, t, m] ++ [])) (upd (upd H dx (.own x)) x (.ins (He.ga K "Average") dx [])) (fun v H2 => v = .non ∧ Q (.ref x) H2) E := by
  have e3 : Ext H (upd (upd H dx (.own x)) x (.ins (He.ga K "Average") dx [])) := (Ext.new hdx).tr (Ext.new (by rw [upd_ne hne.symm]; exact hx))
  refine ⟨x, dx, k, a, c, d, s, t, m, rfl, fun v hv => ?_, hc, upd_same, fun l o el H4 e4 h4 => ⟨rfl, q l o el x H4 hx (fun b ob z => e4 _ _ (ne_of_none z hx) (e3 _ _ z)) ⟨dx, h4⟩⟩, fun hn H' e e' he => qE hn H' e (e3.tr e') he⟩
  obtain ⟨n, z⟩ := hw v hv
  exact ⟨n, z.ext e3⟩
theorem pure_l_loopX (K : PySem.W.Frag) (A : AvK K) (vs : List V) (H : Hp) (Q : VK) (E : XK) (h : sp_l_loopX K vs H Q E) : rd_l_loopX K E { nx := fun _ H' => Q .non H', rt := Q } (start ["_law_parts_here"] vs) H := by
  obtain ⟨p, k, a, c, d, s, t, m, rfl, hp, hw, hc, q, qE⟩ := h
  unfold rd_l_loopX
  walk_at "rd"
  refine e_ixT ?_ hp rfl
  walk_at "rd"
  refine e_ixT ?_ hp rfl
  walk_at "rd"
  refine e_ixT ?_ hp rfl
  walk_at "rd"
  refine e_ixT ?_ hp rfl
  walk_at "rd"
  refine e_ixT ?_ hp rfl
  walk_at "rd"
  refine e_ixT ?_ hp rfl
  walk_at "rd"
  refine e_ixT ?_ hp rfl
  walk_at "rd"
  exact make_av hw hc q qE
theorem e_slA {K : PySem.W.Frag} {H : Hp} {Q : VK} {a : Addr} {xs : List V} {lo hi : Option Int} (q : ∀ p, H p = none → Q (.ref p) (upd H p (.tup (cutV xs lo hi)))) (h : SqT K H a xs) (hn : ¬ (HT.sIx xs.length 0 lo = 0 ∧ HT.sIx xs.length xs.length hi = xs.length)) : rSlA K (.ref a) lo hi H Q :=
  ⟨a, xs, rfl, h, fun z => absurd z hn, fun _ => q⟩
end FWL
namespace FWL
open PySem PySem.Spec PyProof.Rows L2 FW
/-! ### the check of a number -/
abbrev clsN (K : PySem.W.Frag) : Value := .ref (He.ga K "BadNumber")
def sp_check_numberX (K : PySem.W.Frag) : Sp := fun vs H Q E => ∃ (v : V) (n : String), vs = [v] ∧ WT K H v n ∧ (fromI v 0 = true → Q .non H) ∧ (fromI v 0 = false → ∀ d, H d = none → E (clsN K) (some d) (upd H d (.xd [("value", v)])))
def rd_check_numberX (K : PySem.W.Frag) (E : XK) : TS := tIfS (tNot (tB (tCall (sp_is_whole_from K) [] E0 (tCons (tVar 0) (tCons (tC (.int 0)) (tNil)))))) (FW.tRaiseE (He.ga K "BadNumber") "value" (fun cls d _ H => E cls d H) (tCons (tVar 0) (tNil))) (tNext)
theorem pure_check_numberX (K : PySem.W.Frag) (vs : List V) (H : Hp) (Q : VK) (E : XK) (h : sp_check_numberX K vs H Q E) : rd_check_numberX K E { nx := fun _ H' => Q .non H', rt := Q } (start ["n"] vs) H := by
  obtain ⟨v, n, rfl, hv, q1, q2⟩ := h
  unfold rd_check_numberX
  walk_at "rd"
  refine ⟨v, n, 0, rfl, hv, ?_⟩
  walk_at "rd"
  cases hb : fromI v 0 with
  | true =>
    walk_at "rd"
    exact q1 hb
  | false =>
    walk_at "rd"
    unfold tRaiseE tMkE
    walk_at "rd"
    exact ⟨v, rfl, q2 hb⟩
theorem fromI_of {v : V} {l : Int} (h : fromI v l = true) : ∃ i, v = .int i ∧ l ≤ i := by
  cases v <;> first | (simp [fromI, isInt] at h; done) | skip
  rename_i i
  exact ⟨i, rfl, of_decide_eq_true h⟩
theorem fromI_int {i l : Int} (h : l ≤ i) : fromI (.int i) l = true := by simp [fromI, isInt, iv, h]
theorem e_byE {C : Addr} {f : Str} {a : Addr} {cls : Value} {d : Option Addr} {te : TE} {σ : L2.St} {H : Hp} {Q : VK} (k : te σ H fun x H1 => x = .ref a ∧ cls = .ref C ∧ ∃ (dd : Addr) (v : V), d = some dd ∧ H1 dd = some (.xd [(f, v)]) ∧ Q v H1) : tByE C f a cls d te σ H Q := k
abbrev clsS (K : PySem.W.Frag) : Value := .ref (He.ga K "BadStart")
def sp_check_startX (K : PySem.W.Frag) : Sp := fun vs H Q E => ∃ (v : V) (n : String), vs = [v] ∧ WT K H v n ∧ (fromI v 1 = true → Q .non H) ∧ (fromI v 1 = false → ∀ d, H d = none → E (clsS K) (some d) (upd H d (.xd [("value", v)])))
def rd_check_startX (K : PySem.W.Frag) (E : XK) : TS := tIfS (tNot (tB (tCall (sp_is_whole_from K) [] E0 (tCons (tVar 0) (tCons (tC (.int 1)) (tNil)))))) (FW.tRaiseE (He.ga K "BadStart") "value" (fun cls d _ H => E cls d H) (tCons (tVar 0) (tNil))) (tNext)
theorem pure_check_startX (K : PySem.W.Frag) (vs : List V) (H : Hp) (Q : VK) (E : XK) (h : sp_check_startX K vs H Q E) : rd_check_startX K E { nx := fun _ H' => Q .non H', rt := Q } (start ["x"] vs) H := by
  obtain ⟨v, n, rfl, hv, q1, q2⟩ := h
  unfold rd_check_startX
  walk_at "rd"
  refine ⟨v, n, 1, rfl, hv, ?_⟩
  walk_at "rd"
  cases hb : fromI v 1 with
  | true =>
    walk_at "rd"
    exact q1 hb
  | false =>
    walk_at "rd"
    unfold tRaiseE tMkE
    walk_at "rd"
    exact ⟨v, rfl, q2 hb⟩
end FWL
namespace FWL
open PySem PySem.Spec PyProof.Rows L2 FW
/-! ### a number to try -/
theorem ExtB.ext {p : Addr} {H H' : Hp} (e : ExtB p H H') (h : H p = none) : Ext H H' := fun a o q => e a o (ne_of_none q h) q
theorem pow_lt_succ {r : Int} (hr : 1 ≤ r) : ∀ n : Nat, 1 ≤ n → r ^ n + 1 ≤ (r + 1) ^ n
  | 0, h => absurd h (by decide)
  | 1, _ => by rw [Int.pow_succ, Int.pow_succ, Int.pow_zero, Int.pow_zero]; omega
  | n + 2, _ => by
    have ih := pow_lt_succ hr (n + 1) (by omega)
    have hp : 1 ≤ r ^ (n + 1) := pow_pos' hr (n + 1)
    have e1 : (r + 1) ^ (n + 2) = (r + 1) ^ (n + 1) * (r + 1) := Int.pow_succ ..
    have e2 : r ^ (n + 2) = r ^ (n + 1) * r := Int.pow_succ ..
    rw [e1, e2]
    have h1 : (r ^ (n + 1) + 1) * (r + 1) ≤ (r + 1) ^ (n + 1) * (r + 1) := Int.mul_le_mul_of_nonneg_right ih (by omega)
    have h2 : (r ^ (n + 1) + 1) * (r + 1) = r ^ (n + 1) * r + r ^ (n + 1) + r + 1 := by grind
    omega
def sp_l_number (K : PySem.W.Frag) : Sp := fun vs H Q _ => ∃ (p : Addr) (k : Int) (n : Nat), vs = [.ref p, .int k] ∧ Strm H p n ∧ n + 10 < 1000000 ∧ 2 ≤ k ∧ k ≤ 4 ∧
  ∀ m H', 1 ≤ m → Sz 440 m → ExtB p H H' → Strm H' p (n + 10) → Q (.int m) H'
def rd_l_number_tl (K : PySem.W.Frag) : TS := tSeq (tAsg (tOp FW.rSub (tCall (sp_l_power K) [] E0 (tCons (tOp FW.rAdd (tVar 3) (tC (.int 1))) (tCons (tVar 1) (tNil)))) (tCall (sp_l_power K) [] E0 (tCons (tVar 3) (tCons (tVar 1) (tNil))))) (gName 4)) (tSeq (tAsg (tOp FW.rSub (tCall (sp_l_draw K) [] E0 (tCons (tVar 0) (tCons (tC (.int 9)) (tNil)))) (tC (.int 2))) (gName 5)) (tSeq (tAsg (tOp FW.rMul (tOp FW.rSub (tOp FW.rAdd (tVar 3) (tCB FW.rInt1 (tCons (tCall (sp_l_draw K) [] E0 (tCons (tVar 0) (tCons (tOp FW.rAdd (tVar 1) (tC (.int 2))) (tNil)))) (tNil)))) (tOp FW.rMul (tOp FW.rSub (tVar 1) (tC (.int 1))) (tVar 5))) (tCall (sp_l_power K) [] E0 (tCons (tOp FW.rAdd (tVar 3) (tVar 5)) (tCons (tOp FW.rSub (tVar 1) (tC (.int 1))) (tNil))))) (gName 6)) (tSeq (tAsg (tOp FW.rSub (tOp FW.rAdd (tOp FW.rSub (tVar 6) (tCall (sp_l_power K) [] E0 (tCons (tVar 3) (tCons (tVar 1) (tNil))))) (tCall (sp_l_draw K) [] E0 (tCons (tVar 0) (tCons (tC (.int 3)) (tNil))))) (tC (.int 1))) (gName 6)) (tSeq (tAsg (tCall (sp_l_pick K) [] E0 (tCons (tVar 0) (tCons (tLst (tCons (tC (.int 0)) (tCons (tC (.int 1)) (tCons (tOp FW.rSub (tVar 4) (tC (.int 1))) (tCons (tOp FW.rSub (tVar 4) (tC (.int 2))) (tCons (tCall (sp_l_draw K) [] E0 (tCons (tVar 0) (tCons (tVar 4) (tNil)))) (tCons (tVar 6) (tCons (tVar 6) (tNil))))))))) (tNil)))) (gName 7)) (tRet (tOp FW.rAdd (tCall (sp_l_power K) [] E0 (tCons (tVar 3) (tCons (tVar 1) (tNil)))) (tCB FW.rMax2 (tCons (tC (.int 0)) (tCons (tCB FW.rMin2 (tCons (tVar 7) (tCons (tOp FW.rSub (tVar 4) (tC (.int 1))) (tNil)))) (tNil)))))))))) 
def rd_l_number (K : PySem.W.Frag) : TS := tSeq (tAsg (tCall (sp_l_draw K) [] E0 (tCons (tVar 0) (tCons (tC (.int 5)) (tNil)))) (gName 2)) (tSeq (tIfS (tTest (tOp rEq (tVar 2) (tC (.int 0)))) (tRet (tOp FW.rAdd (tC (.int 1)) (tCall (sp_l_draw K) [] E0 (tCons (tVar 0) (tCons (tC (.int 120)) (tNil)))))) (tNext)) (tSeq (tAsg (tOp FW.rAdd (tC (.int 1)) (tCall (sp_l_draw K) [] E0 (tCons (tVar 0) (tCons (tC (.int 60)) (tNil))))) (gName 3)) (tSeq (tIfS (tTest (tOp FW.rGt (tVar 2) (tC (.int 2)))) (tAsg (tOp FW.rAdd (tVar 3) (tOp FW.rMul (tCB FW.rInt1 (tCons (tCall (sp_l_draw K) [] E0 (tCons (tVar 0) (tCons (tOp FW.rPow (tC (.int 10)) (tC (.int 12))) (tNil)))) (tNil))) (tCall (sp_l_pick K) [] E0 (tCons (tVar 0) (tCons (tLst (tCons (tC (.int 1)) (tCons (tOp FW.rPow (tC (.int 10)) (tC (.int 9))) (tCons (tOp FW.rPow (tC (.int 10)) (tC (.int 20))) (tNil))))) (tNil)))))) (gName 3)) (tNext)) (rd_l_number_tl K))))
theorem number_tl {K : PySem.W.Frag} {H : Hp} {D : Ends} {p : Addr} {k r : Int} {n : Nat} {u2 u4 u5 u6 u7 : Option V} (hS : Strm H p n) (hn : n + 5 < 1000000) (hk1 : 2 ≤ k) (hk4 : k ≤ 4) (hr : 1 ≤ r) (hrs : Sz 108 r)
    (q : ∀ m H', 1 ≤ m → Sz 440 m → ExtB p H H' → Strm H' p (n + 5) → D.rt (.int m) H') : rd_l_number_tl K D [some (.ref p), some (.int k), u2, some (.int r), u4, u5, u6, u7] H := by
  have hr1 : Sz 109 (r + 1) := hrs.add (by show (1 : Int).natAbs < 2 ^ 108; decide)
  have hrk : Sz 437 (r ^ k.toNat) := (hrs.mono (by decide : 108 ≤ 109)).powk (by decide) hk4
  have hrk1 : Sz 437 ((r + 1) ^ k.toNat) := hr1.powk (by decide) hk4
  have hp0 := pow_lt_succ hr k.toNat (by omega)
  have hp1 : 1 ≤ r ^ k.toNat := pow_pos' hr _
  unfold rd_l_number_tl
  walk_at "rd"
  refine ⟨r + 1, k, 109, rfl, by omega, hr1, by decide, pow_room hk4 (by decide), ?_⟩
  walk_at "rd"
  refine ⟨r, k, 108, rfl, by omega, hrs, by decide, pow_room hk4 (by decide), ?_⟩
  walk_at "rd"
  refine ⟨p, 9, n, rfl, hS, by omega, by decide, by decide, fun d1 H1 d10 d11 e1 s1 => ?_⟩
  walk_at "rd"
  refine ⟨p, k + 2, n + 1, rfl, s1, by omega, by omega, log2_small (by omega), fun d2 H2 d20 d21 e2 s2 => ?_⟩
  have his : Sz 108 (d1 - 2) := by
    show (d1 - 2).natAbs < 2 ^ 108
    have : 2 ^ 4 ≤ 2 ^ 108 := Nat.pow_le_pow_right (by decide) (by decide)
    omega
  have hris : Sz 109 (r + (d1 - 2)) := hrs.add his
  have k1s : Sz 10 (k - 1) := by show (k - 1).natAbs < 1024; omega
  have i1s : Sz 10 (d1 - 2) := by show (d1 - 2).natAbs < 1024; omega
  have d2s : Sz 108 d2 := Sz.mono (by show d2.natAbs < 2 ^ 10; omega) (by decide : 10 ≤ 108)
  walk_at "rd"
  · refine ⟨r + (d1 - 2), k - 1, 109, rfl, by omega, hris, by decide, pow_room (by omega) (by decide), ?_⟩
    have hrik : Sz 437 ((r + (d1 - 2)) ^ (k - 1).toNat) := hris.powk (by decide) (by omega)
    have h1 : Sz 110 (r + d2 - (k - 1) * (d1 - 2)) := ((hrs.add d2s).sub ((k1s.mul i1s).mono (by decide)))
    walk_at "rd"
    · refine ⟨r, k, 108, rfl, by omega, hrs, by decide, pow_room hk4 (by decide), ?_⟩
      walk_at "rd"
      refine ⟨p, 3, n + 2, rfl, s2, by omega, by omega, by decide, fun d3 H3 d30 d31 e3 s3 => ?_⟩
      walk_at "rd"
      generalize (r + d2 - (k - 1) * (d1 - 2)) * (r + (d1 - 2)) ^ (k - 1).toNat - r ^ k.toNat + d3 - 1 = turn
      refine ⟨p, (r + 1) ^ k.toNat - r ^ k.toNat, n + 3, rfl, s3, by omega, by omega, (hrk1.sub hrk).log2 (by decide) (by decide), fun d4 H4 d40 d41 e4 s4 => ?_⟩
      walk_at "rd"
      refine ⟨by show 7 ≤ sizeLine; decide, fun q5 hq5 => ?_⟩
      walk_at "rd"
      refine ⟨p, q5, _, n + 4, rfl, s4.ext (Ext.new hq5), by omega, s4.ne hq5, upd_same, by simp, by show 7 < 1000; decide, fun v H6 hv e6 s6 => ?_⟩
      obtain ⟨y, rfl⟩ : ∃ y : Int, v = .int y := by
        simp only [List.mem_cons, List.not_mem_nil, or_false] at hv
        rcases hv with rfl | rfl | rfl | rfl | rfl | rfl | rfl <;> exact ⟨_, rfl⟩
      walk_at "rd"
      refine ⟨r, k, 108, rfl, by omega, hrs, by decide, pow_room hk4 (by decide), ?_⟩
      walk_at "rd"
      refine q _ H6 ?_ ?_ (e1.tr (e2.tr (e3.tr (e4.tr ((ExtB.of (Ext.new hq5)).tr e6))))) s6
      · split <;> split <;> omega
      · refine Sz.of_le ?_ ?_ (hrk1.mono (by decide))
        · split <;> split <;> omega
        · split <;> split <;> omega
    · exact wide_mul h1 hrik (by decide) (by decide) (by decide)
  · exact wide_mul k1s i1s (by decide) (by decide) (by decide)
theorem pure_l_number (K : PySem.W.Frag) (vs : List V) (H : Hp) (Q : VK) (E : XK) (h : sp_l_number K vs H Q E) : rd_l_number K { nx := fun _ H' => Q .non H', rt := Q } (start ["_law_stream_here", "_law_k", "_law_way", "_law_floor", "_law_end", "_law_i", "_law_turn", "_law_some"] vs) H := by
  obtain ⟨p, k, n, rfl, hS, hn, hk1, hk4, q⟩ := h
  unfold rd_l_number
  walk_at "rd"
  refine ⟨p, 5, n, rfl, hS, by omega, by decide, by decide, fun d1 H1 d10 d11 e1 s1 => ?_⟩
  walk_at "rd"
  have hd : decide (V.int d1 = V.int 0) = decide (d1 = 0) := decide_eq_decide.mpr ⟨fun z => by injection z, fun z => by rw [z]⟩
  rw [hd]
  refine e_ite (fun h0 => ?_) (fun h0 => ?_)
  · walk_at "rd"
    refine ⟨p, 120, n + 1, rfl, s1, by omega, by decide, by decide, fun d2 H2 d20 d21 e2 s2 => ?_⟩
    walk_at "rd"
    refine q _ _ (by omega) ?_ (e1.tr e2) (s2.mono (by omega))
    exact Sz.mono (by show (1 + d2).natAbs < 2 ^ 10; omega) (by decide : 10 ≤ 440)
  · walk_at "rd"
    refine ⟨p, 60, n + 1, rfl, s1, by omega, by decide, by decide, fun d2 H2 d20 d21 e2 s2 => ?_⟩
    walk_at "rd"
    refine e_ite (fun h2 => ?_) (fun h2 => ?_)
    · walk_at "rd"
      · refine ⟨p, _, n + 2, rfl, s2, by omega, by decide, by decide, fun d3 H3 d30 d31 e3 s3 => ?_⟩
        have d31' : d3 < 10 ^ 12 := d31
        walk_at "rd"
        · refine ⟨by show 3 ≤ sizeLine; decide, fun q4 hq4 => ?_⟩
          walk_at "rd"
          refine ⟨p, q4, _, n + 3, rfl, s3.ext (Ext.new hq4), by omega, s3.ne hq4, upd_same, by simp, by show 3 < 1000; decide, fun v H5 hv e5 s5 => ?_⟩
          obtain ⟨y, rfl, y0, y1⟩ : ∃ y : Int, v = .int y ∧ 1 ≤ y ∧ y ≤ 10 ^ 20 := by
            simp only [List.mem_cons, List.not_mem_nil, or_false] at hv
            rcases hv with rfl | rfl | rfl <;> exact ⟨_, rfl, by decide, by decide⟩
          have hm0 : 0 ≤ d3 * y := Int.mul_nonneg d30 (by omega)
          have hm1 : d3 * y ≤ 10 ^ 12 * 10 ^ 20 := Int.mul_le_mul (by omega) y1 (by omega) (by decide)
          walk_at "rd"
          · refine number_tl (n := n + 4) s5 (by omega) hk1 hk4 (by omega) ?_ (fun m H' m1 ms e' s' => q m H' m1 ms (e1.tr (e2.tr (e3.tr ((ExtB.of (Ext.new hq4)).tr (e5.tr e'))))) (s'.mono (by omega)))
            show (1 + d2 + d3 * y).natAbs < 2 ^ 108
            have : (10 : Int) ^ 12 * 10 ^ 20 + 100 < 2 ^ 108 := by decide
            omega
          · refine wide_mul (a := 108) (b := 108) ?_ ?_ (by decide) (by decide) (by decide)
            · show d3.natAbs < 2 ^ 108
              have : (10 : Int) ^ 12 < 2 ^ 108 := by decide
              omega
            · show y.natAbs < 2 ^ 108
              have : (10 : Int) ^ 20 < 2 ^ 108 := by decide
              omega
        · exact ⟨by decide, by decide, by decide⟩
        · exact ⟨by decide, by decide, by decide⟩
      · exact ⟨by decide, by decide, by decide⟩
    · walk_at "rd"
      refine number_tl (n := n + 2) s2 (by omega) hk1 hk4 (by omega) ?_ (fun m H' m1 ms e' s' => q m H' m1 ms (e1.tr (e2.tr e')) (s'.mono (by omega)))
      exact Sz.mono (by show (1 + d2).natAbs < 2 ^ 10; omega) (by decide : 10 ≤ 108)
end FWL
namespace FWL
open PySem PySem.Spec PyProof.Rows L2 FW
/-! ### the law -/
mutual
theorem Dp.ext {K : PySem.W.Frag} {H H' : Hp} (e : Ext H H') : ∀ (d : PyData) (v : V), Dp K H v d → Dp K H' v d
  | .none, _, h => by cases h; exact .non
  | .bool b, _, h => by cases h; exact .bl b
  | .int i, _, h => by cases h; exact .int i
  | .str x, _, h => by cases h; exact .str x
  | .list ds, _, h => by
    cases h with
    | lst hs ha => exact .lst (e.sqL hs) (DpAll.ext e ds _ ha)
  | .tuple ds, _, h => by
    cases h with
    | tup hs ha => exact .tup (e.sqT hs) (DpAll.ext e ds _ ha)
  | .dict _, _, h => by cases h
theorem DpAll.ext {K : PySem.W.Frag} {H H' : Hp} (e : Ext H H') : ∀ (ds : List PyData) (vs : List V), DpAll K H vs ds → DpAll K H' vs ds
  | [], _, h => by cases h; exact .nil
  | d :: ds, _, h => by
    cases h with
    | cons h1 h2 => exact .cons (Dp.ext e d _ h1) (DpAll.ext e ds _ h2)
end
/-- a thing that may be told of, and compared -/
def Odd (K : PySem.W.Frag) (H : Hp) (v : V) : Prop := ∃ n d, WT K H v n ∧ Dp K H v d ∧ SeqAt.shaped (.tuple [.str "number", d]) = true ∧ SeqAt.shaped (.tuple [.str "start", d]) = true
theorem Odd.ext {K : PySem.W.Frag} {H H' : Hp} {v : V} (e : Ext H H') (h : Odd K H v) : Odd K H' v := by
  obtain ⟨n, d, h1, h2, h3⟩ := h
  exact ⟨n, d, h1.ext e, Dp.ext e d v h2, h3⟩
theorem Odd.i {K : PySem.W.Frag} {H : Hp} (i : Int) : Odd K H (.int i) := ⟨_, .int i, WT.i i, .int i, by kernel_rfl, by kernel_rfl⟩
theorem Odd.b {K : PySem.W.Frag} {H : Hp} (i : Bool) : Odd K H (.bl i) := ⟨_, .bool i, WT.bl i, .bl i, by kernel_rfl, by kernel_rfl⟩
theorem Odd.n {K : PySem.W.Frag} {H : Hp} : Odd K H .non := ⟨_, .none, WT.non, .non, by kernel_rfl, by kernel_rfl⟩
theorem Odd.s9 {K : PySem.W.Frag} {H : Hp} : Odd K H (.str "9") := ⟨_, .str "9", WT.s _, .str _, by kernel_rfl, by kernel_rfl⟩
theorem Odd.s1 {K : PySem.W.Frag} {H : Hp} : Odd K H (.str "1") := ⟨_, .str "1", WT.s _, .str _, by kernel_rfl, by kernel_rfl⟩
theorem Odd.l {K : PySem.W.Frag} {H : Hp} {a : Addr} {i : Int} (h : H a = some (.lst [.int i])) : Odd K H (.ref a) := ⟨_, .list [.int i], WT.lst h, .lst (SqL.of h) (.cons (.int i) .nil), by kernel_rfl, by kernel_rfl⟩
theorem Odd.t {K : PySem.W.Frag} {H : Hp} {a : Addr} {i : Int} (h : H a = some (.tup [.int i])) : Odd K H (.ref a) := ⟨_, .tuple [.int i], WT.tup h, .tup (SqT.of h) (.cons (.int i) .nil), by kernel_rfl, by kernel_rfl⟩
theorem Strm.neI {H : Hp} {p x : Addr} {n : Nat} {K : PySem.W.Frag} {l : Lp} (h : Strm H p n) (hx : IsLp K H x l) : x ≠ p := by
  obtain ⟨dx, hx⟩ := hx
  obtain ⟨a, b, c, h1, _⟩ := h
  exact ne_of hx h1 (by intro z; cases z)
theorem IsLp.extB {H H' : Hp} {p x : Addr} {n : Nat} {K : PySem.W.Frag} {l : Lp} (hx : IsLp K H x l) (h : Strm H p n) (e : ExtB p H H') : IsLp K H' x l := by
  have := h.neI hx
  obtain ⟨dx, hx⟩ := hx
  exact ⟨dx, e _ _ this hx⟩
/-! monotone steps from behind the root on -/
theorem quot_step {m : Nat} {n x : Int} (hm : m = 1 ∨ m = 2 ∨ m = 3) (hn : 0 ≤ n) (hx : 1 ≤ x) (h : n < x ^ (m + 1)) : n / x ^ m ≤ n / (x + 1) ^ m + m := by
  have hp : 1 ≤ x ^ m := pow_pos' hx m
  have hp1 : 1 ≤ (x + 1) ^ m := pow_pos' (by omega) m
  have q1 : n / x ^ m * x ^ m ≤ n := Int.ediv_mul_le _ (by omega)
  have q2 : n / x ^ m < x := by
    rw [Int.ediv_lt_iff_lt_mul (by omega)]
    rw [Int.pow_succ, Int.mul_comm] at h
    exact h
  have q0 : 0 ≤ n / x ^ m := Int.ediv_nonneg hn (by omega)
  have r0 : 0 ≤ n / (x + 1) ^ m := Int.ediv_nonneg hn (by omega)
  generalize n / x ^ m = q at *
  rcases Int.lt_or_le (m : Int) q with hq | hq
  · have : q - m ≤ n / (x + 1) ^ m := by
      rw [Int.le_ediv_iff_mul_le (by omega)]
      refine Int.le_trans ?_ q1
      have hxq : x * (q - x) ≤ 0 := Int.mul_nonpos_of_nonneg_of_nonpos (by omega) (by omega)
      have hxx : x * x * (q - x) ≤ 0 := Int.mul_nonpos_of_nonneg_of_nonpos (Int.mul_nonneg (by omega) (by omega)) (by omega)
      have hx2 : 0 ≤ x * x := Int.mul_nonneg (by omega) (by omega)
      rcases hm with rfl | rfl | rfl
      · have e : (q - ((1 : Nat) : Int)) * (x + 1) ^ 1 = q * x ^ 1 + (q - x - 1) := by grind
        rw [e]; omega
      · have e : (q - ((2 : Nat) : Int)) * (x + 1) ^ 2 = q * x ^ 2 + 2 * (x * (q - x)) + (q - 4 * x - 2) := by grind
        rw [e]; omega
      · have e : (q - ((3 : Nat) : Int)) * (x + 1) ^ 3 = q * x ^ 3 + 3 * (x * x * (q - x)) + 3 * (x * (q - x)) - 6 * (x * x) + (q - 9 * x - 3) := by grind
        rw [e]; omega
    omega
  · omega
theorem led_nonneg {l : Lp} (o : l.Ok) {n x : Int} (hn : 0 ≤ n) (hx : 1 ≤ x) : 0 ≤ l.led n x := by
  have a1 := o.a1; have c1 := o.c1; have d0 := o.d0
  have hp : 1 ≤ x ^ (l.k - 1).toNat := pow_pos' hx _
  have q0 : 0 ≤ n / x ^ (l.k - 1).toNat := Int.ediv_nonneg hn (by omega)
  have h1 : l.a * 1 ≤ l.a * x := Int.mul_le_mul_of_nonneg_left hx (by omega)
  have h2 : 0 ≤ l.c * (n / x ^ (l.k - 1).toNat) := Int.mul_nonneg (by omega) q0
  unfold Lp.led
  exact Int.ediv_nonneg (by omega) (by omega)
theorem led_step {l : Lp} (o : l.Ok) {n x : Int} (hn : 0 ≤ n) (hx : 1 ≤ x) (h : n < x ^ l.k.toNat) : l.led n x ≤ l.led n (x + 1) := by
  have a1 := o.a1; have c1 := o.c1; have ca := o.ca; have hk := o.hk
  obtain ⟨m, hm, hm3⟩ : ∃ m : Nat, (l.k - 1).toNat = m ∧ (m = 1 ∨ m = 2 ∨ m = 3) := ⟨_, rfl, by omega⟩
  have hkm : l.k.toNat = m + 1 := by omega
  rw [hkm] at h
  have qs := quot_step hm3 hn hx h
  unfold Lp.led
  rw [hm]
  refine Int.ediv_le_ediv (by omega) ?_
  have h1 : l.c * (n / x ^ m) ≤ l.c * (n / (x + 1) ^ m + m) := Int.mul_le_mul_of_nonneg_left qs (by omega)
  have hmk : (m : Int) = l.k - 1 := by omega
  rw [hmk, Int.mul_add] at h1
  have h2 : l.a * (x + 1) = l.a * x + l.a := by rw [Int.mul_add, Int.mul_one]
  omega
theorem led_mono {l : Lp} (o : l.Ok) {n x : Int} (hn : 0 ≤ n) (hx : 1 ≤ x) (h : n < x ^ l.k.toNat) : ∀ j : Nat, l.led n x ≤ l.led n (x + j)
  | 0 => by simp
  | j + 1 => by
    refine Int.le_trans (led_mono o hn hx h j) ?_
    have e : x + ((j + 1 : Nat) : Int) = x + j + 1 := by omega
    rw [e]
    refine led_step o hn (by omega) (Int.lt_of_lt_of_le h (pow_mono (by omega) (by omega) _))
end FWL
namespace FWL
open PySem PySem.Spec PyProof.Rows L2 FW
theorem for_enumL {K : PySem.W.Frag} {a : Addr} {xs : List V} {g : TG} {tb : TS} {D : Ends} {σ : L2.St} {H : Hp} (Pv : Nat → L2.St → Hp → Prop) (h0 : Pv 0 σ H) (hl : ∀ i σ H, i ≤ xs.length → Pv i σ H → SqL K H a xs)
    (hs : ∀ i x σ H T, xs[i]? = some x → Pv i σ H → H T = none → g (.ref T) σ (upd H T (.tup [.int (i : Nat), x])) fun σ2 H2 => tb { D with nx := Pv (i + 1), ct := Pv (i + 1), bk := D.nx } σ2 H2) (hd : ∀ σ H, Pv xs.length σ H → D.nx σ H) :
    ForK g tb D σ (Ite K a) H := by
  refine ⟨fun i m σ H => m = xs.length - i ∧ i ≤ xs.length ∧ Pv i σ H, ⟨xs.length, by simp, Nat.zero_le _, h0⟩, ?_⟩
  rintro i m σ H ⟨rfl, hi, p⟩
  have q := hl i σ H hi p
  by_cases hlt : i < xs.length
  · refine .inr ⟨⟨xs, xs[i], q, by simp [hlt]⟩, Pv (i + 1), fun σ' H' p' => ⟨xs.length - (i + 1), by omega, rfl, hlt, p'⟩, ?_⟩
    rintro x H' ⟨T, y, rfl, hT, rfl, hy⟩
    exact hs i y σ H T (hy xs q) p hT
  · have : i = xs.length := by omega
    subst this
    exact .inl ⟨⟨xs, q, Nat.le_refl _⟩, hd σ H p⟩
def fieldsS : List Str := ["a", "c", "d", "stop", "told", "mend"]
def fieldsV : List V := fieldsS.map V.str
def sp_check_fieldX (K : PySem.W.Frag) : Sp := fun vs H Q E => ∃ (v : V) (n : String), vs = [v] ∧ WT K H v n ∧ (wordOf v fieldsV = true → Q .non H) ∧ (wordOf v fieldsV = false → ∀ d, H d = none → E (clsF K) (some d) (upd H d (.xd [("field", v)])))
def rd_check_fieldX (K : PySem.W.Frag) (E : XK) : TS := tIfS (tOr (tNot (tB (tCB (rIsi K) (tCons (tVar 0) (tCons (tC (.ty "str")) (tNil)))))) (tTest (tOp (rIn K true) (tVar 0) (tC (.ref (He.ga K "FIELDS")))))) (FW.tRaiseE (He.ga K "BadField") "field" (fun cls d _ H => E cls d H) (tCons (tVar 0) (tNil))) (tNext)
theorem pure_check_fieldX (K : PySem.W.Frag) (F : ∀ H, SqT K H (He.ga K "FIELDS") fieldsV) (vs : List V) (H : Hp) (Q : VK) (E : XK) (h : sp_check_fieldX K vs H Q E) : rd_check_fieldX K E { nx := fun _ H' => Q .non H', rt := Q } (start ["field"] vs) H := by
  obtain ⟨v, n, rfl, hv, q1, q2⟩ := h
  have bad : wordOf v fieldsV = false → (FW.tRaiseE (He.ga K "BadField") "field" (fun cls d _ H => E cls d H) (tCons (tVar 0) (tNil))) { nx := fun _ H' => Q .non H', rt := Q } (start ["field"] [v]) H := fun hb => by
    unfold tRaiseE tMkE
    walk_at "rd"
    exact ⟨v, rfl, q2 hb⟩
  unfold rd_check_fieldX
  walk_at "rd"
  refine e_isi ?_ hv (kitS hv.2)
  walk_at "rd"
  have es := hv.isStr
  by_cases hs : n = "str"
  · rw [decide_eq_true hs] at es ⊢
    walk_at "rd"
    have hf : flatV v = true := by cases v <;> first | rfl | (cases es; done)
    refine e_in ?_ (.inr (F H)) hf rfl
    rw [if_pos rfl]
    walk_at "rd"
    have ew : wordOf v fieldsV = inV v fieldsV := by unfold wordOf; rw [es, Bool.true_and]
    cases hb : inV v fieldsV with
    | true =>
      walk_at "rd"
      exact q1 (ew.trans hb)
    | false =>
      show if true = true then _ else _
      walk_at "rd"
      exact bad (ew.trans hb)
  · rw [decide_eq_false hs] at es ⊢
    walk_at "rd"
    exact bad (by unfold wordOf; rw [es, Bool.false_and])
theorem fields_of {v : V} (h : wordOf v fieldsV = true) : ∃ (j : Nat) (w : Str), v = .str w ∧ fieldsS[j]? = some w := by
  unfold wordOf at h
  rw [Bool.and_eq_true] at h
  obtain ⟨h1, h2⟩ := h
  cases v with
  | str w =>
    have hs : ∀ v ∈ fieldsV, ∃ x, v = V.str x := fun v hv => by
      obtain ⟨x, _, e⟩ := List.mem_map.mp hv
      exact ⟨x, e.symm⟩
    rw [inV_str _ hs] at h2
    obtain ⟨x, hx, e⟩ := List.mem_map.mp (of_decide_eq_true h2)
    cases e
    obtain ⟨j, hj, e⟩ := List.mem_iff_getElem.mp hx
    exact ⟨j, w, rfl, by rw [List.getElem?_eq_getElem hj, e]⟩
  | _ => cases h1
theorem fields_first {j : Nat} {w : Str} (h : fieldsS[j]? = some w) : ∀ m, m < j → fieldsS[m]? ≠ some w := by
  intro m hm e
  have hj : j < 6 := by
    have := (List.getElem?_eq_some_iff.mp h).1
    exact this
  match j, hj, h with
  | 0, _, _ => omega
  | 1, _, h => match m, hm with | 0, _ => (rw [← h] at e; revert e; decide)
  | 2, _, h => match m, hm with | 0, _ => (rw [← h] at e; revert e; decide) | 1, _ => (rw [← h] at e; revert e; decide)
  | 3, _, h => match m, hm with | 0, _ => (rw [← h] at e; revert e; decide) | 1, _ => (rw [← h] at e; revert e; decide) | 2, _ => (rw [← h] at e; revert e; decide)
  | 4, _, h => match m, hm with | 0, _ => (rw [← h] at e; revert e; decide) | 1, _ => (rw [← h] at e; revert e; decide) | 2, _ => (rw [← h] at e; revert e; decide) | 3, _ => (rw [← h] at e; revert e; decide)
  | 5, _, h => match m, hm with | 0, _ => (rw [← h] at e; revert e; decide) | 1, _ => (rw [← h] at e; revert e; decide) | 2, _ => (rw [← h] at e; revert e; decide) | 3, _ => (rw [← h] at e; revert e; decide) | 4, _ => (rw [← h] at e; revert e; decide)
  | n + 6, hj, _ => omega
/-- a loop's parts with one exchanged -/
def setP (l : Lp) (j : Nat) (v : V) : List V := l.V.set (j + 1) v
def wrongL : List V → V
  | [k, a, c, d, s, t, m] => wrongP k a c d s t m
  | _ => .non
def sp_changedX (K : PySem.W.Frag) : Sp := fun vs H Q E => ∃ (p : Addr) (l : Lp) (vf vv : V) (nf nv : String), vs = [.ref p, vf, vv] ∧ IsLp K H p l ∧ l.Ok ∧ WT K H vf nf ∧ WT K H vv nv ∧ (iv vv).natAbs < 2 ^ 900 ∧
  (wordOf vf fieldsV = false → ∀ d, H d = none → E (clsF K) (some d) (upd H d (.xd [("field", vf)]))) ∧
  (∀ (j : Nat) (w : Str), vf = .str w → fieldsS[j]? = some w → (∀ m : Lp, m.Ok → setP l j vv = m.V → ∀ x H', H x = none → Ext H H' → IsLp K H' x m → Q (.ref x) H') ∧
    (wrongL (setP l j vv) ≠ .non → ∀ H' e, Ext H H' → H' e = none → E (clsL K) (some e) (upd H' e (.xd [("word", wrongL (setP l j vv))]))))
def rd_changedX (K : PySem.W.Frag) (E : XK) : TS := tSeq (tDrop (tCall (sp_check_fieldX K) [] E (tCons (tVar 1) (tNil)))) (tSeq (tAsg (tCB (Evl.rListS K) (tCons (tMeth (He.ga K "Average") "parts" (sp_Average_parts K) [] E0 (tVar 0) tNil) (tNil))) (gName 3)) (tSeq (tAsg (tVar 2) (gSub (tVar 3) (tOp FW.rAdd (tC (.int 1)) (tBM K "tuple" (FW.rTIdx K) (tC (.ref (He.ga K "FIELDS"))) (tCons (tVar 1) (tNil)))) rSetL)) (tRet (tMake (He.ga K "Average") (sp_Average_initX K) [] E (tCons (tOp (rIxL K) (tVar 3) (tC (.int 0))) (tCons (tOp (rIxL K) (tVar 3) (tC (.int 1))) (tCons (tOp (rIxL K) (tVar 3) (tC (.int 2))) (tCons (tOp (rIxL K) (tVar 3) (tC (.int 3))) (tCons (tOp (rIxL K) (tVar 3) (tC (.int 4))) (tCons (tOp (rIxL K) (tVar 3) (tC (.int 5))) (tCons (tOp (rIxL K) (tVar 3) (tC (.int 6))) (tNil))))))))))))
theorem set_seven {l : Lp} {j : Nat} (hj : j < 6) (v : V) : ∃ k a c d s t m, setP l j v = [k, a, c, d, s, t, m] ∧ (∀ z ∈ [k, a, c, d, s, t, m], z = v ∨ z ∈ l.V) ∧ (c = v ∨ c = .int l.c) := by
  match j, hj with
  | 0, _ => exact ⟨_, _, _, _, _, _, _, rfl, by intro z hz; simp only [List.mem_cons, List.not_mem_nil, or_false] at hz ⊢; rcases hz with h | h | h | h | h | h | h <;> simp [h], .inr rfl⟩
  | 1, _ => exact ⟨_, _, _, _, _, _, _, rfl, by intro z hz; simp only [List.mem_cons, List.not_mem_nil, or_false] at hz ⊢; rcases hz with h | h | h | h | h | h | h <;> simp [h], .inl rfl⟩
  | 2, _ => exact ⟨_, _, _, _, _, _, _, rfl, by intro z hz; simp only [List.mem_cons, List.not_mem_nil, or_false] at hz ⊢; rcases hz with h | h | h | h | h | h | h <;> simp [h], .inr rfl⟩
  | 3, _ => exact ⟨_, _, _, _, _, _, _, rfl, by intro z hz; simp only [List.mem_cons, List.not_mem_nil, or_false] at hz ⊢; rcases hz with h | h | h | h | h | h | h <;> simp [h], .inr rfl⟩
  | 4, _ => exact ⟨_, _, _, _, _, _, _, rfl, by intro z hz; simp only [List.mem_cons, List.not_mem_nil, or_false] at hz ⊢; rcases hz with h | h | h | h | h | h | h <;> simp [h], .inr rfl⟩
  | 5, _ => exact ⟨_, _, _, _, _, _, _, rfl, by intro z hz; simp only [List.mem_cons, List.not_mem_nil, or_false] at hz ⊢; rcases hz with h | h | h | h | h | h | h <;> simp [h], .inr rfl⟩
theorem Lp.wt {K : PySem.W.Frag} {H : Hp} {l : Lp} {z : L2.V} (h : z ∈ l.V) : ∃ n, WT K H z n := by
  simp only [Lp.V, List.mem_cons, List.not_mem_nil, or_false] at h
  rcases h with rfl | rfl | rfl | rfl | rfl | rfl | rfl
  · exact ⟨_, WT.i _⟩
  · exact ⟨_, WT.i _⟩
  · exact ⟨_, WT.i _⟩
  · exact ⟨_, WT.i _⟩
  · exact ⟨_, WT.s _⟩
  · exact ⟨_, WT.s _⟩
  · exact ⟨_, WT.s _⟩
theorem Lp.Ok.csz {l : Lp} (o : l.Ok) : (iv (.int l.c)).natAbs < 2 ^ 900 := by
  have := o.c1; have := o.c3
  exact Nat.lt_of_lt_of_le (show l.c.natAbs < 2 ^ 3 by omega) (Nat.pow_le_pow_right (by decide) (by decide))
theorem pure_changedX (K : PySem.W.Frag) (A : AvK K) (F : ∀ H, SqT K H (He.ga K "FIELDS") fieldsV) (T : TupK K (He.ga K "FIELDS")) (vs : List V) (H : Hp) (Q : VK) (E : XK) (h : sp_changedX K vs H Q E) : rd_changedX K E { nx := fun _ H' => Q .non H', rt := Q } (start ["loop", "field", "value", "parts"] vs) H := by
  obtain ⟨p, l, vf, vv, nf, nv, rfl, hp, o, wf, wv, sv, q1, q2⟩ := h
  obtain ⟨dp, hp'⟩ := id hp
  unfold rd_changedX
  walk_at "rd"
  refine ⟨vf, nf, rfl, wf, fun hw => ?_, q1⟩
  obtain ⟨j, w, rfl, hj⟩ := fields_of hw
  have hj6 : j < 6 := (List.getElem?_eq_some_iff.mp hj).1
  obtain ⟨q3, q4⟩ := q2 j w rfl hj
  walk_at "rd"
  refine ⟨p, dp, _, rfl, hp', rfl, ?_⟩
  walk_at "rd"
  refine ⟨p, l, rfl, hp, fun t1 h1 => ?_⟩
  have e1 : Ext H (upd H t1 (.tup l.V)) := Ext.new h1
  walk_at "rd"
  refine e_listS (xs := l.V) (fun t2 h2 => ?_) (.inr (SqT.of upd_same))
  have e2 : Ext (upd H t1 (.tup l.V)) (upd (upd H t1 (.tup l.V)) t2 (.lst l.V)) := Ext.new h2
  have g2 : (upd (upd H t1 (.tup l.V)) t2 (.lst l.V)) t2 = some (.lst l.V) := upd_same
  have n2 : H t2 = none := e1.non h2
  have e12 := e1.tr e2
  generalize upd (upd H t1 (.tup l.V)) t2 (.lst l.V) = H2 at *
  walk_at "rd"
  refine ⟨.inr (.inl ⟨rfl, T⟩), ?_⟩
  walk_at "rd"
  refine ⟨_, fieldsS, w, j, rfl, rfl, F H2, hj, fields_first hj, ?_⟩
  walk_at "rd"
  have e1j : (1 : Int) + (j : Int) = ((j + 1 : Nat) : Int) := by omega
  refine e_setL (m := j + 1) ?_ g2 (by rw [e1j]; exact Evl.ixN_nat (by show j + 1 < 7; omega))
  have e3 : Ext H (upd H2 t2 (.lst (setP l j vv))) := fun b ob z => by rw [upd_ne (ne_of_none z n2)]; exact e12 _ _ z
  have g3 : (upd H2 t2 (.lst (setP l j vv))) t2 = some (.lst (setP l j vv)) := upd_same
  show (fun σ H3 => _) _ (upd H2 t2 (.lst (setP l j vv)))
  generalize upd H2 t2 (.lst (setP l j vv)) = H3 at *
  obtain ⟨k, a, c, d, s, t, m, es, hz, hc⟩ := set_seven (l := l) hj6 vv
  rw [es] at g3 q3 q4
  walk_at "rd"
  refine e_ixL ?_ (SqL.of g3) rfl
  walk_at "rd"
  refine e_ixL ?_ (SqL.of g3) rfl
  walk_at "rd"
  refine e_ixL ?_ (SqL.of g3) rfl
  walk_at "rd"
  refine e_ixL ?_ (SqL.of g3) rfl
  walk_at "rd"
  refine e_ixL ?_ (SqL.of g3) rfl
  walk_at "rd"
  refine e_ixL ?_ (SqL.of g3) rfl
  walk_at "rd"
  refine e_ixL ?_ (SqL.of g3) rfl
  walk_at "rd"
  refine make_av (fun v hv => ?_) ?_ (fun m o' em x H' hx e' hl => q3 m o' em x H' (e3.non hx) (e3.tr e') hl) (fun hn H' e e' he => q4 hn H' e (e3.tr e') he)
  · rcases hz v hv with rfl | hv
    · exact ⟨nv, wv.ext e3⟩
    · exact Lp.wt hv
  · rcases hc with rfl | rfl
    · exact sv
    · exact o.csz

end FWL
namespace FWL
open PySem PySem.Spec PyProof.Rows L2 FW
set_option hygiene false in
local macro_rules | `(tactic| walk_at "rv") => `(tactic| (have nt := (); have nz := (); have nH := (); have ne := (); have nh := ()))
/-! ### the law -/
section
variable {K : PySem.W.Frag} {H : Hp} {σ : L2.St}
/-- evaluating ta makes errors of these names -/
def TaE (K : PySem.W.Frag) (ta : TA) (σ : L2.St) (ns : List Str) : Prop := ∀ H R, (∀ es G, Ext H G → Paired (fun v x => ∃ e, v = V.ref e ∧ ErX K G e x) es ns → R es G) → ta σ H R
theorem tae_nil : TaE K tNil σ [] := fun H R k => k [] H (fun _ _ z => z) .nil
theorem tae_cons {te : TE} {ta : TA} {x : Str} {ns : List Str} (h : ∀ H R, (∀ e G, Ext H G → ErX K G e x → R (.ref e) G) → te σ H R) (r : TaE K ta σ ns) : TaE K (tCons te ta) σ (x :: ns) := fun H R k =>
  h H _ fun e G e1 he => r G _ fun es G2 e2 hp => k _ _ (e1.tr e2) (.cons ⟨e, rfl, he.ext e2⟩ hp)
theorem tae_v {x f : Str} {ta : TA} (h : ∀ H R, (∀ v G, Ext H G → R [v] G) → ta σ H R) : ∀ H R, (∀ e G, Ext H G → ErX K G e x → R (.ref e) G) → (FW.tErrV (He.ga K x) f ta) σ H R := fun H R k =>
  h H _ fun v G e1 => ⟨v, rfl, fun e d G2 _ h1 h2 h3 => k e G2 (e1.tr h1) ⟨some d, h2, .inr ⟨d, _, rfl, h3⟩⟩⟩
theorem tae_0 {x : Str} : ∀ H R, (∀ e G, Ext H G → ErX K G e x → R (.ref e) G) → (FW.tErr0 (He.ga K x)) σ H R := fun H R k e G _ h1 h2 => k e G h1 ⟨none, h2, .inl rfl⟩
theorem ta_c {c : V} : ∀ H R, (∀ v G, Ext H G → R [v] G) → (tCons (tC c) tNil) σ H R := fun H R k => k c H fun _ _ z => z
theorem ta_l : ∀ H R, (∀ v G, Ext H G → R [v] G) → (tCons (tLst tNil) tNil) σ H R := fun H R k => ⟨by decide, fun p hp => k _ _ (Ext.new hp)⟩
theorem sqL_ext {K : PySem.W.Frag} {H H' : Hp} {a : Addr} {xs : List V} (h : SqL K H a xs) (e : Ext H H') : SqL K H' a xs := h.imp (fun r => r.imp (e _ _) fun ⟨b, r⟩ => ⟨b, e _ _ r⟩) id
theorem prd_at {α β : Type} {F : α → β → Prop} : ∀ {xs : List α} {ys : List β} {t : Nat} {a : α}, Paired F xs ys → xs[t]? = some a → ∃ b, ys[t]? = some b ∧ F a b
  | _, _, t, b, .nil, h => by simp at h
  | _, _, 0, b, .cons h _, e => by cases e; exact ⟨_, rfl, h⟩
  | _, _, t + 1, b, .cons _ t', e => prd_at (t := t) t' e
theorem lay_rep {d : PyData} (h : d.canLay0 = true) : ∀ n, PyData.canLayAll0 (List.replicate n d) = true
  | 0 => rfl
  | n + 1 => by rw [List.replicate_succ, PyData.canLayAll0, h, lay_rep h n]; rfl
theorem depth_rep {d : PyData} {k : Nat} (h : d.depth ≤ k) : ∀ n, PyData.depthAll (List.replicate n d) ≤ k
  | 0 => by simp [PyData.depthAll]
  | n + 1 => by
    rw [List.replicate_succ, PyData.depthAll]
    have := depth_rep h n
    omega
theorem sh_rep {d : PyData} (h : d.canLay0 = true) (hd : d.depth ≤ 3) : SeqAt.shaped (.list (List.replicate 16 d)) = true := by
  unfold SeqAt.shaped
  rw [PyData.canLay0, lay_rep h, Bool.true_and, PyData.depth]
  have := depth_rep hd 16
  exact decide_eq_true (by omega)
theorem sh_k : ∀ md : Int, 0 ≤ md → md < 1000 → PyData.strOk ((("k" : Str) ++ (toString md : Str)) : Str) = true ∧ ("k" : Str).length + (toString md : Str).length ≤ sizeLine := by
  have : ((List.range 1000).all fun m => PyData.strOk ((("k" : Str) ++ (toString ((m : Nat) : Int) : Str)) : Str) && decide (("k" : Str).length + (toString ((m : Nat) : Int) : Str).length ≤ 100)) = true := by kernel_rfl
  intro md h0 h1
  have e := List.all_eq_true.mp this md.toNat (List.mem_range.mpr (by omega))
  rw [show ((md.toNat : Nat) : Int) = md by omega, Bool.and_eq_true] at e
  exact ⟨e.1, Nat.le_trans (of_decide_eq_true e.2) (by decide)⟩
theorem log_small {md : Int} (h0 : 0 ≤ md) (h1 : md < 1000) : md.natAbs.log2 < 1920 := by
  have := Nat.log2_le_self md.natAbs
  omega
theorem dp_bls {K : PySem.W.Frag} {H : Hp} : ∀ bs : List Bool, DpAll K H (bs.map V.bl) (bs.map PyData.bool)
  | [] => .nil
  | b :: bs => .cons (.bl b) (dp_bls bs)
theorem lay_bls : ∀ bs : List Bool, PyData.canLayAll0 (bs.map PyData.bool) = true
  | [] => rfl
  | b :: bs => by rw [List.map_cons, PyData.canLayAll0, lay_bls bs]; rfl
theorem depth_bls : ∀ bs : List Bool, PyData.depthAll (bs.map PyData.bool) ≤ 1
  | [] => by simp [PyData.depthAll]
  | b :: bs => by
    rw [List.map_cons, PyData.depthAll]
    have := depth_bls bs
    have : (PyData.bool b).depth = 0 := by simp [PyData.depth]
    omega
theorem sh_bls (bs : List Bool) : SeqAt.shaped (.list (bs.map PyData.bool)) = true := by
  unfold SeqAt.shaped
  rw [PyData.canLay0, lay_bls, Bool.true_and, PyData.depth]
  have := depth_bls bs
  exact decide_eq_true (by omega)
theorem ek_at : ∀ k : Nat, k < 14 → ∀ x, ek14[k]? = some x → ek14.map (fun y => decide (x = y)) = (List.range 14).map fun (j : Nat) => decide ((j : Int) = (k : Int)) := by
  have : ∀ k : Fin 14, ek14.map (fun y => decide (ek14[k.val]! = y)) = (List.range 14).map fun (j : Nat) => decide ((j : Int) = (k.val : Int)) := by decide +kernel
  intro k hk x hx
  have e := this ⟨k, hk⟩
  have : ek14[k]! = x := by rw [List.getElem!_eq_getElem?_getD, hx]; rfl
  rw [← this]
  exact e
def EL (K : PySem.W.Frag) (H : Hp) (M : Addr) (ns : List Str) : Prop := ∃ es, H M = some (.lst es) ∧ Paired (fun v x => ∃ e, v = V.ref e ∧ ErX K H e x) es ns
theorem EL.ty {M : Addr} {ns : List Str} (h : EL K H M ns) : tyV K "list" (.ref M) H := by
  obtain ⟨es, h1, h2⟩ := h
  exact .inl ⟨rfl, _, SqL.of h1⟩
theorem EL.ext {H' : Hp} {M : Addr} {ns : List Str} (h : EL K H M ns) (e : Ext H H') : EL K H' M ns := by
  obtain ⟨es, h1, h2⟩ := h
  exact ⟨es, e _ _ h1, Paired.mapP h2 fun v x ⟨a, b, c⟩ => ⟨a, b, c.ext e⟩⟩
theorem e_elst {ta : TA} {ns : List Str} {R : VK} (h : TaE K ta σ ns) (hn : ns.length ≤ 100) (k : ∀ M G, H M = none → Ext H G → EL K G M ns → R (.ref M) G) : (tLst ta) σ H R := by
  refine h H _ fun es G e hp => ?_
  have hl := Paired.length hp
  refine ⟨Nat.le_trans (show es.length ≤ 100 by omega) (by decide), fun p hz => ?_⟩
  have hz0 : H p = none := by
    cases z : H p with
    | none => rfl
    | some o => have := e _ _ z; rw [hz] at this; cases this
  refine k p _ hz0 (e.tr (Ext.new hz)) ⟨es, upd_same, Paired.mapP hp fun v x ⟨a, b, c⟩ => ⟨a, b, c.ext (Ext.new hz)⟩⟩
theorem paired_app {α β : Type} {P : α → β → Prop} : ∀ {xs : List α} {ys : List β} {xs' : List α} {ys' : List β}, Paired P xs ys → Paired P xs' ys' → Paired P (xs ++ xs') (ys ++ ys')
  | _, _, _, _, .nil, h => h
  | _, _, _, _, .cons a r, h => .cons a (paired_app r h)
theorem e_elext {M b : Addr} {ns ms : List Str} {Q : VK} {H0 : Hp} (e : Ext H0 H) (zM : H0 M = none) (h : EL K H M ns) (h' : EL K H b ms) (hn : ns.length + ms.length ≤ 100) (k : ∀ G, Ext H0 G → EL K G M (ns ++ ms) → Q .non G) : rExtend (.ref M) [.ref b] H Q := by
  obtain ⟨es, h1, h2⟩ := h
  obtain ⟨fs, h3, h4⟩ := h'
  have l1 := Paired.length h2
  have l2 := Paired.length h4
  refine ha_extend h1 h3 (Nat.le_trans (show es.length + fs.length ≤ 100 by omega) (by decide)) (k _ (e.upds zM) ⟨es ++ fs, upd_same, paired_app ?_ ?_⟩)
  · exact Paired.mapP h2 fun v x ⟨a, b, c⟩ => ⟨a, b, c.updL h1⟩
  · exact Paired.mapP h4 fun v x ⟨a, b, c⟩ => ⟨a, b, c.updL h1⟩
end
def rd_law_L1 (K : PySem.W.Frag) : TS := tSeq (tIfS (tOr (tTest (tOp (rNeD K) (tCall (sp_l_kinds K) [] E0 (tCons (tVar 3) (tNil))) (tLc (iRng1 (tCons (tC (.int 14)) (tNil))) (gName 4) (tYes) (tOp rEq (tVar 4) (tVar 2)) [4]))) (tNot (tB (tCB (FW.rIsV K) (tCons (tVar 3) (tCons (tC (.ref (He.ga K "FloorError"))) (tNil))))))) (tRet (tC (.bl false))) (tNext)) (tIfS (tNot (tB (tCB (FW.rIsV K) (tCons (tVar 3) (tCons (tC (.ty "ValueError")) (tNil)))))) (tRet (tC (.bl false))) (tNext))
def rd_law_L2 (K : PySem.W.Frag) : TS := tIfS (tNot (tB (tCall (sp_l_kept K) [] E0 (tCons (tVar 6) (tNil))))) (tRet (tC (.bl false))) (tNext)
def rd_law_L3 (K : PySem.W.Frag) : TS := tFor (iList K (tLst (tCons (tVar 5) (tCons (tOp FW.rAddS (tC (.str "k")) (tCB FW.rStrI (tCons (tOp FW.rMod (tCB FW.rInt1 (tCons (tVar 5) (tNil))) (tC (.int 1000))) (tNil)))) (tCons (tC .non) (tCons (tTup (tCons (tC (.int 1)) (tCons (tOp FW.rMod (tCB FW.rInt1 (tCons (tVar 5) (tNil))) (tC (.int 7))) (tNil)))) (tCons (tLst (tCons (tOp FW.rMod (tCB FW.rInt1 (tCons (tVar 5) (tNil))) (tC (.int 5))) (tNil))) (tCons (tOp FW.rPow (tC (.int 10)) (tC (.int 30))) (tNil))))))))) (gName 6) (rd_law_L2 K)
def rd_law (K : PySem.W.Frag) : TS := tSeq (tAsg (tLst (tCons (FW.tErrV (He.ga K "BadNumber") "value" (tCons (tC (.int 1)) (tNil))) (tCons (FW.tErrV (He.ga K "BadPower") "value" (tCons (tC (.int 2)) (tNil))) (tCons (FW.tErrV (He.ga K "BadLoop") "word" (tCons (tC (.str "a")) (tNil))) (tCons (FW.tErrV (He.ga K "BadStart") "value" (tCons (tC .non) (tNil))) (tCons (FW.tErrV (He.ga K "BadField") "field" (tCons (tC (.str "b")) (tNil))) (tCons (FW.tErr0 (He.ga K "BadGuesses")) (tNil)))))))) (gName 1)) (tSeq (tDrop (tBM K "list" rExtend (tVar 1) (tCons (tLst (tCons (FW.tErrV (He.ga K "BadBeginning") "word" (tCons (tC (.str "by")) (tNil))) (tCons (FW.tErrV (He.ga K "BadSought") "word" (tCons (tC (.str "n")) (tNil))) (tCons (FW.tErr0 (He.ga K "BadBracket")) (tCons (FW.tErrV (He.ga K "BadKind") "value" (tCons (tLst (tNil)) (tNil))) (tCons (FW.tErr0 (He.ga K "BadText")) (tCons (FW.tErr0 (He.ga K "UnlikePowers")) (tNil)))))))) (tNil)))) (tSeq (tDrop (tBM K "list" rExtend (tVar 1) (tCons (tLst (tCons (FW.tErr0 (He.ga K "UnlikeSteps")) (tCons (FW.tErr0 (He.ga K "NoGuess")) (tNil)))) (tNil)))) (tSeq (tFor (iEnum K (tCons (tVar 1) (tNil))) (gTup K 2 (gCons (gName 2) (gCons (gName 3) (gNil)))) (rd_law_L1 K)) (tSeq (tIfS (tOr (tTest (tOp (rInD K) (tC (.bl true)) (tCall (sp_l_kinds K) [] E0 (tCons (FW.tErr0 (He.ga K "FloorError")) (tNil))))) (tNot (tB (tCB (FW.rIsV K) (tCons (FW.tErr0 (He.ga K "FloorError")) (tCons (tC (.ty "ValueError")) (tNil))))))) (tRet (tC (.bl false))) (tNext)) (tSeq (tFor (iList K (tSl (rSlL K) (tOp rCat (tCB (Evl.rListS K) (tCons (tVar 0) (tNil))) (tLst (tCons (tC (.int 0)) (tCons (tC (.int 5)) (tCons (tUn FW.rNeg (tC (.int 3))) (tNil)))))) (tNoPart) (tPart (tC (.int 6))))) (gName 5) (rd_law_L3 K)) (tRet (tC (.bl true))))))))
def sp_law (K : PySem.W.Frag) : Sp := fun vs H Q _ => ∃ (a : Addr) (ns : List Int), vs = [.ref a] ∧ SqL K H a (ns.map V.int) ∧ ns.length ≤ 63 ∧ ∀ H', Q (.bl true) H'
theorem pure_law (K : PySem.W.Frag) (T : ErV K) (vs : List V) (H : Hp) (Q : VK) (E : XK) (h : sp_law K vs H Q E) : rd_law K { nx := fun _ H' => Q .non H', rt := Q } (start ["_law_script", "_law_made", "_law_k", "_law_e", "_law_j", "_law_cell", "_law_thing"] vs) H := by
  obtain ⟨a, ns, rfl, hA, hns, q⟩ := h
  unfold rd_law
  refine FW.s_seq (FW.s_asg ?_)
  refine e_elst (tae_cons (tae_v ta_c) (tae_cons (tae_v ta_c) (tae_cons (tae_v ta_c) (tae_cons (tae_v ta_c) (tae_cons (tae_v ta_c) (tae_cons tae_0 tae_nil)))))) (by decide) fun M H1 zM e1 h1 => ?_
  walk_at "rx"
  refine ⟨h1.ty, FW.e_cons ?_⟩
  refine e_elst (tae_cons (tae_v ta_c) (tae_cons (tae_v ta_c) (tae_cons tae_0 (tae_cons (tae_v ta_l) (tae_cons tae_0 (tae_cons tae_0 tae_nil)))))) (by decide) fun M2 H2 _ e2 h2 => ?_
  refine FW.e_nil ?_
  refine e_elext (e1.tr e2) zM (h1.ext e2) h2 (by decide) fun H3 e3 h3 => ?_
  walk_at "rx"
  refine ⟨h3.ty, FW.e_cons ?_⟩
  refine e_elst (tae_cons tae_0 (tae_cons tae_0 tae_nil)) (by decide) fun M4 H4 _ e4 h4 => ?_
  refine FW.e_nil ?_
  refine e_elext (e3.tr e4) zM (h3.ext e4) h4 (by decide) fun H5 e5 h5 => ?_
  replace h5 : EL K H5 M ek14 := h5
  clear h1 h2 h3 h4 e1 e2 e3 e4
  obtain ⟨es, g1, g2⟩ := h5
  have el := Paired.length g2
  walk_at "rx"
  refine i_enum ?_
  walk_at "rx"
  refine ⟨M, es, rfl, SqL.of g1, ?_⟩
  refine for_enumL (K := K) (a := M) (xs := es) (fun i σ H' => Ext H5 H' ∧ ∃ v2 v3, σ = [some (.ref a), some (.ref M), v2, v3, none, none, none]) ⟨fun _ _ z => z, none, none, rfl⟩ (fun i σ H' _ h => SqL.of (h.1 _ _ g1)) ?_ ?_
  · rintro i x σ H6 tT hx ⟨e6, v2, v3, rfl⟩ hT
    obtain ⟨y, hy, ad, rfl, had⟩ := prd_at g2 hx
    have hi : i < 14 := by
      have := (List.getElem?_eq_some_iff.mp hy).1
      exact this
    have e7 := e6.tr (Ext.new (o := .tup [.int (i : Nat), .ref ad]) hT)
    have t7 := upd_same (H := H6) (a := tT) (o := .tup [.int (i : Nat), .ref ad])
    generalize upd H6 tT _ = H7 at e7 t7 ⊢
    walk_at "rx"
    unfold rd_law_L1
    walk_at "rx"
    refine ⟨ad, y, rfl, List.mem_cons_of_mem _ (List.mem_of_getElem? hy), had.ext e7, fun p H8 e8 h8 => ?_⟩
    walk_at "rx"
    intro D hD
    have e9 := Ext.new (o := .lst []) hD
    refine lc_range (lo := 0) (n := 14) (fun j H9 => Ext H8 H9 ∧ H9 D = some (.lst ((List.range j).map fun (j : Nat) => V.bl (decide ((j : Int) = (i : Int)))))) ⟨e9, upd_same⟩ ?_ ?_
    · rintro j H9 hj ⟨eA, hD9⟩
      walk_at "rx"
      refine ⟨rfl, ?_⟩
      walk_at "rx"
      refine ⟨_, hD9, ?_, eA.upds hD, ?_⟩
      · rw [List.length_map, List.length_range]
        exact Nat.lt_of_lt_of_le hj (by decide)
      · rw [upd_same, List.range_succ, List.map_append, Int.zero_add]
        rfl
    · rintro H9 ⟨eA, hD9⟩
      have e79 := e8.tr eA
      have hk : (ek14.map fun z => V.bl (decide (y = z))) = (ek14.map fun z => decide (y = z)).map V.bl := by rw [List.map_map]; rfl
      have hk2 : ((List.range 14).map fun (j : Nat) => V.bl (decide ((j : Int) = (i : Int)))) = (ek14.map fun z => decide (y = z)).map V.bl := by
        rw [ek_at i hi y hy, List.map_map]; rfl
      have sh := sh_bls (ek14.map fun z => decide (y = z))
      rw [hk] at h8
      rw [hk2] at hD9
      refine e_neD (d := .list ((ek14.map fun z => decide (y = z)).map PyData.bool)) (e := .list ((ek14.map fun z => decide (y = z)).map PyData.bool)) ?_ (.lst (SqL.of (eA _ _ h8)) (dp_bls _)) (.lst (SqL.of hD9) (dp_bls _)) sh sh
      rw [SeqAt.eqv_refl _ (SeqAt.canLay_of_shaped sh)]
      have hy15 : y ∈ ek15 := List.mem_cons_of_mem _ (List.mem_of_getElem? hy)
      walk_at "rx"
      refine e_isV T hy15 (show ("FloorError" : Str) ∈ ek15 from List.mem_cons_self) (had.ext (e7.tr e79)) ?_
      rw [decide_eq_true (show y = "FloorError" ∨ ("FloorError" : Str) = "FloorError" from .inr rfl)]
      walk_at "rx"
      refine e_isVE T hy15 (had.ext (e7.tr e79)) ?_
      walk_at "rx"
      exact ⟨e7.tr e79, _, _, rfl⟩
    · decide
  · rintro σ H6 ⟨e6, v2, v3, rfl⟩
    walk_at "rx"
    refine tae_0 _ _ fun e0 H7 e7 h7 => ?_
    walk_at "rx"
    refine ⟨e0, "FloorError", rfl, List.mem_cons_self, h7, fun p H8 e8 h8 => ?_⟩
    have hk : (ek14.map fun z => V.bl (decide (("FloorError" : Str) = z))) = (ek14.map fun z => decide (("FloorError" : Str) = z)).map V.bl := by rw [List.map_map]; rfl
    rw [hk] at h8
    refine ⟨.bool true, (ek14.map fun z => decide (("FloorError" : Str) = z)).map PyData.bool, .bl true, .lst (SqL.of h8) (dp_bls _), rfl, sh_bls _, ?_⟩
    rw [show (((ek14.map fun z => decide (("FloorError" : Str) = z)).map PyData.bool).any fun z => PyData.eqv z (.bool true)) = false by decide +kernel]
    walk_at "rx"
    refine tae_0 _ _ fun e9 H9 e9' h9 => ?_
    walk_at "rx"
    refine e_isVE T List.mem_cons_self h9 ?_
    walk_at "rx"
    have eA := e5.tr (e6.tr (e7.tr (e8.tr e9')))
    refine e_sl ?_
    walk_at "rx"
    refine e_listS (fun l hl => ?_) (.inl (sqL_ext hA eA))
    have eB := Ext.new (o := .lst (ns.map V.int)) hl
    have hB := upd_same (H := H9) (a := l) (o := .lst (ns.map V.int))
    generalize upd H9 l _ = HB at eB hB ⊢
    walk_at "rx"
    refine ha_cat (ne _ _ hB) nh ?_ fun p2 HC _ eC hC => ?_
    · rw [List.length_map]
      exact Nat.le_trans (show ns.length + 3 ≤ 100 by omega) (by decide)
    refine e_noP (e_part ?_)
    walk_at "rx"
    refine e_part' ?_
    refine e_slL (fun c hc => ?_) (SqL.of hC)
    have eD := Ext.new (o := .lst (cutV (ns.map V.int ++ [V.int 0, V.int 5, V.int (-3)]) none (some 6))) hc
    have hD := upd_same (H := HC) (a := c) (o := .lst (cutV (ns.map V.int ++ [V.int 0, V.int 5, V.int (-3)]) none (some 6)))
    have hci : ∀ x ∈ cutV (ns.map V.int ++ [V.int 0, V.int 5, V.int (-3)]) none (some 6), ∃ z : Int, x = .int z := fun x hx => by
      have := List.mem_of_mem_drop (List.mem_of_mem_take hx)
      rcases List.mem_append.mp this with h | h
      · obtain ⟨z, _, rfl⟩ := List.mem_map.mp h
        exact ⟨z, rfl⟩
      · simp only [List.mem_cons, List.not_mem_nil, or_false] at h
        rcases h with rfl | rfl | rfl <;> exact ⟨_, rfl⟩
    generalize cutV (ns.map V.int ++ [V.int 0, V.int 5, V.int (-3)]) none (some 6) = xs at eD hD hci
    generalize upd HC c _ = HD at eD hD ⊢
    refine i_list' xs ?_ (SqL.of hD)
    refine for_list (K := K) (a := c) (xs := xs) (fun i σ H' => Ext HD H' ∧ ∃ v5 v6, σ = [some (.ref a), some (.ref M), v2, v3, none, v5, v6]) ⟨fun _ _ z => z, none, none, rfl⟩ (fun i σ H' _ h => SqL.of (h.1 _ _ hD)) ?_ ?_
    · rintro i x σ H' hx ⟨e', v5, v6, rfl⟩
      obtain ⟨z, rfl⟩ := hci x (List.mem_of_getElem? hx)
      walk_at "rx"
      unfold rd_law_L3
      walk_at "rx"
      refine ⟨md, rfl, ?_, ?_⟩
      · exact log_small md0 md1
      refine ⟨_, _, rfl, rfl, (sh_k md md0 md1).2, ?_⟩
      have sk := (sh_k md md0 md1).1
      subst mdh
      walk_at "rx"
      · rename_i tT _ tH te th lT _ lH le lh
        refine i_list' _ ?_ (SqL.of nh)
        have hE : Ext HD nH := by walk_at "rE"
        refine for_list (K := K) (a := nt) (fun i σ G => Ext nH G ∧ ∃ v6, σ = [some (.ref a), some (.ref M), v2, v3, none, some (.int z), v6]) ⟨fun _ _ z => z, v6, rfl⟩ (fun i σ G _ h => SqL.of (h.1 _ _ nh)) ?_ ?_
        · rintro k x σ G hx ⟨eG, w6, rfl⟩
          have hall : ∃ d, (∀ G, Ext nH G → Dp K G x d) ∧ SeqAt.shaped (.list (List.replicate 16 d)) = true := by
            have hx := List.mem_of_getElem? hx
            simp only [List.mem_cons, List.not_mem_nil, or_false] at hx
            rcases hx with rfl | rfl | rfl | rfl | rfl | rfl
            · exact ⟨.int z, fun _ _ => .int _, sh_rep rfl (by simp [PyData.depth])⟩
            · exact ⟨.str _, fun _ _ => .str _, sh_rep (by rw [PyData.canLay0]; exact sk) (by simp [PyData.depth])⟩
            · exact ⟨.none, fun _ _ => .non, sh_rep rfl (by simp [PyData.depth])⟩
            · exact ⟨.tuple [.int 1, .int _], fun G e => .tup (SqT.of (e _ _ (ne _ _ (le _ _ th)))) (.cons (.int _) (.cons (.int _) .nil)), sh_rep rfl (by simp [PyData.depth, PyData.depthAll])⟩
            · exact ⟨.list [.int _], fun G e => .lst (SqL.of (e _ _ (ne _ _ lh))) (.cons (.int _) .nil), sh_rep rfl (by simp [PyData.depth, PyData.depthAll])⟩
            · exact ⟨.int _, fun _ _ => .int _, sh_rep rfl (by simp [PyData.depth])⟩
          obtain ⟨d, hd, sh⟩ := hall
          walk_at "rx"
          unfold rd_law_L2
          walk_at "rx"
          refine ⟨x, d, rfl, fun G2 e2 => hd G2 (eG.tr e2), sh, fun G2 e2 => ?_⟩
          walk_at "rx"
          exact ⟨eG.tr e2, _, rfl⟩
        · rintro σ G ⟨eG, w6, rfl⟩
          exact ⟨e'.tr (by walk_at "rE"), _, _, rfl⟩
      · exact ⟨by decide, by decide, by decide⟩
    · rintro σ H' ⟨e', v5, v6, rfl⟩
      walk_at "rx"
      exact q _
end FWL
namespace FW
open PySem PySem.Spec PyProof.Rows L2
/-! ### x == y where x's own __eq__ hands back NotImplemented and y declines: False -/
section
variable {X : Cx} {C f : Addr}
/-- the def is called, its first statement hands back NotImplemented -/
theorem call_ni {pins : List (Addr × Obj)} {σ : L2.St} {H : Hp} {s : Shared} {A : Around} {name qual : Str} {params : Arguments} {body rest : List Stmt} {scope : Scope} {N ps : List Str} {k : Nat} {tst : Expr} {tt : TT} {p1 p2 p3 : Pos} {vs : List V} {us : List Value} {R : Shared → Prop}
    (F : ∃ fd, FunD X.K name qual params body scope [] [] f fd) (S : FnScope N ps scope) (eb : body = .If tst [.Return (some (.Name "NotImplemented" p1)) p2] [] p3 :: rest)
    (hb : ∀ (kV doc pm : Value) (an : Option Addr) (cdv ct : Value) (us : List Value), us.length = ps.length → bindArgs (PySem.W.fnOf name qual params body scope .none kV doc pm an cdv ct) ⟨us, []⟩ = pure (ps.zip us))
    (ht : ∀ (cdv : Value) (A : Around) (outer : List Env) (s : Shared) (H : Hp), Room k (A.deeper (envOfC qual scope s.heap.objs.size f cdv)) → PT (cxOf CX0 X.prog X.w X.K X.mg X.base N qual scope f cdv A outer s H E0).nox tst tt)
    (hg : scope.names.lookup ("NotImplemented" : Str) = some .globalImplicit) (hm : X.mg ("NotImplemented" : Str) = none)
    (I : Inv X pins σ H s) (hr : Room (k + 1) A) (hfr : A.frames = X.A.frames) (r : Vals vs us) (hl : vs.length = ps.length) (h : ∀ R : Bool → Hp → Prop, R true H → tt (start N vs) H R) (hq : ∀ s', Inv X pins σ H s' → R s') :
    wpAny (model X.prog X.w) A (call (.ref f) us) (fun v s' => v = .notImplemented ∧ R s') X.xe s := by
  obtain ⟨fd, F⟩ := F
  have hbn := F.bindsN (ps := ps) hb
  obtain ⟨oc, od, dV, kV, doc, pm, an, cdv, ct, osl, rfl, lk, hcd, _, _⟩ := F.ex
  have e0 : Env0 X.prog X.w X.K X.mg X.base A X.stack s H := by
    have e := I.env0
    exact ⟨by rw [hfr]; exact e.frames, e.mod, e.bs, e.bsz, e.funs, e.frf, e.hok, e.bare⟩
  have KX : X.K.In s.heap := I.kIn
  have lim : s.heap.NoLimit := I.nolimit
  have hlu : us.length = ps.length := by rw [← r.length]; exact hl
  have hkind : ∀ y ∈ ps.zip us, scope.names.lookup y.1 = some .local ∨ (scope.names.lookup y.1 = some .cell ∧ ((cellsFrom (s.heap.objs.size + 1) scope.names []).lookup y.1).isSome = true) := fun ⟨n, v⟩ hy => by
    rcases S.par n (List.of_mem_zip hy).1 with q | q
    · exact .inl q
    · exact .inr ⟨q, PySem.W.cellsFrom_some _ _ _ (.inl q)⟩
  have hbs := hbn s us KX (by simpa using hlu)
  refine wpAny_call ?_
  refine codeAny_call_function hr.depth (KX _ _ lk) rfl S.co S.gen rfl (PySem.W.codeRec_of KX hcd) ((by simpa using hbs : BindsTo s _ ⟨us, []⟩ (ps.zip us)) _ _ _ _ ?_)
  refine wpAny_newFunctionEnv_cells S.kind hkind fun env he s1 x => ?_
  subst he
  refine ⟨lim.keeps x.toInCall.keep, codeAny_func ?_⟩
  have J : Inv (cxOf CX0 X.prog X.w X.K X.mg X.base N qual scope f cdv A X.stack s H E0) [] (start N vs) H s1 := inv_start S hr.hd e0 hl r x
  subst eb
  show wpAny _ _ (execs (.If tst [.Return (some (.Name "NotImplemented" p1)) p2] [] p3 :: rest) _) _ _ _
  have run := (PT.nox (ht cdv A X.stack s H (hr.deeper _))).run [] s1 (start N vs) H (fun b H1 => b = true ∧ H1 = H) J (h _ ⟨rfl, rfl⟩)
  refine wpAny_execs_cons (wpAny_If (wpAny_mono run (fun d s2 ⟨H1, J2, hd, e⟩ => ?_) fun e s2 z => ?_))
  subst hd e
  refine wpAny_execs_cons (wpAny_Return_some ?_)
  refine ld_blt J2 hg hm PyProof.Rows.Boot.NotImplemented ?_
  · have ce : CE X.stack X.prog X.w H1 s (fun v H' => v = .non ∧ H' = H1) .none s2 := ⟨.non, H1, J2.os, J2.bare, J2.base, J2.hok, rfl, rfl, rfl⟩
    obtain ⟨v, H', I', _, _, e⟩ := I.after ce
    subst e
    exact ⟨rfl, hq _ I'⟩
  · have z : (cxOf CX0 X.prog X.w X.K X.mg X.base N qual scope f cdv A X.stack s H E0).xe e s2 := z
    exact wpAny_mono z (fun _ _ q => (show False from q).elim) fun _ _ q => (show False from q).elim
end
section
variable {prog : Program} {w : World} {A : Around} {E : Value → Shared → Prop} {s : Shared} {K : PySem.W.Frag} {x C f : Addr} {ox : Obj} {od : Option Obj}
theorem rc_ni {u : Value} {T : String} {R : Shared → Prop} {Q : Value → Shared → Prop} (hu : A.units < cLine) (X : K.In s.heap) (I : PySem.W.InstAt s.heap x ox C od) (hT : s.TypeIs u T) (hsub : PySem.W.subIn K (.type T) (.ref C) = some false)
    (hs : PySem.W.findIn K (.ref C) "__eq__" = some (some (.ref f))) (hf : PySem.W.isFn K (.ref f) = true) (hsame : ∀ s' (Z : Bool → Shared → Prop), R s' → Z false s' → wpAny (model prog w) A (isSame (.ref x) u) Z E s')
    (one : wpAny (model prog w) A (call (.ref f) [.ref x, u]) (fun v s' => v = .notImplemented ∧ R s') E s)
    (two : ∀ s', R s' → wpAny (model prog w) A (tryCompare u "__eq__" (.ref x)) (fun r s2 => r = none ∧ s2 = s') E s') (hq : ∀ s', R s' → Q (.bool false) s') :
    wpAny (model prog w) A (richCompare .Eq (.ref x) u) Q E s := by
  have one' : wpAny (model prog w) A (tryCompare (.ref x) "__eq__" u) (fun r s' => r = none ∧ R s') E s := by
    unfold tryCompare
    refine wpAny_bind (PySem.W.ifBound_K X I hs hf (wpAny_mono one (fun v s' hv => ?_) fun _ _ e => e))
    obtain ⟨rfl, hr⟩ := hv
    exact wpAny_pure ⟨rfl, hr⟩
  simp only [richCompare, cmpInfo_Eq, oneThing_ref]
  refine wpAny_holding (wpAny_bind (wpAny_cRoomFor hu ?_))
  refine wpAny_bind (I.type.here ?_)
  refine wpAny_bind (wpAny_typeOf hT ?_)
  split
  · refine wpAny_bind ((PySem.W.looks_subIn X hsub).here ?_)
    simp only [Bool.false_eq_true, if_false, Bool.not_false, if_true]
    refine wpAny_bind (m := tryCompare (.ref x) _ u) (wpAny_mono one' (fun r s1 z => ?_) fun _ _ e => e)
    obtain ⟨rfl, hr⟩ := z
    refine wpAny_bind (m := tryCompare u _ (.ref x)) (wpAny_mono (two s1 hr) (fun r s2 z => ?_) fun _ _ e => e)
    obtain ⟨rfl, rfl⟩ := z
    exact wpAny_bind (wpAny_rule (wpAny_bind (hsame _ _ hr (wpAny_pure (hq _ hr)))))
  · rename_i q
    exact absurd (by simp) q
end
/-- what the head tells of such a class -/
structure OwnN (K : PySem.W.Frag) (C : Addr) : Prop where
  kN : PySem.W.kitOne K (.type "NoneType") (.ref C) = some false
  kS : PySem.W.kitOne K (.type "str") (.ref C) = some false
  kT : PySem.W.kitOne K (.type "tuple") (.ref C) = some false
  sT : PySem.W.subIn K (.ref C) (.type "tuple") = some false
def ownNB (K : PySem.W.Frag) (x : Str) : Bool := decide (PySem.W.kitOne K (.type "NoneType") (.ref (He.ga K x)) = some false) && (decide (PySem.W.kitOne K (.type "str") (.ref (He.ga K x)) = some false) && (decide (PySem.W.kitOne K (.type "tuple") (.ref (He.ga K x)) = some false) && decide (PySem.W.subIn K (.ref (He.ga K x)) (.type "tuple") = some false)))
theorem ownNB_ok {K : PySem.W.Frag} {x : Str} (h : ownNB K x = true) : OwnN K (He.ga K x) := by
  obtain ⟨h1, h2⟩ := He.ba h
  obtain ⟨h3, h4⟩ := He.ba h2
  obtain ⟨h5, h6⟩ := He.ba h4
  exact ⟨of_decide_eq_true h1, of_decide_eq_true h3, of_decide_eq_true h5, of_decide_eq_true h6⟩
theorem sub_str {K : PySem.W.Frag} {C : Addr} : PySem.W.subIn K (.type "str") (.ref C) = some false := by
  have e : fastBuiltinMro "str" = some [.type "str", .type "object"] := by decide +kernel
  show (fastBuiltinMro "str").map (·.contains (.ref C)) = some false
  rw [e]
  first | rfl | simp
theorem sub_tuple {K : PySem.W.Frag} {C : Addr} : PySem.W.subIn K (.type "tuple") (.ref C) = some false := by
  have e : fastBuiltinMro "tuple" = some [.type "tuple", .type "object"] := by decide +kernel
  show (fastBuiltinMro "tuple").map (·.contains (.ref C)) = some false
  rw [e]
  first | rfl | simp
section
variable {prog : Program} {w : World} {A : Around} {E : Value → Shared → Prop} {s : Shared} {K : PySem.W.Frag} {x C t : Addr} {ox : Obj} {od : Option Obj}
theorem two_tuple {o : Obj} (X : K.In s.heap) (I : PySem.W.InstAt s.heap x ox C od) (hs : PySem.W.subIn K (.ref C) (.type "tuple") = some false) (ht : s.heap.get? t = some o) (hc : o.cls = .type "tuple") : wpAny (model prog w) A (tryCompare (.ref t) "__eq__" (.ref x)) (fun r s2 => r = none ∧ s2 = s) E s := by
  refine wpAny_tryCompare_declines (T := "tuple") ⟨o, ht, hc⟩ F.slot_tuple_eq_refl (wpAny_call_entry F.slot_tuple_eq_refl ⟨o, ht, hc⟩ F.entry_tuple_eq ?_ (F.args_tuple_eq_2 _ _))
  have l : PySem.W.Looks (model prog w) s.heap (isInstance (.ref x) (.type "tuple")) false := I.type.andThen (PySem.W.looks_subIn X hs)
  obtain ⟨hp, g, d, tk, os⟩ := s
  refine wpAny_bind (wpAny_pure (wpAny_bind (l.here ?_)))
  wp_walk
  exact ⟨_, rfl, rfl, rfl, rfl⟩
theorem two_str {z : Str} {tk : Tok} {dx : Addr} (hx : s.heap.get? x = some (PySem.W.instObj C dx)) : wpAny (model prog w) A (tryCompare (.str z tk) "__eq__" (.ref x)) (fun r s2 => r = none ∧ s2 = s) E s := by
  refine wpAny_tryCompare_declines (T := "str") rfl F.slot_str_eq_refl (wpAny_call_entry F.slot_str_eq_refl rfl F.entry_str_eq ?_ (F.args_str_eq_2 _ _))
  obtain ⟨hp, g, d, tk, os⟩ := s
  wp_walk using wpAny_load hx
  exact ⟨_, rfl, rfl, rfl, rfl⟩
end
/-- x == y, x an instance of C, y None, a text or a tuple -/
def rEqN (C : Addr) : R2 := fun x y H Q => ∃ a dx fs, x = .ref a ∧ H a = some (.ins C dx fs) ∧ (y = .non ∨ (∃ z, y = .str z) ∨ ∃ t xs, y = .ref t ∧ H t = some (.tup xs)) ∧ Q (.bl false) H
/-- the test: not isinstance(other, C) -/
abbrev tNotIs (K : PySem.W.Frag) (C : Addr) : TT := tNot (tB (tCB (rIsi K) (tCons (tVar 1) (tCons (tC (.ref C)) (tNil)))))
section
variable {X : Cx} {C : Addr} {k j : Nat}
theorem op_eqN {qual n0 n1 : Str} {params : Arguments} {body rest : List Stmt} {scope : Scope} {N : List Str} {f : Addr} {tst : Expr} {p1 p2 p3 : Pos}
    (o : OwnN X.K C) (m : Meth X.K C "__eq__" f) (F : ∃ fd, FunD X.K "__eq__" qual params body scope [] [] f fd) (S : FnScope N [n0, n1] scope) (eb : body = .If tst [.Return (some (.Name "NotImplemented" p1)) p2] [] p3 :: rest)
    (hb : ∀ (kV doc pm : Value) (an : Option Addr) (cdv ct : Value) (us : List Value), us.length = [n0, n1].length → bindArgs (PySem.W.fnOf "__eq__" qual params body scope .none kV doc pm an cdv ct) ⟨us, []⟩ = pure ([n0, n1].zip us))
    (ht : ∀ (cdv : Value) (A : Around) (outer : List Env) (s : Shared) (H : Hp), Room k (A.deeper (envOfC qual scope s.heap.objs.size f cdv)) → PT (cxOf CX0 X.prog X.w X.K X.mg X.base N qual scope f cdv A outer s H E0).nox tst (tNotIs X.K C))
    (hg : scope.names.lookup ("NotImplemented" : Str) = some .globalImplicit) (hm : X.mg ("NotImplemented" : Str) = none) (hr : Room j X.A) (hk : k + 1 ≤ j) : OpR X (compareOp .Eq) (rEqN C) := by
  intro pins s σ H x y v u Q I rx ry h
  obtain ⟨a, dx, fs, rfl, ha, hy, q⟩ := h
  cases rx
  obtain ⟨mA, J, _⟩ := ins_get I.hok ha
  have hobj := J.obj
  obtain ⟨od, J, _⟩ := J.look
  have hr' := hr.mono hk
  have hN1 : ∀ {w : V}, (start N [V.ref a, w])[1]? = some (some w) := fun {w} => rfl
  show wpAny (model X.prog X.w) X.A (richCompare .Eq (.ref a) u) (EP X pins σ Q) X.xe s
  have fin : ∀ s', Inv X pins σ H s' → EP X pins σ Q (.bool false) s' := fun s' I' => ⟨.bl false, H, I', rfl, q⟩
  have inst : ∀ {s'}, Inv X pins σ H s' → ∃ od', PySem.W.InstAt s'.heap a (PySem.W.instObj C dx) C (some od') := fun {s'} I' => by
    obtain ⟨mA', J', _⟩ := ins_get I'.hok ha
    obtain ⟨od', J', _⟩ := J'.look
    exact ⟨od', J'⟩
  have test : ∀ {t : Value} {y : V}, TyX X.K H y t → PySem.W.kitOne X.K t (.ref C) = some false → ∀ R : Bool → Hp → Prop, R true H → tNotIs X.K C (start N [V.ref a, y]) H R := fun {t y} ty e R hR => by
    refine ⟨y, hN1, _, _, _, _, false, rfl, .own C, ty, e, false, rfl, hR⟩
  rcases hy with rfl | ⟨z, rfl⟩ | ⟨t, xs, rfl, hxs⟩
  · cases ry
    refine rc_ni (T := "NoneType") hr'.units0 I.kIn J rfl HN.sub_none m.at_ m.fn (R := fun s' => Inv X pins σ H s') (fun s' Z _ hZ => HN.isSame_none hZ)
      (call_ni (vs := [.ref a, .non]) F S eb hb ht hg hm I hr' rfl (.cons rfl (.cons rfl .nil)) rfl (test (.base .non) o.kN) fun s' I' => I') (fun s' I' => ?_) fin
    exact wpAny_tryCompare_declines (show s'.TypeIs .none "NoneType" from rfl) PySem.F.slot_NoneType_eq_refl (call_gives PySem.F.slot_NoneType_eq_refl rfl PySem.F.entry_NoneType_eq (PySem.F.args_NoneType_eq_2 _ _) (PySem.SeqAt.NoneType___eq___none_ref_0 a) ⟨rfl, rfl, rfl⟩)
  · obtain ⟨tk, rfl⟩ := ry
    refine rc_ni (T := "str") hr'.units0 I.kIn J rfl sub_str m.at_ m.fn (R := fun s' => Inv X pins σ H s') (fun s' Z _ hZ => wpAny_of_eq (rfl : isSame (.ref a) (.str z tk) = pure false) hZ)
      (call_ni (vs := [.ref a, .str z]) F S eb hb ht hg hm I hr' rfl (.cons rfl (.cons ⟨_, rfl⟩ .nil)) rfl (test (.base (.str z)) o.kS) fun s' I' => I') (fun s' I' => ?_) fin
    obtain ⟨mA', J', _⟩ := ins_get I'.hok ha
    exact two_str J'.obj
  · cases ry
    have hat : a ≠ t := fun z => by rw [z, hxs] at ha; cases ha
    have tup : ∀ {s'}, Inv X pins σ H s' → ∃ o, s'.heap.get? t = some o ∧ o.cls = .type "tuple" := fun {s'} I' => by
      obtain ⟨_, _, _, o, h1, h2, _⟩ := (show ObjOk X.prog X.w H s'.heap t (.tup xs) from I'.hok t _ hxs)
      exact ⟨o, h1, h2⟩
    obtain ⟨o1, ho1, hc1⟩ := tup I
    refine rc_ni (T := "tuple") hr'.units0 I.kIn J ⟨o1, ho1, hc1⟩ sub_tuple m.at_ m.fn (R := fun s' => Inv X pins σ H s') (fun s' Z I' hZ => ?_)
      (call_ni (vs := [.ref a, .ref t]) F S eb hb ht hg hm I hr' rfl (.cons rfl (.cons rfl .nil)) rfl (test (.base (.tup hxs)) o.kT) fun s' I' => I') (fun s' I' => ?_) fin
    · obtain ⟨od', J'⟩ := inst I'
      obtain ⟨o2, ho2, hc2⟩ := tup I'
      unfold isSame
      dsimp only
      rw [if_neg (by simpa using hat)]
      refine wpAny_bind (wpAny_load J'.at_ (wpAny_bind (wpAny_load ho2 ?_)))
      rw [hc2]
      exact wpAny_pure hZ
    · obtain ⟨od', J'⟩ := inst I'
      obtain ⟨o2, ho2, hc2⟩ := tup I'
      exact two_tuple I'.kIn J' o.sT ho2 hc2
end
theorem u65 {j : Nat} {A : Around} (hr : Room j A) : A.units + 65 < cLine := by have := hr.un; omega
end FW
namespace FWL
open PySem PySem.Spec PyProof.Rows L2 FW
local macro_rules | `(tactic| walk_at "ln") => `(tactic| (intro vs H Q E h; repeat (obtain ⟨x', h⟩ := h; first | (rw [x']; rfl) | skip)))
structure Tx (K : PySem.W.Frag) (mg : Str → Option Value) : Prop where
  n_ValueError : mg "ValueError" = none
  n_enumerate : mg "enumerate" = none
  n_int : mg "int" = none
  n_isinstance : mg "isinstance" = none
  n_len : mg "len" = none
  n_list : mg "list" = none
  n_range : mg "range" = none
  n_str : mg "str" = none
  g_BadBeginning : mg "BadBeginning" = some (.ref (He.ga K "BadBeginning"))
  g_BadBracket : mg "BadBracket" = some (.ref (He.ga K "BadBracket"))
  g_BadField : mg "BadField" = some (.ref (He.ga K "BadField"))
  g_BadGuesses : mg "BadGuesses" = some (.ref (He.ga K "BadGuesses"))
  g_BadKind : mg "BadKind" = some (.ref (He.ga K "BadKind"))
  g_BadLoop : mg "BadLoop" = some (.ref (He.ga K "BadLoop"))
  g_BadNumber : mg "BadNumber" = some (.ref (He.ga K "BadNumber"))
  g_BadPower : mg "BadPower" = some (.ref (He.ga K "BadPower"))
  g_BadSought : mg "BadSought" = some (.ref (He.ga K "BadSought"))
  g_BadStart : mg "BadStart" = some (.ref (He.ga K "BadStart"))
  g_BadText : mg "BadText" = some (.ref (He.ga K "BadText"))
  g_FloorError : mg "FloorError" = some (.ref (He.ga K "FloorError"))
  g_NoGuess : mg "NoGuess" = some (.ref (He.ga K "NoGuess"))
  g_UnlikePowers : mg "UnlikePowers" = some (.ref (He.ga K "UnlikePowers"))
  g_UnlikeSteps : mg "UnlikeSteps" = some (.ref (He.ga K "UnlikeSteps"))
  g__law_kinds : mg "_law_kinds" = some (.ref (He.ga K "_law_kinds"))
  g__law_kept : mg "_law_kept" = some (.ref (He.ga K "_law_kept"))
  g_law : mg "law" = some (.ref (He.ga K "law"))
  d_l_kinds : ∃ fd, FunD K "_law_kinds" "_law_kinds" (defArgs st_l_kinds) (defBody st_l_kinds) (defScope st_l_kinds) [] [] (He.ga K "_law_kinds") fd
  d_l_kept : ∃ fd, FunD K "_law_kept" "_law_kept" (defArgs st_l_kept) (defBody st_l_kept) (defScope st_l_kept) [] [] (He.ga K "_law_kept") fd
  d_law : ∃ fd, FunD K "law" "law" (defArgs st_law) (defBody st_law) (defScope st_law) [] [] (He.ga K "law") fd
  e_BadBeginning : PySem.ErrX.ErrC PySem.Challenge.pw_floorward_k26_errors_made K (He.ga K "BadBeginning") (He.ma K (He.ga K "BadBeginning") "__init__") "word"
  e_BadBracket : PySem.ErrX.ErrC0 PySem.Challenge.pw_floorward_k26_errors_made K (He.ga K "BadBracket") (He.ma K (He.ga K "BadBracket") "__init__")
  e_BadField : PySem.ErrX.ErrC PySem.Challenge.pw_floorward_k26_errors_made K (He.ga K "BadField") (He.ma K (He.ga K "BadField") "__init__") "field"
  e_BadGuesses : PySem.ErrX.ErrC0 PySem.Challenge.pw_floorward_k26_errors_made K (He.ga K "BadGuesses") (He.ma K (He.ga K "BadGuesses") "__init__")
  e_BadKind : PySem.ErrX.ErrC PySem.Challenge.pw_floorward_k26_errors_made K (He.ga K "BadKind") (He.ma K (He.ga K "BadKind") "__init__") "value"
  e_BadLoop : PySem.ErrX.ErrC PySem.Challenge.pw_floorward_k26_errors_made K (He.ga K "BadLoop") (He.ma K (He.ga K "BadLoop") "__init__") "word"
  e_BadNumber : PySem.ErrX.ErrC PySem.Challenge.pw_floorward_k26_errors_made K (He.ga K "BadNumber") (He.ma K (He.ga K "BadNumber") "__init__") "value"
  e_BadPower : PySem.ErrX.ErrC PySem.Challenge.pw_floorward_k26_errors_made K (He.ga K "BadPower") (He.ma K (He.ga K "BadPower") "__init__") "value"
  e_BadSought : PySem.ErrX.ErrC PySem.Challenge.pw_floorward_k26_errors_made K (He.ga K "BadSought") (He.ma K (He.ga K "BadSought") "__init__") "word"
  e_BadStart : PySem.ErrX.ErrC PySem.Challenge.pw_floorward_k26_errors_made K (He.ga K "BadStart") (He.ma K (He.ga K "BadStart") "__init__") "value"
  e_BadText : PySem.ErrX.ErrC0 PySem.Challenge.pw_floorward_k26_errors_made K (He.ga K "BadText") (He.ma K (He.ga K "BadText") "__init__")
  e_NoGuess : PySem.ErrX.ErrC0 PySem.Challenge.pw_floorward_k26_errors_made K (He.ga K "NoGuess") (He.ma K (He.ga K "NoGuess") "__init__")
  e_UnlikePowers : PySem.ErrX.ErrC0 PySem.Challenge.pw_floorward_k26_errors_made K (He.ga K "UnlikePowers") (He.ma K (He.ga K "UnlikePowers") "__init__")
  e_UnlikeSteps : PySem.ErrX.ErrC0 PySem.Challenge.pw_floorward_k26_errors_made K (He.ga K "UnlikeSteps") (He.ma K (He.ga K "UnlikeSteps") "__init__")
  eb_FloorError : PySem.W.excIn K (He.ga K "FloorError") [.type "ValueError", .type "Exception", .type "BaseException", .type "object"] "ValueError.__new__" = true
  ek_FloorError : PySem.W.keepIn K (.ref (He.ga K "FloorError")) = true
  kx : ∀ x ∈ (["FloorError", "BadNumber", "BadPower", "BadLoop", "BadStart", "BadField", "BadGuesses", "BadBeginning", "BadSought", "BadBracket", "BadKind", "BadText", "UnlikePowers", "UnlikeSteps", "NoGuess"] : List Str), ExcC K (He.ga K x)
  ko : ∀ x ∈ (["FloorError", "BadNumber", "BadPower", "BadLoop", "BadStart", "BadField", "BadGuesses", "BadBeginning", "BadSought", "BadBracket", "BadKind", "BadText", "UnlikePowers", "UnlikeSteps", "NoGuess"] : List Str), ∀ y ∈ (["FloorError", "BadNumber", "BadPower", "BadLoop", "BadStart", "BadField", "BadGuesses", "BadBeginning", "BadSought", "BadBracket", "BadKind", "BadText", "UnlikePowers", "UnlikeSteps", "NoGuess"] : List Str), PySem.W.kitOne K (.ref (He.ga K x))  (.ref (He.ga K y)) = some (decide (x = y ∨ y = "FloorError"))
  kv : ∀ x ∈ (["FloorError", "BadNumber", "BadPower", "BadLoop", "BadStart", "BadField", "BadGuesses", "BadBeginning", "BadSought", "BadBracket", "BadKind", "BadText", "UnlikePowers", "UnlikeSteps", "NoGuess"] : List Str), PySem.W.kitOne K (.ref (He.ga K x))  (.type "ValueError") = some true
theorem Tx.gv {K : PySem.W.Frag} {mg : Str → Option Value} (T : Tx K mg) : ∀ x ∈ (["BadNumber", "BadPower", "BadStart", "BadKind"] : List Str), FW.ErrG K (He.ga K x) "value" := fun x hx => by
  simp only [List.mem_cons, List.not_mem_nil, or_false] at hx
  rcases hx with rfl | rfl | rfl | rfl
  · exact FW.ErrG.of T.e_BadNumber
  · exact FW.ErrG.of T.e_BadPower
  · exact FW.ErrG.of T.e_BadStart
  · exact FW.ErrG.of T.e_BadKind
theorem Tx.gw {K : PySem.W.Frag} {mg : Str → Option Value} (T : Tx K mg) : ∀ x ∈ (["BadLoop", "BadBeginning", "BadSought"] : List Str), FW.ErrG K (He.ga K x) "word" := fun x hx => by
  simp only [List.mem_cons, List.not_mem_nil, or_false] at hx
  rcases hx with rfl | rfl | rfl
  · exact FW.ErrG.of T.e_BadLoop
  · exact FW.ErrG.of T.e_BadBeginning
  · exact FW.ErrG.of T.e_BadSought
theorem Tx.ev {K : PySem.W.Frag} {mg : Str → Option Value} (T : Tx K mg) : ErV K := ⟨T.kx, T.ko, T.kv, T.gv, T.gw, FW.ErrG.of T.e_BadField⟩
abbrev PP : Program := PySem.Challenge.pw_floorward_k26_errors_made
section
variable {w : World} {K : PySem.W.Frag} {mg : Str → Option Value} {base : Heap}
theorem dv_l_kinds {f : Addr} {cdv : Value} {A : Around} {outer : List Env} {s : Shared} {H : Hp} {E : XK} (T : Tx K mg) (hr : Room 0 (A.deeper (envOfC "_law_kinds" (defScope st_l_kinds) s.heap.objs.size f cdv))) : PSs (cxOf CX0 PP w K mg base N_l_kinds "_law_kinds" (defScope st_l_kinds) f cdv A outer s H E).nox (defBody st_l_kinds) (rd_l_kinds K) := by
  exact pss_cons (ps_set (i := 1) sc_l_kinds.nd rfl (Or.inl rfl) (pe_lst (pa_cons (pe_callB FW.call_isV (by rfl) T.n_isinstance (by decide +kernel) (pa_cons (pv 0) (pa_cons (pe_glob (by rfl) T.g_BadNumber rfl) (pa_nil)))) (pa_cons (pe_callB FW.call_isV (by rfl) T.n_isinstance (by decide +kernel) (pa_cons (pv 0) (pa_cons (pe_glob (by rfl) T.g_BadPower rfl) (pa_nil)))) (pa_cons (pe_callB FW.call_isV (by rfl) T.n_isinstance (by decide +kernel) (pa_cons (pv 0) (pa_cons (pe_glob (by rfl) T.g_BadLoop rfl) (pa_nil)))) (pa_cons (pe_callB FW.call_isV (by rfl) T.n_isinstance (by decide +kernel) (pa_cons (pv 0) (pa_cons (pe_glob (by rfl) T.g_BadStart rfl) (pa_nil)))) (pa_nil))))))) (pss_cons (ps_expr (pe_bm PySem.F.plainAttrs_list PySem.F.slot_list_extend PySem.F.type_list_extend mt_extend (pv 1) (pa_cons (pe_lst (pa_cons (pe_callB FW.call_isV (by rfl) T.n_isinstance (by decide +kernel) (pa_cons (pv 0) (pa_cons (pe_glob (by rfl) T.g_BadField rfl) (pa_nil)))) (pa_cons (pe_callB FW.call_isV (by rfl) T.n_isinstance (by decide +kernel) (pa_cons (pv 0) (pa_cons (pe_glob (by rfl) T.g_BadGuesses rfl) (pa_nil)))) (pa_cons (pe_callB FW.call_isV (by rfl) T.n_isinstance (by decide +kernel) (pa_cons (pv 0) (pa_cons (pe_glob (by rfl) T.g_BadBeginning rfl) (pa_nil)))) (pa_nil))))) (pa_nil)))) (pss_cons (ps_expr (pe_bm PySem.F.plainAttrs_list PySem.F.slot_list_extend PySem.F.type_list_extend mt_extend (pv 1) (pa_cons (pe_lst (pa_cons (pe_callB FW.call_isV (by rfl) T.n_isinstance (by decide +kernel) (pa_cons (pv 0) (pa_cons (pe_glob (by rfl) T.g_BadSought rfl) (pa_nil)))) (pa_cons (pe_callB FW.call_isV (by rfl) T.n_isinstance (by decide +kernel) (pa_cons (pv 0) (pa_cons (pe_glob (by rfl) T.g_BadBracket rfl) (pa_nil)))) (pa_cons (pe_callB FW.call_isV (by rfl) T.n_isinstance (by decide +kernel) (pa_cons (pv 0) (pa_cons (pe_glob (by rfl) T.g_BadKind rfl) (pa_nil)))) (pa_nil))))) (pa_nil)))) (pss_cons (ps_expr (pe_bm PySem.F.plainAttrs_list PySem.F.slot_list_extend PySem.F.type_list_extend mt_extend (pv 1) (pa_cons (pe_lst (pa_cons (pe_callB FW.call_isV (by rfl) T.n_isinstance (by decide +kernel) (pa_cons (pv 0) (pa_cons (pe_glob (by rfl) T.g_BadText rfl) (pa_nil)))) (pa_cons (pe_callB FW.call_isV (by rfl) T.n_isinstance (by decide +kernel) (pa_cons (pv 0) (pa_cons (pe_glob (by rfl) T.g_UnlikePowers rfl) (pa_nil)))) (pa_cons (pe_callB FW.call_isV (by rfl) T.n_isinstance (by decide +kernel) (pa_cons (pv 0) (pa_cons (pe_glob (by rfl) T.g_UnlikeSteps rfl) (pa_nil)))) (pa_nil))))) (pa_nil)))) (pss_one (ps_ret (pe_op op_cat (pv 1) (pe_lst (pa_cons (pe_callB FW.call_isV (by rfl) T.n_isinstance (by decide +kernel) (pa_cons (pv 0) (pa_cons (pe_glob (by rfl) T.g_NoGuess rfl) (pa_nil)))) (pa_nil)))))))))
theorem ok_l_kinds (T : Tx K mg) : Fn PP w K mg base CX0 1 "_law_kinds" (sp_l_kinds K) [] :=
  Fn.mk0 T.d_l_kinds T.g__law_kinds sc_l_kinds (fun _ _ _ _ _ _ us hl => match us, hl with | [_], _ => rfl) (by walk_at "ln") (fun cdv A outer s H vs Q E hr h => ⟨rd_l_kinds K, dv_l_kinds T hr, pure_l_kinds K T.ev vs H Q E h⟩)
theorem dv_l_kept {f : Addr} {cdv : Value} {A : Around} {outer : List Env} {s : Shared} {H : Hp} {E : XK} (T : Tx K mg) (hr : Room 0 (A.deeper (envOfC "_law_kept" (defScope st_l_kept) s.heap.objs.size f cdv))) : PSs (cxOf CX0 PP w K mg base N_l_kept "_law_kept" (defScope st_l_kept) f cdv A outer s H E).nox (defBody st_l_kept) (rd_l_kept K) := by
  exact pss_cons (ps_set (i := 1) sc_l_kept.nd rfl (Or.inl rfl) (pe_lst (pa_cons (FW.pe_byV (FW.pe_errV T.e_BadNumber (Or.inl rfl) T.g_BadNumber hr (pa_cons (pv 0) (pa_nil)) (by rfl))) (pa_cons (FW.pe_byV (FW.pe_errK T.e_BadNumber (Or.inl rfl) T.g_BadNumber hr (pk_cons (pv 0) pk_nil) (by rfl))) (pa_cons (FW.pe_byV (FW.pe_errV T.e_BadPower (Or.inl rfl) T.g_BadPower hr (pa_cons (pv 0) (pa_nil)) (by rfl))) (pa_nil)))))) (pss_cons (ps_expr (pe_bm PySem.F.plainAttrs_list PySem.F.slot_list_extend PySem.F.type_list_extend mt_extend (pv 1) (pa_cons (pe_lst (pa_cons (FW.pe_byV (FW.pe_errK T.e_BadPower (Or.inl rfl) T.g_BadPower hr (pk_cons (pv 0) pk_nil) (by rfl))) (pa_cons (FW.pe_byV (FW.pe_errV T.e_BadLoop (Or.inr (Or.inl rfl)) T.g_BadLoop hr (pa_cons (pv 0) (pa_nil)) (by rfl))) (pa_cons (FW.pe_byV (FW.pe_errK T.e_BadLoop (Or.inr (Or.inl rfl)) T.g_BadLoop hr (pk_cons (pv 0) pk_nil) (by rfl))) (pa_nil))))) (pa_nil)))) (pss_cons (ps_expr (pe_bm PySem.F.plainAttrs_list PySem.F.slot_list_extend PySem.F.type_list_extend mt_extend (pv 1) (pa_cons (pe_lst (pa_cons (FW.pe_byV (FW.pe_errV T.e_BadStart (Or.inl rfl) T.g_BadStart hr (pa_cons (pv 0) (pa_nil)) (by rfl))) (pa_cons (FW.pe_byV (FW.pe_errK T.e_BadStart (Or.inl rfl) T.g_BadStart hr (pk_cons (pv 0) pk_nil) (by rfl))) (pa_cons (FW.pe_byV (FW.pe_errV T.e_BadField (Or.inr (Or.inr rfl)) T.g_BadField hr (pa_cons (pv 0) (pa_nil)) (by rfl))) (pa_nil))))) (pa_nil)))) (pss_cons (ps_expr (pe_bm PySem.F.plainAttrs_list PySem.F.slot_list_extend PySem.F.type_list_extend mt_extend (pv 1) (pa_cons (pe_lst (pa_cons (FW.pe_byV (FW.pe_errK T.e_BadField (Or.inr (Or.inr rfl)) T.g_BadField hr (pk_cons (pv 0) pk_nil) (by rfl))) (pa_cons (FW.pe_byV (FW.pe_errV T.e_BadBeginning (Or.inr (Or.inl rfl)) T.g_BadBeginning hr (pa_cons (pv 0) (pa_nil)) (by rfl))) (pa_cons (FW.pe_byV (FW.pe_errK T.e_BadBeginning (Or.inr (Or.inl rfl)) T.g_BadBeginning hr (pk_cons (pv 0) pk_nil) (by rfl))) (pa_nil))))) (pa_nil)))) (pss_cons (ps_expr (pe_bm PySem.F.plainAttrs_list PySem.F.slot_list_extend PySem.F.type_list_extend mt_extend (pv 1) (pa_cons (pe_lst (pa_cons (FW.pe_byV (FW.pe_errV T.e_BadSought (Or.inr (Or.inl rfl)) T.g_BadSought hr (pa_cons (pv 0) (pa_nil)) (by rfl))) (pa_cons (FW.pe_byV (FW.pe_errK T.e_BadSought (Or.inr (Or.inl rfl)) T.g_BadSought hr (pk_cons (pv 0) pk_nil) (by rfl))) (pa_cons (FW.pe_byV (FW.pe_errV T.e_BadKind (Or.inl rfl) T.g_BadKind hr (pa_cons (pv 0) (pa_nil)) (by rfl))) (pa_nil))))) (pa_nil)))) (pss_cons (ps_expr (pe_bm PySem.F.plainAttrs_list PySem.F.slot_list_append PySem.F.type_list_append mt_append (pv 1) (pa_cons (FW.pe_byV (FW.pe_errK T.e_BadKind (Or.inl rfl) T.g_BadKind hr (pk_cons (pv 0) pk_nil) (by rfl))) (pa_nil)))) (pss_one (ps_ret (pe_cmpR (op_eqD hr.units) (pv 1) (pe_op op_rep (pe_lst (pa_cons (pv 0) (pa_nil))) (pe_callB call_len_seq (by rfl) T.n_len (by decide +kernel) (pa_cons (pv 1) (pa_nil)))) (nomark _)))))))))
theorem ok_l_kept (T : Tx K mg) : Fn PP w K mg base CX0 1 "_law_kept" (sp_l_kept K) [] :=
  Fn.mk0 T.d_l_kept T.g__law_kept sc_l_kept (fun _ _ _ _ _ _ us hl => match us, hl with | [_], _ => rfl) (by walk_at "ln") (fun cdv A outer s H vs Q E hr h => ⟨rd_l_kept K, dv_l_kept T hr, pure_l_kept K T.ev vs H Q E h⟩)
theorem dv_law {f : Addr} {cdv : Value} {A : Around} {outer : List Env} {s : Shared} {H : Hp} {E : XK} (T : Tx K mg) (hr : Room 1 (A.deeper (envOfC "law" (defScope st_law) s.heap.objs.size f cdv))) : PSs (cxOf CX0 PP w K mg base N_law "law" (defScope st_law) f cdv A outer s H E).nox (defBody st_law) (rd_law K) := by
  exact pss_cons (ps_set (i := 1) sc_law.nd rfl (Or.inl rfl) (pe_lst (pa_cons (FW.pe_errV T.e_BadNumber (Or.inl rfl) T.g_BadNumber hr (pa_cons (pe_int) (pa_nil)) (by rfl)) (pa_cons (FW.pe_errV T.e_BadPower (Or.inl rfl) T.g_BadPower hr (pa_cons (pe_int) (pa_nil)) (by rfl)) (pa_cons (FW.pe_errV T.e_BadLoop (Or.inr (Or.inl rfl)) T.g_BadLoop hr (pa_cons (pe_str) (pa_nil)) (by rfl)) (pa_cons (FW.pe_errV T.e_BadStart (Or.inl rfl) T.g_BadStart hr (pa_cons (pe_non) (pa_nil)) (by rfl)) (pa_cons (FW.pe_errV T.e_BadField (Or.inr (Or.inr rfl)) T.g_BadField hr (pa_cons (pe_str) (pa_nil)) (by rfl)) (pa_cons (FW.pe_err0V T.e_BadGuesses T.g_BadGuesses hr (by rfl)) (pa_nil))))))))) (pss_cons (ps_expr (pe_bm PySem.F.plainAttrs_list PySem.F.slot_list_extend PySem.F.type_list_extend mt_extend (pv 1) (pa_cons (pe_lst (pa_cons (FW.pe_errV T.e_BadBeginning (Or.inr (Or.inl rfl)) T.g_BadBeginning hr (pa_cons (pe_str) (pa_nil)) (by rfl)) (pa_cons (FW.pe_errV T.e_BadSought (Or.inr (Or.inl rfl)) T.g_BadSought hr (pa_cons (pe_str) (pa_nil)) (by rfl)) (pa_cons (FW.pe_err0V T.e_BadBracket T.g_BadBracket hr (by rfl)) (pa_cons (FW.pe_errV T.e_BadKind (Or.inl rfl) T.g_BadKind hr (pa_cons (pe_lst (pa_nil)) (pa_nil)) (by rfl)) (pa_cons (FW.pe_err0V T.e_BadText T.g_BadText hr (by rfl)) (pa_cons (FW.pe_err0V T.e_UnlikePowers T.g_UnlikePowers hr (by rfl)) (pa_nil)))))))) (pa_nil)))) (pss_cons (ps_expr (pe_bm PySem.F.plainAttrs_list PySem.F.slot_list_extend PySem.F.type_list_extend mt_extend (pv 1) (pa_cons (pe_lst (pa_cons (FW.pe_err0V T.e_UnlikeSteps T.g_UnlikeSteps hr (by rfl)) (pa_cons (FW.pe_err0V T.e_NoGuess T.g_NoGuess hr (by rfl)) (pa_nil)))) (pa_nil)))) (pss_cons (ps_for PassesOwn.never rfl (pi_enum (by rfl) T.n_enumerate (pa_cons (pv 1) (pa_nil))) (pg_tup rfl (pgs_cons (pg_name (i := 2) sc_law.nd rfl (Or.inr rfl)) (pgs_cons (pg_name (i := 3) sc_law.nd rfl (Or.inl rfl)) (pgs_nil)))) (pss_cons (ps_if (PW.pt (pw_or (pt_cmpR (op_neD hr.units) (FW.pe_f (ok_l_kinds T) hr (by decide) (by rfl) (pa_cons (pv 3) (pa_nil))) (pe_lc (own := [("_law_j", 4)]) (g := gName 4) (tt := tYes) rfl sc_law.nd (pi_range1 (by rfl) T.n_range (pa_cons (pe_int) (pa_nil))) (blkOk_by (own := [("_law_j", 4)]) (N := N_law) (sc := defScope st_law) (by decide +kernel)) (fun _ _ _ _ _ => pg_name (i := 4) sc_law.nd rfl (Or.inl rfl)) (fun _ _ _ _ _ => pts_nil) (fun _ _ _ _ _ => pe_cmpR op_eq (pv 4) (pv 2) (nomark _))) (nomark _)) (pw_or1 (pt_not (pt_val (pe_callB FW.call_isV (by rfl) T.n_isinstance (by decide +kernel) (pa_cons (pv 3) (pa_cons (pe_glob (by rfl) T.g_FloorError rfl) (pa_nil))))))))) (pss_one (ps_ret (pe_bl))) (pss_nil)) (pss_one (ps_if (pt_not (pt_val (pe_callB FW.call_isV (by rfl) T.n_isinstance (by decide +kernel) (pa_cons (pv 3) (pa_cons (pe_bltn (by rfl) T.n_ValueError (by decide +kernel) rfl) (pa_nil)))))) (pss_one (ps_ret (pe_bl))) (pss_nil))))) (pss_cons (ps_if (PW.pt (pw_or (pt_cmpR (op_inD (FW.u65 hr)) (pe_bl) (FW.pe_f (ok_l_kinds T) hr (by decide) (by rfl) (pa_cons (FW.pe_errB PySem.F.excBase_ValueError T.eb_FloorError T.g_FloorError T.ek_FloorError (by rfl)) (pa_nil))) (by rfl)) (pw_or1 (pt_not (pt_val (pe_callB FW.call_isV (by rfl) T.n_isinstance (by decide +kernel) (pa_cons (FW.pe_errB PySem.F.excBase_ValueError T.eb_FloorError T.g_FloorError T.ek_FloorError (by rfl)) (pa_cons (pe_bltn (by rfl) T.n_ValueError (by decide +kernel) rfl) (pa_nil))))))))) (pss_one (ps_ret (pe_bl))) (pss_nil)) (pss_cons (ps_for PassesOwn.never rfl (pi_list (pe_slice sl_list (pe_op op_cat (pe_callTy call_list_of (by rfl) T.n_list (by decide +kernel) (pa_cons (pv 0) (pa_nil))) (pe_lst (pa_cons (pe_int) (pa_cons (pe_int) (pa_cons (pe_un un_neg (pe_int)) (pa_nil)))))) (po_none) (po_some (pe_int)))) (pg_name (i := 5) sc_law.nd rfl (Or.inl rfl)) (pss_one (ps_for PassesOwn.never rfl (pi_list (pe_lst (pa_cons (pv 5) (pa_cons (pe_op FW.op_addS (pe_str) (pe_callTy call_str_int (by rfl) T.n_str (by decide +kernel) (pa_cons (pe_op FW.opMod (pe_callTy call_int1 (by rfl) T.n_int (by decide +kernel) (pa_cons (pv 5) (pa_nil))) (pe_int)) (pa_nil)))) (pa_cons (pe_non) (pa_cons (pe_tup (pa_cons (pe_int) (pa_cons (pe_op FW.opMod (pe_callTy call_int1 (by rfl) T.n_int (by decide +kernel) (pa_cons (pv 5) (pa_nil))) (pe_int)) (pa_nil)))) (pa_cons (pe_lst (pa_cons (pe_op FW.opMod (pe_callTy call_int1 (by rfl) T.n_int (by decide +kernel) (pa_cons (pv 5) (pa_nil))) (pe_int)) (pa_nil))) (pa_cons (pe_op FW.opPow (pe_int) (pe_int)) (pa_nil))))))))) (pg_name (i := 6) sc_law.nd rfl (Or.inl rfl)) (pss_one (ps_if (pt_not (pt_val (FW.pe_f (ok_l_kept T) hr (by decide) (by rfl) (pa_cons (pv 6) (pa_nil))))) (pss_one (ps_ret (pe_bl))) (pss_nil)))))) (pss_one (ps_ret (pe_bl))))))))
theorem ok_law (T : Tx K mg) : Fn PP w K mg base CX0 2 "law" (sp_law K) [] :=
  Fn.mk0 T.d_law T.g_law sc_law (fun _ _ _ _ _ _ us hl => match us, hl with | [_], _ => rfl) (by walk_at "ln") (fun cdv A outer s H vs Q E hr h => ⟨rd_law K, dv_law T hr, pure_law K T.ev vs H Q E h⟩)
end
/-! ### the head -/
theorem tx_of {K : PySem.W.Frag} {h : Heap} {mg : Str → Option Value} (X : K.In h) (G : h.Ns mainGlobals mg) (c : He.SaysD fa fn K) (cx : ex K = true) (ce : er.map (fun d => fnE K d.x) = er.map ErrD.val) : Tx K mg := by
  have EX0 : errB K PySem.Challenge.pw_floorward_k26_errors_made.main.file "BadBeginning" "word" = true := List.all_eq_true.mp cx _ (List.mem_of_getElem? (i := 0) rfl)
  have EX1 : errB0 K PySem.Challenge.pw_floorward_k26_errors_made.main.file "BadBracket" = true := List.all_eq_true.mp cx _ (List.mem_of_getElem? (i := 1) rfl)
  have EX2 : errB K PySem.Challenge.pw_floorward_k26_errors_made.main.file "BadField" "field" = true := List.all_eq_true.mp cx _ (List.mem_of_getElem? (i := 2) rfl)
  have EX3 : errB0 K PySem.Challenge.pw_floorward_k26_errors_made.main.file "BadGuesses" = true := List.all_eq_true.mp cx _ (List.mem_of_getElem? (i := 3) rfl)
  have EX4 : errB K PySem.Challenge.pw_floorward_k26_errors_made.main.file "BadKind" "value" = true := List.all_eq_true.mp cx _ (List.mem_of_getElem? (i := 4) rfl)
  have EX5 : errB K PySem.Challenge.pw_floorward_k26_errors_made.main.file "BadLoop" "word" = true := List.all_eq_true.mp cx _ (List.mem_of_getElem? (i := 5) rfl)
  have EX6 : errB K PySem.Challenge.pw_floorward_k26_errors_made.main.file "BadNumber" "value" = true := List.all_eq_true.mp cx _ (List.mem_of_getElem? (i := 6) rfl)
  have EX7 : errB K PySem.Challenge.pw_floorward_k26_errors_made.main.file "BadPower" "value" = true := List.all_eq_true.mp cx _ (List.mem_of_getElem? (i := 7) rfl)
  have EX8 : errB K PySem.Challenge.pw_floorward_k26_errors_made.main.file "BadSought" "word" = true := List.all_eq_true.mp cx _ (List.mem_of_getElem? (i := 8) rfl)
  have EX9 : errB K PySem.Challenge.pw_floorward_k26_errors_made.main.file "BadStart" "value" = true := List.all_eq_true.mp cx _ (List.mem_of_getElem? (i := 9) rfl)
  have EX10 : errB0 K PySem.Challenge.pw_floorward_k26_errors_made.main.file "BadText" = true := List.all_eq_true.mp cx _ (List.mem_of_getElem? (i := 10) rfl)
  have EX11 : errB0 K PySem.Challenge.pw_floorward_k26_errors_made.main.file "NoGuess" = true := List.all_eq_true.mp cx _ (List.mem_of_getElem? (i := 11) rfl)
  have EX12 : errB0 K PySem.Challenge.pw_floorward_k26_errors_made.main.file "UnlikePowers" = true := List.all_eq_true.mp cx _ (List.mem_of_getElem? (i := 12) rfl)
  have EX13 : errB0 K PySem.Challenge.pw_floorward_k26_errors_made.main.file "UnlikeSteps" = true := List.all_eq_true.mp cx _ (List.mem_of_getElem? (i := 13) rfl)
  have EX14 : PySem.W.excIn K (He.ga K "FloorError") [.type "ValueError", .type "Exception", .type "BaseException", .type "object"] "ValueError.__new__" = true := List.all_eq_true.mp cx _ (List.mem_of_getElem? (i := 14) rfl)
  have EX15 : PySem.W.keepIn K (.ref (He.ga K "FloorError")) = true := List.all_eq_true.mp cx _ (List.mem_of_getElem? (i := 15) rfl)
  have EX16 : (["FloorError", "BadNumber", "BadPower", "BadLoop", "BadStart", "BadField", "BadGuesses", "BadBeginning", "BadSought", "BadBracket", "BadKind", "BadText", "UnlikePowers", "UnlikeSteps", "NoGuess"] : List Str).all (FW.excB K) = true := List.all_eq_true.mp cx _ (List.mem_of_getElem? (i := 16) rfl)
  have EX17 : ((["FloorError", "BadNumber", "BadPower", "BadLoop", "BadStart", "BadField", "BadGuesses", "BadBeginning", "BadSought", "BadBracket", "BadKind", "BadText", "UnlikePowers", "UnlikeSteps", "NoGuess"] : List Str).all fun x => (["FloorError", "BadNumber", "BadPower", "BadLoop", "BadStart", "BadField", "BadGuesses", "BadBeginning", "BadSought", "BadBracket", "BadKind", "BadText", "UnlikePowers", "UnlikeSteps", "NoGuess"] : List Str).all fun y => decide (PySem.W.kitOne K (.ref (He.ga K x))  (.ref (He.ga K y)) = some (decide (x = y ∨ y = "FloorError")))) = true := List.all_eq_true.mp cx _ (List.mem_of_getElem? (i := 17) rfl)
  have EX18 : ((["FloorError", "BadNumber", "BadPower", "BadLoop", "BadStart", "BadField", "BadGuesses", "BadBeginning", "BadSought", "BadBracket", "BadKind", "BadText", "UnlikePowers", "UnlikeSteps", "NoGuess"] : List Str).all fun x => decide (PySem.W.kitOne K (.ref (He.ga K x))  (.type "ValueError") = some true)) = true := List.all_eq_true.mp cx _ (List.mem_of_getElem? (i := 18) rfl)
  exact {
    n_ValueError := He.free_ok X G (c.fact 0 (f := .free "ValueError") rfl),
    n_enumerate := He.free_ok X G (c.fact 1 (f := .free "enumerate") rfl),
    n_int := He.free_ok X G (c.fact 2 (f := .free "int") rfl),
    n_isinstance := He.free_ok X G (c.fact 3 (f := .free "isinstance") rfl),
    n_len := He.free_ok X G (c.fact 4 (f := .free "len") rfl),
    n_list := He.free_ok X G (c.fact 5 (f := .free "list") rfl),
    n_range := He.free_ok X G (c.fact 6 (f := .free "range") rfl),
    n_str := He.free_ok X G (c.fact 7 (f := .free "str") rfl),
    g_BadBeginning := He.glo_ok X G (c.fact 8 (f := .glo "BadBeginning") rfl),
    g_BadBracket := He.glo_ok X G (c.fact 9 (f := .glo "BadBracket") rfl),
    g_BadField := He.glo_ok X G (c.fact 10 (f := .glo "BadField") rfl),
    g_BadGuesses := He.glo_ok X G (c.fact 11 (f := .glo "BadGuesses") rfl),
    g_BadKind := He.glo_ok X G (c.fact 12 (f := .glo "BadKind") rfl),
    g_BadLoop := He.glo_ok X G (c.fact 13 (f := .glo "BadLoop") rfl),
    g_BadNumber := He.glo_ok X G (c.fact 14 (f := .glo "BadNumber") rfl),
    g_BadPower := He.glo_ok X G (c.fact 15 (f := .glo "BadPower") rfl),
    g_BadSought := He.glo_ok X G (c.fact 16 (f := .glo "BadSought") rfl),
    g_BadStart := He.glo_ok X G (c.fact 17 (f := .glo "BadStart") rfl),
    g_BadText := He.glo_ok X G (c.fact 18 (f := .glo "BadText") rfl),
    g_FloorError := He.glo_ok X G (c.fact 19 (f := .glo "FloorError") rfl),
    g_NoGuess := He.glo_ok X G (c.fact 20 (f := .glo "NoGuess") rfl),
    g_UnlikePowers := He.glo_ok X G (c.fact 21 (f := .glo "UnlikePowers") rfl),
    g_UnlikeSteps := He.glo_ok X G (c.fact 22 (f := .glo "UnlikeSteps") rfl),
    g__law_kinds := He.glo_ok X G (c.fact 23 (f := .glo "_law_kinds") rfl),
    g__law_kept := He.glo_ok X G (c.fact 24 (f := .glo "_law_kept") rfl),
    g_law := He.glo_ok X G (c.fact 25 (f := .glo "law") rfl),
    d_l_kinds := c.def_ 0 rfl,
    d_l_kept := c.def_ 1 rfl,
    d_law := c.def_ 2 rfl,
    e_BadBeginning := errC_of (prog := PySem.Challenge.pw_floorward_k26_errors_made) (errs_at ce 0 rfl) EX0 ⟨_, _, rfl⟩ ⟨_, _, _, _, _, _, _, _, _, _, _, rfl, by decide⟩ rfl (by decide +kernel),
    e_BadBracket := errC0_of (prog := PySem.Challenge.pw_floorward_k26_errors_made) (errs_at ce 1 rfl) EX1 ⟨_, rfl⟩ ⟨_, _, _, _, _, _, _, rfl, by decide⟩ rfl (by decide +kernel),
    e_BadField := errC_of (prog := PySem.Challenge.pw_floorward_k26_errors_made) (errs_at ce 2 rfl) EX2 ⟨_, _, rfl⟩ ⟨_, _, _, _, _, _, _, _, _, _, _, rfl, by decide⟩ rfl (by decide +kernel),
    e_BadGuesses := errC0_of (prog := PySem.Challenge.pw_floorward_k26_errors_made) (errs_at ce 3 rfl) EX3 ⟨_, rfl⟩ ⟨_, _, _, _, _, _, _, rfl, by decide⟩ rfl (by decide +kernel),
    e_BadKind := errC_of (prog := PySem.Challenge.pw_floorward_k26_errors_made) (errs_at ce 4 rfl) EX4 ⟨_, _, rfl⟩ ⟨_, _, _, _, _, _, _, _, _, _, _, rfl, by decide⟩ rfl (by decide +kernel),
    e_BadLoop := errC_of (prog := PySem.Challenge.pw_floorward_k26_errors_made) (errs_at ce 5 rfl) EX5 ⟨_, _, rfl⟩ ⟨_, _, _, _, _, _, _, _, _, _, _, rfl, by decide⟩ rfl (by decide +kernel),
    e_BadNumber := errC_of (prog := PySem.Challenge.pw_floorward_k26_errors_made) (errs_at ce 6 rfl) EX6 ⟨_, _, rfl⟩ ⟨_, _, _, _, _, _, _, _, _, _, _, rfl, by decide⟩ rfl (by decide +kernel),
    e_BadPower := errC_of (prog := PySem.Challenge.pw_floorward_k26_errors_made) (errs_at ce 7 rfl) EX7 ⟨_, _, rfl⟩ ⟨_, _, _, _, _, _, _, _, _, _, _, rfl, by decide⟩ rfl (by decide +kernel),
    e_BadSought := errC_of (prog := PySem.Challenge.pw_floorward_k26_errors_made) (errs_at ce 8 rfl) EX8 ⟨_, _, rfl⟩ ⟨_, _, _, _, _, _, _, _, _, _, _, rfl, by decide⟩ rfl (by decide +kernel),
    e_BadStart := errC_of (prog := PySem.Challenge.pw_floorward_k26_errors_made) (errs_at ce 9 rfl) EX9 ⟨_, _, rfl⟩ ⟨_, _, _, _, _, _, _, _, _, _, _, rfl, by decide⟩ rfl (by decide +kernel),
    e_BadText := errC0_of (prog := PySem.Challenge.pw_floorward_k26_errors_made) (errs_at ce 10 rfl) EX10 ⟨_, rfl⟩ ⟨_, _, _, _, _, _, _, rfl, by decide⟩ rfl (by decide +kernel),
    e_NoGuess := errC0_of (prog := PySem.Challenge.pw_floorward_k26_errors_made) (errs_at ce 11 rfl) EX11 ⟨_, rfl⟩ ⟨_, _, _, _, _, _, _, rfl, by decide⟩ rfl (by decide +kernel),
    e_UnlikePowers := errC0_of (prog := PySem.Challenge.pw_floorward_k26_errors_made) (errs_at ce 12 rfl) EX12 ⟨_, rfl⟩ ⟨_, _, _, _, _, _, _, rfl, by decide⟩ rfl (by decide +kernel),
    e_UnlikeSteps := errC0_of (prog := PySem.Challenge.pw_floorward_k26_errors_made) (errs_at ce 13 rfl) EX13 ⟨_, rfl⟩ ⟨_, _, _, _, _, _, _, rfl, by decide⟩ rfl (by decide +kernel),
    eb_FloorError := EX14,
    ek_FloorError := EX15,
    kx := fun x hx => FW.excB_ok (List.all_eq_true.mp EX16 x hx),
    ko := fun x hx y hy => of_decide_eq_true (List.all_eq_true.mp (List.all_eq_true.mp EX17 x hx) y hy),
    kv := fun x hx => of_decide_eq_true (List.all_eq_true.mp EX18 x hx) }
theorem facts {w : World} {K : PySem.W.Frag} {h : Heap} {mg : Str → Option Value} {f : Addr} (X : K.In h) (G : h.Ns mainGlobals mg) (hfa : mg ("law" : Str) = some (.ref f)) (c : He.SaysD fa fn K) (cx : ex K = true) (ce : er.map (fun d => fnE K d.x) = er.map ErrD.val) :
    ∃ fd : FuncData, (∀ (s : Shared) (v : Value), BindsTo s fd ⟨[v], []⟩ [("_law_script", v)]) ∧ ∀ base : Heap, K.In base → base.Ns mainGlobals mg → FnOk PP w K mg base CX0 2 f fd ["_law_script"] (sp_law K) := by
  have T := tx_of X G c cx ce
  have e := hfa.symm.trans T.g_law
  cases e
  obtain ⟨fd, F⟩ := T.d_law
  have b := FunD.bindsA (ps := ["_law_script"]) F fun _ _ _ _ _ _ us hl => match us, hl with | [_], _ => rfl
  refine ⟨fd, fun s v => b s [v] rfl, fun base _ _ => ?_⟩
  refine F.ok sc_law (by walk_at "ln") fun cdv A outer s H vs Q E hr h => ?_
  exact ⟨rd_law K, (dv_law T hr).nox, pure_law K T.ev vs H Q E h⟩
end FWL
open PySem PySem.W PySem.Calls PyProof.Rows
theorem PySem.Challenge.cw_floorward_k26_errors_made_holds : PySem.Challenge.rw_floorward_k26_errors_made.Holds := by
  w_on; o_law
  refine HandSHeadRun.head_any (r := OpenLaw.row PySem.Challenge.rw_floorward_k26_errors_made) (q := view (OpenLaw.row PySem.Challenge.rw_floorward_k26_errors_made).prog [19]) (H := FWL.hk) (ob := FWL.ob) (M := 30000) (loose := FWL.loose) (d := HandSHeadRun.topDef (OpenLaw.row PySem.Challenge.rw_floorward_k26_errors_made).prog 19) (kwd := []) FWL.ob_eq
    (by kernel_rfl) (fun s => by kernel_rfl) FWL.run (by kernel_rfl) (by kernel_rfl) (by kernel_rfl) (by rfl) (by first | assumption | decide +kernel) (by decide +kernel) ⟨rfl, rfl, rfl, rfl, rfl, by decide +kernel⟩ ?hw ?hc
  case hw => w_witness2
  case hc =>
    refine L2.walk_ofE (l := PySem.Challenge.rw_floorward_k26_errors_made) (n := 63) (k := 2) (x := "_law_script") (CX := L2.CX0) rfl (by decide) (by kernel_rfl) ⟨rfl, by decide, by decide⟩ ?F (fun _ _ _ _ z => z)
    intro w mg fa h Y G hmg0
    obtain ⟨K, KX, c, cx, ce⟩ := Y
    have hmg : mg ("law" : PySem.Str) = some (.ref fa) := by
      have e : (HandSHeadRun.topDef (OpenLaw.row PySem.Challenge.rw_floorward_k26_errors_made).prog 19).name = ("law" : PySem.Str) := by kernel_rfl
      rw [← e]
      exact hmg0
    obtain ⟨fd, hb, hF⟩ := FWL.facts (w := w) KX G hmg c cx ce
    exact ⟨K, fd, FWL.sp_law K, KX, hb, fun H a ns hl _ hS => ⟨a, ns, rfl, hS, hl, fun _ => rfl⟩, hF⟩
