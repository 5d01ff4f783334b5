import PyProof.Rows.All
import Wide.All
import OpenK.AllK
import Wide.FinOn
import KE.KStateDown
import Lean
import HandS.ForMost
import HandS.Exc
import HandS.WordsExc
import HandS.More
import HandS.Wide
import HandS.WideBits
import HandS.IsInst
import HandS.Style
import HandS.TupAny
import HandS.TupMul
import HandS.SortInts
import HandS.Conv
import HandS.Evl
import HandS.Zip
import HandS.Flow
import HandS.Defaults
import HandS.Head0
import HandS.Head1
import HandS.Head2
import HandS.HeadEnd
import HandS.HeadHook1
import HandS.HeadHook2
import KE.KExcSuper
import HandS.TryMany
import HandS.TryOnly
import HandS.ExcOwn
import HandS.Strs
import PyProof.ZipIter
import PyProof.EnumIter
import HandS.HotCalls
import HandS.Iter
import HandS.Comp
import HandS.Lambda
import HandS.EndTab
import HandS.HeadHook4
import HandS.HeadWalk
import HandS.ExcCtx
import HandS.ExcIs
import HandS.Text
import PySem.Challenge.RW_floorward_k53_texts_of_loops
import KE.GoesMore
import KE.KRevSl
import HandS.Walk
import HandS.RaiseMore
import HandS.Dict
import HandS.RaiseFrom
import PyProof.ListStr
import PyProof.StrBlock2
import HandS.ListItems
import KE.KDictZip
import HandS.Deep
set_option Elab.async false
set_option linter.all false
set_option maxRecDepth 100000
set_option maxHeartbeats 4000000
namespace FW
open PySem PySem.Spec PyProof.Rows L2
/-! ### operators on ints, by short names -/
abbrev rAdd : R2 := rI0 fun i j => .int (i + j)
abbrev rSub : R2 := rI0 fun i j => .int (i - j)
abbrev rMul : R2 := rI CMulW fun i j => .int (i * j)
abbrev rDiv : R2 := rI CDivW fun i j => .int (i / j)
abbrev rMod : R2 := rI (fun _ j => 0 < j) fun i j => .int (i % j)
abbrev rPow : R2 := rI CPow fun i j => .int (i ^ j.toNat)
abbrev rNeg : V → Hp → VK → Prop := rU fun i => .int (-i)
abbrev rLt : R2 := rI0 fun i j => .bl (decide (i < j))
abbrev rLe : R2 := rI0 fun i j => .bl (decide (i ≤ j))
abbrev rGt : R2 := rI0 fun i j => .bl (decide (j < i))
abbrev rGe : R2 := rI0 fun i j => .bl (decide (j ≤ i))
abbrev rIsN : R2 := fun x y H Q => y = .non ∧ Q (.bl (decide (x = .non))) H
abbrev rNotN : R2 := fun x y H Q => y = .non ∧ Q (.bl (!decide (x = .non))) H
abbrev rAddS : R2 := fun x y H Q => ∃ i j, x = .str i ∧ y = .str j ∧ i.length + j.length ≤ sizeLine ∧ Q (.str (i ++ j)) H
abbrev rAbs : List V → Hp → VK → Prop := fun xs H Q => ∃ i, xs = [.int i] ∧ Q (.int (if i < 0 then -i else i)) H
abbrev rMax2 : List V → Hp → VK → Prop := fun xs H Q => ∃ i j, xs = [.int i, .int j] ∧ Q (.int (if j > i then j else i)) H
abbrev rMin2 : List V → Hp → VK → Prop := fun xs H Q => ∃ i j, xs = [.int i, .int j] ∧ Q (.int (if j < i then j else i)) H
abbrev rInt1 : List V → Hp → VK → Prop := fun xs H Q => (∃ i, xs = [.int i] ∧ Q (.int i) H) ∨ ∃ k, xs = [.bl k] ∧ Q (.int (if k then 1 else 0)) H
abbrev rStrI : List V → Hp → VK → Prop := fun xs H Q => ∃ i, xs = [.int i] ∧ i.natAbs.log2 < 1920 ∧ Q (.str (toString i)) H
abbrev rLenStr : List V → Hp → VK → Prop := fun xs H Q => ∃ z, xs = [.str z] ∧ z.length ≤ sizeLine ∧ Q (.int z.length) H
abbrev rTupS (K : PySem.W.Frag) : List V → Hp → VK → Prop := fun xs H Q => ∃ p ys, xs = [.ref p] ∧ ((SqL K H p ys ∧ ∀ l, H l = none → Q (.ref l) (upd H l (.tup ys))) ∨ (SqT K H p ys ∧ Q (.ref p) H))
section
variable {X : Cx}
theorem opAdd : OpR X (binaryOp .Add) rAdd := op_add
theorem opSub : OpR X (binaryOp .Sub) rSub := op_sub
theorem opMul : OpR X (binaryOp .Mult) rMul := op_mulW
theorem opDiv : OpR X (binaryOp .FloorDiv) rDiv := op_fdivW
theorem opMod : OpR X (binaryOp .Mod) rMod := op_mod
theorem opPow : OpR X (binaryOp .Pow) rPow := op_pow
theorem op_addS : OpR X (binaryOp .Add) rAddS := op_add_str
end
/-! ### defs by their promises -/
/-- a def that may be called by its name -/
structure Fn (P : Program) (w : World) (K : PySem.W.Frag) (mg : Str → Option Value) (base : Heap) (CX : CXT) (k : Nat) (x : Str) (sp : Sp) (dvs : List V) : Prop where
  ex : ∃ (f : Addr) (fd : FuncData) (ps : List Str) (ds : List Value), FnOk P w K mg base CX k f fd ps sp ∧ mg x = some (.ref f) ∧ PySem.W.keepIn K (.ref f) = true ∧ Binds K fd ps ds ∧ Vals dvs ds
/-- a method of the class at C -/
structure Mt (P : Program) (w : World) (K : PySem.W.Frag) (mg : Str → Option Value) (base : Heap) (CX : CXT) (k : Nat) (C : Addr) (m : Str) (sp : Sp) (dvs : List V) : Prop where
  ex : ∃ (f : Addr) (fd : FuncData) (ps : List Str) (ds : List Value), Cls K C ∧ Meth K C m f ∧ FnOk P w K mg base CX k f fd ps sp ∧ Binds K fd ps ds ∧ Vals dvs ds
/-- a class that may be made by its name -/
structure Mkr (P : Program) (w : World) (K : PySem.W.Frag) (mg : Str → Option Value) (base : Heap) (CX : CXT) (k : Nat) (x : Str) (C : Addr) (sp : Sp) (dvs : List V) : Prop where
  ex : ∃ (f : Addr) (fd : FuncData) (ps : List Str) (ds : List Value), Mk K C f ∧ FnOk P w K mg base CX k f fd ps sp ∧ mg x = some (.ref C) ∧ Binds K fd ps ds ∧ Vals dvs ds
section
variable {X : Cx} {CX : CXT} {k j : Nat} {C : Addr} {x m : Str} {sp : Sp} {dvs : List V} {p pos apos : Pos} {e o : Expr} {es : List Expr} {ta : TE} {t : TA} {E : XK}
theorem pe_f (c : Fn X.prog X.w X.K X.mg X.base CX0 k x sp dvs) (hr : Room j X.A) (hk : k ≤ j) (hg : Gl X x) (ha : PA X (e :: es) t)
    (hdb : (x == ("__debug__" : Str)) = false := by decide) (he : starEach (e :: es) X.env = (false, eval e X.env) :: starEach es X.env := by rfl) (hpl : (backTo pos (starEach es X.env)).any (·.1) = false := by rfl) :
    PE X (.Call (.Name x p) (e :: es) [] pos) (tCall sp dvs E0 t) := by
  obtain ⟨f, fd, ps, ds, F, hm, kp, b, d⟩ := c.ex
  exact pe_call F (hr.mono hk) hg hm kp b d pass0 ha hdb he hpl
theorem pe_o0 {pl : Sem Bool} (c : Mt X.prog X.w X.K X.mg X.base CX0 k C m sp dvs) (hr : Room j X.A) (hk : k ≤ j) (he : PE X o ta)
    (ht : eval (.Call (.Attribute o m apos) [] [] pos) X.env = (do
      let ov ← eval o X.env
      standAt apos.atName
      let (f, first) ← holding [ov] (getMethod ov m pl)
      callWith pos f first (backTo pos (starEach [] X.env)) (backToKw pos (keywordEach [] X.env))) := by rfl) :
    PE X (.Call (.Attribute o m apos) [] [] pos) (tMeth C m sp dvs E0 ta tNil) := by
  obtain ⟨f, fd, ps, ds, hc, hm, F, b, d⟩ := c.ex
  exact pe_meth0 (pl := pl) he hc hm F (hr.mono hk) b d pass0 ht
end
/-! ### defs of the head, by their data -/
section
variable {P : Program} {w : World} {K : PySem.W.Frag} {mg : Str → Option Value} {base : Heap}
/-- a def of the module (no defaults), from its body -/
theorem Fn.mk0 {x : Str} {params : Arguments} {body : List Stmt} {scope : Scope} {f : Addr} {N ps : List Str} {k : Nat} {sp : Sp}
    (F : ∃ fd, FunD K x x params body scope [] [] f fd) (g : mg x = some (.ref f)) (S : FnScope N ps scope)
    (hb : ∀ (kV doc pm : Value) (an : Option Addr) (cdv ct : Value) (us : List Value), us.length = ps.length → bindArgs (PySem.W.fnOf x x params body scope .none kV doc pm an cdv ct) ⟨us, []⟩ = pure (ps.zip us))
    (len : ∀ vs H Q E, sp vs H Q E → vs.length = ps.length)
    (hbody : ∀ (cdv : Value) (A : Around) (outer : List Env) (s : Shared) (H : Hp) (vs : List V) (Q : VK) (E : XK), Room k (A.deeper (envOfC x scope s.heap.objs.size f cdv)) → sp vs H Q E →
      ∃ t, PSs (cxOf CX0 P w K mg base N x scope f cdv A outer s H E).nox body t ∧ t { nx := fun _ H' => Q .non H', rt := Q } (start N vs) H) : Fn P w K mg base CX0 (k + 1) x sp [] := by
  obtain ⟨fd, F⟩ := F
  refine ⟨f, fd, ps, [], ?_, g, F.kp, ?_, .nil⟩
  · refine F.ok S len fun cdv A outer s H vs Q E hr h => ?_
    obtain ⟨t, h1, h2⟩ := hbody cdv A outer s H vs Q E hr h
    exact ⟨t, h1.nox, h2⟩
  · exact F.bindsN fun kV doc pm an cdv ct us hl => hb kV doc pm an cdv ct us hl
/-- a method (no defaults) -/
theorem Mt.mk0 {m qual : Str} {C : Addr} {params : Arguments} {body : List Stmt} {scope : Scope} {f : Addr} {N ps : List Str} {k : Nat} {sp : Sp}
    (c : Cls K C) (me : Meth K C m f) (F : ∃ fd, FunD K m qual params body scope [] [] f fd) (S : FnScope N ps scope)
    (hb : ∀ (kV doc pm : Value) (an : Option Addr) (cdv ct : Value) (us : List Value), us.length = ps.length → bindArgs (PySem.W.fnOf m qual params body scope .none kV doc pm an cdv ct) ⟨us, []⟩ = pure (ps.zip us))
    (len : ∀ vs H Q E, sp vs H Q E → vs.length = ps.length)
    (hbody : ∀ (cdv : Value) (A : Around) (outer : List Env) (s : Shared) (H : Hp) (vs : List V) (Q : VK) (E : XK), Room k (A.deeper (envOfC qual scope s.heap.objs.size f cdv)) → sp vs H Q E →
      ∃ t, PSs (cxOf CX0 P w K mg base N qual scope f cdv A outer s H E).nox body t ∧ t { nx := fun _ H' => Q .non H', rt := Q } (start N vs) H) : Mt P w K mg base CX0 (k + 1) C m sp [] := by
  obtain ⟨fd, F⟩ := F
  refine ⟨f, fd, ps, [], c, me, ?_, ?_, .nil⟩
  · refine F.ok S len fun cdv A outer s H vs Q E hr h => ?_
    obtain ⟨t, h1, h2⟩ := hbody cdv A outer s H vs Q E hr h
    exact ⟨t, h1.nox, h2⟩
  · exact F.bindsN hb
end
/-! ### the head's facts, with one more Bool -/
end FW
/-! own errors: class X(FloorError): def __init__(self, f): super().__init__('..'); self.f = f -/
namespace PySem
namespace ErrX
open PySem.W PySem.Calls PyProof.Rows PySem.HandSPX
def eA1 (f : Str) (p1 p2 : Pos) : Arguments := { posonlyargs := [], args := [{ arg := "self", annotation := none, pos := p1 }, { arg := f, annotation := none, pos := p2 }], vararg := none, kwonlyargs := [], kw_defaults := [], kwarg := none, defaults := [] }
def eB1 (f txt : Str) (q1 q2 q3 q4 q5 q6 q7 q8 q9 q10 : Pos) : List Stmt := [.Expr (.Call (.Attribute (.Call (.Name "super" q1) [] [] q2) "__init__" q3) [.Constant (.str txt) 0 q4] [] q5) q6, .Assign [.Attribute (.Name "self" q7) f q8] (.Name f q9) q10]
def eS1 (f : Str) : Scope := { kind := .function, names := [("self", .local), (f, .local), ("__class__", .free), ("super", .globalImplicit)], isGenerator := false, isCoroutine := false, more := [] }
/-- what the written part says of a class at C and of its __init__ at fI -/
structure ErrC (prog : Program) (K : Frag) (C fI : Addr) (f : Str) : Prop where
  cls : ∃ nm q N bs bm sn sub ab col dd k0 k1 k2 k3 k5, K.lookup C = some (excClassObj nm q C N bs bm true sn sub ab col dd k0 k1 k2 k3 k5 "ValueError.__new__") ∧ refsVE bm = true
  sa : findIn K (.ref C) "__setattr__" = some (some (.builtin "object.__setattr__"))
  ga : findIn K (.ref C) "__getattribute__" = some (some (.builtin "BaseException.__getattribute__"))
  gg : findIn K (.ref C) "__getattr__" = some none
  noN : findIn K (.ref C) f = some none
  iC : findIn K (.ref C) "__init__" = some (some (.ref fI))
  tC : typeIn K (.ref fI) = some (.type "function")
  kC : keepIn K (.ref C) = true
  exC : subIn K (.ref C) (.type "BaseException") = some true
  veC : subIn K (.ref C) (.type "ValueError") = some true
  tyC : typeIn K (.ref C) = some (.type "type")
  hdC : hasDictIn K C = true
  mro : mroIn K C (.ref C) = some true
  sup : nsIn K mainGlobals "super" = some none
  tp : nsIn K cStatics "thirdparty.any" = some none
  si : ks_superIn K C C "__init__" = some (some (.builtin "ValueError.__init__"))
  top : (prog.main.scope.names.lookup ("super" : Str)).isSome = false
  fn : ∃ (cc cda : Addr) (qual : Str) (oc : Value) (od : Option Addr) (kV doc pm : Value) (an : Option Addr) (ct : Value) (osl : Array (Option Value)) (txt : Str) (p1 p2 q1 q2 q3 q4 q5 q6 q7 q8 q9 q10 : Pos) (cl ccl : Value) (cld cdd : Option Addr) (csl ccs : Array (Option Value)) (vs : Array Value) (tf : Tok), (q3.endLine == q5.line) = true ∧
    K.lookup fI = some ⟨oc, od, .func (ksFn "__init__" qual (eA1 f p1 p2) (eB1 f txt q1 q2 q3 q4 q5 q6 q7 q8 q9 q10) (eS1 f) .none kV doc pm an (.ref cda) ct cc), osl⟩ ∧ codeIn K (.ref cda) qual = true ∧
    K.lookup cc = some ⟨cl, cld, .cell (some (.ref C)), csl⟩ ∧ K.lookup cda = some ⟨ccl, cdd, .fields vs, ccs⟩ ∧ vs[2]? = some (.str prog.main.file tf)
/-- what __init__ leaves of a fresh exception at x -/
structure InitEnd (h h' : Heap) (x C dx t1 : Addr) (f : Str) (v : Value) : Prop where
  keep : ∀ b o, b ≠ x → h.get? b = some o → h'.get? b = some o
  obj : h'.get? x = some { cls := .ref C, dict := some dx, data := .fields #[.ref t1, .none, .none, .none, .bool false, .none] }
  dbig : h.objs.size ≤ dx
  dne : dx ≠ x
  ns : h'.Ns1 dx (fun y => if y = f then some v else none)
/-- a made one -/
structure OwnMade (h h' : Heap) (e C d : Addr) (f : Str) (v : Value) : Prop where
  keep : ∀ b o, h.get? b = some o → h'.get? b = some o
  new : h.objs.size ≤ e
  obj : ∃ oe vs, h'.get? e = some oe ∧ oe.cls = .ref C ∧ oe.dict = some d ∧ oe.data = .fields vs ∧ vs[1]? = some .none ∧ vs[2]? = some .none
  dbig : h.objs.size ≤ d
  dne : d ≠ e
  ns : h'.Ns1 d (fun y => if y = f then some v else none)
section
variable {prog : Program} {w : World} {A : Around} {E : Value → Shared → Prop} {R : Result → Shared → Prop} {s : Shared} {K : Frag} {mg mb : Str → Option Value} {C fI : Addr} {f : Str}
/-- the bound __init__ called -/
theorem call_mw {h : Heap} {g : Array GenState} {d : Drawn} {tk : Nat} {os : OsState} {u x t0 : Addr} {rest : List Value} {Q : Value → Shared → Prop} {nm q : Str} {N : Addr} {bs bm : List Value} {sn : List Str} {sub : List Value} {ab : Bool} {col : Option Bool} {dd : Option Addr} {k0 k1 k2 k3 k5 : Option Value}
    (hC : h.get? C = some (excClassObj nm q C N bs bm true sn sub ab col dd k0 k1 k2 k3 k5 "ValueError.__new__")) (hx : h.get? x = some (excO C t0)) (hu : h.get? u = some (kxs_mw "ValueError.__init__" x)) (hz : rest.length ≤ sizeLine)
    (hq : ∀ h' t1, (∀ b o, b ≠ x → h.get? b = some o → h'.get? b = some o) → h'.get? x = some (excO C t1) → Q .none ⟨h', g, d, tk, os⟩) :
    wpAny (model prog w) A (call (.ref u) rest) Q E ⟨h, g, d, tk, os⟩ := by
  refine wpAny_call (codeAny_of_tree ?_)
  show wpAny _ A.in1 (callAny (.ref u) ⟨rest, []⟩) _ _ _
  simp only [callAny]
  refine wpAny_bind (wpAny_load hu ?_)
  simp only [kxs_mw, show (Value.type "method-wrapper" == Value.type "method" || Value.type "method-wrapper" == Value.type "builtin_function_or_method" || Value.type "method-wrapper" == Value.type "method-wrapper") = true by decide, if_true]
  refine KFB.if_so (by decide) ?_
  refine wpAny_bind (check_bound_init F.excBase_ValueError.toExcCallFacts hC hx rfl ?_)
  refine wpAny_bind (wpAny_pure (wpAny_pure ?_))
  refine ⟨plainId_quiet F.excBase_ValueError.init.plain _, codeAny_builtin F.excBase_ValueError.initEntry ?_⟩
  exact exc_init_tree (cls := .ref C) (t0 := t0) (dv := none) (c2 := .none) (c3 := .none) (b4 := .bool false) hx hz fun h' k e' _ => hq h' _ k e'
theorem ns_keep {h h' : Heap} {L : Addr} {m : Str → Option Value} (hn : h.Ns L m) (k : ∀ o, h.get? L = some o → h'.get? L = some o) : h'.Ns L m := by
  obtain ⟨oL, esL, epL, eL, rL⟩ := hn
  exact ⟨oL, esL, epL, k _ eL, rL⟩
/-- a method call whose name stands in the row of the call -/
theorem eval_mc {env : Env} {o : Expr} {name txt : Str} {q3 q4 q5 : Pos} (hl : (q3.endLine == q5.line) = true) : eval (.Call (.Attribute o name q3) [.Constant (.str txt) 0 q4] [] q5) env = (do
    let ov ← attributeBase o name env (eval o env)
    standAt q3.atName
    let (f, first) ← holding [ov] (getMethod ov name (do return (← importBound o env).getD true))
    callWith q5 f first (backTo q5 (starEach [.Constant (.str txt) 0 q4] env)) []) := by
  show (do
    let ov ← attributeBase o name env (eval o env)
    standAt q3.atName
    methodCall o name q3 q5 env ov 1 (backTo q5 (starEach [.Constant (.str txt) 0 q4] env)) []) = _
  have hf : methodCallForm 1 (backTo q5 (starEach [.Constant (.str txt) 0 q4] env)) [] = true := rfl
  have hp : methodCallPos true o env q3 q5 = pure q5 := by
    unfold methodCallPos
    rw [hl]
    rfl
  unfold methodCall calleeOf
  rw [hf, hp]
  rfl
theorem err_init (T : ErrC prog K C fI f) (hf : f = "value" ∨ f = "word" ∨ f = "field") {x t0 : Addr} {v : Value} (X : K.In s.heap) (hlim : s.heap.NoLimit) (G : s.heap.Ns mainGlobals mg) (B : s.heap.Ns builtinsNs mb) (hB : ∀ x : Str, x ≠ "__name__" → mb x = bootBuiltins x)
    (hx : s.heap.get? x = some (excO C t0)) (hnx : ¬ (K.lookup x).isSome = true) (hroom : A.depth < recursionLimit)
    (hq : ∀ h' tk dx t1, InitEnd s.heap h' x C dx t1 f v → R (.ok (.ret .none)) { s with heap := h', toks := tk }) :
    codeAny (model prog w) A (.call (.ref fI) ⟨[.ref x, v], []⟩) R s := by
  obtain ⟨cc, cda, qual, oc, od, kV, doc, pm, an, ct, osl, txt, p1, p2, q1, q2, q3, q4, q5, q6, q7, q8, q9, q10, cl, ccl, cld, cdd, csl, ccs, vs, tf, hln, ho, hcd, hcc, hcda, hvs⟩ := T.fn
  obtain ⟨nm, q, N, bs, bm, sn, sub, ab, col, dd, k0, k1, k2, k3, k5, hC, hbm⟩ := T.cls
  have hcl : clsIn K C = some { name := nm, bases := bs, mro := .ref C :: bm, ns := N, qualname := q, hasDict := true, slotNames := sn, subclasses := sub, abstract := ab, collection := col, hasDel := false } := by unfold clsIn; rw [hC] <;> rfl
  obtain ⟨hp, g, d, tk, os⟩ := s
  have hsi : alongIn K "__init__" ((((Value.ref C :: bm)).dropWhile (· != .ref C)).drop 1) = some (some (.builtin "ValueError.__init__")) := by
    have z := T.si
    unfold ks_superIn at z
    rw [hcl] at z
    exact z
  rcases hf with rfl | rfl | rfl
  all_goals
    refine ks_codeAny_call_defAt (fd := ksFn "__init__" qual (eA1 _ p1 p2) (eB1 _ txt q1 q2 q3 q4 q5 q6 q7 q8 q9 q10) (eS1 _) .none kV doc pm an (.ref cda) ct cc) (body := eB1 _ txt q1 q2 q3 q4 q5 q6 q7 q8 q9 q10) (binds := [("self", .ref x), (_, v)])
      hroom (X _ _ ho) rfl hlim (codeRec_of X hcd) rfl (BindsTo.of_eq (by first | rfl | with_unfolding_all rfl)) (fun y hy => (show ∀ y ∈ (eS1 _).names, y.2 ≠ .cell by decide) y hy)
      (fun y hy => by
        rcases List.mem_cons.mp hy with rfl | hy
        · rfl
        · rcases List.mem_cons.mp hy with rfl | hy
          · rfl
          · cases hy) (fun h₁ hns hk₁ => ?_) rfl rfl rfl
    have X₁ : K.In h₁ := X.keeps hk₁
    have hx₁ := hk₁ _ _ hx
    have zL : hp.objs.size < h₁.objs.size := hns.lt
    have hxL : hp.objs.size ≠ x := Nat.ne_of_gt (Heap.lt_size hx)
    -- super().__init__('..')
    show wpAt _ _ _ (execs (_ :: _) _) _ _ _
    refine ks_wpAt_execs_cons (ks_wpAt_Expr_any (ks_wpAt_MethodCall ?_ (eval_mc hln)))
    refine ks_wpAt_super_base (f := fI) (cc := cda) (ar := { arg := "self", annotation := none, pos := p1 }) rfl rfl (by decide) rfl (X₁ _ _ ho) rfl rfl rfl (X₁ _ _ hcda) rfl hvs (beq_self_eq_true _) T.top ?_
    refine ks_loadName_global rfl rfl (loadGlobal_builtin (G.keeps hk₁) (mg_none_of X G T.sup) (B.keeps hk₁) ((hB _ (by decide)).trans (by first | boot_by_name | rfl | kernel_rfl)) ⟨rfl, ?_⟩)
    refine wpAny_loadName_free rfl rfl rfl ⟨_, X₁ _ _ hcc, rfl⟩ ?_
    refine wpAny_loadName_local rfl rfl hns (by rfl) ?_
    refine ks_wpAny_isType_cls (X₁ _ _ hC) rfl ⟨rfl, ?_⟩
    refine ks_wpAny_call_super (X₁ _ _ hC) rfl hx₁ rfl (fun c e => by cases e) (looks_mroIn X₁ T.mro) (fun h₂ hso k₂ => ?_)
    have X₂ : K.In h₂ := X₁.keeps k₂
    have hx₂ := k₂ _ _ hx₁
    have I₂ : InstAt h₂ x (excO C t0) C none := ⟨hx₂, rfl, rfl, trivial⟩
    refine kxs_getMethod kxs_ValueError hso (looks_opaque X₂ T.tp) (l₀ := .ref C :: bm) (fun A Q E s k q => wpAny_bind ((looks_clsIn X₂ hcl) A _ E s k (wpAny_pure q))) rfl X₂ hsi (I₂.type.andThen (looks_subIn X₂ T.veC)) (ks_ne X₂ I₂ hcl) (by decide) ?_
    have k₃ : ∀ b o, h₂.get? b = some o → (h₂.push (kxs_mw "ValueError.__init__" x)).get? b = some o := fun b o e => Heap.get?_push_of_some _ e
    have hmw : (h₂.push (kxs_mw "ValueError.__init__" x)).get? h₂.objs.size = some (kxs_mw "ValueError.__init__" x) := Heap.get?_push_at rfl rfl
    refine kxs_callWith (i := "ValueError.__init__") (x := x) rfl (evalArgs_plain (Calls.spliced_cons ?_))
    show wpAny _ _ (eval (.Constant (.str txt) 0 q4) _) _ _ _
    refine Calls.Constant_str (Calls.spliced_nil ⟨hmw, ?_⟩)
    refine call_mw ((X₂.keeps k₃) _ _ hC) (k₃ _ _ hx₂) hmw (by show 1 ≤ sizeLine; decide) (fun h₄ t1 k₄ hx₄ => ?_)
    -- self.f = f
    have k14 : ∀ b o, b ≠ x → h₁.get? b = some o → h₄.get? b = some o := fun b o hb e => k₄ b o hb (k₃ _ _ (k₂ _ _ e))
    have hn4 := ns_keep hns (k14 _ · hxL)
    have X₄ : K.In h₄ := fun a o e => by
      by_cases ha : a = x
      · subst ha
        have z := X _ _ e
        rw [hx] at z
        exact absurd z (fun z => hnx (by rw [e]; rfl))
      · exact k14 _ _ ha (X₁ _ _ e)
    refine wpAt_of_wpAny ?_
    show wpAny _ _ (execs (_ :: _) _) _ _ _
    refine wpAny_execs_cons (plainObj_wpAny_Assign_Attribute ?_)
    refine wpAny_Name (wpAny_loadName_local rfl rfl hn4 (by rfl) ?_)
    refine wpAny_Name (wpAny_loadName_local rfl rfl hn4 (by rfl) ?_)
    refine set_plain X₄ (ox := excO C t1) (od := none) ⟨hx₄, rfl, rfl, trivial⟩ T.sa ?_
    refine exc_osa X₄ hx₄ hcl (show refsVE (.ref C :: bm) = true from hbm) rfl T.noN (fun h₅ tk₅ dx k₅ dn dne hx₅ hn₅ => ?_)
    show wpAny _ _ (execs _ _) _ _ _
    refine wpAny_execs_nil (hq h₅ tk₅ dx t1 ⟨fun b o hb e => k₅ b o hb (k14 b o hb (hk₁ b o e)), hx₅, ?_, dne, hn₅⟩)
    have z4 : hp.objs.size < h₄.objs.size := hn4.lt
    exact Nat.le_of_lt (Nat.lt_of_lt_of_le z4 dn)
theorem err_made (T : ErrC prog K C fI f) (hf : f = "value" ∨ f = "word" ∨ f = "field") {v : Value} (X : K.In s.heap) (hlim : s.heap.NoLimit) (G : s.heap.Ns mainGlobals mg) (B : s.heap.Ns builtinsNs mb) (hB : ∀ x : Str, x ≠ "__name__" → mb x = bootBuiltins x) (hroom : A.depth + 1 < recursionLimit)
    (hq : ∀ h' tk e d, OwnMade s.heap h' e C d f v → R (.ok (.ret (.ref e))) { s with heap := h', toks := tk }) :
    codeAny (model prog w) A (.call (.ref C) ⟨[v], []⟩) R s := by
  obtain ⟨nm, q, N, bs, bm, sn, sub, ab, col, dd, k0, k1, k2, k3, k5, hC, hbm⟩ := T.cls
  obtain ⟨hp, g, dr, tk, os⟩ := s
  have k : ∀ b o, hp.get? b = some o → ((hp.push (kdv_tup [v])).push (excO C hp.objs.size)).get? b = some o := fun b o e => Heap.get?_push_of_some _ (Heap.get?_push_of_some _ e)
  have hget : ((hp.push (kdv_tup [v])).push (excO C hp.objs.size)).get? (hp.objs.size + 1) = some (excO C hp.objs.size) := by heap_get
  have hnx : ¬ (K.lookup (hp.objs.size + 1)).isSome = true := by
    cases e : K.lookup (hp.objs.size + 1) with
    | none => intro z; cases z
    | some o =>
      have z : hp.get? (hp.objs.size + 1) = some o := X _ _ e
      exact absurd (Nat.lt_of_succ_lt (Heap.lt_size z)) (Nat.lt_irrefl _)
  refine call_own F.excBase_ValueError (fun X => refsVE_contains X bm hbm) (X _ _ hC) (looks_findIn X T.iC) (fun self => bind_fn X self T.tC) (by show 1 ≤ sizeLine; decide) ?_
  refine err_init (s := ⟨(hp.push (kdv_tup [v])).push (excO C hp.objs.size), g, dr, tk, os⟩) T hf (X.keeps k) (hlim.keeps k) (G.keeps k) (B.keeps k) hB hget hnx ?_ fun h' tk' dx t1 ⟨k', hx, dn, dne, hns⟩ => ?_
  · show A.depth + 1 < recursionLimit
    exact hroom
  · have old : ∀ b o, hp.get? b = some o → h'.get? b = some o := fun b o e => k' b o (Nat.ne_of_lt (Nat.lt_succ_of_lt (Heap.lt_size e))) (k b o e)
    have z : hp.objs.size + 1 + 1 ≤ dx := by
      have q := dn
      rw [Heap.size_push, Heap.size_push] at q
      exact q
    exact ⟨rfl, hq h' tk' (hp.objs.size + 1) dx ⟨old, Nat.le_succ _, ⟨_, _, hx, rfl, rfl, rfl, rfl, rfl⟩, Nat.le_trans (Nat.le_trans (Nat.le_succ _) (Nat.le_succ _)) z, dne, hns⟩⟩
end
end ErrX
end PySem
namespace FW
open PySem PySem.Spec PyProof.Rows L2
theorem relO_err {f : Str} {v : V} {v' : Value} (r : RelV v v') (g : Str) : RelO (List.lookup g [(f, v)]) (if g = f then some v' else none) := by
  by_cases hw : g = f
  · subst hw
    rw [if_pos rfl]
    have q : List.lookup g [(g, v)] = some v := by simp [List.lookup]
    rw [q]
    exact r
  · rw [if_neg hw]
    have qw : (g == f) = false := by simpa using hw
    have q2 : List.lookup g [(f, v)] = none := by simp [List.lookup, qw]
    rw [q2]
    trivial
/-- the fields' names -/
def ErrF (f : Str) : Prop := f = "value" ∨ f = "word" ∨ f = "field"
/-- C(e), C an own error with the field f -/
def tMkE (C : Addr) (f : Str) (ta : TA) : L2.St → Hp → XK → Prop := fun σ H Q => ta σ H fun vs H1 => ∃ v, vs = [v] ∧ ∀ d, H1 d = none → Q (.ref C) (some d) (upd H1 d (.xd [(f, v)]))
section
variable {X : Cx} {C fI : Addr} {f x : Str}
theorem pmk_err {a : Expr} {ta : TA} {p pos : Pos} {k : Nat} (T : PySem.ErrX.ErrC X.prog X.K C fI f) (hf : ErrF f) (gC : X.mg x = some (.ref C)) (hr : Room k X.A) (ha : PA X [a] ta) (hg : Gl X x) (hdb : (x == ("__debug__" : Str)) = false := by decide)
    (he : starEach (a :: []) X.env = (false, eval a X.env) :: starEach [] X.env := by rfl) (hpl : (backTo pos (starEach [] X.env)).any (·.1) = false := by rfl) :
    PMk X (.Call (.Name x p) [a] [] pos) (tMkE C f ta) := by
  intro pins s σ H Q I h
  refine wpAny_Call_Name_kw (ld_glob I hg gC ?_ hdb)
  refine PySem.W.callWith_K (h₀ := X.base) I.ok.mod.kin T.kC (thn (ha.run pos pins s σ H _ I h) fun us s1 hh => ?_) he hpl
  obtain ⟨vs, H1, I1, r1, v, ev, q1⟩ := hh
  subst ev
  refine ⟨I1.kIn, ?_⟩
  cases r1 with
  | cons rv rn =>
    rename_i v' us'
    cases rn
    show wpAny _ _ (call (.ref C) [v']) _ _ _
    have hlim := I1.nolimit
    have hG := I1.mod.glob.keeps I1.bk
    obtain ⟨mb, hb1, hb2⟩ := I1.mod.blt
    have hB := hb1.keeps I1.bk
    obtain ⟨hp, g, dr, tk, os⟩ := s1
    refine wpAny_call (PySem.ErrX.err_made T hf I1.kIn hlim hG hB hb2 (by have := hr.dp; omega) fun h' tk' e d M => ?_)
    show MkP X pins σ Q (.ref e) ⟨h', g, dr, tk', os⟩
    obtain ⟨oe, fv, hoe, hc, hd, hdat, h1, _⟩ := M.obj
    have hns := M.ns
    obtain ⟨G', g1, g2⟩ := restrict h' fun b => decide (b ≠ e)
    have gk : ∀ b, b ≠ e → G'.get? b = h'.get? b := fun b hb => g1 b (decide_eq_true hb)
    have ge : G'.get? e = none := g2 e (by simp)
    have old : ∀ b o, hp.get? b = some o → G'.get? b = some o := fun b o q => (gk b (Nat.ne_of_lt (Nat.lt_of_lt_of_le (Heap.lt_size q) M.new))).trans (M.keep b o q)
    have ob : ObjOk X.prog X.w (upd H1 d (.xd [(f, v)])) G' d (.xd [(f, v)]) :=
      ⟨_, hns.at (fun o q => (gk d M.dne).trans q), fun f => relO_err rv f⟩
    have J : Inv X pins σ (upd H1 d (.xd [(f, v)])) ⟨G', g, dr, tk', os⟩ := I1.laid (t' := tk') old M.dbig ob
    refine ⟨e, oe, fv, ⟨G', g, dr, tk', os⟩, _, .ref C, some d, rfl, J, fun b o q => ?_, ge, hoe, ⟨hc, hd⟩, hdat, h1, ?_, rfl, I1.bare, raises_own T.exC T.tyC, q1 d (I1.hok.fresh M.dbig)⟩
    · by_cases hb : b = e
      · have q' : G'.get? b = some o := q
        rw [hb, ge] at q'; cases q'
      · exact (gk b hb).symm.trans q
    · rw [upd_ne (Ne.symm M.dne)]
      exact I1.hok.fresh M.new
/-- raise C(e) -/
def tRaiseE (C : Addr) (f : Str) (W : WX) (ta : TA) : TS := fun _ σ H => tMkE C f ta σ H fun cls d H' => W cls d σ H'
theorem ps_raiseE {a : Expr} {ta : TA} {W : WX} {p pos pos2 : Pos} {k : Nat} (hc : X.calm = true) (T : PySem.ErrX.ErrC X.prog X.K C fI f) (hf : ErrF f) (gC : X.mg x = some (.ref C)) (hr : Room k X.A) (tk : Takes X W) (ha : PA X [a] ta) (hg : Gl X x) (hdb : (x == ("__debug__" : Str)) = false := by decide)
    (he : starEach (a :: []) X.env = (false, eval a X.env) :: starEach [] X.env := by rfl) (hpl : (backTo pos (starEach [] X.env)).any (·.1) = false := by rfl) :
    PS X (.Raise (some (.Call (.Name x p) [a] [] pos)) none pos2) (tRaiseE C f W ta) := ps_raise hc tk (pmk_err T hf gC hr ha hg hdb he hpl)
end
end FW
namespace FW
open PySem PySem.Spec PyProof.Rows L2 PySem.W PySem.HandSPX PySem.ErrX
/-! ### what the head looks at of an own error -/
abbrev FnE : Type := Option (Str × Str × Arguments × FuncBody × Scope × Addr × Value × Addr)
def fnE (K : Frag) (x : Str) : FnE := match K.lookup (He.ma K (He.ga K x) "__init__") with
  | some ⟨_, _, .func fd, _⟩ => some (fd.name, fd.qualname, fd.params, fd.body, fd.scope, fd.globals, fd.defaults, fd.builtins)
  | _ => none
def clsE (K : Frag) (C : Addr) : Bool := match K.lookup C with
  | some ⟨.type "type", _, .cls cd, sl⟩ => (match cd.mro, sl.toList with
    | .ref C' :: bm, [_, _, _, _, some (.builtin n), _] => C' == C && n == "ValueError.__new__" && !cd.hasDel && cd.hasDict && refsVE bm
    | _, _ => false)
  | _ => false
theorem clsE_ok {K : Frag} {C : Addr} (q : clsE K C = true) : ∃ nm q N bs bm sn sub ab col dd k0 k1 k2 k3 k5, K.lookup C = some (excClassObj nm q C N bs bm true sn sub ab col dd k0 k1 k2 k3 k5 "ValueError.__new__") ∧ refsVE bm = true := by
  unfold clsE at q
  split at q
  · rename_i dd cd sl ho
    split at q
    · rename_i C' bm k0 k1 k2 k3 n k5 hm hs
      simp only [Bool.and_eq_true, beq_iff_eq, Bool.not_eq_true'] at q
      obtain ⟨⟨⟨⟨rfl, rfl⟩, hdel⟩, hdd⟩, ht⟩ := q
      obtain ⟨nm, bs, mro, ns, qn, hd, sn, sub, ab, col, del⟩ := cd
      dsimp only at hm hdel hdd
      subst hm hdel hdd
      have hsl : sl = #[k0, k1, k2, k3, some (.builtin "ValueError.__new__"), k5] := by
        obtain ⟨l⟩ := sl
        simp only at hs
        rw [hs]
      subst hsl
      exact ⟨nm, qn, ns, bs, bm, sn, sub, ab, col, dd, k0, k1, k2, k3, k5, ho, ht⟩
    · cases q
  · cases q
def codeE (K : Frag) (file : Str) (x : Str) : Bool := match K.lookup (He.ma K (He.ga K x) "__init__") with
  | some ⟨_, _, .func fd, _⟩ => (match fd.code, fd.closure with
    | .ref cda, [(n, cc)] => codeIn K (.ref cda) fd.qualname && (decide (n = "__class__") && ((match K.lookup cda with
        | some ⟨_, _, .fields vs, _⟩ => (match (vs[2]? : Option Value) with
          | some (Value.str z _) => decide (z = file)
          | _ => false)
        | _ => false) && (match K.lookup cc with
        | some ⟨_, _, .cell (some (.ref D)), _⟩ => decide (D = He.ga K x)
        | _ => false)))
    | _, _ => false)
  | _ => false
def errB (K : Frag) (file x f : Str) : Bool := ([clsE K (He.ga K x), He.eqO (findIn K (.ref (He.ga K x)) "__setattr__") (some (some (.builtin "object.__setattr__"))), He.eqO (findIn K (.ref (He.ga K x)) "__getattribute__") (some (some (.builtin "BaseException.__getattribute__"))),
  He.eqO (findIn K (.ref (He.ga K x)) "__getattr__") (some none), He.eqO (findIn K (.ref (He.ga K x)) f) (some none), He.eqO (findIn K (.ref (He.ga K x)) "__init__") (some (some (.ref (He.ma K (He.ga K x) "__init__")))), decide (typeIn K (.ref (He.ma K (He.ga K x) "__init__")) = some (.type "function")),
  keepIn K (.ref (He.ga K x)), decide (subIn K (.ref (He.ga K x)) (.type "BaseException") = some true), decide (subIn K (.ref (He.ga K x)) (.type "ValueError") = some true), decide (typeIn K (.ref (He.ga K x)) = some (.type "type")), hasDictIn K (He.ga K x), decide (mroIn K (He.ga K x) (.ref (He.ga K x)) = some true),
  He.eqO (nsIn K mainGlobals "super") (some none), He.eqO (nsIn K cStatics "thirdparty.any") (some none), He.eqO (ks_superIn K (He.ga K x) (He.ga K x) "__init__") (some (some (.builtin "ValueError.__init__"))), codeE K file x] : List Bool).all id
theorem errB_at {K : Frag} {file x f : Str} (h : errB K file x f = true) {b : Bool} (i : Nat) (hb : ([clsE K (He.ga K x), He.eqO (findIn K (.ref (He.ga K x)) "__setattr__") (some (some (.builtin "object.__setattr__"))), He.eqO (findIn K (.ref (He.ga K x)) "__getattribute__") (some (some (.builtin "BaseException.__getattribute__"))),
  He.eqO (findIn K (.ref (He.ga K x)) "__getattr__") (some none), He.eqO (findIn K (.ref (He.ga K x)) f) (some none), He.eqO (findIn K (.ref (He.ga K x)) "__init__") (some (some (.ref (He.ma K (He.ga K x) "__init__")))), decide (typeIn K (.ref (He.ma K (He.ga K x) "__init__")) = some (.type "function")),
  keepIn K (.ref (He.ga K x)), decide (subIn K (.ref (He.ga K x)) (.type "BaseException") = some true), decide (subIn K (.ref (He.ga K x)) (.type "ValueError") = some true), decide (typeIn K (.ref (He.ga K x)) = some (.type "type")), hasDictIn K (He.ga K x), decide (mroIn K (He.ga K x) (.ref (He.ga K x)) = some true),
  He.eqO (nsIn K mainGlobals "super") (some none), He.eqO (nsIn K cStatics "thirdparty.any") (some none), He.eqO (ks_superIn K (He.ga K x) (He.ga K x) "__init__") (some (some (.builtin "ValueError.__init__"))), codeE K file x] : List Bool)[i]? = some b) : b = true :=
  List.all_eq_true.mp h b (List.mem_of_getElem? hb)
theorem errC_of {prog : Program} {K : Frag} {x f qual : Str} {params : Arguments} {body : List Stmt} {scope : Scope} (e : fnE K x = (some (("__init__" : Str), qual, params, FuncBody.stmts body, scope, mainGlobals, Value.none, builtinsNs) : FnE)) (h : errB K prog.main.file x f = true)
    (h1 : ∃ p1 p2, params = eA1 f p1 p2) (h2 : ∃ txt q1 q2 q3 q4 q5 q6 q7 q8 q9 q10, body = eB1 f txt q1 q2 q3 q4 q5 q6 q7 q8 q9 q10 ∧ (q3.endLine == q5.line) = true) (h3 : scope = eS1 f) (top : (prog.main.scope.names.lookup ("super" : Str)).isSome = false) :
    ErrC prog K (He.ga K x) (He.ma K (He.ga K x) "__init__") f := by
  have hc : codeE K prog.main.file x = true := errB_at h 16 rfl
  refine ⟨clsE_ok (errB_at h 0 rfl), He.eqO_ok (errB_at h 1 rfl), He.eqO_ok (errB_at h 2 rfl), He.eqO_ok (errB_at h 3 rfl), He.eqO_ok (errB_at h 4 rfl), He.eqO_ok (errB_at h 5 rfl), of_decide_eq_true (errB_at h 6 rfl), errB_at h 7 rfl, of_decide_eq_true (errB_at h 8 rfl), of_decide_eq_true (errB_at h 9 rfl),
    of_decide_eq_true (errB_at h 10 rfl), errB_at h 11 rfl, of_decide_eq_true (errB_at h 12 rfl), He.eqO_ok (errB_at h 13 rfl), He.eqO_ok (errB_at h 14 rfl), He.eqO_ok (errB_at h 15 rfl), top, ?_⟩
  obtain ⟨p1, p2, rfl⟩ := h1
  obtain ⟨txt, q1, q2, q3, q4, q5, q6, q7, q8, q9, q10, rfl, hl⟩ := h2
  subst h3
  unfold codeE at hc
  unfold fnE at e
  cases q : K.lookup (He.ma K (He.ga K x) "__init__") with
  | none => rw [q] at hc; cases hc
  | some o =>
    obtain ⟨oc, od, dt, osl⟩ := o
    rw [q] at hc e
    cases dt with
    | func fd =>
      obtain ⟨n1, n2, n3, n4, n5, n6, n7, n8, n9, n10, n11, n12, n13, n14, n15⟩ := fd
      have e2 : (some (n1, n2, n3, n4, n5, n6, n8, n15) : FnE) = (some (("__init__" : Str), qual, eA1 f p1 p2, FuncBody.stmts (eB1 f txt q1 q2 q3 q4 q5 q6 q7 q8 q9 q10), eS1 f, mainGlobals, Value.none, builtinsNs) : FnE) := e
      simp only [Option.some.injEq, Prod.mk.injEq] at e2
      obtain ⟨g1, g2, g3, g4, g5, g6, g7, g8⟩ := e2
      subst g1 g2 g3 g4 g5 g6 g7 g8
      dsimp only at hc
      split at hc
      · rename_i c0 l0 cda n cc
        simp only [Bool.and_eq_true, decide_eq_true_eq] at hc
        obtain ⟨hc1, rfl, hc2, hc3⟩ := hc
        split at hc2
        · rename_i ccl cdd vs ccs hcda
          split at hc2
          · rename_i z tf hvs
            have hz := of_decide_eq_true hc2
            subst hz
            split at hc3
            · rename_i cl cld D csl hcc
              have hD := of_decide_eq_true hc3
              subst hD
              exact ⟨cc, cda, _, oc, od, n9, n10, n11, n12, n14, osl, txt, p1, p2, q1, q2, q3, q4, q5, q6, q7, q8, q9, q10, cl, ccl, cld, cdd, csl, ccs, vs, tf, hl, rfl, hc1, hcc, hcda, hvs⟩
            · cases hc3
          · cases hc2
        · cases hc2
      · cases hc
    | _ => cases hc
/-- an own error's __init__, as the text has it -/
structure ErrD where
  x : Str
  qual : Str
  params : Arguments
  body : List Stmt
  scope : Scope
def ErrD.val (d : ErrD) : FnE := some (("__init__" : Str), d.qual, d.params, FuncBody.stmts d.body, d.scope, mainGlobals, Value.none, builtinsNs)
theorem errs_at {K : Frag} {er : List ErrD} (h : er.map (fun d => fnE K d.x) = er.map ErrD.val) (i : Nat) {d : ErrD} (hd : er[i]? = some d) : fnE K d.x = d.val := by
  have e2 : (er.map fun d => fnE K d.x)[i]? = (er.map ErrD.val)[i]? := by rw [h]
  rw [List.getElem?_map, List.getElem?_map, hd] at e2
  exact Option.some.inj e2
end FW
namespace FW
open PySem PySem.Spec PyProof.Rows L2
/-! ### several clauses «except X as n» -/
/-- an exception that a try of X has caught; s: the state in which the clauses are asked -/
structure Cau (X : Cx) (pins : List (Addr × Obj)) (a : Addr) (B : Heap) (sI : Shared) (σ : L2.St) (H : Hp) (cls : Value) (d : Option Addr) (s : Shared) : Prop where
  hs : X.stack = X.env :: X.outer
  hf : X.env.frame = some X.env.locals
  inv : Inv X pins σ H sI
  nb : ∀ b o, sI.heap.get? b = some o → b ∉ frs X.stack → B.get? b = some o
  up : sI.heap.UpToSlots s.heap
  fly : HandSPX.FlyingZ B (X.env :: X.outer) a (Zc cls d) s.heap
  na : H a = none
  os : s.os = sI.os
  ag : AllBare s.gens
section
variable {X : Cx} {pins : List (Addr × Obj)} {a : Addr} {B : Heap} {sI s : Shared} {σ : L2.St} {H : Hp} {cls : Value} {d : Option Addr}
theorem Cau.now (c : Cau X pins a B sI σ H cls d s) : Inv X pins σ H s := c.inv.landed c.nb c.fly.1 c.up c.os c.ag
theorem Cau.on (c : Cau X pins a B sI σ H cls d s) {g : Heap} (f : HandSPX.FlyingZ B (X.env :: X.outer) a (Zc cls d) g) (u : s.heap.UpToSlots g) : Cau X pins a B sI σ H cls d { s with heap := g } :=
  ⟨c.hs, c.hf, c.inv, c.nb, c.up.trans u, f, c.na, c.os, c.ag⟩
theorem Cau.apart (c : Cau X pins a B sI σ H cls d s) : a ≠ X.env.locals ∧ a ∉ X.fs := by
  have no : a ∉ frs (X.env :: X.outer) := fun m => by
    obtain ⟨ox, vx, hx, _, dx⟩ := c.fly.there
    obtain ⟨_, ox', hx', nx⟩ := c.fly.2.2.1.mem m
    rw [hx] at hx'
    cases hx'
    exact nx _ dx
  have m0 : X.env.locals ∈ frs (X.env :: X.outer) := List.mem_filterMap.mpr ⟨X.env, List.mem_cons_self, c.hf⟩
  refine ⟨fun z => no (by rw [z]; exact m0), fun m => no ?_⟩
  obtain ⟨en, me, q⟩ := List.mem_filterMap.mp m
  exact List.mem_filterMap.mpr ⟨en, List.mem_cons_of_mem _ me, q⟩
theorem Cau.hold (c : Cau X pins a B sI σ H cls d s) : ∃ oe, Zc cls d oe ∧ (∃ vs, oe.data = .fields vs) ∧ s.heap.get? a = some oe ∧ Inv (X.suite a ((a, oe) :: (X.pn ++ pins))) [] σ H s := by
  obtain ⟨oe, vs, he, hz, hd⟩ := c.fly.there
  exact ⟨oe, hz, ⟨vs, hd⟩, he, c.now.suite he hd c.na c.apart.1 c.apart.2⟩
/-- a clause: its class, the slot of its name, its suite's reading -/
structure Cl where
  c : Value
  i : Nat
  ts : Addr → Value → Option Addr → TS
/-- what is wanted where clause after clause is asked -/
def wCls (K : PySem.W.Frag) (Wout : WX) (D : Ends) : List Cl → WX
  | [] => Wout
  | k :: r => fun cls d σ H => ∃ b, PySem.W.exmOne K cls k.c = some b ∧
      (b = true → ∀ a, H a = none → k.ts a cls d { nx := fun τ G => D.nx (τ.set k.i none) G, rt := D.rt, bk := fun τ G => D.bk (τ.set k.i none) G, ct := fun τ G => D.ct (τ.set k.i none) G } (σ.set k.i (some (.ref a))) H) ∧
      (b = false → wCls K Wout D r cls d σ H)
inductive Hds (X : Cx) : List ExceptHandler → List Cl → Prop
  | nil : Hds X [] []
  | cons {x n : Str} {k : Cl} {b₀ : Stmt} {suite : List Stmt} {np pos' : Pos} {hds : List ExceptHandler} {l : List Cl} (hN : X.N.Nodup) (hi : X.N[k.i]? = some n) (hln : X.env.kindOf n = some .local) (hc : Names X x k.c)
      (hsu : ∀ (a : Addr) (oe : Obj) (cls : Value) (d : Option Addr) (pn : List (Addr × Obj)), Zc cls d oe → (∃ vs, oe.data = .fields vs) → PSs (X.suite a ((a, oe) :: pn)) (b₀ :: suite) (k.ts a cls d)) (r : Hds X hds l) :
      Hds X (.ExceptHandler (some (.Name x np)) (some n) (b₀ :: suite) pos' :: hds) (k :: l)
/-- no clause takes it: it goes on -/
theorem Cau.pass (c : Cau X pins a B sI σ H cls d s) {Wout : WX} {Q : Flow → Shared → Prop} (tk : Takes X Wout) (w : Wout cls d σ H) : wpAny (model X.prog X.w) X.A (handleBy (.ref a) X.env []) Q X.xe s := by
  refine wpAny_handleBy_nil ?_
  have up0 : wpAny (model X.prog X.w) X.A (setFlight (.ref a) X.env.frame) (fun _ s4 => wpAny (model X.prog X.w) X.A (throw (.ref a) : Sem Flow) Q X.xe s4) X.xe s := by
    rw [c.hf]
    refine HandSPX.setFlight_upZ c.fly fun g gh gu => wpAny_throw (tk _ _ ?_)
    exact ⟨a, B, sI, pins, σ, H, cls, d, rfl, c.inv, c.nb, c.up.trans gu, .inr (.inr (by rw [c.hs]; exact gh)), c.na, c.os, c.ag, w⟩
  obtain ⟨_, _, _, oe, vs, Tb, oT, us, he, _, hd, h1, _⟩ := c.fly
  unfold PySem.passOn
  refine wpAny_bind (wpAny_field he hd h1 ?_)
  rw [if_neg (by simp)]
  first
    | exact wpAny_bind (wpAny_pure (wpAny_bind up0))
    | exact wpAny_bind up0
/-- the clauses, one behind the other -/
theorem Cau.ask {D : Ends} {Wout : WX} (tk : Takes X Wout) : ∀ {hds : List ExceptHandler} {l : List Cl}, Hds X hds l → Cau X pins a B sI σ H cls d s → wCls X.K Wout D l cls d σ H →
    wpAny (model X.prog X.w) X.A (handleBy (.ref a) X.env hds) (SP X pins D) X.xe s := by
  intro hds l hk c
  induction hk with
  | nil => exact fun w => c.pass tk w
  | @cons x n k b₀ suite np pos' hds' l' hN hi hln hc hsu _ ih =>
    rintro ⟨b, hb, yes, no⟩
    obtain ⟨oe, hz, hfl, he, S⟩ := c.hold
    refine wpAny_handleBy_cons (codeAny_handlers_test ?_) (by intro q; cases q)
    have lt : PySem.W.Looks (model X.prog X.w) s.heap (typeOf (.ref a)) cls := fun _ _ _ _ kp q => wpAny_typeOf_ref (kp _ _ he) (by rw [hz.1]; exact q)
    have lm := PySem.W.exm_one (M := model X.prog X.w) c.now.kIn lt hb
    have name : ∀ {Q : Value → Shared → Prop} {E : Value → Shared → Prop}, Q k.c s → wpAny (model X.prog X.w) (X.A.mark (some (.ref a))) (eval (.Name x np) X.env) Q E s := fun {Q E} q => by
      rcases hc with ⟨hg, hdb, hm | ⟨hm, hv, hnn⟩⟩
      · exact ld_glob (X := X.suite a ((a, oe) :: (X.pn ++ pins))) S hg hm q hdb
      · exact ld_blt (X := X.suite a ((a, oe) :: (X.pn ++ pins))) S hg hm hv q hnn hdb
    refine name (lm.here ?_)
    cases b with
    | false =>
      show wpAny _ X.A (handleBy (.ref a) X.env hds') _ _ _
      exact ih (no rfl)
    | true =>
      refine codeAny_handlers_suite_as (HandSPX.lands_againZ c.fly fun g gf gu => ?_)
      have c' := c.on gf gu
      obtain ⟨o2, z2, f2, e2, S2⟩ := c'.hold
      refine store_ok (X := X.suite a ((a, o2) :: (X.pn ++ pins))) (v := .ref a) S2 hN hi (.inl hln) rfl (fun s5 S5 => ?_) (.inr hln)
      refine wpAny_mono ((hsu a o2 cls d (X.pn ++ pins) z2 f2).run [] s5 _ H _ S5 (yes rfl a c.na)) (fun fl s6 hsp => ?_) (fun _ _ z => False.elim z)
      have leave : ∀ {τ : L2.St} {G : Hp} {Q : Shared → Prop}, Inv (X.suite a ((a, o2) :: (X.pn ++ pins))) [] τ G s6 → (∀ s7, Inv X pins (τ.set k.i none) G s7 → Q s7) →
          wpAny (model X.prog X.w) X.A (do bindName X.env n .none; unbindBehindTheSuite X.env n pos') (fun _ s7 => Q s7) X.xe s6 := fun {τ G Q} S6 hq => gone_ok (S6.unsuite c.inv.ok) hN hi hln hq
      cases fl with
      | ret u =>
        obtain ⟨v6, τ, G, S6, r6, q6⟩ := hsp
        exact leave S6 fun s7 J7 => ⟨_, _, _, J7, r6, q6⟩
      | next =>
        obtain ⟨τ, G, S6, q6⟩ := hsp
        exact leave S6 fun s7 J7 => ⟨_, _, J7, q6⟩
      | brk =>
        obtain ⟨τ, G, S6, q6⟩ := hsp
        exact leave S6 fun s7 J7 => ⟨_, _, J7, q6⟩
      | cont =>
        obtain ⟨τ, G, S6, q6⟩ := hsp
        exact leave S6 fun s7 J7 => ⟨_, _, J7, q6⟩
end
section
variable {X : Cx} {body : List Stmt} {h₀ : ExceptHandler} {hds : List ExceptHandler} {l : List Cl} {pos : Pos} {tb : WX → TS} {Wout : WX}
/-- try: body except X1 as n1: .. except X2 as n2: .. -/
def tTryA (K : PySem.W.Frag) (tb : WX → TS) (l : List Cl) (Wout : WX) : TS := fun D σ H => tb (wCls K Wout D l) D σ H
theorem ps_tryA (hs : X.stack = X.env :: X.outer) (hf : X.env.frame = some X.env.locals) (tk : Takes X Wout)
    (hb : ∀ (W : WX) (pn : List (Addr × Obj)) (xe : Value → Shared → Prop), Takes (X.tr pn xe) W → PassesOwn (model X.prog X.w) X.A X.env xe → PSs (X.tr pn xe) body (tb W))
    (hh : Hds X (h₀ :: hds) l) : PS X (.Try body (h₀ :: hds) [] [] pos) (tTryA X.K tb l Wout) := by
  refine ⟨fun pins s σ H D I h => wpAny_Try_except ?_⟩
  have fr : X.A.frames = some (X.env :: X.outer) := by rw [I.ok.frames, hs]
  have run := (hb (wCls X.K Wout D l) (X.pn ++ pins) (fun e s₁ => wpAny (model X.prog X.w) X.A (noteFrame e X.env) (fun _ s₂ => wpAny (model X.prog X.w) X.A (setFlight e none)
    (fun _ s₃ => wpAny (model X.prog X.w) X.A (handleBy e X.env (h₀ :: hds)) (SP X pins D) X.xe s₃) X.xe s₂) X.xe s₁) ?_ PassesOwn.looking).run [] s σ H D (I.toTry _) h
  · refine wpAny_mono run (fun fl s1 hsp => ?_) (fun _ _ he => he)
    cases fl with
    | ret u =>
      obtain ⟨v, τ, G, J, r, q⟩ := hsp
      exact ⟨v, τ, G, J.ofTry I.ok, r, q⟩
    | next =>
      obtain ⟨τ, G, J, q⟩ := hsp
      exact wpAny_execs_nil ⟨τ, G, J.ofTry I.ok, q⟩
    | brk =>
      obtain ⟨τ, G, J, q⟩ := hsp
      exact ⟨τ, G, J.ofTry I.ok, q⟩
    | cont =>
      obtain ⟨τ, G, J, q⟩ := hsp
      exact ⟨τ, G, J.ofTry I.ok, q⟩
  · rintro u s1 ⟨a, B, sI, ps, τ, G, cls, d, rfl, J, nb, up, sky, na, os, ag, w⟩
    have sky' : Sky B (X.env :: X.outer) a (Zc cls d) X.env.locals s1.heap := by rw [← hs]; exact sky
    show wpAny (model X.prog X.w) X.A (noteFrame (.ref a) X.env) _ _ _
    refine Sky.land Zc.steady fr hf sky' fun g gf gu => ?_
    exact Cau.ask (s := { s1 with heap := g }) tk hh ⟨hs, hf, J.ofTry I.ok, nb, up.trans gu, gf, na, os, ag⟩ w
/-- no exception leaves: a def that may raise, called where E0 is wanted -/
theorem passNo {P : Program} {w : World} {X : Cx} : Passes (L2.CX P w) X E0 := fun _ _ _ _ _ _ _ ⟨_, _, _, _, _, _, _, _, _, _, _, _, z⟩ => z.elim
theorem takesNo {X : Cx} : Takes X (fun _ _ _ _ => False) := fun _ _ ⟨_, _, _, _, _, _, _, _, _, _, _, _, _, _, _, _, z⟩ => z.elim
end
/-! ### calls of defs that may raise -/
section
variable {X : Cx} {k j : Nat} {C : Addr} {x m : Str} {sp : Sp} {dvs : List V} {p pos apos : Pos} {e o : Expr} {es : List Expr} {ta : TE} {t : TA} {E : XK} {W : WX}
abbrev CXX (X : Cx) : CXT := L2.CX X.prog X.w
/-- where nothing is raised -/
theorem pe_fN (c : Fn X.prog X.w X.K X.mg X.base (CXX X) k x sp dvs) (hr : Room j X.A) (hk : k ≤ j) (hg : Gl X x) (ha : PA X (e :: es) t)
    (hdb : (x == ("__debug__" : Str)) = false := by decide) (he : starEach (e :: es) X.env = (false, eval e X.env) :: starEach es X.env := by rfl) (hpl : (backTo pos (starEach es X.env)).any (·.1) = false := by rfl) :
    PE X (.Call (.Name x p) (e :: es) [] pos) (tCall sp dvs E0 t) := by
  obtain ⟨f, fd, ps, ds, F, hm, kp, b, d⟩ := c.ex
  exact pe_call F (hr.mono hk) hg hm kp b d passNo ha hdb he hpl
theorem pe_fX (tk : Takes X (fun cls d _ H => E cls d H)) (c : Fn X.prog X.w X.K X.mg X.base (CXX X) k x sp dvs) (hr : Room j X.A) (hk : k ≤ j) (hg : Gl X x) (ha : PA X (e :: es) t)
    (hdb : (x == ("__debug__" : Str)) = false := by decide) (he : starEach (e :: es) X.env = (false, eval e X.env) :: starEach es X.env := by rfl) (hpl : (backTo pos (starEach es X.env)).any (·.1) = false := by rfl) :
    PE X (.Call (.Name x p) (e :: es) [] pos) (tCall sp dvs E t) := by
  obtain ⟨f, fd, ps, ds, F, hm, kp, b, d⟩ := c.ex
  exact pe_call F (hr.mono hk) hg hm kp b d (passes_call tk fun _ _ _ _ h => h) ha hdb he hpl
theorem pe_fS (tk : Takes X W) (c : Fn X.prog X.w X.K X.mg X.base (CXX X) k x sp []) (hr : Room j X.A) (hk : k ≤ j) (hg : Gl X x) (ha : PA X (e :: es) t)
    (hdb : (x == ("__debug__" : Str)) = false := by decide) (he : starEach (e :: es) X.env = (false, eval e X.env) :: starEach es X.env := by rfl) (hpl : (backTo pos (starEach es X.env)).any (·.1) = false := by rfl) :
    PE X (.Call (.Name x p) (e :: es) [] pos) (tCallS sp (WE W) t) := by
  obtain ⟨f, fd, ps, ds, F, hm, kp, b, d⟩ := c.ex
  cases d
  exact pe_callS F (hr.mono hk) hg hm kp b (fun σ => passAt tk σ) ha hdb he hpl
theorem pe_mN (c : Mkr X.prog X.w X.K X.mg X.base (CXX X) k x C sp dvs) (hr : Room j X.A) (hk : k + 1 ≤ j) (hg : Gl X x) (ha : PA X (e :: es) t)
    (hdb : (x == ("__debug__" : Str)) = false := by decide) (he : starEach (e :: es) X.env = (false, eval e X.env) :: starEach es X.env := by rfl) (hpl : (backTo pos (starEach es X.env)).any (·.1) = false := by rfl) :
    PE X (.Call (.Name x p) (e :: es) [] pos) (tMake C sp dvs E0 t) := by
  obtain ⟨f, fd, ps, ds, M, F, hm, b, d⟩ := c.ex
  exact pe_make M F (hr.mono hk) hg hm b d passNo ha hdb he hpl
theorem pe_mX (tk : Takes X (fun cls d _ H => E cls d H)) (c : Mkr X.prog X.w X.K X.mg X.base (CXX X) k x C sp dvs) (hr : Room j X.A) (hk : k + 1 ≤ j) (hg : Gl X x) (ha : PA X (e :: es) t)
    (hdb : (x == ("__debug__" : Str)) = false := by decide) (he : starEach (e :: es) X.env = (false, eval e X.env) :: starEach es X.env := by rfl) (hpl : (backTo pos (starEach es X.env)).any (·.1) = false := by rfl) :
    PE X (.Call (.Name x p) (e :: es) [] pos) (tMake C sp dvs E t) := by
  obtain ⟨f, fd, ps, ds, M, F, hm, b, d⟩ := c.ex
  exact pe_make M F (hr.mono hk) hg hm b d (passes_call tk fun _ _ _ _ h => h) ha hdb he hpl
end
section
variable {P : Program} {w : World} {K : PySem.W.Frag} {mg : Str → Option Value} {base : Heap}
abbrev CXP (P : Program) (w : World) : CXT := L2.CX P w
theorem Fn.mkX {x : Str} {params : Arguments} {body : List Stmt} {scope : Scope} {f : Addr} {N ps : List Str} {k : Nat} {sp : Sp}
    (F : ∃ fd, FunD K x x params body scope [] [] f fd) (g : mg x = some (.ref f)) (S : FnScope N ps scope)
    (hb : ∀ (kV doc pm : Value) (an : Option Addr) (cdv ct : Value) (us : List Value), us.length = ps.length → bindArgs (PySem.W.fnOf x x params body scope .none kV doc pm an cdv ct) ⟨us, []⟩ = pure (ps.zip us))
    (len : ∀ vs H Q E, sp vs H Q E → vs.length = ps.length)
    (hbody : ∀ (cdv : Value) (A : Around) (outer : List Env) (s : Shared) (H : Hp) (vs : List V) (Q : VK) (E : XK), Room k (A.deeper (envOfC x scope s.heap.objs.size f cdv)) → sp vs H Q E →
      ∃ t, PSs (cxOf (CXP P w) P w K mg base N x scope f cdv A outer s H E) body t ∧ t { nx := fun _ H' => Q .non H', rt := Q } (start N vs) H) : Fn P w K mg base (CXP P w) (k + 1) x sp [] := by
  obtain ⟨fd, F⟩ := F
  exact ⟨f, fd, ps, [], F.ok S len hbody, g, F.kp, F.bindsN hb, .nil⟩
theorem Mkr.mkX {x qual : Str} {C : Addr} {params : Arguments} {body : List Stmt} {scope : Scope} {f : Addr} {N ps : List Str} {k : Nat} {sp : Sp} {dvs : List V}
    (n j : Nat) (M : Mk K C f) (g : mg x = some (.ref C)) (F : ∃ fd, FunD K "__init__" qual params body scope dvs [] f fd) (S : FnScope N ps scope) (hd : dvs ≠ []) (hn : n + (dvs.length - j) = ps.length)
    (hb : ∀ (T : Addr) (kV doc pm : Value) (an : Option Addr) (cdv ct : Value) (us its : List Value), us.length = n → its.length = dvs.length →
      ∃ k, bindArgs (PySem.W.fnOf "__init__" qual params body scope (.ref T) kV doc pm an cdv ct) ⟨us, []⟩ = seqItems? (.ref T) >>= k ∧ k (some its.toArray) = pure (ps.zip (us ++ its.drop j)))
    (len : ∀ vs H Q E, sp vs H Q E → vs.length = ps.length)
    (hbody : ∀ (cdv : Value) (A : Around) (outer : List Env) (s : Shared) (H : Hp) (vs : List V) (Q : VK) (E : XK), Room k (A.deeper (envOfC qual scope s.heap.objs.size f cdv)) → sp vs H Q E →
      ∃ t, PSs (cxOf (CXP P w) P w K mg base N qual scope f cdv A outer s H E) body t ∧ t { nx := fun _ H' => Q .non H', rt := Q } (start N vs) H) : Mkr P w K mg base (CXP P w) (k + 1) x C sp (dvs.drop j) := by
  obtain ⟨fd, F⟩ := F
  obtain ⟨ds, hv, hbn⟩ := F.binds1 (ps := ps) n j hd hn hb
  exact ⟨f, fd, ps, ds, M, F.ok S len hbody, g, hbn, hv⟩
theorem Mkr.mkX0 {x qual : Str} {C : Addr} {params : Arguments} {body : List Stmt} {scope : Scope} {f : Addr} {N ps : List Str} {k : Nat} {sp : Sp}
    (M : Mk K C f) (g : mg x = some (.ref C)) (F : ∃ fd, FunD K "__init__" qual params body scope [] [] f fd) (S : FnScope N ps scope)
    (hb : ∀ (kV doc pm : Value) (an : Option Addr) (cdv ct : Value) (us : List Value), us.length = ps.length → bindArgs (PySem.W.fnOf "__init__" qual params body scope .none kV doc pm an cdv ct) ⟨us, []⟩ = pure (ps.zip us))
    (len : ∀ vs H Q E, sp vs H Q E → vs.length = ps.length)
    (hbody : ∀ (cdv : Value) (A : Around) (outer : List Env) (s : Shared) (H : Hp) (vs : List V) (Q : VK) (E : XK), Room k (A.deeper (envOfC qual scope s.heap.objs.size f cdv)) → sp vs H Q E →
      ∃ t, PSs (cxOf (CXP P w) P w K mg base N qual scope f cdv A outer s H E) body t ∧ t { nx := fun _ H' => Q .non H', rt := Q } (start N vs) H) : Mkr P w K mg base (CXP P w) (k + 1) x C sp [] := by
  obtain ⟨fd, F⟩ := F
  exact ⟨f, fd, ps, [], M, F.ok S len hbody, g, F.bindsN hb, .nil⟩
end
end FW
namespace FW
open PySem PySem.Spec PyProof.Rows L2
/-! ### x == y, x != y of two instances of a class with its own __eq__ -/
section
variable {M : Model} {prog : Program} {w : World} {A : Around} {E : Value → Shared → Prop} {s : Shared} {K : PySem.W.Frag} {x y C f : Addr} {ox oy : Obj} {od oe : Option Obj}
theorem ifBound_objNe {args : List Value} {Q : Option Value → Shared → Prop} (X : K.In s.heap) (I : PySem.W.InstAt s.heap x ox C od) (hs : PySem.W.findIn K (.ref C) "__ne__" = some (some (.builtin "object.__ne__")))
    (h : wpAny M A (call (.builtin "object.__ne__") (.ref x :: args)) (fun v => Q (some v)) E s) : wpAny M A (callSpecialIfBound? (.ref x) "__ne__" args) Q E s := by
  simp only [callSpecialIfBound?, bindSpecialIfBound?]
  refine wpAny_holding (wpAny_bind (wpAny_bind (wpAny_bind (I.type.here ((PySem.W.looks_findIn X hs).here ?_)))))
  refine wpAny_bind (wpAny_askSetting (wpAny_ite ?_))
  have fin : wpAny M A (call (.builtin "object.__ne__") ([.ref x] ++ args) >>= fun v => pure (some v)) Q E s := wpAny_bind (wpAny_mono h (fun v s' h' => wpAny_pure h') fun _ _ h' => h')
  split
  · exact wpAny_bind (wpAny_of_eq (F.cmp_object.ne.bind _) (wpAny_pure (by exact fin)))
  · exact wpAny_tryCatch (wpAny_bind (wpAny_of_eq (F.cmp_object.ne.bind _) (wpAny_pure (by exact fin))))
theorem entry_objNe {Q : Fin → Shared → Prop} (hu : A.units < cLine) (X : K.In s.heap) (I : PySem.W.InstAt s.heap x ox C od) (hs : PySem.W.findIn K (.ref C) "__eq__" = some (some (.ref f))) (hf : PySem.W.isFn K (.ref f) = true)
    (hcall : wpAny (model prog w) A (call (.ref f) [.ref x, .ref y]) (fun v s' => ∃ b, v = .bool b ∧ Q (.done (.ret (.bool (!b)))) s') E s) :
    wpAny (model prog w) A (Builtin.«object.__ne__» ⟨[.ref x, .ref y], []⟩) Q E s := by
  obtain ⟨hp, g, d, t, os⟩ := s
  unfold Builtin.«object.__ne__»
  repeat (first
    | with_reducible refine wpAny_cRoomFor hu ?_
    | (refine wpAny_bind (m := callSpecialIfBound? (.ref x) (Str.ofString "__eq__") [.ref y])
        (PySem.W.ifBound_K X I hs hf (wpAny_mono hcall (fun r s' hr => by
          obtain ⟨b, rfl, hq⟩ := hr
          repeat (first | exact hq | exact wpAny_pure hq | exact wpAny_truthy_bool hq | (refine wpAny_bind (m := truthy (.bool _)) (wpAny_truthy_bool ?_)) | wp_step)) fun _ _ e => e)))
    | wp_step)
theorem rcNe {Q : Value → Shared → Prop} (hu : A.units + 1 < cLine) (X : K.In s.heap) (I : PySem.W.InstAt s.heap x ox C od) (J : PySem.W.InstAt s.heap y oy C oe) (hm : PySem.W.mroIn K C (.type "object") = some true)
    (hn : PySem.W.findIn K (.ref C) "__ne__" = some (some (.builtin "object.__ne__"))) (hs : PySem.W.findIn K (.ref C) "__eq__" = some (some (.ref f))) (hf : PySem.W.isFn K (.ref f) = true)
    (hcall : wpAny (model prog w) A.in1 (call (.ref f) [.ref x, .ref y]) (fun v s' => ∃ b, v = .bool b ∧ Q (.bool (!b)) s') E s) :
    wpAny (model prog w) A (richCompare .NotEq (.ref x) (.ref y)) Q E s := by
  have one : wpAny (model prog w) A (tryCompare (.ref x) "__ne__" (.ref y)) (fun r s' => ∃ v, r = some v ∧ Q v s') E s := by
    unfold tryCompare
    refine wpAny_bind (ifBound_objNe X I hn (wpAny_call (codeAny_call_builtin F.cmp_object.ne.plain F.cmpEntry_ne (PySem.W.check_slot F.cmpKind_ne F.cmpSplit_ne (I.type.andThen (PySem.W.looks_mroIn X hm)) (F.cmpArgs_ne _ _)
      (entry_objNe (A := A.in1) hu X I hs hf (wpAny_mono hcall (fun v s' hv => ?_) fun _ _ e => e))))))
    obtain ⟨b, rfl, hq⟩ := hv
    exact ⟨b, rfl, wpAny_pure ⟨_, rfl, hq⟩⟩
  unfold richCompare
  simp only [oneThing_ref]
  refine wpAny_holding (wpAny_bind (wpAny_cRoomFor (Nat.lt_of_succ_lt hu) ?_))
  rw [cmpInfo_NotEq]
  dsimp only
  refine wpAny_bind (I.type.here (wpAny_bind (J.type.here ?_)))
  rw [show (Value.ref C != Value.ref C) = false from by simp]
  simp only [Bool.false_eq_true, if_false]
  refine wpAny_bind (wpAny_pure ?_)
  simp only [Bool.false_eq_true, if_false]
  refine wpAny_bind (wpAny_mono one (fun r s' z => ?_) fun _ _ e => e)
  obtain ⟨v, rfl, hq⟩ := z
  exact wpAny_pure hq
end
/-- what the head tells of a class with its own __eq__ and no __ne__ -/
structure OwnE (K : PySem.W.Frag) (C : Addr) : Prop where
  mro : PySem.W.mroIn K C (.type "object") = some true
  ne : PySem.W.findIn K (.ref C) "__ne__" = some (some (.builtin "object.__ne__"))
def ownEB (K : PySem.W.Frag) (x : Str) : Bool := decide (PySem.W.mroIn K (He.ga K x) (.type "object") = some true) && He.eqO (PySem.W.findIn K (.ref (He.ga K x)) "__ne__") (some (some (.builtin "object.__ne__")))
theorem ownEB_ok {K : PySem.W.Frag} {x : Str} (h : ownEB K x = true) : OwnE K (He.ga K x) := by
  obtain ⟨h1, h2⟩ := He.ba h
  exact ⟨of_decide_eq_true h1, He.eqO_ok h2⟩
def rNeO (C : Addr) (sp : Sp) : R2 := fun x y H Q => ∃ a b dx dy fs gs, x = .ref a ∧ y = .ref b ∧ H a = some (.ins C dx fs) ∧ H b = some (.ins C dy gs) ∧ sp [x, y] H (fun v H' => ∃ k, v = .bl k ∧ Q (.bl (!k)) H') E0
section
variable {X : Cx} {C : Addr} {k j : Nat} {sp : Sp}
theorem run_eqO {pins : List (Addr × Obj)} {σ : L2.St} {H : Hp} {s : Shared} {A : Around} {a b : Addr} {f : Addr} {fd : FuncData} {ps : List Str} {Q : VK} {R : Value → Shared → Prop} (F : FnOk X.prog X.w X.K X.mg X.base CX0 k f fd ps sp) (hr : Room k A) (hfr : A.frames = X.A.frames) (hb : Binds X.K fd ps []) (I : Inv X pins σ H s)
    (h : sp [.ref a, .ref b] H Q E0) (hq : ∀ v H' u s', Inv X pins σ H' s' → RelV v u → Q v H' → R u s') : wpAny (model X.prog X.w) A (call (.ref f) [.ref a, .ref b]) R X.xe s := by
  have e0 : Env0 X.prog X.w X.K X.mg X.base A X.stack s H := by
    have e := I.env0
    exact ⟨by rw [hfr]; exact e.frames, e.mod, e.bs, e.bsz, e.funs, e.frf, e.hok, e.bare⟩
  have hl := F.len _ _ _ _ h
  have r2 : Vals [V.ref a, V.ref b] [Value.ref a, Value.ref b] := .cons rfl (.cons rfl .nil)
  refine wpAny_call (codeAny_mono (F.run A X.stack s H ⟨[.ref a, .ref b], []⟩ [.ref a, .ref b] [.ref a, .ref b] _ E0 hr e0 (by
    have := hb s [.ref a, .ref b] I.kIn (by simpa using hl)
    simpa using this) r2 h) fun r s' hz => ?_)
  cases r with
  | error e => exact (show False from hz).elim
  | ok fl =>
    cases fl with
    | ret w =>
      obtain ⟨z, H', I', rz, ez⟩ := I.after hz
      exact hq z H' w s' I' rz ez
    | next => exact False.elim hz
    | brk => exact False.elim hz
    | cont => exact False.elim hz
theorem op_neO (o : OwnE X.K C) (c : Mt X.prog X.w X.K X.mg X.base CX0 k C "__eq__" sp []) (hr : Room j X.A) (hk : k + 1 ≤ j) : OpR X (compareOp .NotEq) (rNeO C sp) := by
  intro pins s σ H x y v u Q I rx ry h
  obtain ⟨a, b, dx, dy, fs, gs, rfl, rfl, ha, hb', hsp⟩ := h
  cases rx
  cases ry
  obtain ⟨f, fd, ps, ds, hc, hm, F, bd, d⟩ := c.ex
  cases d
  obtain ⟨mA, J, _⟩ := ins_get I.hok ha
  obtain ⟨mB, J', _⟩ := ins_get I.hok hb'
  obtain ⟨od, J, _⟩ := J.look
  obtain ⟨od', J', _⟩ := J'.look
  show wpAny (model X.prog X.w) X.A (richCompare .NotEq (.ref a) (.ref b)) (EP X pins σ Q) X.xe s
  have hr' := hr.mono hk
  refine rcNe (by have := hr'.un; omega) I.kIn J J' o.mro o.ne hm.at_ hm.fn ?_
  refine run_eqO F hr'.in1 rfl bd I hsp fun v H' u s' I' rv q => ?_
  obtain ⟨kk, rfl, q⟩ := q
  cases rv
  exact ⟨kk, rfl, .bl (!kk), H', I', rfl, q⟩
end
end FW
namespace FW
open PySem PySem.Spec PyProof.Rows HotX
/-! ### walked things come to their end while an exception is handled -/
section
variable {prog : Program} {w : World} {A : Around} {E : Value → Shared → Prop} {s : Shared}
/-- the objects but one are kept -/
abbrev KpB (it : Addr) (h h' : Heap) : Prop := ∀ b o, b ≠ it → h.get? b = some o → h'.get? b = some o
end
end FW
namespace FW
open PySem PySem.Spec PyProof.Rows L2 L2H HotX
/-! ### the layer's walks while an exception is handled -/
/-! ### a comprehension while an exception is handled -/
end FW
namespace FW
open PySem PySem.Spec PyProof.Rows L2 L2H HotX
end FW
namespace FW
open PySem PySem.Spec PyProof.Rows L2
/-! ### readings, step by step: the main goal first, the side goals behind it -/
section
variable {K : PySem.W.Frag} {σ : L2.St} {H : Hp} {Q : VK} {D : Ends} {ta tb tc te : TE} {tt tu : TT} {ts tv : TS} {tA tA' : TA} {v : V} {i j : Int} {n : Nat} {a : Addr} {xs ys : List V}
theorem s_seq (k : ts { D with nx := tv D } σ H) : tSeq ts tv D σ H := k
theorem s_next (k : D.nx σ H) : tNext D σ H := k
theorem s_asg (k : te σ H fun v H1 => D.nx (σ.set n (some v)) H1) : tAsg te (gName n) D σ H := k
theorem s_asgG {g : TG} (k : te σ H fun v H1 => g v σ H1 D.nx) : tAsg te g D σ H := k
theorem s_ret (k : te σ H D.rt) : tRet te D σ H := k
theorem s_if (k : tt σ H fun b H1 => if b = true then ts D σ H1 else tv D σ H1) : tIfS tt ts tv D σ H := k
theorem s_drop (k : te σ H fun _ H1 => D.nx σ H1) : tDrop te D σ H := k
theorem s_par {m : Nat} (k : tA σ H fun vs H1 => ∃ v w, vs = [v, w] ∧ D.nx ((σ.set n (some v)).set m (some w)) H1) : tPar n m tA D σ H := k
theorem s_par2 {R : V → V → Prop} {x y : V} (k : R x y) : ∃ v w, [x, y] = [v, w] ∧ R v w := ⟨x, y, rfl, k⟩
theorem s_aug {ti : TIp} {x : V} (k : te σ H fun y H1 => ti x y H1 fun z H2 => D.nx (σ.set n (some z)) H2) (h : σ[n]? = some (some x)) : tAug n te ti D σ H := ⟨x, h, k⟩
theorem s_fld {f : Str} (k : te σ H fun y H1 => ta σ H1 fun x H2 => ∃ a C dx fs, x = .ref a ∧ H2 a = some (.ins C dx fs) ∧ Cls K C ∧ NoAttr K C f ∧ fs.length < 1000 ∧ D.nx σ (upd H2 a (.ins C dx (putF f y fs)))) : sFld K ta te f D σ H := k
theorem e_var (k : Q v H) (h : σ[n]? = some (some v)) : tVar n σ H Q := ⟨v, h, k⟩
theorem e_c (k : Q v H) : tC v σ H Q := k
theorem e_op {r : R2} (k : ta σ H fun x H1 => tb σ H1 fun y H2 => r x y H2 Q) : tOp r ta tb σ H Q := k
theorem e_un {r : V → Hp → VK → Prop} (k : ta σ H fun x H1 => r x H1 Q) : tUn r ta σ H Q := k
theorem e_U {g : Int → V} (k : Q (g i) H) : rU g (.int i) H Q := ⟨i, rfl, k⟩
theorem e_I0 {g : Int → Int → V} (k : Q (g i j) H) : rI0 g (.int i) (.int j) H Q := ⟨i, j, rfl, rfl, k⟩
theorem e_I {C : Int → Int → Prop} {g : Int → Int → V} (k : Q (g i j) H) (c : C i j) : rI C g (.int i) (.int j) H Q := ⟨i, j, rfl, rfl, c, k⟩
theorem e_ip {f : Int → Int → Int} (k : Q (.int (f i j)) H) : ipI f (.int i) (.int j) H Q := ⟨i, j, rfl, rfl, k⟩
theorem e_eq {x y : V} (k : Q (.bl (decide (x = y))) H) (h : scal x y = true) : rEq x y H Q := ⟨h, k⟩
theorem e_ne {x y : V} (k : Q (.bl (!decide (x = y))) H) (h : scal x y = true) : rNe x y H Q := ⟨h, k⟩
theorem e_test {R : Bool → Hp → Prop} (k : te σ H fun x H' => ∃ k, x = .bl k ∧ R k H') : tTest te σ H R := k
theorem e_tB {R : Bool → Hp → Prop} (k : te σ H fun x H' => ∃ k, x = .bl k ∧ R k H') : L2.tB te σ H R := k
theorem e_bl {R : Bool → Prop} {b : Bool} (k : R b) : ∃ k, V.bl b = .bl k ∧ R k := ⟨b, rfl, k⟩
theorem e_not {R : Bool → Hp → Prop} (k : tt σ H fun c H1 => R (!c) H1) : tNot tt σ H R := k
theorem e_and {R : Bool → Hp → Prop} (k : tt σ H fun c H1 => if c = true then tu σ H1 R else R false H1) : tAnd tt tu σ H R := k
theorem e_or {R : Bool → Hp → Prop} (k : tt σ H fun c H1 => if c = true then R true H1 else tu σ H1 R) : tOr tt tu σ H R := k
theorem e_andV (k : ta σ H fun x H1 => ∃ c, x = .bl c ∧ if c = true then tb σ H1 Q else Q (.bl false) H1) : tAndV ta tb σ H Q := k
theorem e_orV (k : ta σ H fun x H1 => ∃ c, x = .bl c ∧ if c = true then Q (.bl true) H1 else tb σ H1 Q) : tOrV ta tb σ H Q := k
theorem e_notV (k : ta σ H fun x H1 => ∃ c, x = .bl c ∧ Q (.bl (!c)) H1) : tNotV ta σ H Q := k
theorem e_ifx (k : tt σ H fun c H1 => if c = true then ta σ H1 Q else tb σ H1 Q) : tIf tt ta tb σ H Q := k
theorem e_nil {R : List V → Hp → Prop} (k : R [] H) : tNil σ H R := k
theorem e_cons {R : List V → Hp → Prop} (k : te σ H fun x H1 => tA σ H1 fun xs H2 => R (x :: xs) H2) : tCons te tA σ H R := k
theorem e_call {sp : Sp} {E : XK} (k : tA σ H fun vs H1 => sp vs H1 Q E) : tCall sp [] E tA σ H Q := by
  unfold tCall
  have e : (fun vs H1 => sp (vs ++ []) H1 Q E) = fun vs H1 => sp vs H1 Q E := by funext vs H1; rw [List.append_nil]
  rw [e]; exact k
theorem e_cb {r : List V → Hp → VK → Prop} (k : tA σ H fun vs H1 => r vs H1 Q) : tCB r tA σ H Q := k
theorem e_lst (k : tA σ H fun xs H1 => xs.length ≤ sizeLine ∧ ∀ p, H1 p = none → Q (.ref p) (upd H1 p (.lst xs))) : tLst tA σ H Q := k
theorem e_tup (k : tA σ H fun xs H1 => xs.length ≤ sizeLine ∧ ∀ p, H1 p = none → Q (.ref p) (upd H1 p (.tup xs))) : tTup tA σ H Q := k
theorem e_ixL (k : Q v H) (h : SqL K H a xs) (ha : atI xs i = some v) : rIxL K (.ref a) (.int i) H Q := ⟨a, xs, i, v, rfl, rfl, h, ha, k⟩
theorem e_ixT (k : Q v H) (h : SqT K H a xs) (ha : atI xs i = some v) : rIxT K (.ref a) (.int i) H Q := ⟨a, xs, i, v, rfl, rfl, h, ha, k⟩
theorem e_len (k : Q (.int xs.length) H) (h : SqL K H a xs ∨ SqT K H a xs) : Evl.rLenS K [.ref a] H Q := ⟨a, xs, rfl, h, k⟩
theorem e_int (k : Q (.int i) H) : rInt1 [.int i] H Q := .inl ⟨i, rfl, k⟩
theorem e_intB {b : Bool} (k : Q (.int (if b then 1 else 0)) H) : rInt1 [.bl b] H Q := .inr ⟨b, rfl, k⟩
theorem e_abs (k : Q (.int (if i < 0 then -i else i)) H) : rAbs [.int i] H Q := ⟨i, rfl, k⟩
theorem e_max2 (k : Q (.int (if j > i then j else i)) H) : rMax2 [.int i, .int j] H Q := ⟨i, j, rfl, k⟩
theorem e_min2 (k : Q (.int (if j < i then j else i)) H) : rMin2 [.int i, .int j] H Q := ⟨i, j, rfl, k⟩
theorem e_isN {x : V} (k : Q (.bl (decide (x = .non))) H) : rIsN x .non H Q := ⟨rfl, k⟩
theorem e_notN {x : V} (k : Q (.bl (!decide (x = .non))) H) : rNotN x .non H Q := ⟨rfl, k⟩
theorem e_in {x : V} {neg : Bool} (k : Q (.bl (if neg then !inV x xs else inV x xs)) H) (h : SqL K H a xs ∨ SqT K H a xs) (hx : flatV x = true) (ha : xs.all flatV = true) : rIn K neg x (.ref a) H Q := ⟨a, xs, rfl, h, hx, ha, k⟩
theorem e_chain {r r' : R2} (k : ta σ H fun x H1 => tb σ H1 fun y H2 => r x y H2 fun z H3 => ∃ k, z = .bl k ∧ (if k = true then tc σ H3 fun w' H4 => r' y w' H4 Q else Q (.bl false) H3)) : tChain r r' ta tb tc σ H Q := k
/-- what a for asks behind its walked thing -/
def ForK (g : TG) (tb : TS) (D : Ends) (σ : L2.St) (J : It) (H : Hp) : Prop := ∃ W : Nat → Nat → L2.St → Hp → Prop, (∃ m, W 0 m σ H) ∧ ∀ i m σ H, W i m σ H →
  (J.stop i H ∧ D.nx σ H) ∨ (J.go i H ∧ ∃ N : L2.St → Hp → Prop, (∀ σ' H', N σ' H' → ∃ m', m' < m ∧ W (i + 1) m' σ' H') ∧ ∀ x H', J.yld i H x H' → g x σ H' fun σ2 H2 => tb { D with nx := N, ct := N, bk := D.nx } σ2 H2)
theorem s_for {wi : TI} {g : TG} (k : wi σ H fun J H1 => ForK g ts D σ J H1) : tFor wi g ts D σ H := k
theorem i_rng1 {R : It → Hp → Prop} (k : tA σ H fun vs H1 => ∃ j : Int, vs = [.int j] ∧ -(2 ^ 62) ≤ j ∧ j < 2 ^ 62 ∧ R (Itr 0 j.toNat) H1) : iRng1 tA σ H R := k
theorem i_rng1' {R : Int → Prop} (k : R j) (h : -(2 ^ 62) ≤ j ∧ j < 2 ^ 62) : ∃ j' : Int, [V.int j] = [.int j'] ∧ -(2 ^ 62) ≤ j' ∧ j' < 2 ^ 62 ∧ R j' := ⟨j, rfl, h.1, h.2, k⟩
theorem i_rng2 {R : It → Hp → Prop} (k : tA σ H fun vs H1 => ∃ i j : Int, vs = [.int i, .int j] ∧ (-(2 ^ 62) ≤ i ∧ i < 2 ^ 62 ∧ -(2 ^ 62) ≤ j ∧ j < 2 ^ 62) ∧ R (Itr i (j - i).toNat) H1) : iRng2 tA σ H R := k
theorem i_rng2' {R : Int → Int → Prop} (k : R i j) (h : -(2 ^ 62) ≤ i ∧ i < 2 ^ 62 ∧ -(2 ^ 62) ≤ j ∧ j < 2 ^ 62) : ∃ i' j' : Int, [V.int i, V.int j] = [.int i', .int j'] ∧ (-(2 ^ 62) ≤ i' ∧ i' < 2 ^ 62 ∧ -(2 ^ 62) ≤ j' ∧ j' < 2 ^ 62) ∧ R i' j' := ⟨i, j, rfl, h, k⟩
theorem i_list {R : It → Hp → Prop} (k : te σ H fun x H1 => ∃ a, x = .ref a ∧ (∃ xs, SqL K H1 a xs) ∧ R (Itl K a) H1) : iList K te σ H R := k
theorem i_tup {R : It → Hp → Prop} (k : te σ H fun x H1 => ∃ a, x = .ref a ∧ (∃ xs, SqT K H1 a xs) ∧ R (Itt K a) H1) : iTup K te σ H R := k
theorem i_list' {R : Addr → Prop} (xs : List V) (k : R a) (h : SqL K H a xs) : ∃ a', V.ref a = .ref a' ∧ (∃ xs, SqL K H a' xs) ∧ R a' := ⟨a, rfl, ⟨xs, h⟩, k⟩
/-- what a comprehension asks behind its walked thing -/
def LcK (g : TG) (tt : TT) (te : TE) (vs : List Nat) (σ : L2.St) (Q : VK) (J : It) (H1 : Hp) : Prop := ∀ D, H1 D = none → ∃ W : Nat → Nat → Hp → Prop, (∃ m, W 0 m (upd H1 D (.lst []))) ∧ ∀ i m H, W i m H →
  (J.stop i H ∧ Q (.ref D) H) ∨ (J.go i H ∧ ∃ Nx : Hp → Prop, (∀ H', Nx H' → ∃ m', m' < m ∧ W (i + 1) m' H') ∧ ∀ x H', J.yld i H x H' → g x (wipe σ vs) H' fun σ2 H2 => wipe σ2 vs = wipe σ vs ∧ tt σ2 H2 fun b H3 =>
    if b = true then te σ2 H3 fun y H4 => ∃ acc, H4 D = some (.lst acc) ∧ acc.length < sizeLine ∧ Nx (upd H4 D (.lst (acc ++ [y]))) else Nx H3)
theorem e_lc {wi : TI} {g : TG} {vs : List Nat} (k : wi σ H fun J H1 => LcK g tt te vs σ Q J H1) : tLc wi g tt te vs σ H Q := k
theorem g_sub {t : TSet} {R : L2.St → Hp → Prop} (k : ta σ H fun o H1 => tb σ H1 fun i H2 => t o i v H2 fun H3 => R σ H3) : gSub ta tb t v σ H R := k
theorem g_name {R : L2.St → Hp → Prop} (k : R (σ.set n (some v)) H) : gName n v σ H R := k
theorem g_nil {R : L2.St → Hp → Prop} (k : R σ H) : gNil [] σ H R := ⟨rfl, k⟩
theorem g_cons {g : TG} {gs : TGs} {R : L2.St → Hp → Prop} (k : g v σ H fun σ' H' => gs xs σ' H' R) : gCons g gs (v :: xs) σ H R := ⟨v, xs, rfl, k⟩
theorem g_tup {gs : TGs} {R : L2.St → Hp → Prop} (k : gs xs σ H R) (h : SqT K H a xs) (hl : xs.length = n) : gTup K n gs (.ref a) σ H R := ⟨a, xs, rfl, h, hl, k⟩
theorem e_setL {R : Hp → Prop} {m : Nat} (k : R (upd H a (.lst (xs.set m v)))) (h : H a = some (.lst xs)) (hi : ixN xs.length i = some m) : rSetL (.ref a) (.int i) v H R := ⟨a, xs, i, m, rfl, rfl, h, hi, k⟩
theorem e_yes {R : Bool → Hp → Prop} (k : R true H) : tYes σ H R := k
theorem e_bm {T : String} {r : V → List V → Hp → VK → Prop} (k : ta σ H fun x H1 => tyV K T x H1 ∧ tA σ H1 fun xs H2 => r x xs H2 Q) : tBM K T r ta tA σ H Q := k
theorem e_bm0 {T : String} {r : V → List V → Hp → VK → Prop} (k : ta σ H fun x H1 => tyV K T x H1 ∧ r x [] H1 Q) : tBM0 K T r ta σ H Q := k
theorem e_mk {C : Addr} {sp : Sp} {dvs : List V} {E : XK} (k : tA σ H fun vs H1 => ∀ x dx, H1 x = none → H1 dx = none → dx ≠ x → sp (.ref x :: (vs ++ dvs)) (upd (upd H1 dx (.own x)) x (.ins C dx [])) (fun v H2 => v = .non ∧ Q (.ref x) H2) E) : tMake C sp dvs E tA σ H Q := k
theorem e_mt {C : Addr} {m : Str} {sp : Sp} {dvs : List V} {E : XK} (k : ta σ H fun x H1 => ∃ a dx fs, x = .ref a ∧ H1 a = some (.ins C dx fs) ∧ fs.lookup m = none ∧ tA σ H1 fun vs H2 => sp (x :: (vs ++ dvs)) H2 Q E) : tMeth C m sp dvs E ta tA σ H Q := k
theorem e_fldk {f : Str} (k : ta σ H fun x H1 => ∃ a C dx fs v, x = .ref a ∧ H1 a = some (.ins C dx fs) ∧ Cls K C ∧ NoAttr K C f ∧ fs.lookup f = some v ∧ Q v H1) : tFld K ta f σ H Q := k
theorem e_ite {p : Prop} [Decidable p] {A B : Prop} (h1 : p → A) (h2 : ¬ p → B) : if decide p = true then A else B := by
  by_cases h : p
  · rw [if_pos (decide_eq_true h)]; exact h1 h
  · rw [if_neg (by rw [decide_eq_false h]; decide)]; exact h2 h
theorem e_iteN {p : Prop} [Decidable p] {A B : Prop} (h1 : ¬ p → A) (h2 : p → B) : if (!decide p) = true then A else B := by
  by_cases h : p
  · rw [if_neg (by rw [decide_eq_true h]; decide)]; exact h2 h
  · rw [if_pos (by rw [decide_eq_false h]; decide)]; exact h1 h
theorem e_iteB {b : Bool} {A B : Prop} (h1 : b = true → A) (h2 : b = false → B) : if b = true then A else B := by
  cases b
  · rw [if_neg (by decide)]; exact h2 rfl
  · rw [if_pos rfl]; exact h1 rfl
theorem e_T {A B : Prop} (h : A) : if true = true then A else B := by rw [if_pos rfl]; exact h
theorem e_nT {A B : Prop} (h : B) : if (!true) = true then A else B := by rw [if_neg (by decide)]; exact h
theorem e_nF {A B : Prop} (h : A) : if (!false) = true then A else B := by rw [if_pos (by decide)]; exact h
theorem e_F {A B : Prop} (h : B) : if false = true then A else B := by rw [if_neg (by decide)]; exact h
end
/-! ### extensions -/
abbrev Ext (H H' : Hp) : Prop := ∀ a o, H a = some o → H' a = some o
/-- all but the object at p is kept -/
def ExtB (p : Addr) (H H' : Hp) : Prop := ∀ a o, a ≠ p → H a = some o → H' a = some o
theorem Ext.rfl' {H : Hp} : Ext H H := fun _ _ h => h
theorem Ext.tr {H H1 H2 : Hp} (a : Ext H H1) (b : Ext H1 H2) : Ext H H2 := fun x o h => b x o (a x o h)
theorem Ext.new {H : Hp} {p : Addr} {o : HO} (h : H p = none) : Ext H (upd H p o) := fun a u e => by
  rw [upd_ne (ne_of_none e h)]; exact e
theorem Ext.non {H H' : Hp} {p : Addr} (e : Ext H H') (h : H' p = none) : H p = none := by
  cases q : H p with
  | none => rfl
  | some o => rw [e p o q] at h; cases h
theorem Ext.sqL {K : PySem.W.Frag} {H H' : Hp} {a : Addr} {xs : List V} (e : Ext H H') (h : SqL K H a xs) : SqL K H' a xs := Evl.ex_l e h
theorem Ext.sqT {K : PySem.W.Frag} {H H' : Hp} {a : Addr} {xs : List V} (e : Ext H H') (h : SqT K H a xs) : SqT K H' a xs := Evl.ex_t e h
theorem ExtB.of {p : Addr} {H H' : Hp} (e : Ext H H') : ExtB p H H' := fun a o _ h => e a o h
theorem ExtB.tr {p : Addr} {H H1 H2 : Hp} (a : ExtB p H H1) (b : ExtB p H1 H2) : ExtB p H H2 := fun x o n h => b x o n (a x o n h)
theorem ExtB.upd {p : Addr} {H : Hp} {o : HO} : ExtB p H (upd H p o) := fun a u n e => by rw [upd_ne n]; exact e
theorem Ext.upds {H H' : Hp} {p : Addr} {o : HO} (e : Ext H H') (h : H p = Option.none) : Ext H (upd H' p o) := fun a u q => by
  rw [upd_ne (ne_of_none q h)]; exact e a u q
end FW
namespace FW
open PySem PySem.Spec PyProof.Rows L2 PySem.W PySem.HandSPX PySem.ErrX
/-! ### the head's facts, with empty tables left out -/
abbrev AlZ : Type := He.AlD × Bool × List FnE
def obsZK (fa : List He.Fa) (fn : List He.DefD) (ex : Frag → Bool) (er : List ErrD) (tf : List He.Defn) (g : Addr → Option Obj) (K : Frag) : AlZ := (He.obsD fa fn K, ex K && He.tabsB g tf K, er.map fun d => fnE K d.x)
structure SaysZ (fa : List He.Fa) (fn : List He.DefD) (ex : Frag → Bool) (er : List ErrD) (tf : List He.Defn) (h : Heap) (K : Frag) : Prop where
  d : He.SaysD fa fn K
  ex : ex K = true
  er : er.map (fun d => fnE K d.x) = er.map ErrD.val
  hd : ∀ p ∈ tf, codeHdIn K (He.cT K p).1 (He.cT K p).2 = true
  out : ∀ p ∈ tf, K.lookup (He.cT K p).2 = none
  empty : ∀ p ∈ tf, h.get? (He.cT K p).2 = some { cls := .none, data := .fields #[] }
def valZ (fn : List He.DefD) (er : List ErrD) : AlZ := (He.valD fn, true, er.map ErrD.val)
theorem saysZ_of {fa : List He.Fa} {fn : List He.DefD} {ex : Frag → Bool} {er : List ErrD} {tf : List He.Defn} {h : Heap} {as : List Addr} (e : obsZK fa fn ex er tf h.get? (He.frT h.get? as) = valZ fn er) : SaysZ fa fn ex er tf h (He.frT h.get? as) := by
  have e2 : (ex (He.frT h.get? as) && He.tabsB h.get? tf (He.frT h.get? as)) = true := congrArg (fun z : AlZ => z.2.1) e
  obtain ⟨h1, h2⟩ := He.ba e2
  have key : ∀ p ∈ tf, codeHdIn (He.frT h.get? as) (He.cT (He.frT h.get? as) p).1 (He.cT (He.frT h.get? as) p).2 = true ∧ ∃ o, h.get? (He.cT (He.frT h.get? as) p).2 = some o ∧ He.emptyTab o = true := fun p hp => by
    obtain ⟨h3, h4⟩ := He.ba (List.all_eq_true.mp h2 p hp)
    refine ⟨h3, ?_⟩
    cases q : h.get? (He.cT (He.frT h.get? as) p).2 with
    | none => rw [q] at h4; cases h4
    | some o => rw [q] at h4; exact ⟨o, rfl, h4⟩
  exact ⟨congrArg (fun z : AlZ => z.1) e, h1, congrArg (fun z : AlZ => z.2.2) e, fun p hp => (key p hp).1, fun p hp => by
    obtain ⟨_, o, q, z⟩ := key p hp
    exact He.frT_none q z, fun p hp => by
    obtain ⟨_, o, q, z⟩ := key p hp
    rw [q, He.emptyTab_eq z]⟩
/-! ### a def whose code object is known -/
section
variable {P : Program} {w : World} {K : PySem.W.Frag} {mg : Str → Option Value} {base : Heap}
theorem funD_okC {CX : CXT} {x qual : Str} {params : Arguments} {body : List Stmt} {scope : Scope} {dvs : List V} {kws : List (Str × V)} {fd : FuncData} {p : He.Defn} {N ps : List Str} {k : Nat} {sp : Sp}
    (F : FunD K x qual params body scope dvs kws (He.fAd K p) fd) (S : FnScope N ps scope) (len : ∀ vs H Q E, sp vs H Q E → vs.length = ps.length)
    (hbody : ∀ (A : Around) (outer : List Env) (s : Shared) (H : Hp) (vs : List V) (Q : VK) (E : XK), Room k (A.deeper (envOfC qual scope s.heap.objs.size (He.fAd K p) (.ref (He.codeOf K p)))) → sp vs H Q E →
      ∃ t, PSs (cxOf CX P w K mg base N qual scope (He.fAd K p) (.ref (He.codeOf K p)) A outer s H E) body t ∧ t { nx := fun _ H' => Q .non H', rt := Q } (start N vs) H) : FnOk P w K mg base CX (k + 1) (He.fAd K p) fd ps sp := by
  obtain ⟨oc, od, dV, kV, doc, pm, an, cdv, ct, osl, rfl, lk, hcd, _, _⟩ := F.ex
  obtain ⟨c, rfl⟩ := He.codeIn_ref hcd
  have e : He.codeOf K p = c := He.codeOf_eq lk rfl
  exact fn_of lk hcd S len fun A outer s H vs Q E hr hsp => by
    rw [← e] at hr ⊢
    exact hbody A outer s H vs Q E hr hsp
end
/-! ### a body that may raise what W takes, whatever the slots -/
def wLen (n : Nat) (W : WX) : WX := fun cls d σ H => σ.length = n → W cls d σ H
theorem takes_len {X : Cx} {W : WX} {n : Nat} (h : X.N.length = n) (t : Takes X W) : Takes X (wLen n W) := fun u s' ⟨a, B, sI, pins, σ, H, cls, d, e, I, nb, up, sky, na, os, ag, w⟩ =>
  t u s' ⟨a, B, sI, pins, σ, H, cls, d, e, I, nb, up, sky, na, os, ag, w (I.len.trans h)⟩
def tWithE (n : Nat) (t : XK → TS) (W : WX) : TS := fun D σ H => ∃ Ech : XK, (∀ cls d σ' H', Ech cls d H' → wLen n W cls d σ' H') ∧ t Ech D σ H
theorem pss_withE {X : Cx} {body : List Stmt} {n : Nat} {t : XK → TS} {W : WX} (h : ∀ Ech : XK, (∀ cls d σ' H', Ech cls d H' → wLen n W cls d σ' H') → PSs X body (t Ech)) : PSs X body (tWithE n t W) :=
  ⟨fun pins s σ H D I ⟨Ech, hW, q⟩ => (h Ech hW).run pins s σ H D I q⟩
/-- a() where a is the lambda at f, in slot 0 -/
def tAsk (f c : Addr) (q : Str) (tl : XK → Hp → VK → Prop) (E : XK) : TE := fun σ H Q => σ[0]? = some (some (.ref f)) ∧ H c = some (LamX.CodeO c q) ∧ tl E H Q
/-! ### what stays where lambdas are made -/
theorem extN_sqL {K : PySem.W.Frag} {H H' : Hp} {a : Addr} {xs : List V} (e : LamX.ExtN H H') (h : SqL K H a xs) : SqL K H' a xs := by
  rcases h with h | h
  · rcases h with h | ⟨o, h⟩
    · exact .inl (.inl (e _ _ h (fun _ z => by cases z)))
    · exact .inl (.inr ⟨o, e _ _ h (fun _ z => by cases z)⟩)
  · exact .inr h
end FW
namespace FWN
open PySem PySem.Spec PyProof.Rows L2 FW
/-! ### several clauses «except X as n» -/
/-- an exception that a try of X has caught; s: the state in which the clauses are asked -/
structure Cau (X : Cx) (pins : List (Addr × Obj)) (a : Addr) (B : Heap) (sI : Shared) (σ : L2.St) (H : Hp) (cls : Value) (d : Option Addr) (s : Shared) : Prop where
  hs : X.stack = X.env :: X.outer
  hf : X.env.frame = some X.env.locals
  inv : Inv X pins σ H sI
  nb : ∀ b o, sI.heap.get? b = some o → b ∉ frs X.stack → B.get? b = some o
  up : sI.heap.UpToSlots s.heap
  fly : HandSPX.FlyingZ B (X.env :: X.outer) a (L2N.Zn cls d) s.heap
  na : H a = none
  os : s.os = sI.os
  ag : AllBare s.gens
section
variable {X : Cx} {pins : List (Addr × Obj)} {a : Addr} {B : Heap} {sI s : Shared} {σ : L2.St} {H : Hp} {cls : Value} {d : Option Addr}
theorem Cau.now (c : Cau X pins a B sI σ H cls d s) : Inv X pins σ H s := c.inv.landed c.nb c.fly.1 c.up c.os c.ag
theorem Cau.on (c : Cau X pins a B sI σ H cls d s) {g : Heap} (f : HandSPX.FlyingZ B (X.env :: X.outer) a (L2N.Zn cls d) g) (u : s.heap.UpToSlots g) : Cau X pins a B sI σ H cls d { s with heap := g } :=
  ⟨c.hs, c.hf, c.inv, c.nb, c.up.trans u, f, c.na, c.os, c.ag⟩
theorem Cau.apart (c : Cau X pins a B sI σ H cls d s) : a ≠ X.env.locals ∧ a ∉ X.fs := by
  have no : a ∉ frs (X.env :: X.outer) := fun m => by
    obtain ⟨ox, vx, hx, _, dx⟩ := c.fly.there
    obtain ⟨_, ox', hx', nx⟩ := c.fly.2.2.1.mem m
    rw [hx] at hx'
    cases hx'
    exact nx _ dx
  have m0 : X.env.locals ∈ frs (X.env :: X.outer) := List.mem_filterMap.mpr ⟨X.env, List.mem_cons_self, c.hf⟩
  refine ⟨fun z => no (by rw [z]; exact m0), fun m => no ?_⟩
  obtain ⟨en, me, q⟩ := List.mem_filterMap.mp m
  exact List.mem_filterMap.mpr ⟨en, List.mem_cons_of_mem _ me, q⟩
theorem Cau.hold (c : Cau X pins a B sI σ H cls d s) : ∃ oe, L2N.Zn cls d oe ∧ (∃ vs, oe.data = .fields vs) ∧ s.heap.get? a = some oe ∧ Inv (X.suite a ((a, oe) :: (X.pn ++ pins))) [] σ H s := by
  obtain ⟨oe, vs, he, hz, hd⟩ := c.fly.there
  exact ⟨oe, hz, ⟨vs, hd⟩, he, c.now.suite he hd c.na c.apart.1 c.apart.2⟩
inductive Hds (X : Cx) : List ExceptHandler → List Cl → Prop
  | nil : Hds X [] []
  | cons {x n : Str} {k : Cl} {b₀ : Stmt} {suite : List Stmt} {np pos' : Pos} {hds : List ExceptHandler} {l : List Cl} (hN : X.N.Nodup) (hi : X.N[k.i]? = some n) (hln : X.env.kindOf n = some .local) (hc : Names X x k.c)
      (hsu : ∀ (a : Addr) (oe : Obj) (cls : Value) (d : Option Addr) (pn : List (Addr × Obj)), L2N.Zn cls d oe → (∃ vs, oe.data = .fields vs) → PSs (X.suite a ((a, oe) :: pn)) (b₀ :: suite) (k.ts a cls d)) (r : Hds X hds l) :
      Hds X (.ExceptHandler (some (.Name x np)) (some n) (b₀ :: suite) pos' :: hds) (k :: l)
/-- no clause takes it: it goes on -/
theorem Cau.pass (c : Cau X pins a B sI σ H cls d s) {Wout : WX} {Q : Flow → Shared → Prop} (tk : L2N.Takes X Wout) (w : Wout cls d σ H) : wpAny (model X.prog X.w) X.A (handleBy (.ref a) X.env []) Q X.xe s := by
  refine wpAny_handleBy_nil ?_
  have up0 : wpAny (model X.prog X.w) X.A (setFlight (.ref a) X.env.frame) (fun _ s4 => wpAny (model X.prog X.w) X.A (throw (.ref a) : Sem Flow) Q X.xe s4) X.xe s := by
    rw [c.hf]
    refine HandSPX.setFlight_upZ c.fly fun g gh gu => wpAny_throw (tk _ _ ?_)
    exact ⟨a, B, sI, pins, σ, H, cls, d, rfl, c.inv, c.nb, c.up.trans gu, .inr (.inr (by rw [c.hs]; exact gh)), c.na, c.os, c.ag, w⟩
  obtain ⟨_, _, _, oe, vs, Tb, oT, us, he, _, hd, h1, _⟩ := c.fly
  unfold PySem.passOn
  refine wpAny_bind (wpAny_field he hd h1 ?_)
  rw [if_neg (by simp)]
  first
    | exact wpAny_bind (wpAny_pure (wpAny_bind up0))
    | exact wpAny_bind up0
/-- the clauses, one behind the other -/
theorem Cau.ask {D : Ends} {Wout : WX} (tk : L2N.Takes X Wout) : ∀ {hds : List ExceptHandler} {l : List Cl}, Hds X hds l → Cau X pins a B sI σ H cls d s → wCls X.K Wout D l cls d σ H →
    wpAny (model X.prog X.w) X.A (handleBy (.ref a) X.env hds) (SP X pins D) X.xe s := by
  intro hds l hk c
  induction hk with
  | nil => exact fun w => c.pass tk w
  | @cons x n k b₀ suite np pos' hds' l' hN hi hln hc hsu _ ih =>
    rintro ⟨b, hb, yes, no⟩
    obtain ⟨oe, hz, hfl, he, S⟩ := c.hold
    refine wpAny_handleBy_cons (codeAny_handlers_test ?_) (by intro q; cases q)
    have lt : PySem.W.Looks (model X.prog X.w) s.heap (typeOf (.ref a)) cls := fun _ _ _ _ kp q => wpAny_typeOf_ref (kp _ _ he) (by rw [hz.1]; exact q)
    have lm := PySem.W.exm_one (M := model X.prog X.w) c.now.kIn lt hb
    have name : ∀ {Q : Value → Shared → Prop} {E : Value → Shared → Prop}, Q k.c s → wpAny (model X.prog X.w) (X.A.mark (some (.ref a))) (eval (.Name x np) X.env) Q E s := fun {Q E} q => by
      rcases hc with ⟨hg, hdb, hm | ⟨hm, hv, hnn⟩⟩
      · exact ld_glob (X := X.suite a ((a, oe) :: (X.pn ++ pins))) S hg hm q hdb
      · exact ld_blt (X := X.suite a ((a, oe) :: (X.pn ++ pins))) S hg hm hv q hnn hdb
    refine name (lm.here ?_)
    cases b with
    | false =>
      show wpAny _ X.A (handleBy (.ref a) X.env hds') _ _ _
      exact ih (no rfl)
    | true =>
      refine codeAny_handlers_suite_as (HandSPX.lands_againZ c.fly fun g gf gu => ?_)
      have c' := c.on gf gu
      obtain ⟨o2, z2, f2, e2, S2⟩ := c'.hold
      refine store_ok (X := X.suite a ((a, o2) :: (X.pn ++ pins))) (v := .ref a) S2 hN hi (.inl hln) rfl (fun s5 S5 => ?_) (.inr hln)
      refine wpAny_mono ((hsu a o2 cls d (X.pn ++ pins) z2 f2).run [] s5 _ H _ S5 (yes rfl a c.na)) (fun fl s6 hsp => ?_) (fun _ _ z => False.elim z)
      have leave : ∀ {τ : L2.St} {G : Hp} {Q : Shared → Prop}, Inv (X.suite a ((a, o2) :: (X.pn ++ pins))) [] τ G s6 → (∀ s7, Inv X pins (τ.set k.i none) G s7 → Q s7) →
          wpAny (model X.prog X.w) X.A (do bindName X.env n .none; unbindBehindTheSuite X.env n pos') (fun _ s7 => Q s7) X.xe s6 := fun {τ G Q} S6 hq => gone_ok (S6.unsuite c.inv.ok) hN hi hln hq
      cases fl with
      | ret u =>
        obtain ⟨v6, τ, G, S6, r6, q6⟩ := hsp
        exact leave S6 fun s7 J7 => ⟨_, _, _, J7, r6, q6⟩
      | next =>
        obtain ⟨τ, G, S6, q6⟩ := hsp
        exact leave S6 fun s7 J7 => ⟨_, _, J7, q6⟩
      | brk =>
        obtain ⟨τ, G, S6, q6⟩ := hsp
        exact leave S6 fun s7 J7 => ⟨_, _, J7, q6⟩
      | cont =>
        obtain ⟨τ, G, S6, q6⟩ := hsp
        exact leave S6 fun s7 J7 => ⟨_, _, J7, q6⟩
end
section
variable {X : Cx} {body : List Stmt} {h₀ : ExceptHandler} {hds : List ExceptHandler} {l : List Cl} {pos : Pos} {tb : WX → TS} {Wout : WX}
/-- no exception leaves: a def that may raise, called where E0 is wanted -/
theorem passNo {P : Program} {w : World} {X : Cx} : Passes (L2N.CX P w) X E0 := fun _ _ _ _ _ _ _ ⟨_, _, _, _, _, _, _, _, _, _, _, _, z⟩ => z.elim
end
/-! ### calls of defs that may raise -/
section
variable {X : Cx} {k j : Nat} {C : Addr} {x m : Str} {sp : Sp} {dvs : List V} {p pos apos : Pos} {e o : Expr} {es : List Expr} {ta : TE} {t : TA} {E : XK} {W : WX}
abbrev CXX (X : Cx) : CXT := L2N.CX X.prog X.w
theorem pe_fX (tk : L2N.Takes X (fun cls d _ H => E cls d H)) (c : Fn X.prog X.w X.K X.mg X.base (CXX X) k x sp dvs) (hr : Room j X.A) (hk : k ≤ j) (hg : Gl X x) (ha : PA X (e :: es) t)
    (hdb : (x == ("__debug__" : Str)) = false := by decide) (he : starEach (e :: es) X.env = (false, eval e X.env) :: starEach es X.env := by rfl) (hpl : (backTo pos (starEach es X.env)).any (·.1) = false := by rfl) :
    PE X (.Call (.Name x p) (e :: es) [] pos) (tCall sp dvs E t) := by
  obtain ⟨f, fd, ps, ds, F, hm, kp, b, d⟩ := c.ex
  exact pe_call F (hr.mono hk) hg hm kp b d (L2N.passes_call tk fun _ _ _ _ h => h) ha hdb he hpl
theorem pe_fS (tk : L2N.Takes X W) (c : Fn X.prog X.w X.K X.mg X.base (CXX X) k x sp []) (hr : Room j X.A) (hk : k ≤ j) (hg : Gl X x) (ha : PA X (e :: es) t)
    (hdb : (x == ("__debug__" : Str)) = false := by decide) (he : starEach (e :: es) X.env = (false, eval e X.env) :: starEach es X.env := by rfl) (hpl : (backTo pos (starEach es X.env)).any (·.1) = false := by rfl) :
    PE X (.Call (.Name x p) (e :: es) [] pos) (tCallS sp (WE W) t) := by
  obtain ⟨f, fd, ps, ds, F, hm, kp, b, d⟩ := c.ex
  cases d
  exact pe_callS F (hr.mono hk) hg hm kp b (fun σ => L2N.passAt tk σ) ha hdb he hpl
theorem pe_mN (c : Mkr X.prog X.w X.K X.mg X.base (CXX X) k x C sp dvs) (hr : Room j X.A) (hk : k + 1 ≤ j) (hg : Gl X x) (ha : PA X (e :: es) t)
    (hdb : (x == ("__debug__" : Str)) = false := by decide) (he : starEach (e :: es) X.env = (false, eval e X.env) :: starEach es X.env := by rfl) (hpl : (backTo pos (starEach es X.env)).any (·.1) = false := by rfl) :
    PE X (.Call (.Name x p) (e :: es) [] pos) (tMake C sp dvs E0 t) := by
  obtain ⟨f, fd, ps, ds, M, F, hm, b, d⟩ := c.ex
  exact pe_make M F (hr.mono hk) hg hm b d passNo ha hdb he hpl
theorem pe_mX (tk : L2N.Takes X (fun cls d _ H => E cls d H)) (c : Mkr X.prog X.w X.K X.mg X.base (CXX X) k x C sp dvs) (hr : Room j X.A) (hk : k + 1 ≤ j) (hg : Gl X x) (ha : PA X (e :: es) t)
    (hdb : (x == ("__debug__" : Str)) = false := by decide) (he : starEach (e :: es) X.env = (false, eval e X.env) :: starEach es X.env := by rfl) (hpl : (backTo pos (starEach es X.env)).any (·.1) = false := by rfl) :
    PE X (.Call (.Name x p) (e :: es) [] pos) (tMake C sp dvs E t) := by
  obtain ⟨f, fd, ps, ds, M, F, hm, b, d⟩ := c.ex
  exact pe_make M F (hr.mono hk) hg hm b d (L2N.passes_call tk fun _ _ _ _ h => h) ha hdb he hpl
end
section
variable {P : Program} {w : World} {K : PySem.W.Frag} {mg : Str → Option Value} {base : Heap}
abbrev CXP (P : Program) (w : World) : CXT := L2N.CX P w
theorem Fn.mkX {x : Str} {params : Arguments} {body : List Stmt} {scope : Scope} {f : Addr} {N ps : List Str} {k : Nat} {sp : Sp}
    (F : ∃ fd, FunD K x x params body scope [] [] f fd) (g : mg x = some (.ref f)) (S : FnScope N ps scope)
    (hb : ∀ (kV doc pm : Value) (an : Option Addr) (cdv ct : Value) (us : List Value), us.length = ps.length → bindArgs (PySem.W.fnOf x x params body scope .none kV doc pm an cdv ct) ⟨us, []⟩ = pure (ps.zip us))
    (len : ∀ vs H Q E, sp vs H Q E → vs.length = ps.length)
    (hbody : ∀ (cdv : Value) (A : Around) (outer : List Env) (s : Shared) (H : Hp) (vs : List V) (Q : VK) (E : XK), Room k (A.deeper (envOfC x scope s.heap.objs.size f cdv)) → sp vs H Q E →
      ∃ t, PSs (cxOf (CXP P w) P w K mg base N x scope f cdv A outer s H E) body t ∧ t { nx := fun _ H' => Q .non H', rt := Q } (start N vs) H) : Fn P w K mg base (CXP P w) (k + 1) x sp [] := by
  obtain ⟨fd, F⟩ := F
  exact ⟨f, fd, ps, [], F.ok S len hbody, g, F.kp, F.bindsN hb, .nil⟩
theorem Mkr.mkX {x qual : Str} {C : Addr} {params : Arguments} {body : List Stmt} {scope : Scope} {f : Addr} {N ps : List Str} {k : Nat} {sp : Sp} {dvs : List V}
    (n j : Nat) (M : Mk K C f) (g : mg x = some (.ref C)) (F : ∃ fd, FunD K "__init__" qual params body scope dvs [] f fd) (S : FnScope N ps scope) (hd : dvs ≠ []) (hn : n + (dvs.length - j) = ps.length)
    (hb : ∀ (T : Addr) (kV doc pm : Value) (an : Option Addr) (cdv ct : Value) (us its : List Value), us.length = n → its.length = dvs.length →
      ∃ k, bindArgs (PySem.W.fnOf "__init__" qual params body scope (.ref T) kV doc pm an cdv ct) ⟨us, []⟩ = seqItems? (.ref T) >>= k ∧ k (some its.toArray) = pure (ps.zip (us ++ its.drop j)))
    (len : ∀ vs H Q E, sp vs H Q E → vs.length = ps.length)
    (hbody : ∀ (cdv : Value) (A : Around) (outer : List Env) (s : Shared) (H : Hp) (vs : List V) (Q : VK) (E : XK), Room k (A.deeper (envOfC qual scope s.heap.objs.size f cdv)) → sp vs H Q E →
      ∃ t, PSs (cxOf (CXP P w) P w K mg base N qual scope f cdv A outer s H E) body t ∧ t { nx := fun _ H' => Q .non H', rt := Q } (start N vs) H) : Mkr P w K mg base (CXP P w) (k + 1) x C sp (dvs.drop j) := by
  obtain ⟨fd, F⟩ := F
  obtain ⟨ds, hv, hbn⟩ := F.binds1 (ps := ps) n j hd hn hb
  exact ⟨f, fd, ps, ds, M, F.ok S len hbody, g, hbn, hv⟩
theorem Mkr.mkX0 {x qual : Str} {C : Addr} {params : Arguments} {body : List Stmt} {scope : Scope} {f : Addr} {N ps : List Str} {k : Nat} {sp : Sp}
    (M : Mk K C f) (g : mg x = some (.ref C)) (F : ∃ fd, FunD K "__init__" qual params body scope [] [] f fd) (S : FnScope N ps scope)
    (hb : ∀ (kV doc pm : Value) (an : Option Addr) (cdv ct : Value) (us : List Value), us.length = ps.length → bindArgs (PySem.W.fnOf "__init__" qual params body scope .none kV doc pm an cdv ct) ⟨us, []⟩ = pure (ps.zip us))
    (len : ∀ vs H Q E, sp vs H Q E → vs.length = ps.length)
    (hbody : ∀ (cdv : Value) (A : Around) (outer : List Env) (s : Shared) (H : Hp) (vs : List V) (Q : VK) (E : XK), Room k (A.deeper (envOfC qual scope s.heap.objs.size f cdv)) → sp vs H Q E →
      ∃ t, PSs (cxOf (CXP P w) P w K mg base N qual scope f cdv A outer s H E) body t ∧ t { nx := fun _ H' => Q .non H', rt := Q } (start N vs) H) : Mkr P w K mg base (CXP P w) (k + 1) x C sp [] := by
  obtain ⟨fd, F⟩ := F
  exact ⟨f, fd, ps, [], M, F.ok S len hbody, g, F.bindsN hb, .nil⟩
end
end FWN
namespace FWN
open PySem PySem.Spec PyProof.Rows L2 FW
section
variable {X : Cx} {C fI : Addr} {f x : Str}
theorem pmk_err {a : Expr} {ta : TA} {p pos : Pos} {k : Nat} (T : PySem.ErrX.ErrC X.prog X.K C fI f) (hf : ErrF f) (gC : X.mg x = some (.ref C)) (hr : Room k X.A) (ha : PA X [a] ta) (hg : Gl X x) (hdb : (x == ("__debug__" : Str)) = false := by decide)
    (he : starEach (a :: []) X.env = (false, eval a X.env) :: starEach [] X.env := by rfl) (hpl : (backTo pos (starEach [] X.env)).any (·.1) = false := by rfl) :
    L2N.PMk X (.Call (.Name x p) [a] [] pos) (tMkE C f ta) := by
  intro pins s σ H Q I h
  refine wpAny_Call_Name_kw (ld_glob I hg gC ?_ hdb)
  refine PySem.W.callWith_K (h₀ := X.base) I.ok.mod.kin T.kC (thn (ha.run pos pins s σ H _ I h) fun us s1 hh => ?_) he hpl
  obtain ⟨vs, H1, I1, r1, v, ev, q1⟩ := hh
  subst ev
  refine ⟨I1.kIn, ?_⟩
  cases r1 with
  | cons rv rn =>
    rename_i v' us'
    cases rn
    show wpAny _ _ (call (.ref C) [v']) _ _ _
    have hlim := I1.nolimit
    have hG := I1.mod.glob.keeps I1.bk
    obtain ⟨mb, hb1, hb2⟩ := I1.mod.blt
    have hB := hb1.keeps I1.bk
    obtain ⟨hp, g, dr, tk, os⟩ := s1
    refine wpAny_call (PySem.ErrX.err_made T hf I1.kIn hlim hG hB hb2 (by have := hr.dp; omega) fun h' tk' e d M => ?_)
    show L2N.MkP X pins σ Q (.ref e) ⟨h', g, dr, tk', os⟩
    obtain ⟨oe, fv, hoe, hc, hd, hdat, h1, h2⟩ := M.obj
    have hns := M.ns
    obtain ⟨G', g1, g2⟩ := restrict h' fun b => decide (b ≠ e)
    have gk : ∀ b, b ≠ e → G'.get? b = h'.get? b := fun b hb => g1 b (decide_eq_true hb)
    have ge : G'.get? e = none := g2 e (by simp)
    have old : ∀ b o, hp.get? b = some o → G'.get? b = some o := fun b o q => (gk b (Nat.ne_of_lt (Nat.lt_of_lt_of_le (Heap.lt_size q) M.new))).trans (M.keep b o q)
    have ob : ObjOk X.prog X.w (upd H1 d (.xd [(f, v)])) G' d (.xd [(f, v)]) :=
      ⟨_, hns.at (fun o q => (gk d M.dne).trans q), fun f => relO_err rv f⟩
    have J : Inv X pins σ (upd H1 d (.xd [(f, v)])) ⟨G', g, dr, tk', os⟩ := I1.laid (t' := tk') old M.dbig ob
    refine ⟨e, oe, fv, ⟨G', g, dr, tk', os⟩, _, .ref C, some d, rfl, J, fun b o q => ?_, ge, hoe, ⟨hc, hd, fun vs q => by rw [hdat] at q; cases q; exact h2⟩, hdat, h1, ?_, rfl, I1.bare, raises_own T.exC T.tyC, q1 d (I1.hok.fresh M.dbig)⟩
    · by_cases hb : b = e
      · have q' : G'.get? b = some o := q
        rw [hb, ge] at q'; cases q'
      · exact (gk b hb).symm.trans q
    · rw [upd_ne (Ne.symm M.dne)]
      exact I1.hok.fresh M.new
theorem ps_raiseE {a : Expr} {ta : TA} {W : WX} {p pos pos2 : Pos} {k : Nat} (hc : X.calm = true) (T : PySem.ErrX.ErrC X.prog X.K C fI f) (hf : ErrF f) (gC : X.mg x = some (.ref C)) (hr : Room k X.A) (tk : L2N.Takes X W) (ha : PA X [a] ta) (hg : Gl X x) (hdb : (x == ("__debug__" : Str)) = false := by decide)
    (he : starEach (a :: []) X.env = (false, eval a X.env) :: starEach [] X.env := by rfl) (hpl : (backTo pos (starEach [] X.env)).any (·.1) = false := by rfl) :
    PS X (.Raise (some (.Call (.Name x p) [a] [] pos)) none pos2) (tRaiseE C f W ta) := L2N.ps_raise hc tk (pmk_err T hf gC hr ha hg hdb he hpl)
end
end FWN
namespace FWN
open PySem PySem.Spec PyProof.Rows L2 FW LamX
/-! ### lambdas without parameters; what is raised has no context -/
theorem inv_xe {X : Cx} {g : Value → Shared → Prop} {pins : List (Addr × Obj)} {σ : L2.St} {H : Hp} {s : Shared} (I : Inv X pins σ H s) : Inv { X with xe := g } pins σ H s :=
  ⟨⟨I.ok.mod, I.ok.kind, I.ok.glob, I.ok.blt, I.ok.above, I.ok.inj, I.ok.has, I.ok.cab, I.ok.hd, I.ok.frames, I.ok.stk, I.ok.exf, I.ok.bs, I.ok.bsz, I.ok.noex, I.ok.exfs, I.ok.funs, I.ok.frf⟩, I.os, I.bare, I.base, I.loc, I.cell, I.free, I.freeC, I.pin, I.hok, I.len⟩
/-- the def's context in which the lambda is called -/
abbrev defCx (X : Cx) (Ng : List Str) (qg : Str) (sg : Scope) (g : Addr) (cdg : Value) (s : Shared) (H : Hp) (pn : List (Addr × Obj)) (xe : Value → Shared → Prop) : Cx := (cxOf CX0 X.prog X.w X.K X.mg X.base Ng qg sg g cdg X.A X.stack s H E0).tr pn xe
end FWN
namespace FW
open PySem PySem.Spec PyProof.Rows L2 L2H HotX PySem.W PySem.Calls
/-! ### isinstance of a held exception, with or without a dict -/
section
variable {prog : Program} {w : World} {A : Around} {E : Value → Shared → Prop} {s : Shared} {K : Frag} {x D : Addr} {ox : Obj} {od : Option Obj}
theorem exc_class {Q : Option Value → Shared → Prop} (T : ExcC K D) (X : K.In s.heap) (I : InstAt s.heap x ox D od) (h : Q (some (.ref D)) { s with toks := s.toks + 1 }) : wpAny (model prog w) A (getAttr? (.ref x) "__class__") Q E s := by
  have fo : findObj K D od "__class__" = some (.bind (.builtin "getset_descriptor.__get__") (.builtin "object.__class__")) := by
    obtain ⟨cd, hc, _⟩ := any_some T.hd
    unfold findObj
    rw [hc, Option.bind_some, T.ha, Option.bind_some]
    simp [T.hn, T.ht]
  obtain ⟨hp, g, d, t, os⟩ := s
  have lt := I.type (M := model prog w)
  have lf := looks_find (M := model prog w) X I fo
  have isB : Looks (model prog w) hp (isInstance (.ref x) (.type "BaseException")) true := lt.andThen (looks_subIn X T.hs)
  have no : (onTheHeap (Value.ref D) && Value.builtin "BaseException.__getattribute__" == Value.builtin "object.__getattribute__") = false := by
    rw [show (Value.builtin "BaseException.__getattribute__" == Value.builtin "object.__getattribute__") = false by decide +kernel]; rfl
  unfold getAttr? getAttrBy? getAttrBy
  refine wpAny_bind (wpAny_mkText (wpAny_bind (wpAny_attempt (wpAny_holding (wpAny_bind (lt.at (wpAny_bind ((looks_findIn (M := model prog w) X T.hg).at ?_))))))))
  show wpAny _ _ (if (onTheHeap (Value.ref D) && Value.builtin "BaseException.__getattribute__" == Value.builtin "object.__getattribute__") = true then _ else _) _ _ _
  rw [no, if_neg Bool.false_ne_true]
  unfold getAttrByItsOwn hookBefore
  refine wpAny_bind ?_
  rw [if_pos (show onTheHeap (Value.ref D) = true from rfl)]
  refine (looks_findIn (M := model prog w) X T.hk).at (wpAny_bind (wpAny_attempt (wpAny_holding ?_)))
  unfold callGetattribute
  rw [if_neg (show ¬ (false && onTheHeap (Value.builtin "BaseException.__getattribute__")) = true from Bool.false_ne_true)]
  unfold boundAndCalled
  rw [PySem.F.excAttr_ValueError.ga.bind (.ref x)]
  refine wpAny_bind (wpAny_pure ?_)
  show wpAny _ _ (call (.builtin "BaseException.__getattribute__") [.ref x, .str "__class__" t]) _ _ _
  refine wpAny_call (codeAny_call_builtin PySem.F.excAttr_ValueError.ga.plain PySem.F.entry_bexc_ga (@check_slot (model prog w) _ _ ⟨hp, g, d, t + 1, os⟩ "BaseException.__getattribute__" "BaseException" "__getattribute__" (.ref x) [.str "__class__" t] [] _ (by decide +kernel) (by decide +kernel) isB (PySem.F.args_bexc_ga (.ref x) (.str "__class__" t)) ?_))
  unfold Builtin.«object.__getattribute__»
  refine wpAny_bind (wpAny_of_eq (a := ((Value.ref x : Value), [Value.str "__class__" t])) (by first | rfl | (simp only [slotArgs]; rfl)) (wpAny_bind (wpAny_pure (wpAny_bind (lt.at (wpAny_bind (lf.at ?_)))))))
  show wpAny _ _ (holding [Value.builtin "object.__class__"] (call (.builtin "getset_descriptor.__get__") [.builtin "object.__class__", .ref x, .ref D]) >>= ret) _ _ _
  refine wpAny_bind (wpAny_holding (wpAny_call (class_get (s := ⟨hp, g, d, t + 1, os⟩) (ox := ox) (od := od) X I T.hm (wpAny_pure ?_))))
  show wpAny _ _ (handedOut (.ref D)) _ _ _
  rw [handedOut_of (v := .ref D) rfl]
  first
    | exact wpAny_pure (wpAny_pure h)
    | exact wpAny_pure h
    | exact wpAny_pure (wpAny_bind (wpAny_pure (wpAny_pure h)))
theorem kitx_exc (T : ExcC K D) : KitX K (.ref x) (.ref D) (fun h => InstAt h x ox D od) where
  ty := fun _ _ _ I => I.type
  it := fun M h X _ => by
    obtain ⟨cd, hc, _⟩ := any_some T.hd
    unfold clsIn at hc
    split at hc
    · rename_i c2 d2 cd2 sl2 ho
      intro A2 Q2 E2 s2 kk q
      unfold isType loadHead
      exact wpAny_bind (wpAny_loadPart (kk _ _ (X _ _ ho)) (wpAny_pure q))
    · cases hc
  ne := (handS_kitx_exc (x := x) (ox := ox) T.hg T.hk T.hs T.hd T.ha T.hn T.ht T.hm).ne
  ca := fun X I k => exc_class T X I k
end
/-- the context holds an exception that is handled: at a, of class cls, with the dict d -/
structure HX (Y : Cx) (a : Addr) (oe : Obj) (cls : Value) (d : Option Addr) : Prop where
  mem : (a, oe) ∈ Y.pn
  hh : Y.A.handled = some (.ref a)
  z : L2N.Zn cls d oe
  fl : ∃ vs, oe.data = .fields vs
theorem HX.hot1 {Y : Cx} {a : Addr} {oe : Obj} {cls : Value} {d : Option Addr} (h : HX Y a oe cls d) : Hot1 Y.A (a, oe) := by
  obtain ⟨vs, e⟩ := h.fl
  exact ⟨h.hh, vs, e, h.z.2.2 vs e⟩
theorem HX.hot {Y : Cx} {a : Addr} {oe : Obj} {cls : Value} {d : Option Addr} (h : HX Y a oe cls d) : HotC Y := ⟨_, h.hot1, h.mem⟩
/-- its dict, if it has one, is tracked -/
def DX (d : Option Addr) (H : Hp) : Prop := d = none ∨ ∃ dd fs, d = some dd ∧ H dd = some (.xd fs)
theorem HX.inst {Y : Cx} {a D : Addr} {oe : Obj} {d : Option Addr} {pins : List (Addr × Obj)} {σ : L2.St} {H : Hp} {s : Shared} (h : HX Y a oe (.ref D) d) (dx : DX d H) (I : Inv Y pins σ H s) : ∃ od, InstAt s.heap a oe D od := by
  have g := (I.pin (a, oe) (List.mem_append_left _ h.mem)).1
  obtain ⟨vs, e⟩ := h.fl
  have no : notCls oe = true := by unfold notCls; rw [e] <;> rfl
  rcases dx with rfl | ⟨dd, fs, rfl, hd⟩
  · exact ⟨none, g, h.z.1, no, by rw [h.z.2.1]; trivial⟩
  · obtain ⟨mA, hns, hr⟩ := (show ObjOk Y.prog Y.w H s.heap dd (.xd fs) from I.hok dd _ hd)
    obtain ⟨od, ho, _⟩ := lookIn_ns hns
    exact ⟨some od, g, h.z.1, no, by rw [h.z.2.1]; exact ho⟩
def rIsX (K : Frag) (a : Addr) (cls : Value) (d : Option Addr) : List V → Hp → VK → Prop := fun xs H Q => ∃ (D : Addr) (c : V) (u : Value) (b : Bool), cls = .ref D ∧ ExcC K D ∧ DX d H ∧ xs = [.ref a, c] ∧ ClsV c u ∧ kitOne K cls u = some b ∧ Q (.bl b) H
def rIsXT (K : Frag) (a : Addr) (cls : Value) (d : Option Addr) : List V → Hp → VK → Prop := fun xs H Q => ∃ (D : Addr) (tp : Addr) (cs : List V) (us : List Value) (b : Bool), cls = .ref D ∧ ExcC K D ∧ DX d H ∧ xs = [.ref a, .ref tp] ∧ H tp = some (.tup cs) ∧ Paired ClsV cs us ∧ kitAny K cls us = some b ∧ Q (.bl b) H
section
variable {Y : Cx} {a : Addr} {oe : Obj} {cls : Value} {d : Option Addr}
/-- what reading a field of an own error asks -/
structure ErrG (K : Frag) (C : Addr) (f : Str) : Prop where
  ga : findIn K (.ref C) "__getattribute__" = some (some (.builtin "BaseException.__getattribute__"))
  gg : findIn K (.ref C) "__getattr__" = some none
  ex : subIn K (.ref C) (.type "BaseException") = some true
  hd : hasDictIn K C = true
  no : findIn K (.ref C) f = some none
theorem ErrG.of {prog : Program} {K : Frag} {C fI : Addr} {f : Str} (T : PySem.ErrX.ErrC prog K C fI f) : ErrG K C f := ⟨T.ga, T.gg, T.exC, T.hdC, T.noN⟩
def tByX (K : Frag) (f : Str) (a : Addr) (cls : Value) (d : Option Addr) (te : TE) : TE := fun σ H Q => te σ H fun x H1 => x = .ref a ∧ ∃ (C dd : Addr) (v : V), cls = .ref C ∧ ErrG K C f ∧ d = some dd ∧ H1 dd = some (.xd [(f, v)]) ∧ Q v H1
end
/-! ### a def called with the held exception -/
section
variable {Y : Cx} {a : Addr} {oe : Obj} {cls : Value} {d : Option Addr}
/-- x(e), e the held exception: the def's reading itself -/
def tCallX (a : Addr) (N : List Str) (t : TS) (te : TE) : TE := fun σ H Q => te σ H fun v H1 => v = .ref a ∧ t { nx := fun _ H' => Q .non H', rt := Q } (L2.start N [.ref a]) H1
end
end FW
namespace FW
open PySem PySem.Spec PyProof.Rows L2 L2H HotX PySem.W PySem.Calls
theorem roomS {j k : Nat} {A : Around} {v : Option Value} (r : Room j A) (h : k ≤ j) : RoomH k (A.mark v) := ⟨(r.mono h).dp, (r.mono h).un⟩
abbrev rJoin (K : Frag) : V → List V → Hp → VK → Prop := fun x xs H Q => ∃ a p, ∃ ys : List Str, x = .str a ∧ xs = [.ref p] ∧ (SqL K H p (ys.map V.str) ∨ SqT K H p (ys.map V.str)) ∧ (ys.map (·.length)).sum + ys.length * a.length ≤ 16777216 ∧ Q (.str (Txt.join a ys)) H
/-- what the head looks at of an error's class, for isinstance -/
def excB (K : Frag) (x : Str) : Bool := ([He.eqO (findIn K (.ref (He.ga K x)) "__getattribute__") (some (some (.builtin "BaseException.__getattribute__"))), He.eqO (findIn K (.ref (He.ga K x)) "__getattr__") (some none), decide (subIn K (.ref (He.ga K x)) (.type "BaseException") = some true), hasDictIn K (He.ga K x),
  He.eqO (findIn K (.ref (He.ga K x)) "__class__") (some (some (.builtin "object.__class__"))), He.eqO (specialIn K (.builtin "object.__class__") "__get__") (some (some (.builtin "getset_descriptor.__get__"))), decide (takesIn K (.builtin "object.__class__") = some true), decide (mroIn K (He.ga K x) (.type "object") = some true)] : List Bool).all id
theorem excB_ok {K : Frag} {x : Str} (h : excB K x = true) : ExcC K (He.ga K x) := by
  unfold excB at h
  simp only [List.all_cons, List.all_nil, id, Bool.and_true, Bool.and_eq_true] at h
  obtain ⟨h1, h2, h3, h4, h5, h6, h7, h8⟩ := h
  exact ⟨He.eqO_ok h1, He.eqO_ok h2, of_decide_eq_true h3, h4, He.eqO_ok h5, He.eqO_ok h6, of_decide_eq_true h7, of_decide_eq_true h8⟩
theorem DX.ext {d : Option Addr} {H H' : Hp} (h : DX d H) (e : Ext H H') : DX d H' := h.imp id fun ⟨dd, fs, a, b⟩ => ⟨dd, fs, a, e _ _ b⟩
theorem pe_gref {X : Cx} {x : Str} {a : Addr} {pos : Pos} (hg : Gl X x) (hm : X.mg x = some (.ref a)) (hd : (x == ("__debug__" : Str)) = false := by decide) : PE X (.Name x pos) (tC (.ref a)) := pe_glob hg hm rfl hd
end FW
namespace FW
open PySem PySem.Spec PyProof.Rows L2 PySem.W
/-! ### the head's run with less memory: what is reached from the globals, each address once, by a bit set -/
def hasZ (seen a : Nat) : Bool := Nat.beq (Nat.land (Nat.shiftRight seen a) 1) 1
def addZ : List Addr → List Addr → Nat → (List Addr → Nat → List Addr) → List Addr
  | [], acc, seen, k => k acc seen
  | a :: r, acc, seen, k => match hasZ seen a with
    | true => addZ r acc seen k
    | false => addZ r (a :: acc) (Nat.lor seen (Nat.shiftLeft 1 a)) k
def kidsZ (g : Addr → Option Obj) : List Addr → List Addr → Nat → (List Addr → Nat → List Addr) → List Addr
  | [], acc, seen, k => k acc seen
  | a :: r, acc, seen, k => match g a with
    | some o => addZ (He.refsD o) acc seen fun acc' seen' => kidsZ g r acc' seen' k
    | none => kidsZ g r acc seen k
def levZ (g : Addr → Option Obj) : Nat → List Addr → List Addr → Nat → List Addr
  | 0, _, tot, _ => tot
  | n + 1, fr, tot, seen => kidsZ g fr [] seen fun new seen' => levZ g n new (new ++ tot) seen'
def asZ (n : Nat) (g : Addr → Option Obj) : List Addr := levZ g n [mainGlobals] [mainGlobals] (Nat.shiftLeft 1 mainGlobals)
def obsV (n : Nat) (fa : List He.Fa) (fn : List He.DefD) (ex : Frag → Bool) (er : List ErrD) (tf : List He.Defn) (g : Addr → Option Obj) : AlZ := obsZK fa fn ex er tf g (He.frT g (asZ n g ++ [cStatics, sysModules]))
def hookV (n : Nat) (fa : List He.Fa) (fn : List He.DefD) (ex : Frag → Bool) (er : List ErrD) (tf : List He.Defn) : PySem.W.Hook where
  α := AlZ
  obs := fun s => obsV n fa fn ex er tf s.heap.get?
  val := fun _ => valZ fn er
  says := fun _ h => ∃ K : Frag, K.In h ∧ SaysZ fa fn ex er tf h K
  of := fun _ _ e => ⟨_, He.frT_in, saysZ_of e⟩
  keeps := fun _ _ _ ⟨K, hK, c⟩ k => ⟨K, PySem.W.Frag.In.keeps hK k, ⟨c.d, c.ex, c.er, c.hd, c.out, fun p hp => k _ _ (c.empty p hp)⟩⟩
theorem obsV_eq {n : Nat} {fa : List He.Fa} {fn : List He.DefD} {ex : Frag → Bool} {er : List ErrD} {tf : List He.Defn} {g : Addr → Option Obj} {s : Shared} (h : ∀ a, g a = s.heap.get? a) : obsV n fa fn ex er tf g = (hookV n fa fn ex er tf).obs s := by
  have e : g = s.heap.get? := funext h
  rw [e] <;> rfl
end FW
namespace FWL
open PySem PySem.Spec PyProof.Rows L2 FW
def top (i : Nat) : Stmt := PySem.Challenge.pw_floorward_k53_texts_of_loops.main.body.getD i (.Pass ⟨0, 0, 0, 0⟩)
def clsBody : Stmt → List Stmt | .ClassDef (body := b) .. => b | _ => []
def meth (i j : Nat) : Stmt := (clsBody (top i)).getD j (.Pass ⟨0, 0, 0, 0⟩)
abbrev st_is_whole : Stmt := FWL.top 15
abbrev N_is_whole : List Str := ["thing"]
theorem sc_is_whole : FnScope N_is_whole ["thing"] (defScope st_is_whole) := ⟨rfl, rfl, rfl, by decide +kernel, rfl, by decide +kernel, by decide +kernel⟩
abbrev st_is_whole_from : Stmt := FWL.top 16
abbrev N_is_whole_from : List Str := ["thing", "least"]
theorem sc_is_whole_from : FnScope N_is_whole_from ["thing", "least"] (defScope st_is_whole_from) := ⟨rfl, rfl, rfl, by decide +kernel, rfl, by decide +kernel, by decide +kernel⟩
abbrev st_is_word_of : Stmt := FWL.top 24
abbrev N_is_word_of : List Str := ["thing", "words"]
theorem sc_is_word_of : FnScope N_is_word_of ["thing", "words"] (defScope st_is_word_of) := ⟨rfl, rfl, rfl, by decide +kernel, rfl, by decide +kernel, by decide +kernel⟩
abbrev st_wrong_part : Stmt := FWL.top 25
abbrev N_wrong_part : List Str := ["k", "a", "c", "d", "stop", "told", "mend"]
theorem sc_wrong_part : FnScope N_wrong_part ["k", "a", "c", "d", "stop", "told", "mend"] (defScope st_wrong_part) := ⟨rfl, rfl, rfl, by decide +kernel, rfl, by decide +kernel, by decide +kernel⟩
abbrev st_Average_init : Stmt := FWL.meth 26 0
abbrev N_Average_init : List Str := ["self", "k", "a", "c", "d", "stop", "told", "mend", "wrong"]
theorem sc_Average_init : FnScope N_Average_init ["self", "k", "a", "c", "d", "stop", "told", "mend"] (defScope st_Average_init) := ⟨rfl, rfl, rfl, by decide +kernel, rfl, by decide +kernel, by decide +kernel⟩
abbrev st_Average_parts : Stmt := FWL.meth 26 1
abbrev N_Average_parts : List Str := ["self"]
theorem sc_Average_parts : FnScope N_Average_parts ["self"] (defScope st_Average_parts) := ⟨rfl, rfl, rfl, by decide +kernel, rfl, by decide +kernel, by decide +kernel⟩
abbrev st_Average_eq : Stmt := FWL.meth 26 2
abbrev N_Average_eq : List Str := ["self", "other"]
theorem sc_Average_eq : FnScope N_Average_eq ["self", "other"] (defScope st_Average_eq) := ⟨rfl, rfl, rfl, by decide +kernel, rfl, by decide +kernel, by decide +kernel⟩
abbrev st_Average_text : Stmt := FWL.meth 26 3
abbrev N_Average_text : List Str := ["self", "part"]
theorem sc_Average_text : FnScope N_Average_text ["self"] (defScope st_Average_text) := ⟨rfl, rfl, rfl, by decide +kernel, rfl, by decide +kernel, by decide +kernel⟩
abbrev st_is_number_ofU : Stmt := FWL.top 31
abbrev N_is_number_ofU : List Str := ["thing", "numbers"]
theorem sc_is_number_ofU : FnScope N_is_number_ofU ["thing", "numbers"] (defScope st_is_number_ofU) := ⟨rfl, rfl, rfl, by decide +kernel, rfl, by decide +kernel, by decide +kernel⟩
abbrev st_check_halves : Stmt := FWL.top 32
abbrev N_check_halves : List Str := ["up", "test", "low", "high", "stop", "told", "plus", "rows", "word", "good"]
theorem sc_check_halves : FnScope N_check_halves ["up", "test", "low", "high", "stop", "told", "plus"] (defScope st_check_halves) := ⟨rfl, rfl, rfl, by decide +kernel, rfl, by decide +kernel, by decide +kernel⟩
abbrev st_Halves_init : Stmt := FWL.meth 33 0
abbrev N_Halves_init : List Str := ["self", "up", "test", "low", "high", "stop", "told", "plus"]
theorem sc_Halves_init : FnScope N_Halves_init ["self", "up", "test", "low", "high", "stop", "told", "plus"] (defScope st_Halves_init) := ⟨rfl, rfl, rfl, by decide +kernel, rfl, by decide +kernel, by decide +kernel⟩
abbrev st_Halves_parts : Stmt := FWL.meth 33 1
abbrev N_Halves_parts : List Str := ["self"]
theorem sc_Halves_parts : FnScope N_Halves_parts ["self"] (defScope st_Halves_parts) := ⟨rfl, rfl, rfl, by decide +kernel, rfl, by decide +kernel, by decide +kernel⟩
abbrev st_Halves_eq : Stmt := FWL.meth 33 2
abbrev N_Halves_eq : List Str := ["self", "other"]
theorem sc_Halves_eq : FnScope N_Halves_eq ["self", "other"] (defScope st_Halves_eq) := ⟨rfl, rfl, rfl, by decide +kernel, rfl, by decide +kernel, by decide +kernel⟩
abbrev st_Halves_text : Stmt := FWL.meth 33 3
abbrev N_Halves_text : List Str := ["self", "part"]
theorem sc_Halves_text : FnScope N_Halves_text ["self"] (defScope st_Halves_text) := ⟨rfl, rfl, rfl, by decide +kernel, rfl, by decide +kernel, by decide +kernel⟩
abbrev st_check_steps : Stmt := FWL.top 35
abbrev N_check_steps : List Str := ["test", "after", "last", "plus", "rows", "word", "good"]
theorem sc_check_steps : FnScope N_check_steps ["test", "after", "last", "plus"] (defScope st_check_steps) := ⟨rfl, rfl, rfl, by decide +kernel, rfl, by decide +kernel, by decide +kernel⟩
abbrev st_Steps_init : Stmt := FWL.meth 36 0
abbrev N_Steps_init : List Str := ["self", "test", "after", "last", "plus"]
theorem sc_Steps_init : FnScope N_Steps_init ["self", "test", "after", "last", "plus"] (defScope st_Steps_init) := ⟨rfl, rfl, rfl, by decide +kernel, rfl, by decide +kernel, by decide +kernel⟩
abbrev st_Steps_parts : Stmt := FWL.meth 36 1
abbrev N_Steps_parts : List Str := ["self"]
theorem sc_Steps_parts : FnScope N_Steps_parts ["self"] (defScope st_Steps_parts) := ⟨rfl, rfl, rfl, by decide +kernel, rfl, by decide +kernel, by decide +kernel⟩
abbrev st_Steps_eq : Stmt := FWL.meth 36 2
abbrev N_Steps_eq : List Str := ["self", "other"]
theorem sc_Steps_eq : FnScope N_Steps_eq ["self", "other"] (defScope st_Steps_eq) := ⟨rfl, rfl, rfl, by decide +kernel, rfl, by decide +kernel, by decide +kernel⟩
abbrev st_Steps_text : Stmt := FWL.meth 36 3
abbrev N_Steps_text : List Str := ["self", "part"]
theorem sc_Steps_text : FnScope N_Steps_text ["self"] (defScope st_Steps_text) := ⟨rfl, rfl, rfl, by decide +kernel, rfl, by decide +kernel, by decide +kernel⟩
abbrev st_part_of : Stmt := FWL.top 39
abbrev N_part_of : List Str := ["word", "figures", "figure"]
theorem sc_part_of : FnScope N_part_of ["word"] (defScope st_part_of) := ⟨rfl, rfl, rfl, by decide +kernel, rfl, by decide +kernel, by decide +kernel⟩
abbrev st_made_loop : Stmt := FWL.top 40
abbrev N_made_loop : List Str := ["kind", "parts", "k", "a", "c", "d", "stop", "told", "mend", "up", "test", "low", "high", "more", "after", "last"]
theorem sc_made_loop : FnScope N_made_loop ["kind", "parts"] (defScope st_made_loop) := ⟨rfl, rfl, rfl, by decide +kernel, rfl, by decide +kernel, by decide +kernel⟩
abbrev st_read_loop : Stmt := FWL.top 41
abbrev N_read_loop : List Str := ["text", "words", "loop", "word", "e"]
theorem sc_read_loop : FnScope N_read_loop ["text"] (defScope st_read_loop) := ⟨rfl, rfl, rfl, by decide +kernel, rfl, by decide +kernel, by decide +kernel⟩
abbrev st_l_cell_at : Stmt := FWL.top 43
abbrev N_l_cell_at : List Str := ["_law_script", "_law_k"]
theorem sc_l_cell_at : FnScope N_l_cell_at ["_law_script", "_law_k"] (defScope st_l_cell_at) := ⟨rfl, rfl, rfl, by decide +kernel, rfl, by decide +kernel, by decide +kernel⟩
abbrev st_l_mixed : Stmt := FWL.top 44
abbrev N_l_mixed : List Str := ["_law_cell", "_law_k", "_law_spread"]
theorem sc_l_mixed : FnScope N_l_mixed ["_law_cell", "_law_k"] (defScope st_l_mixed) := ⟨rfl, rfl, rfl, by decide +kernel, rfl, by decide +kernel, by decide +kernel⟩
abbrev st_l_row : Stmt := FWL.top 45
abbrev N_l_row : List Str := ["_law_cell", "_law_many", "_law_left", "_law_row_here", "_law_k"]
theorem sc_l_row : FnScope N_l_row ["_law_cell", "_law_many"] (defScope st_l_row) := ⟨rfl, rfl, rfl, by decide +kernel, rfl, by decide +kernel, by decide +kernel⟩
abbrev st_l_apart : Stmt := FWL.top 46
abbrev N_l_apart : List Str := ["_law_cell", "_law_k"]
theorem sc_l_apart : FnScope N_l_apart ["_law_cell", "_law_k"] (defScope st_l_apart) := ⟨rfl, rfl, rfl, by decide +kernel, rfl, by decide +kernel, by decide +kernel⟩
abbrev st_l_drawn_halves : Stmt := FWL.top 47
abbrev N_l_drawn_halves : List Str := ["_law_row_here", "_law_at", "_law_parts", "_law_some", "_law_sound", "_law_change"]
theorem sc_l_drawn_halves : FnScope N_l_drawn_halves ["_law_row_here", "_law_at"] (defScope st_l_drawn_halves) := ⟨rfl, rfl, rfl, by decide +kernel, rfl, by decide +kernel, by decide +kernel⟩
abbrev st_l_halvesT : Stmt := FWL.top 48
abbrev N_l_halvesT : List Str := ["_law_parts"]
theorem sc_l_halvesT : FnScope N_l_halvesT ["_law_parts"] (defScope st_l_halvesT) := ⟨rfl, rfl, rfl, by decide +kernel, rfl, by decide +kernel, by decide +kernel⟩
abbrev st_l_drawn_steps : Stmt := FWL.top 49
abbrev N_l_drawn_steps : List Str := ["_law_row_here", "_law_at", "_law_test", "_law_parts"]
theorem sc_l_drawn_steps : FnScope N_l_drawn_steps ["_law_row_here", "_law_at"] (defScope st_l_drawn_steps) := ⟨rfl, rfl, rfl, by decide +kernel, rfl, by decide +kernel, by decide +kernel⟩
abbrev st_l_stepsT : Stmt := FWL.top 50
abbrev N_l_stepsT : List Str := ["_law_parts"]
theorem sc_l_stepsT : FnScope N_l_stepsT ["_law_parts"] (defScope st_l_stepsT) := ⟨rfl, rfl, rfl, by decide +kernel, rfl, by decide +kernel, by decide +kernel⟩
abbrev st_l_weights2 : Stmt := FWL.top 51
abbrev N_l_weights2 : List Str := ["_law_k", "_law_found", "_law_a", "_law_c"]
theorem sc_l_weights2 : FnScope N_l_weights2 ["_law_k"] (defScope st_l_weights2) := ⟨rfl, rfl, rfl, by decide +kernel, rfl, by decide +kernel, by decide +kernel⟩
abbrev st_l_loop_parts : Stmt := FWL.top 52
abbrev N_l_loop_parts : List Str := ["_law_row_here", "_law_at", "_law_k", "_law_some", "_law_a", "_law_c", "_law_d", "_law_stop", "_law_told"]
theorem sc_l_loop_parts : FnScope N_l_loop_parts ["_law_row_here", "_law_at"] (defScope st_l_loop_parts) := ⟨rfl, rfl, rfl, by decide +kernel, rfl, by decide +kernel, by decide +kernel⟩
abbrev st_l_loopT : Stmt := FWL.top 53
abbrev N_l_loopT : List Str := ["_law_parts"]
theorem sc_l_loopT : FnScope N_l_loopT ["_law_parts"] (defScope st_l_loopT) := ⟨rfl, rfl, rfl, by decide +kernel, rfl, by decide +kernel, by decide +kernel⟩
abbrev st_l_refusedH : Stmt := FWL.top 54
abbrev N_l_refusedH : List Str := ["_law_ask", "_law_e", "_law_word"]
theorem sc_l_refusedH : FnScope N_l_refusedH ["_law_ask"] (defScope st_l_refusedH) := ⟨rfl, rfl, rfl, by decide +kernel, rfl, by decide +kernel, by decide +kernel⟩
abbrev st_l_class : Stmt := FWL.top 55
abbrev N_l_class : List Str := ["_law_e", "_law_some", "_law_names", "_law_name", "_law_is_it"]
theorem sc_l_class : FnScope N_l_class ["_law_e"] (defScope st_l_class) := ⟨rfl, rfl, rfl, by decide +kernel, rfl, by decide +kernel, by decide +kernel⟩
abbrev st_l_madeT : Stmt := FWL.top 56
abbrev N_l_madeT : List Str := ["_law_parts", "_law_kind"]
theorem sc_l_madeT : FnScope N_l_madeT ["_law_parts", "_law_kind"] (defScope st_l_madeT) := ⟨rfl, rfl, rfl, by decide +kernel, rfl, by decide +kernel, by decide +kernel⟩
abbrev st_l_line : Stmt := FWL.top 57
abbrev N_l_line : List Str := ["_law_head", "_law_parts", "_law_part"]
theorem sc_l_line : FnScope N_l_line ["_law_head", "_law_parts"] (defScope st_l_line) := ⟨rfl, rfl, rfl, by decide +kernel, rfl, by decide +kernel, by decide +kernel⟩
abbrev st_l_spoilt : Stmt := FWL.top 58
abbrev N_l_spoilt : List Str := ["_law_draws", "_law_text", "_law_way", "_law_at", "_law_signs", "_law_more", "_law_words", "_law_spot", "_law_some"]
theorem sc_l_spoilt : FnScope N_l_spoilt ["_law_draws", "_law_text"] (defScope st_l_spoilt) := ⟨rfl, rfl, rfl, by decide +kernel, rfl, by decide +kernel, by decide +kernel⟩
abbrev st_l_is_average : Stmt := FWL.top 59
abbrev N_l_is_average : List Str := ["_law_words", "_law_figures", "_law_number", "_law_word", "_law_k", "_law_a", "_law_c", "_law_d"]
theorem sc_l_is_average : FnScope N_l_is_average ["_law_words"] (defScope st_l_is_average) := ⟨rfl, rfl, rfl, by decide +kernel, rfl, by decide +kernel, by decide +kernel⟩
abbrev st_l_is_text : Stmt := FWL.top 60
abbrev N_l_is_text : List Str := ["_law_text", "_law_words", "_law_some", "_law_rows", "_law_one", "_law_good"]
theorem sc_l_is_text : FnScope N_l_is_text ["_law_text"] (defScope st_l_is_text) := ⟨rfl, rfl, rfl, by decide +kernel, rfl, by decide +kernel, by decide +kernel⟩
abbrev st_law : Stmt := FWL.top 61
abbrev N_law : List Str := ["_law_script", "_law_k", "_law_row_here", "_law_parts", "_law_loop_here", "_law_due", "_law_told", "_law_kinds", "_law_words", "_law_text", "_law_turn", "_law_draw", "_law_found"]
theorem sc_law : FnScope N_law ["_law_script"] (defScope st_law) := ⟨rfl, rfl, rfl, by decide +kernel, rfl, by decide +kernel, by decide +kernel⟩
abbrev st_BadLoop_init : Stmt := FWL.meth 5 0
abbrev st_BadText_init : Stmt := FWL.meth 12 0
open PySem.W PySem.HandSPX PySem.ErrX in
def errB0z (K : Frag) (file x : Str) : Bool := ([clsE K (He.ga K x), He.eqO (findIn K (.ref (He.ga K x)) "__init__") (some (some (.ref (He.ma K (He.ga K x) "__init__")))), decide (typeIn K (.ref (He.ma K (He.ga K x) "__init__")) = some (.type "function")),
  keepIn K (.ref (He.ga K x)), decide (subIn K (.ref (He.ga K x)) (.type "BaseException") = some true), decide (subIn K (.ref (He.ga K x)) (.type "ValueError") = some true), decide (typeIn K (.ref (He.ga K x)) = some (.type "type")), decide (mroIn K (He.ga K x) (.ref (He.ga K x)) = some true),
  He.eqO (nsIn K mainGlobals "super") (some none), He.eqO (nsIn K cStatics "thirdparty.any") (some none), He.eqO (ks_superIn K (He.ga K x) (He.ga K x) "__init__") (some (some (.builtin "ValueError.__init__"))), codeE K file x] : List Bool).all id
def fn : List He.DefD := [⟨("is_whole", none), "is_whole", "is_whole", defArgs st_is_whole, defBody st_is_whole, defScope st_is_whole, [], []⟩,
  ⟨("is_whole_from", none), "is_whole_from", "is_whole_from", defArgs st_is_whole_from, defBody st_is_whole_from, defScope st_is_whole_from, [], []⟩,
  ⟨("is_word_of", none), "is_word_of", "is_word_of", defArgs st_is_word_of, defBody st_is_word_of, defScope st_is_word_of, [], []⟩,
  ⟨("wrong_part", none), "wrong_part", "wrong_part", defArgs st_wrong_part, defBody st_wrong_part, defScope st_wrong_part, [], []⟩,
  ⟨("Average", some "__init__"), "__init__", "Average.__init__", defArgs st_Average_init, defBody st_Average_init, defScope st_Average_init, [.str "old", .str "none"], []⟩,
  ⟨("Average", some "parts"), "parts", "Average.parts", defArgs st_Average_parts, defBody st_Average_parts, defScope st_Average_parts, [], []⟩,
  ⟨("Average", some "__eq__"), "__eq__", "Average.__eq__", defArgs st_Average_eq, defBody st_Average_eq, defScope st_Average_eq, [], []⟩,
  ⟨("Average", some "text"), "text", "Average.text", defArgs st_Average_text, defBody st_Average_text, defScope st_Average_text, [], []⟩,
  ⟨("is_number_of", none), "is_number_of", "is_number_of", defArgs st_is_number_ofU, defBody st_is_number_ofU, defScope st_is_number_ofU, [], []⟩,
  ⟨("check_halves", none), "check_halves", "check_halves", defArgs st_check_halves, defBody st_check_halves, defScope st_check_halves, [], []⟩,
  ⟨("Halves", some "__init__"), "__init__", "Halves.__init__", defArgs st_Halves_init, defBody st_Halves_init, defScope st_Halves_init, [], []⟩,
  ⟨("Halves", some "parts"), "parts", "Halves.parts", defArgs st_Halves_parts, defBody st_Halves_parts, defScope st_Halves_parts, [], []⟩,
  ⟨("Halves", some "__eq__"), "__eq__", "Halves.__eq__", defArgs st_Halves_eq, defBody st_Halves_eq, defScope st_Halves_eq, [], []⟩,
  ⟨("Halves", some "text"), "text", "Halves.text", defArgs st_Halves_text, defBody st_Halves_text, defScope st_Halves_text, [], []⟩,
  ⟨("check_steps", none), "check_steps", "check_steps", defArgs st_check_steps, defBody st_check_steps, defScope st_check_steps, [], []⟩,
  ⟨("Steps", some "__init__"), "__init__", "Steps.__init__", defArgs st_Steps_init, defBody st_Steps_init, defScope st_Steps_init, [], []⟩,
  ⟨("Steps", some "parts"), "parts", "Steps.parts", defArgs st_Steps_parts, defBody st_Steps_parts, defScope st_Steps_parts, [], []⟩,
  ⟨("Steps", some "__eq__"), "__eq__", "Steps.__eq__", defArgs st_Steps_eq, defBody st_Steps_eq, defScope st_Steps_eq, [], []⟩,
  ⟨("Steps", some "text"), "text", "Steps.text", defArgs st_Steps_text, defBody st_Steps_text, defScope st_Steps_text, [], []⟩,
  ⟨("part_of", none), "part_of", "part_of", defArgs st_part_of, defBody st_part_of, defScope st_part_of, [], []⟩,
  ⟨("made_loop", none), "made_loop", "made_loop", defArgs st_made_loop, defBody st_made_loop, defScope st_made_loop, [], []⟩,
  ⟨("read_loop", none), "read_loop", "read_loop", defArgs st_read_loop, defBody st_read_loop, defScope st_read_loop, [], []⟩,
  ⟨("_law_cell_at", none), "_law_cell_at", "_law_cell_at", defArgs st_l_cell_at, defBody st_l_cell_at, defScope st_l_cell_at, [], []⟩,
  ⟨("_law_mixed", none), "_law_mixed", "_law_mixed", defArgs st_l_mixed, defBody st_l_mixed, defScope st_l_mixed, [], []⟩,
  ⟨("_law_row", none), "_law_row", "_law_row", defArgs st_l_row, defBody st_l_row, defScope st_l_row, [], []⟩,
  ⟨("_law_apart", none), "_law_apart", "_law_apart", defArgs st_l_apart, defBody st_l_apart, defScope st_l_apart, [], []⟩,
  ⟨("_law_drawn_halves", none), "_law_drawn_halves", "_law_drawn_halves", defArgs st_l_drawn_halves, defBody st_l_drawn_halves, defScope st_l_drawn_halves, [], []⟩,
  ⟨("_law_halves", none), "_law_halves", "_law_halves", defArgs st_l_halvesT, defBody st_l_halvesT, defScope st_l_halvesT, [], []⟩,
  ⟨("_law_drawn_steps", none), "_law_drawn_steps", "_law_drawn_steps", defArgs st_l_drawn_steps, defBody st_l_drawn_steps, defScope st_l_drawn_steps, [], []⟩,
  ⟨("_law_steps", none), "_law_steps", "_law_steps", defArgs st_l_stepsT, defBody st_l_stepsT, defScope st_l_stepsT, [], []⟩,
  ⟨("_law_weights", none), "_law_weights", "_law_weights", defArgs st_l_weights2, defBody st_l_weights2, defScope st_l_weights2, [], []⟩,
  ⟨("_law_loop_parts", none), "_law_loop_parts", "_law_loop_parts", defArgs st_l_loop_parts, defBody st_l_loop_parts, defScope st_l_loop_parts, [], []⟩,
  ⟨("_law_loop", none), "_law_loop", "_law_loop", defArgs st_l_loopT, defBody st_l_loopT, defScope st_l_loopT, [], []⟩,
  ⟨("_law_refused", none), "_law_refused", "_law_refused", defArgs st_l_refusedH, defBody st_l_refusedH, defScope st_l_refusedH, [], []⟩,
  ⟨("_law_class", none), "_law_class", "_law_class", defArgs st_l_class, defBody st_l_class, defScope st_l_class, [], []⟩,
  ⟨("_law_made", none), "_law_made", "_law_made", defArgs st_l_madeT, defBody st_l_madeT, defScope st_l_madeT, [], []⟩,
  ⟨("_law_line", none), "_law_line", "_law_line", defArgs st_l_line, defBody st_l_line, defScope st_l_line, [], []⟩,
  ⟨("_law_spoilt", none), "_law_spoilt", "_law_spoilt", defArgs st_l_spoilt, defBody st_l_spoilt, defScope st_l_spoilt, [], []⟩,
  ⟨("_law_is_average", none), "_law_is_average", "_law_is_average", defArgs st_l_is_average, defBody st_l_is_average, defScope st_l_is_average, [], []⟩,
  ⟨("_law_is_text", none), "_law_is_text", "_law_is_text", defArgs st_l_is_text, defBody st_l_is_text, defScope st_l_is_text, [], []⟩,
  ⟨("law", none), "law", "law", defArgs st_law, defBody st_law, defScope st_law, [], []⟩]
def fa : List He.Fa := [.free "abs", .free "all", .free "any", .free "bool", .free "dict", .free "int", .free "isinstance", .free "len", .free "list", .free "range", .free "str", .free "zip", .str "DIGITS" "0123456789", .glo "Average", .glo "BadBeginning", .glo "BadBracket", .glo "BadGuesses", .glo "BadKind", .glo "BadLoop", .glo "BadNumber", .glo "BadPower", .glo "BadSought", .glo "BadStart", .glo "BadText", .glo "FloorError", .glo "Halves", .glo "LOOKS", .glo "MENDS", .glo "NoGuess", .glo "STOPS_averages", .glo "STOPS_halves", .glo "Steps", .glo "TESTS", .glo "TOLDS", .glo "_law_class", .glo "is_whole", .glo "is_whole_from", .glo "is_word_of", .glo "wrong_part", .glo "is_number_of", .glo "check_halves", .glo "check_steps", .glo "part_of", .glo "made_loop", .glo "read_loop", .glo "_law_cell_at", .glo "_law_mixed", .glo "_law_row", .glo "_law_apart", .glo "_law_drawn_halves", .glo "_law_halves", .glo "_law_drawn_steps", .glo "_law_steps", .glo "_law_weights", .glo "_law_loop_parts", .glo "_law_loop", .glo "_law_refused", .glo "_law_made", .glo "_law_line", .glo "_law_spoilt", .glo "_law_is_average", .glo "_law_is_text", .glo "law", .cls "Average", .mkr "Average", .meth "Average" "parts", .meth "Average" "__eq__", .meth "Average" "text", .noat "Average" "k", .noat "Average" "a", .noat "Average" "c", .noat "Average" "d", .noat "Average" "stop", .noat "Average" "told", .noat "Average" "mend", .cls "Halves", .mkr "Halves", .meth "Halves" "parts", .meth "Halves" "__eq__", .meth "Halves" "text", .noat "Halves" "up", .noat "Halves" "test", .noat "Halves" "low", .noat "Halves" "high", .noat "Halves" "stop", .noat "Halves" "told", .noat "Halves" "plus", .cls "Steps", .mkr "Steps", .meth "Steps" "parts", .meth "Steps" "__eq__", .meth "Steps" "text", .noat "Steps" "test", .noat "Steps" "after", .noat "Steps" "last", .noat "Steps" "plus", .exm "BadLoop" "BadLoop" true, .exm "BadLoop" "BadText" false, .exm "BadText" "BadLoop" false, .exm "BadText" "BadText" true, .exm "BadText" "FloorError" true]
def ex (K : PySem.W.Frag) : Bool := ([errB K PySem.Challenge.pw_floorward_k53_texts_of_loops.main.file "BadLoop" "word", errB0z K PySem.Challenge.pw_floorward_k53_texts_of_loops.main.file "BadText", FW.excB K "BadText", decide (PySem.W.kitOne K (.ref (He.ga K "BadText")) (.ref (He.ga K "BadNumber")) = some false), decide (PySem.W.kitOne K (.ref (He.ga K "BadText")) (.ref (He.ga K "BadPower")) = some false), decide (PySem.W.kitOne K (.ref (He.ga K "BadText")) (.ref (He.ga K "BadLoop")) = some false), decide (PySem.W.kitOne K (.ref (He.ga K "BadText")) (.ref (He.ga K "BadStart")) = some false), decide (PySem.W.kitOne K (.ref (He.ga K "BadText")) (.ref (He.ga K "BadGuesses")) = some false), decide (PySem.W.kitOne K (.ref (He.ga K "BadText")) (.ref (He.ga K "BadBeginning")) = some false), decide (PySem.W.kitOne K (.ref (He.ga K "BadText")) (.ref (He.ga K "BadSought")) = some false), decide (PySem.W.kitOne K (.ref (He.ga K "BadText")) (.ref (He.ga K "BadBracket")) = some false), decide (PySem.W.kitOne K (.ref (He.ga K "BadText")) (.ref (He.ga K "BadKind")) = some false), decide (PySem.W.kitOne K (.ref (He.ga K "BadText")) (.ref (He.ga K "BadText")) = some true), decide (PySem.W.kitOne K (.ref (He.ga K "BadText")) (.ref (He.ga K "NoGuess")) = some false), He.tupB K "TESTS" [.str "upto", .str "below"], He.tupB K "STOPS_halves" [.str "less", .str "most", .str "wide"], He.tupB K "STOPS_averages" [.str "notless", .str "equal", .str "near1", .str "near2", .str "back", .str "under", .str "held"], He.tupB K "TOLDS" [.str "old", .str "new", .str "less", .str "more"], He.tupB K "MENDS" [.str "none", .str "down", .str "up", .str "both"], He.tupB K "LOOKS" [.str "under", .str "held"], ownEB K "Halves", (He.eqO (PySem.W.findIn K (.ref (He.ga K "Halves")) "__class__") (some (some (.builtin "object.__class__"))) && (He.eqO (PySem.W.specialIn K (.builtin "object.__class__") "__get__") (some (some (.builtin "getset_descriptor.__get__"))) && (decide (PySem.W.takesIn K (.builtin "object.__class__") = some true) && decide (PySem.W.mroIn K (He.ga K "Halves") (.type "object") = some true)))), ownEB K "Steps", (He.eqO (PySem.W.findIn K (.ref (He.ga K "Steps")) "__class__") (some (some (.builtin "object.__class__"))) && (He.eqO (PySem.W.specialIn K (.builtin "object.__class__") "__get__") (some (some (.builtin "getset_descriptor.__get__"))) && (decide (PySem.W.takesIn K (.builtin "object.__class__") = some true) && decide (PySem.W.mroIn K (He.ga K "Steps") (.type "object") = some true)))), ownEB K "Average", (He.eqO (PySem.W.findIn K (.ref (He.ga K "Average")) "__class__") (some (some (.builtin "object.__class__"))) && (He.eqO (PySem.W.specialIn K (.builtin "object.__class__") "__get__") (some (some (.builtin "getset_descriptor.__get__"))) && (decide (PySem.W.takesIn K (.builtin "object.__class__") = some true) && decide (PySem.W.mroIn K (He.ga K "Average") (.type "object") = some true)))), ((["Average", "Halves", "Steps"] : List Str).all fun x => (["Average", "Halves", "Steps"] : List Str).all fun y => decide (x = y) || decide (PySem.W.kitOne K (.ref (He.ga K x)) (.ref (He.ga K y)) = some false))] : List Bool).all id
abbrev R : PySem.W.OpenRow := PySem.W.OpenLaw.row PySem.Challenge.rw_floorward_k53_texts_of_loops
def er : List FW.ErrD := [⟨"BadLoop", "BadLoop.__init__", defArgs st_BadLoop_init, defBody st_BadLoop_init, defScope st_BadLoop_init⟩,
  ⟨"BadText", "BadText.__init__", defArgs st_BadText_init, defBody st_BadText_init, defScope st_BadText_init⟩]
def tf : List He.Defn := [("law", none)]
abbrev hk : PySem.W.Hook := FW.hookV 4 fa fn ex er tf
def ob (s : PySem.W.SharedT) : FW.AlZ := FW.obsV 4 fa fn ex er tf (HandSHeadRun.getT s)
theorem ob_eq (s : PySem.W.SharedT) : ob s = hk.obs s.abs := FW.obsV_eq (HandSHeadRun.getT_eq s)
def loose0 : List Str := ["_wall", "FloorError", "BadNumber", "BadPower", "BadLoop", "BadStart", "BadGuesses", "BadBeginning", "BadSought", "BadBracket", "BadKind", "BadText", "NoGuess", "is_whole", "is_whole_from", "check_number", "power", "STOPS_averages", "TOLDS", "MENDS", "LOOKS", "is_word_of", "wrong_part", "Average", "check_start", "TESTS", "STOPS_halves", "is_number_of", "check_halves", "Halves"]
def loose1 : List Str := ["check_steps", "Steps", "DIGITS", "part_of", "made_loop", "read_loop", "_law_cell_at", "_law_mixed", "_law_row", "_law_apart", "_law_drawn_halves", "_law_halves", "_law_drawn_steps", "_law_steps", "_law_weights", "_law_loop_parts", "_law_loop", "_law_refused", "_law_class", "_law_made", "_law_line", "_law_spoilt", "_law_is_average", "_law_is_text"]
def loose : List Str := loose0 ++ loose1
theorem map3 {σ α β γ : Type} {o : Option σ} {f : σ → α} {g : σ → β} {h : σ → γ} {a : α} {b : β} {c : γ} (h1 : o.map f = some a) (h2 : o.map g = some b) (h3 : o.map h = some c) : o.map (fun s => (f s, g s, h s)) = some (a, b, c) := by
  cases o with
  | none => cases h1
  | some s => cases h1; cases h2; cases h3; rfl
open PySem PySem.W PySem.Calls PyProof.Rows HandSHeadRun in
theorem runA (w : World) : ∀ os : OsState, (endF (stepQ (denQ tabQ) R.prog w) 30000 R.prog w os).map (fun s => looksF R.prog (boot_heap w.params) s.abs) = some true := by
  intro os
  kernel_rfl
open PySem PySem.W PySem.Calls PyProof.Rows HandSHeadRun in
theorem runB (w : World) : ∀ os : OsState, (endF (stepQ (denQ tabQ) R.prog w) 30000 R.prog w os).map (fun s => seenQ (view R.prog [61]) loose (importedModules R.prog.main.body) (fun s => xlAt (view R.prog [61]) [] s && recOk R.toRowW.records s) s.abs) = some (openGood (view R.prog [61]) loose) := by
  intro os
  kernel_rfl
open PySem PySem.W PySem.Calls PyProof.Rows HandSHeadRun in
theorem runC (w : World) : ∀ os : OsState, (endF (stepQ (denQ tabQ) R.prog w) 30000 R.prog w os).map (fun s => ob s) = some (hk.val w) := by
  intro os
  kernel_rfl
theorem run (w : World) : HandSHeadRun.RunEq R (PySem.W.view R.prog [61]) hk ob 30000 loose w := fun os => map3 (runA w os) (runB w os) (runC w os)
end FWL
/-! tuples turned about, counted, and things that are a list or a tuple -/
namespace PySem
end PySem
namespace FW
open PySem PySem.Spec PyProof.Rows L2
section
variable {X : Cx}
/-- one reading or another -/
def tEither (t u : TE) : TE := fun σ H Q => t σ H Q ∨ u σ H Q
theorem pe_either {e : Expr} {t u : TE} (h1 : PE X e t) (h2 : PE X e u) : PE X e (tEither t u) := ⟨fun pins s σ H Q I h => by
  rcases h with h | h
  · exact h1.run pins s σ H Q I h
  · exact h2.run pins s σ H Q I h⟩
/-! ### enumerate(tuple) -/
end
end FW
namespace FW
open PySem PySem.Spec PyProof.Rows L2
end FW
local macro_rules | `(tactic| walk_at "re1") => `(tactic| with_reducible first
  | refine FW.e_var ?_ (by with_unfolding_all rfl) | refine FW.e_c ?_ | refine FW.e_op ?_ | refine FW.e_un ?_ | refine FW.e_U ?_ | refine FW.e_I0 ?_ | refine FW.e_I ?_ ?_ | refine FW.e_ip ?_
  | refine FW.e_test ?_ | refine FW.e_tB ?_ | refine FW.e_bl ?_ | refine FW.e_not ?_ | refine FW.e_and ?_ | refine FW.e_or ?_ | refine FW.e_andV ?_ | refine FW.e_orV ?_ | refine FW.e_notV ?_ | refine FW.e_ifx ?_
  | refine FW.e_nil ?_ | refine FW.e_cons ?_ | refine FW.e_call ?_ | refine FW.e_cb ?_ | refine FW.e_lst ?_ | refine FW.e_tup ?_ | refine FW.e_int ?_ | refine FW.e_intB ?_ | refine FW.e_abs ?_ | refine FW.e_max2 ?_ | refine FW.e_min2 ?_
  | refine FW.e_eq ?_ rfl | refine FW.e_ne ?_ rfl | refine FW.e_isN ?_ | refine FW.e_notN ?_ | refine FW.e_chain ?_ | refine FW.e_T ?_ | refine FW.e_F ?_ | refine FW.e_nT ?_ | refine FW.e_nF ?_ | refine FW.s_par2 ?_ | refine FW.i_rng1' ?_ ?_ | refine FW.i_rng2' ?_ ?_ | refine FW.g_sub ?_ | refine FW.e_lc ?_ | refine FW.e_yes ?_ | refine FW.e_bm ?_ | refine FW.e_bm0 ?_ | refine FW.e_mk ?_ | refine FW.e_mt ?_ | refine FW.e_fldk ?_ | refine FW.g_name ?_ | refine FW.g_nil ?_ | refine FW.g_cons ?_)
local macro_rules | `(tactic| walk_at "rs1") => `(tactic| with_reducible first
  | refine FW.s_seq ?_ | refine FW.s_asg ?_ | refine FW.s_ret ?_ | refine FW.s_if ?_ | refine FW.s_next ?_ | refine FW.s_drop ?_ | refine FW.s_fld ?_ | refine FW.s_par ?_ | refine FW.s_aug ?_ (by with_unfolding_all rfl) | refine FW.s_asgG ?_ | refine FW.s_for ?_ | refine FW.i_rng1 ?_ | refine FW.i_rng2 ?_ | refine FW.i_list ?_ | refine FW.i_tup ?_)
local macro_rules | `(tactic| walk_at "re") => `(tactic| repeat (walk_at "re1"))
local macro_rules | `(tactic| walk_at "rd") => `(tactic| repeat (first | walk_at "rs1" | walk_at "re1"))
namespace FWL
open PySem PySem.Spec PyProof.Rows L2 FW
/-! ### is_whole, is_whole_from -/
def tyNames : List String := ["NoneType", "bool", "int", "str", "float", "list", "tuple", "dict"]
/-- a thing of a built-in kind -/
def WT (K : PySem.W.Frag) (H : Hp) (v : V) (n : String) : Prop := TyX K H v (.type n) ∧ n ∈ tyNames
def isInt : V → Bool
  | .int _ => true
  | _ => false
def isStr : V → Bool
  | .str _ => true
  | _ => false
def iv : V → Int
  | .int i => i
  | _ => 0
def fromI (v : V) (l : Int) : Bool := isInt v && decide (l ≤ iv v)
theorem WT.isInt {K : PySem.W.Frag} {H : Hp} {v : V} {n : String} (h : WT K H v n) : isInt v = decide (n = "int") := by
  obtain ⟨h, _⟩ := h
  generalize ht : Value.type n = t at h
  cases h with
  | base b => cases b <;> first | (cases ht; rfl) | (injection ht with e; subst e; rfl) | cases ht
  | _ => injection ht with e; subst e; rfl
theorem WT.isStr {K : PySem.W.Frag} {H : Hp} {v : V} {n : String} (h : WT K H v n) : isStr v = decide (n = "str") := by
  obtain ⟨h, _⟩ := h
  generalize ht : Value.type n = t at h
  cases h with
  | base b => cases b <;> first | (cases ht; rfl) | (injection ht with e; subst e; rfl) | cases ht
  | _ => injection ht with e; subst e; rfl
theorem isInt_of {v : V} (h : isInt v = true) : ∃ i, v = .int i := by cases v <;> first | exact ⟨_, rfl⟩ | cases h
theorem isStr_of {v : V} (h : isStr v = true) : ∃ i, v = .str i := by cases v <;> first | exact ⟨_, rfl⟩ | cases h
theorem WT.i {K : PySem.W.Frag} {H : Hp} (i : Int) : WT K H (.int i) "int" := ⟨.base (.int i), by decide⟩
theorem WT.s {K : PySem.W.Frag} {H : Hp} (i : Str) : WT K H (.str i) "str" := ⟨.base (.str i), by decide⟩
theorem WT.non {K : PySem.W.Frag} {H : Hp} : WT K H .non "NoneType" := ⟨.base .non, by decide⟩
theorem WT.bl {K : PySem.W.Frag} {H : Hp} (b : Bool) : WT K H (.bl b) "bool" := ⟨.base (.bl b), by decide⟩
theorem WT.lst {K : PySem.W.Frag} {H : Hp} {a : Addr} {xs : List V} (h : H a = some (.lst xs)) : WT K H (.ref a) "list" := ⟨.base (.lst h), by decide⟩
theorem WT.tup {K : PySem.W.Frag} {H : Hp} {a : Addr} {xs : List V} (h : H a = some (.tup xs)) : WT K H (.ref a) "tuple" := ⟨.base (.tup h), by decide⟩
theorem kitI {n : String} (h : n ∈ tyNames) : kitB n "int" = some (decide (n = "int" ∨ n = "bool")) := by
  simp only [tyNames, List.mem_cons, List.not_mem_nil, or_false] at h
  rcases h with rfl | rfl | rfl | rfl | rfl | rfl | rfl | rfl <;> decide +kernel
theorem kitBl {n : String} (h : n ∈ tyNames) : kitB n "bool" = some (decide (n = "bool")) := by
  simp only [tyNames, List.mem_cons, List.not_mem_nil, or_false] at h
  rcases h with rfl | rfl | rfl | rfl | rfl | rfl | rfl | rfl <;> decide +kernel
theorem kitS {n : String} (h : n ∈ tyNames) : kitB n "str" = some (decide (n = "str")) := by
  simp only [tyNames, List.mem_cons, List.not_mem_nil, or_false] at h
  rcases h with rfl | rfl | rfl | rfl | rfl | rfl | rfl | rfl <;> decide +kernel
theorem e_isi {K : PySem.W.Frag} {H : Hp} {Q : VK} {v : V} {n m : String} {b : Bool} (k : Q (.bl b) H) (h : WT K H v n) (hk : kitB n m = some b) : rIsi K [v, .ty m] H Q :=
  ⟨v, .ty m, .type n, .type m, b, rfl, .ty m, h.1, kit_ty hk, k⟩
def sp_is_whole (K : PySem.W.Frag) : Sp := fun vs H Q _ => ∃ (v : V) (n : String), vs = [v] ∧ WT K H v n ∧ Q (.bl (isInt v)) H
def rd_is_whole (K : PySem.W.Frag) : TS := tRet (tAndV (tCB (rIsi K) (tCons (tVar 0) (tCons (tC (.ty "int")) (tNil)))) (tNotV (tCB (rIsi K) (tCons (tVar 0) (tCons (tC (.ty "bool")) (tNil))))))
theorem pure_is_whole (K : PySem.W.Frag) (vs : List V) (H : Hp) (Q : VK) (E : XK) (h : sp_is_whole K vs H Q E) : rd_is_whole K { nx := fun _ H' => Q .non H', rt := Q } (start ["thing"] vs) H := by
  obtain ⟨v, n, rfl, hv, q⟩ := h
  have e := hv.isInt
  unfold rd_is_whole
  walk_at "rd"
  refine e_isi ?_ hv (kitI hv.2)
  refine ?_
  walk_at "rd"
  refine e_ite (fun h => ?_) (fun h => ?_)
  · walk_at "rd"
    refine e_isi ?_ hv (kitBl hv.2)
    walk_at "rd"
    show Q (.bl (!decide (n = "bool"))) H
    have : (!decide (n = "bool")) = isInt v := by
      rw [e]
      rcases h with rfl | rfl <;> decide
    rw [this]; exact q
  · have : isInt v = false := by
      rw [e]; exact decide_eq_false fun z => h (.inl z)
    rw [this] at q; exact q
def sp_is_whole_from (K : PySem.W.Frag) : Sp := fun vs H Q _ => ∃ (v : V) (n : String) (l : Int), vs = [v, .int l] ∧ WT K H v n ∧ Q (.bl (fromI v l)) H
def rd_is_whole_from (K : PySem.W.Frag) : TS := tRet (tAndV (tCall (sp_is_whole K) [] E0 (tCons (tVar 0) (tNil))) (tOp FW.rGe (tVar 0) (tVar 1)))
theorem pure_is_whole_from (K : PySem.W.Frag) (vs : List V) (H : Hp) (Q : VK) (E : XK) (h : sp_is_whole_from K vs H Q E) : rd_is_whole_from K { nx := fun _ H' => Q .non H', rt := Q } (start ["thing", "least"] vs) H := by
  obtain ⟨v, n, l, rfl, hv, q⟩ := h
  unfold rd_is_whole_from
  walk_at "rd"
  refine ⟨v, n, rfl, hv, ?_⟩
  walk_at "rd"
  refine e_iteB (fun h => ?_) (fun h => ?_)
  · obtain ⟨i, rfl⟩ := isInt_of h
    walk_at "rd"
    have : fromI (.int i) l = decide (l ≤ i) := Bool.true_and _
    rw [this] at q; exact q
  · have : fromI v l = false := by simp [fromI, h]
    rw [this] at q; exact q
/-! ### check_number, check_start where nothing is raised -/
/-! ### words -/
def wordOf (v : V) (ws : List V) : Bool := isStr v && inV v ws
def sp_is_word_of (K : PySem.W.Frag) : Sp := fun vs H Q _ => ∃ (v : V) (n : String) (a : Addr) (ws : List V), vs = [v, .ref a] ∧ WT K H v n ∧ SqT K H a ws ∧ ws.all flatV = true ∧ Q (.bl (wordOf v ws)) H
def rd_is_word_of (K : PySem.W.Frag) : TS := tRet (tAndV (tCB (rIsi K) (tCons (tVar 0) (tCons (tC (.ty "str")) (tNil)))) (tOp (rIn K false) (tVar 0) (tVar 1)))
theorem pure_is_word_of (K : PySem.W.Frag) (vs : List V) (H : Hp) (Q : VK) (E : XK) (h : sp_is_word_of K vs H Q E) : rd_is_word_of K { nx := fun _ H' => Q .non H', rt := Q } (start ["thing", "words"] vs) H := by
  obtain ⟨v, n, a, ws, rfl, hv, hw, hf, q⟩ := h
  have e := hv.isStr
  unfold rd_is_word_of
  walk_at "rd"
  refine e_isi ?_ hv (kitS hv.2)
  refine ?_
  walk_at "rd"
  refine e_ite (fun h => ?_) (fun h => ?_)
  · rw [decide_eq_true h] at e
    obtain ⟨x, rfl⟩ := isStr_of e
    walk_at "rd"
    refine e_in ?_ (.inr hw) rfl hf
    exact q
  · rw [decide_eq_false h] at e
    have : wordOf v ws = false := by simp [wordOf, e]
    rw [this] at q; exact q
def stopsV : List V := [.str "notless", .str "equal", .str "near1", .str "near2", .str "back", .str "under", .str "held"]
def toldsV : List V := [.str "old", .str "new", .str "less", .str "more"]
def mendsV : List V := [.str "none", .str "down", .str "up", .str "both"]
def looksV : List V := [.str "under", .str "held"]
/-- what the text's top holds for averages -/
structure AvK (K : PySem.W.Frag) : Prop where
  cls : Cls K (He.ga K "Average")
  n_k : NoAttr K (He.ga K "Average") "k"
  n_a : NoAttr K (He.ga K "Average") "a"
  n_c : NoAttr K (He.ga K "Average") "c"
  n_d : NoAttr K (He.ga K "Average") "d"
  n_stop : NoAttr K (He.ga K "Average") "stop"
  n_told : NoAttr K (He.ga K "Average") "told"
  n_mend : NoAttr K (He.ga K "Average") "mend"
  stops : ∀ H, SqT K H (He.ga K "STOPS_averages") stopsV
  tolds : ∀ H, SqT K H (He.ga K "TOLDS") toldsV
  mends : ∀ H, SqT K H (He.ga K "MENDS") mendsV
  looks : ∀ H, SqT K H (He.ga K "LOOKS") looksV
/-- the first part that is not so -/
def wrongP (k a c d s t m : V) : V :=
  if (!isInt k || !inV k [.int 2, .int 3, .int 4]) = true then .str "k"
  else if (!isInt a || !(decide (1 ≤ iv a) && decide (iv a ≤ 5))) = true then .str "a"
  else if (!fromI c 1 || (decide (iv a < iv c * (iv k - 1)) || decide (6 < iv a + iv c))) = true then .str "c"
  else if (!isInt d || !(decide (-iv a ≤ iv d) && decide (iv d ≤ iv a + iv c))) = true then .str "d"
  else if (!wordOf s stopsV) = true then .str "stop"
  else if (!wordOf t toldsV || (inV s looksV && !decide (t = .str "old"))) = true then .str "told"
  else if wordOf m mendsV = true then .non else .str "mend"
def sp_wrong_part (K : PySem.W.Frag) : Sp := fun vs H Q _ => ∃ k a c d s t m : V, vs = [k, a, c, d, s, t, m] ∧ (∀ v ∈ [k, a, c, d, s, t, m], ∃ n, WT K H v n) ∧ (iv c).natAbs < 2 ^ 900 ∧
  ∀ H', Ext H H' → Q (wrongP k a c d s t m) H'
theorem WT.ext {K : PySem.W.Frag} {H H' : Hp} {v : V} {n : String} (e : Ext H H') (h : WT K H v n) : WT K H' v n := by
  obtain ⟨h, hn⟩ := h
  refine ⟨?_, hn⟩
  cases h with
  | base b =>
    refine .base ?_
    cases b with
    | non => exact .non
    | bl x => exact .bl x
    | int x => exact .int x
    | str x => exact .str x
    | flt x => exact .flt x
    | lst q => exact .lst (e _ _ q)
    | frz q => exact .frz (e _ _ q)
    | tup q => exact .tup (e _ _ q)
    | dK q => exact .dK (e _ _ q)
    | dT q => exact .dT (e _ _ q)
  | byt x => exact .byt x
  | set q => exact .set (e _ _ q)
  | kList q c => exact .kList q c
  | kTuple q c => exact .kTuple q c
  | kDict q c => exact .kDict q c
  | fTuple q => exact .fTuple (e _ _ q)
  | fDict q => exact .fDict (e _ _ q)
def rd_wrong_part (K : PySem.W.Frag) : TS := tSeq (tIfS (tOr (tNot (tB (tCall (sp_is_whole K) [] E0 (tCons (tVar 0) (tNil))))) (tTest (tOp (rIn K true) (tVar 0) (tTup (tCons (tC (.int 2)) (tCons (tC (.int 3)) (tCons (tC (.int 4)) (tNil)))))))) (tRet (tC (.str "k"))) (tNext)) (tSeq (tIfS (tOr (tNot (tB (tCall (sp_is_whole K) [] E0 (tCons (tVar 1) (tNil))))) (tNot (tTest (tChain FW.rLe FW.rLe (tC (.int 1)) (tVar 1) (tC (.int 5)))))) (tRet (tC (.str "a"))) (tNext)) (tSeq (tIfS (tOr (tNot (tB (tCall (sp_is_whole_from K) [] E0 (tCons (tVar 2) (tCons (tC (.int 1)) (tNil)))))) (tOr (tTest (tOp FW.rLt (tVar 1) (tOp FW.rMul (tVar 2) (tOp FW.rSub (tVar 0) (tC (.int 1)))))) (tTest (tOp FW.rGt (tOp FW.rAdd (tVar 1) (tVar 2)) (tC (.int 6)))))) (tRet (tC (.str "c"))) (tNext)) (tSeq (tIfS (tOr (tNot (tB (tCall (sp_is_whole K) [] E0 (tCons (tVar 3) (tNil))))) (tNot (tTest (tChain FW.rLe FW.rLe (tUn FW.rNeg (tVar 1)) (tVar 3) (tOp FW.rAdd (tVar 1) (tVar 2)))))) (tRet (tC (.str "d"))) (tNext)) (tSeq (tIfS (tNot (tB (tCall (sp_is_word_of K) [] E0 (tCons (tVar 4) (tCons (tC (.ref (He.ga K "STOPS_averages"))) (tNil)))))) (tRet (tC (.str "stop"))) (tNext)) (tSeq (tIfS (tOr (tNot (tB (tCall (sp_is_word_of K) [] E0 (tCons (tVar 5) (tCons (tC (.ref (He.ga K "TOLDS"))) (tNil)))))) (tAnd (tTest (tOp (rIn K false) (tVar 4) (tC (.ref (He.ga K "LOOKS"))))) (tTest (tOp rNe (tVar 5) (tC (.str "old")))))) (tRet (tC (.str "told"))) (tNext)) (tRet (tIf (tB (tCall (sp_is_word_of K) [] E0 (tCons (tVar 6) (tCons (tC (.ref (He.ga K "MENDS"))) (tNil))))) (tC .non) (tC (.str "mend")))))))))
set_option maxHeartbeats 8000000 in
theorem pure_wrong_part (K : PySem.W.Frag) (A : AvK K) (vs : List V) (H : Hp) (Q : VK) (E : XK) (h : sp_wrong_part K vs H Q E) : rd_wrong_part K { nx := fun _ H' => Q .non H', rt := Q } (start ["k", "a", "c", "d", "stop", "told", "mend"] vs) H := by
  obtain ⟨k, a, c, d, s, t, m, rfl, hW, hc, q⟩ := h
  obtain ⟨nk, wk⟩ := hW k (by simp)
  obtain ⟨na, wa⟩ := hW a (by simp)
  obtain ⟨nc, wc⟩ := hW c (by simp)
  obtain ⟨nd, wd⟩ := hW d (by simp)
  obtain ⟨ns, ws⟩ := hW s (by simp)
  obtain ⟨nt, wt⟩ := hW t (by simp)
  obtain ⟨nm, wm⟩ := hW m (by simp)
  unfold wrongP at q
  unfold rd_wrong_part
  walk_at "rd"
  refine ⟨_, _, rfl, wk, ?_⟩
  walk_at "rd"
  refine e_iteB (fun h1 => ?_) (fun h1 => ?_)
  · walk_at "rd"
    rw [if_pos (by rw [h1]; rfl)] at q
    exact q _ Ext.rfl'
  rw [h1, Bool.false_or] at q
  have h1' : isInt k = true := by simpa using h1
  obtain ⟨k, rfl⟩ := isInt_of h1'
  walk_at "rd"
  refine ⟨by show 3 ≤ sizeLine; decide, fun p hp => ?_⟩
  refine e_in ?_ (.inr (SqT.of upd_same)) rfl rfl
  have eH : Ext H (upd H p (.tup [.int 2, .int 3, .int 4])) := Ext.new hp
  generalize upd H p (.tup [.int 2, .int 3, .int 4]) = H1 at *
  rw [if_pos rfl]
  refine ?_
  walk_at "rd"
  refine e_iteB (fun h2 => ?_) (fun h2 => ?_)
  · walk_at "rd"
    rw [if_pos h2] at q
    exact q _ eH
  rw [if_neg (by rw [h2]; decide)] at q
  have hk : k = 2 ∨ k = 3 ∨ k = 4 := by
    simp [inV, eqV] at h2
    omega
  walk_at "rd"
  refine ⟨_, _, rfl, wa.ext eH, ?_⟩
  walk_at "rd"
  refine e_iteB (fun h3 => ?_) (fun h3 => ?_)
  · walk_at "rd"
    rw [if_pos (by rw [h3]; rfl)] at q
    exact q _ eH
  rw [h3, Bool.false_or] at q
  have h3' : isInt a = true := by simpa using h3
  obtain ⟨a, rfl⟩ := isInt_of h3'
  walk_at "rd"
  have ha : (1 ≤ a ∧ a ≤ 5) ∨ ¬ (1 ≤ a ∧ a ≤ 5) := Classical.em _
  rcases ha with ha | ha
  · rw [decide_eq_true ha.1]
    walk_at "rd"
    rw [decide_eq_true ha.2]
    walk_at "rd"
    rw [if_neg (by simp [iv, ha.1, ha.2])] at q
    refine ⟨_, _, _, rfl, wc.ext eH, ?_⟩
    walk_at "rd"
    refine e_iteB (fun h4 => ?_) (fun h4 => ?_)
    · walk_at "rd"
      rw [if_pos (by rw [h4]; rfl)] at q
      exact q _ eH
    rw [h4, Bool.false_or] at q
    have h4' : fromI c 1 = true := by simpa using h4
    have h4i : isInt c = true := by
      unfold fromI at h4'
      rw [Bool.and_eq_true] at h4'
      exact h4'.1
    obtain ⟨c, rfl⟩ := isInt_of h4i
    walk_at "rd"
    rotate_left 1
    · exact wide_mul (a := 900) (b := 10) hc (by omega) (by decide) (by decide) (by decide)
    refine e_ite (fun h5 => ?_) (fun h5 => ?_)
    · walk_at "rd"
      rw [if_pos (by rw [decide_eq_true (by exact h5)]; rfl)] at q
      exact q _ eH
    rw [decide_eq_false (by exact h5), Bool.false_or] at q
    walk_at "rd"
    refine e_ite (fun h6 => ?_) (fun h6 => ?_)
    · walk_at "rd"
      rw [if_pos (decide_eq_true (by exact h6))] at q
      exact q _ eH
    rw [if_neg (by rw [decide_eq_false (by exact h6)]; decide)] at q
    walk_at "rd"
    refine ⟨_, _, rfl, wd.ext eH, ?_⟩
    walk_at "rd"
    refine e_iteB (fun h7 => ?_) (fun h7 => ?_)
    · walk_at "rd"
      rw [if_pos (by rw [h7]; rfl)] at q
      exact q _ eH
    rw [h7, Bool.false_or] at q
    have h7' : isInt d = true := by simpa using h7
    obtain ⟨d, rfl⟩ := isInt_of h7'
    walk_at "rd"
    have hd : (-a ≤ d ∧ d ≤ a + c) ∨ ¬ (-a ≤ d ∧ d ≤ a + c) := Classical.em _
    rcases hd with hd | hd
    · rw [decide_eq_true hd.1]
      walk_at "rd"
      rw [decide_eq_true hd.2]
      walk_at "rd"
      rw [if_neg (by simp [iv, hd.1, hd.2])] at q
      refine ⟨_, _, _, _, rfl, ws.ext eH, A.stops _, by decide, ?_⟩
      walk_at "rd"
      refine e_iteB (fun h8 => ?_) (fun h8 => ?_)
      · walk_at "rd"
        rw [if_pos h8] at q
        exact q _ eH
      rw [if_neg (by rw [h8]; decide)] at q
      have h8' : wordOf s stopsV = true := by simpa using h8
      have h8s : isStr s = true := by
        unfold wordOf at h8'
        rw [Bool.and_eq_true] at h8'
        exact h8'.1
      obtain ⟨s, rfl⟩ := isStr_of h8s
      walk_at "rd"
      refine ⟨_, _, _, _, rfl, wt.ext eH, A.tolds _, by decide, ?_⟩
      walk_at "rd"
      refine e_iteB (fun h9 => ?_) (fun h9 => ?_)
      · walk_at "rd"
        rw [if_pos (by rw [h9]; rfl)] at q
        exact q _ eH
      rw [h9, Bool.false_or] at q
      have h9' : wordOf t toldsV = true := by simpa using h9
      have h9s : isStr t = true := by
        unfold wordOf at h9'
        rw [Bool.and_eq_true] at h9'
        exact h9'.1
      obtain ⟨t, rfl⟩ := isStr_of h9s
      walk_at "rd"
      refine e_in ?_ (.inr (A.looks _)) rfl (by decide)
      rw [if_neg (by decide)]
      refine ?_
      walk_at "rd"
      refine e_iteB (fun h10 => ?_) (fun h10 => ?_)
      · rw [h10, Bool.true_and] at q
        walk_at "rd"
        refine e_iteB (fun h11 => ?_) (fun h11 => ?_)
        · walk_at "rd"
          rw [if_pos h11] at q
          exact q _ eH
        rw [if_neg (by rw [h11]; decide)] at q
        walk_at "rd"
        refine ⟨_, _, _, _, rfl, wm.ext eH, A.mends _, by decide, ?_⟩
        walk_at "rd"
        refine e_iteB (fun h12 => ?_) (fun h12 => ?_)
        · walk_at "rd"
          rw [if_pos h12] at q
          exact q _ eH
        · walk_at "rd"
          rw [if_neg (by rw [h12]; decide)] at q
          exact q _ eH
      · rw [h10, Bool.false_and, if_neg (by decide)] at q
        walk_at "rd"
        refine ⟨_, _, _, _, rfl, wm.ext eH, A.mends _, by decide, ?_⟩
        walk_at "rd"
        refine e_iteB (fun h12 => ?_) (fun h12 => ?_)
        · walk_at "rd"
          rw [if_pos h12] at q
          exact q _ eH
        · walk_at "rd"
          rw [if_neg (by rw [h12]; decide)] at q
          exact q _ eH
    · by_cases h : -a ≤ d
      · have h' : ¬ d ≤ a + c := fun z => hd ⟨h, z⟩
        rw [if_pos (by show (!(decide (-a ≤ d) && decide (d ≤ a + c))) = true; rw [decide_eq_false h', Bool.and_false]; rfl)] at q
        rw [decide_eq_true h]
        walk_at "rd"
        rw [decide_eq_false h']
        walk_at "rd"
        exact q _ eH
      · rw [if_pos (by show (!(decide (-a ≤ d) && decide (d ≤ a + c))) = true; rw [decide_eq_false h]; rfl)] at q
        rw [decide_eq_false h]
        walk_at "rd"
        exact q _ eH
  · by_cases h : 1 ≤ a
    · have h' : ¬ a ≤ 5 := fun z => ha ⟨h, z⟩
      rw [if_pos (by show (!(decide (1 ≤ a) && decide (a ≤ 5))) = true; rw [decide_eq_false h', Bool.and_false]; rfl)] at q
      rw [decide_eq_true h]
      walk_at "rd"
      rw [decide_eq_false h']
      walk_at "rd"
      exact q _ eH
    · rw [if_pos (by show (!(decide (1 ≤ a) && decide (a ≤ 5))) = true; rw [decide_eq_false h]; rfl)] at q
      rw [decide_eq_false h]
      walk_at "rd"
      exact q _ eH
end FWL
namespace FWL
open PySem PySem.Spec PyProof.Rows L2 FW
/-! ### sizes -/
abbrev Sz (b : Nat) (x : Int) : Prop := x.natAbs < 2 ^ b
theorem Sz.mono {a b : Nat} {x : Int} (h : Sz a x) (l : a ≤ b) : Sz b x := Nat.lt_of_lt_of_le h (Nat.pow_le_pow_right (by decide) l)
theorem Sz.mul {a b : Nat} {x y : Int} (h : Sz a x) (h' : Sz b y) : Sz (a + b) (x * y) := wide_lt h h'
theorem Sz.log2 {b : Nat} {x : Int} (h : Sz b x) (hb : 0 < b) (h9 : b ≤ 9000) : x.natAbs.log2 < 9000 := Nat.lt_of_lt_of_le (PySem.Flt.log2_lt_of hb h) h9
end FWL
namespace FWL
open PySem PySem.Spec PyProof.Rows L2 FW
/-! ### more readings -/
section
variable {K : PySem.W.Frag} {σ : L2.St} {H : Hp} {Q : VK} {D : Ends} {ta tb tc te : TE} {tA : TA} {v : V} {i j : Int} {n : Nat} {a b : Addr} {xs ys : List V}
theorem e_cat (q : ∀ p, H p = none → Q (.ref p) (upd H p (.lst (xs ++ ys)))) (h : H a = some (.lst xs)) (h' : H b = some (.lst ys)) (hz : xs.length + ys.length ≤ sizeLine) : rCat (.ref a) (.ref b) H Q := ⟨a, b, xs, ys, rfl, rfl, h, h', hz, q⟩
theorem e_tupL (q : ∀ p, H p = none → Q (.ref p) (upd H p (.tup xs))) (h : SqL K H a xs) : FW.rTupS K [.ref a] H Q := ⟨a, xs, rfl, .inl ⟨h, q⟩⟩
theorem e_sl {r : V → Option Int → Option Int → Hp → VK → Prop} {tl th : L2.TO} (k : te σ H fun x H1 => tl σ H1 fun l H2 => th σ H2 fun u H3 => r x l u H3 Q) : L2.tSl r te tl th σ H Q := k
theorem e_noP {R : Option Int → Hp → Prop} (k : R none H) : tNoPart σ H R := k
theorem e_part {R : Option Int → Hp → Prop} (k : te σ H fun x H1 => ∃ i, x = .int i ∧ R (some i) H1) : tPart te σ H R := k
theorem e_slL {lo hi : Option Int} (q : ∀ p, H p = none → Q (.ref p) (upd H p (.lst (cutV xs lo hi)))) (h : SqL K H a xs) : rSlL K (.ref a) lo hi H Q := ⟨a, xs, rfl, h, q⟩
theorem e_all {bs : List Bool} (q : Q (.bl (bs.all id)) H) (h : SqL K H a (bs.map V.bl)) : rAll K [.ref a] H Q := ⟨a, bs, rfl, h, q⟩
theorem e_eqD {d e : PyData} (q : Q (.bl (PyData.eqv d e)) H) {x y : V} (h1 : Dp K H x d) (h2 : Dp K H y e) (s1 : SeqAt.shaped d = true) (s2 : SeqAt.shaped e = true) : rEqD K x y H Q := ⟨d, e, h1, h2, s1, s2, q⟩
theorem e_neD {d e : PyData} (q : Q (.bl (!PyData.eqv d e)) H) {x y : V} (h1 : Dp K H x d) (h2 : Dp K H y e) (s1 : SeqAt.shaped d = true) (s2 : SeqAt.shaped e = true) : rNeD K x y H Q := ⟨d, e, h1, h2, s1, s2, q⟩
theorem i_zip {R : It → Hp → Prop} (k : tA σ H fun vs H1 => ∃ a b xs ys, vs = [.ref a, .ref b] ∧ SqL K H1 a xs ∧ SqL K H1 b ys ∧ R (Itz K a b) H1) : iZip K tA σ H R := k
end
/-- a list or a tuple -/
abbrev SqA (K : PySem.W.Frag) (H : Hp) (a : Addr) (xs : List V) : Prop := SqL K H a xs ∨ SqT K H a xs
theorem SqA.ext {K : PySem.W.Frag} {H H' : Hp} {a : Addr} {xs : List V} (e : Ext H H') (h : SqA K H a xs) : SqA K H' a xs := h.elim (fun h => .inl (e.sqL h)) (fun h => .inr (e.sqT h))
/-! data of ints -/
end FWL
namespace FW
open PySem PySem.Spec PyProof.Rows L2
/-! ### texts: str of a text, a sign in a text, split, a global text -/
def rStrS : List V → Hp → VK → Prop := fun xs H Q => ∃ a, xs = [.str a] ∧ Q (.str a) H
def rNinSg : R2 := fun x y H Q => ∃ (c : Nat) (z : Str), x = .str ⟨#[c]⟩ ∧ y = .str z ∧ Q (.bl (!decide (c ∈ z.cps.toList))) H
def rSplit : V → List V → Hp → VK → Prop := fun x xs H Q => ∃ a b, x = .str a ∧ xs = [.str b] ∧ (b.length == 0) = false ∧ a.length + 2 ≤ sizeLine ∧ rNewStrs (Txt.split a b) H Q
section
variable {X : Cx}
theorem call_strS : CallR X (.type "str") rStrS := SkE.call_str_str
theorem pe_splitS {o e : Expr} {to te : TE} {apos pos : Pos} (ho : PE X o to) (he : PE X e te) (hs : starEach [e] X.env = [(false, eval e X.env)] := by rfl)
    (hbase : attributeBase o "split" X.env (eval o X.env) = eval o X.env := by rfl) (hline : (apos.endLine == pos.line) = true := by rfl) : PE X (.Call (.Attribute o "split" apos) [e] [] pos) (tM1 rSplit to te) :=
  pe_m1 PySem.F.slot_str_split PySem.F.type_str_split mt_split ho he hs hbase hline
theorem pe_gcS {x z : Str} {pos : Pos} (hg : Gl X x) (h : ∃ t, X.mg x = some (.str z t)) (hd : (x == ("__debug__" : Str)) = false := by decide) : PE X (.Name x pos) (tC (.str z)) := by
  obtain ⟨t, hm⟩ := h
  exact pe_glob hg hm ⟨t, rfl⟩ hd
end
section
variable {K : PySem.W.Frag} {σ : L2.St} {H : Hp} {Q : VK} {n : Nat} {te : TE}
/-- a list of truths by the signs of a text -/
theorem lc_signs {z : Str} {f : Nat → Bool} (hz : z.cps.size ≤ 1000000) (hw : ∀ v : V, wipe ((wipe σ [n]).set n (some v)) [n] = wipe σ [n])
    (he : ∀ (c : Nat) (H' : Hp) (R : VK), R (.bl (f c)) H' → te ((wipe σ [n]).set n (some (.str ⟨#[c]⟩))) H' R)
    (q : ∀ D H', H D = none → Ext H H' → H' D = some (.lst (z.cps.toList.map fun c => .bl (f c))) → Q (.ref D) H') : LcK (gName n) tYes te [n] σ Q (Its z) H := by
  intro D hD
  refine lc_it walk_str (fun i H' => i ≤ z.cps.size ∧ H' = upd H D (.lst (((z.cps.toList.take i).map fun c => V.bl (f c))))) ⟨Nat.zero_le _, rfl⟩ (fun _ _ _ _ => trivial) ?_ ?_
  · rintro i x H1 H' hi ⟨_, rfl⟩ ⟨rfl, c, hc, rfl⟩
    refine g_name ⟨hw _, ?_⟩
    unfold tYes
    dsimp only
    rw [if_pos rfl]
    refine he c _ _ ⟨_, upd_same, ?_, hi, ?_⟩
    · rw [List.length_map, List.length_take]
      show _ < 2 ^ 24
      omega
    · rw [upd_upd, List.take_succ, Array.getElem?_toList, hc]
      simp
  · rintro H' ⟨_, rfl⟩
    refine q D _ hD (Ext.new hD) ?_
    rw [upd_same, ← Array.length_toList, List.take_length]
end
end FW
namespace FW
open PySem PySem.Spec PyProof.Rows L2
theorem u1 {j : Nat} {A : Around} (hr : Room j A) : A.units + 1 < cLine := by have := hr.un; omega
/-! ### dicts whose keys are tuples of ints and None -/
abbrev NK := Option Int
def nkH : NK → Int
  | none => 0xFCA86420
  | some k => hashInt k
def nkV : NK → V
  | none => .non
  | some i => .int i
def hashN (ks : List NK) : Int := reduceHash (Builtin.Tuple.tupleHashOf (ks.map nkH))
def entN (x : List NK × Addr × Value) : DictEntry := ⟨hashN x.1, .ref x.2.1, x.2.2⟩
abbrev KvN := List NK × Addr × V
abbrev KN : List KvN → List (List NK × Addr × Value) → Prop := Paired fun p q => p.1 = q.1 ∧ p.2.1 = q.2.1 ∧ RelV p.2.2 q.2.2
def DNφ (a : Addr) (kvs : List KvN) : Heap → Prop := fun h => (a == sysModules) = false ∧ ∃ (xs : List (List NK × Addr × Value)) (o : Obj) (es : Array DictEntry) (ep : Nat), KN kvs xs ∧ h.get? a = some o ∧ o.ExactDict ∧ o.data = .dict es ep ∧ es.toList = xs.map entN ∧ (xs.map (·.1)).Nodup
def dN (a : Addr) (kvs : List KvN) : HO := .ext (DNφ a kvs)
structure IsDN (H : Hp) (a : Addr) (kvs : List KvN) : Prop where
  at' : H a = some (dN a kvs)
  keys : ∀ x ∈ kvs, H x.2.1 = some (.tup (x.1.map nkV))
  size : kvs.length ≤ sizeLine
def valN (kvs : List KvN) (k : List NK) : Option V := (kvs.find? fun x => decide (x.1 = k)).map (·.2.2)
theorem KN.mem : ∀ {kvs : List KvN} {xs : List (List NK × Addr × Value)}, KN kvs xs → ∀ x ∈ xs, ∃ y ∈ kvs, y.1 = x.1 ∧ y.2.1 = x.2.1
  | _, _, .nil, x, hx => nomatch hx
  | _, _, .cons (a := p) r t, x, hx => by
    rcases List.mem_cons.mp hx with e | hx
    · subst e
      exact ⟨p, List.mem_cons_self, r.1, r.2.1⟩
    · obtain ⟨y, hy, h⟩ := KN.mem t x hx
      exact ⟨y, List.mem_cons_of_mem _ hy, h⟩
theorem KN.val : ∀ {kvs : List KvN} {xs : List (List NK × Addr × Value)}, KN kvs xs → ∀ k : List NK, RelO (valN kvs k) ((atKey xs k).map (·.2))
  | _, _, .nil, k => True.intro
  | _, _, .cons (a := p) (b := q) r t, k => by
    have ih := KN.val t k
    unfold valN atKey at ih ⊢
    rw [List.find?_cons, List.find?_cons]
    by_cases e : q.1 = k
    · have e' : p.1 = k := r.1.trans e
      simp only [e, e', decide_true, Option.map_some]
      exact r.2.2
    · have e' : ¬ p.1 = k := fun z => e (r.1.symm.trans z)
      simp only [e, e', decide_false]
      exact ih
theorem KN.snoc : ∀ {kvs : List KvN} {xs : List (List NK × Addr × Value)} {p : KvN} {q : List NK × Addr × Value}, KN kvs xs → (p.1 = q.1 ∧ p.2.1 = q.2.1 ∧ RelV p.2.2 q.2.2) → KN (kvs ++ [p]) (xs ++ [q])
  | _, _, _, _, .nil, h => .cons h .nil
  | _, _, _, _, .cons r t, h => .cons r (KN.snoc t h)
end FW
namespace FW
open PySem PySem.Spec PyProof.Rows L2
/-! ### one of two readings -/
abbrev rIntS : List V → Hp → VK → Prop := fun xs H Q => ∃ a n, xs = [.str a] ∧ PySem.intText? a = some n ∧ a.length ≤ 640 ∧ Q (.int n) H
end FW
namespace FWL
open PySem PySem.Spec PyProof.Rows L2 FW
/-! ### a stream: three ints; n bounds the draws so far -/
def Strm (H : Hp) (p : Addr) (n : Nat) : Prop := ∃ a b c : Int, H p = some (.lst [.int a, .int b, .int c]) ∧ 0 ≤ a ∧ 0 ≤ b ∧ b < 2 ^ 40 ∧ 0 ≤ c ∧ c ≤ n
theorem Strm.mono {H : Hp} {p : Addr} {n m : Nat} (h : Strm H p n) (l : n ≤ m) : Strm H p m := by
  obtain ⟨a, b, c, h1, h2, h3, h4, h5, h6⟩ := h
  exact ⟨a, b, c, h1, h2, h3, h4, h5, by omega⟩
theorem Strm.ext {H H' : Hp} {p : Addr} {n : Nat} (h : Strm H p n) (e : Ext H H') : Strm H' p n := by
  obtain ⟨a, b, c, h1, h2⟩ := h
  exact ⟨a, b, c, e _ _ h1, h2⟩
theorem Strm.ne {H : Hp} {p q : Addr} {n : Nat} (h : Strm H p n) (e : H q = none) : q ≠ p := by
  obtain ⟨a, b, c, h1, h2⟩ := h
  exact (ne_of_none h1 e).symm
theorem at_map {ns : List Int} {k : Int} (h0 : 0 ≤ k) (h : k < (ns.length : Int)) : ∃ i, atI (ns.map V.int) k = some (.int i) := by
  obtain ⟨k, rfl⟩ := Int.eq_ofNat_of_zero_le h0
  have hk : k < ns.length := by omega
  refine ⟨ns[k], atI_nat ?_⟩
  rw [List.getElem?_map, List.getElem?_eq_getElem hk]
  rfl
end FWL
namespace FWL
open PySem PySem.Spec PyProof.Rows L2 FW
/-! ### weights -/
/-- tuples of two ints -/
def Prs (H : Hp) : List V → List (Int × Int) → Prop
  | [], [] => True
  | v :: vs, w :: ws => (∃ t, v = .ref t ∧ H t = some (.tup [.int w.1, .int w.2])) ∧ Prs H vs ws
  | _, _ => False
theorem Prs.ext {H H' : Hp} (e : Ext H H') : ∀ {vs : List V} {ws : List (Int × Int)}, Prs H vs ws → Prs H' vs ws
  | [], [], _ => True.intro
  | _ :: _, _ :: _, ⟨⟨t, h1, h2⟩, r⟩ => ⟨⟨t, h1, e _ _ h2⟩, Prs.ext e r⟩
theorem Prs.upd {H : Hp} {D : Addr} {xs ys : List V} (hD : H D = some (.lst xs)) : ∀ {vs : List V} {ws : List (Int × Int)}, Prs H vs ws → Prs (upd H D (.lst ys)) vs ws
  | [], [], _ => True.intro
  | _ :: _, _ :: _, ⟨⟨t, h1, h2⟩, r⟩ => ⟨⟨t, h1, by rw [upd_ne (ne_of h2 hD (by intro z; cases z))]; exact h2⟩, Prs.upd hD r⟩
theorem Prs.app {H : Hp} : ∀ {vs vs' : List V} {ws ws' : List (Int × Int)}, Prs H vs ws → Prs H vs' ws' → Prs H (vs ++ vs') (ws ++ ws')
  | [], _, [], _, _, h => h
  | _ :: _, _, _ :: _, _, ⟨a, r⟩, h => ⟨a, Prs.app r h⟩
theorem Prs.len {H : Hp} : ∀ {vs : List V} {ws : List (Int × Int)}, Prs H vs ws → vs.length = ws.length
  | [], [], _ => rfl
  | _ :: _, _ :: _, ⟨_, r⟩ => congrArg Nat.succ (Prs.len r)
theorem Prs.mem {H : Hp} {v : V} : ∀ {vs : List V} {ws : List (Int × Int)}, Prs H vs ws → v ∈ vs → ∃ w ∈ ws, ∃ t, v = .ref t ∧ H t = some (.tup [.int w.1, .int w.2])
  | [], [], _, h => by cases h
  | x :: xs, w :: ws, ⟨a, r⟩, h => by
    rcases List.mem_cons.mp h with rfl | h
    · exact ⟨w, List.mem_cons_self, a⟩
    · obtain ⟨w', m, q⟩ := Prs.mem r h
      exact ⟨w', List.mem_cons_of_mem _ m, q⟩
end FWL
namespace FWL
open PySem PySem.Spec PyProof.Rows L2 FW
/-! ### a loop's parts -/
structure Lp where
  k : Int
  a : Int
  c : Int
  d : Int
  stop : Str
  told : Str
  mend : Str
structure Lp.Ok (l : Lp) : Prop where
  hk : l.k = 2 ∨ l.k = 3 ∨ l.k = 4
  a1 : 1 ≤ l.a
  a5 : l.a ≤ 5
  c1 : 1 ≤ l.c
  c3 : l.c ≤ 3
  ca : l.c * (l.k - 1) ≤ l.a
  ac : l.a + l.c ≤ 6
  d0 : -l.a ≤ l.d
  d1 : l.d ≤ l.a + l.c
  hs : V.str l.stop ∈ stopsV
  ht : V.str l.told ∈ toldsV
  hl : V.str l.stop ∈ looksV → l.told = "old"
  hm : V.str l.mend ∈ mendsV
abbrev Lp.V (l : Lp) : List V := [.int l.k, .int l.a, .int l.c, .int l.d, .str l.stop, .str l.told, .str l.mend]
abbrev Lp.F (l : Lp) : List (Str × L2.V) := [("k", .int l.k), ("a", .int l.a), ("c", .int l.c), ("d", .int l.d), ("stop", .str l.stop), ("told", .str l.told), ("mend", .str l.mend)]
theorem eqV_str (a b : Str) : eqV (.str a) (.str b) = decide (a = b) := by
  show (a == b) = decide (a = b)
  by_cases h : a = b
  · subst h; simp
  · rw [decide_eq_false h]; exact beq_eq_false_iff_ne.mpr h
theorem inV_str (s : Str) : ∀ {xs : List V}, (∀ v ∈ xs, ∃ x, v = V.str x) → inV (.str s) xs = decide (V.str s ∈ xs)
  | [], _ => rfl
  | v :: vs, h => by
    obtain ⟨x, rfl⟩ := h v List.mem_cons_self
    have ih := inV_str s fun v hv => h v (List.mem_cons_of_mem _ hv)
    show (eqV (.str x) (.str s) || inV (.str s) vs) = _
    rw [ih, eqV_str]
    by_cases e : x = s
    · subst e; simp
    · have e' : ¬ s = x := fun z => e z.symm
      simp [e, e']
theorem strs_stops : ∀ v ∈ stopsV, ∃ x, v = V.str x := by
  intro v h
  simp only [stopsV, List.mem_cons, List.not_mem_nil, or_false] at h
  rcases h with rfl | rfl | rfl | rfl | rfl | rfl | rfl <;> exact ⟨_, rfl⟩
theorem strs_tolds : ∀ v ∈ toldsV, ∃ x, v = V.str x := by
  intro v h
  simp only [toldsV, List.mem_cons, List.not_mem_nil, or_false] at h
  rcases h with rfl | rfl | rfl | rfl <;> exact ⟨_, rfl⟩
theorem strs_mends : ∀ v ∈ mendsV, ∃ x, v = V.str x := by
  intro v h
  simp only [mendsV, List.mem_cons, List.not_mem_nil, or_false] at h
  rcases h with rfl | rfl | rfl | rfl <;> exact ⟨_, rfl⟩
theorem strs_looks : ∀ v ∈ looksV, ∃ x, v = V.str x := by
  intro v h
  simp only [looksV, List.mem_cons, List.not_mem_nil, or_false] at h
  rcases h with rfl | rfl <;> exact ⟨_, rfl⟩
theorem Lp.Ok.right {l : Lp} (o : l.Ok) : wrongP (.int l.k) (.int l.a) (.int l.c) (.int l.d) (.str l.stop) (.str l.told) (.str l.mend) = .non := by
  have h1 : inV (.int l.k) [.int 2, .int 3, .int 4] = true := by
    rcases o.hk with e | e | e <;> rw [e] <;> decide
  have h2 : wordOf (.str l.stop) stopsV = true := by
    show (true && inV (.str l.stop) stopsV) = true
    rw [Bool.true_and, inV_str _ strs_stops]; exact decide_eq_true o.hs
  have h3 : wordOf (.str l.told) toldsV = true := by
    show (true && inV (.str l.told) toldsV) = true
    rw [Bool.true_and, inV_str _ strs_tolds]; exact decide_eq_true o.ht
  have h4 : wordOf (.str l.mend) mendsV = true := by
    show (true && inV (.str l.mend) mendsV) = true
    rw [Bool.true_and, inV_str _ strs_mends]; exact decide_eq_true o.hm
  have h5 : (inV (.str l.stop) looksV && !decide (V.str l.told = .str "old")) = false := by
    rw [inV_str _ strs_looks]
    by_cases h : V.str l.stop ∈ looksV
    · rw [o.hl h]; simp
    · simp [h]
  have a1 := o.a1; have a5 := o.a5; have c1 := o.c1; have ca := o.ca; have ac := o.ac; have d0 := o.d0; have d1 := o.d1
  have e3 : ((decide (l.a < l.c * (l.k - 1)) || decide (6 < l.a + l.c))) = false := by
    rw [decide_eq_false (by omega), decide_eq_false (by omega)]; rfl
  have e1 : (decide (1 ≤ l.a) && decide (l.a ≤ 5)) = true := by rw [decide_eq_true a1, decide_eq_true a5]; rfl
  have e2 : (decide (-l.a ≤ l.d) && decide (l.d ≤ l.a + l.c)) = true := by rw [decide_eq_true d0, decide_eq_true d1]; rfl
  have e4 : fromI (.int l.c) 1 = true := by show (true && decide (1 ≤ l.c)) = true; rw [decide_eq_true c1]; rfl
  unfold wrongP
  rw [if_neg (by rw [h1]; show ¬ ((!true || !true) = true); decide), if_neg (by show ¬ ((!true || !(decide (1 ≤ l.a) && decide (l.a ≤ 5))) = true); rw [e1]; decide),
    if_neg (by show ¬ ((!fromI (.int l.c) 1 || (decide (l.a < l.c * (l.k - 1)) || decide (6 < l.a + l.c))) = true); rw [e4, e3]; decide),
    if_neg (by show ¬ ((!true || !(decide (-l.a ≤ l.d) && decide (l.d ≤ l.a + l.c))) = true); rw [e2]; decide),
    if_neg (by rw [h2]; decide), if_neg (by rw [h3, h5]; decide), if_pos h4]
/-- a loop as an object -/
def IsLp (K : PySem.W.Frag) (H : Hp) (x : Addr) (l : Lp) : Prop := ∃ dx, H x = some (.ins (He.ga K "Average") dx l.F)
theorem IsLp.ext {K : PySem.W.Frag} {H H' : Hp} {x : Addr} {l : Lp} (e : Ext H H') : IsLp K H x l → IsLp K H' x l
  | ⟨dx, h⟩ => ⟨dx, e _ _ h⟩
theorem e_sF {K : PySem.W.Frag} {H : Hp} {a C dx : Addr} {f : Str} {fs : List (Str × V)} {R : Hp → Prop} {y : V} (k : R (upd H a (.ins C dx (putF f y fs)))) (h : H a = some (.ins C dx fs)) (c : Cls K C) (n : NoAttr K C f) (hl : fs.length < 1000) :
    ∃ a' C dx fs, V.ref a = .ref a' ∧ H a' = some (.ins C dx fs) ∧ Cls K C ∧ NoAttr K C f ∧ fs.length < 1000 ∧ R (upd H a' (.ins C dx (putF f y fs))) := ⟨a, C, dx, fs, rfl, h, c, n, hl, k⟩
/-! ### led, step -/
theorem e_fL {K : PySem.W.Frag} {H : Hp} {x : Addr} {l : Lp} {f : Str} {R : V → Prop} {v : V} (k : R v) (A : AvK K) (h : IsLp K H x l) (n : NoAttr K (He.ga K "Average") f) (hl : l.F.lookup f = some v) :
    ∃ a C dx fs v, V.ref x = .ref a ∧ H a = some (.ins C dx fs) ∧ Cls K C ∧ NoAttr K C f ∧ fs.lookup f = some v ∧ R v := by
  obtain ⟨dx, h⟩ := h
  exact ⟨x, _, dx, _, v, rfl, h, A.cls, n, hl, k⟩
/-- the guess to which the step leads -/
def Lp.led (l : Lp) (n x : Int) : Int := (l.a * x + l.c * (n / x ^ (l.k - 1).toNat) + l.d) / (l.a + l.c)
theorem pow_pos' {x : Int} (h : 1 ≤ x) : ∀ n : Nat, 1 ≤ x ^ n
  | 0 => by rw [Int.pow_zero]; omega
  | n + 1 => by
    have ih := pow_pos' h n
    rw [Int.pow_succ]
    have : 1 * 1 ≤ x ^ n * x := Int.mul_le_mul ih h (by decide) (by omega)
    simpa using this
/-! ### parts drawn -/
theorem ExtB.non {p t : Addr} {H H' : Hp} {n : Nat} (e : ExtB p H H') (s : Strm H' p n) (h : H' t = none) : H t = none := by
  cases q : H t with
  | none => rfl
  | some o => rw [e t o (s.ne h) q] at h; cases h
end FWL
namespace FWL
open PySem PySem.Spec PyProof.Rows L2 FW
/-! ### the law's own root: the greatest number whose power is at most n -/
theorem pow_ge_self {x : Int} (h : 1 ≤ x) (n : Nat) (hn : 1 ≤ n) : x ≤ x ^ n := by
  obtain ⟨m, rfl⟩ : ∃ m, n = m + 1 := ⟨n - 1, by omega⟩
  have hp := pow_pos' h m
  rw [Int.pow_succ]
  have : 1 * x ≤ x ^ m * x := Int.mul_le_mul_of_nonneg_right hp (by omega)
  omega
theorem pow_mono {x y : Int} (h0 : 0 ≤ x) (h : x ≤ y) : ∀ n : Nat, x ^ n ≤ y ^ n
  | 0 => by simp
  | n + 1 => by
    have ih := pow_mono h0 h n
    have hx : 0 ≤ x ^ n := Int.pow_nonneg h0
    rw [Int.pow_succ, Int.pow_succ]
    exact Int.mul_le_mul ih h h0 (by omega)
/-! ### led over a tuple of parts, a loop made of it -/
end FWL
namespace FWL
open PySem PySem.Spec PyProof.Rows L2 FW
/-! ### polynomials: their values -/
/-! trimmed -/
theorem at_int {ns : List Int} {k : Nat} (h : k < ns.length) : atI (ns.map V.int) (k : Int) = some (.int ns[k]) := atI_nat (by simp [h])
/-! the value of a polynomial -/
end FWL
namespace FWL
open PySem PySem.Spec PyProof.Rows L2 FW
/-! ### cells and rows -/
theorem list_at {xs : List V} {i : Int} (h0 : 0 ≤ i) (h : i < (xs.length : Int)) : ∃ v, v ∈ xs ∧ atI xs i = some v := by
  obtain ⟨k, rfl⟩ := Int.eq_ofNat_of_zero_le h0
  have hk : k < xs.length := by omega
  exact ⟨xs[k], List.getElem_mem _, atI_nat (List.getElem?_eq_getElem hk)⟩
def sp_l_cell_at (K : PySem.W.Frag) : Sp := fun vs H Q _ => ∃ (a : Addr) (ns : List Int) (k : Int), vs = [.ref a, .int k] ∧ SqL K H a (ns.map V.int) ∧ 0 ≤ k ∧ ∀ c, Q (.int c) H
def rd_l_cell_at (K : PySem.W.Frag) : TS := tSeq (tIfS (tTest (tOp FW.rLt (tVar 1) (tCB (Evl.rLenS K) (tCons (tVar 0) (tNil))))) (tRet (tOp (rIxL K) (tVar 0) (tVar 1))) (tNext)) (tRet (tC (.int 0)))
theorem pure_l_cell_at (K : PySem.W.Frag) (vs : List V) (H : Hp) (Q : VK) (E : XK) (h : sp_l_cell_at K vs H Q E) : rd_l_cell_at K { nx := fun _ H' => Q .non H', rt := Q } (start ["_law_script", "_law_k"] vs) H := by
  obtain ⟨a, ns, k, rfl, hA, hk, q⟩ := h
  unfold rd_l_cell_at
  walk_at "rd"
  refine e_len ?_ (.inl hA)
  walk_at "rd"
  refine e_ite (fun h => ?_) (fun h => ?_)
  · rw [List.length_map] at h
    obtain ⟨i, hi⟩ := at_map hk h
    walk_at "rd"
    refine e_ixL ?_ hA hi
    exact q _
  · walk_at "rd"
    exact q _
def sp_l_mixed (K : PySem.W.Frag) : Sp := fun vs H Q _ => ∃ c k : Int, vs = [.int c, .int k] ∧ 0 ≤ k ∧ k < 100000 ∧ ∀ v, 0 ≤ v → Q (.int v) H
def rd_l_mixed (K : PySem.W.Frag) : TS := tSeq (tAsg (tOp FW.rMod (tCB FW.rInt1 (tCons (tOp FW.rPow (tOp FW.rAdd (tOp FW.rAdd (tOp FW.rMod (tCB FW.rInt1 (tCons (tVar 0) (tNil))) (tC (.int 2147483647))) (tOp FW.rMul (tC (.int 7919)) (tVar 1))) (tC (.int 104729))) (tC (.int 5))) (tNil))) (tC (.int 2147483647))) (gName 2)) (tRet (tOp FW.rMod (tCB FW.rInt1 (tCons (tOp FW.rMul (tOp FW.rAdd (tVar 2) (tVar 1)) (tC (.int 40692))) (tNil))) (tC (.int 2147483629))))
theorem pure_l_mixed (K : PySem.W.Frag) (vs : List V) (H : Hp) (Q : VK) (E : XK) (h : sp_l_mixed K vs H Q E) : rd_l_mixed K { nx := fun _ H' => Q .non H', rt := Q } (start ["_law_cell", "_law_k", "_law_spread"] vs) H := by
  obtain ⟨c, k, rfl, hk, hk1, q⟩ := h
  have h0 : 0 ≤ c % 2147483647 := Int.emod_nonneg _ (by decide)
  have h1 : c % 2147483647 < 2147483647 := Int.emod_lt_of_pos _ (by decide)
  have hs : 0 ≤ ((c % 2147483647 + 7919 * k + 104729) ^ (5 : Int).toNat) % 2147483647 := Int.emod_nonneg _ (by decide)
  have hs2 : ((c % 2147483647 + 7919 * k + 104729) ^ (5 : Int).toNat) % 2147483647 < 2147483647 := Int.emod_lt_of_pos _ (by decide)
  unfold rd_l_mixed
  walk_at "rd"
  · walk_at "rd"
    · exact q _ (Int.emod_nonneg _ (by decide))
  · decide
  · exact wide_mul (a := 60) (b := 20) (by omega) (by decide) (by decide) (by decide) (by decide)
  · decide
  · refine ⟨by decide, by decide, ?_⟩
    have : (2 : Nat) ^ 64 = 18446744073709551616 := by decide
    omega
  · exact wide_mul (a := 20) (b := 40) (by decide) (by omega) (by decide) (by decide) (by decide)
  · decide
def sp_l_apart (K : PySem.W.Frag) : Sp := fun vs H Q _ => ∃ c k : Int, vs = [.int c, .int k] ∧ 0 ≤ k ∧ k < 100000 ∧ ∀ v, Q (.int v) H
def rd_l_apart (K : PySem.W.Frag) : TS := tSeq (tIfS (tTest (tOp FW.rGe (tCB FW.rAbs (tCons (tVar 0) (tNil))) (tOp FW.rPow (tC (.int 10)) (tC (.int 18))))) (tRet (tVar 0)) (tNext)) (tRet (tOp FW.rAdd (tVar 0) (tOp FW.rMul (tC (.int 1000003)) (tVar 1))))
theorem pure_l_apart (K : PySem.W.Frag) (vs : List V) (H : Hp) (Q : VK) (E : XK) (h : sp_l_apart K vs H Q E) : rd_l_apart K { nx := fun _ H' => Q .non H', rt := Q } (start ["_law_cell", "_law_k"] vs) H := by
  obtain ⟨c, k, rfl, hk, hk1, q⟩ := h
  unfold rd_l_apart
  walk_at "rd"
  · refine e_ite (fun h => ?_) (fun h => ?_)
    · walk_at "rd"
      exact q _
    · walk_at "rd"
      · exact q _
      · exact wide_mul (a := 20) (b := 40) (by decide) (by omega) (by decide) (by decide) (by decide)
  · exact ⟨by decide, by decide, by decide⟩
/-- a row: numbers from 0 to 999 -/
def Row (xs : List Int) (n : Nat) : Prop := xs.length = n ∧ ∀ x ∈ xs, 0 ≤ x ∧ x < 1000
def sp_l_row (K : PySem.W.Frag) : Sp := fun vs H Q _ => ∃ (c : Int) (m : Nat), vs = [.int c, .int (m : Int)] ∧ m < 1000 ∧ ∀ (L : Addr) (xs : List Int) (H' : Hp), H L = none → Ext H H' → H' L = some (.lst (xs.map V.int)) → Row xs m → Q (.ref L) H'
def rd_l_row_L1 (K : PySem.W.Frag) : TS := tSeq (tDrop (tBM K "list" rAppend (tVar 3) (tCons (tOp FW.rMod (tCB FW.rInt1 (tCons (tIf (tTest (tOp FW.rGt (tVar 2) (tC (.int 0)))) (tVar 2) (tCall (sp_l_mixed K) [] E0 (tCons (tVar 0) (tCons (tVar 4) (tNil))))) (tNil))) (tC (.int 1000))) (tNil)))) (tAsg (tOp FW.rDiv (tVar 2) (tC (.int 1000))) (gName 2))
def rd_l_row (K : PySem.W.Frag) : TS := tSeq (tAsg (tIf (tTest (tOp FW.rGe (tCB FW.rAbs (tCons (tVar 0) (tNil))) (tOp FW.rPow (tC (.int 10)) (tC (.int 18))))) (tCB FW.rAbs (tCons (tVar 0) (tNil))) (tC (.int 0))) (gName 2)) (tSeq (tAsg (tLst (tNil)) (gName 3)) (tSeq (tFor (iRng1 (tCons (tVar 1) (tNil))) (gName 4) (rd_l_row_L1 K)) (tRet (tVar 3))))
theorem pure_l_row (K : PySem.W.Frag) (vs : List V) (H : Hp) (Q : VK) (E : XK) (h : sp_l_row K vs H Q E) : rd_l_row K { nx := fun _ H' => Q .non H', rt := Q } (start ["_law_cell", "_law_many", "_law_left", "_law_row_here", "_law_k"] vs) H := by
  obtain ⟨c, m, rfl, hm, q⟩ := h
  have main : ∀ left : Int, 0 ≤ left → (tSeq (tAsg (tLst (tNil)) (gName 3)) (tSeq (tFor (iRng1 (tCons (tVar 1) (tNil))) (gName 4) (rd_l_row_L1 K)) (tRet (tVar 3)))) { nx := fun _ H' => Q .non H', rt := Q } [some (.int c), some (.int (m : Int)), some (.int left), none, none] H := by
    intro left hleft
    walk_at "rd"
    refine ⟨by show 0 ≤ sizeLine; decide, fun L hL => ?_⟩
    walk_at "rd"
    · refine for_range (lo := 0) (n := (m : Int).toNat) (fun i σ H' => Ext H H' ∧ ∃ (left : Int) (xs : List Int) (v : Option V), 0 ≤ left ∧ H' L = some (.lst (xs.map V.int)) ∧ Row xs i ∧ σ = [some (.int c), some (.int (m : Int)), some (.int left), some (.ref L), v]) ⟨Ext.new hL, left, [], _, hleft, upd_same, ⟨rfl, by simp⟩, rfl⟩ ?_ ?_
      · rintro i σ H' hi ⟨e, left, xs, v, hl, hx, hr, rfl⟩
        have fin : ∀ y : Int, 0 ≤ y → y < 1000 → rAppend (.ref L) [.int y] H' fun _ H1 => (tAsg (tOp FW.rDiv (tVar 2) (tC (.int 1000))) (gName 2)) { nx := fun σ H' => Ext H H' ∧ ∃ (left : Int) (xs : List Int) (v : Option V), 0 ≤ left ∧ H' L = some (.lst (xs.map V.int)) ∧ Row xs (i + 1) ∧ σ = [some (.int c), some (.int (m : Int)), some (.int left), some (.ref L), v], ct := fun σ H' => Ext H H' ∧ ∃ (left : Int) (xs : List Int) (v : Option V), 0 ≤ left ∧ H' L = some (.lst (xs.map V.int)) ∧ Row xs (i + 1) ∧ σ = [some (.int c), some (.int (m : Int)), some (.int left), some (.ref L), v], bk := fun σ' H' => tRet (tVar 3) { nx := fun _ H' => Q .non H', rt := Q } σ' H', rt := Q } [some (.int c), some (.int (m : Int)), some (.int left), some (.ref L), some (.int (0 + (i : Int)))] H1 := by
          intro y y0 y1
          refine ⟨L, _, _, rfl, rfl, hx, ?_, ?_⟩
          · rw [List.length_map, hr.1]; show _ < 2 ^ 24; omega
          walk_at "rd"
          · refine ⟨e.upds hL, left / 1000, xs ++ [y], _, by omega, by rw [upd_same, List.map_append]; rfl, ⟨by simp [hr.1], fun x hx' => ?_⟩, rfl⟩
            rcases List.mem_append.mp hx' with h | h
            · exact hr.2 x h
            · rw [List.mem_singleton.mp h]; exact ⟨y0, y1⟩
          · exact ⟨by decide, by decide⟩
        walk_at "re"
        unfold rd_l_row_L1
        walk_at "rd"
        refine ⟨Or.inl ⟨rfl, _, SqL.of hx⟩, ?_⟩
        walk_at "rd"
        refine e_ite (fun h => ?_) (fun h => ?_)
        · walk_at "re"
          · exact fin _ (Int.emod_nonneg _ (by decide)) (Int.emod_lt_of_pos _ (by decide))
          · decide
        · walk_at "re"
          refine ⟨c, 0 + (i : Int), rfl, by omega, by omega, fun w hw => ?_⟩
          walk_at "re"
          · exact fin _ (Int.emod_nonneg _ (by decide)) (Int.emod_lt_of_pos _ (by decide))
          · decide
      · rintro σ H' ⟨e, left, xs, v, hl, hx, hr, rfl⟩
        walk_at "rd"
        exact q L xs H' hL e hx (by simpa using hr)
    · omega
  unfold rd_l_row
  walk_at "rd"
  · refine e_ite (fun h => ?_) (fun h => ?_)
    · walk_at "re"
      refine main (if c < 0 then -c else c) (by split <;> omega)
    · walk_at "re"
      exact main 0 (by decide)
  · exact ⟨by decide, by decide, by decide⟩
theorem row_at {xs : List Int} {n : Nat} {i : Int} (h : Row xs n) (h0 : 0 ≤ i) (h1 : i < n) : ∃ x, 0 ≤ x ∧ x < 1000 ∧ atI (xs.map V.int) i = some (.int x) := by
  obtain ⟨k, rfl⟩ := Int.eq_ofNat_of_zero_le h0
  have hk : k < xs.length := by rw [h.1]; omega
  obtain ⟨a, b⟩ := h.2 xs[k] (List.getElem_mem _)
  exact ⟨xs[k], a, b, at_int hk⟩
theorem e_max1 {K : PySem.W.Frag} {H : Hp} {Q : VK} {a : Addr} {i j : Int} (k : ∀ m, (m = i ∨ m = j) → i ≤ m → j ≤ m → Q (.int m) H) (h : H a = some (.lst [.int i, .int j])) : rMax K [.ref a] H Q :=
  ⟨a, [i, j], rfl, SqL.of h, by show 0 < 2; decide, fun m hm hy => k m (by simpa using hm) (hy i (by simp)) (hy j (by simp))⟩
theorem e_min1 {K : PySem.W.Frag} {H : Hp} {Q : VK} {a : Addr} {i j : Int} (k : ∀ m, (m = i ∨ m = j) → m ≤ i → m ≤ j → Q (.int m) H) (h : H a = some (.lst [.int i, .int j])) : rMin K [.ref a] H Q :=
  ⟨a, [i, j], rfl, SqL.of h, by show 0 < 2; decide, fun m hm hy => k m (by simpa using hm) (hy i (by simp)) (hy j (by simp))⟩
end FWL
namespace FWL
open PySem PySem.Spec PyProof.Rows L2 FW
/-! ### walking with less to say -/
section
variable {K : PySem.W.Frag} {σ : L2.St} {H : Hp} {Q : VK} {R : VK} {D : Ends} {v : V} {i j : Int} {a C dx : Addr} {f : Str} {xs : List V} {fs : List (Str × L2.V)}
theorem ha_fld {R : V → Prop} (h : H a = some (.ins C dx fs)) (c : Cls K C) (n : NoAttr K C f) (l : fs.lookup f = some v) (k : R v) : ∃ a' C dx fs v, V.ref a = .ref a' ∧ H a' = some (.ins C dx fs) ∧ Cls K C ∧ NoAttr K C f ∧ fs.lookup f = some v ∧ R v := ⟨a, C, dx, fs, v, rfl, h, c, n, l, k⟩
theorem ha_ixL (h : H a = some (.lst xs)) (ha : atI xs i = some v) (k : Q v H) : rIxL K (.ref a) (.int i) H Q := e_ixL k (SqL.of h) ha
theorem ha_ixT (h : H a = some (.tup xs)) (ha : atI xs i = some v) (k : Q v H) : rIxT K (.ref a) (.int i) H Q := e_ixT k (SqT.of h) ha
theorem ha_tupL (h : H a = some (.lst xs)) (k : ∀ p H1, H p = none → Ext H H1 → H1 p = some (.tup xs) → Q (.ref p) H1) : FW.rTupS K [.ref a] H Q := e_tupL (fun p hp => k p _ hp (Ext.new hp) upd_same) (SqL.of h)
theorem ha_eqI (k : Q (.bl (decide (i = j))) H) : rEq (.int i) (.int j) H Q := ⟨rfl, by
  have e : decide (V.int i = V.int j) = decide (i = j) := decide_eq_decide.mpr ⟨fun z => by injection z, fun z => by rw [z]⟩
  show Q (.bl (decide (V.int i = V.int j))) H
  rw [e]; exact k⟩
theorem ha_neI (k : Q (.bl (!decide (i = j))) H) : rNe (.int i) (.int j) H Q := ⟨rfl, by
  have e : decide (V.int i = V.int j) = decide (i = j) := decide_eq_decide.mpr ⟨fun z => by injection z, fun z => by rw [z]⟩
  show Q (.bl (!decide (V.int i = V.int j))) H
  rw [e]; exact k⟩
theorem ha_eqS {s t : Str} (k : Q (.bl (decide (s = t))) H) : rEq (.str s) (.str t) H Q := ⟨rfl, by
  have e : decide (V.str s = V.str t) = decide (s = t) := decide_eq_decide.mpr ⟨fun z => by injection z, fun z => by rw [z]⟩
  show Q (.bl (decide (V.str s = V.str t))) H
  rw [e]; exact k⟩
theorem ha_neS {s t : Str} (k : Q (.bl (!decide (s = t))) H) : rNe (.str s) (.str t) H Q := ⟨rfl, by
  have e : decide (V.str s = V.str t) = decide (s = t) := decide_eq_decide.mpr ⟨fun z => by injection z, fun z => by rw [z]⟩
  show Q (.bl (!decide (V.str s = V.str t))) H
  rw [e]; exact k⟩
theorem ha_intD {p : Prop} [Decidable p] (k : Q (.int (if p then 1 else 0)) H) : rInt1 [.bl (decide p)] H Q := .inr ⟨_, rfl, by
  have e : (if decide p = true then (1 : Int) else 0) = if p then 1 else 0 := by
    by_cases h : p
    · rw [if_pos h, if_pos (decide_eq_true h)]
    · rw [if_neg h, if_neg (fun z => h (of_decide_eq_true z))]
  show Q (.int (if decide p = true then 1 else 0)) H
  rw [e]; exact k⟩
theorem ha_app {ys : List V} (h : H a = some (.lst ys)) (z : ys.length < sizeLine) (k : Q .non (upd H a (.lst (ys ++ [v])))) : rAppend (.ref a) [v] H Q := ⟨a, ys, v, rfl, rfl, h, z, k⟩
end
theorem al_of {H G : Hp} {p : Addr} {o : HO} (hp : H p = none) (e : upd H p o = G) : Ext H G ∧ G p = some o := by subst e; exact ⟨Ext.new hp, upd_same⟩
theorem ha_tyL {K : PySem.W.Frag} {H : Hp} {a : Addr} {xs : List V} {P : Prop} (h : H a = some (.lst xs)) (k : P) : tyV K "list" (.ref a) H ∧ P := ⟨.inl ⟨rfl, _, SqL.of h⟩, k⟩
/-! ### rows and picks -/
def strsOf (vs : List V) : List Str := vs.filterMap fun v => match v with | .str s => some s | _ => none
def intsOf (vs : List V) : List Int := vs.filterMap fun v => match v with | .int i => some i | _ => none
section
variable {K : PySem.W.Frag} {H : Hp} {Q : VK} {a : Addr} {i j : Int} {vs : List V}
theorem ha_row {xs : List Int} {n : Nat} (h : H a = some (.lst (xs.map V.int))) (hr : Row xs n) (h0 : 0 ≤ i) (h1 : i < n) (k : ∀ x, 0 ≤ x → x < 1000 → Q (.int x) H) : rIxL K (.ref a) (.int i) H Q := by
  obtain ⟨x, x0, x1, hx⟩ := row_at hr h0 h1
  exact e_ixL (k x x0 x1) (SqL.of h) hx
theorem ha_pick (h : H a = some (.lst vs)) (h0 : 0 ≤ i) (h1 : i < (vs.length : Int)) (k : ∀ v ∈ vs, Q v H) : rIxL K (.ref a) (.int i) H Q := by
  obtain ⟨v, hv, hat⟩ := list_at h0 h1
  exact e_ixL (k v hv) (SqL.of h) hat
theorem ha_pickS (h : H a = some (.lst vs)) (e : vs = (strsOf vs).map V.str) (h0 : 0 ≤ i) (h1 : i < (vs.length : Int)) (k : ∀ w, w ∈ strsOf vs → Q (.str w) H) : rIxL K (.ref a) (.int i) H Q := by
  refine ha_pick h h0 h1 fun v hv => ?_
  rw [e] at hv
  obtain ⟨w, hw, rfl⟩ := List.mem_map.mp hv
  exact k w hw
theorem ha_pickI (h : H a = some (.lst vs)) (e : vs = (intsOf vs).map V.int) (h0 : 0 ≤ i) (h1 : i < (vs.length : Int)) (k : ∀ w, w ∈ intsOf vs → Q (.int w) H) : rIxL K (.ref a) (.int i) H Q := by
  refine ha_pick h h0 h1 fun v hv => ?_
  rw [e] at hv
  obtain ⟨w, hw, rfl⟩ := List.mem_map.mp hv
  exact k w hw
theorem ha_cat {xs ys : List V} {b : Addr} (h : H a = some (.lst xs)) (h' : H b = some (.lst ys)) (hz : xs.length + ys.length ≤ sizeLine) (k : ∀ p G, H p = none → Ext H G → G p = some (.lst (xs ++ ys)) → Q (.ref p) G) : rCat (.ref a) (.ref b) H Q := e_cat (fun p hp => k p _ hp (Ext.new hp) upd_same) h h' hz
theorem ha_len {xs : List V} (h : H a = some (.lst xs)) (k : Q (.int xs.length) H) : Evl.rLenS K [.ref a] H Q := e_len k (.inl (SqL.of h))
theorem ha_gT {gs : TGs} {R : L2.St → Hp → Prop} {σ : L2.St} {n : Nat} {xs : List V} (h : H a = some (.tup xs)) (hl : xs.length = n) (k : gs xs σ H R) : gTup K n gs (.ref a) σ H R := g_tup k (SqT.of h) hl
theorem ha_gL {gs : TGs} {R : L2.St → Hp → Prop} {σ : L2.St} {n : Nat} {xs : List V} (h : H a = some (.lst xs)) (hl : xs.length = n) (k : gs xs σ H R) : gLst K n gs (.ref a) σ H R := ⟨a, xs, rfl, SqL.of h, hl, k⟩
end
theorem ha_mod {H : Hp} {Q : VK} {i j : Int} (h : 0 < j) (k : ∀ m : Int, 0 ≤ m → m < j → m = i % j → Q (.int m) H) : FW.rMod (.int i) (.int j) H Q := e_I (k _ (Int.emod_nonneg _ (by omega)) (Int.emod_lt_of_pos _ h) rfl) h
theorem ha_lenN {K : PySem.W.Frag} {H : Hp} {Q : VK} {a : Addr} {xs : List V} {n : Nat} (h : H a = some (.lst xs)) (e : xs.length = n) (k : Q (.int n) H) : Evl.rLenS K [.ref a] H Q := by subst e; exact ha_len h k
theorem mk_of {H G : Hp} {x dx C : Addr} (hx : H x = none) (hd : H dx = none) (hne : dx ≠ x) (e : upd (upd H dx (.own x)) x (.ins C dx []) = G) : Ext H G ∧ G x = some (.ins C dx []) := by
  subst e
  exact ⟨(Ext.new hd).tr (Ext.new (by rw [upd_ne hne.symm]; exact hx)), upd_same⟩
theorem ha_mt {H : Hp} {p C dx : Addr} {fs : List (Str × L2.V)} {m : Str} {T : Prop} (h : H p = some (.ins C dx fs)) (l : fs.lookup m = none) (k : T) : ∃ a dx fs, V.ref p = .ref a ∧ H a = some (.ins C dx fs) ∧ fs.lookup m = none ∧ T := ⟨p, dx, fs, rfl, h, l, k⟩
end FWL
local macro_rules | `(tactic| walk_at "rh") => `(tactic| first | assumption | solve_by_elim (maxDepth := 40))
local macro_rules | `(tactic| walk_at "rE") => `(tactic| (intro xa xo xh; solve_by_elim (maxDepth := 60)))
local macro_rules | `(tactic| walk_at "rc") => `(tactic| assumption)
local macro_rules | `(tactic| walk_at "rq") => `(tactic| first | decide | omega | exact L2.wide_div (b := 10) (by decide) (by decide) (by decide) (by decide) | (constructor <;> omega))
set_option hygiene false in
local macro_rules | `(tactic| walk_at "rn") => `(tactic| (intro nt nz; generalize hG : L2.upd _ nt _ = nH; obtain ⟨ne, nh⟩ := FWL.al_of nz hG; clear hG))
set_option hygiene false in
local macro_rules | `(tactic| walk_at "rz1") => `(tactic| first
  | ((with_reducible refine FWL.ha_mod (by walk_at "rq") ?_); intro md md0 md1 mdh)
  | (with_reducible first | refine FWL.ha_eqI ?_ | refine FWL.ha_eqS ?_ | refine FWL.ha_neI ?_ | refine FWL.ha_neS ?_ | refine FWL.ha_intD ?_ | refine FW.e_I ?_ (by walk_at "rq"))
  | walk_at "re1"
  | (refine ⟨Nat.le_of_ble_eq_true rfl, ?_⟩; walk_at "rn")
  | ((with_reducible apply FWL.ha_fld); (next => walk_at "rh"); (next => walk_at "rc"); (next => walk_at "rc"); (next => rfl))
  | ((with_reducible apply FWL.ha_mt); (next => walk_at "rh"); (next => rfl))
  | ((with_reducible apply FWL.ha_ixL); (next => walk_at "rh"); (next => rfl))
  | ((with_reducible apply FWL.ha_ixT); (next => walk_at "rh"); (next => rfl))
  | ((with_reducible refine FWL.ha_row (by walk_at "rh") (by assumption) (by omega) (by omega) ?_); intro xr xr0 xr1)
  | (with_reducible refine FWL.ha_pickI (by walk_at "rh") (by with_unfolding_all rfl) (by omega) (by (simp only [List.length_cons, List.length_nil]; omega)) ?_; intro w hw; simp only [FWL.strsOf, FWL.intsOf, List.filterMap_cons, List.filterMap_nil, List.mem_cons, List.not_mem_nil, or_false] at hw)
  | (with_reducible refine FWL.ha_pickS (by walk_at "rh") (by with_unfolding_all rfl) (by omega) (by (simp only [List.length_cons, List.length_nil]; omega)) ?_; intro w hw; simp only [FWL.strsOf, FWL.intsOf, List.filterMap_cons, List.filterMap_nil, List.mem_cons, List.not_mem_nil, or_false] at hw)
  | ((with_reducible refine FWL.ha_pick (by walk_at "rh") (by omega) (by (simp only [List.length_cons, List.length_nil]; omega)) ?_); intro pv hpv; simp only [List.mem_cons, List.not_mem_nil, or_false] at hpv)
  | ((with_reducible refine FWL.ha_cat (by walk_at "rh") (by walk_at "rh") (Nat.le_of_ble_eq_true (by with_unfolding_all rfl)) ?_); intro nt nH nz ne nh; try simp only [List.cons_append, List.nil_append] at nh)
  | ((with_reducible refine FWL.ha_tupL (by walk_at "rh") ?_); intro nt nH nz ne nh)
  | ((with_reducible refine FWL.e_max1 ?_ (by walk_at "rh")); intro mx hmx mx1 mx2)
  | ((with_reducible refine FWL.e_min1 ?_ (by walk_at "rh")); intro mn hmn mn1 mn2)
  | ((with_reducible apply FWL.ha_lenN); (next => walk_at "rh"); (next => (simp only [List.length_cons, List.length_nil, List.length_append, Nat.reduceAdd]; rfl)))
  | (with_reducible refine FWL.ha_len (by walk_at "rh") ?_)
  | (with_reducible refine FWL.ha_gT (by walk_at "rh") (by with_unfolding_all rfl) ?_)
  | (with_reducible refine FWL.ha_gL (by walk_at "rh") (by with_unfolding_all rfl) ?_)
  | (with_reducible refine FWL.ha_tyL (by walk_at "rh") ?_)
  | (intro nt nd nz nzd nne; generalize hG : L2.upd (L2.upd _ nd _) nt _ = nH; obtain ⟨ne, nh⟩ := FWL.mk_of nz nzd nne hG; clear hG nzd nne))
local macro_rules | `(tactic| walk_at "ry") => `(tactic| repeat (walk_at "rz1"))
local macro_rules | `(tactic| walk_at "rx") => `(tactic| repeat (first | walk_at "rz1" | walk_at "rs1"))
namespace FWL
open PySem PySem.Spec PyProof.Rows L2 FW
/-! ### heaps that keep all but tables -/
section
variable {H H' : Hp} {a C dx : Addr} {xs : List V} {fs : List (Str × L2.V)}
theorem nx_lst (e : LamX.ExtN H H') (h : H a = some (.lst xs)) : H' a = some (.lst xs) := e _ _ h (fun _ z => nomatch z)
end
end FWL
local macro_rules | `(tactic| walk_at "rN") => `(tactic| (intro xa xo xh xn; solve_by_elim (maxDepth := 60)))
namespace FWL
open PySem PySem.Spec PyProof.Rows L2 FW
/-! ### texts of loops: parts -/
def figs (w : Str) : Str := if cutS w none (some 1) = "-" then cutS w (some 1) none else w
def dgs : Str := "0123456789"
/-- a word that is no short number -/
def noFig (w : Str) : Bool := decide (figs w = "") || (decide (3 < (figs w).length) || (figs w).cps.toList.any fun c => !decide (c ∈ dgs.cps.toList))
def PartV (w : Str) (v : V) : Prop := if noFig w = true then v = .str w else ∃ n, PySem.intText? w = some n ∧ v = .int n
theorem figs_le (w : Str) : (figs w).cps.size ≤ w.cps.size := by
  unfold figs
  split
  · unfold cutS
    simp only [List.size_toArray, List.length_take, List.length_drop, Array.length_toList]
    omega
  · exact Nat.le_refl _
theorem decStr (a b : Str) : decide (V.str a = V.str b) = decide (a = b) := decide_eq_decide.mpr ⟨fun h => by cases h; rfl, fun h => by rw [h]⟩
def sp_part_of (K : PySem.W.Frag) : Sp := fun vs H Q _ => ∃ (w : Str) (v : V), vs = [.str w] ∧ w.length ≤ 1000000 ∧ (noFig w = false → w.length ≤ 640) ∧ PartV w v ∧ ∀ H', Ext H H' → Q v H'
def rd_part_of (K : PySem.W.Frag) : TS := tSeq (tAsg (tIf (tTest (tOp rEq (tSl rSlS (tVar 0) (tNoPart) (tPart (tC (.int 1)))) (tC (.str "-")))) (tSl rSlS (tVar 0) (tPart (tC (.int 1))) (tNoPart)) (tVar 0)) (gName 1)) (tSeq (tIfS (tOr (tTest (tOp rEq (tVar 1) (tC (.str "")))) (tOr (tTest (tOp FW.rGt (tCB FW.rLenStr (tCons (tVar 1) (tNil))) (tC (.int 3)))) (tB (tCB (rAny K) (tCons (tLc (iStr (tVar 1)) (gName 2) (tYes) (tOp FW.rNinSg (tVar 2) (tC (.str "0123456789"))) [2]) (tNil)))))) (tRet (tVar 0)) (tNext)) (tRet (tCB FW.rIntS (tCons (tVar 0) (tNil)))))
theorem pure_part_of (K : PySem.W.Frag) (vs : List V) (H : Hp) (Q : VK) (E : XK) (h : sp_part_of K vs H Q E) : rd_part_of K { nx := fun _ H' => Q .non H', rt := Q } (start ["word", "figures", "figure"] vs) H := by
  obtain ⟨w, v, rfl, hw, h640, pv, q⟩ := h
  have hz : w.length ≤ sizeLine := Nat.le_trans hw (by decide)
  have fz : (figs w).length ≤ 1000000 := Nat.le_trans (figs_le w) hw
  have fz2 : (figs w).length ≤ sizeLine := Nat.le_trans fz (by decide)
  unfold rd_part_of
  have say : noFig w = true → Q (.str w) H ∧ ∀ H', Ext H H' → Q (.str w) H' := fun e => by
    unfold PartV at pv
    rw [e, if_pos rfl] at pv
    subst pv
    exact ⟨q _ (fun _ _ z => z), q⟩
  have num : ∀ H1, noFig w = false → Ext H H1 → rIntS [.str w] H1 Q := fun H1 e e1 => by
    unfold PartV at pv
    rw [e, if_neg (by decide)] at pv
    obtain ⟨n, hn, rfl⟩ := pv
    exact ⟨w, n, rfl, hn, h640 e, q H1 e1⟩
  have tail : (tSeq (tIfS (tOr (tTest (tOp rEq (tVar 1) (tC (.str "")))) (tOr (tTest (tOp FW.rGt (tCB FW.rLenStr (tCons (tVar 1) (tNil))) (tC (.int 3)))) (tB (tCB (rAny K) (tCons (tLc (iStr (tVar 1)) (gName 2) (tYes) (tOp FW.rNinSg (tVar 2) (tC (.str "0123456789"))) [2]) (tNil)))))) (tRet (tVar 0)) (tNext)) (tRet (tCB FW.rIntS (tCons (tVar 0) (tNil))))) { nx := fun _ H' => Q .non H', rt := Q } [some (.str w), some (.str (figs w)), none] H := by
    walk_at "rd"
    rw [decStr]
    by_cases c1 : figs w = ""
    · rw [decide_eq_true c1]
      walk_at "rd"
      exact (say (by unfold noFig; rw [decide_eq_true c1]; rfl)).1
    rw [decide_eq_false c1]
    walk_at "rd"
    refine ⟨_, rfl, fz2, ?_⟩
    walk_at "rd"
    by_cases c2 : 3 < (figs w).length
    · rw [decide_eq_true (show ((figs w).length : Int) > 3 by omega)]
      walk_at "rd"
      exact (say (by unfold noFig; rw [decide_eq_false c1, decide_eq_true c2]; rfl)).1
    rw [decide_eq_false (show ¬ ((figs w).length : Int) > 3 by omega)]
    walk_at "rd"
    refine ⟨_, rfl, ?_⟩
    refine ⟨_, rfl, ?_⟩
    dsimp only
    refine lc_signs (n := 2) (σ := [some (.str w), some (.str (figs w)), none]) (f := fun c => !decide (c ∈ dgs.cps.toList)) fz (fun v => rfl) (fun c H1 R k => ?_) fun D H1 hD e1 h1 => ?_
    · walk_at "re"
      exact ⟨c, dgs, rfl, rfl, k⟩
    walk_at "rd"
    refine ⟨D, (figs w).cps.toList.map fun c => !decide (c ∈ dgs.cps.toList), rfl, SqL.of (by rw [List.map_map]; exact h1), ?_⟩
    have ea : (List.map (fun c => !decide (c ∈ dgs.cps.toList)) (figs w).cps.toList).any id = (figs w).cps.toList.any fun c => !decide (c ∈ dgs.cps.toList) := by rw [List.any_map]; rfl
    rw [ea]
    walk_at "rd"
    cases c3 : (figs w).cps.toList.any fun c => !decide (c ∈ dgs.cps.toList) with
    | true =>
      walk_at "rd"
      exact (say (by unfold noFig; rw [decide_eq_false c1, decide_eq_false c2, c3]; rfl)).2 _ e1
    | false =>
      walk_at "rd"
      exact num _ (by unfold noFig; rw [decide_eq_false c1, decide_eq_false c2, c3]; rfl) e1
  walk_at "rd"
  refine e_sl (e_var (e_noP (e_part (e_c ⟨_, rfl, ⟨w, rfl, hz, ?_⟩⟩))) rfl)
  walk_at "rd"
  rw [decStr]
  by_cases c : cutS w none (some 1) = "-"
  · have ef : figs w = cutS w (some 1) none := if_pos c
    rw [decide_eq_true c]
    walk_at "rd"
    refine e_sl (e_var (e_part (e_c ⟨_, rfl, e_noP ⟨w, rfl, hz, ?_⟩⟩)) rfl)
    rw [← ef]
    exact tail
  · have ef : figs w = w := if_neg c
    rw [ef] at tail
    rw [decide_eq_false c]
    walk_at "re"
    exact tail
end FWL
namespace FWL
open PySem PySem.Spec PyProof.Rows L2 FW TL
/-! ### words of a line: plain -/
theorem spl_glue : ∀ (l acc : List Nat), joinL [32] (spl [32] 0 acc l) = acc ++ l
  | [], acc => by rw [spl_nil]; simp [joinL]
  | c :: r, acc => by
    cases h : pre [32] (c :: r) with
    | true =>
      have hc : c = 32 := by simpa [pre] using h
      have ih := spl_glue r []
      rw [spl_hit h]
      show joinL [32] (acc :: spl [32] 0 [] r) = _
      cases e : spl [32] 0 [] r with
      | nil => rw [e] at ih; cases r <;> simp [joinL] at ih <;> simp [spl] at e
      | cons p q => rw [e] at ih; simp only [joinL]; rw [ih, hc]; simp
    | false =>
      rw [spl_miss h, spl_glue r (acc ++ [c])]
      simp
theorem spl_free : ∀ (l acc : List Nat), 32 ∉ acc → ∀ p ∈ spl [32] 0 acc l, 32 ∉ p
  | [], acc, ha, p, hp => by
    rw [spl_nil] at hp
    rw [List.mem_singleton.mp hp]; exact ha
  | c :: r, acc, ha, p, hp => by
    cases h : pre [32] (c :: r) with
    | true =>
      rw [spl_hit h] at hp
      rcases List.mem_cons.mp hp with rfl | hp
      · exact ha
      · exact spl_free r [] (by simp) p hp
    | false =>
      rw [spl_miss h] at hp
      have hc : c ≠ 32 := by
        intro e
        rw [e] at h
        simp [pre] at h
      refine spl_free r (acc ++ [c]) ?_ p hp
      simp only [List.mem_append, List.mem_singleton, not_or]
      exact ⟨ha, fun e => hc e.symm⟩
theorem spl_ne : ∀ (l acc : List Nat), spl [32] 0 acc l ≠ []
  | [], acc => by rw [spl_nil]; simp
  | c :: r, acc => by
    cases h : pre [32] (c :: r) with
    | true => rw [spl_hit h]; simp
    | false => rw [spl_miss h]; exact spl_ne r _
theorem tl_sp : tl (" " : Str) = [32] := rfl
theorem splT (z : Str) : (Txt.split z " ").map tl = spl [32] 0 [] (tl z) := by
  have h := split_spl z " " (by rw [tl_sp]; simp) (kind_ok (by decide +kernel))
  rw [tl_sp] at h
  exact h
theorem split_ne (z : Str) : Txt.split z " " ≠ [] := fun e => by
  have h := splT z
  rw [e] at h
  exact spl_ne _ _ h.symm
theorem join_split (z : Str) : Txt.join " " (Txt.split z " ") = z := by
  refine ext_tl ?_
  rw [join_eq, tl_join, splT, tl_sp, spl_glue]
  rfl
def NoSp (w : Str) : Prop := 32 ∉ tl w
instance (w : Str) : Decidable (NoSp w) := inferInstanceAs (Decidable (32 ∉ tl w))
theorem split_free (z : Str) : ∀ w ∈ Txt.split z " ", NoSp w := fun w hw => by
  have h : tl w ∈ (Txt.split z " ").map tl := List.mem_map_of_mem hw
  rw [splT] at h
  exact spl_free _ _ (by simp) _ h
theorem split_joinS {ws : List Str} (hne : ws ≠ []) (h : ∀ w ∈ ws, NoSp w) : Txt.split (Txt.join " " ws) " " = ws := split_join (y := " ") (s := 32) (S := []) rfl (by decide +kernel) hne h
/-- the signs of words with a blank behind each -/
def szW (ws : List Str) : Nat := (ws.map (·.length)).sum + ws.length
theorem joinL_len : ∀ (ps : List (List Nat)), ps ≠ [] → (joinL [32] ps).length + 1 = (ps.map (·.length)).sum + ps.length
  | [], h => absurd rfl h
  | [p], _ => by simp [joinL]
  | p :: q :: r, _ => by
    have ih := joinL_len (q :: r) (by simp)
    simp only [joinL, List.length_append, List.length_cons, List.length_nil, List.map_cons, List.sum_cons] at ih ⊢
    omega
theorem join_len {ws : List Str} (h : ws ≠ []) : (Txt.join " " ws).length + 1 = szW ws := by
  rw [len_tl, join_eq, tl_join, tl_sp, joinL_len _ (by simpa using h)]
  unfold szW
  rw [List.map_map, List.length_map]
  congr 2
theorem szW_split (z : Str) : szW (Txt.split z " ") = z.length + 1 := by
  rw [← join_len (split_ne z), join_split]
theorem szW_mem {ws : List Str} {w : Str} (h : w ∈ ws) : w.length + 1 ≤ szW ws := by
  induction ws with
  | nil => cases h
  | cons a l ih =>
    unfold szW at *
    simp only [List.map_cons, List.sum_cons, List.length_cons]
    rcases List.mem_cons.mp h with rfl | h
    · omega
    · have := ih h; omega
theorem szW_len (ws : List Str) : ws.length ≤ szW ws := by unfold szW; omega
theorem szW_app (a b : List Str) : szW (a ++ b) = szW a + szW b := by
  unfold szW
  rw [List.map_append, List.sum_append, List.length_append]; omega
theorem szW_cons (a : Str) (b : List Str) : szW (a :: b) = a.length + 1 + szW b := by
  unfold szW
  rw [List.map_cons, List.sum_cons, List.length_cons]; omega
theorem szW_take (ws : List Str) (n : Nat) : szW (ws.take n) ≤ szW ws := by
  have := szW_app (ws.take n) (ws.drop n)
  rw [List.take_append_drop] at this; omega
theorem szW_drop (ws : List Str) (n : Nat) : szW (ws.drop n) ≤ szW ws := by
  have := szW_app (ws.take n) (ws.drop n)
  rw [List.take_append_drop] at this; omega
/-! ### parts of words -/
def wdV : V → Str
  | .int i => toString i
  | .str s => s
  | _ => ""
def partV (w : Str) : V := if noFig w = true then .str w else match PySem.intText? w with
  | some n => .int n
  | none => .non
/-- all lists of one to three figures -/
def allD : List (List Nat) :=
  let D := (List.range 10).map (· + 48)
  let two := D.flatMap fun a => D.map fun b => [a, b]
  D.map (fun a => [a]) ++ two ++ D.flatMap fun a => two.map fun r => a :: r
def okD (l : List Nat) : Bool := match PySem.intText? ⟨l.toArray⟩ with
  | some n => decide (n.natAbs < 1000)
  | none => false
theorem allD_ok : (allD.all fun l => okD l && okD (45 :: l)) = true := by kernel_rfl
theorem mem_allD {l : List Nat} (h0 : l ≠ []) (h3 : l.length ≤ 3) (hd : ∀ c ∈ l, 48 ≤ c ∧ c ≤ 57) : l ∈ allD := by
  have D : ∀ c, 48 ≤ c ∧ c ≤ 57 → c ∈ (List.range 10).map (· + 48) := fun c hc => List.mem_map.mpr ⟨c - 48, by simp; omega, by omega⟩
  match l, h0, h3 with
  | [a], _, _ =>
    exact List.mem_append_left _ (List.mem_append_left _ (List.mem_map.mpr ⟨a, D a (hd a (by simp)), rfl⟩))
  | [a, b], _, _ =>
    exact List.mem_append_left _ (List.mem_append_right _ (List.mem_flatMap.mpr ⟨a, D a (hd a (by simp)), List.mem_map.mpr ⟨b, D b (hd b (by simp)), rfl⟩⟩))
  | [a, b, c], _, _ =>
    exact List.mem_append_right _ (List.mem_flatMap.mpr ⟨a, D a (hd a (by simp)), List.mem_map.mpr ⟨[b, c], List.mem_flatMap.mpr ⟨b, D b (hd b (by simp)), List.mem_map.mpr ⟨c, D c (hd c (by simp)), rfl⟩⟩, rfl⟩⟩)
  | _ :: _ :: _ :: _ :: _, _, h3 => exact absurd h3 (by simp)
theorem tl_dgs : dgs.cps.toList = (List.range 10).map (· + 48) := by decide +kernel
theorem noFig_not {w : Str} (h : noFig w = false) : ∃ n, PySem.intText? w = some n ∧ n.natAbs < 1000 ∧ w.length ≤ 4 := by
  unfold noFig at h
  simp only [Bool.or_eq_false_iff, decide_eq_false_iff_not] at h
  obtain ⟨h0, h3, hd⟩ := h
  have e0 : tl (figs w) ≠ [] := fun e => h0 (ext_tl (e.trans rfl))
  have e3 : (tl (figs w)).length ≤ 3 := by rw [← len_tl]; omega
  have ed : ∀ c ∈ tl (figs w), 48 ≤ c ∧ c ≤ 57 := fun c hc => by
    have := List.any_eq_false.mp hd c hc
    rw [tl_dgs] at this
    simp only [Bool.not_eq_true', decide_eq_false_iff_not, Decidable.not_not, List.mem_map, List.mem_range] at this
    obtain ⟨k, hk, rfl⟩ := this
    omega
  have m := List.all_eq_true.mp allD_ok _ (mem_allD e0 e3 ed)
  rw [Bool.and_eq_true] at m
  have fin : ∀ l : List Nat, tl w = l → okD l = true → l.length ≤ 4 → ∃ n, PySem.intText? w = some n ∧ n.natAbs < 1000 ∧ w.length ≤ 4 := fun l el ok hl => by
    unfold okD at ok
    rw [← el, mk_tl] at ok
    rw [len_tl, el]
    cases e : PySem.intText? w with
    | none => rw [e] at ok; cases ok
    | some n => rw [e] at ok; exact ⟨n, rfl, of_decide_eq_true ok, hl⟩
  by_cases c : cutS w none (some 1) = "-"
  · have ef : figs w = cutS w (some 1) none := if_pos c
    have e : tl w = 45 :: tl (figs w) := by
      rw [ef]
      have hs : ∀ l : List Nat, tl w = l → tl w = 45 :: tl (cutS w (some 1) none) := fun l el => by
        have hl : w.length = l.length := by rw [len_tl, el]
        unfold cutS at c ⊢
        rw [hl, show w.cps.toList = l from el] at c ⊢
        cases l with
        | nil => exact absurd (congrArg tl c) (by decide +kernel)
        | cons a r =>
          have c' := congrArg tl c
          have h1 : HT.sIx (a :: r).length 0 (some 1) = 1 := by unfold HT.sIx; simp
          have h2 : HT.sIx (a :: r).length (a :: r).length (some 1) = 1 := by unfold HT.sIx; simp
          have h3 : HT.sIx (a :: r).length (a :: r).length none = (a :: r).length := rfl
          have h4 : HT.sIx (a :: r).length 0 none = 0 := rfl
          rw [h2, h4] at c'
          rw [h1, h3, el]
          have c2 : a = 45 := by
            have : [a] = ([45] : List Nat) := c'
            simpa using this
          rw [c2]
          simp
      exact hs _ rfl
    exact fin _ e m.2 (by simp only [List.length_cons]; omega)
  · have ef : figs w = w := if_neg c
    rw [ef] at m e3
    exact fin _ rfl m.1 (by omega)
theorem partV_ok (w : Str) : PartV w (partV w) := by
  unfold PartV partV
  cases h : noFig w with
  | true => simp
  | false =>
    obtain ⟨n, e, _⟩ := noFig_not h
    simp [e]
/-- what partV tells is a text or a small number -/
theorem partV_kind (w : Str) : partV w = .str w ∨ ∃ n : Int, partV w = .int n ∧ n.natAbs < 1000 := by
  unfold partV
  cases h : noFig w with
  | true => exact .inl (if_pos rfl)
  | false =>
    obtain ⟨n, e, hn, _⟩ := noFig_not h
    rw [if_neg (by decide), e]
    exact .inr ⟨n, rfl, hn⟩
end FWL
namespace FWL
open PySem PySem.Spec PyProof.Rows L2 FW
/-! ### sign, bits -/
theorem pow_le_right {x : Int} (hx : 1 ≤ x) {a b : Nat} (h : a ≤ b) : x ^ a ≤ x ^ b := by
  obtain ⟨c, rfl⟩ := Nat.le.dest h
  rw [Int.pow_add]
  have h1 := pow_pos' hx a
  have h2 := pow_pos' hx c
  have : x ^ a * 1 ≤ x ^ a * x ^ c := Int.mul_le_mul_of_nonneg_left h2 (by omega)
  omega
/-! ### the whole root, by Newton's steps -/
theorem conv (g r : Int) (hg : 0 ≤ g) (hr : 0 ≤ r) : ∀ k : Nat, g ^ (k + 1) + (k + 1 : Int) * g ^ k * (r - g) ≤ r ^ (k + 1)
  | 0 => by
    have e1 : g ^ (0 + 1) = g := by rw [Int.pow_succ, Int.pow_zero, Int.one_mul]
    have e2 : r ^ (0 + 1) = r := by rw [Int.pow_succ, Int.pow_zero, Int.one_mul]
    rw [e1, e2, Int.pow_zero]; simp; omega
  | k + 1 => by
    have ih := conv g r hg hr k
    have h1 : r * (g ^ (k + 1) + (k + 1 : Int) * g ^ k * (r - g)) ≤ r * r ^ (k + 1) := Int.mul_le_mul_of_nonneg_left ih hr
    have h2 : 0 ≤ (k + 1 : Int) * g ^ k * ((r - g) * (r - g)) := by
      have a1 : 0 ≤ g ^ k := Int.pow_nonneg hg
      have a2 : 0 ≤ (r - g) * (r - g) := by
        rcases Int.le_total 0 (r - g) with h | h
        · exact Int.mul_nonneg h h
        · exact Int.mul_nonneg_of_nonpos_of_nonpos h h
      exact Int.mul_nonneg (Int.mul_nonneg (by omega) a1) a2
    have e1 : r ^ (k + 1 + 1) = r * r ^ (k + 1) := by rw [Int.pow_succ, Int.mul_comm]
    have e2 : g ^ (k + 1 + 1) = g * g * g ^ k := by rw [Int.pow_succ, Int.pow_succ]; grind
    have e3 : g ^ (k + 1) = g * g ^ k := by rw [Int.pow_succ, Int.mul_comm]
    rw [e1]
    have e4 : g ^ (k + 1 + 1) + ((k + 1 : Nat) + 1 : Int) * g ^ (k + 1) * (r - g) = r * (g ^ (k + 1) + (k + 1 : Int) * g ^ k * (r - g)) - (k + 1 : Int) * g ^ k * ((r - g) * (r - g)) := by
      rw [e2, e3]; push_cast; grind
    rw [e4]
    omega
end FWL
namespace FWL
open PySem PySem.Spec PyProof.Rows L2 FW
/-! ### things that are sought -/
structure So where
  kind : Str
  by_ : Int
  n : Int
structure So.Ok (s : So) : Prop where
  hk : s.kind = "root" ∨ s.kind = "share" ∨ s.kind = "log"
  b1 : 1 ≤ s.by_
  b64 : s.by_ ≤ 64
  bl : s.kind = "log" → 2 ≤ s.by_
  n0 : 0 ≤ s.n
  nl : s.kind = "log" → 1 ≤ s.n
  ns : Sz 700 s.n
def So.V (s : So) : List V := [.str s.kind, .int s.by_, .int s.n]
def So.F (s : So) : List (Str × L2.V) := [("kind", .str s.kind), ("by", .int s.by_), ("n", .int s.n)]
def So.me (s : So) (x : Int) : Int := if s.kind = "root" then x ^ s.by_.toNat else if s.kind = "share" then s.by_ * x else s.by_ ^ x.toNat
/-- x is the answer -/
def So.Ans (s : So) (x : Int) : Prop := 0 ≤ x ∧ s.me x ≤ s.n ∧ s.n < s.me (x + 1)
theorem So.me_root {s : So} (h : s.kind = "root") (x : Int) : s.me x = x ^ s.by_.toNat := by unfold So.me; rw [if_pos h]
theorem So.me_share {s : So} (h : s.kind = "share") (x : Int) : s.me x = s.by_ * x := by unfold So.me; rw [if_neg (by rw [h]; decide), if_pos h]
theorem So.me_log {s : So} (h : s.kind = "log") (x : Int) : s.me x = s.by_ ^ x.toNat := by unfold So.me; rw [if_neg (by rw [h]; decide), if_neg (by rw [h]; decide)]
theorem So.mono {s : So} (o : s.Ok) {x y : Int} (h0 : 0 ≤ x) (h : x ≤ y) : s.me x ≤ s.me y := by
  have b1 := o.b1
  rcases o.hk with k | k | k
  · rw [So.me_root k, So.me_root k]; exact pow_mono h0 h _
  · rw [So.me_share k, So.me_share k]; exact Int.mul_le_mul_of_nonneg_left h (by omega)
  · rw [So.me_log k, So.me_log k]; exact pow_le_right b1 (by omega)
def IsSo (K : PySem.W.Frag) (H : Hp) (x : Addr) (s : So) : Prop := ∃ dx, H x = some (.ins (He.ga K "Sought") dx s.F)
theorem IsSo.ext {K : PySem.W.Frag} {H H' : Hp} {x : Addr} {s : So} (e : Ext H H') : IsSo K H x s → IsSo K H' x s
  | ⟨dx, h⟩ => ⟨dx, e _ _ h⟩
def So.In (s : So) (x : Int) : Prop := 0 ≤ x ∧ Sz 710 x ∧ (s.kind = "log" → x ≤ 10000)
theorem So.Ans.le {s : So} (o : s.Ok) {x : Int} (h : s.Ans x) : x ≤ s.n := by
  obtain ⟨x0, x1, x2⟩ := h
  have b1 := o.b1
  rcases Int.lt_or_le x 1 with hx | hx
  · have := o.n0; omega
  refine Int.le_trans ?_ x1
  rcases o.hk with k | k | k
  · rw [So.me_root k]; exact pow_ge_self hx _ (by omega)
  · rw [So.me_share k]
    have : 1 * x ≤ s.by_ * x := Int.mul_le_mul_of_nonneg_right b1 (by omega)
    omega
  · rw [So.me_log k]
    have b2 := o.bl k
    have h2 : (2 : Int) ^ x.toNat ≤ s.by_ ^ x.toNat := pow_mono (by decide) b2 _
    have h3 : ((x.toNat : Nat) : Int) < 2 ^ x.toNat := by
      have := Nat.lt_two_pow_self (n := x.toNat)
      have e : ((2 ^ x.toNat : Nat) : Int) = 2 ^ x.toNat := by rw [Int.natCast_pow]; rfl
      omega
    omega
end FWL
namespace FWL
open PySem PySem.Spec PyProof.Rows L2 FW
/-! ### halving walks -/
structure Hv where
  up : Int
  test : Str
  low : Int
  high : Int
  stop : Str
  told : Str
  plus : Int
structure Hv.Ok (h : Hv) : Prop where
  up : h.up = 0 ∨ h.up = 1
  test : h.test = "upto" ∨ h.test = "below"
  low : h.low = 0 ∨ h.low = 1
  high : h.high = 0 ∨ h.high = 1
  stop : h.stop = "less" ∨ h.stop = "most" ∨ h.stop = "wide"
  told : h.told = "low" ∨ h.told = "high"
  plus : h.plus = -1 ∨ h.plus = 0 ∨ h.plus = 1
def Hv.V (h : Hv) : List V := [.int h.up, .str h.test, .int h.low, .int h.high, .str h.stop, .str h.told, .int h.plus]
def Hv.goes (h : Hv) (lo hi : Int) : Bool := if h.stop = "less" then decide (lo < hi) else if h.stop = "most" then decide (lo ≤ hi) else decide (1 < hi - lo)
def Hv.mid (h : Hv) (lo hi : Int) : Int := (lo + hi + h.up) / 2
/-- an end moves: upw tells on which side of the middle the answer is sought -/
def Hv.nxt (h : Hv) (upw : Int → Bool) (p : Int × Int) : Int × Int := if upw (h.mid p.1 p.2) = true then (h.mid p.1 p.2 + h.low, p.2) else (p.1, h.mid p.1 p.2 - h.high)
def hst (h : Hv) (upw : Int → Bool) (p : Int × Int) : Nat → Int × Int
  | 0 => p
  | i + 1 => h.nxt upw (hst h upw p i)
structure HRes where
  mids : List Int
  fin : Str
  told : Option Int
def hmids (h : Hv) (upw : Int → Bool) (p : Int × Int) (i : Nat) : List Int := (List.range i).map fun j => h.mid (hst h upw p j).1 (hst h upw p j).2
def hseen (h : Hv) (upw : Int → Bool) (p : Int × Int) (i : Nat) : Bool := (List.range i).any fun j => decide (hst h upw p j = hst h upw p i)
/-- how the round i ends the walk -/
def hcs (h : Hv) (upw : Int → Bool) (p : Int × Int) (i : Nat) : Option HRes :=
  if h.goes (hst h upw p i).1 (hst h upw p i).2 = true then (if hseen h upw p i = true then some ⟨hmids h upw p i, "swings", none⟩ else none)
  else some ⟨hmids h upw p i, "told", some ((if h.told = "low" then (hst h upw p i).1 else (hst h upw p i).2) + h.plus)⟩
def Hcs (h : Hv) (upw : Int → Bool) (p : Int × Int) (r : HRes) : Prop := ∃ i, (∀ j, j < i → hcs h upw p j = none) ∧ hcs h upw p i = some r
theorem Hcs.uniq {h : Hv} {upw : Int → Bool} {p : Int × Int} {r s : HRes} (a : Hcs h upw p r) (b : Hcs h upw p s) : r = s := by
  obtain ⟨i, hi, e⟩ := a
  obtain ⟨j, hj, e'⟩ := b
  rcases Nat.lt_trichotomy i j with z | z | z
  · rw [hj i z] at e; cases e
  · subst z; rw [e] at e'; cases e'; rfl
  · rw [hi j z] at e'; cases e'
end FWL
namespace FWP
open PySem PySem.Spec PyProof.Rows L2 FW LamX
/-! ### lambdas with one parameter, handed to a method -/
/-- the names of a lambda with the parameter x -/
structure LamP (sc scope : Scope) (x : Str) : Prop where
  fk : scope.kind = .function
  noco : scope.isCoroutine = false
  nogen : scope.isGenerator = false
  par : scope.names.lookup x = some .local
  own : ∀ y ∈ scope.names, y.2 = .local → y.1 = x
  nocell : ∀ y ∈ scope.names, y.2 ≠ .cell
  capt : ∀ y ∈ scope.names, y.2 = .free → sc.names.lookup y.1 = some .cell ∨ sc.names.lookup y.1 = some .free
theorem LamP.cells {X : Cx} {scope : Scope} {x : Str} (L : LamP X.env.scope scope x) (ok : X.Ok) (y : Str × NameKind) (hy : y ∈ scope.names) (e : y.2 = .free) : ∃ c, X.env.cells.lookup y.1 = some c :=
  ok.has _ (L.capt y hy e)
end FWP
namespace FWL
open PySem PySem.Spec PyProof.Rows L2 FW
/-! ### a number to try -/
theorem ExtB.ext {p : Addr} {H H' : Hp} (e : ExtB p H H') (h : H p = none) : Ext H H' := fun a o q => e a o (ne_of_none q h) q
end FWL
namespace FWL
open PySem PySem.Spec PyProof.Rows L2 FW
/-! ### the law -/
mutual
theorem Dp.ext {K : PySem.W.Frag} {H H' : Hp} (e : Ext H H') : ∀ (d : PyData) (v : V), Dp K H v d → Dp K H' v d
  | .none, _, h => by cases h; exact .non
  | .bool b, _, h => by cases h; exact .bl b
  | .int i, _, h => by cases h; exact .int i
  | .str x, _, h => by cases h; exact .str x
  | .list ds, _, h => by
    cases h with
    | lst hs ha => exact .lst (e.sqL hs) (DpAll.ext e ds _ ha)
  | .tuple ds, _, h => by
    cases h with
    | tup hs ha => exact .tup (e.sqT hs) (DpAll.ext e ds _ ha)
  | .dict _, _, h => by cases h
theorem DpAll.ext {K : PySem.W.Frag} {H H' : Hp} (e : Ext H H') : ∀ (ds : List PyData) (vs : List V), DpAll K H vs ds → DpAll K H' vs ds
  | [], _, h => by cases h; exact .nil
  | d :: ds, _, h => by
    cases h with
    | cons h1 h2 => exact .cons (Dp.ext e d _ h1) (DpAll.ext e ds _ h2)
end
/-- a thing that may be told of, and compared -/
def Odd (K : PySem.W.Frag) (H : Hp) (v : V) : Prop := ∃ n d, WT K H v n ∧ Dp K H v d ∧ SeqAt.shaped (.tuple [.str "number", d]) = true ∧ SeqAt.shaped (.tuple [.str "start", d]) = true
theorem Odd.ext {K : PySem.W.Frag} {H H' : Hp} {v : V} (e : Ext H H') (h : Odd K H v) : Odd K H' v := by
  obtain ⟨n, d, h1, h2, h3⟩ := h
  exact ⟨n, d, h1.ext e, Dp.ext e d v h2, h3⟩
theorem Odd.i {K : PySem.W.Frag} {H : Hp} (i : Int) : Odd K H (.int i) := ⟨_, .int i, WT.i i, .int i, by kernel_rfl, by kernel_rfl⟩
theorem Odd.n {K : PySem.W.Frag} {H : Hp} : Odd K H .non := ⟨_, .none, WT.non, .non, by kernel_rfl, by kernel_rfl⟩
theorem Odd.l {K : PySem.W.Frag} {H : Hp} {a : Addr} {i : Int} (h : H a = some (.lst [.int i])) : Odd K H (.ref a) := ⟨_, .list [.int i], WT.lst h, .lst (SqL.of h) (.cons (.int i) .nil), by kernel_rfl, by kernel_rfl⟩
theorem Odd.t {K : PySem.W.Frag} {H : Hp} {a : Addr} {i : Int} (h : H a = some (.tup [.int i])) : Odd K H (.ref a) := ⟨_, .tuple [.int i], WT.tup h, .tup (SqT.of h) (.cons (.int i) .nil), by kernel_rfl, by kernel_rfl⟩
/-! monotone steps from behind the root on -/
end FWL
namespace FWL
open PySem PySem.Spec PyProof.Rows L2 FW
/-! ### how far steps lead -/
/-- the guesses from a start -/
def itr (l : Lp) (n x : Int) : Nat → Int
  | 0 => x
  | j + 1 => l.led n (itr l n x j)
/-! ### no more unlike numbers than there are -/
end FWL
namespace FWL
open PySem PySem.Spec PyProof.Rows L2 FW
/-! ### average loops of any parts: made or refused; parts, == -/
abbrev clsL (K : PySem.W.Frag) : Value := .ref (He.ga K "BadLoop")
/-- seven parts as a loop -/
theorem wrong_ok {k a c d s t m : V} (h : wrongP k a c d s t m = .non) : ∃ l : Lp, l.Ok ∧ [k, a, c, d, s, t, m] = l.V := by
  unfold wrongP at h
  by_cases h1 : (!isInt k || !inV k [.int 2, .int 3, .int 4]) = true
  · rw [if_pos h1] at h; cases h
  rw [if_neg h1] at h
  by_cases h2 : (!isInt a || !(decide (1 ≤ iv a) && decide (iv a ≤ 5))) = true
  · rw [if_pos h2] at h; cases h
  rw [if_neg h2] at h
  by_cases h3 : (!fromI c 1 || (decide (iv a < iv c * (iv k - 1)) || decide (6 < iv a + iv c))) = true
  · rw [if_pos h3] at h; cases h
  rw [if_neg h3] at h
  by_cases h4 : (!isInt d || !(decide (-iv a ≤ iv d) && decide (iv d ≤ iv a + iv c))) = true
  · rw [if_pos h4] at h; cases h
  rw [if_neg h4] at h
  by_cases h5 : (!wordOf s stopsV) = true
  · rw [if_pos h5] at h; cases h
  rw [if_neg h5] at h
  by_cases h6 : (!wordOf t toldsV || (inV s looksV && !decide (t = .str "old"))) = true
  · rw [if_pos h6] at h; cases h
  rw [if_neg h6] at h
  by_cases h7 : wordOf m mendsV = true
  · have isI : ∀ {v : V}, isInt v = true → ∃ i, v = .int i := fun {v} q => by cases v <;> first | (cases q; done) | exact ⟨_, rfl⟩
    have isS : ∀ {v : V}, isStr v = true → ∃ i, v = .str i := fun {v} q => by cases v <;> first | (cases q; done) | exact ⟨_, rfl⟩
    simp only [Bool.or_eq_true, Bool.not_eq_true', Bool.and_eq_true, decide_eq_true_eq, decide_eq_false_iff_not, not_or, Bool.not_eq_false, fromI, wordOf, not_and, Bool.and_eq_false_iff, Classical.not_not] at h1 h2 h3 h4 h5 h6 h7
    obtain ⟨k, rfl⟩ := isI h1.1
    obtain ⟨a, rfl⟩ := isI h2.1
    obtain ⟨c, rfl⟩ := isI h3.1.1
    obtain ⟨d, rfl⟩ := isI h4.1
    obtain ⟨s, rfl⟩ := isS h5.1
    obtain ⟨t, rfl⟩ := isS h6.1.1
    obtain ⟨m, rfl⟩ := isS h7.1
    have mI : inV (.int k) [.int 2, .int 3, .int 4] = true := h1.2
    have hk : k = 2 ∨ k = 3 ∨ k = 4 := by
      have : (decide (2 = k) || (decide (3 = k) || (decide (4 = k) || false))) = true := mI
      simp at this
      omega
    have c1 : 1 ≤ c := h3.1.2
    have ca : c * (k - 1) ≤ a := by have := h3.2.1; show c * (k - 1) ≤ a; have e : iv (.int a) = a := rfl; have e2 : iv (.int c) = c := rfl; have e3 : iv (.int k) = k := rfl; rw [e, e2, e3] at this; omega
    have ac : a + c ≤ 6 := by have := h3.2.2; have e : iv (.int a) = a := rfl; have e2 : iv (.int c) = c := rfl; rw [e, e2] at this; omega
    have c3 : c ≤ 3 := by
      rcases hk with rfl | rfl | rfl <;> omega
    have hS : V.str s ∈ stopsV := by have := h5.2; rw [inV_str _ strs_stops] at this; exact of_decide_eq_true this
    have hT : V.str t ∈ toldsV := by have := h6.1.2; rw [inV_str _ strs_tolds] at this; exact of_decide_eq_true this
    have hM : V.str m ∈ mendsV := by have := h7.2; rw [inV_str _ strs_mends] at this; exact of_decide_eq_true this
    refine ⟨⟨k, a, c, d, s, t, m⟩, ⟨hk, h2.2.1, h2.2.2, c1, c3, ca, ac, h4.2.1, h4.2.2, hS, hT, fun z => ?_, hM⟩, rfl⟩
    have := h6.2
    rw [inV_str _ strs_looks] at this
    have q := this (decide_eq_true z)
    exact V.str.inj q
  · rw [if_neg h7] at h; cases h
/-- an instance's class -/
structure InsK (K : PySem.W.Frag) (C : Addr) : Prop where
  cls : PySem.W.findIn K (.ref C) "__class__" = some (some (.builtin "object.__class__"))
  get : PySem.W.specialIn K (.builtin "object.__class__") "__get__" = some (some (.builtin "getset_descriptor.__get__"))
  tk : PySem.W.takesIn K (.builtin "object.__class__") = some true
  mro : PySem.W.mroIn K C (.type "object") = some true
def insKB (K : PySem.W.Frag) (x : Str) : Bool := He.eqO (PySem.W.findIn K (.ref (He.ga K x)) "__class__") (some (some (.builtin "object.__class__"))) && (He.eqO (PySem.W.specialIn K (.builtin "object.__class__") "__get__") (some (some (.builtin "getset_descriptor.__get__"))) &&
  (decide (PySem.W.takesIn K (.builtin "object.__class__") = some true) && decide (PySem.W.mroIn K (He.ga K x) (.type "object") = some true)))
theorem insKB_ok {K : PySem.W.Frag} {x : Str} (h : insKB K x = true) : InsK K (He.ga K x) := by
  obtain ⟨h1, h2⟩ := He.ba h
  obtain ⟨h3, h4⟩ := He.ba h2
  obtain ⟨h5, h6⟩ := He.ba h4
  exact ⟨He.eqO_ok h1, He.eqO_ok h3, of_decide_eq_true h5, of_decide_eq_true h6⟩
theorem kitSelf {K : PySem.W.Frag} {C : Addr} : PySem.W.kitOne K (.ref C) (.ref C) = some true := by
  unfold PySem.W.kitOne
  rw [if_pos (beq_self_eq_true _)]
theorem e_isiO {K : PySem.W.Frag} {H : Hp} {Q : VK} {a C dx : Addr} {fs : List (Str × V)} (k : Q (.bl true) H) (h : H a = some (.ins C dx fs)) (c : Cls K C) (i : InsK K C) : rIsi K [.ref a, .ref C] H Q :=
  ⟨_, _, _, _, true, rfl, .own C, .base (.ins h c i.cls i.get i.tk i.mro), kitSelf, k⟩
def sp_Average_parts (K : PySem.W.Frag) : Sp := fun vs H Q _ => ∃ (p : Addr) (l : Lp), vs = [.ref p] ∧ IsLp K H p l ∧ ∀ t, H t = none → Q (.ref t) (upd H t (.tup l.V))
def rd_Average_parts (K : PySem.W.Frag) : TS := tRet (tTup (tCons (tFld K (tVar 0) "k") (tCons (tFld K (tVar 0) "a") (tCons (tFld K (tVar 0) "c") (tCons (tFld K (tVar 0) "d") (tCons (tFld K (tVar 0) "stop") (tCons (tFld K (tVar 0) "told") (tCons (tFld K (tVar 0) "mend") (tNil)))))))))
theorem pure_Average_parts (K : PySem.W.Frag) (A : AvK K) (vs : List V) (H : Hp) (Q : VK) (E : XK) (h : sp_Average_parts K vs H Q E) : rd_Average_parts K { nx := fun _ H' => Q .non H', rt := Q } (start ["self"] vs) H := by
  obtain ⟨p, l, rfl, hp, q⟩ := h
  unfold rd_Average_parts
  walk_at "rd"
  refine e_fL ?_ A hp A.n_k rfl
  walk_at "rd"
  refine e_fL ?_ A hp A.n_a rfl
  walk_at "rd"
  refine e_fL ?_ A hp A.n_c rfl
  walk_at "rd"
  refine e_fL ?_ A hp A.n_d rfl
  walk_at "rd"
  refine e_fL ?_ A hp A.n_stop rfl
  walk_at "rd"
  refine e_fL ?_ A hp A.n_told rfl
  walk_at "rd"
  refine e_fL ?_ A hp A.n_mend rfl
  walk_at "rd"
  exact ⟨by show 7 ≤ sizeLine; decide, fun t ht => q t ht⟩
def Lp.D (l : Lp) : PyData := .tuple [.int l.k, .int l.a, .int l.c, .int l.d, .str l.stop, .str l.told, .str l.mend]
theorem Lp.dp {K : PySem.W.Frag} {H : Hp} {t : Addr} {l : Lp} (h : SqT K H t l.V) : Dp K H (.ref t) l.D :=
  .tup h (.cons (.int _) (.cons (.int _) (.cons (.int _) (.cons (.int _) (.cons (.str _) (.cons (.str _) (.cons (.str _) .nil)))))))
theorem Lp.Ok.sh {l : Lp} (o : l.Ok) : SeqAt.shaped l.D = true := by
  obtain ⟨k, a, c, d, s, t, m⟩ := l
  have hs := o.hs; have ht := o.ht; have hm := o.hm
  simp only [stopsV, toldsV, mendsV, List.mem_cons, List.not_mem_nil, or_false, V.str.injEq] at hs ht hm
  rcases hs with rfl | rfl | rfl | rfl | rfl | rfl | rfl <;> rcases ht with rfl | rfl | rfl | rfl <;> rcases hm with rfl | rfl | rfl | rfl <;> kernel_rfl
theorem Lp.eqv {l m : Lp} : PyData.eqv l.D m.D = decide (l.V = m.V) := by
  unfold Lp.D
  simp only [PyData.eqv, PyData.eqvAll, Lp.V, List.cons.injEq, V.int.injEq, V.str.injEq, and_true]
  by_cases h1 : l.k = m.k <;> by_cases h2 : l.a = m.a <;> by_cases h3 : l.c = m.c <;> by_cases h4 : l.d = m.d <;> by_cases h5 : l.stop = m.stop <;> by_cases h6 : l.told = m.told <;> by_cases h7 : l.mend = m.mend <;> simp [h1, h2, h3, h4, h5, h6, h7]
def sp_Average_eq (K : PySem.W.Frag) : Sp := fun vs H Q _ => ∃ (p r : Addr) (l m : Lp), vs = [.ref p, .ref r] ∧ IsLp K H p l ∧ IsLp K H r m ∧ l.Ok ∧ m.Ok ∧ ∀ H', Ext H H' → Q (.bl (decide (l.V = m.V))) H'
def rd_Average_eq (K : PySem.W.Frag) : TS := tSeq (tIfS (tNot (tB (tCB (rIsi K) (tCons (tVar 1) (tCons (tC (.ref (He.ga K "Average"))) (tNil)))))) (tNever) (tNext)) (tRet (tOp (rEqD K) (tMeth (He.ga K "Average") "parts" (sp_Average_parts K) [] E0 (tVar 0) tNil) (tMeth (He.ga K "Average") "parts" (sp_Average_parts K) [] E0 (tVar 1) tNil)))
theorem pure_Average_eq (K : PySem.W.Frag) (A : AvK K) (B : InsK K (He.ga K "Average")) (vs : List V) (H : Hp) (Q : VK) (E : XK) (h : sp_Average_eq K vs H Q E) : rd_Average_eq K { nx := fun _ H' => Q .non H', rt := Q } (start ["self", "other"] vs) H := by
  obtain ⟨p, r, l, m, rfl, hp, hr, o, o', q⟩ := h
  obtain ⟨dr, hr'⟩ := id hr
  obtain ⟨dp, hp'⟩ := id hp
  unfold rd_Average_eq
  walk_at "rd"
  refine e_isiO ?_ hr' A.cls B
  walk_at "rd"
  refine ⟨p, dp, _, rfl, hp', rfl, ?_⟩
  walk_at "rd"
  refine ⟨p, l, rfl, hp, fun t1 h1 => ?_⟩
  have e1 : Ext H (upd H t1 (.tup l.V)) := Ext.new h1
  walk_at "rd"
  refine ⟨r, dr, _, rfl, e1 _ _ hr', rfl, ?_⟩
  walk_at "rd"
  refine ⟨r, m, rfl, hr.ext e1, fun t2 h2 => ?_⟩
  have e2 : Ext (upd H t1 (.tup l.V)) (upd (upd H t1 (.tup l.V)) t2 (.tup m.V)) := Ext.new h2
  refine e_eqD (d := l.D) (e := m.D) ?_ (Lp.dp (SqT.of (e2 _ _ upd_same))) (Lp.dp (SqT.of upd_same)) o.sh o'.sh
  rw [Lp.eqv]
  exact q _ (e1.tr e2)
def sp_Average_initX (K : PySem.W.Frag) : Sp := fun vs H Q E => ∃ (x dx : Addr) (k a c d s t m : V), vs = [.ref x, k, a, c, d, s, t, m] ∧ (∀ v ∈ [k, a, c, d, s, t, m], ∃ n, WT K H v n) ∧ (iv c).natAbs < 2 ^ 900 ∧ H x = some (.ins (He.ga K "Average") dx []) ∧
  (∀ l : Lp, l.Ok → [k, a, c, d, s, t, m] = l.V → ∀ H', ExtB x H H' → H' x = some (.ins (He.ga K "Average") dx l.F) → Q .non H') ∧
  (wrongP k a c d s t m ≠ .non → ∀ H' e, Ext H H' → H' e = none → E (clsL K) (some e) (upd H' e (.xd [("word", wrongP k a c d s t m)])))
def rd_Average_initX (K : PySem.W.Frag) (E : XK) : TS := tSeq (tAsg (tCall (sp_wrong_part K) [] E0 (tCons (tVar 1) (tCons (tVar 2) (tCons (tVar 3) (tCons (tVar 4) (tCons (tVar 5) (tCons (tVar 6) (tCons (tVar 7) (tNil))))))))) (gName 8)) (tSeq (tIfS (tTest (tOp FW.rNotN (tVar 8) (tC .non))) (FW.tRaiseE (He.ga K "BadLoop") "word" (fun cls d _ H => E cls d H) (tCons (tVar 8) (tNil))) (tNext)) (tSeq (sFld K (tVar 0) (tVar 1) "k") (tSeq (sFld K (tVar 0) (tVar 2) "a") (tSeq (sFld K (tVar 0) (tVar 3) "c") (tSeq (sFld K (tVar 0) (tVar 4) "d") (tSeq (sFld K (tVar 0) (tVar 5) "stop") (tSeq (sFld K (tVar 0) (tVar 6) "told") (sFld K (tVar 0) (tVar 7) "mend"))))))))
theorem pure_Average_initX (K : PySem.W.Frag) (A : AvK K) (vs : List V) (H : Hp) (Q : VK) (E : XK) (h : sp_Average_initX K vs H Q E) : rd_Average_initX K E { nx := fun _ H' => Q .non H', rt := Q } (start ["self", "k", "a", "c", "d", "stop", "told", "mend", "wrong"] vs) H := by
  obtain ⟨x, dx, k, a, c, d, s, t, m, rfl, hw, hc, hx, q, qE⟩ := h
  unfold rd_Average_initX
  walk_at "rd"
  refine ⟨_, _, _, _, _, _, _, rfl, hw, hc, fun H1 e1 => ?_⟩
  by_cases hn : wrongP k a c d s t m = .non
  · obtain ⟨l, o, el⟩ := wrong_ok hn
    obtain ⟨k', a', c', d', s', t', m'⟩ := l
    have el' : [k, a, c, d, s, t, m] = [V.int k', V.int a', V.int c', V.int d', V.str s', V.str t', V.str m'] := el
    injection el' with z1 el'; injection el' with z2 el'; injection el' with z3 el'; injection el' with z4 el'; injection el' with z5 el'; injection el' with z6 el'; injection el' with z7 el'
    subst z1 z2 z3 z4 z5 z6 z7
    rw [hn]
    walk_at "rd"
    refine e_iteN (fun h => absurd rfl h) (fun _ => ?_)
    walk_at "rd"
    refine e_sF ?_ (e1 _ _ hx) A.cls A.n_k (by decide)
    walk_at "rd"
    refine e_sF ?_ upd_same A.cls A.n_a (by show 1 < 1000; decide)
    walk_at "rd"
    refine e_sF ?_ upd_same A.cls A.n_c (by show 2 < 1000; decide)
    walk_at "rd"
    refine e_sF ?_ upd_same A.cls A.n_d (by show 3 < 1000; decide)
    walk_at "rd"
    refine e_sF ?_ upd_same A.cls A.n_stop (by show 4 < 1000; decide)
    walk_at "rd"
    refine e_sF ?_ upd_same A.cls A.n_told (by show 5 < 1000; decide)
    walk_at "rd"
    refine e_sF ?_ upd_same A.cls A.n_mend (by show 6 < 1000; decide)
    refine q _ o el _ ?_ upd_same
    intro a o' ne h
    rw [upd_ne ne, upd_ne ne, upd_ne ne, upd_ne ne, upd_ne ne, upd_ne ne, upd_ne ne]
    exact e1 _ _ h
  · walk_at "rd"
    refine e_iteN (fun _ => ?_) (fun h => absurd h hn)
    unfold tRaiseE tMkE
    walk_at "rd"
    exact ⟨_, rfl, fun e he => qE hn H1 e e1 he⟩
theorem make_av {K : PySem.W.Frag} {H : Hp} {Q : VK} {E : XK} {k a c d s t m : V} (hw : ∀ v ∈ [k, a, c, d, s, t, m], ∃ n, WT K H v n) (hc : (iv c).natAbs < 2 ^ 900)
    (q : ∀ l : Lp, l.Ok → [k, a, c, d, s, t, m] = l.V → ∀ x H', H x = none → Ext H H' → IsLp K H' x l → Q (.ref x) H')
    (qE : wrongP k a c d s t m ≠ .non → ∀ H' e, Ext H H' → H' e = none → E (clsL K) (some e) (upd H' e (.xd [("word", wrongP k a c d s t m)]))) (x dx : Addr) (hx : H x = none) (hdx : H dx = none) (hne : dx ≠ x) :
    sp_Average_initX K (.ref x :: ([k, a, c, d, s, t, m] ++ [])) (upd (upd H dx (.own x)) x (.ins (He.ga K "Average") dx [])) (fun v H2 => v = .non ∧ Q (.ref x) H2) E := by
  have e3 : Ext H (upd (upd H dx (.own x)) x (.ins (He.ga K "Average") dx [])) := (Ext.new hdx).tr (Ext.new (by rw [upd_ne hne.symm]; exact hx))
  refine ⟨x, dx, k, a, c, d, s, t, m, rfl, fun v hv => ?_, hc, upd_same, fun l o el H4 e4 h4 => ⟨rfl, q l o el x H4 hx (fun b ob z => e4 _ _ (ne_of_none z hx) (e3 _ _ z)) ⟨dx, h4⟩⟩, fun hn H' e e' he => qE hn H' e (e3.tr e') he⟩
  obtain ⟨n, z⟩ := hw v hv
  exact ⟨n, z.ext e3⟩
end FWL
namespace FWL
open PySem PySem.Spec PyProof.Rows L2 FW
/-! ### what a round asks -/
def Lp.near (l : Lp) : Int := if l.stop = "near1" then 1 else if l.stop = "near2" then 2 else 0
def Lp.looks (l : Lp) (n x : Int) : Bool := if l.stop = "under" then decide (x ^ l.k.toNat ≤ n) else decide (l.stop = "held") && (decide (x ^ l.k.toNat ≤ n) && decide (n < (x + 1) ^ l.k.toNat))
def absI (i : Int) : Int := if i < 0 then -i else i
def Lp.ends (l : Lp) (x y : Int) (b : Option Int) : Bool := if l.stop = "notless" then decide (x ≤ y) else if l.stop = "near1" ∨ l.stop = "near2" then decide (absI (x - y) ≤ l.near) else
  decide (l.stop = "equal" ∨ l.stop = "back") && (decide (y = x) || (decide (l.stop = "back") && decide (some y = b)))
def Lp.chosen (l : Lp) (x y : Int) : Int := if l.told = "old" then x else if l.told = "new" then y else if l.told = "less" then min x y else max x y
def Lp.mended (l : Lp) (n t : Int) : Int := if (l.mend = "down" ∨ l.mend = "both") ∧ n < t ^ l.k.toNat then t - 1 else if (l.mend = "up" ∨ l.mend = "both") ∧ (t + 1) ^ l.k.toNat ≤ n then t + 1 else t
theorem e_get {td ty : TE} {σ : L2.St} {H : Hp} {Q : VK} (k : td σ H fun x H1 => ty σ H1 fun y H2 => ∃ a v, x = .ref a ∧ DGet H2 a y (some v) ∧ Q v H2) : tDGet td ty σ H Q := k
theorem decI (a b : Int) : decide (V.int a = V.int b) = decide (a = b) := decide_eq_decide.mpr ⟨fun z => by injection z, fun z => by rw [z]⟩
end FWL
namespace FWL
open PySem PySem.Spec PyProof.Rows L2 FW
/-! ### runs -/
structure Res where
  gs : List Int
  fin : Str
  told : Option Int
  ring : List Int
def prv (l : Lp) (n x : Int) : Nat → Option Int
  | 0 => none
  | j + 1 => some (itr l n x j)
def keyA (l : Lp) (n x : Int) (j : Nat) : List NK := [if l.stop = "back" then prv l n x j else none, some (itr l n x j)]
def gsA (l : Lp) (n x : Int) (i : Nat) : List Int := (List.range i).map (itr l n x)
/-- an earlier round with the key of round i -/
def seenA (l : Lp) (n x : Int) (i : Nat) : Option Nat := (List.range i).find? fun j => decide (keyA l n x j = keyA l n x i)
def crs (l : Lp) (n x : Int) (i : Nat) : Option Res :=
  match seenA l n x i with
  | some j => some ⟨gsA l n x i, "swings", none, (gsA l n x i).drop j⟩
  | none =>
    if l.looks n (itr l n x i) = true then some ⟨gsA l n x (i + 1), "told", some (l.mended n (itr l n x i)), []⟩
    else if itr l n x i = 0 then some ⟨gsA l n x (i + 1), "nought", none, []⟩
    else if l.ends (itr l n x i) (itr l n x (i + 1)) (prv l n x i) = true then some ⟨gsA l n x (i + 1), "told", some (l.mended n (l.chosen (itr l n x i) (itr l n x (i + 1)))), []⟩
    else none
def Crs (l : Lp) (n x : Int) (r : Res) : Prop := ∃ i, (∀ j, j < i → crs l n x j = none) ∧ crs l n x i = some r
theorem Crs.uniq {l : Lp} {n x : Int} {r s : Res} (h : Crs l n x r) (h' : Crs l n x s) : r = s := by
  obtain ⟨i, hi, e⟩ := h
  obtain ⟨j, hj, e'⟩ := h'
  rcases Nat.lt_trichotomy i j with z | z | z
  · rw [hj i z] at e; cases e
  · subst z; rw [e] at e'; cases e'; rfl
  · rw [hi j z] at e'; cases e'
/-! ### the dict of places -/
theorem valN_range (f : Nat → List NK) (k : List NK) : ∀ (i : Nat) (kvs : List KvN), kvs.map (fun e => (e.1, e.2.2)) = (List.range i).map (fun j => (f j, V.int (j : Int))) → valN kvs k = ((List.range i).find? fun j => decide (f j = k)).map fun (j : Nat) => V.int (j : Int) := by
  intro i kvs h
  have h1 : valN kvs k = ((kvs.map (fun e => (e.1, e.2.2))).find? fun e => decide (e.1 = k)).map (·.2) := by
    unfold valN
    rw [List.find?_map, Option.map_map]
    rfl
  rw [h1, h, List.find?_map, Option.map_map]
  rfl
/-! ### the class Run -/
def IsRn (K : PySem.W.Frag) (H : Hp) (x : Addr) (r : Res) : Prop := ∃ (dx g q : Addr), H x = some (.ins (He.ga K "Run") dx [("guesses", .ref g), ("end", .str r.fin), ("told", nkV r.told), ("ring", .ref q)]) ∧ H g = some (.tup (r.gs.map V.int)) ∧ H q = some (.tup (r.ring.map V.int))
theorem IsRn.ext {K : PySem.W.Frag} {H H' : Hp} {x : Addr} {r : Res} (e : Ext H H') : IsRn K H x r → IsRn K H' x r
  | ⟨dx, g, q, h1, h2, h3⟩ => ⟨dx, g, q, e _ _ h1, e _ _ h2, e _ _ h3⟩
theorem _root_.FW.IsDN.ext {H H' : Hp} {a : Addr} {kvs : List KvN} (e : Ext H H') (h : IsDN H a kvs) : IsDN H' a kvs := ⟨e _ _ h.at', fun x hx => e _ _ (h.keys x hx), h.size⟩
theorem at_new {H H' : Hp} {g : Addr} {o : HO} (e : Ext H H') (hg : H g = none) : Ext H (upd H' g o) := fun b ob q => by
  rw [upd_ne (ne_of_none q hg)]
  exact e _ _ q
theorem cut_from (xs : List V) (j : Nat) (h : j ≤ xs.length) : cutV xs (some (j : Int)) none = xs.drop j := by
  unfold cutV
  rw [HT.sIx_nat, HT.sIx_none, Nat.min_eq_left h, List.take_of_length_le (by rw [List.length_drop]; omega)]
theorem _root_.FW.IsDN.put {H : Hp} {a b : Addr} {kvs : List KvN} {k : List NK} {v : V} (h : IsDN H a kvs) (hb : H b = some (.tup (k.map nkV))) (hl : kvs.length < sizeLine) : IsDN (upd H a (dN a (kvs ++ [(k, b, v)]))) a (kvs ++ [(k, b, v)]) := by
  have ne : ∀ c ys, H c = some (.tup ys) → c ≠ a := fun c ys hc => ne_of hc h.at' (fun z => nomatch z)
  refine ⟨upd_same, fun x hx => ?_, by rw [List.length_append, List.length_singleton]; omega⟩
  rcases List.mem_append.mp hx with hx | hx
  · rw [upd_ne (ne _ _ (h.keys x hx))]; exact h.keys x hx
  · rw [List.mem_singleton.mp hx]
    show (upd H a _) b = _
    rw [upd_ne (ne _ _ hb)]; exact hb
theorem _root_.FW.IsDN.upd {H : Hp} {a g : Addr} {kvs : List KvN} {xs : List V} {o : HO} (h : IsDN H a kvs) (hg : H g = some (.lst xs)) : IsDN (upd H g o) a kvs :=
  ⟨by rw [upd_ne (ne_of h.at' hg (fun z => nomatch z))]; exact h.at', fun x hx => by rw [upd_ne (ne_of (h.keys x hx) hg (fun z => nomatch z))]; exact h.keys x hx, h.size⟩
/-- the dict of places behind i rounds -/
def Plc (l : Lp) (n x : Int) (i : Nat) (kvs : List KvN) : Prop := kvs.map (fun e => (e.1, e.2.2)) = (List.range i).map (fun j => (keyA l n x j, V.int (j : Int)))
theorem Plc.val {l : Lp} {n x : Int} {i : Nat} {kvs : List KvN} (h : Plc l n x i kvs) : valN kvs (keyA l n x i) = (seenA l n x i).map fun (j : Nat) => V.int (j : Int) := valN_range _ _ i kvs h
theorem Plc.len {l : Lp} {n x : Int} {i : Nat} {kvs : List KvN} (h : Plc l n x i kvs) : kvs.length = i := by
  have := congrArg List.length h
  rw [List.length_map, List.length_map, List.length_range] at this
  exact this
theorem Plc.snoc {l : Lp} {n x : Int} {i : Nat} {kvs : List KvN} {t : Addr} (h : Plc l n x i kvs) : Plc l n x (i + 1) (kvs ++ [(keyA l n x i, t, .int (i : Int))]) := by
  unfold Plc at *
  rw [List.range_succ, List.map_append, List.map_append, h]
  rfl
end FWL
namespace FWL
open PySem PySem.Spec PyProof.Rows L2 FW
/-! ### the classes Halves and HalvesRun -/
structure HvK (K : PySem.W.Frag) : Prop where
  cls : Cls K (He.ga K "Halves")
  n_up : NoAttr K (He.ga K "Halves") "up"
  n_test : NoAttr K (He.ga K "Halves") "test"
  n_low : NoAttr K (He.ga K "Halves") "low"
  n_high : NoAttr K (He.ga K "Halves") "high"
  n_stop : NoAttr K (He.ga K "Halves") "stop"
  n_told : NoAttr K (He.ga K "Halves") "told"
  n_plus : NoAttr K (He.ga K "Halves") "plus"
  tests : ∀ H, SqT K H (He.ga K "TESTS") [.str "upto", .str "below"]
  stops : ∀ H, SqT K H (He.ga K "STOPS_halves") [.str "less", .str "most", .str "wide"]
def Hv.F (h : Hv) : List (Str × L2.V) := [("up", .int h.up), ("test", .str h.test), ("low", .int h.low), ("high", .int h.high), ("stop", .str h.stop), ("told", .str h.told), ("plus", .int h.plus)]
def IsHv (K : PySem.W.Frag) (H : Hp) (x : Addr) (h : Hv) : Prop := ∃ dx, H x = some (.ins (He.ga K "Halves") dx h.F)
theorem IsHv.ext {K : PySem.W.Frag} {H H' : Hp} {x : Addr} {h : Hv} (e : Ext H H') : IsHv K H x h → IsHv K H' x h
  | ⟨dx, a⟩ => ⟨dx, e _ _ a⟩
def IsHr (K : PySem.W.Frag) (H : Hp) (x : Addr) (r : HRes) : Prop := ∃ (dx g : Addr), H x = some (.ins (He.ga K "HalvesRun") dx [("mids", .ref g), ("end", .str r.fin), ("told", nkV r.told)]) ∧ H g = some (.tup (r.mids.map V.int))
theorem IsHr.ext {K : PySem.W.Frag} {H H' : Hp} {x : Addr} {r : HRes} (e : Ext H H') : IsHr K H x r → IsHr K H' x r
  | ⟨dx, g, a, b⟩ => ⟨dx, g, e _ _ a, e _ _ b⟩
/-! ### the walk -/
def hkey (h : Hv) (upw : Int → Bool) (p : Int × Int) (i : Nat) : List NK := [some (hst h upw p i).1, some (hst h upw p i).2]
def HPl (h : Hv) (upw : Int → Bool) (p : Int × Int) (i : Nat) (kvs : List KvN) : Prop := kvs.map (·.1) = (List.range i).map (hkey h upw p)
theorem valN_any (kvs : List KvN) (k : List NK) : (valN kvs k).isSome = (kvs.map (·.1)).any fun x => decide (x = k) := by
  unfold valN
  rw [Option.isSome_map, List.any_map]
  induction kvs with
  | nil => rfl
  | cons a t ih =>
    rw [List.find?_cons, List.any_cons]
    by_cases z : a.1 = k
    · simp [z]
    · simp only [z, decide_false, Function.comp, Bool.false_or]
      exact ih
theorem HPl.val {h : Hv} {upw : Int → Bool} {p : Int × Int} {i : Nat} {kvs : List KvN} (a : HPl h upw p i kvs) : (valN kvs (hkey h upw p i)).isSome = hseen h upw p i := by
  rw [valN_any, a, List.any_map]
  unfold hseen
  congr 1
  funext j
  refine decide_eq_decide.mpr ⟨fun z => ?_, fun z => ?_⟩
  · have z' : hkey h upw p j = hkey h upw p i := z
    unfold hkey at z'
    have z1 := List.cons.inj z'
    exact Prod.ext (Option.some.inj z1.1) (Option.some.inj (List.cons.inj z1.2).1)
  · show hkey h upw p j = hkey h upw p i
    unfold hkey; rw [z]
theorem HPl.len {h : Hv} {upw : Int → Bool} {p : Int × Int} {i : Nat} {kvs : List KvN} (a : HPl h upw p i kvs) : kvs.length = i := by
  have := congrArg List.length a
  rw [List.length_map, List.length_map, List.length_range] at this
  exact this
theorem HPl.snoc {h : Hv} {upw : Int → Bool} {p : Int × Int} {i : Nat} {kvs : List KvN} {t : Addr} {v : V} (a : HPl h upw p i kvs) : HPl h upw p (i + 1) (kvs ++ [(hkey h upw p i, t, v)]) := by
  unfold HPl at *
  rw [List.range_succ, List.map_append, List.map_append, a]
  rfl
end FWL
namespace FWL
open PySem PySem.Spec PyProof.Rows L2 FW
/-! ### Halves made, run -/
/-! ### which side -/
theorem So.lt {s : So} (o : s.Ok) {x y : Int} (h0 : 0 ≤ x) (h : x < y) : s.me x < s.me y := by
  have b1 := o.b1
  rcases o.hk with k | k | k
  · rw [So.me_root k, So.me_root k]
    obtain ⟨m, hm⟩ : ∃ m, s.by_.toNat = m + 1 := ⟨s.by_.toNat - 1, by omega⟩
    rw [hm, Int.pow_succ, Int.pow_succ]
    have h1 : x ^ m ≤ y ^ m := pow_mono h0 (by omega) _
    have h2 : 1 ≤ y ^ m := pow_pos' (by omega) _
    have h3 : x ^ m * x ≤ y ^ m * x := Int.mul_le_mul_of_nonneg_right h1 h0
    have h4 : y ^ m * x < y ^ m * y := Int.mul_lt_mul_of_pos_left h (by omega)
    omega
  · rw [So.me_share k, So.me_share k]; exact Int.mul_lt_mul_of_pos_left h (by omega)
  · have b2 := o.bl k
    rw [So.me_log k, So.me_log k]
    have h1 : s.by_ ^ (x.toNat + 1) ≤ s.by_ ^ y.toNat := pow_le_right b1 (by omega)
    have h2 : 1 ≤ s.by_ ^ x.toNat := pow_pos' b1 _
    rw [Int.pow_succ] at h1
    have h3 : s.by_ ^ x.toNat * 2 ≤ s.by_ ^ x.toNat * s.by_ := Int.mul_le_mul_of_nonneg_left b2 (by omega)
    omega
end FWL
namespace FWL
open PySem PySem.Spec PyProof.Rows L2 FW
/-! ### _law_class and _law_refused -/
def clsNames : List Str := ["BadNumber", "BadPower", "BadLoop", "BadStart", "BadGuesses", "BadBeginning", "BadSought", "BadBracket", "BadKind", "BadText", "NoGuess"]
def clsWords : List Str := ["number", "power", "loop", "start", "guesses", "beginning", "sought", "bracket", "kind", "text", "nought"]
structure HotK (K : PySem.W.Frag) (x : Str) : Prop where
  xc : ExcC K (He.ga K x)
  fl : PySem.W.exmOne K (.ref (He.ga K x)) (.ref (He.ga K "FloorError")) = some true
  kit : ∀ y ∈ clsNames, PySem.W.kitOne K (.ref (He.ga K x)) (.ref (He.ga K y)) = some (decide (x = y))
def picked : List Str → List Bool → List Str
  | w :: ws, b :: bs => if b then w :: picked ws bs else picked ws bs
  | _, _ => []
def errWord (x : Str) : Str := Txt.join " " (picked clsWords (clsNames.map fun y => decide (x = y)))
theorem picked_snoc : ∀ (ws : List Str) (bs : List Bool) (w : Str) (b : Bool), ws.length = bs.length → picked (ws ++ [w]) (bs ++ [b]) = picked ws bs ++ (if b then [w] else [])
  | [], [], w, b, _ => by cases b <;> rfl
  | v :: ws, c :: bs, w, b, h => by
    have ih := picked_snoc ws bs w b (by simpa using h)
    rw [List.cons_append, List.cons_append, picked, picked, ih]
    cases c <;> simp
theorem picked_len : ∀ (ws : List Str) (bs : List Bool), (picked ws bs).length ≤ ws.length
  | [], bs => by cases bs <;> simp [picked]
  | w :: ws, [] => by simp [picked]
  | w :: ws, b :: bs => by
    have ih := picked_len ws bs
    cases b
    · simp [picked]; omega
    · simp [picked]; omega
theorem picked_sum : ∀ (ws : List Str) (bs : List Bool), ((picked ws bs).map (·.length)).sum ≤ (ws.map (·.length)).sum
  | [], bs => by cases bs <;> simp [picked]
  | w :: ws, [] => by simp [picked]
  | w :: ws, b :: bs => by
    have ih := picked_sum ws bs
    cases b
    · simp [picked]; omega
    · simp [picked]; omega
section
variable {K : PySem.W.Frag} {H : Hp} {Q : VK} {x : Str} {a : Addr} {d : Option Addr}
theorem e_m1 {r : V → List V → Hp → VK → Prop} {to te : TE} {σ : L2.St} (k : to σ H fun x H1 => (∃ a, x = .str a) ∧ te σ H1 fun y H2 => r x [y] H2 Q) : tM1 r to te σ H Q := k
theorem e_isX {y : Str} (hk : HotK K x) (hd : DX d H) (hy : y ∈ clsNames) (q : Q (.bl (decide (x = y))) H) : FW.rIsX K a (.ref (He.ga K x)) d [.ref a, .ref (He.ga K y)] H Q :=
  ⟨_, _, _, _, rfl, hk.xc, hd, rfl, .own _, hk.kit y hy, q⟩
theorem lc_zipW {b : Addr} {ws : List Str} {bs : List Bool} {v0 v1 v2 v3 v4 : Option V} (ha : H a = some (.lst (ws.map V.str))) (hb : H b = some (.lst (bs.map V.bl))) (hl : ws.length = bs.length) (hz : ws.length ≤ 1000)
    (q : ∀ D H', Ext H H' → H' D = some (.lst ((picked ws bs).map V.str)) → Q (.ref D) H') : LcK (gTup K 2 (gCons (gName 3) (gCons (gName 4) gNil))) (L2.tB (tVar 4)) (tVar 3) [3, 4] [v0, v1, v2, v3, v4] Q (Itz K a b) H := by
  intro D hD
  refine ⟨fun i m H' => m = ws.length - i ∧ i ≤ ws.length ∧ Ext H H' ∧ H' D = some (.lst ((picked (ws.take i) (bs.take i)).map V.str)), ⟨_, rfl, Nat.zero_le _, Ext.new hD, upd_same⟩, ?_⟩
  rintro i m H' ⟨rfl, hi, ex, eD⟩
  have sx : SqL K H' a (ws.map V.str) := .inl (.inl (ex _ _ ha))
  have sy : SqL K H' b (bs.map V.bl) := .inl (.inl (ex _ _ hb))
  by_cases lt : i < ws.length
  · have lt2 : i < bs.length := by omega
    refine .inr ⟨⟨_, _, .str ws[i], .bl bs[i], sx, sy, by simp [lt], by simp [lt2]⟩, fun H2 => Ext H H2 ∧ H2 D = some (.lst ((picked (ws.take (i + 1)) (bs.take (i + 1))).map V.str)), fun H2 h2 => ⟨ws.length - (i + 1), by omega, rfl, lt, h2.1, h2.2⟩, ?_⟩
    rintro v H2 ⟨T, y, z, rfl, hT, rfl, f1, f2⟩
    have e1 := f1 _ sx
    have e2 := f2 _ sy
    rw [List.getElem?_map, List.getElem?_eq_getElem lt] at e1
    rw [List.getElem?_map, List.getElem?_eq_getElem lt2] at e2
    cases e1
    cases e2
    have nD : D ≠ T := fun z => by rw [z, hT] at eD; cases eD
    have ex2 : Ext H (upd H' T (.tup [.str ws[i], .bl bs[i]])) := ex.tr (Ext.new hT)
    have eT : ws.take (i + 1) = ws.take i ++ [ws[i]] := by rw [List.take_add_one, List.getElem?_eq_getElem lt]; rfl
    have eB : bs.take (i + 1) = bs.take i ++ [bs[i]] := by rw [List.take_add_one, List.getElem?_eq_getElem lt2]; rfl
    have eP := picked_snoc (ws.take i) (bs.take i) ws[i] bs[i] (by rw [List.length_take, List.length_take]; omega)
    have pl := picked_len (ws.take i) (bs.take i)
    rw [List.length_take] at pl
    refine ⟨T, _, rfl, .inl (.inl upd_same), rfl, ?_⟩
    walk_at "rd"
    refine ⟨rfl, ?_⟩
    walk_at "rd"
    cases hbi : bs[i] with
    | true =>
      refine e_T ?_
      walk_at "rd"
      rw [hbi] at ex2
      refine ⟨_, by rw [upd_ne nD]; exact eD, ?_, Ext.upds ex2 hD, ?_⟩
      · rw [List.length_map]
        show _ < 2 ^ 24
        omega
      · rw [upd_same, eT, eB, eP, hbi, if_pos rfl, List.map_append]; rfl
    | false =>
      refine e_F ?_
      refine ⟨by rw [hbi] at ex2; exact ex2, ?_⟩
      rw [upd_ne nD, eT, eB, eP, hbi, if_neg (by decide), List.append_nil]
      exact eD
  · have ei : i = ws.length := by omega
    subst ei
    refine .inl ⟨⟨_, _, sx, sy, .inl (by rw [List.length_map]; exact Nat.le_refl _)⟩, q D H' ex ?_⟩
    rw [List.take_of_length_le (Nat.le_refl _), List.take_of_length_le (by omega)] at eD
    exact eD
end
def rd_l_class (K : PySem.W.Frag) (a : Addr) (cls : Value) (d : Option Addr) : TS := tSeq (tAsg (tLst (tCons (tCB (FW.rIsX K a cls d) (tCons (tVar 0) (tCons (tC (.ref (He.ga K "BadNumber"))) (tNil)))) (tCons (tCB (FW.rIsX K a cls d) (tCons (tVar 0) (tCons (tC (.ref (He.ga K "BadPower"))) (tNil)))) (tCons (tCB (FW.rIsX K a cls d) (tCons (tVar 0) (tCons (tC (.ref (He.ga K "BadLoop"))) (tNil)))) (tNil))))) (gName 1)) (tSeq (tAsg (tOp rCat (tVar 1) (tLst (tCons (tCB (FW.rIsX K a cls d) (tCons (tVar 0) (tCons (tC (.ref (He.ga K "BadStart"))) (tNil)))) (tCons (tCB (FW.rIsX K a cls d) (tCons (tVar 0) (tCons (tC (.ref (He.ga K "BadGuesses"))) (tNil)))) (tCons (tCB (FW.rIsX K a cls d) (tCons (tVar 0) (tCons (tC (.ref (He.ga K "BadBeginning"))) (tNil)))) (tNil)))))) (gName 1)) (tSeq (tAsg (tOp rCat (tVar 1) (tLst (tCons (tCB (FW.rIsX K a cls d) (tCons (tVar 0) (tCons (tC (.ref (He.ga K "BadSought"))) (tNil)))) (tCons (tCB (FW.rIsX K a cls d) (tCons (tVar 0) (tCons (tC (.ref (He.ga K "BadBracket"))) (tNil)))) (tCons (tCB (FW.rIsX K a cls d) (tCons (tVar 0) (tCons (tC (.ref (He.ga K "BadKind"))) (tNil)))) (tNil)))))) (gName 1)) (tSeq (tAsg (tOp rCat (tVar 1) (tLst (tCons (tCB (FW.rIsX K a cls d) (tCons (tVar 0) (tCons (tC (.ref (He.ga K "BadText"))) (tNil)))) (tCons (tCB (FW.rIsX K a cls d) (tCons (tVar 0) (tCons (tC (.ref (He.ga K "NoGuess"))) (tNil)))) (tNil))))) (gName 1)) (tSeq (tAsg (tLst (tCons (tC (.str "number")) (tCons (tC (.str "power")) (tCons (tC (.str "loop")) (tCons (tC (.str "start")) (tCons (tC (.str "guesses")) (tCons (tC (.str "beginning")) (tNil)))))))) (gName 2)) (tSeq (tAsg (tOp rCat (tVar 2) (tLst (tCons (tC (.str "sought")) (tCons (tC (.str "bracket")) (tCons (tC (.str "kind")) (tCons (tC (.str "text")) (tCons (tC (.str "nought")) (tNil)))))))) (gName 2)) (tRet (tM1 (FW.rJoin K) (tC (.str " ")) (tLc (iZip K (tCons (tVar 2) (tCons (tVar 1) (tNil)))) (gTup K 2 (gCons (gName 3) (gCons (gName 4) (gNil)))) (tB (tVar 4)) (tVar 3) [3, 4]))))))))
theorem pure_l_class (K : PySem.W.Frag) (x : Str) (hk : HotK K x) (a : Addr) (d : Option Addr) (H : Hp) (Q : VK) (hd : DX d H) (q : ∀ H', Ext H H' → Q (.str (errWord x)) H') :
    rd_l_class K a (.ref (He.ga K x)) d { nx := fun _ H' => Q .non H', rt := Q } (start ["_law_e", "_law_some", "_law_names", "_law_name", "_law_is_it"] [.ref a]) H := by
  unfold rd_l_class
  walk_at "rd"
  refine e_isX hk hd (by decide) ?_
  walk_at "rd"
  refine e_isX hk hd (by decide) ?_
  walk_at "rd"
  refine e_isX hk hd (by decide) ?_
  walk_at "rd"
  refine ⟨by show 3 ≤ sizeLine; decide, fun p1 h1 => ?_⟩
  walk_at "rd"
  refine e_isX hk (hd.ext (Ext.new h1)) (by decide) ?_
  walk_at "rd"
  refine e_isX hk (hd.ext (Ext.new h1)) (by decide) ?_
  walk_at "rd"
  refine e_isX hk (hd.ext (Ext.new h1)) (by decide) ?_
  walk_at "rd"
  refine ⟨by show 3 ≤ sizeLine; decide, fun p2 h2 => ?_⟩
  refine e_cat (fun p3 h3 => ?_) (by rw [upd_ne (ne_of_none upd_same h2)]; exact upd_same) upd_same (by show 6 ≤ sizeLine; decide)
  walk_at "rd"
  refine e_isX hk (((hd.ext (Ext.new h1)).ext (Ext.new h2)).ext (Ext.new h3)) (by decide) ?_
  walk_at "rd"
  refine e_isX hk (((hd.ext (Ext.new h1)).ext (Ext.new h2)).ext (Ext.new h3)) (by decide) ?_
  walk_at "rd"
  refine e_isX hk (((hd.ext (Ext.new h1)).ext (Ext.new h2)).ext (Ext.new h3)) (by decide) ?_
  walk_at "rd"
  refine ⟨by show 3 ≤ sizeLine; decide, fun p4 h4 => ?_⟩
  refine e_cat (fun p5 h5 => ?_) (by rw [upd_ne (ne_of_none upd_same h4)]; exact upd_same) upd_same (by show 9 ≤ sizeLine; decide)
  walk_at "rd"
  refine e_isX hk (((((hd.ext (Ext.new h1)).ext (Ext.new h2)).ext (Ext.new h3)).ext (Ext.new h4)).ext (Ext.new h5)) (by decide) ?_
  walk_at "rd"
  refine e_isX hk (((((hd.ext (Ext.new h1)).ext (Ext.new h2)).ext (Ext.new h3)).ext (Ext.new h4)).ext (Ext.new h5)) (by decide) ?_
  walk_at "rd"
  refine ⟨by show 2 ≤ sizeLine; decide, fun p6 h6 => ?_⟩
  refine e_cat (fun p7 h7 => ?_) (by rw [upd_ne (ne_of_none upd_same h6)]; exact upd_same) upd_same (by show 11 ≤ sizeLine; decide)
  walk_at "rd"
  refine ⟨by show 6 ≤ sizeLine; decide, fun p8 h8 => ?_⟩
  walk_at "rd"
  refine ⟨by show 5 ≤ sizeLine; decide, fun p9 h9 => ?_⟩
  refine e_cat (fun pA hA => ?_) (by rw [upd_ne (ne_of_none upd_same h9)]; exact upd_same) upd_same (by show 11 ≤ sizeLine; decide)
  walk_at "rd"
  refine e_m1 ?_
  walk_at "rd"
  refine ⟨⟨_, rfl⟩, ?_⟩
  walk_at "rd"
  refine i_zip ?_
  walk_at "rd"
  refine ⟨pA, p7, clsWords.map V.str, (clsNames.map fun y => decide (x = y)).map V.bl, rfl, .inl (.inl upd_same), .inl (.inl ((((Ext.new h8).tr (Ext.new h9)).tr (Ext.new hA)) _ _ upd_same)), ?_⟩
  refine lc_zipW (ws := clsWords) (bs := clsNames.map fun y => decide (x = y)) upd_same ((((Ext.new h8).tr (Ext.new h9)).tr (Ext.new hA)) _ _ upd_same) rfl (by decide) fun D H' ex eD => ?_
  refine ⟨" ", D, _, rfl, rfl, .inl (.inl (.inl eD)), ?_, q H' (((((((((((Ext.new h1).tr (Ext.new h2)).tr (Ext.new h3)).tr (Ext.new h4)).tr (Ext.new h5)).tr (Ext.new h6)).tr (Ext.new h7)).tr (Ext.new h8)).tr (Ext.new h9)).tr (Ext.new hA)).tr ex)⟩
  have b1 := picked_sum clsWords (clsNames.map fun y => decide (x = y))
  have b2 := picked_len clsWords (clsNames.map fun y => decide (x = y))
  have c1 : (clsWords.map (·.length)).sum ≤ 100 := by decide
  have c2 : clsWords.length = 11 := rfl
  have c3 : (" " : Str).length = 1 := rfl
  rw [c3]
  omega
/-! ### _law_refused -/
def valC : List Str := ["BadNumber", "BadPower", "BadStart", "BadKind"]
def wrdC : List Str := ["BadLoop", "BadSought", "BadBeginning"]
def nonC : List Str := ["BadGuesses", "BadBracket", "BadText", "NoGuess"]
theorem dis1 : ∀ x ∈ valC, x ∉ wrdC := by decide
theorem dis2 : ∀ x ∈ nonC, x ∉ wrdC := by decide
theorem dis3 : ∀ x ∈ nonC, x ∉ valC := by decide
/-- what is wished of an error that comes to _law_refused -/
def RefX (K : PySem.W.Frag) (Q : VK) (cls : Value) (d : Option Addr) (H : Hp) : Prop := ∃ x : Str, cls = .ref (He.ga K x) ∧ HotK K x ∧
  ((x ∈ valC ∧ ∃ (dd : Addr) (v : V), ErrG K (He.ga K x) "value" ∧ d = some dd ∧ H dd = some (.xd [("value", v)]) ∧ ∀ t H', Ext H H' → H' t = some (.tup [.str (errWord x), v]) → Q (.ref t) H') ∨
   (x ∈ wrdC ∧ ∃ (dd : Addr) (v : V), ErrG K (He.ga K x) "word" ∧ d = some dd ∧ H dd = some (.xd [("word", v)]) ∧ ∀ t H', Ext H H' → H' t = some (.tup [.str (errWord x), v]) → Q (.ref t) H') ∨
   (x ∈ nonC ∧ d = none ∧ ∀ t H', Ext H H' → H' t = some (.tup [.str (errWord x), .non]) → Q (.ref t) H'))
def TT_l_refusedH (K : PySem.W.Frag) : (XK → Hp → VK → Prop) → Hp → VK → Prop := fun tl H Q => ∃ Ech : XK, tl Ech H (fun _ H' => Q .non H') ∧ ∀ cls d H', Ech cls d H' → RefX K Q cls d H'
def rd_l_refusedH (K : PySem.W.Frag) (f c : Addr) (q : Str) (tl : XK → Hp → VK → Prop) : TS := tSeq (FW.tTryA K (fun W => FW.tWithE 3 (fun Ech => tDrop (FW.tAsk f c q tl Ech)) W) [⟨.ref (He.ga K "FloorError"), 1, fun a cls d => tSeq (tFor (iList K (tLst (tCons (tC (.str "word")) (tCons (tC (.str "value")) (tNil))))) (gName 2) (tSeq (tIfS (tAnd (tTest (tOp rEq (tVar 2) (tC (.str "word")))) (tB (tCB (FW.rIsXT K a cls d) (tCons (tVar 1) (tCons (tTup (tCons (tC (.ref (He.ga K "BadLoop"))) (tCons (tC (.ref (He.ga K "BadSought"))) (tCons (tC (.ref (He.ga K "BadBeginning"))) (tNil))))) (tNil)))))) (tRet (tTup (tCons (FW.tCallX a ["_law_e", "_law_some", "_law_names", "_law_name", "_law_is_it"] (rd_l_class K a cls d) (tVar 1)) (tCons (FW.tByX K "word" a cls d (tVar 1)) (tNil))))) (tNext)) (tIfS (tAnd (tTest (tOp rEq (tVar 2) (tC (.str "value")))) (tB (tCB (FW.rIsXT K a cls d) (tCons (tVar 1) (tCons (tTup (tCons (tC (.ref (He.ga K "BadNumber"))) (tCons (tC (.ref (He.ga K "BadPower"))) (tCons (tC (.ref (He.ga K "BadStart"))) (tCons (tC (.ref (He.ga K "BadKind"))) (tNil)))))) (tNil)))))) (tRet (tTup (tCons (FW.tCallX a ["_law_e", "_law_some", "_law_names", "_law_name", "_law_is_it"] (rd_l_class K a cls d) (tVar 1)) (tCons (FW.tByX K "value" a cls d (tVar 1)) (tNil))))) (tNext)))) (tRet (tTup (tCons (FW.tCallX a ["_law_e", "_law_some", "_law_names", "_law_name", "_law_is_it"] (rd_l_class K a cls d) (tVar 1)) (tCons (tC .non) (tNil)))))⟩] (fun _ _ _ _ => False)) (tRet (tC .non))
section
variable {K : PySem.W.Frag} {H : Hp} {Q : VK} {x : Str} {a : Addr} {d : Option Addr}
theorem kit_any (hk : HotK K x) : ∀ l : List Str, (∀ y ∈ l, y ∈ clsNames) → PySem.W.kitAny K (.ref (He.ga K x)) (l.map fun y => .ref (He.ga K y)) = some (l.any fun y => decide (x = y))
  | [], _ => rfl
  | y :: l, h => by
    have ih := kit_any hk l fun z hz => h z (List.mem_cons_of_mem _ hz)
    rw [List.map_cons, PySem.W.kitAny, hk.kit y (h y List.mem_cons_self), List.any_cons]
    cases e : decide (x = y)
    · rw [Bool.false_or]; exact ih
    · rfl
theorem clsV_all : ∀ l : List Str, Paired ClsV (l.map fun y => V.ref (He.ga K y)) (l.map fun y => Value.ref (He.ga K y))
  | [] => .nil
  | y :: l => .cons (.own _) (clsV_all l)
theorem e_isXT {tp : Addr} (l : List Str) (hk : HotK K x) (hd : DX d H) (ht : H tp = some (.tup (l.map fun y => V.ref (He.ga K y)))) (hl : ∀ y ∈ l, y ∈ clsNames) (q : Q (.bl (l.any fun y => decide (x = y))) H) : FW.rIsXT K a (.ref (He.ga K x)) d [.ref a, .ref tp] H Q :=
  ⟨_, tp, _, _, _, rfl, hk.xc, hd, rfl, ht, clsV_all l, kit_any hk l hl, q⟩
end
theorem e_callX {N : List Str} {t : TS} {te : TE} {σ : L2.St} {H : Hp} {Q : VK} {a : Addr} (k : te σ H fun v H1 => v = .ref a ∧ t { nx := fun _ H' => Q .non H', rt := Q } (L2.start N [.ref a]) H1) : FW.tCallX a N t te σ H Q := k
theorem e_byX {K : PySem.W.Frag} {f : Str} {a : Addr} {cls : Value} {d : Option Addr} {te : TE} {σ : L2.St} {H : Hp} {Q : VK} (k : te σ H fun x H1 => x = .ref a ∧ ∃ (C dd : Addr) (v : V), cls = .ref C ∧ ErrG K C f ∧ d = some dd ∧ H1 dd = some (.xd [(f, v)]) ∧ Q v H1) : FW.tByX K f a cls d te σ H Q := k
/-- return (_law_class(e), e.f) -/
theorem ret_f {K : PySem.W.Frag} {x f : Str} {a dd : Addr} {v : V} {s0 s2 : Option V} {H : Hp} {D : Ends} (hk : HotK K x) (hg : ErrG K (He.ga K x) f) (hd : H dd = some (.xd [(f, v)])) (q : ∀ t H', Ext H H' → H' t = some (.tup [.str (errWord x), v]) → D.rt (.ref t) H') :
    tRet (tTup (tCons (FW.tCallX a ["_law_e", "_law_some", "_law_names", "_law_name", "_law_is_it"] (rd_l_class K a (.ref (He.ga K x)) (some dd)) (tVar 1)) (tCons (FW.tByX K f a (.ref (He.ga K x)) (some dd) (tVar 1)) (tNil)))) D [s0, some (.ref a), s2] H := by
  walk_at "rd"
  refine e_callX ?_
  walk_at "rd"
  refine ⟨rfl, pure_l_class K x hk a (some dd) H _ (.inr ⟨dd, _, rfl, hd⟩) fun H' e => ?_⟩
  walk_at "rd"
  refine e_byX ?_
  walk_at "rd"
  refine ⟨rfl, _, dd, v, rfl, hg, rfl, e _ _ hd, ?_⟩
  walk_at "rd"
  exact ⟨by show 2 ≤ sizeLine; decide, fun p hp => q p _ (e.tr (Ext.new hp)) upd_same⟩
theorem pure_l_refusedH (K : PySem.W.Frag) (f c : Addr) (q : Str) (tl : XK → Hp → VK → Prop) (H : Hp) (Q : VK) (hc : H c = some (LamX.CodeO c q)) (h : TT_l_refusedH K tl H Q) : rd_l_refusedH K f c q tl { nx := fun _ H' => Q .non H', rt := Q } (start ["_law_ask", "_law_e", "_law_word"] [.ref f]) H := by
  obtain ⟨Ech, ht, he⟩ := h
  unfold rd_l_refusedH tTryA tWithE
  refine s_seq ⟨Ech, fun cls d σ' H' h1 hl => ?_, ?_⟩
  · match σ', hl with
    | [s0, s1, s2], _ =>
    obtain ⟨x, rfl, hk, hx⟩ := he _ _ _ h1
    refine ⟨true, hk.fl, fun _ a ha => ?_, fun z => by cases z⟩
    have hd : DX d H' := by
      rcases hx with ⟨_, dd, v, _, rfl, e, _⟩ | ⟨_, dd, v, _, rfl, e, _⟩ | ⟨_, rfl, _⟩
      · exact .inr ⟨dd, _, rfl, e⟩
      · exact .inr ⟨dd, _, rfl, e⟩
      · exact .inl rfl
    have xw : (wrdC.any fun y => decide (x = y)) = true ↔ x ∈ wrdC := by simp
    have xv : (valC.any fun y => decide (x = y)) = true ↔ x ∈ valC := by simp
    walk_at "rd"
    refine ⟨by show 2 ≤ sizeLine; decide, fun p hp => i_list' [.str "word", .str "value"] ?_ (.inl (.inl upd_same))⟩
    refine for_list (xs := [.str "word", .str "value"]) (fun i σ G => Ext H' G ∧ G p = some (.lst [.str "word", .str "value"]) ∧ (∃ z, σ = [s0, some (.ref a), z]) ∧ (1 ≤ i → x ∉ wrdC) ∧ (2 ≤ i → x ∉ valC)) ⟨Ext.new hp, upd_same, ⟨_, rfl⟩, by omega, by omega⟩ (fun i σ G _ h => .inl (.inl h.2.1)) ?_ ?_
    · rintro i y σ G hy ⟨eG, ep, ⟨z, rfl⟩, n1, n2⟩
      match i, hy with
      | 0, hy =>
        cases hy
        refine g_name ?_
        walk_at "rd"
        refine e_ite (fun _ => ?_) fun h => absurd rfl h
        walk_at "rd"
        refine ⟨by show 3 ≤ sizeLine; decide, fun t ht => ?_⟩
        walk_at "rd"
        refine e_isXT wrdC hk ((hd.ext eG).ext (Ext.new ht)) upd_same (by decide) ?_
        walk_at "rd"
        refine e_iteB (fun hb => ?_) fun hb => ?_
        · rcases hx with ⟨m, _⟩ | ⟨_, dd, v, hg, rfl, e, k⟩ | ⟨m, _⟩
          · exact absurd (xw.mp hb) (dis1 x m)
          · exact ret_f hk hg (Ext.new ht _ _ (eG _ _ e)) fun t' G' e' et => k t' G' ((eG.tr (Ext.new ht)).tr e') et
          · exact absurd (xw.mp hb) (dis2 x m)
        · have nw : x ∉ wrdC := fun m => by rw [xw.mpr m] at hb; cases hb
          walk_at "rd"
          refine e_ite (fun h => by cases h) fun h => ?_
          walk_at "rd"
          exact ⟨eG.tr (Ext.new ht), Ext.new ht _ _ ep, ⟨_, rfl⟩, fun _ => nw, by omega⟩
      | 1, hy =>
        cases hy
        refine g_name ?_
        walk_at "rd"
        refine e_ite (fun h => by cases h) fun h => ?_
        walk_at "rd"
        refine e_ite (fun _ => ?_) fun h => absurd rfl h
        walk_at "rd"
        refine ⟨by show 4 ≤ sizeLine; decide, fun t ht => ?_⟩
        walk_at "rd"
        refine e_isXT valC hk ((hd.ext eG).ext (Ext.new ht)) upd_same (by decide) ?_
        walk_at "rd"
        refine e_iteB (fun hb => ?_) fun hb => ?_
        · rcases hx with ⟨_, dd, v, hg, rfl, e, k⟩ | ⟨m, _⟩ | ⟨m, _⟩
          · exact ret_f hk hg (Ext.new ht _ _ (eG _ _ e)) fun t' G' e' et => k t' G' ((eG.tr (Ext.new ht)).tr e') et
          · exact absurd m (n1 (by omega))
          · exact absurd (xv.mp hb) (dis3 x m)
        · have nw : x ∉ valC := fun m => by rw [xv.mpr m] at hb; cases hb
          walk_at "rd"
          exact ⟨eG.tr (Ext.new ht), Ext.new ht _ _ ep, ⟨_, rfl⟩, fun _ => n1 (by omega), fun _ => nw⟩
    · rintro σ G ⟨eG, ep, ⟨z, rfl⟩, n1, n2⟩
      have nv := n2 (by decide)
      have nw := n1 (by decide)
      rcases hx with ⟨m, _⟩ | ⟨m, _⟩ | ⟨m, rfl, k⟩
      · exact absurd m nv
      · exact absurd m nw
      · walk_at "rd"
        refine e_callX ?_
        walk_at "rd"
        refine ⟨rfl, pure_l_class K x hk a none G _ (.inl rfl) fun G' e => ?_⟩
        walk_at "rd"
        exact ⟨by show 2 ≤ sizeLine; decide, fun p hp => k p _ ((eG.tr e).tr (Ext.new hp)) upd_same⟩
  · walk_at "rd"
    exact ⟨rfl, hc, ht⟩
end FWL
namespace FWL
open PySem PySem.Spec PyProof.Rows L2 FW
/-! ### k41: parts of all kinds: checked, made or refused -/
def numU (v : V) (xs : List V) : Bool := isInt v && inV v xs
def sp_is_number_ofU (K : PySem.W.Frag) : Sp := fun vs H Q _ => ∃ (v : V) (n : String) (t : Addr) (xs : List V), vs = [v, .ref t] ∧ WT K H v n ∧ H t = some (.tup xs) ∧ xs.all flatV = true ∧ Q (.bl (numU v xs)) H
def rd_is_number_ofU (K : PySem.W.Frag) : TS := tRet (tAndV (tCall (sp_is_whole K) [] E0 (tCons (tVar 0) (tNil))) (tOp (rIn K false) (tVar 0) (tVar 1)))
theorem pure_is_number_ofU (K : PySem.W.Frag) (vs : List V) (H : Hp) (Q : VK) (E : XK) (h : sp_is_number_ofU K vs H Q E) : rd_is_number_ofU K { nx := fun _ H' => Q .non H', rt := Q } (start ["thing", "numbers"] vs) H := by
  obtain ⟨v, n, t, xs, rfl, hv, ht, hf, q⟩ := h
  unfold rd_is_number_ofU
  walk_at "rd"
  refine ⟨_, _, rfl, hv, ?_⟩
  walk_at "rd"
  cases hi : isInt v with
  | true =>
    obtain ⟨i, rfl⟩ : ∃ i, v = .int i := by cases v <;> first | (cases hi; done) | exact ⟨_, rfl⟩
    refine e_iteB (fun _ => ?_) (fun z => by cases z)
    walk_at "rd"
    refine e_in ?_ (.inr (SqT.of ht)) rfl hf
    exact q
  | false =>
    refine e_iteB (fun z => by cases z) (fun _ => ?_)
    have : numU v xs = false := by simp [numU, hi]
    rw [this] at q
    exact q
def betU (v : V) (l g : Int) : Bool := isInt v && (decide (l ≤ iv v) && decide (iv v ≤ g))
/-- the first word that is not so -/
def firstB : List (Str × Bool) → Option Str
  | [] => none
  | (w, b) :: r => if b = true then firstB r else some w
/-- what is wished of a check -/
def Chk (K : PySem.W.Frag) (c : Str) (m : Option Str) (H : Hp) (Q : VK) (E : XK) : Prop :=
  (m = none → ∀ H', Ext H H' → Q .non H') ∧ (∀ w, m = some w → ∀ H' e, Ext H H' → H' e = none → E (.ref (He.ga K c)) (some e) (upd H' e (.xd [("word", .str w)])))
def lessV : List V := [.str "less", .str "most", .str "wide"]
def tstV : List V := [.str "upto", .str "below"]
def n01 : List V := [.int 0, .int 1]
def n12 : List V := [.int 1, .int 2]
def n101 : List V := [.int (-1), .int 0, .int 1]
def lohi : List V := [.str "low", .str "high"]
def aftV : List V := [.str "half", .str "same", .str "double"]
def kinV : List V := [.str "root", .str "share", .str "log"]
def rowsHv : List V → List (Str × Bool)
  | [a, b, c, d, e, f, g] => [("up", numU a n01), ("test", wordOf b tstV), ("low", numU c n01), ("high", numU d n01), ("stop", wordOf e lessV), ("told", wordOf f lohi), ("plus", numU g n101)]
  | _ => []
def rowsSl : List V → List (Str × Bool)
  | [a, b, c, d] => [("test", wordOf a tstV), ("after", wordOf b aftV), ("last", numU c n12), ("plus", numU d n101)]
  | _ => []
/-- a list of rows (word, truth) -/
def RowsAt (H : Hp) (xs : List V) (rows : List (Str × Bool)) : Prop := xs.length = rows.length ∧ ∀ (i : Nat) (w : Str) (b : Bool), rows[i]? = some (w, b) → ∃ t, xs[i]? = some (.ref t) ∧ H t = some (.tup [.str w, .bl b])
theorem firstB_go {rows : List (Str × Bool)} {i : Nat} {w : Str} (h : rows[i]? = some (w, true)) : firstB (rows.drop i) = firstB (rows.drop (i + 1)) := by
  obtain ⟨lt, e⟩ := List.getElem?_eq_some_iff.mp h
  rw [List.drop_eq_getElem_cons lt, e, firstB, if_pos rfl]
theorem firstB_at {rows : List (Str × Bool)} {i : Nat} {w : Str} (h : rows[i]? = some (w, false)) : firstB (rows.drop i) = some w := by
  obtain ⟨lt, e⟩ := List.getElem?_eq_some_iff.mp h
  rw [List.drop_eq_getElem_cons lt, e, firstB, if_neg (by decide)]
section
variable {K : PySem.W.Frag} {σ : L2.St} {H : Hp} {R : VK} {j : Nat} {w : Str}
theorem row_numU {tA : TA} {v : V} {n : String} {xs : List V} (hσ : σ[j]? = some (some v)) (hw : WT K H v n) (hA : ∀ S : List V → Hp → Prop, S xs H → tA σ H S) (hz : xs.length ≤ sizeLine) (hf : xs.all flatV = true) (k : ∀ t H', Ext H H' → H' t = some (.tup [.str w, .bl (numU v xs)]) → R (.ref t) H') :
    tTup (tCons (tC (.str w)) (tCons (tCall (sp_is_number_ofU K) [] E0 (tCons (tVar j) (tCons (tTup tA) (tNil)))) (tNil))) σ H R := by
  refine e_tup (e_cons (e_c (e_cons (e_call (e_cons (e_var (e_cons (e_tup (hA _ ⟨hz, fun t ht => e_nil ⟨v, n, t, xs, rfl, hw.ext (Ext.new ht), upd_same, hf, ?_⟩⟩))) hσ))))))
  exact e_nil ⟨by show 2 ≤ sizeLine; decide, fun u hu => k u _ ((Ext.new ht).tr (Ext.new hu)) upd_same⟩
theorem row_wordU {te : TE} {a : Addr} {v : V} {n : String} {xs : List V} (hσ : σ[j]? = some (some v)) (hw : WT K H v n) (hA : ∀ S : VK, (∀ a H', Ext H H' → SqT K H' a xs → S (.ref a) H') → te σ H S) (hf : xs.all flatV = true) (k : ∀ t H', Ext H H' → H' t = some (.tup [.str w, .bl (wordOf v xs)]) → R (.ref t) H') :
    tTup (tCons (tC (.str w)) (tCons (tCall (sp_is_word_of K) [] E0 (tCons (tVar j) (tCons te (tNil)))) (tNil))) σ H R := by
  refine e_tup (e_cons (e_c (e_cons (e_call (e_cons (e_var (e_cons (hA _ fun a H1 e1 ha => e_nil ⟨_, _, a, xs, rfl, hw.ext e1, ha, hf, ?_⟩)) hσ))))))
  exact e_nil ⟨by show 2 ≤ sizeLine; decide, fun u hu => k u _ (e1.tr (Ext.new hu)) upd_same⟩
theorem raiseW {c : Str} {E : XK} {ta : TA} {D : Ends} (hA : ∀ S : List V → Hp → Prop, S [.str w] H → ta σ H S) (k : ∀ e, H e = none → E (.ref (He.ga K c)) (some e) (upd H e (.xd [("word", .str w)]))) : FW.tRaiseE (He.ga K c) "word" (fun cls d _ H => E cls d H) ta D σ H := by
  unfold tRaiseE tMkE
  exact hA _ ⟨_, rfl, fun e he => k e he⟩
end
def sp_check_halvesX (K : PySem.W.Frag) : Sp := fun vs H Q E => vs.length = 7 ∧ (∀ v ∈ vs, ∃ n, WT K H v n) ∧ Chk K "BadLoop" (firstB (rowsHv vs)) H Q E
def rd_check_halvesX_L1 (K : PySem.W.Frag) (E : XK) : TS := tIfS (tNot (tB (tVar 9))) (FW.tRaiseE (He.ga K "BadLoop") "word" (fun cls d _ H => E cls d H) (tCons (tVar 8) (tNil))) (tNext)
def rd_check_halvesX (K : PySem.W.Frag) (E : XK) : TS := tSeq (tAsg (tLst (tCons (tTup (tCons (tC (.str "up")) (tCons (tCall (sp_is_number_ofU K) [] E0 (tCons (tVar 0) (tCons (tTup (tCons (tC (.int 0)) (tCons (tC (.int 1)) (tNil)))) (tNil)))) (tNil)))) (tCons (tTup (tCons (tC (.str "test")) (tCons (tCall (sp_is_word_of K) [] E0 (tCons (tVar 1) (tCons (tC (.ref (He.ga K "TESTS"))) (tNil)))) (tNil)))) (tCons (tTup (tCons (tC (.str "low")) (tCons (tCall (sp_is_number_ofU K) [] E0 (tCons (tVar 2) (tCons (tTup (tCons (tC (.int 0)) (tCons (tC (.int 1)) (tNil)))) (tNil)))) (tNil)))) (tCons (tTup (tCons (tC (.str "high")) (tCons (tCall (sp_is_number_ofU K) [] E0 (tCons (tVar 3) (tCons (tTup (tCons (tC (.int 0)) (tCons (tC (.int 1)) (tNil)))) (tNil)))) (tNil)))) (tCons (tTup (tCons (tC (.str "stop")) (tCons (tCall (sp_is_word_of K) [] E0 (tCons (tVar 4) (tCons (tC (.ref (He.ga K "STOPS_halves"))) (tNil)))) (tNil)))) (tCons (tTup (tCons (tC (.str "told")) (tCons (tCall (sp_is_word_of K) [] E0 (tCons (tVar 5) (tCons (tTup (tCons (tC (.str "low")) (tCons (tC (.str "high")) (tNil)))) (tNil)))) (tNil)))) (tCons (tTup (tCons (tC (.str "plus")) (tCons (tCall (sp_is_number_ofU K) [] E0 (tCons (tVar 6) (tCons (tTup (tCons (tUn FW.rNeg (tC (.int 1))) (tCons (tC (.int 0)) (tCons (tC (.int 1)) (tNil))))) (tNil)))) (tNil)))) (tNil))))))))) (gName 7)) (tFor (iList K (tVar 7)) (gTup K 2 (gCons (gName 8) (gCons (gName 9) (gNil)))) (rd_check_halvesX_L1 K E))
theorem pure_check_halvesX (K : PySem.W.Frag) (A : HvK K) (vs : List V) (H : Hp) (Q : VK) (E : XK) (h : sp_check_halvesX K vs H Q E) : rd_check_halvesX K E { nx := fun _ H' => Q .non H', rt := Q } (start ["up", "test", "low", "high", "stop", "told", "plus", "rows", "word", "good"] vs) H := by
  obtain ⟨hl, hw, qn, qe⟩ := h
  match vs, hl with
  | [a, b, c, d, e, f, g], _ =>
  obtain ⟨na, wa⟩ := hw a (by simp)
  obtain ⟨nb, wb⟩ := hw b (by simp)
  obtain ⟨nc, wc⟩ := hw c (by simp)
  obtain ⟨nd, wd⟩ := hw d (by simp)
  obtain ⟨ne, we⟩ := hw e (by simp)
  obtain ⟨nf, wf⟩ := hw f (by simp)
  obtain ⟨ng, wg⟩ := hw g (by simp)
  unfold rd_check_halvesX
  with_reducible refine s_seq ?_
  with_reducible refine s_asg ?_
  refine e_lst (e_cons (row_numU (xs := n01) rfl wa (fun S hS => e_cons (e_c (e_cons (e_c (e_nil hS))))) (by show 2 ≤ sizeLine; decide) rfl fun t1 H1 e1 h1 => ?_))
  refine e_cons (row_wordU (a := 0) (xs := tstV) rfl (wb.ext e1) (fun S hS => e_c (hS _ _ (fun _ _ z => z) (A.tests _))) rfl fun t2 H2 e2 h2 => ?_)
  refine e_cons (row_numU (xs := n01) rfl (wc.ext (e1.tr e2)) (fun S hS => e_cons (e_c (e_cons (e_c (e_nil hS))))) (by show 2 ≤ sizeLine; decide) rfl fun t3 H3 e3 h3 => ?_)
  have e13 := e1.tr (e2.tr e3)
  refine e_cons (row_numU (xs := n01) rfl (wd.ext e13) (fun S hS => e_cons (e_c (e_cons (e_c (e_nil hS))))) (by show 2 ≤ sizeLine; decide) rfl fun t4 H4 e4 h4 => ?_)
  refine e_cons (row_wordU (a := 0) (xs := lessV) rfl (we.ext (e13.tr e4)) (fun S hS => e_c (hS _ _ (fun _ _ z => z) (A.stops _))) rfl fun t5 H5 e5 h5 => ?_)
  have e15 := e13.tr (e4.tr e5)
  refine e_cons (row_wordU (a := 0) (xs := lohi) rfl (wf.ext e15) (fun S hS => e_tup (e_cons (e_c (e_cons (e_c (e_nil ⟨by show 2 ≤ sizeLine; decide, fun t ht => hS _ _ (Ext.new ht) (SqT.of upd_same)⟩)))))) rfl fun t6 H6 e6 h6 => ?_)
  refine e_cons (row_numU (xs := n101) rfl (wg.ext (e15.tr e6)) (fun S hS => by walk_at "re"; exact hS) (by show 3 ≤ sizeLine; decide) rfl fun t7 H7 e7 h7 => ?_)
  refine e_nil ⟨by show 7 ≤ sizeLine; decide, fun L hL => ?_⟩
  have e8 := Ext.new (o := .lst [V.ref t1, .ref t2, .ref t3, .ref t4, .ref t5, .ref t6, .ref t7]) hL
  have hL8 : (upd H7 L (.lst [V.ref t1, .ref t2, .ref t3, .ref t4, .ref t5, .ref t6, .ref t7])) L = some (.lst [V.ref t1, .ref t2, .ref t3, .ref t4, .ref t5, .ref t6, .ref t7]) := upd_same
  have hall : RowsAt (upd H7 L (.lst [V.ref t1, .ref t2, .ref t3, .ref t4, .ref t5, .ref t6, .ref t7])) [V.ref t1, .ref t2, .ref t3, .ref t4, .ref t5, .ref t6, .ref t7] (rowsHv [a, b, c, d, e, f, g]) := by
    refine ⟨rfl, fun i w bb hi => ?_⟩
    have e78 := e7.tr e8
    have e68 := e6.tr e78
    have e58 := e5.tr e68
    have e48 := e4.tr e58
    have e38 := e3.tr e48
    have e28 := e2.tr e38
    match i, hi with
    | 0, hi => cases hi; exact ⟨_, rfl, e28 _ _ h1⟩
    | 1, hi => cases hi; exact ⟨_, rfl, e38 _ _ h2⟩
    | 2, hi => cases hi; exact ⟨_, rfl, e48 _ _ h3⟩
    | 3, hi => cases hi; exact ⟨_, rfl, e58 _ _ h4⟩
    | 4, hi => cases hi; exact ⟨_, rfl, e68 _ _ h5⟩
    | 5, hi => cases hi; exact ⟨_, rfl, e78 _ _ h6⟩
    | 6, hi => cases hi; exact ⟨_, rfl, e8 _ _ h7⟩
  have e18 : Ext H (upd H7 L (.lst [V.ref t1, .ref t2, .ref t3, .ref t4, .ref t5, .ref t6, .ref t7])) := e15.tr (e6.tr (e7.tr e8))
  generalize rowsHv [a, b, c, d, e, f, g] = rows at *
  generalize upd H7 L (.lst [V.ref t1, .ref t2, .ref t3, .ref t4, .ref t5, .ref t6, .ref t7]) = H8 at *
  generalize [V.ref t1, .ref t2, .ref t3, .ref t4, .ref t5, .ref t6, .ref t7] = xs at *
  walk_at "rd"
  refine i_list' _ ?_ (SqL.of hL8)
  refine for_list (K := K) (a := L) (xs := xs) (fun i σ H' => H' = H8 ∧ firstB rows = firstB (rows.drop i) ∧ ∃ w8 w9, σ = [some a, some b, some c, some d, some e, some f, some g, some (.ref L), w8, w9]) ⟨rfl, rfl, _, _, rfl⟩ (fun i σ H' _ hh => by rw [hh.1]; exact SqL.of hL8) ?_ ?_
  · rintro i y σ H' hy ⟨rfl, hB, w8, w9, rfl⟩
    obtain ⟨lt, _⟩ := List.getElem?_eq_some_iff.mp hy
    rw [hall.1] at lt
    obtain ⟨t, ht1, ht⟩ := hall.2 i rows[i].1 rows[i].2 (List.getElem?_eq_getElem lt)
    rw [hy] at ht1
    cases ht1
    refine g_tup ?_ (SqT.of ht) rfl
    refine g_cons (g_name (g_cons (g_name (g_nil ?_))))
    unfold rd_check_halvesX_L1
    walk_at "rd"
    cases hb : rows[i].2 with
    | true =>
      refine e_iteB (fun z => by cases z) (fun _ => ?_)
      walk_at "rd"
      exact ⟨rfl, by rw [hB]; exact firstB_go (by rw [List.getElem?_eq_getElem lt, ← hb]), _, _, rfl⟩
    | false =>
      refine e_iteB (fun _ => ?_) (fun z => by cases z)
      refine raiseW (w := rows[i].1) (fun S hS => by walk_at "re"; exact hS) fun x hx => ?_
      exact qe _ (by rw [hB]; exact firstB_at (by rw [List.getElem?_eq_getElem lt, ← hb])) _ _ e18 hx
  · rintro σ H' ⟨rfl, hB, w8, w9, rfl⟩
    refine qn ?_ _ e18
    rw [hB, hall.1, List.drop_of_length_le (Nat.le_refl _)]
    rfl
end FWL
namespace FWL
open PySem PySem.Spec PyProof.Rows L2 FW
/-! ### loops with steps: mathematics -/
structure Sl where
  test : Str
  after : Str
  last : Int
  plus : Int
structure Sl.Ok (h : Sl) : Prop where
  test : h.test = "upto" ∨ h.test = "below"
  after : h.after = "half" ∨ h.after = "same" ∨ h.after = "double"
  last : h.last = 1 ∨ h.last = 2
  plus : h.plus = -1 ∨ h.plus = 0 ∨ h.plus = 1
def Sl.wid (h : Sl) (p : Int) : Int := if h.after = "half" then p / 2 else if h.after = "same" then p else 2 * p
def Sl.nxt (h : Sl) (upw : Int → Bool) (s : Int × Int) : Int × Int := if upw (s.1 + s.2) = true then (s.1 + s.2, h.wid s.2) else (s.1, s.2 / 2)
def Sl.st (h : Sl) (upw : Int → Bool) (s : Int × Int) : Nat → Int × Int
  | 0 => s
  | i + 1 => h.nxt upw (h.st upw s i)
def Sl.pls (h : Sl) (upw : Int → Bool) (s : Int × Int) (i : Nat) : List (Int × Int) := (List.range i).map (h.st upw s)
structure SRes where
  places : List (Int × Int)
  told : Int
/-- what comes of a run -/
def Scs (h : Sl) (upw : Int → Bool) (s : Int × Int) (r : SRes) : Prop := ∃ i, (∀ j, j < i → h.last ≤ (h.st upw s j).2) ∧ (h.st upw s i).2 < h.last ∧ r = ⟨h.pls upw s i, (h.st upw s i).1 + h.plus⟩
theorem Scs.uniq {h : Sl} {upw : Int → Bool} {s : Int × Int} {r r' : SRes} (a : Scs h upw s r) (b : Scs h upw s r') : r = r' := by
  obtain ⟨i, a1, a2, rfl⟩ := a
  obtain ⟨j, b1, b2, rfl⟩ := b
  rcases Nat.lt_trichotomy i j with z | z | z
  · have := b1 i z; omega
  · subst z; rfl
  · have := a1 j z; omega
section
variable {h : Sl} {upw : Int → Bool} {t : Int}
theorem Sl.st_shift (s : Int × Int) : ∀ i, h.st upw s (i + 1) = h.st upw (h.nxt upw s) i
  | 0 => rfl
  | i + 1 => by
    show h.nxt upw (h.st upw s (i + 1)) = h.nxt upw (h.st upw (h.nxt upw s) i)
    rw [Sl.st_shift s i]
theorem Sl.up {x p : Int} (hu : ∀ y, upw y = decide (y ≤ t)) (hp : x + p ≤ t) : h.nxt upw (x, p) = (x + p, h.wid p) := by
  unfold Sl.nxt
  rw [if_pos (by rw [hu]; exact decide_eq_true hp)]
/-- the run is over within n rounds -/
def Sl.In (h : Sl) (upw : Int → Bool) (s : Int × Int) (n : Nat) : Prop := ∃ m, m ≤ n ∧ (h.st upw s m).2 < h.last
theorem Sl.In.succ {s : Int × Int} {n : Nat} (a : h.In upw (h.nxt upw s) n) : h.In upw s (n + 1) := by
  obtain ⟨m, h1, h2⟩ := a
  exact ⟨m + 1, by omega, by rw [Sl.st_shift]; exact h2⟩
theorem Sl.In.mono {s : Int × Int} {n m : Nat} (a : h.In upw s n) (b : n ≤ m) : h.In upw s m := by
  obtain ⟨k, h1, h2⟩ := a
  exact ⟨k, by omega, h2⟩
end
end FWL
namespace FWL
open PySem PySem.Spec PyProof.Rows L2 FW
/-! ### loops with steps: the class -/
structure SpK (K : PySem.W.Frag) : Prop where
  cls : Cls K (He.ga K "Steps")
  n_test : NoAttr K (He.ga K "Steps") "test"
  n_after : NoAttr K (He.ga K "Steps") "after"
  n_last : NoAttr K (He.ga K "Steps") "last"
  n_plus : NoAttr K (He.ga K "Steps") "plus"
  tests : ∀ H, SqT K H (He.ga K "TESTS") [.str "upto", .str "below"]
def Sl.V (h : Sl) : List L2.V := [.str h.test, .str h.after, .int h.last, .int h.plus]
def Sl.F (h : Sl) : List (Str × L2.V) := [("test", .str h.test), ("after", .str h.after), ("last", .int h.last), ("plus", .int h.plus)]
def IsSl (K : PySem.W.Frag) (H : Hp) (x : Addr) (h : Sl) : Prop := ∃ dx, H x = some (.ins (He.ga K "Steps") dx h.F)
theorem IsSl.ext {K : PySem.W.Frag} {H H' : Hp} {x : Addr} {h : Sl} (e : Ext H H') : IsSl K H x h → IsSl K H' x h
  | ⟨dx, a⟩ => ⟨dx, e _ _ a⟩
end FWL
namespace FWL
open PySem PySem.Spec PyProof.Rows L2 FW
/-! ### k41: things made of parts, or refused -/
def sp_check_stepsX (K : PySem.W.Frag) : Sp := fun vs H Q E => vs.length = 4 ∧ (∀ v ∈ vs, ∃ n, WT K H v n) ∧ Chk K "BadLoop" (firstB (rowsSl vs)) H Q E
def rd_check_stepsX_L1 (K : PySem.W.Frag) (E : XK) : TS := tIfS (tNot (tB (tVar 6))) (FW.tRaiseE (He.ga K "BadLoop") "word" (fun cls d _ H => E cls d H) (tCons (tVar 5) (tNil))) (tNext)
def rd_check_stepsX (K : PySem.W.Frag) (E : XK) : TS := tSeq (tAsg (tLst (tCons (tTup (tCons (tC (.str "test")) (tCons (tCall (sp_is_word_of K) [] E0 (tCons (tVar 0) (tCons (tC (.ref (He.ga K "TESTS"))) (tNil)))) (tNil)))) (tCons (tTup (tCons (tC (.str "after")) (tCons (tCall (sp_is_word_of K) [] E0 (tCons (tVar 1) (tCons (tTup (tCons (tC (.str "half")) (tCons (tC (.str "same")) (tCons (tC (.str "double")) (tNil))))) (tNil)))) (tNil)))) (tCons (tTup (tCons (tC (.str "last")) (tCons (tCall (sp_is_number_ofU K) [] E0 (tCons (tVar 2) (tCons (tTup (tCons (tC (.int 1)) (tCons (tC (.int 2)) (tNil)))) (tNil)))) (tNil)))) (tCons (tTup (tCons (tC (.str "plus")) (tCons (tCall (sp_is_number_ofU K) [] E0 (tCons (tVar 3) (tCons (tTup (tCons (tUn FW.rNeg (tC (.int 1))) (tCons (tC (.int 0)) (tCons (tC (.int 1)) (tNil))))) (tNil)))) (tNil)))) (tNil)))))) (gName 4)) (tFor (iList K (tVar 4)) (gTup K 2 (gCons (gName 5) (gCons (gName 6) (gNil)))) (rd_check_stepsX_L1 K E))
theorem pure_check_stepsX (K : PySem.W.Frag) (A : SpK K) (vs : List V) (H : Hp) (Q : VK) (E : XK) (h : sp_check_stepsX K vs H Q E) : rd_check_stepsX K E { nx := fun _ H' => Q .non H', rt := Q } (start ["test", "after", "last", "plus", "rows", "word", "good"] vs) H := by
  obtain ⟨hl, hw, qn, qe⟩ := h
  match vs, hl with
  | [a, b, c, d], _ =>
  obtain ⟨na, wa⟩ := hw a (by simp)
  obtain ⟨nb, wb⟩ := hw b (by simp)
  obtain ⟨nc, wc⟩ := hw c (by simp)
  obtain ⟨nd, wd⟩ := hw d (by simp)
  unfold rd_check_stepsX
  with_reducible refine s_seq ?_
  with_reducible refine s_asg ?_
  refine e_lst (e_cons (row_wordU (a := 0) (xs := tstV) rfl wa (fun S hS => e_c (hS _ _ (fun _ _ z => z) (A.tests _))) rfl fun t1 H1 e1 h1 => ?_))
  refine e_cons (row_wordU (a := 0) (xs := aftV) rfl (wb.ext e1) (fun S hS => e_tup (e_cons (e_c (e_cons (e_c (e_cons (e_c (e_nil ⟨by show 3 ≤ sizeLine; decide, fun t ht => hS _ _ (Ext.new ht) (SqT.of upd_same)⟩)))))))) rfl fun t2 H2 e2 h2 => ?_)
  refine e_cons (row_numU (xs := n12) rfl (wc.ext (e1.tr e2)) (fun S hS => e_cons (e_c (e_cons (e_c (e_nil hS))))) (by show 2 ≤ sizeLine; decide) rfl fun t3 H3 e3 h3 => ?_)
  have e13 := e1.tr (e2.tr e3)
  refine e_cons (row_numU (xs := n101) rfl (wd.ext e13) (fun S hS => by walk_at "re"; exact hS) (by show 3 ≤ sizeLine; decide) rfl fun t4 H4 e4 h4 => ?_)
  refine e_nil ⟨by show 4 ≤ sizeLine; decide, fun L hL => ?_⟩
  have e8 := Ext.new (o := .lst [V.ref t1, .ref t2, .ref t3, .ref t4]) hL
  have hL8 : (upd H4 L (.lst [V.ref t1, .ref t2, .ref t3, .ref t4])) L = some (.lst [V.ref t1, .ref t2, .ref t3, .ref t4]) := upd_same
  have hall : RowsAt (upd H4 L (.lst [V.ref t1, .ref t2, .ref t3, .ref t4])) [V.ref t1, .ref t2, .ref t3, .ref t4] (rowsSl [a, b, c, d]) := by
    refine ⟨rfl, fun i w bb hi => ?_⟩
    have e48 := e4.tr e8
    have e38 := e3.tr e48
    have e28 := e2.tr e38
    match i, hi with
    | 0, hi => cases hi; exact ⟨_, rfl, e28 _ _ h1⟩
    | 1, hi => cases hi; exact ⟨_, rfl, e38 _ _ h2⟩
    | 2, hi => cases hi; exact ⟨_, rfl, e48 _ _ h3⟩
    | 3, hi => cases hi; exact ⟨_, rfl, e8 _ _ h4⟩
  have e18 : Ext H (upd H4 L (.lst [V.ref t1, .ref t2, .ref t3, .ref t4])) := e13.tr (e4.tr e8)
  generalize rowsSl [a, b, c, d] = rows at *
  generalize upd H4 L (.lst [V.ref t1, .ref t2, .ref t3, .ref t4]) = H8 at *
  generalize [V.ref t1, .ref t2, .ref t3, .ref t4] = xs at *
  walk_at "rd"
  refine i_list' _ ?_ (SqL.of hL8)
  refine for_list (K := K) (a := L) (xs := xs) (fun i σ H' => H' = H8 ∧ firstB rows = firstB (rows.drop i) ∧ ∃ w8 w9, σ = [some a, some b, some c, some d, some (.ref L), w8, w9]) ⟨rfl, rfl, _, _, rfl⟩ (fun i σ H' _ hh => by rw [hh.1]; exact SqL.of hL8) ?_ ?_
  · rintro i y σ H' hy ⟨rfl, hB, w8, w9, rfl⟩
    obtain ⟨lt, _⟩ := List.getElem?_eq_some_iff.mp hy
    rw [hall.1] at lt
    obtain ⟨t, ht1, ht⟩ := hall.2 i rows[i].1 rows[i].2 (List.getElem?_eq_getElem lt)
    rw [hy] at ht1
    cases ht1
    refine g_tup ?_ (SqT.of ht) rfl
    refine g_cons (g_name (g_cons (g_name (g_nil ?_))))
    unfold rd_check_stepsX_L1
    walk_at "rd"
    cases hb : rows[i].2 with
    | true =>
      refine e_iteB (fun z => by cases z) (fun _ => ?_)
      walk_at "rd"
      exact ⟨rfl, by rw [hB]; exact firstB_go (by rw [List.getElem?_eq_getElem lt, ← hb]), _, _, rfl⟩
    | false =>
      refine e_iteB (fun _ => ?_) (fun z => by cases z)
      refine raiseW (w := rows[i].1) (fun S hS => by walk_at "re"; exact hS) fun x hx => ?_
      exact qe _ (by rw [hB]; exact firstB_at (by rw [List.getElem?_eq_getElem lt, ← hb])) _ _ e18 hx
  · rintro σ H' ⟨rfl, hB, w8, w9, rfl⟩
    refine qn ?_ _ e18
    rw [hB, hall.1, List.drop_of_length_le (Nat.le_refl _)]
    rfl
/-- sought things -/
def leastU (k : V) : Int := if k = .str "log" then 2 else 1
def rowsSo : List V → List (Str × Bool)
  | [k, b, n] => [("kind", wordOf k kinV), ("by", betU b (leastU k) 64), ("n", fromI n (leastU k - 1))]
  | _ => []
/-! the five kinds -/
inductive Wh where | so | ha | st | sh | po
def Wh.cls : Wh → Str | .so => "Sought" | .ha => "Halves" | .st => "Steps" | .sh => "Share" | .po => "Power"
def Wh.err : Wh → Str | .so => "BadSought" | .ha => "BadLoop" | .st => "BadLoop" | .sh => "BadBeginning" | .po => "BadBeginning"
def Wh.names : Wh → List Str
  | .so => ["kind", "by", "n"] | .ha => ["up", "test", "low", "high", "stop", "told", "plus"] | .st => ["test", "after", "last", "plus"] | .sh => ["by", "more"] | .po => ["more"]
def rowsSh : List V → List (Str × Bool)
  | [b, m] => [("by", betU b 1 99), ("more", betU m 0 99)]
  | _ => []
def rowsPo : List V → List (Str × Bool)
  | [m] => [("more", betU m (-9) 9)]
  | _ => []
def Wh.rows : Wh → List V → List (Str × Bool) | .so => rowsSo | .ha => rowsHv | .st => rowsSl | .sh => rowsSh | .po => rowsPo
def IsTh (K : PySem.W.Frag) (H : Hp) (x : Addr) (w : Wh) (ps : List V) : Prop := ∃ dx, H x = some (.ins (He.ga K w.cls) dx (w.names.zip ps))
theorem IsTh.ext {K : PySem.W.Frag} {H H' : Hp} {x : Addr} {w : Wh} {ps : List V} (h : IsTh K H x w ps) (e : Ext H H') : IsTh K H' x w ps := by obtain ⟨dx, h⟩ := h; exact ⟨dx, e _ _ h⟩
def RefP (K : PySem.W.Frag) (w : Wh) (ps : List V) (H : Hp) (E : XK) : Prop := ∀ e, firstB (w.rows ps) = some e → ∀ H' a, Ext H H' → H' a = none → E (.ref (He.ga K w.err)) (some a) (upd H' a (.xd [("word", .str e)]))
theorem RefP.ext {K : PySem.W.Frag} {w : Wh} {ps : List V} {H H' : Hp} {E : XK} (h : RefP K w ps H E) (e : Ext H H') : RefP K w ps H' E := fun x hx G a e' ha => h x hx G a (e.tr e') ha
def sp_initU (K : PySem.W.Frag) (w : Wh) : Sp := fun vs H Q E => ∃ (x dx : Addr) (ps : List V), vs = .ref x :: ps ∧ ps.length = w.names.length ∧ (∀ v ∈ ps, ∃ n, WT K H v n) ∧ H x = some (.ins (He.ga K w.cls) dx []) ∧
  (firstB (w.rows ps) = none → ∀ H', ExtB x H H' → H' x = some (.ins (He.ga K w.cls) dx (w.names.zip ps)) → Q .non H') ∧ RefP K w ps H E
def sp_Halves_initX (K : PySem.W.Frag) : Sp := sp_initU K .ha
def sp_Steps_initX (K : PySem.W.Frag) : Sp := sp_initU K .st
def rd_Halves_initX (K : PySem.W.Frag) (E : XK) : TS := tSeq (tDrop (tCall (sp_check_halvesX K) [] E (tCons (tVar 1) (tCons (tVar 2) (tCons (tVar 3) (tCons (tVar 4) (tCons (tVar 5) (tCons (tVar 6) (tCons (tVar 7) (tNil)))))))))) (tSeq (sFld K (tVar 0) (tVar 1) "up") (tSeq (sFld K (tVar 0) (tVar 2) "test") (tSeq (sFld K (tVar 0) (tVar 3) "low") (tSeq (sFld K (tVar 0) (tVar 4) "high") (tSeq (sFld K (tVar 0) (tVar 5) "stop") (tSeq (sFld K (tVar 0) (tVar 6) "told") (sFld K (tVar 0) (tVar 7) "plus")))))))
def rd_Steps_initX (K : PySem.W.Frag) (E : XK) : TS := tSeq (tDrop (tCall (sp_check_stepsX K) [] E (tCons (tVar 1) (tCons (tVar 2) (tCons (tVar 3) (tCons (tVar 4) (tNil))))))) (tSeq (sFld K (tVar 0) (tVar 1) "test") (tSeq (sFld K (tVar 0) (tVar 2) "after") (tSeq (sFld K (tVar 0) (tVar 3) "last") (sFld K (tVar 0) (tVar 4) "plus"))))
theorem pure_Halves_initX (K : PySem.W.Frag) (A : HvK K) (vs : List V) (H : Hp) (Q : VK) (E : XK) (h : sp_Halves_initX K vs H Q E) : rd_Halves_initX K E { nx := fun _ H' => Q .non H', rt := Q } (start ["self", "up", "test", "low", "high", "stop", "told", "plus"] vs) H := by
  obtain ⟨x, dx, ps, rfl, hl, hw, hx, qn, qe⟩ := h
  match ps, hl with
  | [a, b, c, d, e, f, g], _ =>
  unfold rd_Halves_initX
  walk_at "rd"
  refine ⟨rfl, hw, fun hn H1 e1 => ?_, fun w hn H1 y e1 hy => qe w hn H1 y e1 hy⟩
  walk_at "rd"
  refine e_sF ?_ (e1 _ _ hx) A.cls A.n_up (by show 0 < 1000; decide)
  walk_at "rd"
  refine e_sF ?_ upd_same A.cls A.n_test (by show 1 < 1000; decide)
  walk_at "rd"
  refine e_sF ?_ upd_same A.cls A.n_low (by show 2 < 1000; decide)
  walk_at "rd"
  refine e_sF ?_ upd_same A.cls A.n_high (by show 3 < 1000; decide)
  walk_at "rd"
  refine e_sF ?_ upd_same A.cls A.n_stop (by show 4 < 1000; decide)
  walk_at "rd"
  refine e_sF ?_ upd_same A.cls A.n_told (by show 5 < 1000; decide)
  walk_at "rd"
  refine e_sF ?_ upd_same A.cls A.n_plus (by show 6 < 1000; decide)
  rw [upd_upd, upd_upd, upd_upd, upd_upd, upd_upd, upd_upd]
  exact qn hn _ ((ExtB.of e1).tr ExtB.upd) upd_same
theorem pure_Steps_initX (K : PySem.W.Frag) (A : SpK K) (vs : List V) (H : Hp) (Q : VK) (E : XK) (h : sp_Steps_initX K vs H Q E) : rd_Steps_initX K E { nx := fun _ H' => Q .non H', rt := Q } (start ["self", "test", "after", "last", "plus"] vs) H := by
  obtain ⟨x, dx, ps, rfl, hl, hw, hx, qn, qe⟩ := h
  match ps, hl with
  | [a, b, c, d], _ =>
  unfold rd_Steps_initX
  walk_at "rd"
  refine ⟨rfl, hw, fun hn H1 e1 => ?_, fun w hn H1 y e1 hy => qe w hn H1 y e1 hy⟩
  walk_at "rd"
  refine e_sF ?_ (e1 _ _ hx) A.cls A.n_test (by show 0 < 1000; decide)
  walk_at "rd"
  refine e_sF ?_ upd_same A.cls A.n_after (by show 1 < 1000; decide)
  walk_at "rd"
  refine e_sF ?_ upd_same A.cls A.n_last (by show 2 < 1000; decide)
  walk_at "rd"
  refine e_sF ?_ upd_same A.cls A.n_plus (by show 3 < 1000; decide)
  rw [upd_upd, upd_upd, upd_upd]
  exact qn hn _ ((ExtB.of e1).tr ExtB.upd) upd_same
/-- what is wished of a thing made of parts -/
def MadeP (K : PySem.W.Frag) (w : Wh) (ps : List V) (H : Hp) (Q : VK) (E : XK) : Prop := (firstB (w.rows ps) = none → ∀ x H', H x = none → Ext H H' → IsTh K H' x w ps → Q (.ref x) H') ∧ RefP K w ps H E
theorem make_th {K : PySem.W.Frag} {w : Wh} {H : Hp} {Q : VK} {E : XK} {ps : List V} (hl : ps.length = w.names.length) (hw : ∀ v ∈ ps, ∃ n, WT K H v n) (m : MadeP K w ps H Q E) (x dx : Addr) (hx : H x = none) (hdx : H dx = none) (hne : dx ≠ x) :
    sp_initU K w (.ref x :: (ps ++ [])) (upd (upd H dx (.own x)) x (.ins (He.ga K w.cls) dx [])) (fun v H2 => v = .non ∧ Q (.ref x) H2) E := by
  have e3 : Ext H (upd (upd H dx (.own x)) x (.ins (He.ga K w.cls) dx [])) := (Ext.new hdx).tr (Ext.new (by rw [upd_ne hne.symm]; exact hx))
  refine ⟨x, dx, ps, by rw [List.append_nil], hl, fun v hv => ?_, upd_same, fun hn H4 e4 h4 => ⟨rfl, m.1 hn x H4 hx (fun b ob z => e4 _ _ (ne_of_none z hx) (e3 _ _ z)) ⟨dx, h4⟩⟩, m.2.ext e3⟩
  obtain ⟨n, z⟩ := hw v hv
  exact ⟨n, z.ext e3⟩
end FWL
namespace FWL
open PySem PySem.Spec PyProof.Rows L2 FW
/-! ### comprehensions whose items are made by calls -/
section
variable {K : PySem.W.Frag} {H : Hp} {σ : L2.St} {Q : VK} {a : Addr} {xs : List V} {n : Nat} {tt : TT} {te : TE} {P : V → V → Prop} {p : V → Bool}
def LcI (D : Addr) (P : V → V → Prop) (zs : List V) (H : Hp) (H' : Hp) : Prop := Ext H H' ∧ ∃ acc, H' D = some (.lst acc) ∧ Paired P zs acc
theorem lcx_step {D : Addr} {i : Nat} {x : V} {H' : Hp} (hD : H D = none) (hl : xs.length ≤ 1000000) (hx : xs[i]? = some x) (hw : ∀ v : V, wipe ((wipe σ [n]).set n (some v)) [n] = wipe σ [n])
    (ht : ∀ x ∈ xs, ∀ (H' : Hp) (R : Bool → Hp → Prop), Ext H H' → (∀ H'', Ext H' H'' → R (p x) H'') → tt ((wipe σ [n]).set n (some x)) H' R)
    (he : ∀ x ∈ xs, p x = true → ∀ (H' : Hp) (R : VK), Ext H H' → (∀ v H'', Ext H' H'' → P x v → R v H'') → te ((wipe σ [n]).set n (some x)) H' R)
    (h : LcI D P ((xs.take i).filter p) H H') :
    gName n x (wipe σ [n]) H' fun σ2 H2 => wipe σ2 [n] = wipe σ [n] ∧ tt σ2 H2 fun b H3 =>
      if b = true then te σ2 H3 fun y H4 => ∃ acc, H4 D = some (.lst acc) ∧ acc.length < sizeLine ∧ LcI D P ((xs.take (i + 1)).filter p) H (upd H4 D (.lst (acc ++ [y]))) else LcI D P ((xs.take (i + 1)).filter p) H H3 := by
  obtain ⟨e, acc, hacc, hp⟩ := h
  have hi := (List.getElem?_eq_some_iff.mp hx).1
  have hm : x ∈ xs := List.mem_of_getElem? hx
  have et : xs.take (i + 1) = xs.take i ++ [x] := by rw [List.take_add_one, hx]; rfl
  refine g_name ⟨hw _, ht x hm _ _ e fun H2 e2 => ?_⟩
  cases hpx : p x with
  | true =>
    rw [if_pos rfl]
    refine he x hm hpx _ _ (e.tr e2) fun v H4 e4 hv => ⟨acc, e4 _ _ (e2 _ _ hacc), ?_, ((e.tr e2).tr e4).upds hD, _, upd_same, ?_⟩
    · have h1 := hp.length
      have h2 := List.length_filter_le p (xs.take i)
      rw [List.length_take] at h2
      show _ < 2 ^ 24
      omega
    · rw [et, List.filter_append, List.filter_cons_of_pos hpx, List.filter_nil]
      exact Paired.snoc hp hv
  | false =>
    rw [if_neg (by decide)]
    refine ⟨e.tr e2, acc, e2 _ _ hacc, ?_⟩
    rw [et, List.filter_append, List.filter_cons_of_neg (by rw [hpx]; decide), List.filter_nil, List.append_nil]
    exact hp
theorem lcLX (h : SqL K H a xs) (hl : xs.length ≤ 1000000) (hw : ∀ v : V, wipe ((wipe σ [n]).set n (some v)) [n] = wipe σ [n])
    (ht : ∀ x ∈ xs, ∀ (H' : Hp) (R : Bool → Hp → Prop), Ext H H' → (∀ H'', Ext H' H'' → R (p x) H'') → tt ((wipe σ [n]).set n (some x)) H' R)
    (he : ∀ x ∈ xs, p x = true → ∀ (H' : Hp) (R : VK), Ext H H' → (∀ v H'', Ext H' H'' → P x v → R v H'') → te ((wipe σ [n]).set n (some x)) H' R)
    (q : ∀ D G ys, H D = none → Ext H G → G D = some (.lst ys) → Paired P (xs.filter p) ys → Q (.ref D) G) : LcK (gName n) tt te [n] σ Q (Itl K a) H := by
  intro D hD
  refine lc_list (K := K) (a := a) (xs := xs) (fun i H' => LcI D P ((xs.take i).filter p) H H') ⟨Ext.new hD, [], upd_same, .nil⟩ (fun i H' _ h' => h'.1.sqL h) ?_ ?_
  · rintro i x H' hx h'
    exact lcx_step hD hl hx hw ht he h'
  · rintro H' ⟨e, acc, hacc, hp⟩
    rw [List.take_of_length_le (Nat.le_refl _)] at hp
    exact q D H' acc hD e hacc hp
theorem lcTX (h : SqT K H a xs) (hl : xs.length ≤ 1000000) (hw : ∀ v : V, wipe ((wipe σ [n]).set n (some v)) [n] = wipe σ [n])
    (ht : ∀ x ∈ xs, ∀ (H' : Hp) (R : Bool → Hp → Prop), Ext H H' → (∀ H'', Ext H' H'' → R (p x) H'') → tt ((wipe σ [n]).set n (some x)) H' R)
    (he : ∀ x ∈ xs, p x = true → ∀ (H' : Hp) (R : VK), Ext H H' → (∀ v H'', Ext H' H'' → P x v → R v H'') → te ((wipe σ [n]).set n (some x)) H' R)
    (q : ∀ D G ys, H D = none → Ext H G → G D = some (.lst ys) → Paired P (xs.filter p) ys → Q (.ref D) G) : LcK (gName n) tt te [n] σ Q (Itt K a) H := by
  intro D hD
  refine lc_tup (K := K) (a := a) (xs := xs) (fun i H' => LcI D P ((xs.take i).filter p) H H') ⟨Ext.new hD, [], upd_same, .nil⟩ (fun i H' _ h' => h'.1.sqT h) ?_ ?_
  · rintro i x H' hx h'
    exact lcx_step hD hl hx hw ht he h'
  · rintro H' ⟨e, acc, hacc, hp⟩
    rw [List.take_of_length_le (Nat.le_refl _)] at hp
    exact q D H' acc hD e hacc hp
end
theorem paired_eq {α : Type} : ∀ {xs ys : List α}, Paired (fun x v => v = x) xs ys → ys = xs
  | _, _, .nil => rfl
  | _, _, .cons h t => by rw [h, paired_eq t]
end FWL
namespace FWL
open PySem PySem.Spec PyProof.Rows L2 FW
/-! ### the law's own loop: parts as a list -/
/-! ### the places of a run: a dict keyed by pairs (back) or by guesses -/
def PlcI (l : Lp) (n x : Int) (i : Nat) : List (L2.Key × V) := (List.range i).map fun j => (.inl (itr l n x j), V.int (j : Int))
/-- the dict at d behind i rounds -/
def PlcE (l : Lp) (n x : Int) (i : Nat) (H : Hp) (d : Addr) : Prop := (l.stop = "back" ∧ ∃ kvs, IsDN H d kvs ∧ Plc l n x i kvs) ∨ (l.stop ≠ "back" ∧ H d = some (.dK (PlcI l n x i)))
/-- the place of the round i -/
def PosE (l : Lp) (n x : Int) (i : Nat) (H : Hp) (v : V) : Prop := (l.stop = "back" ∧ ∃ c, v = .ref c ∧ H c = some (.tup ((keyA l n x i).map nkV))) ∨ (l.stop ≠ "back" ∧ v = .int (itr l n x i))
theorem PlcE.ext {l : Lp} {n x : Int} {i : Nat} {H H' : Hp} {d : Addr} (h : PlcE l n x i H d) (e : Ext H H') : PlcE l n x i H' d := by
  rcases h with ⟨a, kvs, b, c⟩ | ⟨a, b⟩
  · exact .inl ⟨a, kvs, b.ext e, c⟩
  · exact .inr ⟨a, e _ _ b⟩
theorem PosE.ext {l : Lp} {n x : Int} {i : Nat} {H H' : Hp} {v : V} (h : PosE l n x i H v) (e : Ext H H') : PosE l n x i H' v := by
  rcases h with ⟨a, c, b, hc⟩ | h
  · exact .inl ⟨a, c, b, e _ _ hc⟩
  · exact .inr h
theorem PlcI.val {l : Lp} (h : l.stop ≠ "back") (n x : Int) (i : Nat) : valV (PlcI l n x i) (.inl (itr l n x i)) = (seenA l n x i).map fun (j : Nat) => V.int (j : Int) := by
  unfold valV PlcI seenA
  rw [List.find?_map, Option.map_map]
  have e : ((fun kv : L2.Key × V => decide (kv.1 = Sum.inl (itr l n x i))) ∘ fun j : Nat => ((Sum.inl (itr l n x j) : L2.Key), V.int (j : Int))) = fun j => decide (keyA l n x j = keyA l n x i) := by
    funext j
    refine decide_eq_decide.mpr ?_
    unfold keyA
    rw [if_neg h, if_neg h]
    constructor
    · intro z
      have := Sum.inl.inj z
      rw [this]
    · intro z
      simp at z
      show Sum.inl (itr l n x j) = Sum.inl (itr l n x i)
      rw [z]
  rw [e]
  rfl
theorem PlcI.len (l : Lp) (n x : Int) (i : Nat) : (PlcI l n x i).length = i := by unfold PlcI; rw [List.length_map, List.length_range]
theorem PlcI.snoc {l : Lp} (h : l.stop ≠ "back") {n x : Int} {i : Nat} (hs : seenA l n x i = none) : putK (PlcI l n x i) (.inl (itr l n x i)) (.int (i : Int)) = PlcI l n x (i + 1) := by
  have hv := PlcI.val h n x i
  rw [hs] at hv
  have hn : ((PlcI l n x i).any fun kv => decide (kv.1 = (.inl (itr l n x i) : L2.Key))) = false := by
    unfold valV at hv
    have hf : (PlcI l n x i).find? (fun kv => decide (kv.1 = (.inl (itr l n x i) : L2.Key))) = none := by
      cases q : (PlcI l n x i).find? (fun kv => decide (kv.1 = (.inl (itr l n x i) : L2.Key))) with
      | none => rfl
      | some z => rw [q] at hv; cases hv
    rw [List.any_eq_false]
    exact List.find?_eq_none.mp hf
  unfold putK
  rw [hn, if_neg (by decide)]
  unfold PlcI
  rw [List.range_succ, List.map_append]
  rfl
theorem PlcE.upd {l : Lp} {n x : Int} {i : Nat} {H : Hp} {d g : Addr} {xs : List V} {o : HO} (h : PlcE l n x i H d) (hg : H g = some (.lst xs)) : PlcE l n x i (upd H g o) d := by
  rcases h with ⟨a, kvs, b, c⟩ | ⟨a, b⟩
  · exact .inl ⟨a, kvs, b.upd hg, c⟩
  · exact .inr ⟨a, by rw [upd_ne (ne_of b hg (fun z => nomatch z))]; exact b⟩
theorem PlcE.ne {l : Lp} {n x : Int} {i : Nat} {H : Hp} {d g : Addr} {xs : List V} (h : PlcE l n x i H d) (hg : H g = some (.lst xs)) : g ≠ d := by
  rcases h with ⟨a, kvs, b, c⟩ | ⟨a, b⟩
  · exact ne_of hg b.at' (fun z => nomatch z)
  · exact ne_of hg b (fun z => nomatch z)
end FWL
namespace FWL
open PySem PySem.Spec PyProof.Rows L2 FW
/-! ### parts by the draws of a row -/
section
variable {K : PySem.W.Frag} {σ : L2.St} {H : Hp} {Q : VK} {L : Addr} {xs : List Int} {N r : Nat} {i m : Int} {ti : TE}
/-- int(row[i]) -/
theorem e_rowI (hσ : σ[r]? = some (some (.ref L))) (hL : SqL K H L (xs.map V.int)) (hr : Row xs N) (hti : ∀ R : VK, R (.int i) H → ti σ H R) (h0 : 0 ≤ i) (h1 : i < N) (k : ∀ y, 0 ≤ y → y < 1000 → Q (.int y) H) :
    tCB FW.rInt1 (tCons (tOp (rIxL K) (tVar r) ti) tNil) σ H Q := by
  obtain ⟨y, y0, y1, hy⟩ := row_at hr h0 h1
  exact e_cb (e_cons (e_op (e_var (hti _ (e_ixL (e_nil (e_int (k y y0 y1))) hL hy)) hσ)))
/-- int(row[i]) % m -/
theorem e_rowM (hσ : σ[r]? = some (some (.ref L))) (hL : SqL K H L (xs.map V.int)) (hr : Row xs N) (hti : ∀ R : VK, R (.int i) H → ti σ H R) (h0 : 0 ≤ i) (h1 : i < N) (hm : 0 < m) (k : ∀ y, 0 ≤ y → y < m → Q (.int y) H) :
    tOp FW.rMod (tCB FW.rInt1 (tCons (tOp (rIxL K) (tVar r) ti) tNil)) (tC (.int m)) σ H Q :=
  e_op (e_rowI hσ hL hr hti h0 h1 fun y y0 y1 => e_c (e_I (k _ (Int.emod_nonneg _ (by omega)) (Int.emod_lt_of_pos _ hm)) hm))
/-- int(row[i]) // c % m -/
theorem e_rowD {c : Int} (hσ : σ[r]? = some (some (.ref L))) (hL : SqL K H L (xs.map V.int)) (hr : Row xs N) (hti : ∀ R : VK, R (.int i) H → ti σ H R) (h0 : 0 ≤ i) (h1 : i < N) (hc : 0 < c) (hcs : c < 1024) (hm : 0 < m) (k : ∀ y, 0 ≤ y → y < m → Q (.int y) H) :
    tOp FW.rMod (tOp FW.rDiv (tCB FW.rInt1 (tCons (tOp (rIxL K) (tVar r) ti) tNil)) (tC (.int c))) (tC (.int m)) σ H Q :=
  e_op (e_op (e_rowI hσ hL hr hti h0 h1 fun y y0 y1 => e_c (e_I (e_c (e_I (k _ (Int.emod_nonneg _ (by omega)) (Int.emod_lt_of_pos _ hm)) hm)) (wide_div (b := 10) hc (by show c.natAbs < 1024; omega) (by decide) (by decide)))))
/-- [v, ..][i] -/
theorem e_pickC {tA : TA} {vs : List V} (hA : ∀ R : List V → Hp → Prop, R vs H → tA σ H R) (hz : vs.length ≤ 1000) (hi : ∀ (H1 : Hp) (R : VK), Ext H H1 → (∀ y : Int, 0 ≤ y → y < vs.length → R (.int y) H1) → ti σ H1 R) (k : ∀ v H1, v ∈ vs → Ext H H1 → Q v H1) :
    tOp (rIxL K) (tLst tA) ti σ H Q := by
  refine e_op (e_lst (hA _ ⟨Nat.le_trans hz (by decide), fun p hp => hi _ _ (Ext.new hp) fun y y0 y1 => ?_⟩))
  obtain ⟨v, hv, hat⟩ := list_at (xs := vs) (i := y) y0 y1
  exact e_ixL (k v _ hv (Ext.new hp)) (SqL.of upd_same) hat
/-- a + c -/
theorem e_ixp {a : Nat} {x c : Int} {R : VK} (h : σ[a]? = some (some (.int x))) (k : R (.int (x + c)) H) : tOp FW.rAdd (tVar a) (tC (.int c)) σ H R := e_op (e_var (e_c (e_I0 k)) h)
theorem e_ixv {a : Nat} {x : Int} {R : VK} (h : σ[a]? = some (some (.int x))) (k : R (.int x) H) : tVar a σ H R := e_var k h
end
def okW2 (k a c : Int) : Bool := decide (c * (k - 1) ≤ a)
def wRow2 (k a : Int) (cs : List Int) : List (Int × Int) := (cs.filter (okW2 k a)).map fun c => (a, c)
def rgI (n : Nat) : List Int := (List.range n).map fun (j : Nat) => 1 + (j : Int)
def wAll2 (k : Int) : Nat → List (Int × Int)
  | 0 => []
  | n + 1 => wAll2 k n ++ wRow2 k (1 + (n : Int)) (rgI (5 - n))
theorem wRow2_snoc (k a c : Int) (cs : List Int) : wRow2 k a (cs ++ [c]) = if okW2 k a c = true then wRow2 k a cs ++ [(a, c)] else wRow2 k a cs := by
  unfold wRow2
  rw [List.filter_append]
  cases h : okW2 k a c <;> simp [List.filter_cons, h]
theorem wRow2_len (k a : Int) (cs : List Int) : (wRow2 k a cs).length ≤ cs.length := by
  unfold wRow2
  rw [List.length_map]
  exact List.length_filter_le _ _
theorem rgI_len (n : Nat) : (rgI n).length = n := by unfold rgI; rw [List.length_map, List.length_range]
theorem rgI_succ (n : Nat) : rgI (n + 1) = rgI n ++ [1 + (n : Int)] := by unfold rgI; rw [List.range_succ, List.map_append]; rfl
theorem wAll2_len (k : Int) : ∀ n, (wAll2 k n).length ≤ 5 * n
  | 0 => by simp [wAll2]
  | n + 1 => by
    have := wAll2_len k n
    have := wRow2_len k (1 + (n : Int)) (rgI (5 - n))
    rw [rgI_len] at this
    rw [wAll2, List.length_append]
    omega
def sp_l_weights2 (K : PySem.W.Frag) : Sp := fun vs H Q _ => ∃ k : Int, vs = [.int k] ∧ 2 ≤ k ∧ k ≤ 4 ∧ ∀ l ts H', H l = none → Ext H H' → H' l = some (.lst ts) → Prs H' ts (wAll2 k 5) → Q (.ref l) H'
def rd_l_weights2_L1 (K : PySem.W.Frag) : TS := tDrop (tBM K "list" rExtend (tVar 1) (tCons (tLc (iRng2 (tCons (tC (.int 1)) (tCons (tOp FW.rSub (tC (.int 7)) (tVar 2)) (tNil)))) (gName 3) (tTest (tOp FW.rGe (tVar 2) (tOp FW.rMul (tVar 3) (tOp FW.rSub (tVar 0) (tC (.int 1)))))) (tTup (tCons (tVar 2) (tCons (tVar 3) (tNil)))) [3]) (tNil)))
def rd_l_weights2 (K : PySem.W.Frag) : TS := tSeq (tAsg (tLst (tNil)) (gName 1)) (tSeq (tFor (iRng2 (tCons (tC (.int 1)) (tCons (tC (.int 6)) (tNil)))) (gName 2) (rd_l_weights2_L1 K)) (tRet (tVar 1)))
theorem pure_l_weights2 (K : PySem.W.Frag) (vs : List V) (H : Hp) (Q : VK) (E : XK) (h : sp_l_weights2 K vs H Q E) : rd_l_weights2 K { nx := fun _ H' => Q .non H', rt := Q } (start ["_law_k", "_law_found", "_law_a", "_law_c"] vs) H := by
  obtain ⟨k, rfl, h2, h4, q⟩ := h
  unfold rd_l_weights2
  walk_at "rd"
  refine ⟨by decide, fun l hl => ?_⟩
  walk_at "rd"
  · refine for_range (lo := 1) (n := 5) (fun i σ H' => Ext H H' ∧ (∃ ts, H' l = some (.lst ts) ∧ Prs H' ts (wAll2 k i)) ∧ ∃ u v, σ = [some (.int k), some (.ref l), u, v]) ⟨Ext.new hl, ⟨[], upd_same, True.intro⟩, _, _, rfl⟩ ?_ ?_
    · rintro i σ H' hi ⟨e, ⟨ts, hts, hp⟩, u, v, rfl⟩
      have hlen := hp.len
      have hwl := wAll2_len k i
      walk_at "re"
      unfold rd_l_weights2_L1
      walk_at "rd"
      refine ⟨.inl ⟨rfl, _, SqL.of hts⟩, ?_⟩
      walk_at "rd"
      · have en : (7 - (1 + (i : Int)) - 1).toNat = 5 - i := by omega
        rw [en]
        intro D hD
        refine lc_range (lo := 1) (n := 5 - i) (fun j H2 => Ext H' H2 ∧ ∃ as, H2 D = some (.lst as) ∧ Prs H2 as (wRow2 k (1 + (i : Int)) (rgI j))) ⟨Ext.new hD, [], upd_same, True.intro⟩ ?_ ?_
        · rintro j H2 hj ⟨e2, as, has, hpr⟩
          have hal : as.length ≤ 5 := by
            rw [hpr.len]
            exact Nat.le_trans (wRow2_len _ _ _) (by rw [rgI_len]; omega)
          have fin : ∀ b : Bool, okW2 k (1 + (i : Int)) (1 + (j : Int)) = b → (if b = true then tTup (tCons (tVar 2) (tCons (tVar 3) tNil)) [some (.int k), some (.ref l), some (.int (1 + (i : Int))), some (.int (1 + (j : Int)))] H2 fun y H4 => ∃ acc, H4 D = some (.lst acc) ∧ acc.length < sizeLine ∧ (Ext H' (L2.upd H4 D (.lst (acc ++ [y]))) ∧ ∃ as, (L2.upd H4 D (.lst (acc ++ [y]))) D = some (.lst as) ∧ Prs (L2.upd H4 D (.lst (acc ++ [y]))) as (wRow2 k (1 + (i : Int)) (rgI (j + 1)))) else (Ext H' H2 ∧ ∃ as, H2 D = some (.lst as) ∧ Prs H2 as (wRow2 k (1 + (i : Int)) (rgI (j + 1))))) := by
            intro b hb'
            rw [rgI_succ, wRow2_snoc, hb']
            cases b with
            | true =>
              rw [if_pos rfl, if_pos rfl]
              walk_at "rd"
              refine ⟨by show 2 ≤ sizeLine; decide, fun t ht => ⟨as, (Ext.new ht) _ _ has, Nat.lt_of_le_of_lt hal (by decide), (e2.tr (Ext.new ht)).upds hD, _, upd_same, ?_⟩⟩
              refine Prs.upd ((Ext.new ht) _ _ has) (Prs.app (hpr.ext (Ext.new ht)) ⟨⟨t, rfl, upd_same⟩, True.intro⟩)
            | false =>
              rw [if_neg (by decide), if_neg (by decide)]
              exact ⟨e2, as, has, hpr⟩
          walk_at "re"
          refine ⟨rfl, ?_⟩
          walk_at "re"
          · exact fin _ rfl
          · exact wide_mul (a := 10) (b := 10) (by omega) (by omega) (by decide) (by decide) (by decide)
        · rintro H2 ⟨e2, as, has, hpr⟩
          have el : H2 l = some (.lst ts) := e2 _ _ hts
          refine ⟨l, D, ts, as, rfl, rfl, el, has, ?_, ?_⟩
          · have := hpr.len
            have := wRow2_len k (1 + (i : Int)) (rgI (5 - i))
            rw [rgI_len] at this
            exact Nat.le_trans (show ts.length + as.length ≤ 100 by omega) (by decide)
          · walk_at "rd"
            refine ⟨(e.tr e2).upds hl, ⟨_, upd_same, ?_⟩, _, _, rfl⟩
            exact Prs.upd el (Prs.app (hp.ext e2) hpr)
      · refine ⟨by decide, by decide, by omega, by omega⟩
    · rintro σ H' ⟨e, ⟨ts, hts, hp⟩, u, v, rfl⟩
      walk_at "rd"
      exact q _ _ _ hl e hts hp
  · decide
theorem weights2_ok {k : Int} (h2 : 2 ≤ k) (h4 : k ≤ 4) : ∀ w ∈ wAll2 k 5, 1 ≤ w.2 ∧ w.2 ≤ 3 ∧ w.2 * (k - 1) ≤ w.1 ∧ w.1 + w.2 ≤ 6 ∧ 1 ≤ w.1 ∧ w.1 ≤ 5 := by
  have : k = 2 ∨ k = 3 ∨ k = 4 := by omega
  rcases this with rfl | rfl | rfl <;> decide
theorem weights2_ne {k : Int} (h2 : 2 ≤ k) (h4 : k ≤ 4) : 0 < (wAll2 k 5).length ∧ (wAll2 k 5).length ≤ 25 := by
  have : k = 2 ∨ k = 3 ∨ k = 4 := by omega
  rcases this with rfl | rfl | rfl <;> decide
def sp_l_loop_parts (K : PySem.W.Frag) : Sp := fun vs H Q _ => ∃ (L : Addr) (xs : List Int) (N : Nat) (a : Int), vs = [.ref L, .int a] ∧ H L = some (.lst (xs.map V.int)) ∧ Row xs N ∧ 0 ≤ a ∧ a + 6 ≤ N ∧
  ∀ t l H', l.Ok → H t = none → Ext H H' → H' t = some (.lst (Lp.V l)) → Q (.ref t) H'
def rd_l_loop_parts (K : PySem.W.Frag) : TS := tSeq (tAsg (tOp (rIxL K) (tLst (tCons (tC (.int 2)) (tCons (tC (.int 2)) (tCons (tC (.int 3)) (tCons (tC (.int 4)) (tNil)))))) (tOp FW.rMod (tCB FW.rInt1 (tCons (tOp (rIxL K) (tVar 0) (tVar 1)) (tNil))) (tC (.int 4)))) (gName 2)) (tSeq (tAsg (tCall (sp_l_weights2 K) [] E0 (tCons (tVar 2) (tNil))) (gName 3)) (tSeq (tAsg (tOp (rIxL K) (tVar 3) (tOp FW.rMod (tCB FW.rInt1 (tCons (tOp (rIxL K) (tVar 0) (tOp FW.rAdd (tVar 1) (tC (.int 1)))) (tNil))) (tCB (Evl.rLenS K) (tCons (tVar 3) (tNil))))) (gTup K 2 (gCons (gName 4) (gCons (gName 5) (gNil))))) (tSeq (tIfS (tTest (tOp rEq (tOp FW.rMod (tOp FW.rDiv (tCB FW.rInt1 (tCons (tOp (rIxL K) (tVar 0) (tOp FW.rAdd (tVar 1) (tC (.int 1)))) (tNil))) (tC (.int 32))) (tC (.int 2))) (tC (.int 0)))) (tPar 4 5 (tCons (tOp FW.rSub (tVar 2) (tC (.int 1))) (tCons (tC (.int 1)) (tNil)))) (tNext)) (tSeq (tAsg (tOp FW.rSub (tOp FW.rMod (tCB FW.rInt1 (tCons (tOp (rIxL K) (tVar 0) (tOp FW.rAdd (tVar 1) (tC (.int 2)))) (tNil))) (tOp FW.rAdd (tOp FW.rAdd (tOp FW.rMul (tC (.int 2)) (tVar 4)) (tVar 5)) (tC (.int 1)))) (tVar 4)) (gName 6)) (tSeq (tIfS (tTest (tOp rEq (tOp FW.rMod (tOp FW.rDiv (tCB FW.rInt1 (tCons (tOp (rIxL K) (tVar 0) (tOp FW.rAdd (tVar 1) (tC (.int 2)))) (tNil))) (tC (.int 32))) (tC (.int 3))) (tC (.int 0)))) (tAsg (tC (.int 0)) (gName 6)) (tNext)) (tSeq (tAsg (tOp (rIxL K) (tLst (tCons (tC (.str "notless")) (tCons (tC (.str "equal")) (tCons (tC (.str "near1")) (tCons (tC (.str "near2")) (tCons (tC (.str "back")) (tCons (tC (.str "under")) (tCons (tC (.str "held")) (tNil))))))))) (tOp FW.rMod (tCB FW.rInt1 (tCons (tOp (rIxL K) (tVar 0) (tOp FW.rAdd (tVar 1) (tC (.int 3)))) (tNil))) (tC (.int 7)))) (gName 7)) (tSeq (tAsg (tOp (rIxL K) (tLst (tCons (tC (.str "old")) (tCons (tC (.str "new")) (tCons (tC (.str "less")) (tCons (tC (.str "more")) (tNil)))))) (tOp FW.rMod (tCB FW.rInt1 (tCons (tOp (rIxL K) (tVar 0) (tOp FW.rAdd (tVar 1) (tC (.int 4)))) (tNil))) (tC (.int 4)))) (gName 8)) (tSeq (tIfS (tTest (tOp (rIn K false) (tVar 7) (tLst (tCons (tC (.str "under")) (tCons (tC (.str "held")) (tNil)))))) (tAsg (tC (.str "old")) (gName 8)) (tNext)) (tRet (tLst (tCons (tVar 2) (tCons (tVar 4) (tCons (tVar 5) (tCons (tVar 6) (tCons (tVar 7) (tCons (tVar 8) (tCons (tOp (rIxL K) (tLst (tCons (tC (.str "none")) (tCons (tC (.str "down")) (tCons (tC (.str "up")) (tCons (tC (.str "both")) (tNil)))))) (tOp FW.rMod (tCB FW.rInt1 (tCons (tOp (rIxL K) (tVar 0) (tOp FW.rAdd (tVar 1) (tC (.int 5)))) (tNil))) (tC (.int 4)))) (tNil))))))))))))))))))
section
variable {K : PySem.W.Frag} {H : Hp} {Q : VK} {L s : Addr} {xs : List Int} {N : Nat} {a k wa wc d : Int} {u6 u7 u8 : Option V} {D : Ends}
/-- what is known of the numbers -/
structure Nums (k wa wc : Int) : Prop where
  k2 : 2 ≤ k
  k4 : k ≤ 4
  c1 : 1 ≤ wc
  c3 : wc ≤ 3
  ca : wc * (k - 1) ≤ wa
  ac : wa + wc ≤ 6
  a1 : 1 ≤ wa
  a5 : wa ≤ 5
theorem lp_t6 (hL : H L = some (.lst (xs.map V.int))) (hr : Row xs N) (a0 : 0 ≤ a) (aN : a + 6 ≤ N) (w : Nums k wa wc) (d0 : -wa ≤ d) (d1 : d ≤ wa + wc)
    (q : ∀ t l H', l.Ok → H t = none → Ext H H' → H' t = some (.lst (Lp.V l)) → D.rt (.ref t) H') :
    (tSeq (tAsg (tOp (rIxL K) (tLst (tCons (tC (.str "notless")) (tCons (tC (.str "equal")) (tCons (tC (.str "near1")) (tCons (tC (.str "near2")) (tCons (tC (.str "back")) (tCons (tC (.str "under")) (tCons (tC (.str "held")) (tNil))))))))) (tOp FW.rMod (tCB FW.rInt1 (tCons (tOp (rIxL K) (tVar 0) (tOp FW.rAdd (tVar 1) (tC (.int 3)))) (tNil))) (tC (.int 7)))) (gName 7)) (tSeq (tAsg (tOp (rIxL K) (tLst (tCons (tC (.str "old")) (tCons (tC (.str "new")) (tCons (tC (.str "less")) (tCons (tC (.str "more")) (tNil)))))) (tOp FW.rMod (tCB FW.rInt1 (tCons (tOp (rIxL K) (tVar 0) (tOp FW.rAdd (tVar 1) (tC (.int 4)))) (tNil))) (tC (.int 4)))) (gName 8)) (tSeq (tIfS (tTest (tOp (rIn K false) (tVar 7) (tLst (tCons (tC (.str "under")) (tCons (tC (.str "held")) (tNil)))))) (tAsg (tC (.str "old")) (gName 8)) (tNext)) (tRet (tLst (tCons (tVar 2) (tCons (tVar 4) (tCons (tVar 5) (tCons (tVar 6) (tCons (tVar 7) (tCons (tVar 8) (tCons (tOp (rIxL K) (tLst (tCons (tC (.str "none")) (tCons (tC (.str "down")) (tCons (tC (.str "up")) (tCons (tC (.str "both")) (tNil)))))) (tOp FW.rMod (tCB FW.rInt1 (tCons (tOp (rIxL K) (tVar 0) (tOp FW.rAdd (tVar 1) (tC (.int 5)))) (tNil))) (tC (.int 4)))) (tNil))))))))))))) D [some (.ref L), some (.int a), some (.int k), some (.ref s), some (.int wa), some (.int wc), some (.int d), u7, u8] H := by
  have sL : ∀ {H' : Hp}, Ext H H' → SqL K H' L (xs.map V.int) := fun e => SqL.of (e _ _ hL)
  obtain ⟨k2, k4, c1, c3, ca, ac, a1, a5⟩ := w
  with_reducible refine s_seq ?_
  with_reducible refine s_asg ?_
  refine e_pickC (vs := stopsV) (fun R h => by walk_at "rd"; exact h) (by decide) (fun H1 R e1 h => e_rowM rfl (sL e1) hr (fun R h => e_ixp rfl h) (by omega) (by omega) (by decide) h) fun v H1 hv e1 => ?_
  obtain ⟨ws, rfl⟩ := strs_stops v hv
  with_reducible refine s_seq ?_
  with_reducible refine s_asg ?_
  refine e_pickC (vs := toldsV) (fun R h => by walk_at "rd"; exact h) (by decide) (fun H2 R e2 h => e_rowM rfl (sL (e1.tr e2)) hr (fun R h => e_ixp rfl h) (by omega) (by omega) (by decide) h) fun v H2 hv2 e2 => ?_
  obtain ⟨wt, rfl⟩ := strs_tolds v hv2
  have last : ∀ (tt : Str) (H3 : Hp), Ext H H3 → V.str tt ∈ toldsV → (V.str ws ∈ looksV → tt = "old") → ∀ D' : Ends, D'.rt = D.rt → (tRet (tLst (tCons (tVar 2) (tCons (tVar 4) (tCons (tVar 5) (tCons (tVar 6) (tCons (tVar 7) (tCons (tVar 8) (tCons (tOp (rIxL K) (tLst (tCons (tC (.str "none")) (tCons (tC (.str "down")) (tCons (tC (.str "up")) (tCons (tC (.str "both")) (tNil)))))) (tOp FW.rMod (tCB FW.rInt1 (tCons (tOp (rIxL K) (tVar 0) (tOp FW.rAdd (tVar 1) (tC (.int 5)))) (tNil))) (tC (.int 4)))) (tNil)))))))))) D' [some (.ref L), some (.int a), some (.int k), some (.ref s), some (.int wa), some (.int wc), some (.int d), some (.str ws), some (.str tt)] H3 := by
    intro tt H3 e3 htt hlk D' hD
    walk_at "rd"
    refine ⟨by show 4 ≤ sizeLine; decide, fun p hp => ?_⟩
    refine e_rowM rfl (sL (e3.tr (Ext.new hp))) hr (fun R h => e_ixp rfl h) (by omega) (by omega) (by decide) fun y y0 y1 => ?_
    obtain ⟨v, hvm, hat⟩ := list_at (xs := [V.str "none", V.str "down", V.str "up", V.str "both"]) (i := y) y0 y1
    obtain ⟨wm, rfl, hwm⟩ : ∃ x, v = .str x ∧ V.str x ∈ mendsV := by
      simp only [List.mem_cons, List.not_mem_nil, or_false] at hvm
      rcases hvm with rfl | rfl | rfl | rfl <;> exact ⟨_, rfl, by simp [mendsV]⟩
    refine e_ixL ?_ (SqL.of upd_same) hat
    walk_at "rd"
    refine ⟨by show 7 ≤ sizeLine; decide, fun t ht => ?_⟩
    rw [hD]
    exact q t ⟨k, wa, wc, d, ws, tt, wm⟩ _ ⟨by show k = 2 ∨ k = 3 ∨ k = 4; omega, a1, a5, c1, c3, ca, ac, d0, d1, hv, htt, hlk, hwm⟩ ((e3.tr (Ext.new hp)).non ht) ((e3.tr (Ext.new hp)).tr (Ext.new ht)) upd_same
  walk_at "rd"
  refine ⟨by show 2 ≤ sizeLine; decide, fun p hp => ?_⟩
  have e3 := (e1.tr e2).tr (Ext.new (o := .lst [V.str "under", V.str "held"]) hp)
  refine e_in ?_ (.inl (SqL.of upd_same)) rfl rfl
  generalize upd H2 p (.lst [V.str "under", V.str "held"]) = H3 at *
  rw [if_neg (by decide)]
  have e := inV_str ws strs_looks
  rw [show inV (V.str ws) [V.str "under", V.str "held"] = inV (V.str ws) looksV from rfl, e]
  walk_at "re"
  refine e_ite (fun h => ?_) fun h => ?_
  · with_reducible refine s_asg ?_
    refine e_c ?_
    exact last "old" H3 e3 (by simp [toldsV]) (fun _ => rfl) _ rfl
  · with_reducible refine s_next ?_
    exact last wt H3 e3 hv2 (fun z => absurd z h) _ rfl
theorem lp_t4 (hL : H L = some (.lst (xs.map V.int))) (hr : Row xs N) (a0 : 0 ≤ a) (aN : a + 6 ≤ N) (w : Nums k wa wc)
    (q : ∀ t l H', l.Ok → H t = none → Ext H H' → H' t = some (.lst (Lp.V l)) → D.rt (.ref t) H') :
    (tSeq (tAsg (tOp FW.rSub (tOp FW.rMod (tCB FW.rInt1 (tCons (tOp (rIxL K) (tVar 0) (tOp FW.rAdd (tVar 1) (tC (.int 2)))) (tNil))) (tOp FW.rAdd (tOp FW.rAdd (tOp FW.rMul (tC (.int 2)) (tVar 4)) (tVar 5)) (tC (.int 1)))) (tVar 4)) (gName 6)) (tSeq (tIfS (tTest (tOp rEq (tOp FW.rMod (tOp FW.rDiv (tCB FW.rInt1 (tCons (tOp (rIxL K) (tVar 0) (tOp FW.rAdd (tVar 1) (tC (.int 2)))) (tNil))) (tC (.int 32))) (tC (.int 3))) (tC (.int 0)))) (tAsg (tC (.int 0)) (gName 6)) (tNext)) (tSeq (tAsg (tOp (rIxL K) (tLst (tCons (tC (.str "notless")) (tCons (tC (.str "equal")) (tCons (tC (.str "near1")) (tCons (tC (.str "near2")) (tCons (tC (.str "back")) (tCons (tC (.str "under")) (tCons (tC (.str "held")) (tNil))))))))) (tOp FW.rMod (tCB FW.rInt1 (tCons (tOp (rIxL K) (tVar 0) (tOp FW.rAdd (tVar 1) (tC (.int 3)))) (tNil))) (tC (.int 7)))) (gName 7)) (tSeq (tAsg (tOp (rIxL K) (tLst (tCons (tC (.str "old")) (tCons (tC (.str "new")) (tCons (tC (.str "less")) (tCons (tC (.str "more")) (tNil)))))) (tOp FW.rMod (tCB FW.rInt1 (tCons (tOp (rIxL K) (tVar 0) (tOp FW.rAdd (tVar 1) (tC (.int 4)))) (tNil))) (tC (.int 4)))) (gName 8)) (tSeq (tIfS (tTest (tOp (rIn K false) (tVar 7) (tLst (tCons (tC (.str "under")) (tCons (tC (.str "held")) (tNil)))))) (tAsg (tC (.str "old")) (gName 8)) (tNext)) (tRet (tLst (tCons (tVar 2) (tCons (tVar 4) (tCons (tVar 5) (tCons (tVar 6) (tCons (tVar 7) (tCons (tVar 8) (tCons (tOp (rIxL K) (tLst (tCons (tC (.str "none")) (tCons (tC (.str "down")) (tCons (tC (.str "up")) (tCons (tC (.str "both")) (tNil)))))) (tOp FW.rMod (tCB FW.rInt1 (tCons (tOp (rIxL K) (tVar 0) (tOp FW.rAdd (tVar 1) (tC (.int 5)))) (tNil))) (tC (.int 4)))) (tNil))))))))))))))) D [some (.ref L), some (.int a), some (.int k), some (.ref s), some (.int wa), some (.int wc), u6, u7, u8] H := by
  have a1 := w.a1; have a5 := w.a5; have c1 := w.c1; have c3 := w.c3; have ac := w.ac
  with_reducible refine s_seq ?_
  with_reducible refine s_asg ?_
  refine e_op (e_op (e_rowI rfl (SqL.of hL) hr (fun R h => e_ixp rfl h) (by omega) (by omega) fun y y0 y1 => ?_))
  walk_at "re"
  · with_reducible refine s_seq ?_
    with_reducible refine s_if ?_
    refine e_test (e_op (e_rowD rfl (SqL.of hL) hr (fun R h => e_ixp rfl h) (by omega) (by omega) (by decide) (by decide) (by decide) fun z z0 z1 => ?_))
    walk_at "re"
    have m0 := Int.emod_nonneg y (b := 2 * wa + wc + 1) (by omega)
    have m1 := Int.emod_lt_of_pos y (b := 2 * wa + wc + 1) (by omega)
    refine e_ite (fun h => ?_) fun h => ?_
    · with_reducible refine s_asg ?_
      refine e_c ?_
      exact lp_t6 hL hr a0 aN w (by omega) (by omega) q
    · with_reducible refine s_next ?_
      exact lp_t6 hL hr a0 aN w (by omega) (by omega) q
  · show 0 < 2 * wa + wc + 1
    omega
  · exact wide_mul (a := 10) (b := 10) (by decide) (by omega) (by decide) (by decide) (by decide)
end
theorem pure_l_loop_parts (K : PySem.W.Frag) (vs : List V) (H : Hp) (Q : VK) (E : XK) (h : sp_l_loop_parts K vs H Q E) : rd_l_loop_parts K { nx := fun _ H' => Q .non H', rt := Q } (start ["_law_row_here", "_law_at", "_law_k", "_law_some", "_law_a", "_law_c", "_law_d", "_law_stop", "_law_told"] vs) H := by
  obtain ⟨L, xs, N, a, rfl, hL, hr, a0, aN, q⟩ := h
  have sL : ∀ {H' : Hp}, Ext H H' → SqL K H' L (xs.map V.int) := fun e => SqL.of (e _ _ hL)
  unfold rd_l_loop_parts
  with_reducible refine s_seq ?_
  with_reducible refine s_asg ?_
  refine e_pickC (vs := [.int 2, .int 2, .int 3, .int 4]) (fun R h => by walk_at "rd"; exact h) (by decide) (fun H1 R e1 h => e_rowM rfl (sL e1) hr (fun R h => e_ixv rfl h) a0 (by omega) (by decide) h) fun v H1 hv e1 => ?_
  obtain ⟨k, rfl, k2, k4⟩ : ∃ k : Int, v = .int k ∧ 2 ≤ k ∧ k ≤ 4 := by
    simp only [List.mem_cons, List.not_mem_nil, or_false] at hv
    rcases hv with rfl | rfl | rfl | rfl <;> exact ⟨_, rfl, by decide, by decide⟩
  walk_at "rd"
  refine ⟨k, rfl, k2, k4, fun s ts H2 hs e2 hts hpr => ?_⟩
  have e12 := e1.tr e2
  obtain ⟨w1, w2⟩ := weights2_ne k2 k4
  have hlen := hpr.len
  with_reducible refine s_seq ?_
  with_reducible refine s_asgG ?_
  refine e_op (e_var (e_op (e_rowI rfl (sL e12) hr (fun R h => e_ixp rfl h) (by omega) (by omega) fun y y0 y1 => ?_)) rfl)
  refine e_cb (e_cons (e_var (e_nil (e_len (e_I ?_ (by show 0 < (ts.length : Int); omega)) (.inl (SqL.of hts)))) rfl))
  obtain ⟨v, hv, hat⟩ := list_at (xs := ts) (i := y % (ts.length : Int)) (Int.emod_nonneg _ (by omega)) (Int.emod_lt_of_pos _ (by omega))
  refine e_ixL ?_ (SqL.of hts) hat
  obtain ⟨⟨wa, wc⟩, hw, t, rfl, ht⟩ := hpr.mem hv
  obtain ⟨c1, c3, ca, ac, a1, a5⟩ := weights2_ok k2 k4 _ hw
  dsimp only at c1 c3 ca ac a1 a5 ht
  refine g_tup ?_ (SqT.of ht) rfl
  walk_at "re"
  with_reducible refine s_seq ?_
  with_reducible refine s_if ?_
  refine e_test (e_op (e_rowD rfl (sL e12) hr (fun R h => e_ixp rfl h) (by omega) (by omega) (by decide) (by decide) (by decide) fun z z0 z1 => ?_))
  walk_at "re"
  have q' : ∀ t l H', l.Ok → H2 t = none → Ext H2 H' → H' t = some (.lst (Lp.V l)) → Q (.ref t) H' := fun t l H' o h1 h2 h3 => q t l H' o (e12.non h1) (e12.tr h2) h3
  refine e_ite (fun h => ?_) fun h => ?_
  · with_reducible refine s_par ?_
    walk_at "re"
    exact lp_t4 (e12 _ _ hL) hr a0 aN ⟨k2, k4, by decide, by decide, by omega, by omega, by omega, by omega⟩ q'
  · with_reducible refine s_next ?_
    exact lp_t4 (e12 _ _ hL) hr a0 aN ⟨k2, k4, c1, c3, ca, ac, a1, a5⟩ q'
end FWL
namespace FWL
open PySem PySem.Spec PyProof.Rows L2 FW
/-! ### k42: what is drawn -/
def sp_l_drawn_halves (K : PySem.W.Frag) : Sp := fun vs H Q _ => ∃ (L : Addr) (xs : List Int) (N : Nat) (a : Int), vs = [.ref L, .int a] ∧ H L = some (.lst (xs.map V.int)) ∧ Row xs N ∧ 0 ≤ a ∧ a + 7 ≤ N ∧
  ∀ t h H', H t = none → h.Ok → Ext H H' → H' t = some (.lst (Hv.V h)) → Q (.ref t) H'
def rd_l_drawn_halves (K : PySem.W.Frag) : TS := tSeq (tAsg (tLst (tCons (tOp FW.rMod (tCB FW.rInt1 (tCons (tOp (rIxL K) (tVar 0) (tVar 1)) (tNil))) (tC (.int 2))) (tCons (tOp (rIxL K) (tLst (tCons (tC (.str "upto")) (tCons (tC (.str "below")) (tNil)))) (tOp FW.rMod (tCB FW.rInt1 (tCons (tOp (rIxL K) (tVar 0) (tOp FW.rAdd (tVar 1) (tC (.int 1)))) (tNil))) (tC (.int 2)))) (tNil)))) (gName 2)) (tSeq (tAsg (tOp rCat (tVar 2) (tLst (tCons (tOp FW.rMod (tCB FW.rInt1 (tCons (tOp (rIxL K) (tVar 0) (tOp FW.rAdd (tVar 1) (tC (.int 2)))) (tNil))) (tC (.int 2))) (tCons (tOp FW.rMod (tCB FW.rInt1 (tCons (tOp (rIxL K) (tVar 0) (tOp FW.rAdd (tVar 1) (tC (.int 3)))) (tNil))) (tC (.int 2))) (tNil))))) (gName 2)) (tSeq (tAsg (tOp rCat (tVar 2) (tLst (tCons (tOp (rIxL K) (tLst (tCons (tC (.str "less")) (tCons (tC (.str "most")) (tCons (tC (.str "wide")) (tNil))))) (tOp FW.rMod (tCB FW.rInt1 (tCons (tOp (rIxL K) (tVar 0) (tOp FW.rAdd (tVar 1) (tC (.int 4)))) (tNil))) (tC (.int 3)))) (tCons (tOp (rIxL K) (tLst (tCons (tC (.str "low")) (tCons (tC (.str "high")) (tNil)))) (tOp FW.rMod (tCB FW.rInt1 (tCons (tOp (rIxL K) (tVar 0) (tOp FW.rAdd (tVar 1) (tC (.int 5)))) (tNil))) (tC (.int 2)))) (tNil))))) (gName 2)) (tSeq (tDrop (tBM K "list" rAppend (tVar 2) (tCons (tOp FW.rSub (tOp FW.rMod (tCB FW.rInt1 (tCons (tOp (rIxL K) (tVar 0) (tOp FW.rAdd (tVar 1) (tC (.int 6)))) (tNil))) (tC (.int 3))) (tC (.int 1))) (tNil)))) (tSeq (tIfS (tTest (tOp rEq (tOp FW.rMod (tOp FW.rDiv (tCB FW.rInt1 (tCons (tOp (rIxL K) (tVar 0) (tVar 1)) (tNil))) (tC (.int 2))) (tC (.int 3))) (tC (.int 0)))) (tSeq (tAsg (tLst (tCons (tLst (tCons (tC (.int 1)) (tCons (tC (.str "upto")) (tCons (tC (.int 0)) (tCons (tC (.int 1)) (tCons (tC (.str "less")) (tCons (tC (.str "low")) (tCons (tC (.int 0)) (tNil))))))))) (tCons (tLst (tCons (tC (.int 0)) (tCons (tC (.str "upto")) (tCons (tC (.int 1)) (tCons (tC (.int 1)) (tCons (tC (.str "most")) (tCons (tC (.str "high")) (tCons (tC (.int 0)) (tNil))))))))) (tNil)))) (gName 3)) (tSeq (tAsg (tOp rCat (tVar 3) (tLst (tCons (tLst (tCons (tC (.int 0)) (tCons (tC (.str "upto")) (tCons (tC (.int 1)) (tCons (tC (.int 0)) (tCons (tC (.str "less")) (tCons (tC (.str "low")) (tCons (tUn FW.rNeg (tC (.int 1))) (tNil))))))))) (tCons (tLst (tCons (tC (.int 0)) (tCons (tC (.str "upto")) (tCons (tC (.int 0)) (tCons (tC (.int 0)) (tCons (tC (.str "wide")) (tCons (tC (.str "low")) (tCons (tC (.int 0)) (tNil))))))))) (tNil))))) (gName 3)) (tSeq (tAsg (tOp (rIxL K) (tVar 3) (tOp FW.rMod (tOp FW.rDiv (tCB FW.rInt1 (tCons (tOp (rIxL K) (tVar 0) (tOp FW.rAdd (tVar 1) (tC (.int 1)))) (tNil))) (tC (.int 2))) (tC (.int 4)))) (gName 4)) (tSeq (tAsg (tOp FW.rMod (tOp FW.rDiv (tCB FW.rInt1 (tCons (tOp (rIxL K) (tVar 0) (tOp FW.rAdd (tVar 1) (tC (.int 2)))) (tNil))) (tC (.int 2))) (tC (.int 10))) (gName 5)) (tSeq (tIfS (tTest (tOp FW.rLt (tVar 5) (tC (.int 7)))) (tAsg (tOp (rIxL K) (tVar 2) (tVar 5)) (gSub (tVar 4) (tVar 5) rSetL)) (tNext)) (tAsg (tVar 4) (gName 2))))))) (tNext)) (tRet (tVar 2))))))
/-- one part of h is that of g -/
def Hv.put (h g : Hv) : Nat → Hv
  | 0 => { h with up := g.up }
  | 1 => { h with test := g.test }
  | 2 => { h with low := g.low }
  | 3 => { h with high := g.high }
  | 4 => { h with stop := g.stop }
  | 5 => { h with told := g.told }
  | _ => { h with plus := g.plus }
theorem Hv.put_ok {h g : Hv} (o : h.Ok) (o' : g.Ok) (y : Nat) : (h.put g y).Ok := by
  unfold Hv.put
  split
  · exact ⟨o'.up, o.test, o.low, o.high, o.stop, o.told, o.plus⟩
  · exact ⟨o.up, o'.test, o.low, o.high, o.stop, o.told, o.plus⟩
  · exact ⟨o.up, o.test, o'.low, o.high, o.stop, o.told, o.plus⟩
  · exact ⟨o.up, o.test, o.low, o'.high, o.stop, o.told, o.plus⟩
  · exact ⟨o.up, o.test, o.low, o.high, o'.stop, o.told, o.plus⟩
  · exact ⟨o.up, o.test, o.low, o.high, o.stop, o'.told, o.plus⟩
  · exact ⟨o.up, o.test, o.low, o.high, o.stop, o.told, o'.plus⟩
theorem Hv.put_V (h g : Hv) {y : Int} (y0 : 0 ≤ y) (y7 : y < 7) : ∃ v, atI g.V y = some v ∧ ixN h.V.length y = some y.toNat ∧ h.V.set y.toNat v = (h.put g y.toNat).V := by
  have : y = 0 ∨ y = 1 ∨ y = 2 ∨ y = 3 ∨ y = 4 ∨ y = 5 ∨ y = 6 := by omega
  rcases this with rfl | rfl | rfl | rfl | rfl | rfl | rfl <;> exact ⟨_, rfl, rfl, rfl⟩
section
variable {K : PySem.W.Frag} {H : Hp} {Q : VK} {L : Addr} {xs : List Int} {N : Nat} {a : Int} {D : Ends}
theorem pure_l_drawn_halves (K : PySem.W.Frag) (vs : List V) (H : Hp) (Q : VK) (E : XK) (h : sp_l_drawn_halves K vs H Q E) : rd_l_drawn_halves K { nx := fun _ H' => Q .non H', rt := Q } (start ["_law_row_here", "_law_at", "_law_parts", "_law_some", "_law_sound", "_law_change"] vs) H := by
  obtain ⟨L, xs, N, a, rfl, hL, hr, a0, aN, q⟩ := h
  have sL : ∀ {H' : Hp}, Ext H H' → SqL K H' L (xs.map V.int) := fun e => SqL.of (e _ _ hL)
  unfold rd_l_drawn_halves
  -- the first two
  with_reducible refine s_seq ?_
  with_reducible refine s_asg ?_
  refine e_lst (e_cons (e_rowM rfl (SqL.of hL) hr (fun R h => e_ixv rfl h) a0 (by omega) (by decide) fun up u0 u1 => ?_))
  refine e_cons (e_pickC (vs := [.str "upto", .str "below"]) (fun R h => by walk_at "re"; exact h) (by decide) (fun H1 R e1 h => e_rowM rfl (sL e1) hr (fun R h => e_ixp rfl h) (by omega) (by omega) (by decide) h) fun v1 H1 hv1 e1 => ?_)
  obtain ⟨te, rfl, hte⟩ : ∃ s : Str, v1 = .str s ∧ (s = "upto" ∨ s = "below") := by
    simp only [List.mem_cons, List.not_mem_nil, or_false] at hv1
    rcases hv1 with rfl | rfl
    · exact ⟨_, rfl, .inl rfl⟩
    · exact ⟨_, rfl, .inr rfl⟩
  refine e_nil ⟨by show 2 ≤ sizeLine; decide, fun p2 hp2 => ?_⟩
  have e2 := e1.tr (Ext.new (o := .lst [.int up, .str te]) hp2)
  have h2 : (upd H1 p2 (.lst [.int up, .str te])) p2 = some (.lst [.int up, .str te]) := upd_same
  generalize upd H1 p2 (.lst [.int up, .str te]) = H2 at *
  -- the next two
  with_reducible refine s_seq ?_
  with_reducible refine s_asg ?_
  refine e_op (e_var (e_lst (e_cons (e_rowM rfl (sL e2) hr (fun R h => e_ixp rfl h) (by omega) (by omega) (by decide) fun lw w0 w1 => ?_))) rfl)
  refine e_cons (e_rowM rfl (sL e2) hr (fun R h => e_ixp rfl h) (by omega) (by omega) (by decide) fun hg g0 g1 => ?_)
  refine e_nil ⟨by show 2 ≤ sizeLine; decide, fun p3 hp3 => ?_⟩
  have e23 := Ext.new (o := .lst [.int lw, .int hg]) hp3
  refine e_cat (fun p4 hp4 => ?_) (e23 _ _ h2) upd_same (by show 4 ≤ sizeLine; decide)
  have e4 : Ext H (upd (upd H2 p3 (.lst [.int lw, .int hg])) p4 (.lst ([.int up, .str te] ++ [.int lw, .int hg]))) := (e2.tr e23).tr (Ext.new hp4)
  have h4 : (upd (upd H2 p3 (.lst [.int lw, .int hg])) p4 (.lst ([.int up, .str te] ++ [.int lw, .int hg]))) p4 = some (.lst [.int up, .str te, .int lw, .int hg]) := upd_same
  generalize upd (upd H2 p3 (.lst [.int lw, .int hg])) p4 (.lst ([.int up, .str te] ++ [.int lw, .int hg])) = H4 at *
  -- two words
  with_reducible refine s_seq ?_
  with_reducible refine s_asg ?_
  refine e_op (e_var (e_lst (e_cons (e_pickC (vs := [.str "less", .str "most", .str "wide"]) (fun R h => by walk_at "re"; exact h) (by decide) (fun H5 R e5 h => e_rowM rfl (sL (e4.tr e5)) hr (fun R h => e_ixp rfl h) (by omega) (by omega) (by decide) h) fun v5 H5 hv5 e5 => ?_))) rfl)
  obtain ⟨st, rfl, hst'⟩ : ∃ s : Str, v5 = .str s ∧ (s = "less" ∨ s = "most" ∨ s = "wide") := by
    simp only [List.mem_cons, List.not_mem_nil, or_false] at hv5
    rcases hv5 with rfl | rfl | rfl
    · exact ⟨_, rfl, .inl rfl⟩
    · exact ⟨_, rfl, .inr (.inl rfl)⟩
    · exact ⟨_, rfl, .inr (.inr rfl)⟩
  refine e_cons (e_pickC (vs := [.str "low", .str "high"]) (fun R h => by walk_at "re"; exact h) (by decide) (fun H6 R e6 h => e_rowM rfl (sL ((e4.tr e5).tr e6)) hr (fun R h => e_ixp rfl h) (by omega) (by omega) (by decide) h) fun v6 H6 hv6 e6 => ?_)
  obtain ⟨tw, rfl, htw⟩ : ∃ s : Str, v6 = .str s ∧ (s = "low" ∨ s = "high") := by
    simp only [List.mem_cons, List.not_mem_nil, or_false] at hv6
    rcases hv6 with rfl | rfl
    · exact ⟨_, rfl, .inl rfl⟩
    · exact ⟨_, rfl, .inr rfl⟩
  refine e_nil ⟨by show 2 ≤ sizeLine; decide, fun p7 hp7 => ?_⟩
  have e7 := Ext.new (o := .lst [.str st, .str tw]) hp7
  refine e_cat (fun p8 hp8 => ?_) (e7 _ _ (e6 _ _ (e5 _ _ h4))) upd_same (by show 6 ≤ sizeLine; decide)
  have e8 : Ext H (upd (upd H6 p7 (.lst [.str st, .str tw])) p8 (.lst ([.int up, .str te, .int lw, .int hg] ++ [.str st, .str tw]))) := (((e4.tr e5).tr e6).tr e7).tr (Ext.new hp8)
  have hp80 : H p8 = none := (((e4.tr e5).tr e6).tr e7).non hp8
  have h8 : (upd (upd H6 p7 (.lst [.str st, .str tw])) p8 (.lst ([.int up, .str te, .int lw, .int hg] ++ [.str st, .str tw]))) p8 = some (.lst [.int up, .str te, .int lw, .int hg, .str st, .str tw]) := upd_same
  generalize upd (upd H6 p7 (.lst [.str st, .str tw])) p8 (.lst ([.int up, .str te, .int lw, .int hg] ++ [.str st, .str tw])) = H8 at *
  -- the last one
  with_reducible refine s_seq ?_
  refine s_drop (e_bm (e_var ?_ rfl))
  refine ⟨.inl ⟨rfl, _, SqL.of h8⟩, ?_⟩
  refine e_cons (e_op (e_rowM rfl (sL e8) hr (fun R h => e_ixp rfl h) (by omega) (by omega) (by decide) fun pl p0 p1 => e_c (e_I0 ?_)))
  refine e_nil ⟨p8, _, _, rfl, rfl, h8, by show 6 < 2 ^ 24; decide, ?_⟩
  have e9 : Ext H (upd H8 p8 (.lst ([.int up, .str te, .int lw, .int hg, .str st, .str tw] ++ [.int (pl - 1)]))) := at_new e8 hp80
  have h9 : (upd H8 p8 (.lst ([.int up, .str te, .int lw, .int hg, .str st, .str tw] ++ [.int (pl - 1)]))) p8 = some (.lst (Hv.V ⟨up, te, lw, hg, st, tw, pl - 1⟩)) := upd_same
  have o9 : Hv.Ok ⟨up, te, lw, hg, st, tw, pl - 1⟩ := ⟨by show up = 0 ∨ up = 1; omega, hte, by show lw = 0 ∨ lw = 1; omega, by show hg = 0 ∨ hg = 1; omega, hst', htw, by show pl - 1 = -1 ∨ pl - 1 = 0 ∨ pl - 1 = 1; omega⟩
  generalize upd H8 p8 (.lst ([.int up, .str te, .int lw, .int hg, .str st, .str tw] ++ [.int (pl - 1)])) = H9 at *
  generalize (⟨up, te, lw, hg, st, tw, pl - 1⟩ : Hv) = g at *
  with_reducible refine s_seq ?_
  with_reducible refine s_if ?_
  refine e_test (e_op (e_rowD rfl (sL e9) hr (fun R h => e_ixv rfl h) a0 (by omega) (by decide) (by decide) (by decide) fun y y0 y1 => ?_))
  walk_at "re"
  refine e_ite (fun _ => ?_) (fun _ => ?_)
  · with_reducible refine s_seq ?_
    with_reducible refine s_asg ?_
    walk_at "re"
    refine ⟨by show 7 ≤ sizeLine; decide, fun s1 hs1 => ?_⟩
    have f1 := Ext.new (o := .lst [.int 1, .str "upto", .int 0, .int 1, .str "less", .str "low", .int 0]) hs1
    have k1 : (upd H9 s1 (.lst [.int 1, .str "upto", .int 0, .int 1, .str "less", .str "low", .int 0])) s1 = some (.lst (Hv.V ⟨1, "upto", 0, 1, "less", "low", 0⟩)) := upd_same
    generalize upd H9 s1 (.lst [.int 1, .str "upto", .int 0, .int 1, .str "less", .str "low", .int 0]) = G1 at *
    walk_at "re"
    refine ⟨by show 7 ≤ sizeLine; decide, fun s2 hs2 => ?_⟩
    have f2 := Ext.new (o := .lst [.int 0, .str "upto", .int 1, .int 1, .str "most", .str "high", .int 0]) hs2
    have k2 : (upd G1 s2 (.lst [.int 0, .str "upto", .int 1, .int 1, .str "most", .str "high", .int 0])) s2 = some (.lst (Hv.V ⟨0, "upto", 1, 1, "most", "high", 0⟩)) := upd_same
    generalize upd G1 s2 (.lst [.int 0, .str "upto", .int 1, .int 1, .str "most", .str "high", .int 0]) = G2 at *
    walk_at "re"
    refine ⟨by show 2 ≤ sizeLine; decide, fun r1 hr1 => ?_⟩
    have fa := Ext.new (o := .lst [.ref s1, .ref s2]) hr1
    have ka : (upd G2 r1 (.lst [.ref s1, .ref s2])) r1 = some (.lst [.ref s1, .ref s2]) := upd_same
    generalize upd G2 r1 (.lst [.ref s1, .ref s2]) = Ga at *
    with_reducible refine s_seq ?_
    with_reducible refine s_asg ?_
    walk_at "re"
    refine ⟨by show 7 ≤ sizeLine; decide, fun s3 hs3 => ?_⟩
    have f3 := Ext.new (o := .lst [.int 0, .str "upto", .int 1, .int 0, .str "less", .str "low", .int (-1)]) hs3
    have k3 : (upd Ga s3 (.lst [.int 0, .str "upto", .int 1, .int 0, .str "less", .str "low", .int (-1)])) s3 = some (.lst (Hv.V ⟨0, "upto", 1, 0, "less", "low", -1⟩)) := upd_same
    generalize upd Ga s3 (.lst [.int 0, .str "upto", .int 1, .int 0, .str "less", .str "low", .int (-1)]) = G3 at *
    walk_at "re"
    refine ⟨by show 7 ≤ sizeLine; decide, fun s4 hs4 => ?_⟩
    have f4 := Ext.new (o := .lst [.int 0, .str "upto", .int 0, .int 0, .str "wide", .str "low", .int 0]) hs4
    have k4 : (upd G3 s4 (.lst [.int 0, .str "upto", .int 0, .int 0, .str "wide", .str "low", .int 0])) s4 = some (.lst (Hv.V ⟨0, "upto", 0, 0, "wide", "low", 0⟩)) := upd_same
    generalize upd G3 s4 (.lst [.int 0, .str "upto", .int 0, .int 0, .str "wide", .str "low", .int 0]) = G4 at *
    walk_at "re"
    refine ⟨by show 2 ≤ sizeLine; decide, fun r2 hr2 => ?_⟩
    have fb := Ext.new (o := .lst [.ref s3, .ref s4]) hr2
    have f14 := f3.tr (f4.tr fb)
    refine e_cat (fun r3 hr3 => ?_) (f14 _ _ ka) upd_same (by show 4 ≤ sizeLine; decide)
    have fc : Ext (upd G4 r2 (.lst [.ref s3, .ref s4])) (upd (upd G4 r2 (.lst [.ref s3, .ref s4])) r3 (.lst ([.ref s1, .ref s2] ++ [.ref s3, .ref s4]))) := Ext.new hr3
    have kc : (upd (upd G4 r2 (.lst [.ref s3, .ref s4])) r3 (.lst ([.ref s1, .ref s2] ++ [.ref s3, .ref s4]))) r3 = some (.lst [.ref s1, .ref s2, .ref s3, .ref s4]) := upd_same
    have fbc := fb.tr fc
    have fall9 : Ext H9 (upd (upd G4 r2 (.lst [.ref s3, .ref s4])) r3 (.lst ([.ref s1, .ref s2] ++ [.ref s3, .ref s4]))) := f1.tr (f2.tr (fa.tr (f3.tr (f4.tr fbc))))
    have hall : ∀ v ∈ [V.ref s1, .ref s2, .ref s3, .ref s4], ∃ s h, v = .ref s ∧ Hv.Ok h ∧ H s = none ∧ (upd (upd G4 r2 (.lst [.ref s3, .ref s4])) r3 (.lst ([.ref s1, .ref s2] ++ [.ref s3, .ref s4]))) s = some (.lst (Hv.V h)) := by
      intro v hv
      have g4 := fbc
      have g3 := f4.tr g4
      have g2 := (fa.tr f3).tr g3
      have g1 := f2.tr g2
      simp only [List.mem_cons, List.not_mem_nil, or_false] at hv
      rcases hv with rfl | rfl | rfl | rfl
      · exact ⟨s1, _, rfl, ⟨.inr rfl, .inl rfl, .inl rfl, .inr rfl, .inl rfl, .inl rfl, .inr (.inl rfl)⟩, e9.non hs1, g1 _ _ k1⟩
      · exact ⟨s2, _, rfl, ⟨.inl rfl, .inl rfl, .inr rfl, .inr rfl, .inr (.inl rfl), .inr rfl, .inr (.inl rfl)⟩, (e9.tr f1).non hs2, g2 _ _ k2⟩
      · exact ⟨s3, _, rfl, ⟨.inl rfl, .inl rfl, .inr rfl, .inl rfl, .inl rfl, .inl rfl, .inl rfl⟩, (e9.tr (f1.tr (f2.tr fa))).non hs3, g3 _ _ k3⟩
      · exact ⟨s4, _, rfl, ⟨.inl rfl, .inl rfl, .inl rfl, .inl rfl, .inr (.inr rfl), .inl rfl, .inr (.inl rfl)⟩, (e9.tr (f1.tr (f2.tr (fa.tr f3)))).non hs4, g4 _ _ k4⟩
    generalize upd (upd G4 r2 (.lst [.ref s3, .ref s4])) r3 (.lst ([.ref s1, .ref s2] ++ [.ref s3, .ref s4])) = G5 at *
    have eG := e9.tr fall9
    with_reducible refine s_seq ?_
    with_reducible refine s_asg ?_
    refine e_op (e_var (e_rowD rfl (sL eG) hr (fun R h => e_ixp rfl h) (by omega) (by omega) (by decide) (by decide) (by decide) fun y y0 y1 => ?_) rfl)
    obtain ⟨v, hv, hat⟩ := list_at (xs := [V.ref s1, .ref s2, .ref s3, .ref s4]) (i := y) y0 y1
    obtain ⟨s, h, rfl, o, hs0, hs⟩ := hall v hv
    refine e_ixL ?_ (SqL.of kc) hat
    with_reducible refine s_seq ?_
    with_reducible refine s_asg ?_
    refine e_rowD rfl (sL eG) hr (fun R h => e_ixp rfl h) (by omega) (by omega) (by decide) (by decide) (by decide) fun z z0 z1 => ?_
    with_reducible refine s_seq ?_
    with_reducible refine s_if ?_
    walk_at "re"
    refine e_ite (fun z7 => ?_) (fun _ => ?_)
    · obtain ⟨v, hv1, hv2, hv3⟩ := h.put_V g z0 z7
      walk_at "rd"
      refine e_ixL ?_ (SqL.of (fall9 _ _ h9)) hv1
      walk_at "rd"
      refine e_setL ?_ hs hv2
      rw [hv3]
      walk_at "rd"
      exact q _ _ _ hs0 (h.put_ok o o9 _) (at_new eG hs0) upd_same
    · walk_at "rd"
      exact q _ h G5 hs0 o eG hs
  · with_reducible refine s_next ?_
    walk_at "rd"
    exact q _ g H9 hp80 o9 e9 h9
end
end FWL
/-! exceptions whose context is None or one further exception -/
namespace L2C
open PySem PySem.Spec PyProof.Rows L2
/-- class, dict and context of an exception's record -/
def Zk (c cls : Value) (d : Option Addr) : Obj → Prop := fun o => Zc cls d o ∧ ∀ fs : Array Value, o.data = .fields fs → fs[2]? = some c
theorem fields_keep {fs : Array Value} {v c : Value} (h : fs[2]? = some c) : (fs.setIfInBounds 1 v)[2]? = some c := by
  have e : (fs.setIfInBounds 1 v)[2]? = fs[2]? := by simp [Array.getElem?_setIfInBounds]
  rw [e, h]
theorem Zk.steady {c cls : Value} {d : Option Addr} : PXN.Steady1 (Zk c cls d) := fun o v ⟨⟨z1, z2⟩, z3⟩ => by
  refine ⟨⟨(Obj.cls_mapFields ..).trans z1, (HandSPX.dict_mapFields ..).trans z2⟩, fun fs q => ?_⟩
  obtain ⟨oc, od, dat, sl⟩ := o
  cases dat with
  | fields f0 =>
    have q' : Data.fields (f0.setIfInBounds 1 v) = Data.fields fs := q
    cases q'
    exact fields_keep (z3 f0 rfl)
  | _ => cases q
theorem Zk.of {cls : Value} {d : Option Addr} {o : Obj} (h : L2N.Zn cls d o) : Zk .none cls d o := ⟨⟨h.1, h.2.1⟩, h.2.2⟩
/-- a further exception, whose own context is None -/
def Last (q : Addr × Obj) : Prop := ∃ fs : Array Value, q.2.data = .fields fs ∧ fs[2]? = some .none
theorem Last.nocell {q : Addr × Obj} (h : Last q) : ∀ v, q.2.data ≠ .cell v := fun v z => by
  obtain ⟨fs, e, _⟩ := h
  rw [e] at z
  cases z
/-- what stands at the context c, within a def -/
def CtxOk (X : Cx) (pins : List (Addr × Obj)) (c : Value) : Prop := c = .none ∨ ∃ q ∈ pins, c = .ref q.1 ∧ Last q ∧ X.s_0.heap.get? q.1 = none
/-- the same, behind a call that began at s -/
def CtxB (s : Shared) (B : Heap) (H : Hp) (c : Value) : Prop := c = .none ∨ ∃ q : Addr × Obj, c = .ref q.1 ∧ Last q ∧ s.heap.get? q.1 = none ∧ B.get? q.1 = some q.2 ∧ H q.1 = none
/-- an exception in the air of X -/
def XE (X : Cx) (W : WX) (u : Value) (s' : Shared) : Prop :=
  ∃ (a : Addr) (B : Heap) (sI : Shared) (pins : List (Addr × Obj)) (σ : L2.St) (H : Hp) (cls : Value) (d : Option Addr) (c : Value),
    u = .ref a ∧ Inv X pins σ H sI ∧ (∀ b o, sI.heap.get? b = some o → b ∉ frs X.stack → B.get? b = some o) ∧ sI.heap.UpToSlots s'.heap ∧
      Sky B X.stack a (Zk c cls d) X.env.locals s'.heap ∧ H a = none ∧ s'.os = sI.os ∧ AllBare s'.gens ∧ CtxOk X pins c ∧ W cls d σ H
def Takes (X : Cx) (W : WX) : Prop := ∀ u s', XE X W u s' → X.xe u s'
/-- behind a call that let it out -/
def CX (P : Program) (w : World) (outer : List Env) (H : Hp) (s : Shared) (E : XK) (u : Value) (s' : Shared) : Prop :=
  ∃ (a : Addr) (B : Heap) (H' : Hp) (cls : Value) (d : Option Addr) (c : Value), u = .ref a ∧ HandSPX.FlyingZ B outer a (Zk c cls d) s'.heap ∧ HOk P w H' B ∧ UB (frs outer) H H' s.heap B s'.heap ∧ H' a = none ∧ s'.os = s.os ∧ AllBare s'.gens ∧ CtxB s B H' c ∧ E cls d H'
section
variable {X : Cx} {pins : List (Addr × Obj)} {σ : L2.St} {H : Hp} {sI s s' : Shared} {B : Heap} {W : WX} {E : XK}
/-- one more object is pinned -/
theorem inv_pin (I : Inv X pins σ H s) {q : Addr × Obj} (g : s.heap.get? q.1 = some q.2) (n : H q.1 = none) (nl : q.1 ≠ X.env.locals) (nf : q.1 ∉ X.fs) (nc : ∀ v, q.2.data ≠ .cell v) : Inv X (q :: pins) σ H s where
  ok := I.ok
  os := I.os
  bare := I.bare
  base := I.base
  loc := I.loc
  cell := I.cell
  free := I.free
  freeC := I.freeC
  hok := I.hok
  len := I.len
  pin := fun p hp => by
    rcases List.mem_append.mp hp with z | z
    · exact I.pin p (List.mem_append_left _ z)
    · rcases List.mem_cons.mp z with rfl | z
      · exact ⟨g, n, nl, nf, nc⟩
      · exact I.pin p (List.mem_append_right _ z)
/-- what is not there now was not there at the def's start -/
theorem new_0 (I : Inv X pins σ H s) (hx : X.ex = []) {b : Addr} (h : s.heap.get? b = none) : X.s_0.heap.get? b = none := by
  cases e : X.s_0.heap.get? b with
  | none => rfl
  | some o =>
    obtain ⟨o', z⟩ := I.base.there b o e (by rw [hx]; simp)
    rw [h] at z
    cases z
theorem new_apart (I : Inv X pins σ H s) (hx : X.ex = []) {b : Addr} (h : s.heap.get? b = none) : b ≠ X.env.locals ∧ b ∉ X.fs := by
  refine ⟨fun z => ?_, fun m => ?_⟩
  · obtain ⟨_, ⟨o, _, _, g, _⟩, _⟩ := I.loc
    rw [z, g] at h
    cases h
  · obtain ⟨_, o, g, _⟩ := I.ok.funs.mem m
    rw [new_0 I hx h] at g
    cases g
/-- what a call let out is in our air -/
theorem XE.of_call (hx : X.ex = []) (I : Inv X pins σ H s) (hW : ∀ cls d H', E cls d H' → W cls d σ H') {u : Value} (k : CX X.prog X.w X.stack H s E u s') : XE X W u s' := by
  obtain ⟨a, B, H', cls, d, c, rfl, fl, hok, ub, na, os, ag, cb, hE⟩ := k
  have stays := fl.1
  obtain ⟨G, in1, out1⟩ := restrict s'.heap fun b => decide (b ∈ frs X.stack) || (B.get? b).isSome
  have ofB : ∀ b o, B.get? b = some o → G.get? b = some o := fun b o e => (in1 b (by simp [e])).trans (stays b o e)
  have ofF : ∀ b, b ∈ frs X.stack → G.get? b = s'.heap.get? b := fun b m => in1 b (by simp [m])
  have back : ∀ b o, G.get? b = some o → s'.heap.get? b = some o ∧ (b ∉ frs X.stack → B.get? b = some o) := fun b o e => by
    by_cases m : b ∈ frs X.stack
    · exact ⟨(ofF b m).symm.trans e, fun z => absurd m z⟩
    · cases z : B.get? b with
      | none =>
        rw [out1 b (by simp [m, z])] at e
        cases e
      | some o' =>
        rw [ofB b o' z] at e
        cases e
        exact ⟨stays b o z, fun _ => rfl⟩
  have J : Inv X pins σ H' { s with heap := G, gens := s'.gens, drawn := s'.drawn, toks := s'.toks } := by
    refine I.call (ch := []) ⟨fun b o e n m _ => ofB b o (ub.keep b o e n m), fun b o e n m _ => ?_, fun b o e n _ => ub.free b o e n, fun b o e _ => ?_, ub.tups, ub.frzs, ub.tbls⟩ (hok.kept ofB) ag (fun _ z => nomatch z)
    · obtain ⟨sl, z⟩ := ub.slot b o e m
      exact ⟨sl, (ofF b m).trans z⟩
    · by_cases m : b ∈ frs X.stack
      · obtain ⟨sl, z⟩ := ub.slot b o e m
        exact ⟨_, (ofF b m).trans z⟩
      · obtain ⟨o', z⟩ := ub.there b o e m
        exact ⟨o', ofB b o' z⟩
  have rest : ∀ ps, Inv X ps σ H' { s with heap := G, gens := s'.gens, drawn := s'.drawn, toks := s'.toks } → CtxOk X ps c → XE X W (.ref a) s' := fun ps Jp ck =>
    ⟨a, B, { s with heap := G, gens := s'.gens, drawn := s'.drawn, toks := s'.toks }, ps, σ, H', cls, d, c, rfl, Jp, fun b o e m => (back b o e).2 m, Heap.UpToSlots.of_keeps fun b o e => (back b o e).1, .inr (.inl fl), na, os, ag, ck, hW _ _ _ hE⟩
  rcases cb with rfl | ⟨q, rfl, lq, gq, bq, hq⟩
  · exact rest pins J (.inl rfl)
  · have ap := new_apart I hx gq
    exact rest (q :: pins) (inv_pin J (ofB _ _ bq) hq ap.1 ap.2 lq.nocell) (.inr ⟨q, List.mem_cons_self, rfl, lq, new_0 I hx gq⟩)
/-- a new exception is in our air -/
theorem XE.new {a : Addr} {oe : Obj} {fs : Array Value} {cls : Value} {d : Option Addr} {c : Value} (I : Inv X pins σ H sI) (k : ∀ b o, sI.heap.get? b = some o → s'.heap.get? b = some o) (hne : sI.heap.get? a = none) (he : s'.heap.get? a = some oe)
    (hz : Zk c cls d oe) (hd : oe.data = .fields fs) (h1 : fs[1]? = some .none) (na : H a = none) (os : s'.os = sI.os) (ag : AllBare s'.gens) (ck : CtxOk X pins c) (w : W cls d σ H) : XE X W (.ref a) s' := by
  have gone : (PySem.W.hideAll sI.heap (frs X.stack)).get? a = none := by
    cases q : (PySem.W.hideAll sI.heap (frs X.stack)).get? a with
    | none => rfl
    | some o => exact absurd (PySem.W.of_hideAll _ q) (by rw [hne]; simp)
  have ff : s'.heap.FunFrames (PySem.W.hideAll sI.heap (frs X.stack)) X.stack := Heap.FunFrames.of_keeps (fun b o e _ => ⟨o, k b o e, rfl⟩) (funFrames_none I.stack fun b m => PySem.W.hideAll_none _ m)
  exact ⟨a, _, sI, pins, σ, H, cls, d, c, rfl, I, fun b o e m => PySem.W.hideAll_get _ e m, Heap.UpToSlots.of_keeps k, .inl ⟨fun b o e => k b o (PySem.W.of_hideAll _ e), gone, ff, oe, fs, he, hz, hd, h1⟩, na, os, ag, ck, w⟩
/-- what stands of an exception at the end of a def, whatever became of the def's own names -/
def Going (X : Cx) (E : XK) (a : Addr) (s' : Shared) : Prop :=
  ∃ (B : Heap) (H : Hp) (cls : Value) (d : Option Addr) (c : Value), Sky B X.stack a (Zk c cls d) X.env.locals s'.heap ∧ HOk X.prog X.w H B ∧ UB (frs X.outer) X.H_0 H X.s_0.heap B s'.heap ∧ H a = none ∧ s'.os = X.s_0.os ∧ AllBare s'.gens ∧ CtxB X.s_0 B H c ∧ E cls d H
theorem UB.up {F : List Addr} {H H' : Hp} {h B g g' : Heap} (u : UB F H H' h B g) (nf : ∀ b ∈ F, ∀ o, h.get? b = some o → ∀ fs, o.data ≠ .fields fs) (up : g.UpToSlots g') : UB F H H' h B g' := by
  refine ⟨u.keep, fun b o e m => ?_, u.free, u.there, u.tups, u.frzs, u.tbls⟩
  obtain ⟨sl, z⟩ := u.slot b o e m
  obtain ⟨s2, y⟩ := up b _ z fun fs => nf b m o e fs
  exact ⟨s2, y⟩
theorem parts (hs : X.stack = X.env :: X.outer) (hx : X.ex = []) {ps : List (Addr × Obj)} {τ : L2.St} {G : Hp} {c : Value} (I : Inv X ps τ G sI) (nb : ∀ b o, sI.heap.get? b = some o → b ∉ frs X.stack → B.get? b = some o) (up : sI.heap.UpToSlots s'.heap) (os : s'.os = sI.os) (ck : CtxOk X ps c) :
    HOk X.prog X.w G B ∧ UB (frs X.outer) X.H_0 G X.s_0.heap B s'.heap ∧ s'.os = X.s_0.os ∧ CtxB X.s_0 B G c := by
  have out : ∀ b, b ∉ X.ex := fun b => by rw [hx]; simp
  have nst : ∀ b o, X.s_0.heap.get? b = some o → b ∉ X.fs → b ∉ frs X.stack := fun b o e nf m => by
    rcases List.mem_cons.mp (I.stkSub b m) with z | z
    · exact absurd (Heap.lt_size e) (by rw [z]; exact Nat.not_lt.mpr I.ok.above)
    · exact nf z
  have nsub : ∀ b, b ≠ X.env.locals → b ∉ X.fs → b ∉ frs X.stack := fun b h1 h2 m => (List.mem_cons.mp (I.stkSub b m)).elim h1 h2
  refine ⟨I.inGround nb, ⟨fun b o e n m => nb b o (I.base.keep b o e n m (out b)) (nst b o e m), fun b o e m => ?_, fun b o e n => I.base.free b o e n (out b), fun b o e m => ?_, I.base.tups, I.base.frzs, I.base.tbls⟩, os.trans I.os, ?_⟩
  · obtain ⟨_, o0, e0, nf⟩ := I.ok.funs.mem m
    rw [e] at e0
    cases e0
    obtain ⟨sl, z⟩ := I.base.slot b o e (I.ok.frf b m) m (out b)
    obtain ⟨s2, y⟩ := up b _ z nf
    exact ⟨s2, y⟩
  · obtain ⟨o', z⟩ := I.base.there b o e (out b)
    exact ⟨o', nb b o' z (nst b o e m)⟩
  · rcases ck with rfl | ⟨q, mq, rfl, lq, nq⟩
    · exact .inl rfl
    · obtain ⟨g, hn, nl, nf, _⟩ := I.pin q (List.mem_append_right _ mq)
      exact .inr ⟨q, rfl, lq, nq, nb _ _ g (nsub _ nl nf), hn⟩
theorem Going.of (hs : X.stack = X.env :: X.outer) (hx : X.ex = []) {a : Addr} (h : XE X (fun cls d _ H => E cls d H) (.ref a) s') : Going X E a s' := by
  obtain ⟨a', B, sI, ps, τ, G, cls, d, c, e, I, nb, up, sky, na, os, ag, ck, w⟩ := h
  cases e
  obtain ⟨h1, h2, h3, h4⟩ := parts hs hx I nb up os ck
  exact ⟨B, G, cls, d, c, sky, h1, h2, na, h3, ag, h4, w⟩
end
section
variable {X : Cx} {pins : List (Addr × Obj)} {σ : L2.St} {H : Hp} {sI s s' : Shared} {B : Heap} {W : WX} {E : XK}
/-- it leaves the def -/
theorem Going.leave (hs : X.stack = X.env :: X.outer) (hf : X.env.frame = some X.env.locals) (hfr : X.A.frames = some (X.env :: X.outer)) (ff : X.s_0.heap.FunFrames X.base X.outer) {E₁ : Value → Shared → Prop} {a : Addr} (g : Going X E a s') :
    wpAny (model X.prog X.w) X.A (leaving X.env (.ref a)) (fun _ s2 => CX X.prog X.w X.outer X.H_0 X.s_0 E (.ref a) s2) E₁ s' := by
  obtain ⟨B, G, cls, d, c, sky, hok, ub, na, os, ag, cb, w⟩ := g
  have nf : ∀ b ∈ frs X.outer, ∀ o, X.s_0.heap.get? b = some o → ∀ fs, o.data ≠ .fields fs := fun b m o e fs => by
    obtain ⟨_, o0, e0, n0⟩ := ff.mem m
    rw [e] at e0
    cases e0
    exact n0 fs
  have done : ∀ g', HandSPX.FlyingZ B X.outer a (Zk c cls d) g' → s'.heap.UpToSlots g' → CX X.prog X.w X.outer X.H_0 X.s_0 E (.ref a) { s' with heap := g' } := fun g' fl u =>
    ⟨a, B, G, cls, d, c, rfl, fl, hok, UB.up ub nf u, na, os, ag, cb, w⟩
  rw [hs] at sky
  rcases sky with ⟨h0, hn, hl, oe, fs, he, hz, hd, h1⟩ | fl | hh
  · exact PXN.leaving_firstZ Zk.steady hfr hl hf he h0 hn hd h1 hz done
  · exact PXN.leaves_onZ Zk.steady hfr hf fl done
  · exact HandSPX.leaves_heldZ hf hh done
theorem takes_of (hs : X.stack = X.env :: X.outer) (hf : X.env.frame = some X.env.locals) (hex : X.ex = []) {E₁ : Value → Shared → Prop}
    (hx : X.xe = fun e s' => wpAny (model X.prog X.w) X.A (leaving X.env e) (fun _ s2 => CX X.prog X.w X.outer X.H_0 X.s_0 E e s2) E₁ s') : Takes X (fun cls d _ H => E cls d H) := fun u s' x => by
  obtain ⟨a, B, sI, ps, τ, G, cls, d, c, rfl, I, r⟩ := id x
  rw [hx]
  exact Going.leave hs hf (by rw [I.ok.frames, hs]) I.ok.funs (Going.of hs hex x)
theorem Takes.imp {W' : WX} (t : Takes X W) (h : ∀ c d σ H, W' c d σ H → W c d σ H) : Takes X W' := fun u s' ⟨a, B, sI, ps, τ, G, cls, d, c, e, I, nb, up, sky, na, os, ag, ck, w⟩ =>
  t u s' ⟨a, B, sI, ps, τ, G, cls, d, c, e, I, nb, up, sky, na, os, ag, ck, h _ _ _ _ w⟩
theorem passes_call (hx : X.ex = []) (tk : Takes X W) (hW : ∀ cls d σ H, E cls d H → W cls d σ H) : Passes (CX X.prog X.w) X E := fun ps τ G s e s' I k => tk e s' (XE.of_call hx I (fun cls d H' h => hW cls d τ H' h) k)
theorem passAt (hx : X.ex = []) (tk : Takes X W) (τ : L2.St) : PassesAt (CX X.prog X.w) X τ (WE W τ) := fun _ _ _ e s' I k => tk e s' (XE.of_call hx I (fun _ _ _ h => h) k)
/-- raise X(..), where nothing is handled -/
theorem ps_raise {e : Expr} {t : L2.St → Hp → XK → Prop} {pos : Pos} (hc : X.calm = true) (tk : Takes X W) (he : L2N.PMk X e t) : PS X (.Raise (some e) none pos) (fun _ τ G => t τ G fun cls d G' => W cls d τ G') :=
  L2N.ps_raise (W := fun cls d τ G => W cls d τ G) hc (fun u s' ⟨a, B, sI, ps, τ, G, cls, d, q, I, nb, up, sky, na, os, ag, w⟩ => tk u s' ⟨a, B, sI, ps, τ, G, cls, d, .none, q, I, nb, up, (by
    rcases sky with ⟨h0, hn, hl, oe, fs, g, hz, hd, h1⟩ | ⟨k1, k2, k3, oe, fs, T, oT, ts, g, hz, r⟩ | ⟨k1, k2, k3, oe, fs, T, oT, ts, g, hz, r⟩
    · exact .inl ⟨h0, hn, hl, oe, fs, g, Zk.of hz, hd, h1⟩
    · exact .inr (.inl ⟨k1, k2, k3, oe, fs, T, oT, ts, g, Zk.of hz, r⟩)
    · exact .inr (.inr ⟨k1, k2, k3, oe, fs, T, oT, ts, g, Zk.of hz, r⟩)), na, os, ag, .inl rfl, w⟩) he
end
end L2C
/-! own errors without a field: class X(FloorError): def __init__(self): super().__init__('..') -/
namespace PySem
namespace ErrX
open PySem.W PySem.Calls PyProof.Rows PySem.HandSPX
def eA0 (p1 : Pos) : Arguments := { posonlyargs := [], args := [{ arg := "self", annotation := none, pos := p1 }], vararg := none, kwonlyargs := [], kw_defaults := [], kwarg := none, defaults := [] }
def eB0 (txt : Str) (q1 q2 q3 q4 q5 q6 : Pos) : List Stmt := [.Expr (.Call (.Attribute (.Call (.Name "super" q1) [] [] q2) "__init__" q3) [.Constant (.str txt) 0 q4] [] q5) q6]
def eS0 : Scope := { kind := .function, names := [("self", .local), ("__class__", .free), ("super", .globalImplicit)], isGenerator := false, isCoroutine := false, more := [] }
structure ErrC0 (prog : Program) (K : Frag) (C fI : Addr) : Prop where
  cls : ∃ nm q N bs bm sn sub ab col dd k0 k1 k2 k3 k5, K.lookup C = some (excClassObj nm q C N bs bm true sn sub ab col dd k0 k1 k2 k3 k5 "ValueError.__new__") ∧ refsVE bm = true
  iC : findIn K (.ref C) "__init__" = some (some (.ref fI))
  tC : typeIn K (.ref fI) = some (.type "function")
  kC : keepIn K (.ref C) = true
  exC : subIn K (.ref C) (.type "BaseException") = some true
  veC : subIn K (.ref C) (.type "ValueError") = some true
  tyC : typeIn K (.ref C) = some (.type "type")
  mro : mroIn K C (.ref C) = some true
  sup : nsIn K mainGlobals "super" = some none
  tp : nsIn K cStatics "thirdparty.any" = some none
  si : ks_superIn K C C "__init__" = some (some (.builtin "ValueError.__init__"))
  top : (prog.main.scope.names.lookup ("super" : Str)).isSome = false
  fn : ∃ (cc cda : Addr) (qual : Str) (oc : Value) (od : Option Addr) (kV doc pm : Value) (an : Option Addr) (ct : Value) (osl : Array (Option Value)) (txt : Str) (p1 q1 q2 q3 q4 q5 q6 : Pos) (cl ccl : Value) (cld cdd : Option Addr) (csl ccs : Array (Option Value)) (vs : Array Value) (tf : Tok), (q3.endLine == q5.line) = true ∧
    K.lookup fI = some ⟨oc, od, .func (ksFn "__init__" qual (eA0 p1) (eB0 txt q1 q2 q3 q4 q5 q6) eS0 .none kV doc pm an (.ref cda) ct cc), osl⟩ ∧ codeIn K (.ref cda) qual = true ∧
    K.lookup cc = some ⟨cl, cld, .cell (some (.ref C)), csl⟩ ∧ K.lookup cda = some ⟨ccl, cdd, .fields vs, ccs⟩ ∧ vs[2]? = some (.str prog.main.file tf)
/-- a made one -/
structure OwnMade0 (h h' : Heap) (e C : Addr) : Prop where
  keep : ∀ b o, h.get? b = some o → h'.get? b = some o
  new : h.objs.size ≤ e
  obj : ∃ oe vs, h'.get? e = some oe ∧ oe.cls = .ref C ∧ oe.dict = none ∧ oe.data = .fields vs ∧ vs[1]? = some .none ∧ vs[2]? = some .none
section
variable {prog : Program} {w : World} {A : Around} {E : Value → Shared → Prop} {R : Result → Shared → Prop} {s : Shared} {K : Frag} {mg mb : Str → Option Value} {C fI : Addr}
theorem err0_init (T : ErrC0 prog K C fI) {x t0 : Addr} (X : K.In s.heap) (hlim : s.heap.NoLimit) (G : s.heap.Ns mainGlobals mg) (B : s.heap.Ns builtinsNs mb) (hB : ∀ x : Str, x ≠ "__name__" → mb x = bootBuiltins x)
    (hx : s.heap.get? x = some (excO C t0)) (hroom : A.depth < recursionLimit)
    (hq : ∀ h' tk t1, (∀ b o, b ≠ x → s.heap.get? b = some o → h'.get? b = some o) → h'.get? x = some (excO C t1) → R (.ok (.ret .none)) { s with heap := h', toks := tk }) :
    codeAny (model prog w) A (.call (.ref fI) ⟨[.ref x], []⟩) R s := by
  obtain ⟨cc, cda, qual, oc, od, kV, doc, pm, an, ct, osl, txt, p1, q1, q2, q3, q4, q5, q6, cl, ccl, cld, cdd, csl, ccs, vs, tf, hln, ho, hcd, hcc, hcda, hvs⟩ := T.fn
  obtain ⟨nm, q, N, bs, bm, sn, sub, ab, col, dd, k0, k1, k2, k3, k5, hC, hbm⟩ := T.cls
  have hcl : clsIn K C = some { name := nm, bases := bs, mro := .ref C :: bm, ns := N, qualname := q, hasDict := true, slotNames := sn, subclasses := sub, abstract := ab, collection := col, hasDel := false } := by unfold clsIn; rw [hC] <;> rfl
  obtain ⟨hp, g, d, tk, os⟩ := s
  have hsi : alongIn K "__init__" ((((Value.ref C :: bm)).dropWhile (· != .ref C)).drop 1) = some (some (.builtin "ValueError.__init__")) := by
    have z := T.si
    unfold ks_superIn at z
    rw [hcl] at z
    exact z
  refine ks_codeAny_call_defAt (fd := ksFn "__init__" qual (eA0 p1) (eB0 txt q1 q2 q3 q4 q5 q6) eS0 .none kV doc pm an (.ref cda) ct cc) (body := eB0 txt q1 q2 q3 q4 q5 q6) (binds := [("self", .ref x)])
    hroom (X _ _ ho) rfl hlim (codeRec_of X hcd) rfl (BindsTo.of_eq (by first | rfl | with_unfolding_all rfl)) (fun y hy => (show ∀ y ∈ eS0.names, y.2 ≠ .cell by decide) y hy)
    (fun y hy => by
      rcases List.mem_cons.mp hy with rfl | hy
      · rfl
      · cases hy) (fun h₁ hns hk₁ => ?_) rfl rfl rfl
  have X₁ : K.In h₁ := X.keeps hk₁
  have hx₁ := hk₁ _ _ hx
  show wpAt _ _ _ (execs (_ :: _) _) _ _ _
  refine ks_wpAt_execs_cons (ks_wpAt_Expr_any (ks_wpAt_MethodCall ?_ (eval_mc hln)))
  refine ks_wpAt_super_base (f := fI) (cc := cda) (ar := { arg := "self", annotation := none, pos := p1 }) rfl rfl (by decide) rfl (X₁ _ _ ho) rfl rfl rfl (X₁ _ _ hcda) rfl hvs (beq_self_eq_true _) T.top ?_
  refine ks_loadName_global rfl rfl (loadGlobal_builtin (G.keeps hk₁) (mg_none_of X G T.sup) (B.keeps hk₁) ((hB _ (by decide)).trans (by first | boot_by_name | rfl | kernel_rfl)) ⟨rfl, ?_⟩)
  refine wpAny_loadName_free rfl rfl rfl ⟨_, X₁ _ _ hcc, rfl⟩ ?_
  refine wpAny_loadName_local rfl rfl hns (by rfl) ?_
  refine ks_wpAny_isType_cls (X₁ _ _ hC) rfl ⟨rfl, ?_⟩
  refine ks_wpAny_call_super (X₁ _ _ hC) rfl hx₁ rfl (fun c e => by cases e) (looks_mroIn X₁ T.mro) (fun h₂ hso k₂ => ?_)
  have X₂ : K.In h₂ := X₁.keeps k₂
  have hx₂ := k₂ _ _ hx₁
  have I₂ : InstAt h₂ x (excO C t0) C none := ⟨hx₂, rfl, rfl, trivial⟩
  refine kxs_getMethod kxs_ValueError hso (looks_opaque X₂ T.tp) (l₀ := .ref C :: bm) (fun A Q E s k q => wpAny_bind ((looks_clsIn X₂ hcl) A _ E s k (wpAny_pure q))) rfl X₂ hsi (I₂.type.andThen (looks_subIn X₂ T.veC)) (ks_ne X₂ I₂ hcl) (by decide) ?_
  have k₃ : ∀ b o, h₂.get? b = some o → (h₂.push (kxs_mw "ValueError.__init__" x)).get? b = some o := fun b o e => Heap.get?_push_of_some _ e
  have hmw : (h₂.push (kxs_mw "ValueError.__init__" x)).get? h₂.objs.size = some (kxs_mw "ValueError.__init__" x) := Heap.get?_push_at rfl rfl
  refine kxs_callWith (i := "ValueError.__init__") (x := x) rfl (evalArgs_plain (Calls.spliced_cons ?_))
  show wpAny _ _ (eval (.Constant (.str txt) 0 q4) _) _ _ _
  refine Calls.Constant_str (Calls.spliced_nil ⟨hmw, ?_⟩)
  refine call_mw ((X₂.keeps k₃) _ _ hC) (k₃ _ _ hx₂) hmw (by show 1 ≤ sizeLine; decide) (fun h₄ t1 k₄ hx₄ => ?_)
  refine wpAt_of_wpAny ?_
  show wpAny _ _ (execs [] _) _ _ _
  exact wpAny_execs_nil (hq h₄ _ t1 (fun b o hb e => k₄ b o hb (k₃ _ _ (k₂ _ _ (hk₁ _ _ e)))) hx₄)
theorem err0_made (T : ErrC0 prog K C fI) (X : K.In s.heap) (hlim : s.heap.NoLimit) (G : s.heap.Ns mainGlobals mg) (B : s.heap.Ns builtinsNs mb) (hB : ∀ x : Str, x ≠ "__name__" → mb x = bootBuiltins x) (hroom : A.depth + 1 < recursionLimit)
    (hq : ∀ h' tk e, OwnMade0 s.heap h' e C → R (.ok (.ret (.ref e))) { s with heap := h', toks := tk }) :
    codeAny (model prog w) A (.call (.ref C) ⟨[], []⟩) R s := by
  obtain ⟨nm, q, N, bs, bm, sn, sub, ab, col, dd, k0, k1, k2, k3, k5, hC, hbm⟩ := T.cls
  obtain ⟨hp, g, dr, tk, os⟩ := s
  have k : ∀ b o, hp.get? b = some o → ((hp.push (kdv_tup [])).push (excO C hp.objs.size)).get? b = some o := fun b o e => Heap.get?_push_of_some _ (Heap.get?_push_of_some _ e)
  have hget : ((hp.push (kdv_tup [])).push (excO C hp.objs.size)).get? (hp.objs.size + 1) = some (excO C hp.objs.size) := by heap_get
  refine call_own F.excBase_ValueError (fun X => refsVE_contains X bm hbm) (X _ _ hC) (looks_findIn X T.iC) (fun self => bind_fn X self T.tC) (by show 0 ≤ sizeLine; decide) ?_
  refine err0_init (s := ⟨(hp.push (kdv_tup [])).push (excO C hp.objs.size), g, dr, tk, os⟩) T (X.keeps k) (hlim.keeps k) (G.keeps k) (B.keeps k) hB hget ?_ fun h' tk' t1 k' hx => ?_
  · show A.depth + 1 < recursionLimit
    exact hroom
  · exact ⟨rfl, hq h' tk' (hp.objs.size + 1) ⟨fun b o e => k' b o (Nat.ne_of_lt (Nat.lt_succ_of_lt (Heap.lt_size e))) (k b o e), Nat.le_succ _, ⟨_, _, hx, rfl, rfl, rfl, rfl, rfl⟩⟩⟩
end
end ErrX
end PySem
namespace FWN
open PySem PySem.Spec PyProof.Rows L2 FW
/-- C(), C an own error without a field -/
def tMk0 (C : Addr) : L2.St → Hp → XK → Prop := fun σ H Q => Q (.ref C) none H
section
variable {X : Cx} {C fI : Addr} {x : Str}
theorem pmk_err0 {p pos : Pos} {k : Nat} (T : PySem.ErrX.ErrC0 X.prog X.K C fI) (gC : X.mg x = some (.ref C)) (hr : Room k X.A) (hg : Gl X x) (hdb : (x == ("__debug__" : Str)) = false := by decide) : L2N.PMk X (.Call (.Name x p) [] [] pos) (tMk0 C) := by
  intro pins s σ H Q I h
  refine wpAny_Call_Name_kw (ld_glob I hg gC ?_ hdb)
  refine PySem.W.callWith_K0 I.kIn T.kC ?_
  have hlim := I.nolimit
  have hG := I.mod.glob.keeps I.bk
  obtain ⟨mb, hb1, hb2⟩ := I.mod.blt
  have hB := hb1.keeps I.bk
  obtain ⟨hp, g, dr, tk, os⟩ := s
  refine wpAny_call (PySem.ErrX.err0_made T I.kIn hlim hG hB hb2 (by have := hr.dp; omega) fun h' tk' e M => ?_)
  show L2N.MkP X pins σ Q (.ref e) ⟨h', g, dr, tk', os⟩
  obtain ⟨oe, fv, hoe, hc, hd, hdat, h1, h2⟩ := M.obj
  obtain ⟨G', g1, g2⟩ := restrict h' fun b => decide (b ≠ e)
  have gk : ∀ b, b ≠ e → G'.get? b = h'.get? b := fun b hb => g1 b (decide_eq_true hb)
  have ge : G'.get? e = none := g2 e (by simp)
  have old : ∀ b o, hp.get? b = some o → G'.get? b = some o := fun b o q => (gk b (Nat.ne_of_lt (Nat.lt_of_lt_of_le (Heap.lt_size q) M.new))).trans (M.keep b o q)
  have J : Inv X pins σ H ⟨G', g, dr, tk', os⟩ := I.kept (t' := tk') old
  refine ⟨e, oe, fv, ⟨G', g, dr, tk', os⟩, _, .ref C, none, rfl, J, fun b o q => ?_, ge, hoe, ⟨hc, hd, fun vs q => by rw [hdat] at q; cases q; exact h2⟩, hdat, h1, I.hok.fresh M.new, rfl, I.bare, raises_own T.exC T.tyC, h⟩
  by_cases hb : b = e
  · have q' : G'.get? b = some o := q
    rw [hb, ge] at q'; cases q'
  · exact (gk b hb).symm.trans q
def tRaise0 (C : Addr) (W : WX) : TS := fun _ σ H => W (.ref C) none σ H
end
end FWN
namespace FW
open PySem PySem.Spec PyProof.Rows L2 PySem.W PySem.HandSPX PySem.ErrX
def errB0 (K : Frag) (file x : Str) : Bool := ([clsE K (He.ga K x), He.eqO (findIn K (.ref (He.ga K x)) "__init__") (some (some (.ref (He.ma K (He.ga K x) "__init__")))), decide (typeIn K (.ref (He.ma K (He.ga K x) "__init__")) = some (.type "function")),
  keepIn K (.ref (He.ga K x)), decide (subIn K (.ref (He.ga K x)) (.type "BaseException") = some true), decide (subIn K (.ref (He.ga K x)) (.type "ValueError") = some true), decide (typeIn K (.ref (He.ga K x)) = some (.type "type")), decide (mroIn K (He.ga K x) (.ref (He.ga K x)) = some true),
  He.eqO (nsIn K mainGlobals "super") (some none), He.eqO (nsIn K cStatics "thirdparty.any") (some none), He.eqO (ks_superIn K (He.ga K x) (He.ga K x) "__init__") (some (some (.builtin "ValueError.__init__"))), codeE K file x] : List Bool).all id
theorem errC0_of {prog : Program} {K : Frag} {x qual : Str} {params : Arguments} {body : List Stmt} {scope : Scope} (e : fnE K x = (some (("__init__" : Str), qual, params, FuncBody.stmts body, scope, mainGlobals, Value.none, builtinsNs) : FnE)) (h : errB0 K prog.main.file x = true)
    (h1 : ∃ p1, params = eA0 p1) (h2 : ∃ txt q1 q2 q3 q4 q5 q6, body = eB0 txt q1 q2 q3 q4 q5 q6 ∧ (q3.endLine == q5.line) = true) (h3 : scope = eS0) (top : (prog.main.scope.names.lookup ("super" : Str)).isSome = false) :
    ErrC0 prog K (He.ga K x) (He.ma K (He.ga K x) "__init__") := by
  unfold errB0 at h
  simp only [List.all_cons, List.all_nil, id, Bool.and_true, Bool.and_eq_true] at h
  obtain ⟨b0, b1, b2, b3, b4, b5, b6, b7, b8, b9, bA, hc⟩ := h
  refine ⟨clsE_ok b0, He.eqO_ok b1, of_decide_eq_true b2, b3, of_decide_eq_true b4, of_decide_eq_true b5, of_decide_eq_true b6, of_decide_eq_true b7, He.eqO_ok b8, He.eqO_ok b9, He.eqO_ok bA, top, ?_⟩
  obtain ⟨p1, rfl⟩ := h1
  obtain ⟨txt, q1, q2, q3, q4, q5, q6, rfl, hl⟩ := h2
  subst h3
  unfold codeE at hc
  unfold fnE at e
  cases q : K.lookup (He.ma K (He.ga K x) "__init__") with
  | none => rw [q] at hc; cases hc
  | some o =>
    obtain ⟨oc, od, dt, osl⟩ := o
    rw [q] at hc e
    cases dt with
    | func fd =>
      obtain ⟨n1, n2, n3, n4, n5, n6, n7, n8, n9, n10, n11, n12, n13, n14, n15⟩ := fd
      have e2 : (some (n1, n2, n3, n4, n5, n6, n8, n15) : FnE) = (some (("__init__" : Str), qual, eA0 p1, FuncBody.stmts (eB0 txt q1 q2 q3 q4 q5 q6), eS0, mainGlobals, Value.none, builtinsNs) : FnE) := e
      simp only [Option.some.injEq, Prod.mk.injEq] at e2
      obtain ⟨g1, g2, g3, g4, g5, g6, g7, g8⟩ := e2
      subst g1 g2 g3 g4 g5 g6 g7 g8
      dsimp only at hc
      split at hc
      · rename_i c0 l0 cda n cc
        simp only [Bool.and_eq_true, decide_eq_true_eq] at hc
        obtain ⟨hc1, rfl, hc2, hc3⟩ := hc
        split at hc2
        · rename_i ccl cdd vs ccs hcda
          split at hc2
          · rename_i z tf hvs
            have hz := of_decide_eq_true hc2
            subst hz
            split at hc3
            · rename_i cl cld D csl hcc
              have hD := of_decide_eq_true hc3
              subst hD
              exact ⟨cc, cda, _, oc, od, n9, n10, n11, n12, n14, osl, txt, p1, q1, q2, q3, q4, q5, q6, cl, ccl, cld, cdd, csl, ccs, vs, tf, hl, rfl, hc1, hcc, hcda, hvs⟩
            · cases hc3
          · cases hc2
        · cases hc2
      · cases hc
    | _ => cases hc
end FW
/-! raise X() from e, e the handled exception -/
namespace L2C
open PySem PySem.Spec PyProof.Rows L2 HotX
/-- the heap behind the two stores of «from» -/
def fromAt (h : Heap) (a : Addr) (c : Value) : Heap := (h.update a (Obj.mapFields (·.setIfInBounds 3 c))).update a (Obj.mapFields (·.setIfInBounds 4 (.bool true)))
theorem setI {fs : Array Value} {i j : Nat} {u v : Value} (n : i ≠ j) (h : fs[j]? = some v) : (fs.setIfInBounds i u)[j]? = some v := by
  have e : (fs.setIfInBounds i u)[j]? = fs[j]? := by simp [Array.getElem?_setIfInBounds, n]
  rw [e, h]
/-- the record behind the stores -/
def fromO (oe : Obj) (c : Value) : Obj := (oe.mapFields (·.setIfInBounds 3 c)).mapFields (·.setIfInBounds 4 (.bool true))
def fromF (fs : Array Value) (c : Value) : Array Value := (fs.setIfInBounds 3 c).setIfInBounds 4 (.bool true)
theorem fromO_data {oe : Obj} {fs : Array Value} {c : Value} (hd : oe.data = .fields fs) : (fromO oe c).data = .fields (fromF fs c) := Obj.data_mapFields (Obj.data_mapFields hd _) _
theorem fromO_cls {oe : Obj} {c : Value} : (fromO oe c).cls = oe.cls := (Obj.cls_mapFields ..).trans (Obj.cls_mapFields ..)
theorem fromO_dict {oe : Obj} {c : Value} : (fromO oe c).dict = oe.dict := (HandSPX.dict_mapFields ..).trans (HandSPX.dict_mapFields ..)
theorem fromAt_get {h : Heap} {a : Addr} {oe : Obj} {fs : Array Value} {c : Value} (ha : h.get? a = some oe) (hd : oe.data = .fields fs) : (fromAt h a c).get? a = some (fromO oe c) :=
  Heap.get?_update_self _ (Heap.get?_update_self _ ha (Obj.isFreed_of_fields (Obj.data_mapFields hd _))) (Obj.isFreed_of_fields (fromO_data hd))
theorem fromAt_ne {h : Heap} {a b : Addr} {c : Value} (n : a ≠ b) : (fromAt h a c).get? b = h.get? b := (Heap.get?_update_other _ _ n).trans (Heap.get?_update_other _ _ n)
section
variable {prog : Program} {w : World} {A : Around} {E : Value → Shared → Prop} {env : Env} {s : Shared} {x c : Sem Value} {Q : Flow → Shared → Prop} {x1 : Addr}
theorem no_type {a : Addr} {o : Obj} {fs : Array Value} {R : Bool → Shared → Prop} (g : s.heap.get? a = some o) (hd : o.data = .fields fs) (q : R false s) : wpAny (model prog w) A (isType (.ref a)) R E s := by
  unfold isType loadHead
  refine wpAny_bind (wpAny_loadPart g ?_)
  rw [hd]
  exact wpAny_pure q
/-- an exception as the value of raise or of from -/
theorem exc_value {a : Addr} {o : Obj} {fs : Array Value} {m : String} {R : Value → Shared → Prop} (g : s.heap.get? a = some o) (hd : o.data = .fields fs) (L : PySem.W.Looks (model prog w) s.heap (isSubtype o.cls (.type "BaseException")) true) (q : R (.ref a) s) :
    wpAny (model prog w) A (excFromValue (.ref a) m) R E s := by
  have lt : PySem.W.Looks (model prog w) s.heap (typeOf (.ref a)) o.cls := fun _ _ _ _ kp z => wpAny_typeOf_ref (kp _ _ g) z
  have li : PySem.W.Looks (model prog w) s.heap (isInstance (.ref a) (.type "BaseException")) true := lt.andThen L
  unfold excFromValue isExcClass
  refine wpAny_bind (wpAny_bind (no_type g hd ?_))
  simp only [Bool.false_eq_true, if_false]
  refine wpAny_pure ?_
  simp only [Bool.false_eq_true, if_false]
  refine wpAny_bind (li.here ?_)
  simp only [if_true]
  exact wpAny_pure q
theorem raise_from
    (h : wpAny (model prog w) A x (fun v s1 => ∃ (a : Addr) (oe : Obj) (fs : Array Value), v = .ref a ∧ s1.heap.get? a = some oe ∧ oe.data = .fields fs ∧ fs[1]? = some .none ∧ 4 < fs.size ∧ x1 ≠ a ∧ HotAt A x1 s1.heap ∧ (∀ R : Value → Shared → Prop, R (.ref x1) s1 → wpAny (model prog w) A c R E s1) ∧
      PySem.W.Looks (model prog w) s1.heap (isSubtype oe.cls (.type "BaseException")) true ∧ (∃ o1, s1.heap.get? x1 = some o1 ∧ PySem.W.Looks (model prog w) s1.heap (isSubtype o1.cls (.type "BaseException")) true) ∧
      PySem.W.Looks (model prog w) (fromAt s1.heap a (.ref x1)) (typeOf oe.cls) (.type "type") ∧ E (.ref a) { s1 with heap := (fromAt s1.heap a (.ref x1)).update a (Obj.mapFields (·.setIfInBounds 2 (.ref x1))) }) E s) :
    wpAny (model prog w) A (raiseStmt env (some x) (some c)) Q E s := by
  unfold raiseStmt
  dsimp only
  refine wpAny_bind (wpAny_mono h (fun v s1 h1 => ?_) fun _ _ z => z)
  obtain ⟨a, oe, fs, rfl, g, hd, f1, f4, ne, hot, hc, L, ⟨o1, g1, L1⟩, LT, hE⟩ := h1
  obtain ⟨hh, o2, v1, g2, d1, c1⟩ := id hot
  rw [g1] at g2
  cases g2
  refine wpAny_bind (wpAny_holding (hc _ ?_))
  refine wpAny_bind (wpAny_pure ?_)
  refine wpAny_bind (wpAny_holding (exc_value g hd L ?_))
  dsimp only
  rw [if_neg (show ¬ (Value.ref x1 == Value.none) = true by simp)]
  refine wpAny_bind (wpAny_holding (exc_value g1 d1 L1 ?_))
  have d3 := Obj.data_mapFields hd (·.setIfInBounds 3 (.ref x1))
  have g3 := Heap.get?_update_self (Obj.mapFields (·.setIfInBounds 3 (.ref x1))) g (Obj.isFreed_of_fields d3)
  have z3 : 3 < fs.size := by omega
  have z4 : 4 < (fs.setIfInBounds 3 (Value.ref x1)).size := by simpa using f4
  refine wpAny_bind (wpAny_setField g hd z3 (wpAny_bind (wpAny_setField g3 d3 z4 ?_)))
  have gF := fromAt_get (c := .ref x1) g hd
  have dF := fromO_data (c := .ref x1) hd
  have hF : HotAt A x1 (fromAt s1.heap a (.ref x1)) := ⟨hh, o1, v1, (fromAt_ne ne.symm).trans g1, d1, c1⟩
  have kF : (fromF fs (.ref x1))[1]? = some .none := setI (by decide) (setI (by decide) f1)
  have zF : 2 < (fromF fs (.ref x1)).size := by
    unfold fromF
    simp
    omega
  show wpAny _ A _ Q E { s1 with heap := fromAt s1.heap a (.ref x1) }
  refine wpAny_bind (no_type (s := { s1 with heap := fromAt s1.heap a (.ref x1) }) gF dF ?_)
  rw [if_neg Bool.false_ne_true]
  have lt : PySem.W.Looks (model prog w) (fromAt s1.heap a (.ref x1)) (typeOf (.ref a)) oe.cls := fun _ _ _ _ kp z => wpAny_typeOf_ref (kp _ _ gF) (by rw [fromO_cls]; exact z)
  unfold raisedInstance
  refine wpAny_bind (wpAny_bind (lt.here (wpAny_bind (LT.here ?_))))
  rw [if_pos (beq_self_eq_true _)]
  refine wpAny_pure ?_
  unfold setFlight
  refine wpAny_bind (wpAny_bind (wpAny_field (s := { s1 with heap := fromAt s1.heap a (.ref x1) }) gF dF kF ?_))
  rw [if_neg (by decide)]
  exact wpAny_pure (raiseNew_hot hF ne gF dF zF hE)
end
/-! C(), C an own error without a field, with its six fields -/
section
open PySem.W PySem.Calls PySem.HandSPX PySem.ErrX
variable {prog : Program} {w : World} {A : Around} {R : Result → Shared → Prop} {s : Shared} {K : Frag} {mg mb : Str → Option Value} {C fI : Addr}
theorem made6 (T : ErrC0 prog K C fI) (kI : K.In s.heap) (nl : s.heap.NoLimit) (gl : s.heap.Ns mainGlobals mg) (bl : s.heap.Ns builtinsNs mb) (hb : ∀ x : Str, x ≠ "__name__" → mb x = bootBuiltins x) (room : A.depth + 1 < recursionLimit)
    (k : ∀ h' tk e t1, OwnMade0 s.heap h' e C → h'.get? e = some (excO C t1) → R (.ok (.ret (.ref e))) { s with heap := h', toks := tk }) :
    codeAny (model prog w) A (.call (.ref C) ⟨[], []⟩) R s := by
  obtain ⟨nm, q, N, bs, bm, sn, sub, ab, col, dd, k0, k1, k2, k3, k5, hC, hbm⟩ := T.cls
  obtain ⟨hp, g, dr, tk, os⟩ := s
  have up : ∀ b o, hp.get? b = some o → ((hp.push (kdv_tup [])).push (excO C hp.objs.size)).get? b = some o := fun b o z => Heap.get?_push_of_some _ (Heap.get?_push_of_some _ z)
  refine call_own F.excBase_ValueError (fun z => refsVE_contains z bm hbm) (kI _ _ hC) (looks_findIn kI T.iC) (fun self => bind_fn kI self T.tC) (by show 0 ≤ sizeLine; decide) ?_
  refine err0_init (s := ⟨(hp.push (kdv_tup [])).push (excO C hp.objs.size), g, dr, tk, os⟩) T (kI.keeps up) (nl.keeps up) (gl.keeps up) (bl.keeps up) hb (by heap_get) room fun h' tk' t1 kp hx => ?_
  exact ⟨rfl, k h' tk' (hp.objs.size + 1) t1 ⟨fun b o z => kp b o (Nat.ne_of_lt (Nat.lt_succ_of_lt (Heap.lt_size z))) (up b o z), Nat.le_succ _, ⟨_, _, hx, rfl, rfl, rfl, rfl, rfl⟩⟩ hx⟩
end
section
variable {X : Cx} {C fI : Addr} {x : Str}
theorem pmk5_err0 {p pos : Pos} {k : Nat} (T : PySem.ErrX.ErrC0 X.prog X.K C fI) (gC : X.mg x = some (.ref C)) (hr : L2H.RoomH k X.A) (hg : Gl X x) (hdb : (x == ("__debug__" : Str)) = false := by decide) : L2H.PMk5 X (.Call (.Name x p) [] [] pos) (FWN.tMk0 C) := by
  intro pins s σ H Q I h
  refine wpAny_Call_Name_kw (ld_glob I hg gC (PySem.W.callWith_K0 I.kIn T.kC ?_) hdb)
  have gl := I.mod.glob.keeps I.bk
  obtain ⟨mb, b1, b2⟩ := I.mod.blt
  have bl := b1.keeps I.bk
  have nl := I.nolimit
  obtain ⟨hp, g, dr, tk, os⟩ := s
  refine wpAny_call (made6 T I.kIn nl gl bl b2 (by have := hr.dp; omega) fun h' tk' e t1 M hx => ?_)
  show L2N.MkP X pins σ Q (.ref e) ⟨h', g, dr, tk', os⟩ ∧ L2H.Six (.ref e) ⟨h', g, dr, tk', os⟩
  obtain ⟨G, in1, out1⟩ := restrict h' fun b => decide (b ≠ e)
  have ge : G.get? e = none := out1 e (by simp)
  have gk : ∀ b, b ≠ e → G.get? b = h'.get? b := fun b n => in1 b (decide_eq_true n)
  have old : ∀ b o, hp.get? b = some o → G.get? b = some o := fun b o z => (gk b (Nat.ne_of_lt (Nat.lt_of_lt_of_le (Heap.lt_size z) M.new))).trans (M.keep b o z)
  refine ⟨⟨e, _, _, ⟨G, g, dr, tk', os⟩, H, .ref C, none, rfl, I.kept (t' := tk') old, fun b o z => ?_, ge, hx, ⟨rfl, rfl, fun fs z => by cases z; rfl⟩, rfl, rfl, I.hok.fresh M.new, rfl, I.bare, raises_own T.exC T.tyC, h⟩, fun a oe fs ea z hd => ?_⟩
  · by_cases n : b = e
    · have z' : G.get? b = some o := z
      rw [n, ge] at z'
      cases z'
    · exact (gk b n).symm.trans z
  · cases ea
    have z' : h'.get? e = some oe := z
    rw [hx] at z'
    cases z'
    cases hd
    show (4 : Nat) < 6
    decide
end
/-- the name of a local that is bound, as a value -/
theorem ld_here {X : Cx} {E : Value → Shared → Prop} {pins : List (Addr × Obj)} {s : Shared} {σ : L2.St} {H : Hp} {x : Str} {i : Nat} {a : Addr} {pos : Pos} {R : Value → Shared → Prop} (I : Inv X pins σ H s) (hN : X.N[i]? = some x) (hk : X.env.kindOf x = some .local) (hv : σ[i]? = some (some (.ref a))) (h : R (.ref a) s)
    (hd : (x == ("__debug__" : Str)) = false) : wpAny (model X.prog X.w) X.A (eval (.Name x pos) X.env) R E s := by
  obtain ⟨m, hn, hl⟩ := I.loc
  obtain ⟨u, r, l⟩ := hl i x _ hN hv (.inl hk)
  obtain rfl : u = Value.ref a := r
  rcases l with ⟨_, hm⟩ | ⟨z | z, _⟩
  · exact wpAny_Name (wpAny_loadName_local I.ok.kind hk hn hm h) hd
  · rw [hk] at z; cases z
  · rw [hk] at z; cases z
/-- raise X(..) from e: e the handled exception, whose context is None -/
theorem ps_raiseFrom {Y : Cx} {W : WX} {a : Addr} {oe : Obj} {fs : Array Value} {e : Expr} {te : L2.St → Hp → XK → Prop} {n : Str} {i : Nat} {npos pos : Pos} (hm : (a, oe) ∈ Y.pn) (hh : Y.A.handled = some (.ref a)) (hd : oe.data = .fields fs) (hc : fs[2]? = some .none)
    (hr : Raises Y oe.cls) (hnew : Y.s_0.heap.get? a = none) (tk : Takes Y W) (he : L2H.PMk5 Y e te) (hN : Y.N[i]? = some n) (hk : Y.env.kindOf n = some .local) (hdb : (n == ("__debug__" : Str)) = false) :
    PS Y (.Raise (some e) (some (.Name n npos)) pos) (fun _ σ H => σ[i]? = some (some (.ref a)) ∧ te σ H fun cls d H' => W cls d σ H') := by
  refine ⟨fun pins s σ H D I ⟨hv, h⟩ => ?_⟩
  show wpAny _ _ (do standAt pos; raiseStmt Y.env (some (do let v ← eval e Y.env; standAt pos; pure v)) (some (do let v ← eval (.Name n npos) Y.env; standAt pos; pure v))) _ _ _
  refine wpAny_bind (wpAny_standAt (raise_from (x1 := a) (wpAny_bind (wpAny_mono (he pins s σ H _ I h) (fun u s1 hu => wpAny_bind (wpAny_standAt (wpAny_pure ?_))) fun _ _ x => x))))
  obtain ⟨⟨x, ox, gs, sI, H', cls, d, rfl, J, k, hne, gx, hz, dx, x1, na, os, ag, r, q⟩, six⟩ := hu
  have x4 : 4 < gs.size := six x ox gs rfl gx dx
  have P := J.pin (a, oe) (List.mem_append_left _ hm)
  have ne : a ≠ x := fun z => by
    have g := P.1
    rw [show (a, oe).1 = x from z, hne] at g
    cases g
  have up : ∀ b o, sI.heap.get? b = some o → (fromAt s1.heap x (.ref a)).get? b = some o := fun b o z => by
    by_cases nb : x = b
    · rw [← nb, hne] at z
      cases z
    · rw [fromAt_ne nb]
      exact k b o z
  have gF := fromAt_get (c := .ref a) gx dx
  have dF := fromO_data (c := .ref a) dx
  have J1 : Inv Y pins σ H' s1 := J.call' (ch := []) os (Un.kept k) (J.hok.kept k) ag (fun _ z => nomatch z)
  refine ⟨x, ox, gs, rfl, gx, dx, x1, x4, ne, ⟨hh, oe, fs, k _ _ P.1, hd, hc⟩, fun R z => wpAny_bind (ld_here J1 hN hk hv (wpAny_bind (wpAny_standAt (wpAny_pure z))) hdb), ?_, ⟨oe, k _ _ P.1, (hr _ _ (J.kIn.keeps k)).1⟩, ?_, tk _ _ ?_⟩
  · rw [hz.1]
    exact (r _ _ (J.kIn.keeps k)).1
  · rw [hz.1]
    exact (r _ _ (J.kIn.keeps up)).2
  · have dG := Obj.data_mapFields dF (·.setIfInBounds 2 (.ref a))
    have gG := Heap.get?_update_self (Obj.mapFields (·.setIfInBounds 2 (.ref a))) gF (Obj.isFreed_of_fields dG)
    refine XE.new (inv_pin J P.1 P.2.1 P.2.2.1 P.2.2.2.1 P.2.2.2.2) (fun b o z => ?_) hne gG ⟨⟨(Obj.cls_mapFields ..).trans (fromO_cls.trans hz.1), (HandSPX.dict_mapFields ..).trans (fromO_dict.trans hz.2.1)⟩, fun ws z => ?_⟩ dG (setI (by decide) (setI (by decide) (setI (by decide) x1))) na os ag (.inr ⟨(a, oe), List.mem_cons_self, rfl, ⟨fs, hd, hc⟩, hnew⟩) q
    · have nb : x ≠ b := fun y => by
        rw [← y, hne] at z
        cases z
      exact (Heap.get?_update_other _ _ nb).trans (up b o z)
    · rw [dG] at z
      cases z
      have zz : 2 < (fromF gs (Value.ref a)).size := by
        unfold fromF
        simp
        omega
      exact Array.getElem?_setIfInBounds_self_of_lt zz
end L2C
/-! try: body, except X as n: raise Y() from n -/
namespace L2C
open PySem PySem.Spec PyProof.Rows L2 HotX
theorem takes_n {X : Cx} {W : WX} (tk : Takes X W) : L2N.Takes X W := fun u s' ⟨a, B, sI, ps, τ, G, cls, d, q, I, nb, up, sky, na, os, ag, w⟩ => tk u s' ⟨a, B, sI, ps, τ, G, cls, d, .none, q, I, nb, up, by
  rcases sky with ⟨h0, hn, hl, oe, fs, g, hz, hd, h1⟩ | ⟨k1, k2, k3, oe, fs, T, oT, ts, g, hz, r⟩ | ⟨k1, k2, k3, oe, fs, T, oT, ts, g, hz, r⟩
  · exact .inl ⟨h0, hn, hl, oe, fs, g, Zk.of hz, hd, h1⟩
  · exact .inr (.inl ⟨k1, k2, k3, oe, fs, T, oT, ts, g, Zk.of hz, r⟩)
  · exact .inr (.inr ⟨k1, k2, k3, oe, fs, T, oT, ts, g, Zk.of hz, r⟩), na, os, ag, .inl rfl, w⟩
/-- the frames stay where one object changes that is none of theirs -/
theorem frames_but {h g B : Heap} {L : Addr} (sb : ∀ b, b ≠ L → g.get? b = h.get? b) : ∀ l : List Env, L ∉ frs l → h.FunFrames B l → g.FunFrames B l
  | [], _, _ => True.intro
  | e :: l, nm, ⟨k, ⟨L0, o, f, b0, g0, d⟩, r⟩ => by
    have n0 : L0 ≠ L := fun z => nm (List.mem_filterMap.mpr ⟨e, List.mem_cons_self, by rw [f, z]⟩)
    refine ⟨k, ⟨L0, o, f, b0, (sb L0 n0).trans g0, d⟩, frames_but sb l (fun m => nm ?_) r⟩
    obtain ⟨e', m', f'⟩ := List.mem_filterMap.mp m
    exact List.mem_filterMap.mpr ⟨e', List.mem_cons_of_mem _ m', f'⟩
section
variable {X : Cx} {E : XK} {a : Addr} {s : Shared}
/-- an exception that a frame of X holds, at the def's end -/
def Hold (X : Cx) (E : XK) (x : Addr) (s : Shared) : Prop :=
  ∃ (B : Heap) (H : Hp) (cls : Value) (d : Option Addr) (c : Value), HandSPX.HeldZ B (X.env :: X.outer) x (Zk c cls d) X.env.locals s.heap ∧ HOk X.prog X.w H B ∧ UB (frs X.outer) X.H_0 H X.s_0.heap B s.heap ∧ H x = none ∧ s.os = X.s_0.os ∧ AllBare s.gens ∧ CtxB X.s_0 B H c ∧ E cls d H
theorem Hold.going (hs : X.stack = X.env :: X.outer) {x : Addr} (h : Hold X E x s) : Going X E x s := by
  obtain ⟨B, H, cls, d, c, hh, r⟩ := h
  exact ⟨B, H, cls, d, c, .inr (.inr (by rw [hs]; exact hh)), r⟩
theorem noFields (ff : X.s_0.heap.FunFrames X.base X.outer) : ∀ b ∈ frs X.outer, ∀ o, X.s_0.heap.get? b = some o → ∀ fs, o.data ≠ .fields fs := fun b m o e fs => by
  obtain ⟨_, o0, e0, n0⟩ := ff.mem m
  rw [e] at e0
  cases e0
  exact n0 fs
/-- its traceback is there -/
theorem Hold.tb {M : Model} {A : Around} {E1 : Value → Shared → Prop} {R : Value → Shared → Prop} {x : Addr} (h : Hold X E x s) (k : ∀ T, R (.ref T) s) : wpAny M A (field (.ref x) 1) R E1 s := by
  obtain ⟨B, H, cls, d, c, ⟨_, _, _, oe, fs, T, oT, ts, g, hz, hd, f1, _⟩, _⟩ := h
  exact wpAny_field g hd f1 (k T)
/-- its flight is set anew -/
theorem Hold.set (hf : X.env.frame = some X.env.locals) (ff : X.s_0.heap.FunFrames X.base X.outer) {M : Model} {A : Around} {E1 : Value → Shared → Prop} {R : Unit → Shared → Prop} {x : Addr} (h : Hold X E x s) (k : ∀ g, Hold X E x { s with heap := g } → R () { s with heap := g }) :
    wpAny M A (setFlight (.ref x) X.env.frame) R E1 s := by
  obtain ⟨B, H, cls, d, c, ⟨h1, h2, h3, h4⟩, hok, ub, na, os, ag, cb, w⟩ := h
  rw [hf]
  exact HandSPX.setFlight_anyZ h1 h3 h4 (fr := some X.env.locals) fun g k1 k2 k3 up => k g ⟨B, H, cls, d, c, ⟨k1, h2, k2, k3⟩, hok, UB.up ub (noFields ff) up, na, os, ag, cb, w⟩
/-- it is noted again, and comes back -/
theorem Hold.back (hs : X.stack = X.env :: X.outer) (hf : X.env.frame = some X.env.locals) (hfr : X.A.frames = some (X.env :: X.outer)) (ff : X.s_0.heap.FunFrames X.base X.outer) {M : Model} {A A' : Around} {E₁ : Value → Shared → Prop} {x : Addr}
    (hx : X.xe = fun e s' => wpAny (model X.prog X.w) X.A (leaving X.env e) (fun _ s2 => CX X.prog X.w X.outer X.H_0 X.s_0 E e s2) E₁ s') (h : Hold X E x s) :
    notedBy M A X.env (cameBackBy M A' X.env X.xe) (.ref x) s := by
  have again : cameBackBy M A' X.env X.xe (.ref x) s := by
    unfold cameBackBy
    refine wpAny_bind (h.tb fun T => ?_)
    rw [if_neg (by simp)]
    refine h.set hf ff fun g hg => ?_
    rw [hx]
    exact Going.leave hs hf hfr ff (hg.going hs)
  obtain ⟨B, H, cls, d, c, hh, r⟩ := h
  exact HandSPX.againZ hf hh.2.2.2 again
/-- the name is gone; the exception goes on -/
theorem cleanup (hs : X.stack = X.env :: X.outer) (hf : X.env.frame = some X.env.locals) (hex : X.ex = []) {n : Str} {pos : Pos} {pn : List (Addr × Obj)} {u : Value} (hfr : X.A.frames = some (X.env :: X.outer)) (hln : X.env.kindOf n = some .local) {E₁ : Value → Shared → Prop}
    (hx : X.xe = fun e s' => wpAny (model X.prog X.w) X.A (leaving X.env e) (fun _ s2 => CX X.prog X.w X.outer X.H_0 X.s_0 E e s2) E₁ s') {M : Model} {A A1 : Around} (hA : A.frames = some (X.env :: X.outer)) {E3 E4 : Value → Shared → Prop}
    (k : XE (X.suite a pn) (fun cls d _ H => E cls d H) u s) :
    wpAny M A (noteFrame u X.env) (fun _ s4 => wpAny M A (do bindName X.env n .none; unbindBehindTheSuite X.env n pos)
      (fun _ s5 => wpAny M A (passOn "try.except-as" u X.env : Sem Flow) (fun _ _ => False) (notedBy M A X.env (cameBackBy M A1 X.env X.xe)) s5) E3 s4) E4 s := by
  obtain ⟨x, B, sI, ps, τ, G, cls, d, c, rfl, J, nb, up, sky, na, os, ag, ck, w⟩ := k
  obtain ⟨hok, ub, os0, cb⟩ := parts (X := X.suite a pn) hs hex J nb up os ck
  have kd : X.env.scope.kind = .function := J.ok.kind
  have ff : X.s_0.heap.FunFrames X.base X.outer := J.ok.funs
  have above : X.s_0.heap.objs.size ≤ X.env.locals := J.ok.above
  have sky : Sky B (X.env :: X.outer) x (Zk c cls d) X.env.locals s.heap := by rw [← hs]; exact sky
  have fin : ∀ h1, HandSPX.HeldZ B (X.env :: X.outer) x (Zk c cls d) X.env.locals h1 → s.heap.UpToSlots h1 → wpAny M A (do bindName X.env n .none; unbindBehindTheSuite X.env n pos)
      (fun _ s5 => wpAny M A (passOn "try.except-as" (.ref x) X.env : Sem Flow) (fun _ _ => False) (notedBy M A X.env (cameBackBy M A1 X.env X.xe)) s5) E3 { s with heap := h1 } := fun h1 hh u1 => by
    have Jl : Inv (X.suite a pn) ps τ G { s with heap := h1 } := J.landed (s' := { s with heap := h1 }) nb hh.1 (up.trans u1) os ag
    obtain ⟨m, hns, _⟩ := Jl.loc
    refine wpAny_nameGoes_keeps hln hns (by rw [kd]; rfl) fun h2 v hn2 sb => ?_
    obtain ⟨k1, k2, k3, oe, fs, T, oT, ts, g, hz, hd, f1, bT, nT, gT, dT, fT⟩ := hh
    obtain ⟨bL, oL, gL, nfL⟩ := k3.mem (List.mem_filterMap.mpr ⟨X.env, List.mem_cons_self, hf⟩)
    have xL : x ≠ X.env.locals := fun z => by
      rw [z, gL] at g
      cases g
      exact nfL _ hd
    have TL : T ≠ X.env.locals := fun z => by
      rw [z, gL] at gT
      cases gT
      exact nfL _ dT
    have nLo : X.env.locals ∉ frs X.outer := fun mm => by
      obtain ⟨_, o0, e0, _⟩ := ff.mem mm
      exact absurd (Heap.lt_size e0) (Nat.not_lt.mpr above)
    obtain ⟨o2, es, ep, g2, d2, _⟩ := id hn2
    have ub1 := UB.up ub (noFields ff) u1
    have H2 : Hold X E x { s with heap := h2, toks := s.toks + 1 } := by
      refine ⟨B, G, cls, d, c, ⟨fun b o e => (sb.2 b fun z => by rw [z, bL] at e; cases e).trans (k1 b o e), k2, ⟨k3.1, ⟨X.env.locals, o2, hf, bL, g2, fun vs z => by rw [d2] at z; cases z⟩, frames_but sb.2 X.outer nLo k3.2.2⟩,
        ⟨oe, fs, T, oT, ts, (sb.2 x xL).trans g, hz, hd, f1, bT, nT, (sb.2 T TL).trans gT, dT, fT⟩⟩, hok, ⟨ub1.keep, fun b o e m => ?_, ub1.free, ub1.there, ub1.tups, ub1.frzs, ub1.tbls⟩, na, os0, ag, cb, w⟩
      obtain ⟨sl, z⟩ := ub1.slot b o e m
      exact ⟨sl, (sb.2 b fun y => nLo (y ▸ m)).trans z⟩
    show wpAny M A (passOn "try.except-as" (.ref x) X.env : Sem Flow) (fun _ _ => False) (notedBy M A X.env (cameBackBy M A1 X.env X.xe)) { s with heap := h2, toks := s.toks + 1 }
    unfold PySem.passOn
    refine wpAny_bind (H2.tb fun T => ?_)
    rw [if_neg (by simp)]
    refine wpAny_bind (H2.set hf ff fun g hg => ?_)
    exact wpAny_throw (hg.back hs hf hfr ff hx)
  rcases sky with ⟨h0, hn, hl, oe, fs, g, hz, hd, f1⟩ | fl | hh
  · exact PXN.look_newZ Zk.steady hA hl hf g h0 hn hd f1 hz fin
  · exact PXN.looks_onZ Zk.steady hA hf fl fin
  · exact HandSPX.againZ hf hh.2.2.2 (fin s.heap hh (Heap.UpToSlots.refl _))
end
end L2C
/-! try: body, except X as n: raise Y() from n -/
namespace L2C
open PySem PySem.Spec PyProof.Rows L2 HotX
/-- what is wished of an exception that comes to such a clause -/
def wFrom (K : PySem.W.Frag) (c : Value) (i : Nat) (te : L2.St → Hp → XK → Prop) (E : XK) : WX := fun cls d σ H => ∃ b, PySem.W.exmOne K cls c = some b ∧ (b = true → cls = c ∧ ∀ a, H a = none → te (σ.set i (some (.ref a))) H E) ∧ (b = false → E cls d H)
section
variable {X : Cx} {E : XK} {x n : Str} {c : Value} {i : Nat} {e : Expr} {te : L2.St → Hp → XK → Prop} {np npos rpos pos' pos : Pos} {E₁ : Value → Shared → Prop}
theorem clause_from (hex : X.ex = []) (hN : X.N.Nodup) (hi : X.N[i]? = some n) (hln : X.env.kindOf n = some .local) (hc : Names X x c) (hr : Raises X c) (hdb : (n == ("__debug__" : Str)) = false)
    (hx : X.xe = fun e s' => wpAny (model X.prog X.w) X.A (leaving X.env e) (fun _ s2 => CX X.prog X.w X.outer X.H_0 X.s_0 E e s2) E₁ s') (he : ∀ a pn xe, L2H.PMk5 { X.suite a pn with xe := xe } e te)
    {pins : List (Addr × Obj)} {a : Addr} {B : Heap} {sI s : Shared} {σ : L2.St} {H : Hp} {cls : Value} {d : Option Addr} {D : Ends} (k : FWN.Cau X pins a B sI σ H cls d s) (w : wFrom X.K c i te E cls d σ H) :
    wpAny (model X.prog X.w) X.A (handleBy (.ref a) X.env [.ExceptHandler (some (.Name x np)) (some n) [.Raise (some e) (some (.Name n npos)) rpos] pos']) (SP X pins D) X.xe s := by
  have hs := k.hs
  have hf := k.hf
  have fr : X.A.frames = some (X.env :: X.outer) := by rw [k.inv.ok.frames, hs]
  have tk : Takes X (fun cls d _ H => E cls d H) := takes_of hs hf hex hx
  obtain ⟨b, hb, yes, no⟩ := w
  obtain ⟨oe, hz, hfl, hg, S⟩ := k.hold
  refine wpAny_handleBy_cons (codeAny_handlers_test ?_) (by intro q; cases q)
  have lt : PySem.W.Looks (model X.prog X.w) s.heap (typeOf (.ref a)) cls := fun _ _ _ _ kp q => wpAny_typeOf_ref (kp _ _ hg) (by rw [hz.1]; exact q)
  have lm := PySem.W.exm_one (M := model X.prog X.w) k.now.kIn lt hb
  have name : ∀ {Q : Value → Shared → Prop} {E : Value → Shared → Prop}, Q c s → wpAny (model X.prog X.w) (X.A.mark (some (.ref a))) (eval (.Name x np) X.env) Q E s := fun {Q E} q => by
    rcases hc with ⟨hg, hdb, hm | ⟨hm, hv, hnn⟩⟩
    · exact ld_glob (X := X.suite a ((a, oe) :: (X.pn ++ pins))) S hg hm q hdb
    · exact ld_blt (X := X.suite a ((a, oe) :: (X.pn ++ pins))) S hg hm hv q hnn hdb
  refine name (lm.here ?_)
  cases b with
  | false =>
    show wpAny _ X.A (handleBy (.ref a) X.env []) _ _ _
    exact k.pass (takes_n tk) (no rfl)
  | true =>
    obtain ⟨rfl, hte⟩ := yes rfl
    refine codeAny_handlers_suite_as (HandSPX.lands_againZ k.fly fun g gf gu => ?_)
    have k' := k.on gf gu
    obtain ⟨o2, z2, ⟨fs, f2⟩, e2, S2⟩ := k'.hold
    have hnew : X.s_0.heap.get? a = none := by
      cases q : X.s_0.heap.get? a with
      | none => rfl
      | some o =>
        obtain ⟨o', z⟩ := k.inv.base.there a o q (by rw [hex]; simp)
        have y := k.nb a o' z fun m => by
          rcases List.mem_cons.mp (k.inv.stkSub a m) with q | q
          · exact k.apart.1 q
          · exact k.apart.2 q
        rw [k.fly.2.1] at y
        cases y
    refine store_ok (X := X.suite a ((a, o2) :: (X.pn ++ pins))) (v := .ref a) S2 hN hi (.inl hln) rfl (fun s5 S5 => ?_) (.inr hln)
    let Y : Cx := { X.suite a ((a, o2) :: (X.pn ++ pins)) with xe := XE (X.suite a ((a, o2) :: (X.pn ++ pins))) (fun cls d _ H => E cls d H) }
    have tkY : Takes Y (fun cls d _ H => E cls d H) := fun u s' ⟨a, B, sI, ps, τ, G, cls, d, c, q, I, r⟩ => ⟨a, B, sI, ps, τ, G, cls, d, c, q, I.wish fun _ _ => False, r⟩
    have SY : Inv Y [] (σ.set i (some (.ref a))) H s5 := S5.wish _
    have ps := ps_raiseFrom (Y := Y) (npos := npos) (pos := rpos) (oe := o2) (fs := fs) (i := i) List.mem_cons_self rfl f2 (z2.2.2 fs f2) (by rw [z2.1]; exact hr) hnew tkY (he a _ _) hi hln hdb
    have hi2 : (σ.set i (some (.ref a)))[i]? = some (some (.ref a)) := by
      refine List.getElem?_set_self ?_
      rw [k.inv.len]
      exact (List.getElem?_eq_some_iff.mp hi).1
    refine wpAny_mono ((pss_one ps).run [] s5 _ H { nx := fun _ _ => False, rt := fun _ _ => False } SY ⟨hi2, hte a k.na⟩) (fun fl s6 hsp => ?_) fun u s6 hu => ?_
    · cases fl with
      | ret u =>
        obtain ⟨_, _, _, _, _, q⟩ := hsp
        exact q.elim
      | next =>
        obtain ⟨_, _, _, q⟩ := hsp
        exact q.elim
      | brk =>
        obtain ⟨_, _, _, q⟩ := hsp
        exact q.elim
      | cont =>
        obtain ⟨_, _, _, q⟩ := hsp
        exact q.elim
    · exact cleanup hs hf hex fr hln hx (by exact fr) hu
/-- try: body, except X as n: raise Y() from n -/
theorem ps_try_from {body : List Stmt} {tb : WX → TS} (hs : X.stack = X.env :: X.outer) (hf : X.env.frame = some X.env.locals) (hex : X.ex = []) (hN : X.N.Nodup) (hi : X.N[i]? = some n) (hln : X.env.kindOf n = some .local) (hc : Names X x c) (hr : Raises X c) (hdb : (n == ("__debug__" : Str)) = false)
    (hx : X.xe = fun e s' => wpAny (model X.prog X.w) X.A (leaving X.env e) (fun _ s2 => CX X.prog X.w X.outer X.H_0 X.s_0 E e s2) E₁ s') (he : ∀ a pn xe, L2H.PMk5 { X.suite a pn with xe := xe } e te)
    (hb : ∀ (W : WX) (pn : List (Addr × Obj)) (xe : Value → Shared → Prop), L2N.Takes (X.tr pn xe) W → PassesOwn (model X.prog X.w) X.A X.env xe → PSs (X.tr pn xe) body (tb W)) :
    PS X (.Try body [.ExceptHandler (some (.Name x np)) (some n) [.Raise (some e) (some (.Name n npos)) rpos] pos'] [] [] pos) (fun D σ H => tb (wFrom X.K c i te E) D σ H) := by
  refine ⟨fun pins s σ H D I h => wpAny_Try_except ?_⟩
  have fr : X.A.frames = some (X.env :: X.outer) := by rw [I.ok.frames, hs]
  have run := (hb (wFrom X.K c i te E) (X.pn ++ pins) (fun u s1 => wpAny (model X.prog X.w) X.A (noteFrame u X.env) (fun _ s2 => wpAny (model X.prog X.w) X.A (setFlight u none)
    (fun _ s3 => wpAny (model X.prog X.w) X.A (handleBy u X.env [.ExceptHandler (some (.Name x np)) (some n) [.Raise (some e) (some (.Name n npos)) rpos] pos']) (SP X pins D) X.xe s3) X.xe s2) X.xe s1) ?_ PassesOwn.looking).run [] s σ H D (I.toTry _) h
  · refine wpAny_mono run (fun fl s1 hsp => ?_) (fun _ _ z => z)
    cases fl with
    | ret u =>
      obtain ⟨v, τ, G, J, r, q⟩ := hsp
      exact ⟨v, τ, G, J.ofTry I.ok, r, q⟩
    | next =>
      obtain ⟨τ, G, J, q⟩ := hsp
      exact wpAny_execs_nil ⟨τ, G, J.ofTry I.ok, q⟩
    | brk =>
      obtain ⟨τ, G, J, q⟩ := hsp
      exact ⟨τ, G, J.ofTry I.ok, q⟩
    | cont =>
      obtain ⟨τ, G, J, q⟩ := hsp
      exact ⟨τ, G, J.ofTry I.ok, q⟩
  · rintro u s1 ⟨a, B, sI, ps, τ, G, cls, d, rfl, J, nb, up, sky, na, os, ag, w⟩
    have sky' : Sky B (X.env :: X.outer) a (L2N.Zn cls d) X.env.locals s1.heap := by rw [← hs]; exact sky
    show wpAny (model X.prog X.w) X.A (noteFrame (.ref a) X.env) _ _ _
    refine L2N.Sky.land L2N.Zn.steady fr hf sky' fun g gf gu => ?_
    exact clause_from (s := { s1 with heap := g }) hex hN hi hln hc hr hdb hx he ⟨hs, hf, J.ofTry I.ok, nb, up.trans gu, gf, na, os, ag⟩ w
end
end L2C
namespace FWC
open PySem PySem.Spec PyProof.Rows L2 FW
/-- what stands at the context of the handled exception p -/
def Chn (pn : List (Addr × Obj)) (p : Addr × Obj) : Prop := ∃ fs : Array Value, p.2.data = .fields fs ∧ (fs[2]? = some .none ∨ ∃ q ∈ pn, fs[2]? = some (.ref q.1) ∧ L2C.Last q ∧ q.1 ≠ p.1)
theorem inv_unpin {X : Cx} {pins : List (Addr × Obj)} {σ : L2.St} {H : Hp} {s : Shared} {q : Addr × Obj} (I : Inv X (q :: pins) σ H s) : Inv X pins σ H s where
  ok := I.ok
  os := I.os
  bare := I.bare
  base := I.base
  loc := I.loc
  cell := I.cell
  free := I.free
  freeC := I.freeC
  hok := I.hok
  len := I.len
  pin := fun p hp => I.pin p ((List.mem_append.mp hp).elim (fun z => List.mem_append_left _ z) fun z => List.mem_append_right _ (List.mem_cons_of_mem _ z))
theorem sp_unpin {X : Cx} {pins : List (Addr × Obj)} {D : Ends} {q : Addr × Obj} {s : Shared} {f : Flow} (h : SP X (q :: pins) D f s) : SP X pins D f s := by
  cases f with
  | ret u =>
    obtain ⟨v, τ, G, J, r, z⟩ := h
    exact ⟨v, τ, G, inv_unpin J, r, z⟩
  | next =>
    obtain ⟨τ, G, J, z⟩ := h
    exact ⟨τ, G, inv_unpin J, z⟩
  | brk =>
    obtain ⟨τ, G, J, z⟩ := h
    exact ⟨τ, G, inv_unpin J, z⟩
  | cont =>
    obtain ⟨τ, G, J, z⟩ := h
    exact ⟨τ, G, inv_unpin J, z⟩
/-! ### several clauses «except X as n» -/
/-- an exception that a try of X has caught; s: the state in which the clauses are asked -/
structure Cau (X : Cx) (pins : List (Addr × Obj)) (a : Addr) (B : Heap) (sI : Shared) (σ : L2.St) (H : Hp) (cls : Value) (d : Option Addr) (s : Shared) (c0 : Value) : Prop where
  hs : X.stack = X.env :: X.outer
  hf : X.env.frame = some X.env.locals
  inv : Inv X pins σ H sI
  nb : ∀ b o, sI.heap.get? b = some o → b ∉ frs X.stack → B.get? b = some o
  up : sI.heap.UpToSlots s.heap
  fly : HandSPX.FlyingZ B (X.env :: X.outer) a (L2C.Zk c0 cls d) s.heap
  ck : L2C.CtxOk X pins c0
  na : H a = none
  os : s.os = sI.os
  ag : AllBare s.gens
section
variable {X : Cx} {pins : List (Addr × Obj)} {a : Addr} {B : Heap} {sI s : Shared} {σ : L2.St} {H : Hp} {cls : Value} {d : Option Addr} {c0 : Value}
theorem Cau.now (c : Cau X pins a B sI σ H cls d s c0) : Inv X pins σ H s := c.inv.landed c.nb c.fly.1 c.up c.os c.ag
theorem Cau.on (c : Cau X pins a B sI σ H cls d s c0) {g : Heap} (f : HandSPX.FlyingZ B (X.env :: X.outer) a (L2C.Zk c0 cls d) g) (u : s.heap.UpToSlots g) : Cau X pins a B sI σ H cls d { s with heap := g } c0 :=
  ⟨c.hs, c.hf, c.inv, c.nb, c.up.trans u, f, c.ck, c.na, c.os, c.ag⟩
theorem Cau.apart (c : Cau X pins a B sI σ H cls d s c0) : a ≠ X.env.locals ∧ a ∉ X.fs := by
  have no : a ∉ frs (X.env :: X.outer) := fun m => by
    obtain ⟨ox, vx, hx, _, dx⟩ := c.fly.there
    obtain ⟨_, ox', hx', nx⟩ := c.fly.2.2.1.mem m
    rw [hx] at hx'
    cases hx'
    exact nx _ dx
  have m0 : X.env.locals ∈ frs (X.env :: X.outer) := List.mem_filterMap.mpr ⟨X.env, List.mem_cons_self, c.hf⟩
  refine ⟨fun z => no (by rw [z]; exact m0), fun m => no ?_⟩
  obtain ⟨en, me, q⟩ := List.mem_filterMap.mp m
  exact List.mem_filterMap.mpr ⟨en, List.mem_cons_of_mem _ me, q⟩
theorem Cau.hold (c : Cau X pins a B sI σ H cls d s c0) : ∃ oe, Zc cls d oe ∧ Chn ((a, oe) :: (X.pn ++ pins)) (a, oe) ∧ s.heap.get? a = some oe ∧ Inv (X.suite a ((a, oe) :: (X.pn ++ pins))) [] σ H s := by
  obtain ⟨oe, fs, g, hz, hd⟩ := c.fly.there
  refine ⟨oe, hz.1, ⟨fs, hd, ?_⟩, g, c.now.suite g hd c.na c.apart.1 c.apart.2⟩
  have z := hz.2 fs hd
  rcases c.ck with rfl | ⟨q, mq, rfl, lq, nq⟩
  · exact .inl z
  · refine .inr ⟨q, List.mem_cons_of_mem _ (List.mem_append_right _ mq), z, lq, fun e => ?_⟩
    obtain ⟨gq, _, nl, nf, _⟩ := c.inv.pin q (List.mem_append_right _ mq)
    have y := c.nb q.1 q.2 gq fun m => by
      rcases List.mem_cons.mp (c.inv.stkSub q.1 m) with r | r
      · exact nl r
      · exact nf r
    have e' : q.1 = a := e
    rw [e', c.fly.2.1] at y
    cases y
inductive Hds (X : Cx) : List ExceptHandler → List Cl → Prop
  | nil : Hds X [] []
  | cons {x n : Str} {k : Cl} {b₀ : Stmt} {suite : List Stmt} {np pos' : Pos} {hds : List ExceptHandler} {l : List Cl} (hN : X.N.Nodup) (hi : X.N[k.i]? = some n) (hln : X.env.kindOf n = some .local) (hc : Names X x k.c)
      (hsu : ∀ (a : Addr) (oe : Obj) (cls : Value) (d : Option Addr) (pn : List (Addr × Obj)), Zc cls d oe → Chn ((a, oe) :: pn) (a, oe) → PSs (X.suite a ((a, oe) :: pn)) (b₀ :: suite) (k.ts a cls d)) (r : Hds X hds l) :
      Hds X (.ExceptHandler (some (.Name x np)) (some n) (b₀ :: suite) pos' :: hds) (k :: l)
/-- no clause takes it: it goes on -/
theorem Cau.pass (c : Cau X pins a B sI σ H cls d s c0) {Wout : WX} {Q : Flow → Shared → Prop} (tk : L2C.Takes X Wout) (w : Wout cls d σ H) : wpAny (model X.prog X.w) X.A (handleBy (.ref a) X.env []) Q X.xe s := by
  refine wpAny_handleBy_nil ?_
  have up0 : wpAny (model X.prog X.w) X.A (setFlight (.ref a) X.env.frame) (fun _ s4 => wpAny (model X.prog X.w) X.A (throw (.ref a) : Sem Flow) Q X.xe s4) X.xe s := by
    rw [c.hf]
    refine HandSPX.setFlight_upZ c.fly fun g gh gu => wpAny_throw (tk _ _ ?_)
    exact ⟨a, B, sI, pins, σ, H, cls, d, c0, rfl, c.inv, c.nb, c.up.trans gu, .inr (.inr (by rw [c.hs]; exact gh)), c.na, c.os, c.ag, c.ck, w⟩
  obtain ⟨_, _, _, oe, vs, Tb, oT, us, he, _, hd, h1, _⟩ := c.fly
  unfold PySem.passOn
  refine wpAny_bind (wpAny_field he hd h1 ?_)
  rw [if_neg (by simp)]
  first
    | exact wpAny_bind (wpAny_pure (wpAny_bind up0))
    | exact wpAny_bind up0
/-- the clauses, one behind the other -/
theorem Cau.ask {D : Ends} {Wout : WX} (tk : L2C.Takes X Wout) : ∀ {hds : List ExceptHandler} {l : List Cl}, Hds X hds l → Cau X pins a B sI σ H cls d s c0 → wCls X.K Wout D l cls d σ H →
    wpAny (model X.prog X.w) X.A (handleBy (.ref a) X.env hds) (SP X pins D) X.xe s := by
  intro hds l hk c
  induction hk with
  | nil => exact fun w => c.pass tk w
  | @cons x n k b₀ suite np pos' hds' l' hN hi hln hc hsu _ ih =>
    rintro ⟨b, hb, yes, no⟩
    obtain ⟨oe, hz, hfl, he, S⟩ := c.hold
    refine wpAny_handleBy_cons (codeAny_handlers_test ?_) (by intro q; cases q)
    have lt : PySem.W.Looks (model X.prog X.w) s.heap (typeOf (.ref a)) cls := fun _ _ _ _ kp q => wpAny_typeOf_ref (kp _ _ he) (by rw [hz.1]; exact q)
    have lm := PySem.W.exm_one (M := model X.prog X.w) c.now.kIn lt hb
    have name : ∀ {Q : Value → Shared → Prop} {E : Value → Shared → Prop}, Q k.c s → wpAny (model X.prog X.w) (X.A.mark (some (.ref a))) (eval (.Name x np) X.env) Q E s := fun {Q E} q => by
      rcases hc with ⟨hg, hdb, hm | ⟨hm, hv, hnn⟩⟩
      · exact ld_glob (X := X.suite a ((a, oe) :: (X.pn ++ pins))) S hg hm q hdb
      · exact ld_blt (X := X.suite a ((a, oe) :: (X.pn ++ pins))) S hg hm hv q hnn hdb
    refine name (lm.here ?_)
    cases b with
    | false =>
      show wpAny _ X.A (handleBy (.ref a) X.env hds') _ _ _
      exact ih (no rfl)
    | true =>
      refine codeAny_handlers_suite_as (HandSPX.lands_againZ c.fly fun g gf gu => ?_)
      have c' := c.on gf gu
      obtain ⟨o2, z2, f2, e2, S2⟩ := c'.hold
      refine store_ok (X := X.suite a ((a, o2) :: (X.pn ++ pins))) (v := .ref a) S2 hN hi (.inl hln) rfl (fun s5 S5 => ?_) (.inr hln)
      refine wpAny_mono ((hsu a o2 cls d (X.pn ++ pins) z2 f2).run [] s5 _ H _ S5 (yes rfl a c.na)) (fun fl s6 hsp => ?_) (fun _ _ z => False.elim z)
      have leave : ∀ {τ : L2.St} {G : Hp} {Q : Shared → Prop}, Inv (X.suite a ((a, o2) :: (X.pn ++ pins))) [] τ G s6 → (∀ s7, Inv X pins (τ.set k.i none) G s7 → Q s7) →
          wpAny (model X.prog X.w) X.A (do bindName X.env n .none; unbindBehindTheSuite X.env n pos') (fun _ s7 => Q s7) X.xe s6 := fun {τ G Q} S6 hq => gone_ok (S6.unsuite c.inv.ok) hN hi hln hq
      cases fl with
      | ret u =>
        obtain ⟨v6, τ, G, S6, r6, q6⟩ := hsp
        exact leave S6 fun s7 J7 => ⟨_, _, _, J7, r6, q6⟩
      | next =>
        obtain ⟨τ, G, S6, q6⟩ := hsp
        exact leave S6 fun s7 J7 => ⟨_, _, J7, q6⟩
      | brk =>
        obtain ⟨τ, G, S6, q6⟩ := hsp
        exact leave S6 fun s7 J7 => ⟨_, _, J7, q6⟩
      | cont =>
        obtain ⟨τ, G, S6, q6⟩ := hsp
        exact leave S6 fun s7 J7 => ⟨_, _, J7, q6⟩
end
section
variable {X : Cx} {body : List Stmt} {h₀ : ExceptHandler} {hds : List ExceptHandler} {l : List Cl} {pos : Pos} {tb : WX → TS} {Wout : WX}
/-- try: body except X1 as n1: .. except X2 as n2: .. -/
theorem ps_tryA (hs : X.stack = X.env :: X.outer) (hf : X.env.frame = some X.env.locals) (tk : L2C.Takes X Wout)
    (hb : ∀ (W : WX) (pn : List (Addr × Obj)) (xe : Value → Shared → Prop), L2C.Takes (X.tr pn xe) W → PassesOwn (model X.prog X.w) X.A X.env xe → PSs (X.tr pn xe) body (tb W))
    (hh : Hds X (h₀ :: hds) l) : PS X (.Try body (h₀ :: hds) [] [] pos) (tTryA X.K tb l Wout) := by
  refine ⟨fun pins s σ H D I h => wpAny_Try_except ?_⟩
  have fr : X.A.frames = some (X.env :: X.outer) := by rw [I.ok.frames, hs]
  have run := (hb (wCls X.K Wout D l) (X.pn ++ pins) (fun e s₁ => wpAny (model X.prog X.w) X.A (noteFrame e X.env) (fun _ s₂ => wpAny (model X.prog X.w) X.A (setFlight e none)
    (fun _ s₃ => wpAny (model X.prog X.w) X.A (handleBy e X.env (h₀ :: hds)) (SP X pins D) X.xe s₃) X.xe s₂) X.xe s₁) ?_ PassesOwn.looking).run [] s σ H D (I.toTry _) h
  · refine wpAny_mono run (fun fl s1 hsp => ?_) (fun _ _ he => he)
    cases fl with
    | ret u =>
      obtain ⟨v, τ, G, J, r, q⟩ := hsp
      exact ⟨v, τ, G, J.ofTry I.ok, r, q⟩
    | next =>
      obtain ⟨τ, G, J, q⟩ := hsp
      exact wpAny_execs_nil ⟨τ, G, J.ofTry I.ok, q⟩
    | brk =>
      obtain ⟨τ, G, J, q⟩ := hsp
      exact ⟨τ, G, J.ofTry I.ok, q⟩
    | cont =>
      obtain ⟨τ, G, J, q⟩ := hsp
      exact ⟨τ, G, J.ofTry I.ok, q⟩
  · rintro u s1 ⟨a, B, sI, ps, τ, G, cls, d, c0, rfl, J, nb, up, sky, na, os, ag, ck, w⟩
    have sky' : Sky B (X.env :: X.outer) a (L2C.Zk c0 cls d) X.env.locals s1.heap := by rw [← hs]; exact sky
    show wpAny (model X.prog X.w) X.A (noteFrame (.ref a) X.env) _ _ _
    refine L2N.Sky.land L2C.Zk.steady fr hf sky' fun g gf gu => ?_
    have J0 := J.ofTry I.ok
    rcases ck with rfl | ⟨q, mq, rfl, lq, nq⟩
    · exact Cau.ask (s := { s1 with heap := g }) (c0 := .none) tk hh ⟨hs, hf, J0, nb, up.trans gu, gf, .inl rfl, na, os, ag⟩ w
    · obtain ⟨gq, hq, nl, nf, nc⟩ := J.pin q (List.mem_append_right _ mq)
      refine wpAny_mono (Cau.ask (s := { s1 with heap := g }) (pins := q :: pins) (c0 := .ref q.1) tk hh ⟨hs, hf, L2C.inv_pin J0 gq hq nl nf nc, nb, up.trans gu, gf, .inr ⟨q, List.mem_cons_self, rfl, lq, nq⟩, na, os, ag⟩ w) (fun fl s2 z => sp_unpin z) fun _ _ z => z
/-- no exception leaves: a def that may raise, called where E0 is wanted -/
theorem passNo {P : Program} {w : World} {X : Cx} : Passes (L2C.CX P w) X E0 := fun _ _ _ _ _ _ _ ⟨_, _, _, _, _, _, _, _, _, _, _, _, _, _, z⟩ => z.elim
theorem takesNo {X : Cx} : L2C.Takes X (fun _ _ _ _ => False) := fun _ _ ⟨_, _, _, _, _, _, _, _, _, _, _, _, _, _, _, _, _, _, z⟩ => z.elim
end
/-! ### calls of defs that may raise -/
section
variable {X : Cx} {k j : Nat} {C : Addr} {x m : Str} {sp : Sp} {dvs : List V} {p pos apos : Pos} {e o : Expr} {es : List Expr} {ta : TE} {t : TA} {E : XK} {W : WX}
abbrev CXX (X : Cx) : CXT := L2C.CX X.prog X.w
/-- where nothing is raised -/
theorem pe_fN (c : Fn X.prog X.w X.K X.mg X.base (CXX X) k x sp dvs) (hr : Room j X.A) (hk : k ≤ j) (hg : Gl X x) (ha : PA X (e :: es) t)
    (hdb : (x == ("__debug__" : Str)) = false := by decide) (he : starEach (e :: es) X.env = (false, eval e X.env) :: starEach es X.env := by rfl) (hpl : (backTo pos (starEach es X.env)).any (·.1) = false := by rfl) :
    PE X (.Call (.Name x p) (e :: es) [] pos) (tCall sp dvs E0 t) := by
  obtain ⟨f, fd, ps, ds, F, hm, kp, b, d⟩ := c.ex
  exact pe_call F (hr.mono hk) hg hm kp b d passNo ha hdb he hpl
theorem pe_fX (hex : X.ex = []) (tk : L2C.Takes X (fun cls d _ H => E cls d H)) (c : Fn X.prog X.w X.K X.mg X.base (CXX X) k x sp dvs) (hr : Room j X.A) (hk : k ≤ j) (hg : Gl X x) (ha : PA X (e :: es) t)
    (hdb : (x == ("__debug__" : Str)) = false := by decide) (he : starEach (e :: es) X.env = (false, eval e X.env) :: starEach es X.env := by rfl) (hpl : (backTo pos (starEach es X.env)).any (·.1) = false := by rfl) :
    PE X (.Call (.Name x p) (e :: es) [] pos) (tCall sp dvs E t) := by
  obtain ⟨f, fd, ps, ds, F, hm, kp, b, d⟩ := c.ex
  exact pe_call F (hr.mono hk) hg hm kp b d (L2C.passes_call hex tk fun _ _ _ _ h => h) ha hdb he hpl
end
section
variable {P : Program} {w : World} {K : PySem.W.Frag} {mg : Str → Option Value} {base : Heap}
abbrev CXP (P : Program) (w : World) : CXT := L2C.CX P w
theorem Fn.mkX {x : Str} {params : Arguments} {body : List Stmt} {scope : Scope} {f : Addr} {N ps : List Str} {k : Nat} {sp : Sp}
    (F : ∃ fd, FunD K x x params body scope [] [] f fd) (g : mg x = some (.ref f)) (S : FnScope N ps scope)
    (hb : ∀ (kV doc pm : Value) (an : Option Addr) (cdv ct : Value) (us : List Value), us.length = ps.length → bindArgs (PySem.W.fnOf x x params body scope .none kV doc pm an cdv ct) ⟨us, []⟩ = pure (ps.zip us))
    (len : ∀ vs H Q E, sp vs H Q E → vs.length = ps.length)
    (hbody : ∀ (cdv : Value) (A : Around) (outer : List Env) (s : Shared) (H : Hp) (vs : List V) (Q : VK) (E : XK), Room k (A.deeper (envOfC x scope s.heap.objs.size f cdv)) → sp vs H Q E →
      ∃ t, PSs (cxOf (CXP P w) P w K mg base N x scope f cdv A outer s H E) body t ∧ t { nx := fun _ H' => Q .non H', rt := Q } (start N vs) H) : Fn P w K mg base (CXP P w) (k + 1) x sp [] := by
  obtain ⟨fd, F⟩ := F
  exact ⟨f, fd, ps, [], F.ok S len hbody, g, F.kp, F.bindsN hb, .nil⟩
theorem Mkr.mkX {x qual : Str} {C : Addr} {params : Arguments} {body : List Stmt} {scope : Scope} {f : Addr} {N ps : List Str} {k : Nat} {sp : Sp} {dvs : List V}
    (n j : Nat) (M : Mk K C f) (g : mg x = some (.ref C)) (F : ∃ fd, FunD K "__init__" qual params body scope dvs [] f fd) (S : FnScope N ps scope) (hd : dvs ≠ []) (hn : n + (dvs.length - j) = ps.length)
    (hb : ∀ (T : Addr) (kV doc pm : Value) (an : Option Addr) (cdv ct : Value) (us its : List Value), us.length = n → its.length = dvs.length →
      ∃ k, bindArgs (PySem.W.fnOf "__init__" qual params body scope (.ref T) kV doc pm an cdv ct) ⟨us, []⟩ = seqItems? (.ref T) >>= k ∧ k (some its.toArray) = pure (ps.zip (us ++ its.drop j)))
    (len : ∀ vs H Q E, sp vs H Q E → vs.length = ps.length)
    (hbody : ∀ (cdv : Value) (A : Around) (outer : List Env) (s : Shared) (H : Hp) (vs : List V) (Q : VK) (E : XK), Room k (A.deeper (envOfC qual scope s.heap.objs.size f cdv)) → sp vs H Q E →
      ∃ t, PSs (cxOf (CXP P w) P w K mg base N qual scope f cdv A outer s H E) body t ∧ t { nx := fun _ H' => Q .non H', rt := Q } (start N vs) H) : Mkr P w K mg base (CXP P w) (k + 1) x C sp (dvs.drop j) := by
  obtain ⟨fd, F⟩ := F
  obtain ⟨ds, hv, hbn⟩ := F.binds1 (ps := ps) n j hd hn hb
  exact ⟨f, fd, ps, ds, M, F.ok S len hbody, g, hbn, hv⟩
theorem Mkr.mkX0 {x qual : Str} {C : Addr} {params : Arguments} {body : List Stmt} {scope : Scope} {f : Addr} {N ps : List Str} {k : Nat} {sp : Sp}
    (M : Mk K C f) (g : mg x = some (.ref C)) (F : ∃ fd, FunD K "__init__" qual params body scope [] [] f fd) (S : FnScope N ps scope)
    (hb : ∀ (kV doc pm : Value) (an : Option Addr) (cdv ct : Value) (us : List Value), us.length = ps.length → bindArgs (PySem.W.fnOf "__init__" qual params body scope .none kV doc pm an cdv ct) ⟨us, []⟩ = pure (ps.zip us))
    (len : ∀ vs H Q E, sp vs H Q E → vs.length = ps.length)
    (hbody : ∀ (cdv : Value) (A : Around) (outer : List Env) (s : Shared) (H : Hp) (vs : List V) (Q : VK) (E : XK), Room k (A.deeper (envOfC qual scope s.heap.objs.size f cdv)) → sp vs H Q E →
      ∃ t, PSs (cxOf (CXP P w) P w K mg base N qual scope f cdv A outer s H E) body t ∧ t { nx := fun _ H' => Q .non H', rt := Q } (start N vs) H) : Mkr P w K mg base (CXP P w) (k + 1) x C sp [] := by
  obtain ⟨fd, F⟩ := F
  exact ⟨f, fd, ps, [], M, F.ok S len hbody, g, F.bindsN hb, .nil⟩
end
end FWC
namespace FWC
open PySem PySem.Spec PyProof.Rows HotX
/-! ### raising while an exception is handled whose context may be a further one -/
/-- the handled exception and its context stand among xs -/
def HotL (A : Around) (xs : List Addr) (h : Heap) : Prop := (∀ b ∈ xs, ∃ o, h.get? b = some o) ∧ ∃ (x : Addr) (o : Obj) (fs : Array Value), A.handled = some (.ref x) ∧ x ∈ xs ∧ h.get? x = some o ∧ o.data = .fields fs ∧
  (fs[2]? = some .none ∨ ∃ (y : Addr) (oy : Obj) (ys : Array Value), y ∈ xs ∧ y ≠ x ∧ fs[2]? = some (.ref y) ∧ h.get? y = some oy ∧ oy.data = .fields ys ∧ ys[2]? = some .none)
theorem hotL_but {A : Around} {xs : List Addr} {it : Addr} {h h' : Heap} (hot : HotL A xs h) (k : ∀ b o, b ≠ it → h.get? b = some o → h'.get? b = some o) (n : it ∉ xs) : HotL A xs h' := by
  have ne : ∀ {b : Addr}, b ∈ xs → b ≠ it := fun {b} m z => n (z ▸ m)
  obtain ⟨al, x, o, fs, hh, mx, g, d, c⟩ := hot
  refine ⟨fun b m => (al b m).imp fun o z => k b o (ne m) z, x, o, fs, hh, mx, k _ _ (ne mx) g, d, ?_⟩
  rcases c with c | ⟨y, oy, ys, my, nxy, c, gy, dy, cy⟩
  · exact .inl c
  · exact .inr ⟨y, oy, ys, my, nxy, c, k _ _ (ne my) gy, dy, cy⟩
theorem hotL_up {A : Around} {xs : List Addr} {h h' : Heap} (hot : HotL A xs h) (k : ∀ b o, h.get? b = some o → h'.get? b = some o) : HotL A xs h' := by
  obtain ⟨al, x, o, fs, hh, mx, g, d, c⟩ := hot
  refine ⟨fun b m => (al b m).imp fun o z => k b o z, x, o, fs, hh, mx, k _ _ g, d, ?_⟩
  rcases c with c | ⟨y, oy, ys, my, nxy, c, gy, dy, cy⟩
  · exact .inl c
  · exact .inr ⟨y, oy, ys, my, nxy, c, k _ _ gy, dy, cy⟩
theorem HotL.lt {A : Around} {xs : List Addr} {h : Heap} (hot : HotL A xs h) {b : Addr} (n : h.objs.size ≤ b) : b ∉ xs := fun m => by
  obtain ⟨o, z⟩ := hot.1 b m
  exact absurd (Heap.lt_size z) (Nat.not_lt.mpr n)
section
variable {prog : Program} {w : World} {A : Around} {E : Value → Shared → Prop} {s : Shared}
theorem unchain1 {a y slow : Addr} {b : Bool} {o : Obj} {ys : Array Value} {R : Result → Shared → Prop} (g : s.heap.get? y = some o) (d : o.data = .fields ys) (c : ys[2]? = some .none) (q : R (.ok (.ret .none)) s) :
    codeAny (model prog w) A (.builtin "proto.unchain" ⟨[.ref a, .ref y, .ref slow, .bool b], []⟩) R s := by
  refine codeAny_builtin HotX.entry_unchain ?_
  show wpAny _ _ (field (.ref y) 2 >>= _) _ _ s
  refine wpAny_bind (wpAny_field g d c ?_)
  rw [if_pos (show (Value.none == Value.none) = true from rfl)]
  first
  | exact wpAny_bind (wpAny_pure (wpAny_pure q))
  | exact wpAny_pure q
theorem unchain2 {a x : Addr} {xs : List Addr} {o : Obj} {fs : Array Value} {Q : Value → Shared → Prop} (n : a ∉ xs) (g : s.heap.get? x = some o) (d : o.data = .fields fs)
    (c : fs[2]? = some .none ∨ ∃ (y : Addr) (oy : Obj) (ys : Array Value), y ∈ xs ∧ y ≠ x ∧ fs[2]? = some (.ref y) ∧ s.heap.get? y = some oy ∧ oy.data = .fields ys ∧ ys[2]? = some .none) (q : Q .none s) :
    wpAny (model prog w) A (holding [Value.ref a] (runValue (.builtin "proto.unchain" ⟨[.ref a, .ref x, .ref x, .bool false], []⟩))) Q E s := by
  refine wpAny_holding (wpAny_runValue ?_)
  rcases c with c | ⟨y, oy, ys, my, nxy, c, gy, dy, cy⟩
  · exact unchain1 g d c q
  · refine codeAny_builtin HotX.entry_unchain ?_
    show wpAny _ _ (field (.ref x) 2 >>= _) _ _ s
    refine wpAny_bind (wpAny_field g d c ?_)
    rw [if_neg (by simp), if_neg (show ¬ ((Value.ref y == Value.ref a) = true) by
      simp
      exact fun z => n (z ▸ my)), if_neg (show ¬ ((Value.ref y == Value.ref x) = true) by
      simp
      exact nxy)]
    dsimp only
    rw [if_neg Bool.false_ne_true]
    refine wpAny_bind (wpAny_pure ?_)
    exact wpAny_pure ⟨by first | decide +kernel | (simp [Code.quiet]; done) | with_unfolding_all rfl, unchain1 gy dy cy q⟩
theorem raiseNew_hotL {α : Type} {a : Addr} {xs : List Addr} {oe : Obj} {vs : Array Value} {Q : α → Shared → Prop} (hot : HotL A xs s.heap) (hne : a ∉ xs) (ha : s.heap.get? a = some oe) (da : oe.data = .fields vs) (hi : 2 < vs.size)
    (hE : ∀ x, x ∈ xs → E (.ref a) { s with heap := s.heap.update a (Obj.mapFields (·.setIfInBounds 2 (.ref x))) }) : wpAny (model prog w) A (raiseNew (.ref a) : Sem α) Q E s := by
  obtain ⟨_, x, o, fs, hh, mx, g, d, c⟩ := hot
  have nb : (Value.ref x != Value.ref a) = true := ref_bne fun z => hne (z ▸ mx)
  have tail := unchain2 (prog := prog) (w := w) (A := A) (E := E) (Q := fun _ s2 => wpAny (model prog w) A (updateField a 2 (.ref x)) (fun _ s3 => wpAny (model prog w) A (throw (.ref a) : Sem α) Q E s3) E s2) hne g d c (chained ha da hi (wpAny_throw (hE x mx)))
  unfold raiseNew
  refine wpAny_bind (wpAny_handled ?_)
  rw [hh]
  dsimp only
  rw [if_pos nb]
  exact wpAny_bind (wpAny_mono tail (fun _ s2 z => wpAny_bind z) fun _ _ z => z)
end
section
variable {prog : Program} {w : World} {A : Around} {E : Value → Shared → Prop} {s : Shared}
/-- a StopIteration is made and thrown: the old objects stay -/
theorem stop_hotL {α : Type} {xs : List Addr} {Q : α → Shared → Prop} (hot : HotL A xs s.heap)
    (hE : ∀ h' e, (∀ b o, s.heap.get? b = some o → h'.get? b = some o) → (∃ o, h'.get? e = some o ∧ o.cls = .type "StopIteration") → E (.ref e) { s with heap := h' }) :
    wpAny (model prog w) A (Builtin.SmallTypes.stopIteration : Sem α) Q E s := by
  unfold Builtin.SmallTypes.stopIteration
  refine wpAny_bind ?_
  unfold newExc newTuple
  refine wpAny_bind (wpAny_newObj_type (wpAny_bind (m := firstArgMember _ _) (wpAny_of_eq (a := Value.none) (by first | rfl | (simp only [firstArgMember]; rfl)) (wpAny_newObj_type ?_ (by size_fits)))) (by size_fits))
  refine raiseNew_hotL (hotL_up hot fun b o q => Heap.get?_push_of_some _ (Heap.get?_push_of_some _ q)) (hot.lt (by simp only [Heap.size_push]; omega)) (Heap.get?_push_size _ rfl) rfl (by first | (simp; done) | (simp; omega)) fun x _ => ?_
  refine hE _ _ (fun b o q => ?_) ⟨_, Heap.get?_update_self _ (Heap.get?_push_size _ rfl) rfl, rfl⟩
  have q2 := Heap.get?_push_of_some { cls := .type "tuple", data := .seq ([] : List Value).toArray } q
  rw [Heap.get?_update_other _ _ (Nat.ne_of_gt (Heap.lt_size q2))]
  exact Heap.get?_push_of_some _ q2
/-- what list and tuple iterators do behind the last item -/
theorem list_end_hotL {it l : Addr} {xs : List Addr} {i : Nat} {items : Array Value} {Q : Fin → Shared → Prop} (hot : HotL A xs s.heap) (n1 : it ∉ xs) (hit : s.heap.IsListIter it l i) (hl : s.heap.IsList l items) (hx : items[i]? = none)
    (hE : ∀ h' e, FW.KpB it s.heap h' → (∃ o, h'.get? e = some o ∧ o.cls = .type "StopIteration") → E (.ref e) { s with heap := h' }) :
    wpAny (model prog w) A (Builtin.«list_iterator.__next__» ⟨[.ref it], []⟩) Q E s := by
  obtain ⟨oi, gi, ci, di⟩ := id hit
  obtain ⟨ol, gl, _, nl, dl⟩ := hl
  show wpAny _ _ (field (.ref it) 0 >>= _) _ _ s
  refine wpAny_bind (wpAny_field gi di (x := .ref l) rfl ?_)
  rw [if_neg (show ¬ (Value.ref l == Value.none) = true from Bool.false_ne_true)]
  refine wpAny_bind (wpAny_field gi di (x := .int i 0) rfl (wpAny_bind (wpAny_seqItems gl dl ?_)))
  simp only [Int.toNat_natCast, hx]
  refine wpAny_bind (wpAny_rule (wpAny_bind (wpAny_setField gi di (by simp) (stop_hotL (hotL_but hot (fun b o nb q => (Heap.SameBut.update ..).extBut b o nb q) n1) fun h' e k he => hE h' e (fun b o nb q => k b o ((Heap.SameBut.update ..).extBut b o nb q)) he))))
theorem tuple_end_hotL {it l : Addr} {xs : List Addr} {i : Nat} {items : Array Value} {Q : Fin → Shared → Prop} (hot : HotL A xs s.heap) (n1 : it ∉ xs) (hit : IsTupIter s.heap it l i) (hl : IsTup s.heap l items) (hx : items[i]? = none)
    (hE : ∀ h' e, FW.KpB it s.heap h' → (∃ o, h'.get? e = some o ∧ o.cls = .type "StopIteration") → E (.ref e) { s with heap := h' }) :
    wpAny (model prog w) A (Builtin.«tuple_iterator.__next__» ⟨[.ref it], []⟩) Q E s := by
  obtain ⟨oi, gi, ci, di⟩ := id hit
  obtain ⟨ol, gl, _, nl, dl⟩ := hl
  show wpAny _ _ (field (.ref it) 0 >>= _) _ _ s
  refine wpAny_bind (wpAny_field gi di (x := .ref l) rfl ?_)
  rw [if_neg (show ¬ (Value.ref l == Value.none) = true from Bool.false_ne_true)]
  refine wpAny_bind (wpAny_field gi di (x := .int i 0) rfl (wpAny_bind (wpAny_seqItems gl dl ?_)))
  simp only [Int.toNat_natCast, hx]
  refine wpAny_bind (wpAny_rule (wpAny_bind (wpAny_setField gi di (by simp) (stop_hotL (hotL_but hot (fun b o nb q => (Heap.SameBut.update ..).extBut b o nb q) n1) fun h' e k he => hE h' e (fun b o nb q => k b o ((Heap.SameBut.update ..).extBut b o nb q)) he))))
theorem next_list_end_hotL {it l : Addr} {xs : List Addr} {i : Nat} {items : Array Value} {Q : Option Value → Shared → Prop} (hot : HotL A xs s.heap) (n1 : it ∉ xs) (hit : s.heap.IsListIter it l i) (hl : s.heap.IsList l items) (hx : items[i]? = none)
    (hQ : ∀ h', FW.KpB it s.heap h' → Q none { s with heap := h' }) : wpAny (model prog w) A (pyNext (.ref it)) Q E s := by
  unfold pyNext
  refine wpAny_bind (wpAny_attempt (wpAny_callSpecial?_slot (name := Str.ofString "__next__") hit.typeIs slot_listiter_next (wpAny_call_entry slot_listiter_next hit.typeIs entry_listiter_next
    (list_end_hotL hot n1 hit hl hx fun h' e k he => ?_) (args_listiter_next _))))
  obtain ⟨o, go, co⟩ := he
  exact wpAny_bind (wpAny_isInstance (T := "StopIteration") (b := true) ⟨o, go, co⟩ isSubtype_stop (wpAny_pure (hQ _ k)))
theorem next_tuple_end_hotL {it l : Addr} {xs : List Addr} {i : Nat} {items : Array Value} {Q : Option Value → Shared → Prop} (hot : HotL A xs s.heap) (n1 : it ∉ xs) (hit : IsTupIter s.heap it l i) (hl : IsTup s.heap l items) (hx : items[i]? = none)
    (hQ : ∀ h', FW.KpB it s.heap h' → Q none { s with heap := h' }) : wpAny (model prog w) A (pyNext (.ref it)) Q E s := by
  unfold pyNext
  refine wpAny_bind (wpAny_attempt (wpAny_callSpecial?_slot (name := Str.ofString "__next__") hit.typeIs slot_tupleiter_next (wpAny_call_entry slot_tupleiter_next hit.typeIs entry_tupleiter_next
    (tuple_end_hotL hot n1 hit hl hx fun h' e k he => ?_) (args_tupleiter_next _))))
  obtain ⟨o, go, co⟩ := he
  exact wpAny_bind (wpAny_isInstance (T := "StopIteration") (b := true) ⟨o, go, co⟩ isSubtype_stop (wpAny_pure (hQ _ k)))
theorem nextOf_end_hotL {it l : Addr} {xs : List Addr} {i : Nat} {items : Array Value} {Q : Value → Shared → Prop} (hot : HotL A xs s.heap) (n1 : it ∉ xs) (hit : s.heap.IsListIter it l i) (hl : s.heap.IsList l items) (hx : items[i]? = none)
    (hE : ∀ h' e, FW.KpB it s.heap h' → (∃ o, h'.get? e = some o ∧ o.cls = .type "StopIteration") → E (.ref e) { s with heap := h' }) :
    wpAny (model prog w) A (Builtin.SmallTypes.nextOf (.ref it)) Q E s := by
  unfold Builtin.SmallTypes.nextOf
  exact wpAny_bind (wpAny_callSpecial?_slot (name := Str.ofString "__next__") hit.typeIs slot_listiter_next (wpAny_call_entry slot_listiter_next hit.typeIs entry_listiter_next
    (list_end_hotL hot n1 hit hl hx hE) (args_listiter_next _)))
/-- a tuple is taken apart -/
theorem unpack_hotL {env : Env} {elts : List Expr} {k1} {pos : Pos} {t : Addr} {xs : List Addr} {items : Array Value} {Q : Unit → Shared → Prop} (hot : HotL A xs s.heap) (ht : IsTup s.heap t items)
    (hn : (assignEach elts env).length = items.size) (hstar : (assignEach elts env).findIdx? (·.1) = none)
    (h : ∀ h', FW.KpB s.heap.objs.size s.heap h' → wpAny (model prog w) A (assignInOrder ((assignEach elts env).map (·.2)) items.toList) Q E { s with heap := h' }) :
    wpAny (model prog w) A (assign (.Tuple elts k1 pos) env (.ref t)) Q E s := by
  have lt : t ≠ s.heap.objs.size := by obtain ⟨o, ho, _⟩ := ht; exact Nat.ne_of_lt (Heap.lt_size ho)
  have lx : s.heap.objs.size ∉ xs := hot.lt (Nat.le_refl _)
  rw [assign_Tuple]
  refine wpAny_bind (wpAny_standAt ?_)
  unfold unpack
  rw [hn, hstar]
  refine wpAny_bind (wpAny_holding ?_)
  unfold unpackItems notIterableAtAll
  refine wpAny_bind (wpAny_bind (wpAny_specialOf ht.typeIs slot_tuple_iter.lookup (wpAny_pure ?_)))
  rw [if_neg (by decide)]
  refine wpAny_bind (wpAny_holding (iter_tuple ht (wpAny_bind (wpAny_holding (draw_tuple lt items.size 0 _ _ ⟨_, Heap.get?_push_size _ rfl, rfl, rfl⟩ (ht.push _) (by omega) fun h₁ it₁ sb => ?_)))))
  have all : ((items.toList.drop 0).take items.size) = items.toList := by
    rw [List.drop_zero]; exact List.take_of_length_le (by simp)
  rw [all, if_neg (by simp)]
  refine wpAny_bind (wpAny_holding (next_tuple_end_hotL (s := { s with heap := h₁ }) (hotL_but (hotL_but hot (it := s.heap.objs.size) (fun b o _ q => Heap.get?_push_of_some _ q) lx) (fun b o nb q => sb.extBut b o nb q) lx) lx it₁ ((ht.push _).extBut sb.extBut lt) (by simp) fun h₂ k₂ => ?_))
  simp only [Option.isSome_none, Bool.false_eq_true, if_false]
  exact wpAny_pure (h h₂ fun b o nb q => k₂ b o nb (sb.extBut b o nb (Heap.get?_push_of_some _ q)))
/-- a zip of two lists comes to its end -/
theorem zip_end_hotL {z TI TO i1 i2 l1 l2 : Addr} {xs0 : List Addr} {k1 k2 : Nat} {xs ys : Array Value} {a b : Value} {Q : Fin → Shared → Prop} (hot : HotL A xs0 s.heap) (nz : z ∉ xs0) (n1 : i1 ∉ xs0) (n2 : i2 ∉ xs0) (nT : TO ∉ xs0) (D : ZipApart z TI TO i1 i2 l1 l2)
    (hz : IsZip s.heap z TI TO .none) (hTI : IsPair s.heap TI (.ref i1) (.ref i2)) (hTO : IsPair s.heap TO a b) (h1 : s.heap.IsListIter i1 l1 k1) (h2 : s.heap.IsListIter i2 l2 k2) (hl1 : s.heap.IsList l1 xs) (hl2 : s.heap.IsList l2 ys) (hend : xs[k1]? = none ∨ ys[k2]? = none)
    (hE : ∀ h' e, (∀ c o, c ∉ [z, TO, i1, i2] → s.heap.get? c = some o → h'.get? c = some o) → (∃ o, h'.get? e = some o ∧ o.cls = .type "StopIteration") → E (.ref e) { s with heap := h' }) :
    wpAny (model prog w) A (Builtin.«zip.__next__» ⟨[.ref z], []⟩) Q E s := by
  have nm : ∀ {c : Addr}, c ∉ [z, TO, i1, i2] → c ≠ z ∧ c ≠ TO ∧ c ≠ i1 ∧ c ≠ i2 := fun {c} q => ⟨fun e => q (by simp [e]), fun e => q (by simp [e]), fun e => q (by simp [e]), fun e => q (by simp [e])⟩
  show wpAny _ _ (field (.ref z) 2 >>= _) _ _ _
  refine wpAny_bind (wpAny_field hz rfl (x := .bool false) rfl (wpAny_bind (wpAny_field hz rfl (x := .ref TI) rfl (wpAny_bind (wpAny_seqItems hTI rfl ?_)))))
  show wpAny _ _ (Builtin.SmallTypes.ownedTupleIsFree (.ref z) >>= _) _ _ _
  unfold Builtin.SmallTypes.ownedTupleIsFree
  refine wpAny_bind (wpAny_bind (wpAny_field hz rfl (x := .none) rfl (wpAny_pure ?_)))
  simp only [if_true]
  refine wpAny_bind (wpAny_rule (wpAny_bind (wpAny_field hz rfl (x := .ref TO) rfl (wpAny_bind (wpAny_setField_rec hz (by simp) fun ha za sa => ?_)))))
  have za : IsZip ha z TI TO .ellipsis := za
  have kza := sa.extBut
  refine wpAny_bind ?_
  simp only [List.zipIdx_cons, List.zipIdx_nil, List.forIn_cons, List.forIn_nil]
  refine wpAny_bind (wpAny_bind (wpAny_onRaise ?_))
  show wpAny _ _ (Builtin.SmallTypes.nextOf (.ref i1) >>= _) _ _ _
  have hota : HotL A xs0 ha := hotL_but hot (fun b o nb q => kza b o nb q) nz
  cases hx : xs[k1]? with
  | none =>
    refine wpAny_bind (nextOf_end_hotL (s := { s with heap := ha }) hota n1 (h1.extBut kza D.i1z) (hl1.extBut kza D.l1z) hx fun hb e kb ⟨oe, ge, ce⟩ => ?_)
    have zb : IsZip hb z TI TO .ellipsis := kb _ _ D.i1z.symm za
    have ez : e ≠ z := fun q => by rw [q, zb] at ge; cases ge; simp at ce
    exact wpAny_setField_rec zb (by simp) fun hc _ sc => hE hc e (fun c o q g => sc.extBut _ _ (nm q).1 (kb _ _ (nm q).2.2.1 (kza _ _ (nm q).1 g))) ⟨oe, sc.extBut _ _ ez ge, ce⟩
  | some x =>
    have hy : ys[k2]? = none := by
      rcases hend with q | q
      · rw [hx] at q; cases q
      · exact q
    refine wpAny_bind (wpAny_nextOf_list_item (h1.extBut kza D.i1z) (hl1.extBut kza D.l1z) hx fun hb ib sb => wpAny_pure ?_)
    have tb : IsPair hb TO a b := sb.extBut _ _ D.TOi1 (kza _ _ D.TOz hTO)
    refine wpAny_bind (wpAny_seqItems tb rfl (wpAny_bind (wpAny_updateSeq_pair tb fun hc tc sc => wpAny_bind (wpAny_letGo (wpAny_pure ?_)))))
    refine wpAny_bind (wpAny_bind (wpAny_onRaise ?_))
    show wpAny _ _ (Builtin.SmallTypes.nextOf (.ref i2) >>= _) _ _ _
    have hotc : HotL A xs0 hc := hotL_but (hotL_but hota (fun b o nb q => sb.extBut b o nb q) n1) (fun b o nb q => sc.extBut b o nb q) nT
    refine wpAny_bind (nextOf_end_hotL (s := { s with heap := hc }) hotc n2 (((h2.extBut kza D.i2z).extBut sb.extBut D.i12.symm).extBut sc.extBut D.TOi2.symm) (((hl2.extBut kza D.l2z).extBut sb.extBut D.l2i1).extBut sc.extBut D.l2TO) hy fun hd e kd ⟨oe, ge, ce⟩ => ?_)
    have zd : IsZip hd z TI TO .ellipsis := kd _ _ D.i2z.symm (sc.extBut _ _ D.TOz.symm (sb.extBut _ _ D.i1z.symm za))
    have ez : e ≠ z := fun q => by rw [q, zd] at ge; cases ge; simp at ce
    exact wpAny_setField_rec zd (by simp) fun hf _ sf => hE hf e (fun c o q g => sf.extBut _ _ (nm q).1 (kd _ _ (nm q).2.2.2 (sc.extBut _ _ (nm q).2.1 (sb.extBut _ _ (nm q).2.2.1 (kza _ _ (nm q).1 g))))) ⟨oe, sf.extBut _ _ ez ge, ce⟩
theorem next_zip_end_hotL {z TI TO i1 i2 l1 l2 : Addr} {xs0 : List Addr} {k1 k2 : Nat} {xs ys : Array Value} {a b : Value} {Q : Option Value → Shared → Prop} (hot : HotL A xs0 s.heap) (nz : z ∉ xs0) (n1 : i1 ∉ xs0) (n2 : i2 ∉ xs0) (nT : TO ∉ xs0) (D : ZipApart z TI TO i1 i2 l1 l2)
    (hz : IsZip s.heap z TI TO .none) (hTI : IsPair s.heap TI (.ref i1) (.ref i2)) (hTO : IsPair s.heap TO a b) (h1 : s.heap.IsListIter i1 l1 k1) (h2 : s.heap.IsListIter i2 l2 k2) (hl1 : s.heap.IsList l1 xs) (hl2 : s.heap.IsList l2 ys) (hend : xs[k1]? = none ∨ ys[k2]? = none)
    (hQ : ∀ h', (∀ c o, c ∉ [z, TO, i1, i2] → s.heap.get? c = some o → h'.get? c = some o) → Q none { s with heap := h' }) : wpAny (model prog w) A (pyNext (.ref z)) Q E s := by
  have ty : s.TypeIs (.ref z) "zip" := ⟨_, hz, rfl⟩
  unfold pyNext
  refine wpAny_bind (wpAny_attempt (wpAny_callSpecial?_slot (name := Str.ofString "__next__") ty F.slot_zip_next (wpAny_call_entry F.slot_zip_next ty F.entry_zip_next (zip_end_hotL hot nz n1 n2 nT D hz hTI hTO h1 h2 hl1 hl2 hend fun h' e k ⟨o, go, co⟩ => ?_) (F.args_zip_next_1 _))))
  exact wpAny_bind (wpAny_isInstance (T := "StopIteration") (b := true) ⟨o, go, co⟩ isSubtype_stop (wpAny_pure (hQ _ k)))
end
end FWC
namespace FWC
open PySem PySem.Spec PyProof.Rows L2 L2H HotX FW
/-- the handled exception and its context stand in ps -/
def HotP (A : Around) (ps : List (Addr × Obj)) : Prop := ∃ p ∈ ps, A.handled = some (.ref p.1) ∧ Chn ps p
/-- the context bears them -/
def HotG (X : Cx) : Prop := ∃ ps : List (Addr × Obj), HotP X.A ps ∧ ∀ p ∈ ps, p ∈ X.pn
theorem hotP_at {A : Around} {ps : List (Addr × Obj)} {h : Heap} (k : HotP A ps) (g : ∀ p ∈ ps, h.get? p.1 = some p.2) : HotL A (ps.map (·.1)) h := by
  obtain ⟨p, mp, hh, fs, d, c⟩ := k
  have mem : ∀ {q}, q ∈ ps → q.1 ∈ ps.map (·.1) := fun {q} m => List.mem_map.mpr ⟨q, m, rfl⟩
  refine ⟨fun b m => ?_, p.1, p.2, fs, hh, mem mp, g p mp, d, ?_⟩
  · obtain ⟨q, mq, rfl⟩ := List.mem_map.mp m
    exact ⟨_, g q mq⟩
  · rcases c with c | ⟨q, mq, c, ⟨ys, dy, cy⟩, n⟩
    · exact .inl c
    · exact .inr ⟨q.1, q.2, ys, mem mq, n, c, g q mq, dy, cy⟩
theorem hotG_at {X : Cx} {pins : List (Addr × Obj)} {σ : L2.St} {H : Hp} {s : Shared} (c : HotG X) (I : Inv X pins σ H s) : ∃ xs, HotL X.A xs s.heap ∧ ∀ b, FpOk X pins H b → b ∉ xs := by
  obtain ⟨ps, k, sub⟩ := c
  refine ⟨_, hotP_at k fun p m => (I.pin p (List.mem_append_left _ (sub p m))).1, fun b f m => ?_⟩
  obtain ⟨q, mq, z⟩ := List.mem_map.mp m
  exact f.2.2.2.2.2 q (List.mem_append_left _ (sub q mq)) z
/-- what is walked, turn by turn, while something is handled -/
structure TurnG (P : Program) (w : World) (K : PySem.W.Frag) (tg : Expr) (J : It) (fp : List Addr) (it : Addr) (tn : Nat → Heap → Prop) : Prop where
  mem : it ∈ fp
  obj : ∀ j g, tn j g → ∀ c ∈ fp, ∃ u, g.get? c = some u ∧ ∀ v, u.data ≠ .cell v
  keep : ∀ j g g', tn j g → (∀ c ∈ fp, ∀ u, g.get? c = some u → g'.get? c = some u) → tn j g'
  item : ∀ (X : Cx), X.prog = P → X.w = w → X.K = K → HotG X → ∀ (j : Nat) (pins : List (Addr × Obj)) (s : Shared) (σ : L2.St) (H : Hp) (E : Value → Shared → Prop), Inv X pins σ H s → (∀ c ∈ fp, FpOk X pins H c) → tn j s.heap → J.go j H →
    wpAny (model P w) X.A (pyNext (.ref it)) (fun r s1 => ∃ u, r = some u ∧ wpAny (model P w) X.A (letOwnedTupleGo tg (.ref it) u)
      (fun _ s2 => ∃ y G, Inv X pins σ G s2 ∧ RelV y u ∧ J.yld j H y G ∧ tn (j + 1) s2.heap ∧ ∀ c ∈ fp, G c = none) E s1) E s
  done : ∀ (X : Cx), X.prog = P → X.w = w → X.K = K → HotG X → ∀ (j : Nat) (pins : List (Addr × Obj)) (s : Shared) (σ : L2.St) (H : Hp) (E : Value → Shared → Prop), Inv X pins σ H s → (∀ c ∈ fp, FpOk X pins H c) → tn j s.heap → J.stop j H →
    wpAny (model P w) X.A (pyNext (.ref it)) (fun r s1 => Inv X pins σ H s1 ∧ r = none) E s
  self : ∀ (A : Around) (j : Nat) (s : Shared) (Q E : Value → Shared → Prop), tn j s.heap → Q (.ref it) s → wpAny (model P w) A (pyIter (.ref it)) Q E s
/-- the thing that a for walks -/
structure PIG (X : Cx) (tg iter : Expr) (wi : TI) : Prop where
  run : ∀ (pins : List (Addr × Obj)) (s : Shared) (σ : L2.St) (H : Hp) (R : It → Hp → Prop), Inv X pins σ H s → wi σ H R → wpAny (model X.prog X.w) X.A (eval iter X.env) (fun v s1 => wpAny (model X.prog X.w) X.A (pyIter v)
    (fun u s2 => ∃ (it : Addr) (fp : List Addr) (tn : Nat → Heap → Prop) (J : It) (G : Hp), u = .ref it ∧ Inv X pins σ G s2 ∧ TurnG X.prog X.w X.K tg J fp it tn ∧ tn 0 s2.heap ∧ (∀ c ∈ fp, FpOk X pins G c) ∧ R J G) X.xe s1) X.xe s
theorem turnG_list {P : Program} {w : World} {K : PySem.W.Frag} {tg : Expr} (a it : Addr) : TurnG P w K tg (Itl K a) [it] it (fun i h => h.IsListIter it a i) where
  mem := List.mem_cons_self
  obj := (turn_list (P := P) (w := w) (K := K) (tg := tg) a it).obj
  keep := (turn_list (P := P) (w := w) (K := K) (tg := tg) a it).keep
  self := (turn_list (P := P) (w := w) (K := K) (tg := tg) a it).self
  item := by
    rintro X rfl rfl rfl _ i pins s σ H E I ff st ⟨xs, x, sq, ex⟩
    obtain ⟨us, rs, pl, _⟩ := I.list sq
    obtain ⟨u, eu, ru⟩ := rs.get ex
    have fi := ff it List.mem_cons_self
    refine wpAny_pyNext_list_item st pl.isList (x := u) (by simpa using eu) fun g sg sb => ?_
    obtain ⟨o, go, co, dO⟩ := id sg
    refine ⟨u, rfl, go_of (s := { s with heap := g }) go co dO (by decide) ⟨x, H, I.turnedL (t' := s.toks) (ch := [it]) (fun b o nb q => (sb.2 b (fun z => nb (by simp [z]))).trans q) ff, ru, ⟨rfl, fun ys hy => ?_⟩, sg, fun b hb => (ff b hb).1⟩⟩
    rw [I.list_inj hy sq]; exact ex
  done := by
    rintro X rfl rfl rfl hc i pins s σ H E I ff st ⟨xs, sq, ex⟩
    obtain ⟨us, rs, pl, _⟩ := I.list sq
    obtain ⟨xs0, hot, ne⟩ := hotG_at hc I
    have := rs.length
    exact next_list_end_hotL hot (ne it (ff it List.mem_cons_self)) st pl.isList (by simp; omega) fun g kg => ⟨I.turnedL (t' := s.toks) (ch := [it]) (fun b o nb q => kg b o (fun z => nb (by simp [z])) q) ff, rfl⟩
theorem turnG_zip {P : Program} {w : World} {K : PySem.W.Frag} {elts : List Expr} {kk : Nat} {tpos : Pos} {a b z TI TO i1 i2 : Addr} (D : ZipApart z TI TO i1 i2 a b) :
    TurnG P w K (.Tuple elts kk tpos) (Itz K a b) [z, TI, TO, i1, i2] z (fun i h => IsZip h z TI TO .none ∧ IsPair h TI (.ref i1) (.ref i2) ∧ (∃ x y, IsPair h TO x y) ∧ h.IsListIter i1 a i ∧ h.IsListIter i2 b i) where
  mem := List.mem_cons_self
  obj := (turn_zip (P := P) (w := w) (K := K) (elts := elts) (kk := kk) (tpos := tpos) D).obj
  keep := (turn_zip (P := P) (w := w) (K := K) (elts := elts) (kk := kk) (tpos := tpos) D).keep
  self := (turn_zip (P := P) (w := w) (K := K) (elts := elts) (kk := kk) (tpos := tpos) D).self
  item := by
    rintro X rfl rfl rfl _ i pins s σ H E I ff st ⟨xs, ys, x, y, sx, sy, ex, ey⟩
    have lt : ∀ c ∈ [z, TI, TO, i1, i2], c < s.heap.objs.size := fun c hc => by
      obtain ⟨o, g, _⟩ := (turn_zip (P := X.prog) (w := X.w) (K := X.K) (elts := elts) (kk := kk) (tpos := tpos) D).obj i _ st c hc
      exact Heap.lt_size g
    obtain ⟨fz, fI, ⟨x0, y0, fO⟩, f1, f2⟩ := st
    obtain ⟨us, rs, pl, _⟩ := I.list sx
    obtain ⟨ws, rt, pm, _⟩ := I.list sy
    obtain ⟨u, eu, ru⟩ := rs.get ex
    obtain ⟨v, ev, rv⟩ := rt.get ey
    refine wpAny_pyNext_zip_item D fz fI fO f1 f2 pl.isList pm.isList (x := u) (y := v) (by simpa using eu) (by simpa using ev) fun g gz gO g1 g2 gT gs gk => ?_
    refine ⟨_, rfl, wpAny_letOwnedTupleGo_zip (s := { s with heap := g }) gz fun g' z' sb => ?_⟩
    have up : ∀ c o, c ≠ z → g.get? c = some o → g'.get? c = some o := fun c o n q => (sb.2 c n).trans q
    have tz : s.heap.objs.size ≠ z := Nat.ne_of_gt (lt z (by simp))
    have kp : ∀ c o, c ∉ [z, TI, TO, i1, i2] → s.heap.get? c = some o → g'.get? c = some o := fun c o n q => up c o (fun e => n (by simp [e])) (gk c o (fun e => n (by simp [e])) (fun e => n (by simp [e])) (fun e => n (by simp [e])) (fun e => n (by simp [e])) q)
    refine ⟨.ref s.heap.objs.size, _, I.turnedNew (t' := s.toks) (ob := .tup [x, y]) kp ff (Nat.le_refl _) ⟨by show 2 ≤ sizeLine; decide, [u, v], .cons ru (.cons rv .nil), ⟨_, up _ _ tz gT, rfl, _, rfl⟩⟩, rfl,
      ⟨_, x, y, rfl, I.hok.fresh (Nat.le_refl _), rfl, fun l hl => ?_, fun l hl => ?_⟩, ⟨z', up _ _ D.TIz (gk _ _ D.TIz D.TITO D.TIi1 D.TIi2 fI), ⟨u, v, up _ _ D.TOz gO⟩, g1.at fun o q => up _ o D.i1z q, g2.at fun o q => up _ o D.i2z q⟩, fun c hc => ?_⟩
    · rw [I.list_inj hl sx]; exact ex
    · rw [I.list_inj hl sy]; exact ey
    · rw [upd_ne (Nat.ne_of_lt (lt c hc))]; exact (ff c hc).1
  done := by
    rintro X rfl rfl rfl hc i pins s σ H E I ff ⟨fz, fI, ⟨x0, y0, fO⟩, f1, f2⟩ ⟨xs, ys, sx, sy, en⟩
    obtain ⟨us, rs, pl, _⟩ := I.list sx
    obtain ⟨ws, rt, pm, _⟩ := I.list sy
    obtain ⟨xs0, hot, ne⟩ := hotG_at hc I
    have := rs.length
    have := rt.length
    refine next_zip_end_hotL hot (ne _ (ff _ (by simp))) (ne _ (ff _ (by simp))) (ne _ (ff _ (by simp))) (ne _ (ff _ (by simp))) D fz fI fO f1 f2 pl.isList pm.isList (en.elim (fun q => .inl (by simp; omega)) fun q => .inr (by simp; omega)) fun g kg => ⟨?_, rfl⟩
    exact I.turnedL (t' := s.toks) (ch := [z, TI, TO, i1, i2]) (fun c o n q => kg c o (fun m => n (by simp at m ⊢; rcases m with m | m | m | m <;> simp [m])) q) ff
section
variable {X : Cx} {tg : Expr}
theorem pi_listG {l : Expr} {tl : TE} (hl : PE X l tl) : PIG X tg l (iList X.K tl) := by
  refine ⟨fun pins s σ H R I h => thn (hl.run pins s σ H _ I h) ?_⟩
  rintro v s1 ⟨x, H1, I1, r1, a, rfl, ⟨xs, sq⟩, q⟩
  cases r1
  obtain ⟨us, rs, pl, _⟩ := I1.list sq
  refine wpAny_pyIter_list pl.isList ⟨s1.heap.objs.size, [s1.heap.objs.size], _, _, H1, rfl, I1.kept (t' := s1.toks) fun b o e => Heap.get?_push_of_some _ e, turnG_list a _, ⟨_, Heap.get?_push_size _ rfl, rfl, rfl⟩, fun b hb => ?_, q⟩
  rw [List.mem_singleton.mp hb]
  exact I1.fpOk (Nat.le_refl _) (I1.hok.fresh (Nat.le_refl _))
theorem pi_zipG {e e2 : Expr} {ta : TA} {p pos tpos : Pos} {elts : List Expr} {kk : Nat} (hg : Gl X "zip") (hm : X.mg "zip" = none) (ha : PA X [e, e2] ta)
    (hs : starEach [e, e2] X.env = (false, eval e X.env) :: starEach [e2] X.env := by rfl) (hpl : (backTo pos (starEach [e2] X.env)).any (·.1) = false := by rfl) : PIG X (.Tuple elts kk tpos) (.Call (.Name "zip" p) [e, e2] [] pos) (iZip X.K ta) := by
  refine ⟨fun pins s σ H R I h => Call_ (ld_blt I hg hm PyProof.Rows.boot_zip (PyProof.Rows.callWith_type1 (thn (ha.run pos pins s σ H _ I h) ?_) hs hpl))⟩
  rintro us s1 ⟨vs, H1, I1, r1, a, b, xs, ys, rfl, sx, sy, q⟩
  cases r1 with
  | cons r rr => cases rr with
    | cons r' rr =>
      cases rr
      cases r
      cases r'
      obtain ⟨_, _, pl, _⟩ := I1.list sx
      obtain ⟨_, _, pm, _⟩ := I1.list sy
      refine call_zip_2 pl.isList pm.isList fun g gz gI gO g1 g2 _ gk => wpAny_pyIter_zip gz ⟨s1.heap.objs.size + 4, [s1.heap.objs.size + 4, s1.heap.objs.size + 2, s1.heap.objs.size + 3, s1.heap.objs.size, s1.heap.objs.size + 1], _, _, H1, rfl, I1.kept (t' := s1.toks) gk,
        turnG_zip (PySem.W.ktu_apart s1.heap.objs.size a b pl.lt pm.lt), ⟨gz, gI, ⟨_, _, gO⟩, g1, g2⟩, fun c hc => ?_, q⟩
      have le : s1.heap.objs.size ≤ c := by
        simp at hc
        rcases hc with rfl | rfl | rfl | rfl | rfl <;> omega
      exact I1.fpOk le (I1.hok.fresh le)
theorem pg_tupG {pos : Pos} {es : List Expr} {k : Nat} {t : TGs} {n : Nat} (hc : HotG X) (h : PGs X es t) (hn : (assignEach es X.env).length = n := by rfl) (hst : (assignEach es X.env).findIdx? (·.1) = none := by rfl) : PG X (.Tuple es k pos) (gTup X.K n t) := by
  refine ⟨?_⟩
  rintro pins s σ H v u Q I r ⟨a, xs, rfl, sq, ln, q⟩
  cases r
  obtain ⟨us, rs, it, _⟩ := I.tuple sq
  obtain ⟨xs0, hot, _⟩ := hotG_at hc I
  refine unpack_hotL hot it (by simp [hn, ← ln, rs.length]) hst fun g kg => ?_
  exact h.run pins _ σ H xs _ Q (I.kept (t' := s.toks) fun b o e => kg b o (Nat.ne_of_lt (Heap.lt_size e)) e) (by simpa using rs) q
end
/-! ### a comprehension while an exception is handled -/
/-- the block's context, which bears what is handled -/
abbrev blkG (X : Cx) (s : Shared) (H : Hp) (scope : Scope) (ce : Env) (fp : List Addr) (ps : List (Addr × Obj)) : Cx := { X.blk s H scope ce fp with pn := ps }
theorem inv_blkG {X : Cx} {s s' : Shared} {H H' : Hp} {scope : Scope} {ce : Env} {fp : List Addr} {ps : List (Addr × Obj)} {σ : L2.St} (I : Inv (X.blk s H scope ce fp) [] σ H' s')
    (g : ∀ p ∈ ps, s'.heap.get? p.1 = some p.2 ∧ H' p.1 = none ∧ p.1 ≠ ce.locals ∧ p.1 ∉ frs X.stack ∧ ∀ v, p.2.data ≠ .cell v) : Inv (blkG X s H scope ce fp ps) [] σ H' s' :=
  ⟨⟨I.ok.mod, I.ok.kind, I.ok.glob, I.ok.blt, I.ok.above, I.ok.inj, I.ok.has, I.ok.cab, I.ok.hd, I.ok.frames, I.ok.stk, I.ok.exf, I.ok.bs, I.ok.bsz, I.ok.noex, I.ok.exfs, I.ok.funs, I.ok.frf⟩, I.os, I.bare, I.base, I.loc, I.cell, I.free, I.freeC,
    fun q hq => g q (by simpa using (show q ∈ ps ++ ([] : List (Addr × Obj)) from hq)), I.hok, I.len⟩
/-- for, while something is handled -/
theorem ps_forG {X : Cx} {tg iter : Expr} {body : List Stmt} {wi : TI} {g : TG} {tb : TS} {pos : Pos} (own : PassesOwn (model X.prog X.w) X.A X.env X.xe) (hot : HotG X) (hi : PIG X tg iter wi) (hg : PG X tg g) (hb : PSs X body tb)
    (hs : ∀ x, foldedSetIterable iter X.env x = pure x := by intro _; rfl) : PS X (.For tg iter body [] pos) (tFor wi g tb) := by
  refine ⟨fun pins s σ H D I h => wpAny_For (thn (hi.run pins s σ H _ I h) fun v s1 k1 => thn k1 fun u s2 k2 => ?_) hs⟩
  obtain ⟨it, fp, tn, J, G, rfl, I2, T, t0, f2, W, ⟨m0, w0⟩, turn⟩ := k2
  have apart : ∀ {G' : Hp}, (∀ c ∈ fp, G' c = none) → ∀ c ∈ fp, FpOk X pins G' c := fun fr c m => ⟨fr c m, (f2 c m).2⟩
  refine codeAny_forLoop_any (fun n s3 => ∃ j τ G', Inv X pins τ G' s3 ∧ tn j s3.heap ∧ (∀ c ∈ fp, G' c = none) ∧ W j n τ G') (fun n s3 ⟨j, τ, G3, I3, t3, r3, w3⟩ => ?_) m0 ⟨0, σ, G, I2, t0, fun c m => (f2 c m).1, w0⟩
  rcases turn j n τ G3 w3 with ⟨stop, qn⟩ | ⟨go, N, less, step⟩
  · refine wpAny_passesOwn own (thn (T.done X rfl rfl rfl hot j pins s3 τ G3 X.xe I3 (apart r3) t3 stop) ?_)
    rintro r s4 ⟨I4, rfl⟩
    exact wpAny_execs_nil ⟨τ, G3, I4, qn⟩
  · refine wpAny_passesOwn own (thn (T.item X rfl rfl rfl hot j pins s3 τ G3 X.xe I3 (apart r3) t3 go) ?_)
    rintro r s4 ⟨u, rfl, k4⟩
    refine wpAny_passesOwn own (thn k4 ?_)
    rintro _ s5 ⟨y, G5, I5, r5, y5, t5, n5⟩
    refine wpAny_passesOwn own (thn (hg.run _ s5 τ G5 y u _ (I5.pinned (apart n5) (T.obj _ _ t5)) r5 (step y G5 y5)) ?_)
    rintro _ s6 ⟨τ6, G6, I6, q6⟩
    refine wpAny_passesOwn own (thn (hb.run _ s6 τ6 G6 _ I6 q6) fun fl s7 q7 => ?_)
    have again : ∀ {τ7 : L2.St} {G7 : Hp}, Inv X (pins ++ pinsAt fp s5.heap) τ7 G7 s7 → N τ7 G7 → ∃ m, m < n ∧ ∃ j τ G', Inv X pins τ G' s7 ∧ tn j s7.heap ∧ (∀ c ∈ fp, G' c = none) ∧ W j m τ G' := fun {τ7 G7} I7 n7 => by
      obtain ⟨m', lt, w7⟩ := less τ7 G7 n7
      have pin : ∀ c ∈ fp, ∀ u, s5.heap.get? c = some u → s7.heap.get? c = some u ∧ G7 c = none := fun c m u z => by
        have y := I7.pin (c, u) (List.mem_append_right _ (List.mem_append_right _ (mem_pinsAt m z)))
        exact ⟨y.1, y.2.1⟩
      refine ⟨m', lt, j + 1, τ7, G7, I7.unpinned, T.keep _ _ _ t5 fun c m u z => (pin c m u z).1, fun c m => ?_, w7⟩
      obtain ⟨u, z, _⟩ := T.obj _ _ t5 c m
      exact (pin c m u z).2
    cases fl with
    | ret u =>
      obtain ⟨v, τ7, G7, I7, r7, z⟩ := q7
      exact ⟨v, τ7, G7, I7.unpinned, r7, z⟩
    | next =>
      obtain ⟨τ7, G7, I7, z⟩ := q7
      exact again I7 z
    | brk =>
      obtain ⟨τ7, G7, I7, z⟩ := q7
      exact ⟨τ7, G7, I7.unpinned, z⟩
    | cont =>
      obtain ⟨τ7, G7, I7, z⟩ := q7
      exact again I7 z
end FWC
namespace FWC
open PySem PySem.Spec PyProof.Rows L2 L2H HotX FW
section
variable {X : Cx} {tg iter elt : Expr} {ifs : List Expr} {scope : Scope} {own : List (Str × Nat)} {g : TG} {tt : TT} {te : TE}
/-- the rounds of a comprehension's block: from the block's state to what is behind the last round -/
theorem lcG_rounds {s3 : Shared} {H3 : Hp} {ce : Env} {fp : List Addr} {ps : List (Addr × Obj)} {tn : Nat → Heap → Prop} {J : It} {it D : Addr} {σ0 : L2.St} {W : Nat → Nat → Hp → Prop} {Q : VK} {R : Result → Shared → Prop} {pos : Pos} {vs : List Nat} {s4 : Shared} {m0 : Nat}
    (hot : HotG (blkG X s3 H3 scope ce fp ps)) (T : TurnG X.prog X.w X.K tg J fp it tn) (pg : PG (blkG X s3 H3 scope ce fp ps) tg g) (pt : PTs (blkG X s3 H3 scope ce fp ps) ifs tt) (pe : PE (blkG X s3 H3 scope ce fp ps) elt te)
    (npin : ∀ q ∈ ps, ∀ b ∈ fp, q.1 ≠ b)
    (I4 : Inv (blkG X s3 H3 scope ce fp ps) [] (wipe σ0 vs) H3 s4) (st4 : tn 0 s4.heap) (n4 : ∀ b ∈ fp, H3 b = none) (w0 : W 0 m0 H3)
    (turn : ∀ i m H, W i m H → (J.stop i H ∧ Q (.ref D) H) ∨ (J.go i H ∧ ∃ Nx : Hp → Prop, (∀ H', Nx H' → ∃ m', m' < m ∧ W (i + 1) m' H') ∧ ∀ x H', J.yld i H x H' → g x (wipe σ0 vs) H' fun σ2 H2 => wipe σ2 vs = wipe σ0 vs ∧ tt σ2 H2 fun b H3 =>
      if b = true then te σ2 H3 fun y H4 => ∃ acc, H4 D = some (.lst acc) ∧ acc.length < sizeLine ∧ Nx (upd H4 D (.lst (acc ++ [y]))) else Nx H3))
    (fin : ∀ H5 s6, Inv (blkG X s3 H3 scope ce fp ps) [] (wipe σ0 vs) H5 s6 → Q (.ref D) H5 → R (.ok .next) s6) :
    codeAny (model X.prog X.w) X.A (.compLoop (.ListComp elt [⟨tg, iter, ifs, 0⟩] scope pos) 0 (.ref it) (.ref D) ce) R s4 := by
  have fpk : ∀ {σ' : L2.St} {H' : Hp} {s' : Shared}, Inv (blkG X s3 H3 scope ce fp ps) [] σ' H' s' → (∀ b ∈ fp, H' b = none) → ∀ b ∈ fp, FpOk (blkG X s3 H3 scope ce fp ps) [] H' b := fun {σ' H' s'} I n b hb =>
    ⟨n b hb, (I.ok.exf b hb).1, I.ok.exfs b hb, .inl hb, fun x c e => (I.ok.exf b hb).2 x c e, fun q hq => npin q (by simpa using (show q ∈ ps ++ ([] : List (Addr × Obj)) from hq)) b hb⟩
  refine compLoop_any (fun n s' => ∃ i H', Inv (blkG X s3 H3 scope ce fp ps) [] (wipe σ0 vs) H' s' ∧ tn i s'.heap ∧ (∀ b ∈ fp, H' b = none) ∧ W i n H') ?_ m0 ⟨0, H3, I4, st4, n4, w0⟩
  rintro n s5 ⟨i, H5, I5, st5, n5, w5⟩
  rcases turn i n H5 w5 with ⟨stop, qe⟩ | ⟨go, Nx, less, step⟩
  · refine thnF (T.done (blkG X s3 H3 scope ce fp ps) rfl rfl rfl hot i [] s5 _ H5 (fun _ _ => False) I5 (fpk I5 n5) st5 stop) ?_
    rintro r s6 ⟨I6, rfl⟩
    exact fin H5 s6 I6 qe
  · refine thnF (T.item (blkG X s3 H3 scope ce fp ps) rfl rfl rfl hot i [] s5 _ H5 (fun _ _ => False) I5 (fpk I5 n5) st5 go) ?_
    rintro r s6 ⟨u, rfl, h6⟩
    refine thnF h6 ?_
    rintro _ s7 ⟨x, H7, I7, r7, y7, st7, n7⟩
    refine thnF (pg.run _ s7 _ H7 x u _ (I7.pinned (fpk I7 n7) (T.obj _ _ st7)) r7 (step x H7 y7)) ?_
    rintro _ s8 ⟨σ8, H8, I8, e8, q8⟩
    refine thnF (pt.run _ s8 σ8 H8 _ I8 q8) ?_
    rintro b s9 ⟨H9, I9, q9⟩
    have again : ∀ {s' : Shared} {H' : Hp}, Inv (blkG X s3 H3 scope ce fp ps) ([] ++ pinsAt fp s7.heap) σ8 H' s' → Nx H' → ∃ m, m < n ∧ ∃ i H', Inv (blkG X s3 H3 scope ce fp ps) [] (wipe σ0 vs) H' s' ∧ tn i s'.heap ∧ (∀ b ∈ fp, H' b = none) ∧ W i m H' := fun {s' H'} I' nx => by
      obtain ⟨m', lt, w'⟩ := less H' nx
      have pinned : ∀ b ∈ fp, ∀ o, s7.heap.get? b = some o → s'.heap.get? b = some o ∧ H' b = none := fun b hb o e => by
        have z := I'.pin (b, o) (List.mem_append_right _ (List.mem_append_right _ (mem_pinsAt hb e)))
        exact ⟨z.1, z.2.1⟩
      refine ⟨m', lt, i + 1, H', (I'.unpinned (pins := [])).weak (by rw [← e8, wipe_length]) (fun j v e => ?_), T.keep _ _ _ st7 fun b hb o e => (pinned b hb o e).1, fun b hb => ?_, w'⟩
      · rw [← e8] at e
        exact (wipe_some e).1
      · obtain ⟨o, e, _⟩ := T.obj _ _ st7 b hb
        exact (pinned b hb o e).2
    cases b with
    | false =>
      rw [if_neg (by decide)] at q9 ⊢
      exact again I9 q9
    | true =>
      rw [if_pos rfl] at q9 ⊢
      refine thnF (pe.run _ s9 σ8 H9 _ I9 q9) ?_
      rintro z sA ⟨y, HA, IA, rA, acc, eD, ln, nx⟩
      exact app_ok (X := blkG X s3 H3 scope ce fp ps) IA eD ln rA fun sB IB => again IB nx
/-- [elt for target in iter if ..] as a value, while an exception is handled -/
theorem pe_lcG {pos : Pos} {wi : TI} (hc : HotG X) (hN : X.N.Nodup) (hi : PIG X tg iter wi) (ok : BlkOk X.N X.env.scope scope own)
    (hg : ∀ (s : Shared) (H : Hp) (C : Addr) (cl : List (Str × Addr)) (fp : List Addr) (ps : List (Addr × Obj)), HotP X.A ps → PG (blkG X s H scope (compEnvC scope cl C X.env) fp ps) tg g)
    (ht : ∀ (s : Shared) (H : Hp) (C : Addr) (cl : List (Str × Addr)) (fp : List Addr) (ps : List (Addr × Obj)), HotP X.A ps → PTs (blkG X s H scope (compEnvC scope cl C X.env) fp ps) ifs tt)
    (he : ∀ (s : Shared) (H : Hp) (C : Addr) (cl : List (Str × Addr)) (fp : List Addr) (ps : List (Addr × Obj)), HotP X.A ps → PE (blkG X s H scope (compEnvC scope cl C X.env) fp ps) elt te)
    (hs : ∀ x, foldedSetIterable iter X.env x = pure x := by intro _; rfl) : PE X (.ListComp elt [⟨tg, iter, ifs, 0⟩] scope pos) (tLc wi g tt te (own.map (·.2))) := by
  refine ⟨fun pins s σ H Q I h => ?_⟩
  obtain ⟨ps, hot, sub⟩ := hc
  rw [eval_ListComp]
  have fre : ∀ y ∈ scope.names, y.2 = .free → ∃ c, X.env.cells.lookup y.1 = some c := fun y hy e => (ok.free y hy e).elim (fun k => I.ok.has _ (.inl k)) fun k => I.ok.has _ (.inr k)
  refine wpAny_comprehension_free (use := none) rfl hs (closure_ok fre) ok.kind (fun y hy e => by rw [ok.uniq y hy, e]) (thn (hi.run pins s σ H _ I h) fun xv s1 hx => thn hx ?_)
  rintro itv s2 ⟨it, fp, tn, J, H2, rfl, I2, T, st2, f2, q⟩
  refine wpAny_newObj_type (newEnv_comp ?_) (by show 0 ≤ sizeLine; decide)
  obtain ⟨W, ⟨m0, w0⟩, turn⟩ := q s2.heap.objs.size (I2.hok.fresh (Nat.le_refl _))
  have lt : ∀ b ∈ fp, b < s2.heap.objs.size := fun b hb => by
    obtain ⟨o, e, _⟩ := T.obj _ _ st2 b hb
    exact Heap.lt_size e
  obtain ⟨s3, hs3⟩ : ∃ s3 : Shared, s3 = { s2 with heap := s2.heap.push { cls := .type "list", data := .seq ([] : List Value).toArray } } := ⟨_, rfl⟩
  have I3 : Inv X pins σ (upd H2 s2.heap.objs.size (.lst [])) s3 := by
    rw [hs3]
    exact I2.laid (t' := s2.toks) (fun b o e => Heap.get?_push_of_some _ e) (Nat.le_refl _) ⟨Nat.zero_le _, [], 0, .nil, Heap.get?_push_size _ rfl⟩
  have up : ∀ b o, s2.heap.get? b = some o → s3.heap.get? b = some o := fun b o e => by rw [hs3]; exact Heap.get?_push_of_some _ e
  have sz3 : s3.heap.objs.size = s2.heap.objs.size + 1 := by rw [hs3]; exact Heap.size_push _ _
  have f3 : ∀ b ∈ fp, FpOk X pins (upd H2 s2.heap.objs.size (.lst [])) b ∧ b < s3.heap.objs.size := fun b hb => by
    refine ⟨⟨?_, (f2 b hb).2⟩, by rw [sz3]; exact Nat.lt_succ_of_lt (lt b hb)⟩
    rw [upd_ne (Nat.ne_of_lt (lt b hb))]
    exact (f2 b hb).1
  rw [← hs3]
  obtain ⟨H3, hH3⟩ : ∃ H3 : Hp, H3 = upd H2 s2.heap.objs.size (.lst []) := ⟨_, rfl⟩
  rw [← hH3] at I3 f3 w0
  have I4 := block_start I3 ok hN f3
  have P1 := fun p m => I3.pin p (List.mem_append_left _ (sub p m))
  have I5 := inv_blkG (ps := ps) I4 fun p mp => ⟨pushCells_keeps _ _ _ _ (Heap.get?_push_of_some _ (P1 p mp).1), (P1 p mp).2.1, Nat.ne_of_lt (Heap.lt_size (P1 p mp).1), fun m => (List.mem_cons.mp (I3.stkSub p.1 m)).elim (P1 p mp).2.2.1 (P1 p mp).2.2.2.1, (P1 p mp).2.2.2.2⟩
  have st4 : tn 0 (pushCells (s3.heap.push { cls := .type "dict", data := .dict #[] }) scope.names) := T.keep _ _ _ st2 fun b _ o e => pushCells_keeps _ _ _ _ (Heap.get?_push_of_some _ (up _ _ e))
  have loop : codeAny (model X.prog X.w) X.A (.compLoop (.ListComp elt [⟨tg, iter, ifs, 0⟩] scope pos) 0 (.ref it) (.ref s2.heap.objs.size) (compEnvC scope (cellsFrom (s3.heap.objs.size + 1) scope.names (cloFrom X.env.cells scope.names [])) s3.heap.objs.size X.env))
      (compPost (model X.prog X.w) X.A X.xe none (EP X pins σ Q) (.ref s2.heap.objs.size) s3.heap.objs.size) { s3 with heap := pushCells (s3.heap.push { cls := .type "dict", data := .dict #[] }) scope.names } := by
    refine lcG_rounds (vs := own.map (·.2)) ⟨ps, hot, fun p m => m⟩ T (hg _ _ _ _ _ ps hot) (ht _ _ _ _ _ ps hot) (he _ _ _ _ _ ps hot) (fun q mq b hb => (f2 b hb).2.2.2.2.2 q (List.mem_append_left _ (sub q mq))) I5 st4 (fun b hb => (f3 b hb).1.1) w0 turn ?_
    intro H6 s6 I6 q6
    have I7 : Inv X pins σ H6 s6 := I3.call' (ch := fp) I6.os I6.base I6.hok I6.bare fun b hb => ⟨(f3 b hb).1.2.2.2.1, (f3 b hb).1.2.1, (f3 b hb).1.2.2.2.2.1, (f3 b hb).1.2.2.2.2.2⟩
    obtain ⟨m, ns, _⟩ := I6.loc
    obtain ⟨k0, k1, k2, k3, k4, k5⟩ := I3.fpOk (Nat.le_refl _) (show H6 s3.heap.objs.size = none from I6.free)
    exact ⟨m, ns, fun h'' sb => ⟨.ref s2.heap.objs.size, H6, I7.turned (t' := s6.toks) (fun b o nb e => (sb.2 b nb).trans e) k0 k1 k3 k4 k5, rfl, q6⟩⟩
  exact codeAny_compStart_list loop (T.self X.A 0 _ _ _ st4 loop)
end
end FWC
namespace FWC
open PySem PySem.Spec PyProof.Rows L2 L2H HotX PySem.W PySem.Calls FW
/-- the context holds a handled exception: at a, of class cls, with the dict d; its context may be a further one -/
structure HXG (Y : Cx) (a : Addr) (oe : Obj) (cls : Value) (d : Option Addr) : Prop where
  mem : (a, oe) ∈ Y.pn
  hh : Y.A.handled = some (.ref a)
  z : Zc cls d oe
  ch : Chn Y.pn (a, oe)
theorem HXG.ps {Y : Cx} {a : Addr} {oe : Obj} {cls : Value} {d : Option Addr} (h : HXG Y a oe cls d) : ∃ ps : List (Addr × Obj), HotP Y.A ps ∧ (∀ p ∈ ps, p ∈ Y.pn) ∧ (a, oe) ∈ ps ∧ Chn ps (a, oe) := by
  obtain ⟨fs, hd, c⟩ := h.ch
  rcases c with c | ⟨q, mq, c, lq, n⟩
  · have k : Chn [(a, oe)] (a, oe) := ⟨fs, hd, .inl c⟩
    refine ⟨[(a, oe)], ⟨_, List.mem_cons_self, h.hh, k⟩, fun p m => ?_, List.mem_cons_self, k⟩
    rw [List.mem_singleton.mp m]
    exact h.mem
  · have k : Chn [(a, oe), q] (a, oe) := ⟨fs, hd, .inr ⟨q, by simp, c, lq, n⟩⟩
    refine ⟨[(a, oe), q], ⟨_, List.mem_cons_self, h.hh, k⟩, fun p m => ?_, List.mem_cons_self, k⟩
    rcases List.mem_cons.mp m with rfl | m
    · exact h.mem
    · rw [List.mem_singleton.mp m]
      exact mq
theorem HXG.hot {Y : Cx} {a : Addr} {oe : Obj} {cls : Value} {d : Option Addr} (h : HXG Y a oe cls d) : HotG Y := by
  obtain ⟨ps, k, sub, _⟩ := h.ps
  exact ⟨ps, k, sub⟩
theorem HXG.inst {Y : Cx} {a D : Addr} {oe : Obj} {d : Option Addr} {pins : List (Addr × Obj)} {σ : L2.St} {H : Hp} {s : Shared} (h : HXG Y a oe (.ref D) d) (dx : DX d H) (I : Inv Y pins σ H s) : ∃ od, InstAt s.heap a oe D od := by
  have g := (I.pin (a, oe) (List.mem_append_left _ h.mem)).1
  obtain ⟨vs, e, _⟩ := h.ch
  have no : notCls oe = true := by unfold notCls; rw [show oe.data = _ from e] <;> rfl
  rcases dx with rfl | ⟨dd, fs, rfl, hd⟩
  · exact ⟨none, g, h.z.1, no, by rw [h.z.2]; trivial⟩
  · obtain ⟨mA, hns, hr⟩ := (show ObjOk Y.prog Y.w H s.heap dd (.xd fs) from I.hok dd _ hd)
    obtain ⟨od, ho, _⟩ := lookIn_ns hns
    exact ⟨some od, g, h.z.1, no, by rw [h.z.2]; exact ho⟩
section
variable {Y : Cx} {a : Addr} {oe : Obj} {cls : Value} {d : Option Addr}
theorem call_isG (h : HXG Y a oe cls d) : CallR Y (.builtin "isinstance") (rIsX Y.K a cls d) := by
  rintro pins s σ H xs us Q I r ⟨D, c, u, b, rfl, T, dx, rfl, k, e, q⟩
  obtain ⟨u1, u2, rfl, r1, r2⟩ := vals2 r
  obtain rfl : u1 = Value.ref a := r1
  obtain rfl := k.eq r2
  obtain ⟨od, J⟩ := h.inst dx I
  exact kia_one (kitx_exc T) I.kIn J e (fun z => nomatch z) fun tk => ⟨.bl b, H, I.tok tk, rfl, q⟩
theorem call_isGT (h : HXG Y a oe cls d) : CallR Y (.builtin "isinstance") (rIsXT Y.K a cls d) := by
  rintro pins s σ H xs us Q I r ⟨D, tp, cs, ws, b, rfl, T, dx, rfl, et, k, e, q⟩
  obtain ⟨u1, u2, rfl, r1, r2⟩ := vals2 r
  obtain rfl : u1 = Value.ref a := r1
  obtain rfl : u2 = Value.ref tp := r2
  obtain ⟨od, J⟩ := h.inst dx I
  obtain ⟨_, its, rv, o, ho, hc, n, hdat⟩ := (show ObjOk Y.prog Y.w H s.heap tp (.tup cs) from I.hok tp _ et)
  have ei := ClsV.all k rv
  subst ei
  obtain ⟨oc, odd, odt, osl⟩ := o
  have hc : oc = .type "tuple" := hc
  have hdat : odt = .seq its.toArray n := hdat
  subst hc hdat
  exact kia_tup (kitx_exc T) I.kIn J ho e (fun z => nomatch z) fun tk => ⟨.bl b, H, I.tok tk, rfl, q⟩
theorem pe_byG {e : Expr} {te : TE} {f : Str} {pos : Pos} (h : HXG Y a oe cls d) (he : PE Y e te) (hb : attributeBase e f Y.env (eval e Y.env) = eval e Y.env := by rfl) : PE Y (.Attribute e f pos) (tByX Y.K f a cls d te) := by
  refine ⟨fun pins s σ H Q I hq => attr_of hb (thn (he.run pins s σ H _ I hq) ?_)⟩
  rintro u s1 ⟨x, H1, I1, rx, rfl, C, dd, v, rfl, T, rfl, ed, q⟩
  obtain rfl : u = Value.ref a := rx
  have g := (I1.pin (a, oe) (List.mem_append_left _ h.mem)).1
  obtain ⟨vs, hd, _⟩ := h.ch
  obtain ⟨mA, hns, hr⟩ := (show ObjOk Y.prog Y.w H1 s1.heap dd (.xd [(f, v)]) from I1.hok dd _ ed)
  obtain ⟨od, ho, hl⟩ := lookIn_ns hns
  obtain ⟨u, hu, ru⟩ := RelO.some_of (v := v) (o := mA f) (by rw [← show List.lookup f [(f, v)] = some v by simp [List.lookup]]; exact hr f)
  have J : InstAt s1.heap a oe C (some od) := ⟨g, h.z.1, by unfold notCls; rw [show oe.data = _ from hd] <;> rfl, by rw [h.z.2]; exact ho⟩
  exact HandSPX.exc_get I1.kIn J T.ga T.gg T.ex (findObj_own T.hd T.no rfl (by rw [hl, hu])) (handed_of ru) ⟨v, H1, I1.tok _, ru, q⟩
end
end FWC
namespace FWC
open PySem PySem.Spec PyProof.Rows L2 L2H HotX PySem.W PySem.Calls FW
/-- the context of a def's body that is called while ps0 is handled -/
def cxL (CX : CXT) (P : Program) (w : World) (K : PySem.W.Frag) (mg : Str → Option Value) (base : Heap) (N : List Str) (qual : Str) (scope : Scope) (f : Addr) (cd : Value) (A : Around) (outer : List Env) (s : Shared) (H : Hp) (E : XK) (ps0 : List (Addr × Obj)) : Cx :=
  { cxH CX P w K mg base N qual scope f cd A outer s H E (0, default) with pn := ps0 }
section
variable {P : Program} {w : World} {K : PySem.W.Frag} {mg : Str → Option Value} {base : Heap} {CX : CXT}
theorem inv_startL {N ps : List Str} {qual : Str} {scope : Scope} {f : Addr} {cd : Value} {A : Around} {outer : List Env} {s s1 : Shared} {H : Hp} {E : XK} {us : List Value} {vs : List V} {ps0 : List (Addr × Obj)}
    (S : FnScope N ps scope) (hne : ps0 ≠ []) (hp : ∀ p ∈ ps0, PinOk outer H s p) (e0 : Env0 P w K mg base A outer s H) (hl : vs.length = ps.length) (r : Vals vs us)
    (x : InCallC s s.heap.objs.size (bindL (envOfC qual scope s.heap.objs.size f cd).kindOf (ps.zip us) fun _ => none) (cellsFrom (s.heap.objs.size + 1) scope.names []) (bindC (envOfC qual scope s.heap.objs.size f cd).kindOf (ps.zip us) fun _ => none) s1) :
    Inv (cxL CX P w K mg base N qual scope f cd A outer s H E ps0) [] (L2.start N vs) H s1 := by
  obtain ⟨p0, rest, rfl⟩ := List.exists_cons_of_ne_nil hne
  have I := inv_startH (CX := CX) (E := E) S (hp p0 List.mem_cons_self) e0 hl r x
  exact ⟨⟨I.ok.mod, I.ok.kind, I.ok.glob, I.ok.blt, I.ok.above, I.ok.inj, I.ok.has, I.ok.cab, I.ok.hd, I.ok.frames, I.ok.stk, I.ok.exf, I.ok.bs, I.ok.bsz, I.ok.noex, I.ok.exfs, I.ok.funs, I.ok.frf⟩, I.os, I.bare, I.base, I.loc, I.cell, I.free, I.freeC,
    fun q hq => (inv_startH (CX := CX) (E := E) S (hp q (by simpa using (show q ∈ (p0 :: rest) ++ ([] : List (Addr × Obj)) from hq))) e0 hl r x).pin q (List.mem_append_left _ (List.mem_singleton.mpr rfl)), I.hok, I.len⟩
end
section
variable {P : Program} {w : World} {K : Frag} {mg : Str → Option Value} {base : Heap}
theorem run_ofL {k : Nat} {f : Addr} {name qual : Str} {params : Arguments} {body : List Stmt} {scope : Scope} {dV kV doc pm cdv ct oc : Value} {an od : Option Addr} {osl : Array (Option Value)} {N ps : List Str}
    (lk : K.lookup f = some ⟨oc, od, .func (fnOf name qual params body scope dV kV doc pm an cdv ct), osl⟩) (hcd : codeIn K cdv qual = true) (S : FnScope N ps scope) {A : Around} {outer : List Env} {s : Shared} {H : Hp} {args : Args} {us : List Value} {vs : List V} {Q : VK} {ps0 : List (Addr × Obj)}
    (hr : RoomH (k + 1) A) (hne : ps0 ≠ []) (hp : ∀ p ∈ ps0, PinOk outer H s p) (e0 : Env0 P w K mg base A outer s H) (hb : BindsTo s (fnOf name qual params body scope dV kV doc pm an cdv ct) args (ps.zip us)) (r : Vals vs us) (hl : vs.length = ps.length)
    (hbody : RoomH k (A.deeper (envOfC qual scope s.heap.objs.size f cdv)) → ∃ t, PSs (cxL CX0 P w K mg base N qual scope f cdv A outer s H E0 ps0) body t ∧ t { nx := fun _ H' => Q .non H', rt := Q } (L2.start N vs) H) :
    codeAny (model P w) A (.call (.ref f) args) (CR CX0 outer P w H s Q E0) s := by
  have kin : K.In s.heap := e0.mod.kin.keeps fun b o e => (e0.bs b o e).1
  have lim : s.heap.NoLimit := e0.mod.nolimit.keeps fun b o e => (e0.bs b o e).1
  refine codeAny_call_function hr.depth (kin _ _ lk) rfl S.co S.gen rfl (codeRec_of kin hcd) (hb _ _ _ _ (wpAny_newFunctionEnv_cells S.kind (fun ⟨n, v⟩ hy => ?_) fun env he s1 x => ?_))
  · rcases S.par n (List.of_mem_zip hy).1 with q | q
    · exact .inl q
    · exact .inr ⟨q, cellsFrom_some _ _ _ (.inl q)⟩
  · subst he
    refine ⟨lim.keeps x.toInCall.keep, codeAny_func ?_⟩
    obtain ⟨t, ht, hq⟩ := hbody (hr.deeper _)
    refine wpAny_mono (ht.run [] s1 (L2.start N vs) H _ (inv_startL S hne hp e0 hl r x) hq) (fun fl s' hs => ?_) fun e s' hs => hs
    match fl, hs with
    | .ret u, ⟨v, σ', H', J, rv, q⟩ => exact ⟨v, H', J.os, J.bare, J.base, J.hok, rv, q⟩
    | .next, ⟨σ', H', J, q⟩ => exact ⟨V.non, H', J.os, J.bare, J.base, J.hok, rfl, q⟩
    | .brk, ⟨_, _, _, q⟩ => exact False.elim q
    | .cont, ⟨_, _, _, q⟩ => exact False.elim q
end
section
variable {Y : Cx} {a : Addr} {oe : Obj} {cls : Value} {d : Option Addr}
theorem pe_callG {x pn : Str} {params : Arguments} {body : List Stmt} {scope : Scope} {f : Addr} {N : List Str} {k : Nat} {t : TS} {te : TE} {e : Expr} {q pos : Pos} (h : HXG Y a oe cls d) (F : ∃ fd, FunD Y.K x x params body scope [] [] f fd) (hm : Y.mg x = some (.ref f)) (hg : Gl Y x) (S : FnScope N [pn] scope)
    (hb : ∀ (kV doc pm : Value) (an : Option Addr) (cdv ct : Value) (us : List Value), us.length = [pn].length → bindArgs (fnOf x x params body scope .none kV doc pm an cdv ct) ⟨us, []⟩ = pure ([pn].zip us))
    (hr : RoomH (k + 1) Y.A) (he : PE Y e te)
    (hbody : ∀ (cdv : Value) (s : Shared) (H : Hp) (ps0 : List (Addr × Obj)), RoomH k (Y.A.deeper (envOfC x scope s.heap.objs.size f cdv)) → HXG (cxL CX0 Y.prog Y.w Y.K Y.mg Y.base N x scope f cdv Y.A Y.stack s H E0 ps0) a oe cls d → PSs (cxL CX0 Y.prog Y.w Y.K Y.mg Y.base N x scope f cdv Y.A Y.stack s H E0 ps0) body t)
    (hdb : (x == ("__debug__" : Str)) = false := by decide) (hs : starEach [e] Y.env = (false, eval e Y.env) :: starEach [] Y.env := by rfl) (hpl : (backTo pos (starEach [] Y.env)).any (·.1) = false := by rfl) :
    PE Y (.Call (.Name x q) [e] [] pos) (tCallX a N t te) := by
  obtain ⟨fd, F⟩ := F
  have bnd := F.bindsN (ps := [pn]) hb
  obtain ⟨oc, od, dV, kV, doc, pm, an, cdv, ct, osl, rfl, lk, hcd', _, _⟩ := F.ex
  refine ⟨fun pins s σ H Q I hq => wpAny_Call_Name_kw (ld_glob I hg hm (callWith_K (h₀ := Y.base) I.ok.mod.kin F.kp (thn ((pa_cons he pa_nil hs).run pos pins s σ H (fun vs H1 => vs = [.ref a] ∧ t { nx := fun _ H' => Q .non H', rt := Q } (L2.start N [.ref a]) H1) I ?_) ?_) hs hpl) hdb)⟩
  · show te σ H _
    refine (show te σ H _ = te σ H _ from congrArg (te σ H) ?_) ▸ hq
    funext v H1
    simp [tNil]
  · rintro us s1 ⟨vs, H1, I1, r1, rfl, q1⟩
    obtain ⟨ps0, k0, sub, m0, c0⟩ := h.ps
    have P1 : ∀ p ∈ ps0, PinOk Y.stack H1 s1 p := fun p mp => by
      have z := I1.pin p (List.mem_append_left _ (sub p mp))
      exact ⟨z.1, z.2.1, fun m => (List.mem_cons.mp (I1.stkSub p.1 m)).elim z.2.2.1 z.2.2.2.1, z.2.2.2.2⟩
    refine ⟨I1.kIn, wpAny_call (codeAny_mono (run_ofL (k := k) (N := N) (ps := [pn]) (ps0 := ps0) (vs := [.ref a]) (us := us) lk hcd' S hr (List.ne_nil_of_mem m0) P1 I1.env0 (by have b := bnd s1 us I1.kIn (by rw [List.append_nil, ← r1.length]; rfl); rw [List.append_nil] at b; exact b) r1 rfl fun hr' => ⟨t, hbody cdv s1 H1 ps0 hr' ⟨m0, h.hh, h.z, c0⟩, q1⟩) fun r s2 hq2 => ?_)⟩
    match r, hq2 with
    | .error e, hq2 => exact (show False from hq2).elim
    | .ok (.ret u), hq2 => exact I1.after hq2
    | .ok .next, hq2 => exact False.elim hq2
    | .ok .brk, hq2 => exact False.elim hq2
    | .ok .cont, hq2 => exact False.elim hq2
end
theorem hx_suiteG {X : Cx} {a : Addr} {oe : Obj} {cls : Value} {d : Option Addr} {pn : List (Addr × Obj)} (z : Zc cls d oe) (c : Chn ((a, oe) :: pn) (a, oe)) : HXG (X.suite a ((a, oe) :: pn)) a oe cls d := ⟨List.mem_cons_self, rfl, z, c⟩
end FWC
namespace FWC
open PySem PySem.Spec PyProof.Rows L2 FW LamX
/-! ### lambdas without parameters; what is raised may have a context -/
def lamCxC (X : Cx) (A : Around) (outer : List Env) (s : Shared) (H : Hp) (E : XK) (scope : Scope) (f c' : Addr) : Cx :=
  { lamCx X A outer s H E scope f c' with xe := fun e s' => wpAny (model X.prog X.w) (A.deeper (lamEnv X scope s.heap.objs.size f c')) (leaving (lamEnv X scope s.heap.objs.size f c') e) (fun _ s2 => L2C.CX X.prog X.w outer H s E e s2) (fun e2 s2 => L2C.CX X.prog X.w outer H s E e2 s2) s' }
section
variable {X : Cx} {pins : List (Addr × Obj)} {σ : L2.St} {H : Hp} {s : Shared}
theorem pe_actC {Ng : List Str} {qg : Str} {sg : Scope} {g f c' : Addr} {cdg pm ctv : Value} {params : Arguments} {body : Expr} {scope : Scope} {k i : Nat} {a : Str} {pn : List (Addr × Obj)} {xe : Value → Shared → Prop} {W : WX} {E : XK} {tb : TE} {p1 p2 : Pos}
    (I : Inv X pins σ H s) (L : LamS X.env.scope scope) (hf : s.heap.get? f = some (PySem.W.kla_obj "<lambda>" (X.env.qual ++ "<lambda>") params body scope (cloFrom X.env.cells scope.names []) pm c' ctv)) (hfn : H f = none) (hfr : f ∉ frs X.stack)
    (hbind : bindArgs (PySem.W.kla_fn "<lambda>" (X.env.qual ++ "<lambda>") params body scope (cloFrom X.env.cells scope.names []) pm (.ref c') ctv) ⟨[], []⟩ = pure [])
    (tk : L2C.Takes (FWN.defCx X Ng qg sg g cdg s H pn xe) W) (hW : ∀ cls d σ' H', E cls d H' → W cls d σ' H') (hr : Room (k + 1) (X.A.deeper (envOfC qg sg s.heap.objs.size g cdg)))
    (hbody : ∀ (A : Around) (outer : List Env) (s : Shared) (H : Hp), Room k (A.deeper (lamEnv X scope s.heap.objs.size f c')) → PE (lamCxC X A outer s H E scope f c') body tb)
    (hN : Ng[i]? = some a) (hv : Vis sg a) (hd : (a == ("__debug__" : Str)) = false) (hcd : (a == ("__classdict__" : Str)) = false) :
    PE (FWN.defCx X Ng qg sg g cdg s H pn xe) (.Call (.Name a p1) [] [] p2) (fun σZ HZ Q => σZ[i]? = some (some (.ref f)) ∧ HZ c' = some (CodeO c' (X.env.qual ++ "<lambda>")) ∧ tb σ HZ Q) := by
  refine ⟨?_⟩
  rintro pinsZ sZ σZ HZ Q IZ ⟨es, ec, et⟩
  refine wpAny_Call_Name_kw (thn ((pe_var (pos := p1) (i := i) hN hv hd hcd).run pinsZ sZ σZ HZ (fun v H1 => v = .ref f ∧ H1 = HZ) IZ ⟨.ref f, es, rfl, rfl⟩) ?_)
  rintro u s1 ⟨v, H1, I1, r1, rfl, rfl⟩
  obtain rfl : u = Value.ref f := r1
  have keptF := I1.base.keep f _ hf hfn hfr (fun z => nomatch (show f ∈ ([] : List Addr) from z))
  refine PySem.W.callWith_F0 ⟨_, _, _, _, keptF⟩ (wpAny_call ?_)
  obtain ⟨⟨oc, vs, t, hoc, hdc, hvc⟩, _, _⟩ := I1.hok c' _ ec
  have ran : codeAny (model X.prog X.w) (X.A.deeper (envOfC qg sg s.heap.objs.size g cdg)) (.call (.ref f) ⟨[], []⟩) (CR (L2C.CX X.prog X.w) (envOfC qg sg s.heap.objs.size g cdg :: X.stack) X.prog X.w H1 s1 Q E) s1 := by
    refine PySem.W.kla_callFunE hr.depth keptF rfl L.co L.gen rfl ⟨c', oc, vs, t, rfl, hoc, hdc, hvc⟩ ?_
    rw [hbind]
    refine wpAny_pure (wpAny_newFunctionEnv (fun y hy => (L.own y hy).2) (fun y hy => absurd hy (by simp)) (fun h₁ hns hsb => ⟨I1.nolimit.fresh _ hsb, ?_⟩) L.kind)
    show codeAny _ _ (.expr body (lamEnv X scope s1.heap.objs.size f c')) _ _
    have J0 := lam_start2 (E := E) (f := f) (c' := c') (tk := s1.toks + ([] : List (Str × Value)).length) I L I1.env0 hr.hd I1.base hns (fun b o e => hsb.extBut b o (Nat.ne_of_lt (Heap.lt_size e)) (Heap.get?_push_of_some _ e))
    refine PySem.W.kla_codeExpr (wpAny_mono ((hbody _ _ s1 H1 (hr.deeper _)).run [] _ _ H1 Q (FWN.inv_xe J0) et) ?_ fun e s' hq => hq)
    rintro v s' ⟨w', H', J', rv, q⟩
    exact ⟨w', H', J'.os, J'.bare, J'.base, J'.hok, rv, q⟩
  have pass := L2C.passes_call rfl tk hW
  refine codeAny_mono ran fun r s' hq => ?_
  match r, hq with
  | .error e, hq => exact pass pinsZ σZ H1 s1 e s' I1 hq
  | .ok (.ret u), hq => exact I1.after hq
  | .ok .next, hq => exact False.elim hq
  | .ok .brk, hq => exact False.elim hq
  | .ok .cont, hq => exact False.elim hq
/-- the def that calls what it got -/
def GivesToC (X : Cx) (Ng : List Str) (x : Str) (sg : Scope) (g : Addr) (cdg : Value) (bg : List Stmt) (a : Str) (q : Str) (TT : (XK → Hp → VK → Prop) → Hp → VK → Prop) : Prop :=
  ∀ (f c' : Addr) (s : Shared) (H : Hp) (Q : VK) (tl : XK → Hp → VK → Prop) (j : Nat), Room j (X.A.deeper (envOfC x sg s.heap.objs.size g cdg)) →
    (∀ (W : WX) (pn : List (Addr × Obj)) (xe : Value → Shared → Prop) (E : XK) (p1 p2 : Pos), L2C.Takes (FWN.defCx X Ng x sg g cdg s H pn xe) W → (∀ cls d σ' H', E cls d H' → W cls d σ' H') →
      PE (FWN.defCx X Ng x sg g cdg s H pn xe) (.Call (.Name a p1) [] [] p2) (fun σZ HZ Q => σZ[0]? = some (some (.ref f)) ∧ HZ c' = some (CodeO c' q) ∧ tl E HZ Q)) →
    H c' = some (CodeO c' q) → TT tl H Q → 8 ≤ j →
    ∃ t, PSs (cxOf CX0 X.prog X.w X.K X.mg X.base Ng x sg g cdg X.A X.stack s H E0).nox bg t ∧ t { nx := fun _ H' => Q .non H', rt := Q } (L2.start Ng [.ref f]) H
end
section
variable {X : Cx}
/-- x(lambda: body): the def x by its data -/
theorem pe_lamC {T : List (Addr × Str)} {TT : (XK → Hp → VK → Prop) → Hp → VK → Prop} {x a : Str} {g c P : Addr} {k j : Nat} {pg : Arguments} {bg : List Stmt} {sg : Scope} {Ng : List Str}
    {params : Arguments} {body : Expr} {scope : Scope} {t : XK → TE} {p lpos pos : Pos} (F : ∃ fd, FunD X.K x x pg bg sg [] [] g fd) (hm : X.mg x = some (.ref g)) (hg : Gl X x)
    (hb : ∀ (kV doc pm : Value) (an : Option Addr) (cdv ct : Value) (us : List Value), us.length = [a].length → bindArgs (PySem.W.fnOf x x pg bg sg .none kV doc pm an cdv ct) ⟨us, []⟩ = pure ([a].zip us)) (Sg : FnScope Ng [a] sg) (hNg : Ng[0]? = some a) (hva : Vis sg a)
    (hG : ∀ cdv, GivesToC X Ng x sg g cdv bg a (X.env.qual ++ "<lambda>") TT)
    (TB : TabB X.base X.mg c P) (hcode : X.env.code = .ref c) (hmT : (P, X.env.qual ++ "<lambda>") ∈ T) (hu : ∀ p ∈ T, p.1 = P → p.2 = X.env.qual ++ "<lambda>") (hr : Room j X.A) (hk : k + 2 ≤ j) (hk8 : 10 ≤ j) (L : LamS X.env.scope scope) (hdef : defaultsOf params X.env = ([], []))
    (hbind : ∀ (q : Str) (cl : List (Str × Addr)) (pm cv ctv : Value), bindArgs (PySem.W.kla_fn "<lambda>" q params body scope cl pm cv ctv) ⟨[], []⟩ = pure [])
    (hbody : ∀ (A : Around) (outer : List Env) (s : Shared) (H : Hp) (E : XK) (f c' : Addr), Room k (A.deeper (lamEnv X scope s.heap.objs.size f c')) → PE (lamCxC X A outer s H E scope f c') body (t E))
    (hdb : (x == ("__debug__" : Str)) = false := by decide) (hd : (a == ("__debug__" : Str)) = false := by decide) (hcd : (a == ("__classdict__" : Str)) = false := by decide) :
    PE X (.Call (.Name x p) [.Lambda params body scope lpos] [] pos) (LamX.tLam T TT t) := by
  obtain ⟨fd, F⟩ := F
  have bnd := F.bindsN (ps := [a]) hb
  obtain ⟨oc, od, dV, kV, doc, pm, an, cdv, ct, osl, rfl, lk, hcd', _, _⟩ := F.ex
  refine ⟨?_⟩
  rintro pins s σ H Q I ⟨hT, h⟩
  refine wpAny_Call_Name_kw (ld_glob I hg hm (PySem.W.callWith_K (h₀ := X.base) I.ok.mod.kin F.kp ?_ (by rfl) (by rfl)) hdb)
  show wpAny _ _ (spliced ((false, eval (.Lambda params body scope lpos) X.env) :: backTo pos (starEach [] X.env))) _ _ s
  refine Calls.spliced_cons (lam_make2 I TB hcode hmT hu hT hdef (L.has I.ok) fun f c' pm' ctv H1 s' I1 eN T1 hf hfn hfr hco => Calls.spliced_nil ⟨I1.kIn, wpAny_call ?_⟩)
  have ran : codeAny (model X.prog X.w) X.A (.call (.ref g) ⟨[.ref f], []⟩) (CR CX0 X.stack X.prog X.w H1 s' Q E0) s' := by
    obtain ⟨j', rfl⟩ : ∃ j', j = j' + 1 := ⟨j - 1, by omega⟩
    refine run_ofS (N := Ng) (ps := [a]) (us := [.ref f]) (vs := [.ref f]) lk hcd' Sg hr I1.env0 (bnd s' [.ref f] I1.kIn rfl) (.cons rfl .nil) rfl fun hr' => ?_
    obtain ⟨t', ht', hq'⟩ := hG cdv f c' s' H1 Q (fun E H' Q' => t E σ H' Q') j' hr' (fun W pn xe E p1 p2 tk hW => pe_actC (k := k) (i := 0) I1 L hf hfn hfr (hbind _ _ _ _ _) tk hW (hr'.mono (by omega)) (fun A outer s H hr2 => hbody A outer s H E f c' hr2) hNg hva hd hcd) hco (h H1 eN T1) (by omega)
    exact ⟨t', ht'.nox, hq'⟩
  refine codeAny_mono ran fun r s2 hq => ?_
  match r, hq with
  | .error e, hq => exact (show False from hq).elim
  | .ok (.ret u), hq => exact I1.after hq
  | .ok .next, hq => exact False.elim hq
  | .ok .brk, hq => exact False.elim hq
  | .ok .cont, hq => exact False.elim hq
end
theorem takes_len {X : Cx} {W : WX} {n : Nat} (h : X.N.length = n) (t : L2C.Takes X W) : L2C.Takes X (wLen n W) := fun u s' ⟨a, B, sI, pins, σ, H, cls, d, c, e, I, nb, up, sky, na, os, ag, ck, w⟩ =>
  t u s' ⟨a, B, sI, pins, σ, H, cls, d, c, e, I, nb, up, sky, na, os, ag, ck, w (I.len.trans h)⟩
end FWC
/-! ### list(text), text * int, xs.insert, xs.pop(i), dict(pairs) -/
namespace FW
open PySem PySem.Spec PyProof.Rows L2
def rMulS : R2 := fun x y H Q => ∃ (z : Str) (n : Int), x = .str z ∧ y = .int n ∧ n < 100000 ∧ 0 ≤ n ∧ z.length ≤ 100 ∧ Q (.str (Txt.mul z n)) H
def rInsert : V → List V → Hp → VK → Prop := fun x vs H Q => ∃ (l : Addr) (xs : List V) (i : Int) (y : V), x = .ref l ∧ vs = [.int i, y] ∧ H l = some (.lst xs) ∧ xs.length < sizeLine ∧ 0 ≤ i ∧ i < 2 ^ 63 ∧
    Q .non (upd H l (.lst (xs.take i.toNat ++ [y] ++ xs.drop i.toNat)))
def rDictP (K : PySem.W.Frag) : List V → Hp → VK → Prop := fun xs H Q => ∃ (a : Addr) (ps : List Addr) (kvs : List (Key × V)), xs = [.ref a] ∧ SqL K H a (ps.map V.ref) ∧ Paired (fun p kv => SqT K H p [kV kv.1, kv.2]) ps kvs ∧
    ∀ p, H p = none → Q (.ref p) (upd H p (.dK (mergeK [] kvs)))
def signsV (z : Str) : List V := z.cps.toList.map fun c => V.str ⟨#[c]⟩
def rListStr : List V → Hp → VK → Prop := fun xs H Q => ∃ z : Str, xs = [.str z] ∧ z.length ≤ 1000 ∧ ∀ l, H l = none → Q (.ref l) (upd H l (.lst (signsV z)))
section
variable {X : Cx}
theorem vals_signs : ∀ (cs : List Nat) (us : List Value), us.length = cs.length → (∀ (j : Nat) (v : Value), us[j]? = some v → ∃ c u, cs[j]? = some c ∧ v = .str ⟨#[c]⟩ u) → Vals (cs.map fun c => V.str ⟨#[c]⟩) us
  | [], [], _, _ => .nil
  | [], _ :: _, h, _ => by cases h
  | _ :: _, [], h, _ => by cases h
  | c :: cs, u :: us, h, k => by
    obtain ⟨c', t, e1, e2⟩ := k 0 u rfl
    cases e1
    exact .cons ⟨t, e2⟩ (vals_signs cs us (by simpa using h) fun j v hv => k (j + 1) v hv)
theorem mt_insertM : MtR X "list.insert" rInsert := mt_insert
theorem op_mulS : OpR X (binaryOp .Mult) rMulS := by
  intro pins s σ H x y v u Q I rx ry h
  obtain ⟨z, n, rfl, rfl, h1, h2, h3, q⟩ := h
  obtain ⟨t, rfl⟩ := rx
  obtain ⟨t2, rfl⟩ := ry
  refine SB.mul ⟨?_, fun a b c => ?_, fun a b => ?_⟩ fun t' k => ⟨.str _, _, I.tok _, ⟨_, rfl⟩, q⟩
  · rw [decide_eq_false (by omega), decide_eq_false (by omega)]; rfl
  · have : (100 : Int) ≤ (2 ^ 63 - 1) / n := by
      refine (Int.le_ediv_iff_mul_le (by omega)).mpr ?_
      omega
    omega
  · have e : z.length * n.toNat ≤ 100 * 100000 := Nat.mul_le_mul h3 (by omega)
    have := line63
    have l : (10000000 : Nat) ≤ sizeLine := by decide
    show decide _ = false
    refine decide_eq_false ?_
    omega
theorem call_listStr (hc : X.calm = true) : CallR X (.type "list") rListStr := by
  intro pins s σ H xs us Q I r h
  obtain ⟨z, rfl, hz, q⟩ := h
  obtain ⟨u, rfl, rx⟩ := vals1 r
  obtain ⟨t, rfl⟩ := rx
  refine call_list_str (I.ok.hd hc) z t (fun h' tk acc' c' kp e it => ?_) (Nat.le_trans hz (by decide))
  have rel : Vals (signsV z) acc'.toList := by
    refine vals_signs _ _ ?_ fun j v hv => ?_
    · rw [Array.length_toList, Array.length_toList]; exact it.1
    · rw [Array.getElem?_toList] at hv
      obtain ⟨c, u, e1, e2⟩ := it.2 j v hv
      exact ⟨c, u, by rw [Array.getElem?_toList]; exact e1, e2⟩
  exact ⟨.ref s.heap.objs.size, _, I.laid (t' := tk) kp (Nat.le_refl _) (show ObjOk X.prog X.w _ h' _ (.lst (signsV z)) from ⟨by unfold signsV; rw [List.length_map, Array.length_toList]; exact Nat.le_trans hz (by decide), acc'.toList, c', rel, e⟩), rfl, q _ (I.hok.fresh (Nat.le_refl _))⟩
end
end FW
/-! ### the mode in which an exception may have a context -/
namespace FWC
open PySem PySem.Spec PyProof.Rows L2 FW
/-- try: body, except C as n: raise D() from n -/
def tTryFrom (K : PySem.W.Frag) (tb : WX → TS) (c : Value) (i : Nat) (D : Addr) (E : XK) : TS := fun Dn σ H => tb (L2C.wFrom K c i (FWN.tMk0 D) E) Dn σ H
section
variable {X : Cx} {E : XK} {x n : Str} {c : Value} {i : Nat} {e : Expr} {D : Addr} {np npos rpos pos' pos : Pos} {E₁ : Value → Shared → Prop}
theorem ps_tryFrom {te : L2.St → Hp → XK → Prop} {body : List Stmt} {tb : WX → TS} (hs : X.stack = X.env :: X.outer) (hf : X.env.frame = some X.env.locals) (hex : X.ex = []) (hN : X.N.Nodup) (hi : X.N[i]? = some n) (hln : X.env.kindOf n = some .local) (hc : Names X x c) (hr : Raises X c) (hdb : (n == ("__debug__" : Str)) = false)
    (hx : X.xe = fun e s' => wpAny (model X.prog X.w) X.A (leaving X.env e) (fun _ s2 => L2C.CX X.prog X.w X.outer X.H_0 X.s_0 E e s2) E₁ s') (he : ∀ a pn xe, L2H.PMk5 { X.suite a pn with xe := xe } e (FWN.tMk0 D))
    (hb : ∀ (W : WX) (pn : List (Addr × Obj)) (xe : Value → Shared → Prop), L2N.Takes (X.tr pn xe) W → PassesOwn (model X.prog X.w) X.A X.env xe → PSs (X.tr pn xe) body (tb W)) :
    PS X (.Try body [.ExceptHandler (some (.Name x np)) (some n) [.Raise (some e) (some (.Name n npos)) rpos] pos'] [] [] pos) (tTryFrom X.K tb c i D E) :=
  L2C.ps_try_from hs hf hex hN hi hln hc hr hdb hx he hb
theorem ps_raise0 {C fI : Addr} {W : WX} {p pos pos2 : Pos} {k : Nat} (hc : X.calm = true) (T : PySem.ErrX.ErrC0 X.prog X.K C fI) (gC : X.mg x = some (.ref C)) (hr : Room k X.A) (tk : L2C.Takes X W) (hg : Gl X x) (hdb : (x == ("__debug__" : Str)) = false := by decide) :
    PS X (.Raise (some (.Call (.Name x p) [] [] pos)) none pos2) (FWN.tRaise0 C W) := L2C.ps_raise hc tk (FWN.pmk_err0 T gC hr hg hdb)
theorem pss_hxG {Y : Cx} {a : Addr} {oe : Obj} {cls : Value} {d : Option Addr} {body : List Stmt} {t : TS} (h : HXG Y a oe cls d) (k : HXG Y a oe cls d → PSs Y body t) : PSs Y body t := k h
end
end FWC
namespace FWL
open PySem PySem.Spec PyProof.Rows L2 FW
/-! ### k53: parts, equality, texts of loops -/
theorem fld_at {K : PySem.W.Frag} {H : Hp} {p C dx : Addr} {fs : List (Str × V)} {g : Str} {R : V → Prop} {v : V} (k : R v) (h : H p = some (.ins C dx fs)) (c : Cls K C) (na : NoAttr K C g) (hl : fs.lookup g = some v) :
    ∃ a C dx fs v, V.ref p = .ref a ∧ H a = some (.ins C dx fs) ∧ Cls K C ∧ NoAttr K C g ∧ fs.lookup g = some v ∧ R v := ⟨p, C, dx, fs, v, rfl, h, c, na, hl, k⟩
def sp_Halves_parts (K : PySem.W.Frag) : Sp := fun vs H Q _ => ∃ (p : Addr) (l : Hv), vs = [.ref p] ∧ IsHv K H p l ∧ ∀ t, H t = none → Q (.ref t) (upd H t (.tup l.V))
def rd_Halves_parts (K : PySem.W.Frag) : TS := tRet (tTup (tCons (tFld K (tVar 0) "up") (tCons (tFld K (tVar 0) "test") (tCons (tFld K (tVar 0) "low") (tCons (tFld K (tVar 0) "high") (tCons (tFld K (tVar 0) "stop") (tCons (tFld K (tVar 0) "told") (tCons (tFld K (tVar 0) "plus") (tNil)))))))))
theorem pure_Halves_parts (K : PySem.W.Frag) (A : HvK K) (vs : List V) (H : Hp) (Q : VK) (E : XK) (h : sp_Halves_parts K vs H Q E) : rd_Halves_parts K { nx := fun _ H' => Q .non H', rt := Q } (start ["self"] vs) H := by
  obtain ⟨p, l, rfl, ⟨dx, hp⟩, q⟩ := h
  unfold rd_Halves_parts
  walk_at "rd"
  refine fld_at ?_ hp A.cls A.n_up rfl
  walk_at "rd"
  refine fld_at ?_ hp A.cls A.n_test rfl
  walk_at "rd"
  refine fld_at ?_ hp A.cls A.n_low rfl
  walk_at "rd"
  refine fld_at ?_ hp A.cls A.n_high rfl
  walk_at "rd"
  refine fld_at ?_ hp A.cls A.n_stop rfl
  walk_at "rd"
  refine fld_at ?_ hp A.cls A.n_told rfl
  walk_at "rd"
  refine fld_at ?_ hp A.cls A.n_plus rfl
  walk_at "rd"
  exact ⟨by show 7 ≤ sizeLine; decide, fun t ht => q t ht⟩
def sp_Steps_parts (K : PySem.W.Frag) : Sp := fun vs H Q _ => ∃ (p : Addr) (l : Sl), vs = [.ref p] ∧ IsSl K H p l ∧ ∀ t, H t = none → Q (.ref t) (upd H t (.tup l.V))
def rd_Steps_parts (K : PySem.W.Frag) : TS := tRet (tTup (tCons (tFld K (tVar 0) "test") (tCons (tFld K (tVar 0) "after") (tCons (tFld K (tVar 0) "last") (tCons (tFld K (tVar 0) "plus") (tNil))))))
theorem pure_Steps_parts (K : PySem.W.Frag) (A : SpK K) (vs : List V) (H : Hp) (Q : VK) (E : XK) (h : sp_Steps_parts K vs H Q E) : rd_Steps_parts K { nx := fun _ H' => Q .non H', rt := Q } (start ["self"] vs) H := by
  obtain ⟨p, l, rfl, ⟨dx, hp⟩, q⟩ := h
  unfold rd_Steps_parts
  walk_at "rd"
  refine fld_at ?_ hp A.cls A.n_test rfl
  walk_at "rd"
  refine fld_at ?_ hp A.cls A.n_after rfl
  walk_at "rd"
  refine fld_at ?_ hp A.cls A.n_last rfl
  walk_at "rd"
  refine fld_at ?_ hp A.cls A.n_plus rfl
  walk_at "rd"
  exact ⟨by show 4 ≤ sizeLine; decide, fun t ht => q t ht⟩
def Hv.D (l : Hv) : PyData := .tuple [.int l.up, .str l.test, .int l.low, .int l.high, .str l.stop, .str l.told, .int l.plus]
def Sl.D (l : Sl) : PyData := .tuple [.str l.test, .str l.after, .int l.last, .int l.plus]
/-- two loops of the same parts are equal -/
def sp_Halves_eq (K : PySem.W.Frag) : Sp := fun vs H Q _ => ∃ (p r : Addr) (l : Hv), vs = [.ref p, .ref r] ∧ IsHv K H p l ∧ IsHv K H r l ∧ SeqAt.shaped l.D = true ∧ ∀ H', Ext H H' → Q (.bl true) H'
def rd_Halves_eq (K : PySem.W.Frag) : TS := tRet (tAndV (tCB (rIsi K) (tCons (tVar 1) (tCons (tC (.ref (He.ga K "Halves"))) (tNil)))) (tOp (rEqD K) (tMeth (He.ga K "Halves") "parts" (sp_Halves_parts K) [] E0 (tVar 0) tNil) (tMeth (He.ga K "Halves") "parts" (sp_Halves_parts K) [] E0 (tVar 1) tNil)))
theorem pure_Halves_eq (K : PySem.W.Frag) (A : HvK K) (B : InsK K (He.ga K "Halves")) (vs : List V) (H : Hp) (Q : VK) (E : XK) (h : sp_Halves_eq K vs H Q E) : rd_Halves_eq K { nx := fun _ H' => Q .non H', rt := Q } (start ["self", "other"] vs) H := by
  obtain ⟨p, r, l, rfl, hp, hr, sh, q⟩ := h
  obtain ⟨dr, hr'⟩ := id hr
  obtain ⟨dp, hp'⟩ := id hp
  unfold rd_Halves_eq
  walk_at "rd"
  refine e_isiO ?_ hr' A.cls B
  walk_at "rd"
  refine ⟨p, dp, _, rfl, hp', rfl, ?_⟩
  walk_at "rd"
  refine ⟨p, l, rfl, hp, fun t1 h1 => ?_⟩
  have e1 : Ext H (upd H t1 (.tup l.V)) := Ext.new h1
  walk_at "rd"
  refine ⟨r, dr, _, rfl, e1 _ _ hr', rfl, ?_⟩
  walk_at "rd"
  refine ⟨r, l, rfl, hr.ext e1, fun t2 h2 => ?_⟩
  have e2 : Ext (upd H t1 (.tup l.V)) (upd (upd H t1 (.tup l.V)) t2 (.tup l.V)) := Ext.new h2
  have dp : ∀ {t} {G : Hp}, SqT K G t l.V → Dp K G (.ref t) l.D := fun h => .tup h (.cons (.int _) (.cons (.str _) (.cons (.int _) (.cons (.int _) (.cons (.str _) (.cons (.str _) (.cons (.int _) .nil)))))))
  refine e_eqD (d := l.D) (e := l.D) ?_ (dp (SqT.of (e2 _ _ upd_same))) (dp (SqT.of upd_same)) sh sh
  rw [SeqAt.eqv_refl _ (SeqAt.canLay_of_shaped sh)]
  exact q _ (e1.tr e2)
def sp_Steps_eq (K : PySem.W.Frag) : Sp := fun vs H Q _ => ∃ (p r : Addr) (l : Sl), vs = [.ref p, .ref r] ∧ IsSl K H p l ∧ IsSl K H r l ∧ SeqAt.shaped l.D = true ∧ ∀ H', Ext H H' → Q (.bl true) H'
def rd_Steps_eq (K : PySem.W.Frag) : TS := tRet (tAndV (tCB (rIsi K) (tCons (tVar 1) (tCons (tC (.ref (He.ga K "Steps"))) (tNil)))) (tOp (rEqD K) (tMeth (He.ga K "Steps") "parts" (sp_Steps_parts K) [] E0 (tVar 0) tNil) (tMeth (He.ga K "Steps") "parts" (sp_Steps_parts K) [] E0 (tVar 1) tNil)))
theorem pure_Steps_eq (K : PySem.W.Frag) (A : SpK K) (B : InsK K (He.ga K "Steps")) (vs : List V) (H : Hp) (Q : VK) (E : XK) (h : sp_Steps_eq K vs H Q E) : rd_Steps_eq K { nx := fun _ H' => Q .non H', rt := Q } (start ["self", "other"] vs) H := by
  obtain ⟨p, r, l, rfl, hp, hr, sh, q⟩ := h
  obtain ⟨dr, hr'⟩ := id hr
  obtain ⟨dp, hp'⟩ := id hp
  unfold rd_Steps_eq
  walk_at "rd"
  refine e_isiO ?_ hr' A.cls B
  walk_at "rd"
  refine ⟨p, dp, _, rfl, hp', rfl, ?_⟩
  walk_at "rd"
  refine ⟨p, l, rfl, hp, fun t1 h1 => ?_⟩
  have e1 : Ext H (upd H t1 (.tup l.V)) := Ext.new h1
  walk_at "rd"
  refine ⟨r, dr, _, rfl, e1 _ _ hr', rfl, ?_⟩
  walk_at "rd"
  refine ⟨r, l, rfl, hr.ext e1, fun t2 h2 => ?_⟩
  have e2 : Ext (upd H t1 (.tup l.V)) (upd (upd H t1 (.tup l.V)) t2 (.tup l.V)) := Ext.new h2
  have dp : ∀ {t} {G : Hp}, SqT K G t l.V → Dp K G (.ref t) l.D := fun h => .tup h (.cons (.str _) (.cons (.str _) (.cons (.int _) (.cons (.int _) .nil))))
  refine e_eqD (d := l.D) (e := l.D) ?_ (dp (SqT.of (e2 _ _ upd_same))) (dp (SqT.of upd_same)) sh sh
  rw [SeqAt.eqv_refl _ (SeqAt.canLay_of_shaped sh)]
  exact q _ (e1.tr e2)
/-! #### lines -/
def lineV (w : Str) (vs : List V) : Str := Txt.join " " (w :: vs.map wdV)
def PartOk (v : V) : Prop := (∃ i : Int, v = .int i ∧ i.natAbs.log2 < 1920) ∨ ∃ s, v = .str s
def LineOk (w : Str) (vs : List V) : Prop := (∀ v ∈ vs, PartOk v) ∧ vs.length ≤ 1000 ∧ ((w :: vs.map wdV).map (·.length)).sum + (w :: vs.map wdV).length * 1 ≤ 16777216
/-- [str(part) for part in parts] -/
theorem lc_words {K : PySem.W.Frag} {σ : L2.St} {H : Hp} {Q : VK} {t : Addr} {vs : List V} {n : Nat} (h : SqT K H t vs) (ok : ∀ v ∈ vs, PartOk v) (hl : vs.length ≤ 1000) (hw : ∀ v : V, wipe ((wipe σ [n]).set n (some v)) [n] = wipe σ [n]) (hn : n < σ.length)
    (q : ∀ D G, H D = none → Ext H G → G D = some (.lst (vs.map fun v => .str (wdV v))) → Q (.ref D) G) :
    LcK (gName n) tYes (FW.tEither (tCB FW.rStrI (tCons (tVar n) (tNil))) (tCB FW.rStrS (tCons (tVar n) (tNil)))) [n] σ Q (Itt K t) H := by
  refine lcTX (p := fun _ => true) (P := fun v y => y = .str (wdV v)) h (by omega) hw (fun x _ H' R _ k => k H' (fun _ _ z => z)) (fun x hx _ H' R _ k => ?_) fun D G ys hD e hG hp => ?_
  · have hv : ((wipe σ [n]).set n (some x))[n]? = some (some x) := by
      rw [List.getElem?_set_self]
      simp [wipe, hn]
    rcases ok x hx with ⟨i, rfl, hi⟩ | ⟨s, rfl⟩
    · exact .inl (e_cb (e_cons (e_var (e_nil ⟨i, rfl, hi, k _ _ (fun _ _ z => z) rfl⟩) hv)))
    · exact .inr (e_cb (e_cons (e_var (e_nil ⟨s, rfl, k _ _ (fun _ _ z => z) rfl⟩) hv)))
  · refine q D G hD e ?_
    rw [hG, List.filter_eq_self.mpr (fun _ _ => rfl)] at *
    have : ∀ {xs ys : List V}, Paired (fun v y => y = V.str (wdV v)) xs ys → ys = xs.map fun v => V.str (wdV v) := fun h => by
      induction h with
      | nil => rfl
      | cons a _ ih => rw [a, ih]; rfl
    rw [this hp]
theorem e_line {K : PySem.W.Frag} {σ : L2.St} {H : Hp} {Q : VK} {w : Str} {vs : List V} {n : Nat} {te : TE} (ok : LineOk w vs) (hw : ∀ v : V, wipe ((wipe σ [n]).set n (some v)) [n] = wipe σ [n]) (hn : n < σ.length)
    (parts : ∀ (H1 : Hp) (R : VK), Ext H H1 → (∀ t H2, Ext H1 H2 → SqT K H2 t vs → R (.ref t) H2) → te σ H1 R) (q : ∀ H', Ext H H' → Q (.str (lineV w vs)) H') :
    tM1 (FW.rJoin K) (tC (.str " ")) (tOp rCat (tLst (tCons (tC (.str w)) (tNil))) (tLc (iTup K te) (gName n) (tYes) (FW.tEither (tCB FW.rStrI (tCons (tVar n) (tNil))) (tCB FW.rStrS (tCons (tVar n) (tNil)))) [n])) σ H Q := by
  obtain ⟨ok, hl, hs⟩ := ok
  unfold tM1
  refine e_c ⟨⟨_, rfl⟩, e_op (e_lst (e_cons (e_c (e_nil ⟨by show 1 ≤ sizeLine; decide, fun a ha => ?_⟩))))⟩
  have e1 := Ext.new (o := .lst [.str w]) ha
  have ha1 : (upd H a (.lst [.str w])) a = some (.lst [.str w]) := upd_same
  generalize upd H a (.lst [.str w]) = H1 at *
  refine e_lc (parts _ _ e1 fun t H2 e2 ht => ⟨t, rfl, ⟨_, ht⟩, lc_words ht ok hl hw hn fun D G hD e3 hG => ?_⟩)
  refine ⟨a, D, _, _, rfl, rfl, e3 _ _ (e2 _ _ ha1), hG, ?_, fun r hr => ?_⟩
  · rw [List.length_map]
    show 1 + vs.length ≤ 2 ^ 24
    omega
  · have e4 := Ext.new (o := .lst ([V.str w] ++ vs.map fun v => V.str (wdV v))) hr
    refine ⟨" ", r, w :: vs.map wdV, rfl, rfl, .inl (SqL.of ?_), ?_, q _ (e1.tr (e2.tr (e3.tr e4)))⟩
    · rw [upd_same, List.map_cons, List.map_map]; rfl
    · have : (" " : Str).length = 1 := by decide
      rw [this]; exact hs
def sp_Average_text (K : PySem.W.Frag) : Sp := fun vs H Q _ => ∃ (p : Addr) (l : Lp), vs = [.ref p] ∧ IsLp K H p l ∧ LineOk "average" l.V ∧ ∀ H', Ext H H' → Q (.str (lineV "average" l.V)) H'
def rd_Average_text (K : PySem.W.Frag) : TS := tRet (tM1 (FW.rJoin K) (tC (.str " ")) (tOp rCat (tLst (tCons (tC (.str "average")) (tNil))) (tLc (iTup K (tMeth (He.ga K "Average") "parts" (sp_Average_parts K) [] E0 (tVar 0) tNil)) (gName 1) (tYes) (FW.tEither (tCB FW.rStrI (tCons (tVar 1) (tNil))) (tCB FW.rStrS (tCons (tVar 1) (tNil)))) [1])))
theorem pure_Average_text (K : PySem.W.Frag) (vs : List V) (H : Hp) (Q : VK) (E : XK) (h : sp_Average_text K vs H Q E) : rd_Average_text K { nx := fun _ H' => Q .non H', rt := Q } (start ["self", "part"] vs) H := by
  obtain ⟨p, l, rfl, hp, ok, q⟩ := h
  unfold rd_Average_text
  with_reducible refine s_ret ?_
  refine e_line (σ := [some (.ref p), none]) ok (fun _ => rfl) (show 1 < 2 by decide) (fun H1 R e k => ?_) q
  obtain ⟨dx, hp'⟩ := hp.ext e
  walk_at "re"
  refine ⟨p, dx, _, rfl, hp', rfl, ?_⟩
  walk_at "re"
  exact ⟨p, l, rfl, hp.ext e, fun t ht => k t _ (Ext.new ht) (SqT.of upd_same)⟩
def sp_Halves_text (K : PySem.W.Frag) : Sp := fun vs H Q _ => ∃ (p : Addr) (l : Hv), vs = [.ref p] ∧ IsHv K H p l ∧ LineOk "halves" l.V ∧ ∀ H', Ext H H' → Q (.str (lineV "halves" l.V)) H'
def rd_Halves_text (K : PySem.W.Frag) : TS := tRet (tM1 (FW.rJoin K) (tC (.str " ")) (tOp rCat (tLst (tCons (tC (.str "halves")) (tNil))) (tLc (iTup K (tMeth (He.ga K "Halves") "parts" (sp_Halves_parts K) [] E0 (tVar 0) tNil)) (gName 1) (tYes) (FW.tEither (tCB FW.rStrI (tCons (tVar 1) (tNil))) (tCB FW.rStrS (tCons (tVar 1) (tNil)))) [1])))
theorem pure_Halves_text (K : PySem.W.Frag) (vs : List V) (H : Hp) (Q : VK) (E : XK) (h : sp_Halves_text K vs H Q E) : rd_Halves_text K { nx := fun _ H' => Q .non H', rt := Q } (start ["self", "part"] vs) H := by
  obtain ⟨p, l, rfl, hp, ok, q⟩ := h
  unfold rd_Halves_text
  with_reducible refine s_ret ?_
  refine e_line (σ := [some (.ref p), none]) ok (fun _ => rfl) (show 1 < 2 by decide) (fun H1 R e k => ?_) q
  obtain ⟨dx, hp'⟩ := hp.ext e
  walk_at "re"
  refine ⟨p, dx, _, rfl, hp', rfl, ?_⟩
  walk_at "re"
  exact ⟨p, l, rfl, hp.ext e, fun t ht => k t _ (Ext.new ht) (SqT.of upd_same)⟩
def sp_Steps_text (K : PySem.W.Frag) : Sp := fun vs H Q _ => ∃ (p : Addr) (l : Sl), vs = [.ref p] ∧ IsSl K H p l ∧ LineOk "steps" l.V ∧ ∀ H', Ext H H' → Q (.str (lineV "steps" l.V)) H'
def rd_Steps_text (K : PySem.W.Frag) : TS := tRet (tM1 (FW.rJoin K) (tC (.str " ")) (tOp rCat (tLst (tCons (tC (.str "steps")) (tNil))) (tLc (iTup K (tMeth (He.ga K "Steps") "parts" (sp_Steps_parts K) [] E0 (tVar 0) tNil)) (gName 1) (tYes) (FW.tEither (tCB FW.rStrI (tCons (tVar 1) (tNil))) (tCB FW.rStrS (tCons (tVar 1) (tNil)))) [1])))
theorem pure_Steps_text (K : PySem.W.Frag) (vs : List V) (H : Hp) (Q : VK) (E : XK) (h : sp_Steps_text K vs H Q E) : rd_Steps_text K { nx := fun _ H' => Q .non H', rt := Q } (start ["self", "part"] vs) H := by
  obtain ⟨p, l, rfl, hp, ok, q⟩ := h
  unfold rd_Steps_text
  with_reducible refine s_ret ?_
  refine e_line (σ := [some (.ref p), none]) ok (fun _ => rfl) (show 1 < 2 by decide) (fun H1 R e k => ?_) q
  obtain ⟨dx, hp'⟩ := hp.ext e
  walk_at "re"
  refine ⟨p, dx, _, rfl, hp', rfl, ?_⟩
  walk_at "re"
  exact ⟨p, l, rfl, hp.ext e, fun t ht => k t _ (Ext.new ht) (SqT.of upd_same)⟩
theorem PartV.uniq {w : Str} {v v' : V} (h : PartV w v) (h' : PartV w v') : v = v' := by
  unfold PartV at h h'
  split at h
  · rw [if_pos (by assumption)] at h'; rw [h, h']
  · rw [if_neg (by assumption)] at h'
    obtain ⟨n, e, rfl⟩ := h
    obtain ⟨m, e', rfl⟩ := h'
    rw [e] at e'; cases e'; rfl
end FWL
namespace FWL
open PySem PySem.Spec PyProof.Rows L2 FW
/-! ### k53: a loop made of parts, or refused; a text read -/
inductive Lo where
  | av (l : Lp)
  | ha (h : Hv)
  | st (s : Sl)
def Lo.hd : Lo → Str | .av _ => "average" | .ha _ => "halves" | .st _ => "steps"
def Lo.ix : Lo → Int | .av _ => 0 | .ha _ => 1 | .st _ => 2
def Lo.V : Lo → List V | .av l => l.V | .ha h => h.V | .st s => s.V
def Lo.Ok : Lo → Prop | .av l => l.Ok | .ha h => h.Ok | .st s => s.Ok
def IsLo (K : PySem.W.Frag) (H : Hp) (x : Addr) : Lo → Prop | .av l => IsLp K H x l | .ha h => IsHv K H x h | .st s => IsSl K H x s
theorem IsLo.ext {K : PySem.W.Frag} {H H' : Hp} {x : Addr} {o : Lo} (e : Ext H H') (h : IsLo K H x o) : IsLo K H' x o := by
  cases o with
  | av l => exact IsLp.ext e h
  | ha l => exact IsHv.ext e h
  | st l => exact IsSl.ext e h
def Lo.line (o : Lo) : Str := lineV o.hd o.V
/-- all parts of loops -/
def goodV : List V := ((List.range 18).map fun (i : Nat) => V.int ((i : Int) - 5)) ++ (stopsV ++ (toldsV ++ (mendsV ++ (tstV ++ (lessV ++ (lohi ++ aftV))))))
def goodB (v : V) : Bool := decide (partV (wdV v) = v) && (decide (NoSp (wdV v)) && (decide ((wdV v).length ≤ 8) && match v with
  | .int i => decide (i.natAbs < 100)
  | .str _ => true
  | _ => false))
theorem goodV_ok : goodV.all goodB = true := by kernel_rfl
theorem goodV_at {v : V} (h : v ∈ goodV) : partV (wdV v) = v ∧ NoSp (wdV v) ∧ (wdV v).length ≤ 8 ∧ PartOk v := by
  have g := List.all_eq_true.mp goodV_ok v h
  unfold goodB at g
  simp only [Bool.and_eq_true, decide_eq_true_eq] at g
  obtain ⟨g1, g2, g3, g4⟩ := g
  refine ⟨g1, g2, g3, ?_⟩
  cases v with
  | int i =>
    refine .inl ⟨i, rfl, ?_⟩
    have : i.natAbs < 100 := of_decide_eq_true g4
    exact Nat.lt_of_le_of_lt (Nat.log2_le_self _) (by omega)
  | str s => exact .inr ⟨s, rfl⟩
  | _ => cases g4
theorem good_int {i : Int} (h1 : -5 ≤ i) (h2 : i ≤ 12) : V.int i ∈ goodV := by
  refine List.mem_append_left _ (List.mem_map.mpr ⟨(i + 5).toNat, List.mem_range.mpr (by omega), ?_⟩)
  congr 1; omega
theorem good_str {s : V} (h : s ∈ stopsV ++ (toldsV ++ (mendsV ++ (tstV ++ (lessV ++ (lohi ++ aftV)))))) : s ∈ goodV := List.mem_append_right _ h
theorem Lo.good {o : Lo} (h : o.Ok) : ∀ v ∈ o.V, v ∈ goodV := by
  intro v hv
  cases o with
  | av l =>
    have k : l.Ok := h
    have hv' : v ∈ l.V := hv
    unfold Lp.V at hv'
    simp only [List.mem_cons, List.not_mem_nil, or_false] at hv'
    have hs := k.hs; have ht := k.ht; have hm := k.hm
    rcases hv' with rfl | rfl | rfl | rfl | rfl | rfl | rfl
    · rcases k.hk with z | z | z <;> exact good_int (by omega) (by omega)
    · exact good_int (by have := k.a1; omega) (by have := k.a5; omega)
    · exact good_int (by have := k.c1; omega) (by have := k.c3; omega)
    · exact good_int (by have := k.d0; have := k.a5; omega) (by have := k.d1; have := k.ac; omega)
    · exact good_str (List.mem_append_left _ hs)
    · exact good_str (List.mem_append_right _ (List.mem_append_left _ ht))
    · exact good_str (List.mem_append_right _ (List.mem_append_right _ (List.mem_append_left _ hm)))
  | ha l =>
    have k : l.Ok := h
    have hv' : v ∈ l.V := hv
    unfold Hv.V at hv'
    simp only [List.mem_cons, List.not_mem_nil, or_false] at hv'
    rcases hv' with rfl | rfl | rfl | rfl | rfl | rfl | rfl
    · rcases k.up with z | z <;> rw [z] <;> decide +kernel
    · rcases k.test with z | z <;> rw [z] <;> decide +kernel
    · rcases k.low with z | z <;> rw [z] <;> decide +kernel
    · rcases k.high with z | z <;> rw [z] <;> decide +kernel
    · rcases k.stop with z | z | z <;> rw [z] <;> decide +kernel
    · rcases k.told with z | z <;> rw [z] <;> decide +kernel
    · rcases k.plus with z | z | z <;> rw [z] <;> decide +kernel
  | st l =>
    have k : l.Ok := h
    have hv' : v ∈ l.V := hv
    unfold Sl.V at hv'
    simp only [List.mem_cons, List.not_mem_nil, or_false] at hv'
    rcases hv' with rfl | rfl | rfl | rfl
    · rcases k.test with z | z <;> rw [z] <;> decide +kernel
    · rcases k.after with z | z | z <;> rw [z] <;> decide +kernel
    · rcases k.last with z | z <;> rw [z] <;> decide +kernel
    · rcases k.plus with z | z | z <;> rw [z] <;> decide +kernel
theorem Lo.lenV : ∀ {o : Lo}, o.V.length ≤ 7
  | .av _ => Nat.le_refl 7
  | .ha _ => Nat.le_refl 7
  | .st _ => show 4 ≤ 7 by decide
theorem Lo.hdOk : ∀ {o : Lo}, NoSp o.hd ∧ o.hd.length ≤ 7
  | .av _ => show NoSp "average" ∧ ("average" : Str).length ≤ 7 by decide +kernel
  | .ha _ => show NoSp "halves" ∧ ("halves" : Str).length ≤ 7 by decide +kernel
  | .st _ => show NoSp "steps" ∧ ("steps" : Str).length ≤ 7 by decide +kernel
theorem Lo.back {o : Lo} (h : o.Ok) : (o.V.map wdV).map partV = o.V := by
  rw [List.map_map]
  conv => rhs; rw [← List.map_id o.V]
  exact List.map_congr_left fun v hv => (goodV_at (Lo.good h v hv)).1
theorem Lo.words {o : Lo} (h : o.Ok) : Txt.split o.line " " = o.hd :: o.V.map wdV := by
  refine split_joinS (by simp) fun w hw => ?_
  rcases List.mem_cons.mp hw with rfl | hw
  · exact Lo.hdOk.1
  · obtain ⟨v, hv, rfl⟩ := List.mem_map.mp hw
    exact (goodV_at (Lo.good h v hv)).2.1
theorem sum_le {ws : List Str} {k : Nat} (h : ∀ w ∈ ws, w.length ≤ k) : (ws.map (·.length)).sum ≤ ws.length * k := by
  induction ws with
  | nil => simp
  | cons a l ih =>
    have h1 := h a (by simp)
    have h2 := ih fun w hw => h w (List.mem_cons_of_mem _ hw)
    simp only [List.map_cons, List.sum_cons, List.length_cons, Nat.add_mul]
    omega
theorem Lo.szW {o : Lo} (h : o.Ok) : FWL.szW (o.hd :: o.V.map wdV) ≤ 72 := by
  rw [szW_cons]
  have e1 := (Lo.hdOk (o := o)).2
  have e2 := sum_le (ws := o.V.map wdV) (k := 8) fun w hw => by
    obtain ⟨v, hv, rfl⟩ := List.mem_map.mp hw
    exact (goodV_at (Lo.good h v hv)).2.2.1
  have e3 := Lo.lenV (o := o)
  unfold FWL.szW
  rw [List.length_map] at *
  omega
theorem Lo.lineOk {o : Lo} (h : o.Ok) : LineOk o.hd o.V := by
  refine ⟨fun v hv => (goodV_at (Lo.good h v hv)).2.2.2, Nat.le_trans Lo.lenV (by decide), ?_⟩
  have := Lo.szW h
  unfold FWL.szW at this
  omega
theorem Lo.len {o : Lo} (h : o.Ok) : o.line.length ≤ 72 := by
  have e : o.line.length + 1 = FWL.szW (o.hd :: o.V.map wdV) := join_len (by simp)
  have := Lo.szW h
  omega
/-- a text that is a line has these words -/
theorem Lo.of_line {o : Lo} (h : o.Ok) {z w0 : Str} {ws : List Str} (e : z = o.line) (hs : Txt.split z " " = w0 :: ws) : o.hd = w0 ∧ o.V = ws.map partV := by
  rw [e, Lo.words h] at hs
  injection hs with h1 h2
  exact ⟨h1, by rw [← h2, Lo.back h]⟩
/-! #### parts that are so -/
theorem inV_intsC (x : Int) (ns : List Int) : inV (.int x) (ns.map V.int) = decide (x ∈ ns) := by
  unfold inV
  rw [Bool.eq_iff_iff, List.any_eq_true, decide_eq_true_eq]
  constructor
  · rintro ⟨y, hy, e⟩
    obtain ⟨z, hz, rfl⟩ := List.mem_map.mp hy
    have : z = x := by simpa [eqV] using e
    exact this ▸ hz
  · intro hx
    exact ⟨.int x, List.mem_map.mpr ⟨x, hx, rfl⟩, by simp [eqV]⟩
theorem numU_of {v : V} {ns : List Int} (h : numU v (ns.map V.int) = true) : ∃ i ∈ ns, v = .int i := by
  unfold numU at h
  rw [Bool.and_eq_true] at h
  obtain ⟨i, rfl⟩ : ∃ i, v = .int i := by cases v <;> first | (cases h.1; done) | exact ⟨_, rfl⟩
  have e := h.2
  rw [inV_intsC] at e
  exact ⟨i, of_decide_eq_true e, rfl⟩
theorem wordOf_of {v : V} {ss : List Str} (h : wordOf v (ss.map V.str) = true) : ∃ s ∈ ss, v = .str s := by
  unfold wordOf at h
  rw [Bool.and_eq_true] at h
  obtain ⟨s, rfl⟩ := isStr_of h.1
  have e := h.2
  rw [inV_str s (fun v hv => by obtain ⟨x, _, e⟩ := List.mem_map.mp hv; exact ⟨x, e.symm⟩)] at e
  obtain ⟨x, hx, ex⟩ := List.mem_map.mp (of_decide_eq_true e)
  cases ex
  exact ⟨_, hx, rfl⟩
theorem firstB_allC {rows : List (Str × Bool)} (h : firstB rows = none) : ∀ r ∈ rows, r.2 = true := by
  induction rows with
  | nil => intro r hr; cases hr
  | cons a l ih =>
    obtain ⟨w, b⟩ := a
    cases b with
    | false => rw [firstB, if_neg (by decide)] at h; cases h
    | true =>
      rw [firstB, if_pos rfl] at h
      intro r hr
      rcases List.mem_cons.mp hr with rfl | hr
      · rfl
      · exact ih h r hr
theorem firstB_noneC {rows : List (Str × Bool)} (h : ∀ r ∈ rows, r.2 = true) : firstB rows = none := by
  induction rows with
  | nil => rfl
  | cons a l ih =>
    obtain ⟨w, b⟩ := a
    have : b = true := h (w, b) (by simp)
    subst this
    rw [firstB, if_pos rfl]
    exact ih fun r hr => h r (by simp [hr])
theorem good_SlC {h : Sl} (o : h.Ok) : firstB (rowsSl h.V) = none := by
  refine firstB_noneC ?_
  have r : rowsSl h.V = ([("test", wordOf (.str h.test) tstV), ("after", wordOf (.str h.after) aftV), ("last", numU (.int h.last) n12), ("plus", numU (.int h.plus) n101)] : List (Str × Bool)) := rfl
  rw [r]
  intro x hx
  simp only [List.mem_cons, List.not_mem_nil, or_false] at hx
  rcases hx with rfl | rfl | rfl | rfl
  · rcases o.test with z | z <;> rw [z] <;> decide +kernel
  · rcases o.after with z | z | z <;> rw [z] <;> decide +kernel
  · rcases o.last with z | z <;> rw [z] <;> decide +kernel
  · rcases o.plus with z | z | z <;> rw [z] <;> decide +kernel
theorem good_HvC {h : Hv} (o : h.Ok) : firstB (rowsHv h.V) = none := by
  refine firstB_noneC ?_
  have r : rowsHv h.V = ([("up", numU (.int h.up) n01), ("test", wordOf (.str h.test) tstV), ("low", numU (.int h.low) n01), ("high", numU (.int h.high) n01), ("stop", wordOf (.str h.stop) lessV), ("told", wordOf (.str h.told) lohi), ("plus", numU (.int h.plus) n101)] : List (Str × Bool)) := rfl
  rw [r]
  intro x hx
  simp only [List.mem_cons, List.not_mem_nil, or_false] at hx
  rcases hx with rfl | rfl | rfl | rfl | rfl | rfl | rfl
  · rcases o.up with z | z <;> rw [z] <;> decide +kernel
  · rcases o.test with z | z <;> rw [z] <;> decide +kernel
  · rcases o.low with z | z <;> rw [z] <;> decide +kernel
  · rcases o.high with z | z <;> rw [z] <;> decide +kernel
  · rcases o.stop with z | z | z <;> rw [z] <;> decide +kernel
  · rcases o.told with z | z <;> rw [z] <;> decide +kernel
  · rcases o.plus with z | z | z <;> rw [z] <;> decide +kernel
theorem hv_of_rows {a b c d e f g : V} (h : firstB (rowsHv [a, b, c, d, e, f, g]) = none) : ∃ o : Hv, o.Ok ∧ o.V = [a, b, c, d, e, f, g] := by
  have al := firstB_allC h
  obtain ⟨i1, h1, rfl⟩ := numU_of (v := a) (ns := [0, 1]) (al ("up", numU a (([0, 1] : List Int).map V.int)) (List.mem_of_getElem? (i := 0) rfl))
  obtain ⟨s2, h2, rfl⟩ := wordOf_of (v := b) (ss := ["upto", "below"]) (al ("test", wordOf b ((["upto", "below"] : List Str).map V.str)) (List.mem_of_getElem? (i := 1) rfl))
  obtain ⟨i3, h3, rfl⟩ := numU_of (v := c) (ns := [0, 1]) (al ("low", numU c (([0, 1] : List Int).map V.int)) (List.mem_of_getElem? (i := 2) rfl))
  obtain ⟨i4, h4, rfl⟩ := numU_of (v := d) (ns := [0, 1]) (al ("high", numU d (([0, 1] : List Int).map V.int)) (List.mem_of_getElem? (i := 3) rfl))
  obtain ⟨s5, h5, rfl⟩ := wordOf_of (v := e) (ss := ["less", "most", "wide"]) (al ("stop", wordOf e ((["less", "most", "wide"] : List Str).map V.str)) (List.mem_of_getElem? (i := 4) rfl))
  obtain ⟨s6, h6, rfl⟩ := wordOf_of (v := f) (ss := ["low", "high"]) (al ("told", wordOf f ((["low", "high"] : List Str).map V.str)) (List.mem_of_getElem? (i := 5) rfl))
  obtain ⟨i7, h7, rfl⟩ := numU_of (v := g) (ns := [-1, 0, 1]) (al ("plus", numU g (([-1, 0, 1] : List Int).map V.int)) (List.mem_of_getElem? (i := 6) rfl))
  refine ⟨⟨i1, s2, i3, i4, s5, s6, i7⟩, ⟨?_, ?_, ?_, ?_, ?_, ?_, ?_⟩, rfl⟩
  all_goals (first | simpa using h1 | simpa using h2 | simpa using h3 | simpa using h4 | simpa using h5 | simpa using h6 | simpa using h7)
theorem sl_of_rows {a b c d : V} (h : firstB (rowsSl [a, b, c, d]) = none) : ∃ o : Sl, o.Ok ∧ o.V = [a, b, c, d] := by
  have al := firstB_allC h
  obtain ⟨s1, h1, rfl⟩ := wordOf_of (v := a) (ss := ["upto", "below"]) (al ("test", wordOf a ((["upto", "below"] : List Str).map V.str)) (List.mem_of_getElem? (i := 0) rfl))
  obtain ⟨s2, h2, rfl⟩ := wordOf_of (v := b) (ss := ["half", "same", "double"]) (al ("after", wordOf b ((["half", "same", "double"] : List Str).map V.str)) (List.mem_of_getElem? (i := 1) rfl))
  obtain ⟨i3, h3, rfl⟩ := numU_of (v := c) (ns := [1, 2]) (al ("last", numU c (([1, 2] : List Int).map V.int)) (List.mem_of_getElem? (i := 2) rfl))
  obtain ⟨i4, h4, rfl⟩ := numU_of (v := d) (ns := [-1, 0, 1]) (al ("plus", numU d (([-1, 0, 1] : List Int).map V.int)) (List.mem_of_getElem? (i := 3) rfl))
  refine ⟨⟨s1, s2, i3, i4⟩, ⟨?_, ?_, ?_, ?_⟩, rfl⟩
  all_goals (first | simpa using h1 | simpa using h2 | simpa using h3 | simpa using h4)
end FWL
namespace FWL
open PySem PySem.Spec PyProof.Rows L2 FW
/-! ### k53: made_loop, read_loop -/
def KindV (v : V) : Prop := (∃ s, v = .str s) ∨ ∃ n : Int, v = .int n ∧ n.natAbs < 1000
theorem KindV.wt {K : PySem.W.Frag} {H : Hp} {v : V} (h : KindV v) : ∃ n, WT K H v n := by
  rcases h with ⟨s, rfl⟩ | ⟨n, rfl, _⟩
  · exact ⟨_, WT.s s⟩
  · exact ⟨_, WT.i n⟩
theorem KindV.iv {v : V} (h : KindV v) : (iv v).natAbs < 2 ^ 900 := by
  rcases h with ⟨s, rfl⟩ | ⟨n, rfl, h⟩
  · exact Nat.lt_of_lt_of_le (show 0 < 1000 by decide) (by decide +kernel)
  · exact Nat.lt_of_lt_of_le h (by decide +kernel)
/-- the parts make a loop, or nothing -/
def MadeL (K : PySem.W.Frag) (h : Str) (ps : List V) (H : Hp) (Q : VK) (E : XK) : Prop :=
  (∀ o : Lo, o.Ok → o.hd = h → o.V = ps → ∀ x H', H x = none → Ext H H' → IsLo K H' x o → Q (.ref x) H') ∧
  ((∀ o : Lo, o.Ok → o.hd = h → o.V ≠ ps) → (∀ H', Ext H H' → Q .non H') ∧ ∀ H' e w, Ext H H' → H' e = none → E (clsL K) (some e) (upd H' e (.xd [("word", w)])))
def sp_made_loopX (K : PySem.W.Frag) : Sp := fun vs H Q E => ∃ (h : Str) (L : Addr) (ps : List V), vs = [.str h, .ref L] ∧ H L = some (.lst ps) ∧ (∀ v ∈ ps, KindV v) ∧ MadeL K h ps H Q E
def rd_made_loopX (K : PySem.W.Frag) (E : XK) : TS := tSeq (tIfS (tAnd (tTest (tOp rEq (tVar 0) (tC (.str "average")))) (tTest (tOp rEq (tCB (Evl.rLenS K) (tCons (tVar 1) (tNil))) (tC (.int 7))))) (tSeq (tAsg (tVar 1) (gLst K 7 (gCons (gName 2) (gCons (gName 3) (gCons (gName 4) (gCons (gName 5) (gCons (gName 6) (gCons (gName 7) (gCons (gName 8) (gNil)))))))))) (tRet (tMake (He.ga K "Average") (sp_Average_initX K) [] E (tCons (tVar 2) (tCons (tVar 3) (tCons (tVar 4) (tCons (tVar 5) (tCons (tVar 6) (tCons (tVar 7) (tCons (tVar 8) (tNil))))))))))) (tNext)) (tSeq (tIfS (tAnd (tTest (tOp rEq (tVar 0) (tC (.str "halves")))) (tTest (tOp rEq (tCB (Evl.rLenS K) (tCons (tVar 1) (tNil))) (tC (.int 7))))) (tSeq (tAsg (tVar 1) (gLst K 7 (gCons (gName 9) (gCons (gName 10) (gCons (gName 11) (gCons (gName 12) (gCons (gName 6) (gCons (gName 7) (gCons (gName 13) (gNil)))))))))) (tRet (tMake (He.ga K "Halves") (sp_Halves_initX K) [] E (tCons (tVar 9) (tCons (tVar 10) (tCons (tVar 11) (tCons (tVar 12) (tCons (tVar 6) (tCons (tVar 7) (tCons (tVar 13) (tNil))))))))))) (tNext)) (tSeq (tIfS (tAnd (tTest (tOp rEq (tVar 0) (tC (.str "steps")))) (tTest (tOp rEq (tCB (Evl.rLenS K) (tCons (tVar 1) (tNil))) (tC (.int 4))))) (tSeq (tAsg (tVar 1) (gLst K 4 (gCons (gName 10) (gCons (gName 14) (gCons (gName 15) (gCons (gName 13) (gNil))))))) (tRet (tMake (He.ga K "Steps") (sp_Steps_initX K) [] E (tCons (tVar 10) (tCons (tVar 14) (tCons (tVar 15) (tCons (tVar 13) (tNil)))))))) (tNext)) (tRet (tC .non))))
section
variable {K : PySem.W.Frag} {H : Hp} {Q : VK} {E : XK} {h : Str} {L : Addr} {ps : List V}
theorem made_none (m : MadeL K h ps H Q E) (n1 : ¬ (h = "average" ∧ ps.length = 7)) (n2 : ¬ (h = "halves" ∧ ps.length = 7)) (n3 : ¬ (h = "steps" ∧ ps.length = 4)) : Q .non H := by
  refine (m.2 fun o k e1 e2 => ?_).1 H fun _ _ z => z
  cases o with
  | av l => exact n1 ⟨e1.symm, by rw [← e2]; rfl⟩
  | ha l => exact n2 ⟨e1.symm, by rw [← e2]; rfl⟩
  | st l => exact n3 ⟨e1.symm, by rw [← e2]; rfl⟩
theorem kinds_wt (hk : ∀ v ∈ ps, KindV v) : ∀ v ∈ ps, ∃ n, WT K H v n := fun v hv => (hk v hv).wt
theorem made_t2 (hL : H L = some (.lst ps)) (hk : ∀ v ∈ ps, KindV v) (m : MadeL K h ps H Q E) (n1 : ¬ (h = "average" ∧ ps.length = 7)) (n2 : ¬ (h = "halves" ∧ ps.length = 7)) :
    (tSeq (tIfS (tAnd (tTest (tOp rEq (tVar 0) (tC (.str "steps")))) (tTest (tOp rEq (tCB (Evl.rLenS K) (tCons (tVar 1) (tNil))) (tC (.int 4))))) (tSeq (tAsg (tVar 1) (gLst K 4 (gCons (gName 10) (gCons (gName 14) (gCons (gName 15) (gCons (gName 13) (gNil))))))) (tRet (tMake (He.ga K "Steps") (sp_Steps_initX K) [] E (tCons (tVar 10) (tCons (tVar 14) (tCons (tVar 15) (tCons (tVar 13) (tNil)))))))) (tNext)) (tRet (tC .non))) { nx := fun _ H' => Q .non H', rt := Q } (start ["kind", "parts", "k", "a", "c", "d", "stop", "told", "mend", "up", "test", "low", "high", "more", "after", "last"] [.str h, .ref L]) H := by
  walk_at "rd"
  rw [decStr]
  by_cases c1 : h = "steps"
  · subst c1
    rw [decide_eq_true rfl]
    with_reducible refine e_T ?_
    walk_at "re"
    refine ha_len hL ?_
    walk_at "re"
    rw [decI]
    by_cases c2 : ps.length = 4
    · rw [decide_eq_true (show ((ps.length : Nat) : Int) = 4 by omega)]
      walk_at "rd"
      match ps, c2 with
      | [a, b, c, d], _ =>
      refine ha_gL hL rfl ?_
      walk_at "rd"
      intro x dx hx hdx hne
      refine make_th (w := .st) rfl (kinds_wt hk) ⟨fun hn x H' hx e ht => ?_, fun w hw H' a' e ha' => ?_⟩ x dx hx hdx hne
      · obtain ⟨o, ok, eo⟩ := sl_of_rows hn
        refine m.1 (.st o) ok rfl eo x H' hx e ?_
        obtain ⟨dx, hd⟩ := ht
        rw [← eo] at hd
        exact ⟨dx, hd⟩
      · refine (m.2 fun o k e1 e2 => ?_).2 H' a' _ e ha'
        cases o with
        | av l => exact n1 ⟨e1.symm, by rw [← e2]; rfl⟩
        | ha l => exact n2 ⟨e1.symm, by rw [← e2]; rfl⟩
        | st l =>
          have g := good_SlC (h := l) k
          have e2 : l.V = [a, b, c, d] := e2
          rw [e2] at g
          have hw : firstB (rowsSl [a, b, c, d]) = some w := hw
          rw [g] at hw
          cases hw
    · rw [decide_eq_false (show ¬ ((ps.length : Nat) : Int) = 4 by omega)]
      walk_at "rd"
      exact made_none m n1 n2 fun z => c2 z.2
  · rw [decide_eq_false c1]
    walk_at "rd"
    exact made_none m n1 n2 fun z => c1 z.1
theorem made_t1 (hL : H L = some (.lst ps)) (hk : ∀ v ∈ ps, KindV v) (m : MadeL K h ps H Q E) (n1 : ¬ (h = "average" ∧ ps.length = 7)) :
    (tSeq (tIfS (tAnd (tTest (tOp rEq (tVar 0) (tC (.str "halves")))) (tTest (tOp rEq (tCB (Evl.rLenS K) (tCons (tVar 1) (tNil))) (tC (.int 7))))) (tSeq (tAsg (tVar 1) (gLst K 7 (gCons (gName 9) (gCons (gName 10) (gCons (gName 11) (gCons (gName 12) (gCons (gName 6) (gCons (gName 7) (gCons (gName 13) (gNil)))))))))) (tRet (tMake (He.ga K "Halves") (sp_Halves_initX K) [] E (tCons (tVar 9) (tCons (tVar 10) (tCons (tVar 11) (tCons (tVar 12) (tCons (tVar 6) (tCons (tVar 7) (tCons (tVar 13) (tNil))))))))))) (tNext)) (tSeq (tIfS (tAnd (tTest (tOp rEq (tVar 0) (tC (.str "steps")))) (tTest (tOp rEq (tCB (Evl.rLenS K) (tCons (tVar 1) (tNil))) (tC (.int 4))))) (tSeq (tAsg (tVar 1) (gLst K 4 (gCons (gName 10) (gCons (gName 14) (gCons (gName 15) (gCons (gName 13) (gNil))))))) (tRet (tMake (He.ga K "Steps") (sp_Steps_initX K) [] E (tCons (tVar 10) (tCons (tVar 14) (tCons (tVar 15) (tCons (tVar 13) (tNil)))))))) (tNext)) (tRet (tC .non)))) { nx := fun _ H' => Q .non H', rt := Q } (start ["kind", "parts", "k", "a", "c", "d", "stop", "told", "mend", "up", "test", "low", "high", "more", "after", "last"] [.str h, .ref L]) H := by
  have tl := made_t2 hL hk m n1
  generalize (tSeq (tIfS (tAnd (tTest (tOp rEq (tVar 0) (tC (.str "steps")))) (tTest (tOp rEq (tCB (Evl.rLenS K) (tCons (tVar 1) (tNil))) (tC (.int 4))))) (tSeq (tAsg (tVar 1) (gLst K 4 (gCons (gName 10) (gCons (gName 14) (gCons (gName 15) (gCons (gName 13) (gNil))))))) (tRet (tMake (He.ga K "Steps") (sp_Steps_initX K) [] E (tCons (tVar 10) (tCons (tVar 14) (tCons (tVar 15) (tCons (tVar 13) (tNil)))))))) (tNext)) (tRet (tC .non))) = TL at *
  walk_at "rd"
  rw [decStr]
  by_cases c1 : h = "halves"
  · subst c1
    rw [decide_eq_true rfl]
    with_reducible refine e_T ?_
    walk_at "re"
    refine ha_len hL ?_
    walk_at "re"
    rw [decI]
    by_cases c2 : ps.length = 7
    · rw [decide_eq_true (show ((ps.length : Nat) : Int) = 7 by omega)]
      walk_at "rd"
      match ps, c2 with
      | [a, b, c, d, e, f, g], _ =>
      refine ha_gL hL rfl ?_
      walk_at "rd"
      intro x dx hx hdx hne
      refine make_th (w := .ha) rfl (kinds_wt hk) ⟨fun hn x H' hx ee ht => ?_, fun w hw H' a' e' ha' => ?_⟩ x dx hx hdx hne
      · obtain ⟨o, ok, eo⟩ := hv_of_rows hn
        refine m.1 (.ha o) ok rfl eo x H' hx ee ?_
        obtain ⟨dx, hd⟩ := ht
        rw [← eo] at hd
        exact ⟨dx, hd⟩
      · refine (m.2 fun o k e1 e2 => ?_).2 H' a' _ e' ha'
        cases o with
        | av l => exact n1 ⟨e1.symm, by rw [← e2]; rfl⟩
        | ha l =>
          have g' := good_HvC (h := l) k
          have e2 : l.V = [a, b, c, d, e, f, g] := e2
          rw [e2] at g'
          have hw : firstB (rowsHv [a, b, c, d, e, f, g]) = some w := hw
          rw [g'] at hw
          cases hw
        | st l => exact absurd (congrArg List.length e2) (by show ¬ (4 : Nat) = 7; decide)
    · rw [decide_eq_false (show ¬ ((ps.length : Nat) : Int) = 7 by omega)]
      walk_at "rd"
      exact tl fun z => c2 z.2
  · rw [decide_eq_false c1]
    walk_at "rd"
    exact tl fun z => c1 z.1
end
theorem pure_made_loopX (K : PySem.W.Frag) (vs : List V) (H : Hp) (Q : VK) (E : XK) (hh : sp_made_loopX K vs H Q E) : rd_made_loopX K E { nx := fun _ H' => Q .non H', rt := Q } (start ["kind", "parts", "k", "a", "c", "d", "stop", "told", "mend", "up", "test", "low", "high", "more", "after", "last"] vs) H := by
  obtain ⟨h, L, ps, rfl, hL, hk, m⟩ := hh
  have tl := made_t1 hL hk m
  unfold rd_made_loopX
  generalize (tSeq (tIfS (tAnd (tTest (tOp rEq (tVar 0) (tC (.str "halves")))) (tTest (tOp rEq (tCB (Evl.rLenS K) (tCons (tVar 1) (tNil))) (tC (.int 7))))) (tSeq (tAsg (tVar 1) (gLst K 7 (gCons (gName 9) (gCons (gName 10) (gCons (gName 11) (gCons (gName 12) (gCons (gName 6) (gCons (gName 7) (gCons (gName 13) (gNil)))))))))) (tRet (tMake (He.ga K "Halves") (sp_Halves_initX K) [] E (tCons (tVar 9) (tCons (tVar 10) (tCons (tVar 11) (tCons (tVar 12) (tCons (tVar 6) (tCons (tVar 7) (tCons (tVar 13) (tNil))))))))))) (tNext)) (tSeq (tIfS (tAnd (tTest (tOp rEq (tVar 0) (tC (.str "steps")))) (tTest (tOp rEq (tCB (Evl.rLenS K) (tCons (tVar 1) (tNil))) (tC (.int 4))))) (tSeq (tAsg (tVar 1) (gLst K 4 (gCons (gName 10) (gCons (gName 14) (gCons (gName 15) (gCons (gName 13) (gNil))))))) (tRet (tMake (He.ga K "Steps") (sp_Steps_initX K) [] E (tCons (tVar 10) (tCons (tVar 14) (tCons (tVar 15) (tCons (tVar 13) (tNil)))))))) (tNext)) (tRet (tC .non)))) = TL at *
  walk_at "rd"
  rw [decStr]
  by_cases c1 : h = "average"
  · subst c1
    rw [decide_eq_true rfl]
    with_reducible refine e_T ?_
    walk_at "re"
    refine ha_len hL ?_
    walk_at "re"
    rw [decI]
    by_cases c2 : ps.length = 7
    · rw [decide_eq_true (show ((ps.length : Nat) : Int) = 7 by omega)]
      walk_at "rd"
      match ps, c2 with
      | [a, b, c, d, e, f, g], _ =>
      refine ha_gL hL rfl ?_
      walk_at "rd"
      intro x dx hx hdx hne
      refine make_av (kinds_wt hk) (hk c (by simp)).iv (fun l o el x H' hx ee hl => m.1 (.av l) o rfl el.symm x H' hx ee hl) (fun hn H' e' ee he => ?_) x dx hx hdx hne
      refine (m.2 fun o k e1 e2 => ?_).2 H' e' _ ee he
      cases o with
      | av l =>
        have e2 : l.V = [a, b, c, d, e, f, g] := e2
        have r := Lp.Ok.right (l := l) k
        obtain ⟨k', a', c', d', s', t', m'⟩ := l
        have e2 : [V.int k', V.int a', V.int c', V.int d', V.str s', V.str t', V.str m'] = [a, b, c, d, e, f, g] := e2
        injection e2 with z1 e2; injection e2 with z2 e2; injection e2 with z3 e2; injection e2 with z4 e2; injection e2 with z5 e2; injection e2 with z6 e2; injection e2 with z7 e2
        subst z1 z2 z3 z4 z5 z6 z7
        exact hn r
      | ha l => exact absurd e1 (by show ¬ ("halves" : Str) = "average"; decide)
      | st l => exact absurd e1 (by show ¬ ("steps" : Str) = "average"; decide)
    · rw [decide_eq_false (show ¬ ((ps.length : Nat) : Int) = 7 by omega)]
      walk_at "rd"
      exact tl fun z => c2 z.2
  · rw [decide_eq_false c1]
    walk_at "rd"
    exact tl fun z => c1 z.1
end FWL
namespace FWL
open PySem PySem.Spec PyProof.Rows L2 FW
/-! ### k53: read_loop -/
def sp_read_loopX (K : PySem.W.Frag) : Sp := fun vs H Q E => ∃ z : Str, vs = [.str z] ∧ z.length ≤ 100000 ∧
  (∀ o : Lo, o.Ok → z = o.line → ∀ x H', H x = none → Ext H H' → IsLo K H' x o → Q (.ref x) H') ∧ ((∀ o : Lo, o.Ok → z ≠ o.line) → ∀ H', Ext H H' → E (.ref (He.ga K "BadText")) none H')
def rd_read_loopX (K : PySem.W.Frag) (E : XK) : TS := tSeq (tAsg (tM1 FW.rSplit (tVar 0) (tC (.str " "))) (gName 1)) (tSeq (FWC.tTryFrom K (fun W => tAsg (tCallS (sp_made_loopX K) (WE W) (tCons (tOp (rIxL K) (tVar 1) (tC (.int 0))) (tCons (tLc (iList K (tSl (rSlL K) (tVar 1) (tPart (tC (.int 1))) (tNoPart))) (gName 3) (tYes) (tCall (sp_part_of K) [] E0 (tCons (tVar 3) (tNil))) [3]) (tNil)))) (gName 2)) (.ref (He.ga K "BadLoop")) 4 (He.ga K "BadText") E) (tSeq (tIfS (tOr (tTest (tOp FW.rIsN (tVar 2) (tC .non))) (tTest (tOp rNe (FW.tEither (tMeth (He.ga K "Average") "text" (sp_Average_text K) [] E0 (tVar 2) (tNil)) (FW.tEither (tMeth (He.ga K "Halves") "text" (sp_Halves_text K) [] E0 (tVar 2) (tNil)) (tMeth (He.ga K "Steps") "text" (sp_Steps_text K) [] E0 (tVar 2) (tNil)))) (tVar 0)))) (FWN.tRaise0 (He.ga K "BadText") (fun cls d _ H => E cls d H)) (tNext)) (tRet (tVar 2))))
theorem kind_part (w : Str) : KindV (partV w) := by
  rcases partV_kind w with h | ⟨n, h, hn⟩
  · exact .inl ⟨w, h⟩
  · exact .inr ⟨n, h, hn⟩
theorem noFig_short {w : Str} (h : noFig w = false) : w.length ≤ 640 := by
  obtain ⟨_, _, _, h⟩ := noFig_not h
  omega
theorem paired_partV : ∀ {ws : List Str} {ys : List V}, Paired (fun x y => ∃ w, x = V.str w ∧ y = partV w) (ws.map V.str) ys → ys = ws.map partV
  | [], ys, h => by cases h; rfl
  | w :: ws, ys, h => by
    cases h with
    | cons a r =>
      obtain ⟨w', e, ey⟩ := a
      cases e
      rw [ey, paired_partV r]; rfl
section
variable {K : PySem.W.Frag} {σ : L2.St} {H : Hp} {R : VK} {x : Addr}
/-- o.text() of a loop of some kind -/
theorem e_text {te : TE} {o : Lo} (ok : o.Ok) (hx : IsLo K H x o) (he : ∀ S : VK, S (.ref x) H → te σ H S) (q : ∀ H', Ext H H' → R (.str o.line) H') :
    FW.tEither (tMeth (He.ga K "Average") "text" (sp_Average_text K) [] E0 te (tNil)) (FW.tEither (tMeth (He.ga K "Halves") "text" (sp_Halves_text K) [] E0 te (tNil)) (tMeth (He.ga K "Steps") "text" (sp_Steps_text K) [] E0 te (tNil))) σ H R := by
  have lo := Lo.lineOk ok
  cases o with
  | av l =>
    obtain ⟨dx, hd⟩ := id hx
    exact .inl (FW.e_mt (he _ ⟨x, dx, _, rfl, hd, rfl, FW.e_nil ⟨x, l, rfl, hx, lo, q⟩⟩))
  | ha l =>
    obtain ⟨dx, hd⟩ := id hx
    exact .inr (.inl (FW.e_mt (he _ ⟨x, dx, _, rfl, hd, rfl, FW.e_nil ⟨x, l, rfl, hx, lo, q⟩⟩)))
  | st l =>
    obtain ⟨dx, hd⟩ := id hx
    exact .inr (.inr (FW.e_mt (he _ ⟨x, dx, _, rfl, hd, rfl, FW.e_nil ⟨x, l, rfl, hx, lo, q⟩⟩)))
end
theorem e_callS {sp : Sp} {Ee : L2.St → XK} {ta : TA} {σ : L2.St} {H : Hp} {Q : VK} (k : ta σ H fun vs H1 => sp vs H1 Q (Ee σ)) : tCallS sp Ee ta σ H Q := k
theorem pure_read_loopX (K : PySem.W.Frag) (hbl : PySem.W.exmOne K (.ref (He.ga K "BadLoop")) (.ref (He.ga K "BadLoop")) = some true) (vs : List V) (H : Hp) (Q : VK) (E : XK) (h : sp_read_loopX K vs H Q E) : rd_read_loopX K E { nx := fun _ H' => Q .non H', rt := Q } (start ["text", "words", "loop", "word", "e"] vs) H := by
  obtain ⟨z, rfl, hz, q, qe⟩ := h
  unfold rd_read_loopX
  obtain ⟨w0, ws, hsp⟩ : ∃ w0 ws, Txt.split z " " = w0 :: ws := by
    cases e : Txt.split z " " with
    | nil => exact absurd e (split_ne z)
    | cons a l => exact ⟨a, l, rfl⟩
  have hsz : szW (w0 :: ws) = z.length + 1 := by rw [← hsp]; exact szW_split z
  have hln : ws.length + 1 ≤ 100001 := by
    have := szW_len (w0 :: ws)
    rw [List.length_cons] at this
    omega
  walk_at "rd"
  unfold tM1
  refine e_var ⟨⟨_, rfl⟩, e_c ⟨z, " ", rfl, rfl, by decide +kernel, Nat.le_trans (Nat.add_le_add_right hz 2) (by decide), fun p hp => ?_⟩⟩ rfl
  rw [hsp]
  have e1 := Ext.new (o := .lst ((w0 :: ws).map V.str)) hp
  have hp1 : (upd H p (.lst ((w0 :: ws).map V.str))) p = some (.lst (V.str w0 :: ws.map V.str)) := upd_same
  generalize upd H p (.lst ((w0 :: ws).map V.str)) = H1 at *
  walk_at "rd"
  unfold FWC.tTryFrom
  walk_at "rd"
  refine e_callS ?_
  walk_at "re"
  have a0 : atI (V.str w0 :: ws.map V.str) 0 = some (.str w0) := by
    unfold atI ixN
    rw [if_pos (by decide), if_pos (by rw [List.length_cons]; omega)]
    rfl
  refine ha_ixL hp1 a0 ?_
  walk_at "re"
  refine e_sl (e_var (e_part (e_c ⟨_, rfl, e_noP (e_slL (fun S hS => ?_) (SqL.of hp1))⟩)) rfl)
  rw [show (1 : Int) = ((1 : Nat) : Int) from rfl, cut_from _ 1 (by rw [List.length_cons]; omega)]
  have e2 := Ext.new (o := .lst ((V.str w0 :: ws.map V.str).drop 1)) hS
  have hS1 : (upd H1 S (.lst ((V.str w0 :: ws.map V.str).drop 1))) S = some (.lst (ws.map V.str)) := upd_same
  generalize upd H1 S (.lst ((V.str w0 :: ws.map V.str).drop 1)) = H2 at *
  refine ⟨S, rfl, ⟨_, SqL.of hS1⟩, ?_⟩
  refine lcLX (p := fun _ => true) (P := fun x y => ∃ w, x = V.str w ∧ y = partV w) (SqL.of hS1) (by rw [List.length_map]; omega) (fun _ => rfl) (fun x _ H' R _ k => k H' (fun _ _ z => z)) (fun x hx _ H' R _ k => ?_) fun D G ys hD e3 hG hpr => ?_
  · obtain ⟨w, hw, rfl⟩ := List.mem_map.mp hx
    have hwl : w.length ≤ 100001 := by
      have := szW_mem (List.mem_cons_of_mem w0 hw)
      omega
    walk_at "re"
    exact ⟨w, partV w, rfl, by omega, fun z => noFig_short z, partV_ok w, fun H'' e'' => k _ H'' e'' ⟨w, rfl, rfl⟩⟩
  · rw [List.filter_eq_self.mpr (fun _ _ => rfl)] at hpr
    rw [paired_partV hpr] at hG
    have e13 := e1.tr (e2.tr e3)
    walk_at "re"
    refine ⟨w0, D, ws.map partV, rfl, hG, fun v hv => ?_, fun o ok eh eV x H4 hx e4 hl4 => ?_, fun no => ?_⟩
    · obtain ⟨w, _, rfl⟩ := List.mem_map.mp hv
      exact kind_part w
    · have e14 := e13.tr e4
      have hne : H x = none := e13.non hx
      walk_at "rd"
      rw [decide_eq_false (show ¬ V.ref x = V.non from fun w => nomatch w)]
      walk_at "rd"
      refine e_text ok hl4 (fun S hS => e_var hS rfl) fun H5 e5 => ?_
      dsimp only
      walk_at "re"
      by_cases c : o.line = z
      · rw [c, decide_eq_true rfl]
        walk_at "rd"
        exact q o ok c.symm x H5 hne (e14.tr e5) (hl4.ext e5)
      · rw [decStr, decide_eq_false c, if_pos (show (!false) = true from rfl)]
        refine qe (fun o' ok' e' => c ?_) H5 (e14.tr e5)
        obtain ⟨h1, h2⟩ := Lo.of_line ok' e' hsp
        have : o.line = o'.line := by
          unfold Lo.line
          rw [eh, eV, h1, h2]
        rw [this, e']
    · have no' : ∀ o : Lo, o.Ok → z ≠ o.line := fun o ok e => by
        obtain ⟨h1, h2⟩ := Lo.of_line ok e hsp
        exact no o ok h1 h2
      refine ⟨fun H4 e4 => ?_, fun H4 a w e4 ha => ?_⟩
      · have e14 := e13.tr e4
        walk_at "rd"
        rw [decide_eq_true rfl]
        walk_at "rd"
        exact qe no' H4 e14
      · exact ⟨true, hbl, fun _ => ⟨rfl, fun b hb => qe no' _ (e13.tr (e4.tr (Ext.new ha)))⟩, fun z => by cases z⟩
end FWL
namespace FWL
open PySem PySem.Spec PyProof.Rows L2 FW
/-! ### k53: the law's loops and lines -/
def sp_l_line (K : PySem.W.Frag) : Sp := fun vs H Q _ => ∃ (w : Str) (L : Addr) (ps : List V), vs = [.str w, .ref L] ∧ H L = some (.lst ps) ∧ LineOk w ps ∧ ∀ H', Ext H H' → Q (.str (lineV w ps)) H'
def rd_l_line (K : PySem.W.Frag) : TS := tRet (tM1 (FW.rJoin K) (tC (.str " ")) (tOp rCat (tLst (tCons (tVar 0) (tNil))) (tLc (iList K (tVar 1)) (gName 2) (tYes) (FW.tEither (tCB FW.rStrI (tCons (tVar 2) (tNil))) (tCB FW.rStrS (tCons (tVar 2) (tNil)))) [2])))
/-- [str(part) for part in parts], parts a list -/
theorem lc_wordsL {K : PySem.W.Frag} {σ : L2.St} {H : Hp} {Q : VK} {t : Addr} {vs : List V} {n : Nat} (h : SqL K H t vs) (ok : ∀ v ∈ vs, PartOk v) (hl : vs.length ≤ 1000) (hw : ∀ v : V, wipe ((wipe σ [n]).set n (some v)) [n] = wipe σ [n]) (hn : n < σ.length)
    (q : ∀ D G, H D = none → Ext H G → G D = some (.lst (vs.map fun v => .str (wdV v))) → Q (.ref D) G) :
    LcK (gName n) tYes (FW.tEither (tCB FW.rStrI (tCons (tVar n) (tNil))) (tCB FW.rStrS (tCons (tVar n) (tNil)))) [n] σ Q (Itl K t) H := by
  refine lcLX (p := fun _ => true) (P := fun v y => y = .str (wdV v)) h (by omega) hw (fun x _ H' R _ k => k H' (fun _ _ z => z)) (fun x hx _ H' R _ k => ?_) fun D G ys hD e hG hp => ?_
  · have hv : ((wipe σ [n]).set n (some x))[n]? = some (some x) := by
      rw [List.getElem?_set_self]
      simp [wipe, hn]
    rcases ok x hx with ⟨i, rfl, hi⟩ | ⟨s, rfl⟩
    · exact .inl (e_cb (e_cons (e_var (e_nil ⟨i, rfl, hi, k _ _ (fun _ _ z => z) rfl⟩) hv)))
    · exact .inr (e_cb (e_cons (e_var (e_nil ⟨s, rfl, k _ _ (fun _ _ z => z) rfl⟩) hv)))
  · refine q D G hD e ?_
    rw [hG, List.filter_eq_self.mpr (fun _ _ => rfl)] at *
    have : ∀ {xs ys : List V}, Paired (fun v y => y = V.str (wdV v)) xs ys → ys = xs.map fun v => V.str (wdV v) := fun h => by
      induction h with
      | nil => rfl
      | cons a _ ih => rw [a, ih]; rfl
    rw [this hp]
theorem pure_l_line (K : PySem.W.Frag) (vs : List V) (H : Hp) (Q : VK) (E : XK) (h : sp_l_line K vs H Q E) : rd_l_line K { nx := fun _ H' => Q .non H', rt := Q } (start ["_law_head", "_law_parts", "_law_part"] vs) H := by
  obtain ⟨w, L, ps, rfl, hL, ⟨ok, hl, hs⟩, q⟩ := h
  unfold rd_l_line
  with_reducible refine s_ret ?_
  unfold tM1
  refine e_c ⟨⟨_, rfl⟩, e_op (e_lst (e_cons (e_var (e_nil ⟨by show 1 ≤ sizeLine; decide, fun a ha => ?_⟩) rfl)))⟩
  have e1 := Ext.new (o := .lst [.str w]) ha
  have ha1 : (upd H a (.lst [.str w])) a = some (.lst [.str w]) := upd_same
  generalize upd H a (.lst [.str w]) = H1 at *
  refine e_lc (e_var ⟨L, rfl, ⟨_, SqL.of (e1 _ _ hL)⟩, lc_wordsL (SqL.of (e1 _ _ hL)) ok hl (fun _ => rfl) (show 2 < 3 by decide) fun D G hD e3 hG => ?_⟩ rfl)
  refine ⟨a, D, _, _, rfl, rfl, e3 _ _ ha1, hG, ?_, fun r hr => ?_⟩
  · rw [List.length_map]
    show 1 + ps.length ≤ 2 ^ 24
    omega
  · have e4 := Ext.new (o := .lst ([V.str w] ++ ps.map fun v => V.str (wdV v))) hr
    refine ⟨" ", r, w :: ps.map wdV, rfl, rfl, .inl (SqL.of ?_), ?_, q _ (e1.tr (e3.tr e4))⟩
    · rw [upd_same, List.map_cons, List.map_map]; rfl
    · have : (" " : Str).length = 1 := by decide
      rw [this]; exact hs
def sp_l_loopT (K : PySem.W.Frag) : Sp := fun vs H Q _ => ∃ (t : Addr) (l : Lp), vs = [.ref t] ∧ H t = some (.lst l.V) ∧ l.Ok ∧ ∀ x H', H x = none → Ext H H' → IsLp K H' x l → Q (.ref x) H'
def rd_l_loopT (K : PySem.W.Frag) : TS := tRet (tMake (He.ga K "Average") (sp_Average_initX K) [] E0 (tCons (tOp (rIxL K) (tVar 0) (tC (.int 0))) (tCons (tOp (rIxL K) (tVar 0) (tC (.int 1))) (tCons (tOp (rIxL K) (tVar 0) (tC (.int 2))) (tCons (tOp (rIxL K) (tVar 0) (tC (.int 3))) (tCons (tOp (rIxL K) (tVar 0) (tC (.int 4))) (tCons (tOp (rIxL K) (tVar 0) (tC (.int 5))) (tCons (tOp (rIxL K) (tVar 0) (tC (.int 6))) (tNil)))))))))
theorem goodV_wt {K : PySem.W.Frag} {H : Hp} {o : Lo} (h : o.Ok) : ∀ v ∈ o.V, ∃ n, WT K H v n := fun v hv => by
  rcases (goodV_at (Lo.good h v hv)).2.2.2 with ⟨i, rfl, _⟩ | ⟨s, rfl⟩
  · exact ⟨_, WT.i i⟩
  · exact ⟨_, WT.s s⟩
theorem pure_l_loopT (K : PySem.W.Frag) (vs : List V) (H : Hp) (Q : VK) (E : XK) (h : sp_l_loopT K vs H Q E) : rd_l_loopT K { nx := fun _ H' => Q .non H', rt := Q } (start ["_law_parts"] vs) H := by
  obtain ⟨t, l, rfl, ht', ok, q⟩ := h
  have ht := SqL.of (K := K) ht'
  have hw := goodV_wt (K := K) (H := H) (o := .av l) ok
  have hr := Lp.Ok.right ok
  have hc : (iv (.int l.c)).natAbs < 2 ^ 900 := by
    have c1 := ok.c1
    have c3 := ok.c3
    show l.c.natAbs < 2 ^ 900
    exact Nat.lt_of_lt_of_le (show l.c.natAbs < 1000 by omega) (by decide +kernel)
  obtain ⟨k, a, c, d, s, t', m⟩ := l
  unfold rd_l_loopT
  walk_at "rd"
  iterate 7 (refine e_ixL ?_ ht rfl; walk_at "rd")
  intro x dx hx hdx hne
  exact make_av hw hc (fun l' o' el' x H' hx e hl => by
    obtain ⟨k', a', c', d', s', t'', m'⟩ := l'
    have e2 : [V.int k, V.int a, V.int c, V.int d, V.str s, V.str t', V.str m] = [V.int k', V.int a', V.int c', V.int d', V.str s', V.str t'', V.str m'] := el'
    injection e2 with z1 e2; injection e2 with z2 e2; injection e2 with z3 e2; injection e2 with z4 e2; injection e2 with z5 e2; injection e2 with z6 e2; injection e2 with z7 e2
    cases z1; cases z2; cases z3; cases z4; cases z5; cases z6; cases z7
    exact q x H' hx e hl) (fun hn => absurd hr hn) x dx hx hdx hne
def sp_l_halvesT (K : PySem.W.Frag) : Sp := fun vs H Q _ => ∃ (t : Addr) (l : Hv), vs = [.ref t] ∧ H t = some (.lst l.V) ∧ l.Ok ∧ ∀ x H', H x = none → Ext H H' → IsHv K H' x l → Q (.ref x) H'
def rd_l_halvesT (K : PySem.W.Frag) : TS := tRet (tMake (He.ga K "Halves") (sp_Halves_initX K) [] E0 (tCons (tOp (rIxL K) (tVar 0) (tC (.int 0))) (tCons (tOp (rIxL K) (tVar 0) (tC (.int 1))) (tCons (tOp (rIxL K) (tVar 0) (tC (.int 2))) (tCons (tOp (rIxL K) (tVar 0) (tC (.int 3))) (tCons (tOp (rIxL K) (tVar 0) (tC (.int 4))) (tCons (tOp (rIxL K) (tVar 0) (tC (.int 5))) (tCons (tOp (rIxL K) (tVar 0) (tC (.int 6))) (tNil)))))))))
theorem pure_l_halvesT (K : PySem.W.Frag) (vs : List V) (H : Hp) (Q : VK) (E : XK) (h : sp_l_halvesT K vs H Q E) : rd_l_halvesT K { nx := fun _ H' => Q .non H', rt := Q } (start ["_law_parts"] vs) H := by
  obtain ⟨t, l, rfl, ht', ok, q⟩ := h
  have ht := SqL.of (K := K) ht'
  have hw := goodV_wt (K := K) (H := H) (o := .ha l) ok
  have g := good_HvC ok
  unfold rd_l_halvesT
  walk_at "rd"
  iterate 7 (refine e_ixL ?_ ht rfl; walk_at "rd")
  exact make_th (w := .ha) (ps := l.V) rfl hw ⟨fun hn x H' hx e ht => q x H' hx e ht, fun w hn => by
    have hn : firstB (rowsHv l.V) = some w := hn
    rw [g] at hn; cases hn⟩
def sp_l_stepsT (K : PySem.W.Frag) : Sp := fun vs H Q _ => ∃ (t : Addr) (l : Sl), vs = [.ref t] ∧ H t = some (.lst l.V) ∧ l.Ok ∧ ∀ x H', H x = none → Ext H H' → IsSl K H' x l → Q (.ref x) H'
def rd_l_stepsT (K : PySem.W.Frag) : TS := tRet (tMake (He.ga K "Steps") (sp_Steps_initX K) [] E0 (tCons (tOp (rIxL K) (tVar 0) (tC (.int 0))) (tCons (tOp (rIxL K) (tVar 0) (tC (.int 1))) (tCons (tOp (rIxL K) (tVar 0) (tC (.int 2))) (tCons (tOp (rIxL K) (tVar 0) (tC (.int 3))) (tNil))))))
theorem pure_l_stepsT (K : PySem.W.Frag) (vs : List V) (H : Hp) (Q : VK) (E : XK) (h : sp_l_stepsT K vs H Q E) : rd_l_stepsT K { nx := fun _ H' => Q .non H', rt := Q } (start ["_law_parts"] vs) H := by
  obtain ⟨t, l, rfl, ht', ok, q⟩ := h
  have ht := SqL.of (K := K) ht'
  have hw := goodV_wt (K := K) (H := H) (o := .st l) ok
  have g := good_SlC ok
  unfold rd_l_stepsT
  walk_at "rd"
  iterate 4 (refine e_ixL ?_ ht rfl; walk_at "rd")
  exact make_th (w := .st) (ps := l.V) rfl hw ⟨fun hn x H' hx e ht => q x H' hx e ht, fun w hn => by
    have hn : firstB (rowsSl l.V) = some w := hn
    rw [g] at hn; cases hn⟩
def sp_l_madeT (K : PySem.W.Frag) : Sp := fun vs H Q _ => ∃ (t : Addr) (o : Lo), vs = [.ref t, .int o.ix] ∧ H t = some (.lst o.V) ∧ o.Ok ∧ ∀ x H', H x = none → Ext H H' → IsLo K H' x o → Q (.ref x) H'
def rd_l_madeT (K : PySem.W.Frag) : TS := tSeq (tIfS (tTest (tOp rEq (tVar 1) (tC (.int 0)))) (tRet (tCall (sp_l_loopT K) [] E0 (tCons (tVar 0) (tNil)))) (tNext)) (tRet (tIf (tTest (tOp rEq (tVar 1) (tC (.int 1)))) (tCall (sp_l_halvesT K) [] E0 (tCons (tVar 0) (tNil))) (tCall (sp_l_stepsT K) [] E0 (tCons (tVar 0) (tNil)))))
theorem pure_l_madeT (K : PySem.W.Frag) (vs : List V) (H : Hp) (Q : VK) (E : XK) (h : sp_l_madeT K vs H Q E) : rd_l_madeT K { nx := fun _ H' => Q .non H', rt := Q } (start ["_law_parts", "_law_kind"] vs) H := by
  obtain ⟨t, o, rfl, ht, ok, q⟩ := h
  unfold rd_l_madeT
  cases o with
  | av l =>
    rw [show (Lo.av l).ix = 0 from rfl]
    walk_at "rx"
    rw [decide_eq_true (show (0 : Int) = 0 from rfl)]
    walk_at "rd"
    exact ⟨t, l, rfl, ht, ok, q⟩
  | ha l =>
    rw [show (Lo.ha l).ix = 1 from rfl]
    walk_at "rx"
    rw [decide_eq_false (show ¬ (1 : Int) = 0 by decide)]
    walk_at "rx"
    rw [decide_eq_true (show (1 : Int) = 1 from rfl)]
    walk_at "rd"
    exact ⟨t, l, rfl, ht, ok, q⟩
  | st l =>
    rw [show (Lo.st l).ix = 2 from rfl]
    walk_at "rx"
    rw [decide_eq_false (show ¬ (2 : Int) = 0 by decide)]
    walk_at "rx"
    rw [decide_eq_false (show ¬ (2 : Int) = 1 by decide)]
    walk_at "rd"
    exact ⟨t, l, rfl, ht, ok, q⟩
def sp_l_drawn_steps (K : PySem.W.Frag) : Sp := fun vs H Q _ => ∃ (L : Addr) (xs : List Int) (N : Nat) (a : Int), vs = [.ref L, .int a] ∧ H L = some (.lst (xs.map V.int)) ∧ Row xs N ∧ 0 ≤ a ∧ a + 4 ≤ N ∧
  ∀ (t : Addr) (h : Sl) (H' : Hp), H t = none → h.Ok → Ext H H' → H' t = some (.lst h.V) → Q (.ref t) H'
def rd_l_drawn_steps (K : PySem.W.Frag) : TS := tSeq (tAsg (tOp (rIxL K) (tLst (tCons (tC (.str "upto")) (tCons (tC (.str "upto")) (tCons (tC (.str "below")) (tNil))))) (tOp FW.rMod (tCB FW.rInt1 (tCons (tOp (rIxL K) (tVar 0) (tVar 1)) (tNil))) (tC (.int 3)))) (gName 2)) (tSeq (tAsg (tLst (tCons (tVar 2) (tCons (tOp (rIxL K) (tLst (tCons (tC (.str "half")) (tCons (tC (.str "same")) (tCons (tC (.str "double")) (tNil))))) (tOp FW.rMod (tCB FW.rInt1 (tCons (tOp (rIxL K) (tVar 0) (tOp FW.rAdd (tVar 1) (tC (.int 1)))) (tNil))) (tC (.int 3)))) (tCons (tOp FW.rAdd (tC (.int 1)) (tCB FW.rInt1 (tCons (tOp rEq (tOp FW.rMod (tCB FW.rInt1 (tCons (tOp (rIxL K) (tVar 0) (tOp FW.rAdd (tVar 1) (tC (.int 2)))) (tNil))) (tC (.int 3))) (tC (.int 0))) (tNil)))) (tNil))))) (gName 3)) (tRet (tOp rCat (tVar 3) (tLst (tCons (tOp (rIxL K) (tLst (tCons (tC (.int 0)) (tCons (tC (.int 0)) (tCons (tC (.int 1)) (tCons (tUn FW.rNeg (tC (.int 1))) (tNil)))))) (tOp FW.rMod (tCB FW.rInt1 (tCons (tOp (rIxL K) (tVar 0) (tOp FW.rAdd (tVar 1) (tC (.int 3)))) (tNil))) (tC (.int 4)))) (tNil))))))
theorem pure_l_drawn_steps (K : PySem.W.Frag) (vs : List V) (H : Hp) (Q : VK) (E : XK) (h : sp_l_drawn_steps K vs H Q E) : rd_l_drawn_steps K { nx := fun _ H' => Q .non H', rt := Q } (start ["_law_row_here", "_law_at", "_law_test", "_law_parts"] vs) H := by
  obtain ⟨L, xs, N, a, rfl, hL, hr, a0, aN, q⟩ := h
  unfold rd_l_drawn_steps
  walk_at "rx"
  refine q nt ⟨_, _, _, _⟩ nH (Ext.non (by walk_at "rE") nz) ⟨?_, ?_, ?_, ?_⟩ (by walk_at "rE") nh
  · dsimp only; grind
  · dsimp only; grind
  · dsimp only; split <;> simp
  · dsimp only; omega
end FWL
namespace FWL
open PySem PySem.Spec PyProof.Rows L2 FW
/-! ### k53: the law's own reading of a text, plain -/
def figL : List (Str × Int) := (List.range 18).map fun (i : Nat) => (wdV (.int ((i : Int) - 5)), (i : Int) - 5)
def figOf (w : Str) : Option Int := (figL.find? fun p => decide (p.1 = w)).map (·.2)
def figK : List (L2.Key × V) := figL.map fun p => (.inr p.1, .int p.2)
theorem valV_fig (w : Str) : ∀ l : List (Str × Int), valV (l.map fun p => ((.inr p.1 : L2.Key), V.int p.2)) (.inr w) = ((l.find? fun p => decide (p.1 = w)).map (·.2)).map V.int
  | [] => rfl
  | p :: l => by
    rw [List.map_cons, List.find?_cons]
    by_cases h : p.1 = w
    · rw [valV_pos (by rw [h]), decide_eq_true h]; rfl
    · rw [valV_neg (fun z => h (Sum.inr.inj z)), decide_eq_false h]; exact valV_fig w l
theorem figK_val (w : Str) : valV figK (.inr w) = (figOf w).map V.int := valV_fig w figL
theorem figK_merge : mergeK [] figK = figK := by kernel_rfl
theorem fig_some {w : Str} {n : Int} (h : figOf w = some n) : w = wdV (.int n) ∧ -5 ≤ n ∧ n ≤ 12 := by
  unfold figOf at h
  obtain ⟨p, hp, e⟩ := Option.map_eq_some_iff.mp h
  have h1 := List.find?_some hp
  have h2 := List.mem_of_find?_eq_some hp
  obtain ⟨i, hi, rfl⟩ := List.mem_map.mp h2
  have := List.mem_range.mp hi
  dsimp only at e h1
  subst e
  exact ⟨(of_decide_eq_true h1).symm, by omega, by omega⟩
theorem fig_all : (figL.all fun p => decide (figOf p.1 = some p.2)) = true := by kernel_rfl
theorem fig_at {n : Int} (h1 : -5 ≤ n) (h2 : n ≤ 12) : figOf (wdV (.int n)) = some n := by
  have m : (wdV (.int n), n) ∈ figL := List.mem_map.mpr ⟨(n + 5).toNat, List.mem_range.mpr (by omega), by
    have : (((n + 5).toNat : Nat) : Int) - 5 = n := by omega
    rw [this]⟩
  exact of_decide_eq_true (List.all_eq_true.mp fig_all _ m)
/-- the numbers of an average loop's text -/
def numB (k a c d : Int) : Bool := (!(decide (a < 1) || (decide (c < 1) || (decide (a < c * (k - 1)) || decide (a + c > 6))))) && !(decide (d < 0 - a) || decide (d > a + c))
def numO : Option Int → Option Int → Option Int → Option Int → Bool
  | some k, some a, some c, some d => numB k a c d
  | _, _, _, _ => false
def isAv : List Str → Bool
  | [k, a, c, d, s, t, m] => (decide (k ∈ (["2", "3", "4"] : List Str)) && numO (figOf k) (figOf a) (figOf c) (figOf d)) &&
      (decide (V.str s ∈ stopsV) && (decide (V.str t ∈ toldsV) && ((!(decide (V.str s ∈ looksV) && decide (t ≠ "old"))) && decide (V.str m ∈ mendsV))))
  | _ => false
theorem av_is {l : Lp} (o : l.Ok) : isAv (l.V.map wdV) = true := by
  obtain ⟨k, a, c, d, s, t, m⟩ := l
  have hk := o.hk; have a1 := o.a1; have a5 := o.a5; have c1 := o.c1; have ca := o.ca; have ac := o.ac; have d0 := o.d0; have d1 := o.d1; have hs := o.hs; have ht := o.ht; have hm := o.hm; have hl := o.hl; have c3 := o.c3
  dsimp only at *
  show ((decide (wdV (.int k) ∈ (["2", "3", "4"] : List Str)) && numO (figOf (wdV (.int k))) (figOf (wdV (.int a))) (figOf (wdV (.int c))) (figOf (wdV (.int d)))) &&
      (decide (V.str s ∈ stopsV) && (decide (V.str t ∈ toldsV) && ((!(decide (V.str s ∈ looksV) && decide (t ≠ "old"))) && decide (V.str m ∈ mendsV))))) = true
  rw [fig_at (n := k) (by omega) (by omega), fig_at (n := a) (by omega) (by omega), fig_at (n := c) (by omega) (by omega), fig_at (n := d) (by omega) (by omega)]
  have e1 : decide (wdV (.int k) ∈ (["2", "3", "4"] : List Str)) = true := by rcases hk with rfl | rfl | rfl <;> decide +kernel
  have e2 : numB k a c d = true := by
    unfold numB
    rw [decide_eq_false (by omega), decide_eq_false (by omega), decide_eq_false (by omega), decide_eq_false (by omega), decide_eq_false (by omega), decide_eq_false (by omega)]
    rfl
  have e3 : (decide (V.str s ∈ looksV) && decide (t ≠ "old")) = false := by
    by_cases h : V.str s ∈ looksV
    · rw [hl h]; simp
    · rw [decide_eq_false h]; rfl
  show (_ && numB k a c d && _) = true
  rw [e1, e2, e3, decide_eq_true hs, decide_eq_true ht, decide_eq_true hm]
  rfl
theorem av_of {ws : List Str} (h : isAv ws = true) : ∃ l : Lp, l.Ok ∧ l.V.map wdV = ws := by
  unfold isAv at h
  split at h
  · rename_i k a c d s t m
    simp only [Bool.and_eq_true, decide_eq_true_eq, Bool.not_eq_true'] at h
    obtain ⟨⟨hk, hn⟩, hs, ht, hl, hm⟩ := h
    cases ek : figOf k with
    | none => rw [ek] at hn; cases hn
    | some nk =>
    cases ea : figOf a with
    | none => rw [ek, ea] at hn; cases hn
    | some na =>
    cases ec : figOf c with
    | none => rw [ek, ea, ec] at hn; cases hn
    | some nc =>
    cases ed : figOf d with
    | none => rw [ek, ea, ec, ed] at hn; cases hn
    | some nd =>
    rw [ek, ea, ec, ed] at hn
    have hn : numB nk na nc nd = true := hn
    unfold numB at hn
    simp only [Bool.and_eq_true, Bool.not_eq_true', Bool.or_eq_false_iff, decide_eq_false_iff_not] at hn
    obtain ⟨⟨n1, n2, n3, n4⟩, n5, n6⟩ := hn
    have k3 : nk = 2 ∨ nk = 3 ∨ nk = 4 := by
      simp only [List.mem_cons, List.not_mem_nil, or_false] at hk
      rcases hk with rfl | rfl | rfl
      · have : figOf "2" = some 2 := by decide +kernel
        rw [this] at ek; cases ek; simp
      · have : figOf "3" = some 3 := by decide +kernel
        rw [this] at ek; cases ek; simp
      · have : figOf "4" = some 4 := by decide +kernel
        rw [this] at ek; cases ek; simp
    have c3 : nc ≤ 3 := by rcases k3 with rfl | rfl | rfl <;> omega
    refine ⟨⟨nk, na, nc, nd, s, t, m⟩, ⟨k3, by dsimp only; omega, by dsimp only; omega, by dsimp only; omega, c3, by dsimp only; omega, by dsimp only; omega, by dsimp only; omega, by dsimp only; omega, hs, ht, fun z => ?_, hm⟩, ?_⟩
    · dsimp only at z ⊢
      rw [decide_eq_true z, Bool.true_and] at hl
      exact Decidable.not_not.mp (of_decide_eq_false hl)
    · show [wdV (.int nk), wdV (.int na), wdV (.int nc), wdV (.int nd), s, t, m] = _
      rw [← (fig_some ek).1, ← (fig_some ea).1, ← (fig_some ec).1, ← (fig_some ed).1]
  · cases h
def hvG : List (List Str) := [["0", "1"], ["upto", "below"], ["0", "1"], ["0", "1"], ["less", "most", "wide"], ["low", "high"], ["-1", "0", "1"]]
def slG : List (List Str) := [["upto", "below"], ["half", "same", "double"], ["1", "2"], ["-1", "0", "1"]]
def inAll (ws : List Str) (gs : List (List Str)) : Bool := (ws.zip gs).all fun p => decide (p.1 ∈ p.2)
def isW (w0 : Str) (ws : List Str) : Bool :=
  if w0 = "average" then decide (ws.length = 7) && isAv ws
  else if w0 = "halves" then decide (ws.length = 7) && inAll ws hvG
  else if w0 = "steps" then decide (ws.length = 4) && inAll ws slG
  else false
def isTx (z : Str) : Bool := match Txt.split z " " with
  | w0 :: ws => isW w0 ws
  | [] => false
theorem dig01 {w : Str} (h : w ∈ (["0", "1"] : List Str)) : ∃ i : Int, (i = 0 ∨ i = 1) ∧ wdV (.int i) = w := by
  simp only [List.mem_cons, List.not_mem_nil, or_false] at h
  rcases h with rfl | rfl
  · exact ⟨0, .inl rfl, by decide +kernel⟩
  · exact ⟨1, .inr rfl, by decide +kernel⟩
theorem dig12 {w : Str} (h : w ∈ (["1", "2"] : List Str)) : ∃ i : Int, (i = 1 ∨ i = 2) ∧ wdV (.int i) = w := by
  simp only [List.mem_cons, List.not_mem_nil, or_false] at h
  rcases h with rfl | rfl
  · exact ⟨1, .inl rfl, by decide +kernel⟩
  · exact ⟨2, .inr rfl, by decide +kernel⟩
theorem dig3 {w : Str} (h : w ∈ (["-1", "0", "1"] : List Str)) : ∃ i : Int, (i = -1 ∨ i = 0 ∨ i = 1) ∧ wdV (.int i) = w := by
  simp only [List.mem_cons, List.not_mem_nil, or_false] at h
  rcases h with rfl | rfl | rfl
  · exact ⟨-1, .inl rfl, by decide +kernel⟩
  · exact ⟨0, .inr (.inl rfl), by decide +kernel⟩
  · exact ⟨1, .inr (.inr rfl), by decide +kernel⟩
theorem w_of {w0 : Str} {ws : List Str} (h : isW w0 ws = true) : ∃ o : Lo, o.Ok ∧ o.hd = w0 ∧ o.V.map wdV = ws := by
  unfold isW at h
  by_cases c1 : w0 = "average"
  · rw [if_pos c1, Bool.and_eq_true] at h
    obtain ⟨l, o, e⟩ := av_of h.2
    exact ⟨.av l, o, c1.symm, e⟩
  rw [if_neg c1] at h
  by_cases c2 : w0 = "halves"
  · rw [if_pos c2, Bool.and_eq_true] at h
    have hl := of_decide_eq_true h.1
    match ws, hl, h.2 with
    | [a, b, c, d, e, f, g], _, h2 =>
    unfold inAll hvG at h2
    simp only [List.zip_cons_cons, List.zip_nil_right, List.all_cons, List.all_nil, Bool.and_true, Bool.and_eq_true, decide_eq_true_eq] at h2
    obtain ⟨h1, h2, h3, h4, h5, h6, h7⟩ := h2
    obtain ⟨i1, z1, rfl⟩ := dig01 h1
    obtain ⟨i3, z3, rfl⟩ := dig01 h3
    obtain ⟨i4, z4, rfl⟩ := dig01 h4
    obtain ⟨i7, z7, rfl⟩ := dig3 h7
    refine ⟨.ha ⟨i1, b, i3, i4, e, f, i7⟩, ⟨z1, by simpa using h2, z3, z4, by simpa using h5, by simpa using h6, z7⟩, c2.symm, rfl⟩
  rw [if_neg c2] at h
  by_cases c3 : w0 = "steps"
  · rw [if_pos c3, Bool.and_eq_true] at h
    have hl := of_decide_eq_true h.1
    match ws, hl, h.2 with
    | [a, b, c, d], _, h2 =>
    unfold inAll slG at h2
    simp only [List.zip_cons_cons, List.zip_nil_right, List.all_cons, List.all_nil, Bool.and_true, Bool.and_eq_true, decide_eq_true_eq] at h2
    obtain ⟨h1, h2, h3, h4⟩ := h2
    obtain ⟨i3, z3, rfl⟩ := dig12 h3
    obtain ⟨i4, z4, rfl⟩ := dig3 h4
    refine ⟨.st ⟨a, b, i3, i4⟩, ⟨by simpa using h1, by simpa using h2, z3, z4⟩, c3.symm, rfl⟩
  rw [if_neg c3] at h
  cases h
theorem w_is {o : Lo} (k : o.Ok) : isW o.hd (o.V.map wdV) = true := by
  unfold isW
  cases o with
  | av l =>
    rw [if_pos (show (Lo.av l).hd = "average" from rfl)]
    show (decide ((l.V.map wdV).length = 7) && isAv (l.V.map wdV)) = true
    rw [av_is k]; rfl
  | ha l =>
    rw [if_neg (show ¬ (Lo.ha l).hd = "average" by show ¬ ("halves" : Str) = "average"; decide), if_pos (show (Lo.ha l).hd = "halves" from rfl)]
    have k : l.Ok := k
    show (decide ((l.V.map wdV).length = 7) && inAll [wdV (.int l.up), l.test, wdV (.int l.low), wdV (.int l.high), l.stop, l.told, wdV (.int l.plus)] hvG) = true
    unfold inAll hvG
    simp only [List.zip_cons_cons, List.zip_nil_right, List.all_cons, List.all_nil, Bool.and_true, Bool.and_eq_true, decide_eq_true_eq]
    refine ⟨rfl, ?_, ?_, ?_, ?_, ?_, ?_, ?_⟩
    · rcases k.up with z | z <;> rw [z] <;> decide +kernel
    · rcases k.test with z | z <;> rw [z] <;> decide +kernel
    · rcases k.low with z | z <;> rw [z] <;> decide +kernel
    · rcases k.high with z | z <;> rw [z] <;> decide +kernel
    · rcases k.stop with z | z | z <;> rw [z] <;> decide +kernel
    · rcases k.told with z | z <;> rw [z] <;> decide +kernel
    · rcases k.plus with z | z | z <;> rw [z] <;> decide +kernel
  | st l =>
    rw [if_neg (show ¬ (Lo.st l).hd = "average" by show ¬ ("steps" : Str) = "average"; decide), if_neg (show ¬ (Lo.st l).hd = "halves" by show ¬ ("steps" : Str) = "halves"; decide), if_pos (show (Lo.st l).hd = "steps" from rfl)]
    have k : l.Ok := k
    show (decide ((l.V.map wdV).length = 4) && inAll [l.test, l.after, wdV (.int l.last), wdV (.int l.plus)] slG) = true
    unfold inAll slG
    simp only [List.zip_cons_cons, List.zip_nil_right, List.all_cons, List.all_nil, Bool.and_true, Bool.and_eq_true, decide_eq_true_eq]
    refine ⟨rfl, ?_, ?_, ?_, ?_⟩
    · rcases k.test with z | z <;> rw [z] <;> decide +kernel
    · rcases k.after with z | z | z <;> rw [z] <;> decide +kernel
    · rcases k.last with z | z <;> rw [z] <;> decide +kernel
    · rcases k.plus with z | z | z <;> rw [z] <;> decide +kernel
theorem tx_fnd {z : Str} (h : isTx z = true) : ∃ o : Lo, o.Ok ∧ z = o.line := by
  unfold isTx at h
  split at h
  · rename_i w0 ws e
    obtain ⟨o, k, e1, e2⟩ := w_of h
    refine ⟨o, k, ?_⟩
    rw [← join_split z, e, ← e1, ← e2]
    rfl
  · cases h
theorem tx_is {o : Lo} (k : o.Ok) : isTx o.line = true := by
  unfold isTx
  rw [Lo.words k]
  exact w_is k
/-- all words of a text that is one are short -/
theorem tx_long {ws : List Str} {w : Str} (hne : ws ≠ []) (hs : ∀ w ∈ ws, NoSp w) (hw : w ∈ ws) (hl : 100 < w.length) : isTx (Txt.join " " ws) = false := by
  cases h : isTx (Txt.join " " ws) with
  | false => rfl
  | true =>
    obtain ⟨o, k, e⟩ := tx_fnd h
    have e1 : szW ws = o.line.length + 1 := by rw [← join_len hne, e]
    have e2 := Lo.len k
    have e3 := szW_mem hw
    omega
end FWL
/-! ### list(zip(xs, ys)) of two lists -/
namespace FW
open PySem PySem.Calls PySem.Spec PyProof.Rows PySem.W L2 LiI
def ZSt (h : Heap) (z TI TO i1 i2 l1 l2 : Addr) (xs ys : Array Value) (S : Addr) (i : Nat) : Prop :=
  IsPair h TI (.ref i1) (.ref i2) ∧ h.IsListIter i1 l1 i ∧ h.IsListIter i2 l2 i ∧ h.IsList l1 xs ∧ h.IsList l2 ys ∧
    ((IsZip h z TI TO .none ∧ ∃ a b, IsPair h TO a b) ∨ ∃ T f oT, IsZipHeld h z TI TO T f ∧ h.get? T = some oT ∧ T ≠ z ∧ T ≠ i1 ∧ T ≠ i2 ∧ T ≠ S)
structure SOff (S z TI TO i1 i2 l1 l2 : Addr) : Prop where
  z : S ≠ z
  TI : S ≠ TI
  TO : S ≠ TO
  i1 : S ≠ i1
  i2 : S ≠ i2
  l1 : S ≠ l1
  l2 : S ≠ l2
section
variable {prog : Program} {w : World} {A : Around} {E : Value → Shared → Prop} {s : Shared} {z TI TO i1 i2 l1 l2 S : Addr} {xs ys : Array Value} {i : Nat}
theorem ZSt.keep {h h' : Heap} (st : ZSt h z TI TO i1 i2 l1 l2 xs ys S i) (O : SOff S z TI TO i1 i2 l1 l2) (hk : ∀ b o, b ≠ S → h.get? b = some o → h'.get? b = some o) : ZSt h' z TI TO i1 i2 l1 l2 xs ys S i := by
  obtain ⟨hTI, h1, h2, hl1, hl2, hz⟩ := st
  refine ⟨hk _ _ (Ne.symm O.TI) hTI, h1.at fun o e => hk _ o (Ne.symm O.i1) e, h2.at fun o e => hk _ o (Ne.symm O.i2) e, hl1.at fun o e => hk _ o (Ne.symm O.l1) e, hl2.at fun o e => hk _ o (Ne.symm O.l2) e, ?_⟩
  rcases hz with ⟨hz, a, b, hTO⟩ | ⟨T, f, oT, hz, hT, r1, r2, r3, r4⟩
  · exact .inl ⟨hk _ _ (Ne.symm O.z) hz, a, b, hk _ _ (Ne.symm O.TO) hTO⟩
  · exact .inr ⟨T, f, oT, hk _ _ (Ne.symm O.z) hz, hk _ _ r4 hT, r1, r2, r3, r4⟩
theorem zst_item (D : ZipApart z TI TO i1 i2 l1 l2) (st : ZSt s.heap z TI TO i1 i2 l1 l2 xs ys S i) (hS : S < s.heap.objs.size) {x y : Value} (ex : xs[i]? = some x) (ey : ys[i]? = some y) {Q : Option Value → Shared → Prop}
    (hQ : ∀ h', ZSt h' z TI TO i1 i2 l1 l2 xs ys S (i + 1) → IsPair h' s.heap.objs.size x y → h'.objs.size = s.heap.objs.size + 1 → (∀ c o, c ≠ z → c ≠ TO → c ≠ i1 → c ≠ i2 → s.heap.get? c = some o → h'.get? c = some o) → Q (some (.ref s.heap.objs.size)) { s with heap := h' }) :
    wpAny (model prog w) A (pyNext (.ref z)) Q E s := by
  obtain ⟨hTI, h1, h2, hl1, hl2, hz⟩ := st
  have lt : ∀ {c o}, s.heap.get? c = some o → s.heap.objs.size ≠ c := fun e => Nat.ne_of_gt (Heap.lt_size e)
  have n1 : s.heap.objs.size ≠ i1 := let ⟨_, e, _⟩ := h1; lt e
  have n2 : s.heap.objs.size ≠ i2 := let ⟨_, e, _⟩ := h2; lt e
  rcases hz with ⟨hz, a, b, hTO⟩ | ⟨T, f, oT, hz, hT, r1, r2, r3, r4⟩
  · refine wpAny_pyNext_zip_item D hz hTI hTO h1 h2 hl1 hl2 ex ey fun h' a1 a2 a3 a4 a5 a6 hk => ?_
    exact hQ h' ⟨hk _ _ D.TIz D.TITO D.TIi1 D.TIi2 hTI, a3, a4, hl1.at fun o e => hk _ o D.l1z D.l1TO D.l1i1 D.l1i2 e, hl2.at fun o e => hk _ o D.l2z D.l2TO D.l2i1 D.l2i2 e,
        .inr ⟨s.heap.objs.size, false, _, a1, a5, lt hz, n1, n2, Nat.ne_of_gt hS⟩⟩ a5 a6 hk
  · refine wpAny_pyNext_zip_item_held D hz hT hTI h1 h2 hl1 hl2 ex ey fun h' a1 a3 a4 a5 a6 hk => ?_
    exact hQ h' ⟨hk _ _ D.TIz D.TIi1 D.TIi2 hTI, a3, a4, hl1.at fun o e => hk _ o D.l1z D.l1i1 D.l1i2 e, hl2.at fun o e => hk _ o D.l2z D.l2i1 D.l2i2 e,
        .inr ⟨T, true, oT, a1, hk _ _ r1 r2 r3 hT, r1, r2, r3, r4⟩⟩ a5 a6 fun c o c1 _ c3 c4 e => hk c o c1 c3 c4 e
theorem zst_done (hA : A.handled = none) (D : ZipApart z TI TO i1 i2 l1 l2) (st : ZSt s.heap z TI TO i1 i2 l1 l2 xs ys S i) (hend : xs[i]? = none ∨ ys[i]? = none) {Q : Option Value → Shared → Prop}
    (hQ : ∀ h', (∀ c o, c ≠ z → c ≠ TO → c ≠ i1 → c ≠ i2 → s.heap.get? c = some o → h'.get? c = some o) → Q none { s with heap := h' }) :
    wpAny (model prog w) A (pyNext (.ref z)) Q E s := by
  obtain ⟨hTI, h1, h2, hl1, hl2, hz⟩ := st
  rcases hz with ⟨hz, a, b, hTO⟩ | ⟨T, f, oT, hz, hT, r1, r2, r3, r4⟩
  · exact wpAny_pyNext_zip_end hA D hz hTI hTO h1 h2 hl1 hl2 hend hQ
  · exact wpAny_pyNext_zip_end_held hA D hz hT hTI h1 h2 hl1 hl2 hend fun h' hk => hQ h' fun c o c1 _ c3 c4 e => hk c o c1 c3 c4 e
end
/-- the pairs that were handed out so far -/
structure ZG (xs ys : Array Value) (lo : Addr) (h : Heap) (as : List Addr) : Prop where
  rise : as.Pairwise (· < ·)
  above : ∀ a ∈ as, lo < a
  pairs : ∀ (j : Nat) (a : Addr), as[j]? = some a → ∃ x y, xs[j]? = some x ∧ ys[j]? = some y ∧ IsPair h a x y
theorem ZG.there {xs ys : Array Value} {lo : Addr} {h : Heap} {as : List Addr} (g : ZG xs ys lo h as) {a : Addr} (ha : a ∈ as) : a < h.objs.size := by
  obtain ⟨j, hj⟩ := List.mem_iff_getElem?.mp ha
  obtain ⟨_, _, _, _, e⟩ := g.pairs j a hj
  exact Heap.lt_size e
section
variable {prog : Program} {w : World} {A : Around} {E : Value → Shared → Prop} {s : Shared} {R : Result → Shared → Prop} {z TI TO i1 i2 l1 l2 S : Addr} {xs ys : Array Value} {n : Nat}
theorem zip_loop (hh : A.handled = none) (D : ZipApart z TI TO i1 i2 l1 l2) (O : SOff S z TI TO i1 i2 l1 l2) (lz : z < S) (lT : TO < S) (lj1 : i1 < S) (lj2 : i2 < S) (hn : n ≤ sizeLine) (hx : n ≤ xs.size) (hy : n ≤ ys.size) (he : xs.size ≤ n ∨ ys.size ≤ n) (res : Value) {h₁ : Heap}
    (hR : ∀ h' tk acc c as, (∀ b o, b ≠ S → b ≠ z → b ≠ TO → b ≠ i1 → b ≠ i2 → h₁.get? b = some o → h'.get? b = some o) → h'.get? S = some { cls := .type "list", dict := none, data := .seq acc c, slots := #[] } → as.length = n → ZG xs ys S h' as →
      acc.toList = as.map Value.ref → R (.ok (.ret res)) { s with heap := h', toks := tk }) :
    ∀ (k i : Nat) (h : Heap) (tk c : Nat) (acc : Array Value) (as : List Addr), n - i = k → i ≤ n → ZSt h z TI TO i1 i2 l1 l2 xs ys S i → (∀ b o, b ≠ S → b ≠ z → b ≠ TO → b ≠ i1 → b ≠ i2 → h₁.get? b = some o → h.get? b = some o) →
      h.get? S = some { cls := .type "list", dict := none, data := .seq acc c, slots := #[] } → acc.toList = as.map Value.ref → as.length = i → ZG xs ys S h as →
      codeAny (model prog w) A (.builtin "list.extend.loop" ⟨[.ref S, .ref z, res], []⟩) R { s with heap := h, toks := tk } := by
  intro k
  induction k with
  | zero =>
    intro i h tk c acc as hk hi hst hkeep hS hacc hal hG
    have hin : i = n := by omega
    refine codeAny_builtin PySem.F.entry_extend_loop ?_
    rw [Around.under_plainId PySem.F.plain_extend_loop _]
    show wpAny _ A.in1 (pyNext (.ref z) >>= _) _ _ _
    refine wpAny_bind (zst_done (s := { s with heap := h, toks := tk }) (A := A.in1) hh D hst (he.elim (fun q => .inl (Array.getElem?_eq_none (by omega))) fun q => .inr (Array.getElem?_eq_none (by omega))) fun h' hee => ?_)
    have he' : ∀ c o, c ≠ z → c ≠ TO → c ≠ i1 → c ≠ i2 → h.get? c = some o → h'.get? c = some o := hee
    refine wpAny_pure (hR h' tk acc c as (fun b o h1 h2 h3 h4 h5 e => he' b o h2 h3 h4 h5 (hkeep b o h1 h2 h3 h4 h5 e)) (he' S _ O.z O.TO O.i1 O.i2 hS) (by omega) ⟨hG.rise, hG.above, fun j a hj => ?_⟩ hacc)
    obtain ⟨x, y, e1, e2, e3⟩ := hG.pairs j a hj
    have la := hG.above a (List.mem_of_getElem? hj)
    exact ⟨x, y, e1, e2, he' a _ (Nat.ne_of_gt (Nat.lt_trans lz la)) (Nat.ne_of_gt (Nat.lt_trans lT la)) (Nat.ne_of_gt (Nat.lt_trans lj1 la)) (Nat.ne_of_gt (Nat.lt_trans lj2 la)) e3⟩
  | succ k ih =>
    intro i h tk c acc as hk hi hst hkeep hS hacc hal hG
    have hltn : i < n := by omega
    have hlt : i < xs.size := by omega
    have ex : xs[i]? = some xs[i] := Array.getElem?_eq_getElem hlt
    have hlt2 : i < ys.size := by omega
    have ey : ys[i]? = some ys[i] := Array.getElem?_eq_getElem hlt2
    have hsz : acc.size = i := by rw [← Array.length_toList, hacc, List.length_map, hal]
    refine codeAny_builtin PySem.F.entry_extend_loop ?_
    rw [Around.under_plainId PySem.F.plain_extend_loop _]
    show wpAny _ A.in1 (pyNext (.ref z) >>= _) _ _ _
    refine wpAny_bind (zst_item (s := { s with heap := h, toks := tk }) (S := S) D hst (Heap.lt_size hS) ex ey fun h' hst' ht hz hkp => ?_)
    dsimp only at ht hz hkp ⊢
    have hS' := hkp S _ O.z O.TO O.i1 O.i2 hS
    have up : ∀ b o, b ≠ S → h'.get? b = some o → (h'.update S (Obj.mapSeq (·.push (Value.ref h.objs.size)))).get? b = some o := fun b o hb e => (Heap.get?_update_other _ _ (Ne.symm hb)).trans e
    have hSl : S < h.objs.size := Heap.lt_size hS
    show wpAny _ A.in1 (updateSeq S (·.push (Value.ref h.objs.size)) >>= _) _ _ _
    refine wpAny_bind ?_
    refine wpAny_updateSeq hS' rfl (wpAny_pure ⟨plainId_quiet PySem.F.plain_extend_loop _, ih (i + 1) _ tk _ (acc.push (Value.ref h.objs.size)) (as ++ [h.objs.size]) (by omega) hltn (hst'.keep O up)
      (fun b o h1 h2 h3 h4 h5 e => up b o h1 (hkp b o h2 h3 h4 h5 (hkeep b o h1 h2 h3 h4 h5 e))) (Heap.get?_update_self _ hS' rfl) (by rw [Array.toList_push, hacc, List.map_append]; rfl) (by rw [List.length_append, hal]; rfl) ⟨?_, ?_, ?_⟩⟩) (by rw [hsz]; omega) (by show (acc.push (Value.ref h.objs.size)).size ≤ sizeLine + 1; rw [Array.size_push, hsz]; omega)
    · refine List.pairwise_append.mpr ⟨hG.rise, List.pairwise_singleton _ _, fun a ha b hb => ?_⟩
      rw [List.mem_singleton.mp hb]
      exact hG.there ha
    · intro a ha
      rcases List.mem_append.mp ha with ha | ha
      · exact hG.above a ha
      · rw [List.mem_singleton.mp ha]; exact hSl
    · intro j b hj
      rcases Nat.lt_trichotomy j as.length with h1 | h1 | h1
      · rw [List.getElem?_append_left h1] at hj
        obtain ⟨x', y', e1, e2, e3⟩ := hG.pairs j b hj
        have la := hG.above b (List.mem_of_getElem? hj)
        exact ⟨x', y', e1, e2, up b _ (Nat.ne_of_gt la) (hkp b _ (Nat.ne_of_gt (Nat.lt_trans lz la)) (Nat.ne_of_gt (Nat.lt_trans lT la)) (Nat.ne_of_gt (Nat.lt_trans lj1 la)) (Nat.ne_of_gt (Nat.lt_trans lj2 la)) e3)⟩
      · subst h1
        have hb : h.objs.size = b := by simpa using hj
        subst hb
        exact ⟨_, _, by rw [hal]; exact ex, by rw [hal]; exact ey, up _ _ (Nat.ne_of_gt hSl) ht⟩
      · have hnone : (as ++ [h.objs.size])[j]? = none := List.getElem?_eq_none (by rw [List.length_append, List.length_singleton]; omega)
        rw [hnone] at hj; cases hj
end
theorem zip_no_len : typeLookup (.type "zip") "__len__" = pure none := by rw [typeLookup_type, builtinLookup_eq_fast]; kernel_rfl
theorem zip_no_hint : typeLookup (.type "zip") "__length_hint__" = pure none := by rw [typeLookup_type, builtinLookup_eq_fast]; kernel_rfl
section
variable {prog : Program} {w : World} {A : Around} {E : Value → Shared → Prop} {s : Shared} {z TI TO i1 i2 l1 l2 S : Addr} {xs ys : Array Value} {n : Nat}
/-- a zip as it is made -/
def ZNew (h : Heap) (z TI TO i1 i2 l1 l2 : Addr) (xs ys : Array Value) : Prop :=
  IsZip h z TI TO .none ∧ IsPair h TI (.ref i1) (.ref i2) ∧ (∃ a b, IsPair h TO a b) ∧ h.IsListIter i1 l1 0 ∧ h.IsListIter i2 l2 0 ∧ h.IsList l1 xs ∧ h.IsList l2 ys
theorem ZNew.keep {h h' : Heap} (Z : ZNew h z TI TO i1 i2 l1 l2 xs ys) (O : SOff S z TI TO i1 i2 l1 l2) (hk : ∀ b o, b ≠ S → h.get? b = some o → h'.get? b = some o) : ZNew h' z TI TO i1 i2 l1 l2 xs ys := by
  obtain ⟨hz, hTI, ⟨a, b, hTO⟩, h1, h2, hl1, hl2⟩ := Z
  exact ⟨hk _ _ (Ne.symm O.z) hz, hk _ _ (Ne.symm O.TI) hTI, ⟨a, b, hk _ _ (Ne.symm O.TO) hTO⟩, h1.at fun o e => hk _ o (Ne.symm O.i1) e, h2.at fun o e => hk _ o (Ne.symm O.i2) e, hl1.at fun o e => hk _ o (Ne.symm O.l1) e, hl2.at fun o e => hk _ o (Ne.symm O.l2) e⟩
theorem ZNew.st {h : Heap} (Z : ZNew h z TI TO i1 i2 l1 l2 xs ys) : ZSt h z TI TO i1 i2 l1 l2 xs ys S 0 := by
  obtain ⟨hz, hTI, ⟨a, b, hTO⟩, h1, h2, hl1, hl2⟩ := Z
  exact ⟨hTI, h1, h2, hl1, hl2, .inl ⟨hz, a, b, hTO⟩⟩
theorem zip_extend {R : Result → Shared → Prop} (hh : A.handled = none) (D : ZipApart z TI TO i1 i2 l1 l2) (O : SOff S z TI TO i1 i2 l1 l2) (lz : z < S) (lT : TO < S) (lj1 : i1 < S) (lj2 : i2 < S) (hn : n ≤ sizeLine) (hx : n ≤ xs.size) (hy : n ≤ ys.size) (he : xs.size ≤ n ∨ ys.size ≤ n) (Z : ZNew s.heap z TI TO i1 i2 l1 l2 xs ys)
    (res : Value) (c₀ : Nat) (hS : s.heap.get? S = some { cls := .type "list", data := .seq #[] c₀ })
    (hR : ∀ h' tk acc c as, (∀ b o, b ≠ S → b ≠ z → b ≠ TO → b ≠ i1 → b ≠ i2 → s.heap.get? b = some o → h'.get? b = some o) → h'.get? S = some { cls := .type "list", dict := none, data := .seq acc c, slots := #[] } → as.length = n → ZG xs ys S h' as →
      acc.toList = as.map Value.ref → R (.ok (.ret res)) { s with heap := h', toks := tk }) :
    wpAny (model prog w) A.in1 (Builtin.List.listExtendWith (.ref S) (.ref z) res)
      (fun fin s' => match fin with | .done f => R (.ok f) s' | .again c' => c'.quiet = true ∧ codeAny (model prog w) A c' R s') (fun e s' => R (.error e) s') s := by
  have hT : s.TypeIs (.ref z) "zip" := ⟨_, Z.1, rfl⟩
  unfold Builtin.List.listExtendWith
  refine wpAny_bind (wpAny_typeOf hT ?_)
  have h1 : Builtin.List.listSameRef (.ref S) (.ref z) = false := by simp [Builtin.List.listSameRef, O.z]
  have h2 : (Value.type "zip" == Value.type "list") = false := by decide
  have h3 : (Value.type "zip" == Value.type "tuple") = false := by decide
  simp only [h1, h2, h3, Bool.or_false, Bool.false_eq_true, if_false]
  refine wpAny_bind (wpAny_pyIter_zip Z.1 ?_)
  refine wpAny_bind (wpAny_holding ?_)
  unfold Builtin.List.listLengthHint
  refine wpAny_bind (wpAny_specialOf hT zip_no_len ?_)
  show wpAny _ A.in1 (specialOf (Value.ref z) (Str.ofString "__length_hint__") >>= _) _ _ _
  refine wpAny_bind (wpAny_specialOf hT zip_no_hint ?_)
  refine wpAny_pure ?_
  show wpAny _ A.in1 (rule "list.extend.makes-room" >>= fun _ => Builtin.List.listTouch (.ref S) >>= fun _ =>
    again (.builtin "list.extend.loop" ⟨[.ref S, .ref z, res], []⟩)) _ _ _
  refine wpAny_bind (wpAny_rule ?_)
  refine wpAny_bind ?_
  show wpAny _ A.in1 (updateSeq S (·.push .none) >>= fun _ => updateSeq S (·.pop)) _ _ _
  refine wpAny_bind (wpAny_updateSeq hS rfl ?_)
  have hS₂ := Heap.get?_update_self (Obj.mapSeq (·.push Value.none)) hS rfl
  refine wpAny_updateSeq (hz := by seq_fits) hS₂ rfl ?_
  have hS₃ := Heap.get?_update_self (Obj.mapSeq (·.pop)) hS₂ rfl
  have oth : ∀ b o, b ≠ S → s.heap.get? b = some o → ((s.heap.update S (Obj.mapSeq (·.push Value.none))).update S (Obj.mapSeq (·.pop))).get? b = some o :=
    fun b o hb e => (Heap.get?_update_other _ _ (Ne.symm hb)).trans ((Heap.get?_update_other _ _ (Ne.symm hb)).trans e)
  refine wpAny_pure ⟨plainId_quiet PySem.F.plain_extend_loop _, zip_loop (s := s) (h₁ := s.heap) hh D O lz lT lj1 lj2 hn hx hy he res hR n 0 _ s.toks _ #[] [] (Nat.sub_zero _) (Nat.zero_le _) (Z.keep O oth).st (fun b o h1 _ _ _ _ e => oth b o h1 e) hS₃ rfl rfl
    ⟨List.Pairwise.nil, (fun _ ha => nomatch ha), (fun j a hj => by simp at hj)⟩⟩
theorem zip_init {R : Result → Shared → Prop} (hh : A.handled = none) (D : ZipApart z TI TO i1 i2 l1 l2) (O : SOff S z TI TO i1 i2 l1 l2) (lz : z < S) (lT : TO < S) (lj1 : i1 < S) (lj2 : i2 < S) (hn : n ≤ sizeLine) (hx : n ≤ xs.size) (hy : n ≤ ys.size) (he : xs.size ≤ n ∨ ys.size ≤ n) (Z : ZNew s.heap z TI TO i1 i2 l1 l2 xs ys)
    (hS : s.heap.get? S = some { cls := .type "list", data := .seq #[] })
    (hR : ∀ h' tk acc c as, (∀ b o, b ≠ S → b ≠ z → b ≠ TO → b ≠ i1 → b ≠ i2 → s.heap.get? b = some o → h'.get? b = some o) → h'.get? S = some { cls := .type "list", dict := none, data := .seq acc c, slots := #[] } → as.length = n → ZG xs ys S h' as →
      acc.toList = as.map Value.ref → R (.ok (.ret .none)) { s with heap := h', toks := tk }) :
    wpAny (model prog w) A.in1 (Builtin.«list.__init__» ⟨[.ref S, .ref z], []⟩)
      (fun fin s' => match fin with | .done f => R (.ok f) s' | .again c' => c'.quiet = true ∧ codeAny (model prog w) A c' R s') (fun e s' => R (.error e) s') s := by
  show wpAny _ _ (do let old ← Builtin.List.listItems (.ref S); Builtin.List.listUpdate (.ref S) (fun _ => #[]); letGo old.toList.reverse; Builtin.List.listExtendWith (.ref S) (.ref z) .none) _ _ s
  refine wpAny_bind ?_
  unfold Builtin.List.listItems
  refine wpAny_bind (wpAny_seqItems hS rfl (wpAny_pure ?_))
  show wpAny _ _ (updateSeq S (fun _ => #[]) >>= fun _ => letGo (#[] : Array Value).toList.reverse >>= fun _ => Builtin.List.listExtendWith (.ref S) (.ref z) .none) _ _ s
  refine wpAny_bind (wpAny_updateSeq hS rfl ?_)
  have hS₂ := Heap.get?_update_self (Obj.mapSeq (fun _ => (#[] : Array Value))) hS rfl
  have oth : ∀ b o, b ≠ S → s.heap.get? b = some o → (s.heap.update S (Obj.mapSeq (fun _ => (#[] : Array Value)))).get? b = some o :=
    fun b o hb e => (Heap.get?_update_other _ _ (Ne.symm hb)).trans e
  refine wpAny_bind (wpAny_letGo ?_)
  refine zip_extend hh D O lz lT lj1 lj2 hn hx hy he (Z.keep O oth) .none _ hS₂ fun h' tk acc c as hk => ?_
  exact hR h' tk acc c as fun b o h1 h2 h3 h4 h5 e => hk b o h1 h2 h3 h4 h5 (oth b o h1 e)
theorem zip_list {Q : Value → Shared → Prop} (hh : A.handled = none) (D : ZipApart z TI TO i1 i2 l1 l2) (lz : z < s.heap.objs.size) (lI : TI < s.heap.objs.size) (lT : TO < s.heap.objs.size) (lj1 : i1 < s.heap.objs.size) (lj2 : i2 < s.heap.objs.size) (ll1 : l1 < s.heap.objs.size) (ll2 : l2 < s.heap.objs.size)
    (hn : n ≤ sizeLine) (hx : n ≤ xs.size) (hy : n ≤ ys.size) (he : xs.size ≤ n ∨ ys.size ≤ n) (Z : ZNew s.heap z TI TO i1 i2 l1 l2 xs ys)
    (hQ : ∀ h' tk acc c as, (∀ b o, b ≠ z → b ≠ TO → b ≠ i1 → b ≠ i2 → s.heap.get? b = some o → h'.get? b = some o) → h'.get? s.heap.objs.size = some { cls := .type "list", dict := none, data := .seq acc c, slots := #[] } → as.length = n → ZG xs ys s.heap.objs.size h' as →
      acc.toList = as.map Value.ref → Q (.ref s.heap.objs.size) { s with heap := h', toks := tk }) :
    wpAny (model prog w) A (call (.type "list") [.ref z]) Q E s := by
  refine callType_codes (Q₁ := fun obj s₁ => obj = .ref s.heap.objs.size ∧ s₁ = { s with heap := s.heap.push { cls := .type "list", data := .seq #[] } }) PySem.F.called_list (PySem.F.typeCall_list_1 _) PySem.F.entry_list_init
    (code_list_new _ ⟨rfl, rfl⟩) fun obj s₁ h₁ => ?_
  obtain ⟨rfl, rfl⟩ := h₁
  have hS : (s.heap.push { cls := .type "list", data := .seq #[] }).get? s.heap.objs.size = some { cls := .type "list", data := .seq #[] } := Heap.get?_push_size _ rfl
  have O : SOff s.heap.objs.size z TI TO i1 i2 l1 l2 := ⟨Nat.ne_of_gt lz, Nat.ne_of_gt lI, Nat.ne_of_gt lT, Nat.ne_of_gt lj1, Nat.ne_of_gt lj2, Nat.ne_of_gt ll1, Nat.ne_of_gt ll2⟩
  refine ⟨⟨_, hS, rfl⟩, PySem.F.args_list_init_2 _ _, zip_init (A := A.in1) hh D O lz lT lj1 lj2 hn hx hy he (Z.keep O fun b o _ e => Heap.get?_push_of_some _ e) hS fun h' tk acc c as hk hS' hl' hG hacc => ?_⟩
  exact ⟨rfl, hQ h' tk acc c as (fun b o h2 h3 h4 h5 e => hk b o (Nat.ne_of_lt (Heap.lt_size e)) h2 h3 h4 h5 (Heap.get?_push_of_some _ e)) hS' hl' hG hacc⟩
end
/-! #### the layer's part -/
/-- the pairs tracked at their addresses -/
def putP : Hp → List Addr → List V → List V → Hp
  | H, a :: as, x :: xs, y :: ys => putP (upd H a (.tup [x, y])) as xs ys
  | H, _, _, _ => H
theorem putP_off {b : Addr} : ∀ (as : List Addr) (xs ys : List V) (H : Hp), b ∉ as → putP H as xs ys b = H b
  | [], _, _, _, _ => rfl
  | _ :: _, [], _, _, _ => rfl
  | _ :: _, _ :: _, [], _, _ => rfl
  | a :: as, x :: xs, y :: ys, H, h => by
    show putP (upd H a (.tup [x, y])) as xs ys b = H b
    rw [putP_off as xs ys _ (fun z => h (List.mem_cons_of_mem _ z)), upd_ne (fun z => h (by rw [z]; exact List.mem_cons_self))]
theorem putP_at : ∀ (as : List Addr) (xs ys : List V) (H : Hp), as.length ≤ xs.length → as.length ≤ ys.length → as.Nodup → ∀ (j : Nat) (a : Addr), as[j]? = some a → ∃ x y, xs[j]? = some x ∧ ys[j]? = some y ∧ putP H as xs ys a = some (.tup [x, y])
  | [], _, _, _, _, _, _, _, _, h => by simp at h
  | _ :: _, [], _, _, h, _, _, _, _, _ => by simp at h
  | _ :: _, _ :: _, [], _, _, h, _, _, _, _ => by simp at h
  | a :: as, x :: xs, y :: ys, H, h, h2, hn, j, b, hj => by
    have hn' := List.nodup_cons.mp hn
    cases j with
    | zero =>
      cases Option.some.inj hj
      refine ⟨x, y, rfl, rfl, ?_⟩
      show putP (upd H a (.tup [x, y])) as xs ys a = _
      rw [putP_off as xs ys _ hn'.1, upd_same]
    | succ j => exact putP_at as xs ys (upd H a (.tup [x, y])) (Nat.le_of_succ_le_succ h) (Nat.le_of_succ_le_succ h2) hn'.2 j b hj
/-- the list of the pairs of two lists of one length -/
def tListZip (K : PySem.W.Frag) (ta : TA) : TE := fun σ H Q => ta σ H fun vs H1 => ∃ (a b : Addr) (xs ys : List V), vs = [.ref a, .ref b] ∧ SqL K H1 a xs ∧ SqL K H1 b ys ∧
  ∀ (H' : Hp) (p : Addr) (ts : List Addr), (∀ b o, H1 b = some o → H' b = some o) → H1 p = none → (∀ t ∈ ts, H1 t = none) → p ∉ ts → H' p = some (.lst (ts.map V.ref)) → ts.length = min xs.length ys.length → (∀ (j : Nat) (t : Addr), ts[j]? = some t → ∃ x y, xs[j]? = some x ∧ ys[j]? = some y ∧ H' t = some (.tup [x, y])) → Q (.ref p) H'
section
variable {X : Cx}
theorem zip_laid {pins : List (Addr × Obj)} {σ : L2.St} {H : Hp} {s : Shared} {h' : Heap} {tk : Nat} {xs ys : List V} {us ws : List Value} {acc : Array Value} {c : Nat} {as : List Addr} (I : Inv X pins σ H s) (hz : xs.length ≤ sizeLine) (rx : Vals xs us) (ry : Vals ys ws) (hl1 : as.length ≤ xs.length) (hl2 : as.length ≤ ys.length)
    (hk : ∀ b o, s.heap.get? b = some o → h'.get? b = some o) (lo : Addr) (hlo : s.heap.objs.size ≤ lo) (hS : h'.get? lo = some { cls := .type "list", dict := none, data := .seq acc c, slots := #[] }) (hG : ZG us.toArray ws.toArray lo h' as) (hacc : acc.toList = as.map Value.ref) :
    ∃ H' : Hp, (∀ b o, H b = some o → H' b = some o) ∧ H lo = none ∧ (∀ t ∈ as, H t = none) ∧ lo ∉ as ∧ H' lo = some (.lst (as.map V.ref)) ∧ (∀ (j : Nat) (t : Addr), as[j]? = some t → ∃ x y, xs[j]? = some x ∧ ys[j]? = some y ∧ H' t = some (.tup [x, y])) ∧ Inv X pins σ H' { s with heap := h', toks := tk } := by
  have lk : xs.length = us.length := rx.length
  have hSn : lo ∉ as := fun z => Nat.lt_irrefl _ (hG.above _ z)
  have nd : as.Nodup := List.Pairwise.imp (fun {a b} (h : a < b) => Nat.ne_of_lt h) hG.rise
  have new : ∀ t ∈ as, H t = none := fun t ht => I.hok.fresh (Nat.le_trans hlo (Nat.le_of_lt (hG.above t ht)))
  have newS : H lo = none := I.hok.fresh hlo
  have atP := putP_at as xs ys (upd H lo (.lst (as.map V.ref))) hl1 hl2 nd
  have off : ∀ b, b ∉ as → b ≠ lo → putP (upd H lo (.lst (as.map V.ref))) as xs ys b = H b := fun b h1 h2 => by rw [putP_off as xs ys _ h1, upd_ne h2]
  have low : ∀ b o, s.heap.get? b = some o → b ∉ as ∧ b ≠ lo := fun b o e => ⟨fun z => absurd (Heap.lt_size e) (Nat.not_lt.mpr (Nat.le_trans hlo (Nat.le_of_lt (hG.above b z)))), Nat.ne_of_lt (Nat.lt_of_lt_of_le (Heap.lt_size e) hlo)⟩
  have kp : ∀ b u, H b = some u → (putP (upd H lo (.lst (as.map V.ref))) as xs ys) b = some u := fun b u e => by
    rw [off b (fun z => by rw [new b z] at e; cases e) (fun z => by rw [z, newS] at e; cases e)]
    exact e
  have eS : putP (upd H lo (.lst (as.map V.ref))) as xs ys lo = some (.lst (as.map V.ref)) := by rw [putP_off as xs ys _ hSn, upd_same]
  refine ⟨putP (upd H lo (.lst (as.map V.ref))) as xs ys, kp, newS, new, hSn, eS, atP, ?_⟩
  refine I.call' (ch := []) rfl ⟨fun b o q _ _ _ => hk b o q, fun b o q _ _ _ => ⟨o.slots, hk b o q⟩, fun b o q n _ => ?_, fun b o q _ => ⟨o, hk b o q⟩, fun b xs q => kp b _ q, fun b o u q => kp b _ q, fun b ps q => ⟨#[], by rw [kp b _ q]; simp⟩⟩ (fun b u q => ?_) I.bare fun b z => by simp at z
  · obtain ⟨z1, z2⟩ := low b o q
    rw [off b z1 z2]
    exact n
  · by_cases hb : b ∈ as
    · obtain ⟨j, hj⟩ := List.mem_iff_getElem?.mp hb
      obtain ⟨x, y, e1, e2, e3⟩ := atP j b hj
      rw [e3] at q
      cases q
      obtain ⟨u, v, f1, f2, f3⟩ := hG.pairs j b hj
      obtain ⟨u', g1, g2⟩ := rx.get e1
      obtain ⟨v', g3, g4⟩ := ry.get e2
      have hu : u = u' := by have := f1; simp at this; rw [g1] at this; exact (Option.some.inj this).symm
      have hv : v = v' := by have := f2; simp at this; rw [g3] at this; exact (Option.some.inj this).symm
      subst hu hv
      exact ⟨by show 2 ≤ sizeLine; decide, [u, v], .cons g2 (.cons g4 .nil), ⟨_, f3, rfl, _, rfl⟩⟩
    · by_cases hb2 : b = lo
      · rw [hb2] at q ⊢
        rw [eS] at q
        cases q
        refine ⟨by rw [List.length_map]; omega, acc.toList, c, by rw [hacc]; exact LiI.vals_refs as, ?_⟩
        rw [Array.toArray_toList]
        exact hS
      · rw [off b hb hb2] at q
        exact (I.hok b u q).stay (fun d v _ y => hk d v y) (fun d y => kp d _ y) fun d xs y => kp d _ y
theorem lt_sz {n m : Nat} (h : m = n + 5) (k : Nat) (hk : k < 5) : n + k < m := by omega
theorem lt_le {n m a : Nat} (h : m = n + 5) (hk : a < n) : a < m := by omega
theorem ne_sz {n a : Nat} (h : a < n) (k : Nat) : a ≠ n + k := by omega
/-- list(zip(e, e2)) -/
theorem pe_listZip {e e2 : Expr} {ta : TA} {p p2 pos pos2 : Pos} (hc : X.calm = true) (hg : Gl X "list") (hm : X.mg "list" = none) (hv : bootBuiltins "list" = some (.type "list")) (hgz : Gl X "zip") (hmz : X.mg "zip" = none) (ha : PA X [e, e2] ta)
    (hs : starEach [.Call (.Name "zip" p2) [e, e2] [] pos2] X.env = (false, eval (.Call (.Name "zip" p2) [e, e2] [] pos2) X.env) :: starEach [] X.env := by rfl)
    (hs2 : starEach [e, e2] X.env = (false, eval e X.env) :: starEach [e2] X.env := by rfl) (hpl : (backTo pos2 (starEach [e2] X.env)).any (·.1) = false := by rfl) :
    PE X (.Call (.Name "list" p) [.Call (.Name "zip" p2) [e, e2] [] pos2] [] pos) (tListZip X.K ta) := by
  refine ⟨fun pins s σ H Q I hq => ?_⟩
  refine wpAny_Call_Name_kw (ld_blt I hg hm hv ?_)
  refine PyProof.Rows.callWith_type1 ?_ hs rfl
  rw [hs]
  show wpAny _ _ (spliced ((false, eval (.Call (.Name "zip" p2) [e, e2] [] pos2) X.env) :: backTo pos (starEach [] X.env))) _ _ s
  refine Calls.spliced_cons ?_
  refine Call_ (ld_blt I hgz hmz PyProof.Rows.boot_zip (PyProof.Rows.callWith_type1 (thn (ha.run pos2 pins s σ H _ I hq) ?_) hs2 hpl))
  rintro us s1 ⟨vs, H1, I1, r1, a, b, xs, ys, rfl, sx, sy, q⟩
  cases r1 with
  | cons r rr => cases rr with
    | cons r' rr =>
      cases rr
      cases r
      cases r'
      obtain ⟨us, ru, pl, hz⟩ := I1.list sx
      obtain ⟨ws, rw', pm, _⟩ := I1.list sy
      have la := pl.lt
      have lb := pm.lt
      refine call_zip_2 pl.isList pm.isList fun g gz gI gO g1 g2 gs gk => ?_
      refine Calls.spliced_nil ?_
      have lu := ru.length
      have lw := rw'.length
      refine zip_list (s := { s1 with heap := g }) (xs := us.toArray) (ys := ws.toArray) (n := min us.length ws.length) (I1.ok.hd hc) (PySem.W.ktu_apart s1.heap.objs.size a b la lb) (lt_sz gs 4 (by decide)) (lt_sz gs 2 (by decide)) (lt_sz gs 3 (by decide)) (lt_sz gs 0 (by decide)) (lt_sz gs 1 (by decide)) (lt_le gs la) (lt_le gs lb)
        (by omega) (by simp; omega) (by simp; omega) (by simp; omega) ⟨gz, gI, ⟨_, _, gO⟩, g1, g2, pl.isList.at fun o e => gk _ o e, pm.isList.at fun o e => gk _ o e⟩ fun h' tk acc c as hk hS hl hG hacc => ?_
      have hk' : ∀ b o, s1.heap.get? b = some o → h'.get? b = some o := fun b o e => by
        have lt := Heap.lt_size e
        exact hk b o (ne_sz lt 4) (ne_sz lt 3) (ne_sz lt 0) (ne_sz lt 1) (gk b o e)
      obtain ⟨H', k1, k2, k3, k4, k5, k6, J⟩ := zip_laid (tk := tk) I1 (by omega) ru rw' (by omega) (by omega) hk' g.objs.size (by omega) hS hG hacc
      exact ⟨.ref _, H', J, rfl, q H' _ as k1 k2 k3 k4 k5 (by omega) k6⟩
end
end FW
namespace FWL
open PySem PySem.Spec PyProof.Rows L2 FW
/-! ### k53: is_average, walked -/
def sp_l_is_average (K : PySem.W.Frag) : Sp := fun vs H Q _ => ∃ (L : Addr) (ws : List Str), vs = [.ref L] ∧ H L = some (.lst (ws.map V.str)) ∧ ws.length = 7 ∧ ∀ H', Ext H H' → Q (.bl (isAv ws)) H'
def rd_l_is_average (K : PySem.W.Frag) : TS := tSeq (tAsg (tCB (FW.rDictP K) (tCons (tLc (iRng2 (tCons (tUn FW.rNeg (tC (.int 5))) (tCons (tC (.int 13)) (tNil)))) (gName 2) (tYes) (tTup (tCons (tCB FW.rStrI (tCons (tVar 2) (tNil))) (tCons (tVar 2) (tNil)))) [2]) (tNil))) (gName 1)) (tSeq (tIfS (tOr (tTest (tOp (rIn K true) (tOp (rIxL K) (tVar 0) (tC (.int 0))) (tLst (tCons (tC (.str "2")) (tCons (tC (.str "3")) (tCons (tC (.str "4")) (tNil))))))) (tNot (tB (tCB (rAll K) (tCons (tLc (iList K (tSl (rSlL K) (tVar 0) (tPart (tC (.int 1))) (tPart (tC (.int 4))))) (gName 3) (tYes) (tDIn (tVar 3) (tVar 1)) [3]) (tNil)))))) (tRet (tC (.bl false))) (tNext)) (tSeq (tAsg (tLc (iList K (tSl (rSlL K) (tVar 0) (tNoPart) (tPart (tC (.int 4))))) (gName 3) (tYes) (tDGet (tVar 1) (tVar 3)) [3]) (gLst K 4 (gCons (gName 4) (gCons (gName 5) (gCons (gName 6) (gCons (gName 7) (gNil))))))) (tSeq (tIfS (tOr (tTest (tOp FW.rLt (tVar 5) (tC (.int 1)))) (tOr (tTest (tOp FW.rLt (tVar 6) (tC (.int 1)))) (tOr (tTest (tOp FW.rLt (tVar 5) (tOp FW.rMul (tVar 6) (tOp FW.rSub (tVar 4) (tC (.int 1)))))) (tTest (tOp FW.rGt (tOp FW.rAdd (tVar 5) (tVar 6)) (tC (.int 6))))))) (tRet (tC (.bl false))) (tNext)) (tSeq (tIfS (tOr (tTest (tOp FW.rLt (tVar 7) (tOp FW.rSub (tC (.int 0)) (tVar 5)))) (tTest (tOp FW.rGt (tVar 7) (tOp FW.rAdd (tVar 5) (tVar 6))))) (tRet (tC (.bl false))) (tNext)) (tSeq (tIfS (tTest (tOp (rIn K true) (tOp (rIxL K) (tVar 0) (tC (.int 4))) (tLst (tCons (tC (.str "notless")) (tCons (tC (.str "equal")) (tCons (tC (.str "near1")) (tCons (tC (.str "near2")) (tCons (tC (.str "back")) (tCons (tC (.str "under")) (tCons (tC (.str "held")) (tNil))))))))))) (tRet (tC (.bl false))) (tNext)) (tSeq (tIfS (tTest (tOp (rIn K true) (tOp (rIxL K) (tVar 0) (tC (.int 5))) (tLst (tCons (tC (.str "old")) (tCons (tC (.str "new")) (tCons (tC (.str "less")) (tCons (tC (.str "more")) (tNil)))))))) (tRet (tC (.bl false))) (tNext)) (tSeq (tIfS (tAnd (tTest (tOp (rIn K false) (tOp (rIxL K) (tVar 0) (tC (.int 4))) (tLst (tCons (tC (.str "under")) (tCons (tC (.str "held")) (tNil)))))) (tTest (tOp rNe (tOp (rIxL K) (tVar 0) (tC (.int 5))) (tC (.str "old"))))) (tRet (tC (.bl false))) (tNext)) (tRet (tOp (rIn K false) (tOp (rIxL K) (tVar 0) (tC (.int 6))) (tLst (tCons (tC (.str "none")) (tCons (tC (.str "down")) (tCons (tC (.str "up")) (tCons (tC (.str "both")) (tNil)))))))))))))))
/-- the pairs made so far -/
def FigI (H : Hp) (D : Addr) (i : Nat) (H' : Hp) : Prop := Ext H H' ∧ ∃ ps : List Addr, H' D = some (.lst (ps.map V.ref)) ∧ Paired (fun p (kv : L2.Key × V) => H' p = some (.tup [kV kv.1, kv.2])) ps (figK.take i)
theorem figK_len : figK.length = 18 := rfl
theorem figK_get {i : Nat} (h : i < 18) : figK[i]? = some (.inr (wdV (.int ((i : Int) - 5))), .int ((i : Int) - 5)) := by
  unfold figK figL
  rw [List.map_map, List.getElem?_map, List.getElem?_range h]
  rfl
theorem paired_keep {H H' : Hp} {ps : List Addr} {kvs : List (L2.Key × V)} (h : Paired (fun p (kv : L2.Key × V) => H p = some (.tup [kV kv.1, kv.2])) ps kvs) (e : ∀ b xs, H b = some (.tup xs) → H' b = some (.tup xs)) : Paired (fun p (kv : L2.Key × V) => H' p = some (.tup [kV kv.1, kv.2])) ps kvs := by
  induction h with
  | nil => exact .nil
  | cons a _ ih => exact .cons (e _ _ a) ih
theorem fig_lc {K : PySem.W.Frag} {σ : L2.St} {H : Hp} {Q : VK} (hσ : σ.length = 8) (q : ∀ D G ps, Ext H G → G D = some (.lst (ps.map V.ref)) → Paired (fun p (kv : L2.Key × V) => G p = some (.tup [kV kv.1, kv.2])) ps figK → Q (.ref D) G) :
    LcK (gName 2) tYes (tTup (tCons (tCB FW.rStrI (tCons (tVar 2) (tNil))) (tCons (tVar 2) (tNil)))) [2] σ Q (Itr (-5) 18) H := by
  match σ, hσ with
  | [s0, s1, s2, s3, s4, s5, s6, s7], _ =>
  intro D hD
  refine lc_range (lo := -5) (n := 18) (FigI H D) ⟨Ext.new hD, [], upd_same, .nil⟩ ?_ ?_
  · rintro i H' hi ⟨e, ps, hps, hp⟩
    have hz : (-5 + (i : Int)) = (i : Int) - 5 := by omega
    rw [hz]
    refine g_name ⟨rfl, ?_⟩
    unfold tYes
    dsimp only
    rw [if_pos rfl]
    walk_at "re"
    refine ⟨_, rfl, ?_, ?_⟩
    · exact Nat.lt_of_le_of_lt (Nat.log2_le_self _) (by omega)
    walk_at "re"
    refine ⟨by show 2 ≤ sizeLine; decide, fun t ht => ?_⟩
    have et := Ext.new (o := HO.tup [V.str (toString ((i : Int) - 5)), .int ((i : Int) - 5)]) ht
    refine ⟨ps.map V.ref, et _ _ hps, ?_, (e.tr et).upds hD, ps ++ [t], by rw [upd_same, List.map_append]; rfl, ?_⟩
    · have h1 := hp.length
      rw [List.length_take] at h1
      rw [List.length_map]
      show _ < 2 ^ 24
      omega
    · rw [List.take_add_one, figK_get hi]
      refine Paired.snoc (paired_keep hp fun b xs z => by rw [upd_ne (fun y => by rw [y, hps] at z; cases z)]; exact et _ _ z) ?_
      have nt : t ≠ D := fun z => by rw [z, hps] at ht; cases ht
      rw [upd_ne nt, upd_same]
      rfl
  · rintro G ⟨e, ps, hps, hp⟩
    rw [List.take_of_length_le (by rw [figK_len]; exact Nat.le_refl _)] at hp
    exact q D G ps e hps hp
theorem paired_sqt {K : PySem.W.Frag} {H : Hp} {ps : List Addr} {kvs : List (L2.Key × V)} (h : Paired (fun p (kv : L2.Key × V) => H p = some (.tup [kV kv.1, kv.2])) ps kvs) : Paired (fun p (kv : L2.Key × V) => SqT K H p [kV kv.1, kv.2]) ps kvs := by
  induction h with
  | nil => exact .nil
  | cons a _ ih => exact .cons (SqT.of a) ih
def inW (w : Str) (gs : List Str) : Bool := decide (V.str w ∈ gs.map V.str)
theorem inW_eq (w : Str) (gs : List Str) : inW w gs = decide (w ∈ gs) := by
  unfold inW
  refine decide_eq_decide.mpr ⟨fun h => ?_, fun h => List.mem_map.mpr ⟨w, h, rfl⟩⟩
  obtain ⟨x, hx, e⟩ := List.mem_map.mp h
  cases e
  exact hx
theorem flat_strs (gs : List Str) : (gs.map V.str).all flatV = true := List.all_eq_true.mpr fun v hv => by
  obtain ⟨z, _, rfl⟩ := List.mem_map.mp hv; rfl
theorem inV_strs (w : Str) (gs : List Str) : inV (.str w) (gs.map V.str) = inW w gs := inV_str w fun v hv => by
  obtain ⟨x, _, e⟩ := List.mem_map.mp hv; exact ⟨x, e.symm⟩
/-- words[i] in [..], words[i] not in [..] -/
theorem e_win {K : PySem.W.Frag} {σ : L2.St} {H : Hp} {Q : VK} {L : Addr} {neg : Bool} {ws gs : List Str} {i : Int} {w : Str} {tl : TA} (hσ : σ[0]? = some (some (.ref L))) (hL : H L = some (.lst (ws.map V.str))) (hi : atI (ws.map V.str) i = some (.str w))
    (hA : ∀ S : List V → Hp → Prop, S (gs.map V.str) H → tl σ H S) (hz : gs.length ≤ 1000) (k : ∀ H', Ext H H' → Q (.bl (if neg then !inW w gs else inW w gs)) H') : tOp (rIn K neg) (tOp (rIxL K) (tVar 0) (tC (.int i))) (tLst tl) σ H Q := by
  refine e_op (e_op (e_var (e_c (ha_ixL hL hi (e_lst (hA _ ⟨by rw [List.length_map]; exact Nat.le_trans hz (by decide), fun t ht => e_in ?_ (.inl (SqL.of upd_same)) rfl (flat_strs gs)⟩)))) hσ))
  rw [inV_strs]
  exact k _ (Ext.new ht)
theorem e_inW {K : PySem.W.Frag} {σ : L2.St} {H : Hp} {Q : VK} {L : Addr} {ws gs : List Str} {i : Int} {w : Str} {tl : TA} (hσ : σ[0]? = some (some (.ref L))) (hL : H L = some (.lst (ws.map V.str))) (hi : atI (ws.map V.str) i = some (.str w))
    (hA : ∀ S : List V → Hp → Prop, S (gs.map V.str) H → tl σ H S) (hz : gs.length ≤ 1000) (k : ∀ H', Ext H H' → Q (.bl (inW w gs)) H') : tOp (rIn K false) (tOp (rIxL K) (tVar 0) (tC (.int i))) (tLst tl) σ H Q := e_win (neg := false) hσ hL hi hA hz k
/-- [word in figures for word in some] -/
theorem lc_has {K : PySem.W.Frag} {σ : L2.St} {H : Hp} {Q : VK} {S d : Addr} {ws : List Str} (hσ : σ.length = 8) (h1 : (wipe σ [3])[1]? = some (some (.ref d))) (hS : H S = some (.lst (ws.map V.str))) (hd : H d = some (.dK figK)) (hl : ws.length ≤ 1000)
    (q : ∀ D G, Ext H G → G D = some (.lst (ws.map fun w => V.bl (figOf w).isSome)) → Q (.ref D) G) : LcK (gName 3) tYes (tDIn (tVar 3) (tVar 1)) [3] σ Q (Itl K S) H := by
  match σ, hσ with
  | [s0, s1, s2, s3, s4, s5, s6, s7], _ =>
  have h1 : s1 = some (.ref d) := by simpa [wipe] using h1
  subst h1
  refine lcLX (p := fun _ => true) (P := fun x v => ∃ w, x = V.str w ∧ v = V.bl (figOf w).isSome) (SqL.of hS) (by rw [List.length_map]; omega) (fun _ => rfl) (fun x _ H' R _ k => k H' (fun _ _ z => z)) (fun x hx _ H' R e k => ?_) fun D G ys hD e hG hp => ?_
  · obtain ⟨w, hw, rfl⟩ := List.mem_map.mp hx
    unfold tDIn
    refine e_var (e_var ⟨d, _, rfl, DGet.k (k := .inr w) (e _ _ hd), ?_⟩ rfl) rfl
    refine k _ _ (fun _ _ z => z) ⟨w, rfl, ?_⟩
    rw [figK_val]
    cases figOf w <;> rfl
  · refine q D G e ?_
    rw [hG, List.filter_eq_self.mpr (fun _ _ => rfl)] at *
    have : ∀ {ws : List Str} {ys : List V}, Paired (fun x v => ∃ w, x = V.str w ∧ v = V.bl (figOf w).isSome) (ws.map V.str) ys → ys = ws.map fun w => V.bl (figOf w).isSome := by
      intro ws
      induction ws with
      | nil => intro ys h; cases h; rfl
      | cons a l ih =>
        intro ys h
        cases h with
        | cons b r =>
          obtain ⟨w, e, ey⟩ := b
          cases e
          rw [ey, ih r]; rfl
    rw [this hp]
/-- [figures[word] for word in some] -/
theorem lc_figs {K : PySem.W.Frag} {σ : L2.St} {H : Hp} {Q : VK} {S d : Addr} {ws : List Str} (hσ : σ.length = 8) (h1 : (wipe σ [3])[1]? = some (some (.ref d))) (hS : H S = some (.lst (ws.map V.str))) (hd : H d = some (.dK figK)) (hl : ws.length ≤ 1000)
    (ok : ∀ w ∈ ws, (figOf w).isSome = true) (q : ∀ D G, Ext H G → G D = some (.lst (ws.map fun w => V.int ((figOf w).getD 0))) → Q (.ref D) G) : LcK (gName 3) tYes (tDGet (tVar 1) (tVar 3)) [3] σ Q (Itl K S) H := by
  match σ, hσ with
  | [s0, s1, s2, s3, s4, s5, s6, s7], _ =>
  have h1 : s1 = some (.ref d) := by simpa [wipe] using h1
  subst h1
  refine lcLX (p := fun _ => true) (P := fun x v => ∃ w, x = V.str w ∧ v = V.int ((figOf w).getD 0)) (SqL.of hS) (by rw [List.length_map]; omega) (fun _ => rfl) (fun x _ H' R _ k => k H' (fun _ _ z => z)) (fun x hx _ H' R e k => ?_) fun D G ys hD e hG hp => ?_
  · obtain ⟨w, hw, rfl⟩ := List.mem_map.mp hx
    have oks := ok w hw
    have g := DGet.k (k := .inr w) (e _ _ hd)
    rw [figK_val] at g
    cases ef : figOf w with
    | none => rw [ef] at oks; cases oks
    | some n =>
      rw [ef] at g
      unfold tDGet
      exact e_var (e_var ⟨d, _, rfl, g, k _ _ (fun _ _ z => z) ⟨w, rfl, by rw [ef]; rfl⟩⟩ rfl) rfl
  · refine q D G e ?_
    rw [hG, List.filter_eq_self.mpr (fun _ _ => rfl)] at *
    have : ∀ {ws : List Str} {ys : List V}, Paired (fun x v => ∃ w, x = V.str w ∧ v = V.int ((figOf w).getD 0)) (ws.map V.str) ys → ys = ws.map fun w => V.int ((figOf w).getD 0) := by
      intro ws
      induction ws with
      | nil => intro ys h; cases h; rfl
      | cons a l ih =>
        intro ys h
        cases h with
        | cons b r =>
          obtain ⟨w, e, ey⟩ := b
          cases e
          rw [ey, ih r]; rfl
    rw [this hp]
/-- if words[i] not in [..]: return False -/
theorem st_nin {K : PySem.W.Frag} {σ : L2.St} {H : Hp} {D : Ends} {L : Addr} {ws gs : List Str} {i : Int} {w : Str} {tl : TA} (hσ : σ[0]? = some (some (.ref L))) (hL : H L = some (.lst (ws.map V.str))) (hi : atI (ws.map V.str) i = some (.str w))
    (hA : ∀ S : List V → Hp → Prop, S (gs.map V.str) H → tl σ H S) (hz : gs.length ≤ 1000) (no : inW w gs = false → ∀ H', Ext H H' → D.rt (.bl false) H') (yes : inW w gs = true → ∀ H', Ext H H' → D.nx σ H') :
    tIfS (tTest (tOp (rIn K true) (tOp (rIxL K) (tVar 0) (tC (.int i))) (tLst tl))) (tRet (tC (.bl false))) tNext D σ H := by
  unfold tIfS tTest
  refine e_win hσ hL hi hA hz fun H' e => ⟨_, rfl, ?_⟩
  cases c : inW w gs with
  | false =>
    rw [if_pos (show (if true = true then !false else false) = true from rfl)]
    exact FW.s_ret (e_c (no c H' e))
  | true =>
    rw [if_neg (show ¬ (if true = true then !true else true) = true by decide)]
    exact FW.s_next (yes c H' e)
section
variable {K : PySem.W.Frag} {H : Hp} {Q : VK} {L : Addr} {wk wa wc wd ws wt wm : Str} {v1 v2 v3 v4 v5 v6 v7 : Option V}
theorem avg_t5 (hL : H L = some (.lst ([wk, wa, wc, wd, ws, wt, wm].map V.str))) (hb : decide (wk ∈ (["2", "3", "4"] : List Str)) = true) (hn : numO (figOf wk) (figOf wa) (figOf wc) (figOf wd) = true) (q : ∀ H', Ext H H' → Q (.bl (isAv [wk, wa, wc, wd, ws, wt, wm])) H') :
    (tSeq (tIfS (tTest (tOp (rIn K true) (tOp (rIxL K) (tVar 0) (tC (.int 4))) (tLst (tCons (tC (.str "notless")) (tCons (tC (.str "equal")) (tCons (tC (.str "near1")) (tCons (tC (.str "near2")) (tCons (tC (.str "back")) (tCons (tC (.str "under")) (tCons (tC (.str "held")) (tNil))))))))))) (tRet (tC (.bl false))) (tNext)) (tSeq (tIfS (tTest (tOp (rIn K true) (tOp (rIxL K) (tVar 0) (tC (.int 5))) (tLst (tCons (tC (.str "old")) (tCons (tC (.str "new")) (tCons (tC (.str "less")) (tCons (tC (.str "more")) (tNil)))))))) (tRet (tC (.bl false))) (tNext)) (tSeq (tIfS (tAnd (tTest (tOp (rIn K false) (tOp (rIxL K) (tVar 0) (tC (.int 4))) (tLst (tCons (tC (.str "under")) (tCons (tC (.str "held")) (tNil)))))) (tTest (tOp rNe (tOp (rIxL K) (tVar 0) (tC (.int 5))) (tC (.str "old"))))) (tRet (tC (.bl false))) (tNext)) (tRet (tOp (rIn K false) (tOp (rIxL K) (tVar 0) (tC (.int 6))) (tLst (tCons (tC (.str "none")) (tCons (tC (.str "down")) (tCons (tC (.str "up")) (tCons (tC (.str "both")) (tNil))))))))))) { nx := fun _ H' => Q .non H', rt := Q } [some (.ref L), v1, v2, v3, v4, v5, v6, v7] H := by
  have ea : isAv [wk, wa, wc, wd, ws, wt, wm] = (inW ws ["notless", "equal", "near1", "near2", "back", "under", "held"] && (inW wt ["old", "new", "less", "more"] && ((!(inW ws ["under", "held"] && decide (wt ≠ "old"))) && inW wm ["none", "down", "up", "both"]))) := by
    show ((decide (wk ∈ (["2", "3", "4"] : List Str)) && numO (figOf wk) (figOf wa) (figOf wc) (figOf wd)) && _) = _
    rw [hb, hn]
    rfl
  rw [ea] at q
  with_reducible refine s_seq ?_
  refine st_nin (ws := [wk, wa, wc, wd, ws, wt, wm]) (gs := ["notless", "equal", "near1", "near2", "back", "under", "held"]) (w := ws) rfl hL rfl (fun S hS => by walk_at "re"; exact hS) (by decide) (fun z H' e => by rw [z] at q; exact q H' e) fun z1 H1 e1 => ?_
  rw [z1, Bool.true_and] at q
  with_reducible refine s_seq ?_
  refine st_nin (ws := [wk, wa, wc, wd, ws, wt, wm]) (gs := ["old", "new", "less", "more"]) (w := wt) rfl (e1 _ _ hL) rfl (fun S hS => by walk_at "re"; exact hS) (by decide) (fun z H' e => by rw [z] at q; exact q H' (e1.tr e)) fun z2 H2 e2 => ?_
  rw [z2, Bool.true_and] at q
  have e12 := e1.tr e2
  with_reducible refine s_seq ?_
  with_reducible refine FW.s_if ?_
  unfold tAnd
  refine e_inW (ws := [wk, wa, wc, wd, ws, wt, wm]) (gs := ["under", "held"]) (w := ws) rfl (e12 _ _ hL) rfl (fun S hS => by walk_at "re"; exact hS) (by decide) fun H3 e3 => ⟨_, rfl, ?_⟩
  have e13 := e12.tr e3
  have last : ∀ {H4 : Hp}, Ext H2 H4 → (inW ws ["under", "held"] && decide (wt ≠ "old")) = false → (tRet (tOp (rIn K false) (tOp (rIxL K) (tVar 0) (tC (.int 6))) (tLst (tCons (tC (.str "none")) (tCons (tC (.str "down")) (tCons (tC (.str "up")) (tCons (tC (.str "both")) (tNil)))))))) { nx := fun _ H' => Q .non H', rt := Q } [some (.ref L), v1, v2, v3, v4, v5, v6, v7] H4 := fun {H4} e4 z3 => by
    rw [z3] at q
    exact FW.s_ret (e_inW (ws := [wk, wa, wc, wd, ws, wt, wm]) (gs := ["none", "down", "up", "both"]) (w := wm) rfl (e4 _ _ (e12 _ _ hL)) rfl (fun S hS => by walk_at "re"; exact hS) (by decide) fun H5 e5 => q H5 (e12.tr (e4.tr e5)))
  cases c : inW ws ["under", "held"] with
  | false =>
    rw [c] at last
    dsimp only
    rw [if_neg (show ¬ false = true by decide), if_neg (show ¬ false = true by decide)]
    exact FW.s_next (last e3 rfl)
  | true =>
    rw [c] at last q
    dsimp only
    with_reducible refine e_T ?_
    walk_at "re"
    refine ha_ixL (xs := [wk, wa, wc, wd, ws, wt, wm].map V.str) (v := .str wt) (e13 _ _ hL) rfl ?_
    walk_at "re"
    rw [decStr]
    by_cases c2 : wt = "old"
    · rw [decide_eq_true c2, if_neg (show ¬ (!true) = true by decide)]
      exact FW.s_next (last e3 (by rw [c2]; simp))
    · rw [decide_eq_false c2, if_pos (show (!false) = true from rfl)]
      rw [decide_eq_true (show wt ≠ "old" from c2)] at q
      exact FW.s_ret (e_c (q H3 e13))
theorem avg_t3 {nk na nc nd : Int} (hL : H L = some (.lst ([wk, wa, wc, wd, ws, wt, wm].map V.str))) (hb : decide (wk ∈ (["2", "3", "4"] : List Str)) = true) (fk : figOf wk = some nk) (fa : figOf wa = some na) (fc : figOf wc = some nc) (fd : figOf wd = some nd) (q : ∀ H', Ext H H' → Q (.bl (isAv [wk, wa, wc, wd, ws, wt, wm])) H') :
    (tSeq (tIfS (tOr (tTest (tOp FW.rLt (tVar 5) (tC (.int 1)))) (tOr (tTest (tOp FW.rLt (tVar 6) (tC (.int 1)))) (tOr (tTest (tOp FW.rLt (tVar 5) (tOp FW.rMul (tVar 6) (tOp FW.rSub (tVar 4) (tC (.int 1)))))) (tTest (tOp FW.rGt (tOp FW.rAdd (tVar 5) (tVar 6)) (tC (.int 6))))))) (tRet (tC (.bl false))) (tNext)) (tSeq (tIfS (tOr (tTest (tOp FW.rLt (tVar 7) (tOp FW.rSub (tC (.int 0)) (tVar 5)))) (tTest (tOp FW.rGt (tVar 7) (tOp FW.rAdd (tVar 5) (tVar 6))))) (tRet (tC (.bl false))) (tNext)) (tSeq (tIfS (tTest (tOp (rIn K true) (tOp (rIxL K) (tVar 0) (tC (.int 4))) (tLst (tCons (tC (.str "notless")) (tCons (tC (.str "equal")) (tCons (tC (.str "near1")) (tCons (tC (.str "near2")) (tCons (tC (.str "back")) (tCons (tC (.str "under")) (tCons (tC (.str "held")) (tNil))))))))))) (tRet (tC (.bl false))) (tNext)) (tSeq (tIfS (tTest (tOp (rIn K true) (tOp (rIxL K) (tVar 0) (tC (.int 5))) (tLst (tCons (tC (.str "old")) (tCons (tC (.str "new")) (tCons (tC (.str "less")) (tCons (tC (.str "more")) (tNil)))))))) (tRet (tC (.bl false))) (tNext)) (tSeq (tIfS (tAnd (tTest (tOp (rIn K false) (tOp (rIxL K) (tVar 0) (tC (.int 4))) (tLst (tCons (tC (.str "under")) (tCons (tC (.str "held")) (tNil)))))) (tTest (tOp rNe (tOp (rIxL K) (tVar 0) (tC (.int 5))) (tC (.str "old"))))) (tRet (tC (.bl false))) (tNext)) (tRet (tOp (rIn K false) (tOp (rIxL K) (tVar 0) (tC (.int 6))) (tLst (tCons (tC (.str "none")) (tCons (tC (.str "down")) (tCons (tC (.str "up")) (tCons (tC (.str "both")) (tNil))))))))))))) { nx := fun _ H' => Q .non H', rt := Q } [some (.ref L), v1, v2, v3, some (.int nk), some (.int na), some (.int nc), some (.int nd)] H := by
  have sk := fig_some fk
  have sa := fig_some fa
  have sc := fig_some fc
  have sd := fig_some fd
  have tl : numB nk na nc nd = true → (tSeq (tIfS (tTest (tOp (rIn K true) (tOp (rIxL K) (tVar 0) (tC (.int 4))) (tLst (tCons (tC (.str "notless")) (tCons (tC (.str "equal")) (tCons (tC (.str "near1")) (tCons (tC (.str "near2")) (tCons (tC (.str "back")) (tCons (tC (.str "under")) (tCons (tC (.str "held")) (tNil))))))))))) (tRet (tC (.bl false))) (tNext)) (tSeq (tIfS (tTest (tOp (rIn K true) (tOp (rIxL K) (tVar 0) (tC (.int 5))) (tLst (tCons (tC (.str "old")) (tCons (tC (.str "new")) (tCons (tC (.str "less")) (tCons (tC (.str "more")) (tNil)))))))) (tRet (tC (.bl false))) (tNext)) (tSeq (tIfS (tAnd (tTest (tOp (rIn K false) (tOp (rIxL K) (tVar 0) (tC (.int 4))) (tLst (tCons (tC (.str "under")) (tCons (tC (.str "held")) (tNil)))))) (tTest (tOp rNe (tOp (rIxL K) (tVar 0) (tC (.int 5))) (tC (.str "old"))))) (tRet (tC (.bl false))) (tNext)) (tRet (tOp (rIn K false) (tOp (rIxL K) (tVar 0) (tC (.int 6))) (tLst (tCons (tC (.str "none")) (tCons (tC (.str "down")) (tCons (tC (.str "up")) (tCons (tC (.str "both")) (tNil))))))))))) { nx := fun _ H' => Q .non H', rt := Q } [some (.ref L), v1, v2, v3, some (.int nk), some (.int na), some (.int nc), some (.int nd)] H := fun h => avg_t5 hL hb (by rw [fk, fa, fc, fd]; exact h) q
  have no : numB nk na nc nd = false → Q (.bl false) H := fun h => by
    have ea : isAv [wk, wa, wc, wd, ws, wt, wm] = false := by
      show ((decide (wk ∈ (["2", "3", "4"] : List Str)) && numO (figOf wk) (figOf wa) (figOf wc) (figOf wd)) && _) = _
      rw [fk, fa, fc, fd]
      show ((_ && numB nk na nc nd) && _) = false
      rw [h]
      simp
    rw [ea] at q
    exact q H fun _ _ z => z
  generalize (tSeq (tIfS (tTest (tOp (rIn K true) (tOp (rIxL K) (tVar 0) (tC (.int 4))) (tLst (tCons (tC (.str "notless")) (tCons (tC (.str "equal")) (tCons (tC (.str "near1")) (tCons (tC (.str "near2")) (tCons (tC (.str "back")) (tCons (tC (.str "under")) (tCons (tC (.str "held")) (tNil))))))))))) (tRet (tC (.bl false))) (tNext)) (tSeq (tIfS (tTest (tOp (rIn K true) (tOp (rIxL K) (tVar 0) (tC (.int 5))) (tLst (tCons (tC (.str "old")) (tCons (tC (.str "new")) (tCons (tC (.str "less")) (tCons (tC (.str "more")) (tNil)))))))) (tRet (tC (.bl false))) (tNext)) (tSeq (tIfS (tAnd (tTest (tOp (rIn K false) (tOp (rIxL K) (tVar 0) (tC (.int 4))) (tLst (tCons (tC (.str "under")) (tCons (tC (.str "held")) (tNil)))))) (tTest (tOp rNe (tOp (rIxL K) (tVar 0) (tC (.int 5))) (tC (.str "old"))))) (tRet (tC (.bl false))) (tNext)) (tRet (tOp (rIn K false) (tOp (rIxL K) (tVar 0) (tC (.int 6))) (tLst (tCons (tC (.str "none")) (tCons (tC (.str "down")) (tCons (tC (.str "up")) (tCons (tC (.str "both")) (tNil))))))))))) = TL at *
  unfold numB at tl no
  walk_at "rd"
  refine e_iteB (fun h => e_T (FW.s_ret (e_c (no (by rw [h]; rfl))))) fun h1 => ?_
  rw [h1] at tl no
  walk_at "rd"
  refine e_iteB (fun h => e_T (FW.s_ret (e_c (no (by rw [h]; rfl))))) fun h2 => ?_
  rw [h2] at tl no
  walk_at "rd"
  · refine e_iteB (fun h => e_T (FW.s_ret (e_c (no (by rw [h]; rfl))))) fun h3 => ?_
    rw [h3] at tl no
    walk_at "rd"
    refine e_iteB (fun h => FW.s_ret (e_c (no (by rw [h]; rfl)))) fun h4 => ?_
    rw [h4] at tl no
    walk_at "rd"
    refine e_iteB (fun h => e_T (FW.s_ret (e_c (no (by rw [h]; rfl))))) fun h5 => ?_
    rw [h5] at tl no
    walk_at "rd"
    refine e_iteB (fun h => FW.s_ret (e_c (no (by rw [h]; rfl)))) fun h6 => ?_
    rw [h6] at tl
    exact FW.s_next (tl rfl)
  · exact L2.wide_mul (a := 10) (b := 10) (by show nc.natAbs < 1024; omega) (by show (nk - 1).natAbs < 1024; omega) (by decide) (by decide) (by decide)
theorem avg_t1 {d : Addr} (hL : H L = some (.lst ([wk, wa, wc, wd, ws, wt, wm].map V.str))) (hd : H d = some (.dK figK)) (q : ∀ H', Ext H H' → Q (.bl (isAv [wk, wa, wc, wd, ws, wt, wm])) H') :
    (tSeq (tIfS (tOr (tTest (tOp (rIn K true) (tOp (rIxL K) (tVar 0) (tC (.int 0))) (tLst (tCons (tC (.str "2")) (tCons (tC (.str "3")) (tCons (tC (.str "4")) (tNil))))))) (tNot (tB (tCB (rAll K) (tCons (tLc (iList K (tSl (rSlL K) (tVar 0) (tPart (tC (.int 1))) (tPart (tC (.int 4))))) (gName 3) (tYes) (tDIn (tVar 3) (tVar 1)) [3]) (tNil)))))) (tRet (tC (.bl false))) (tNext)) (tSeq (tAsg (tLc (iList K (tSl (rSlL K) (tVar 0) (tNoPart) (tPart (tC (.int 4))))) (gName 3) (tYes) (tDGet (tVar 1) (tVar 3)) [3]) (gLst K 4 (gCons (gName 4) (gCons (gName 5) (gCons (gName 6) (gCons (gName 7) (gNil))))))) (tSeq (tIfS (tOr (tTest (tOp FW.rLt (tVar 5) (tC (.int 1)))) (tOr (tTest (tOp FW.rLt (tVar 6) (tC (.int 1)))) (tOr (tTest (tOp FW.rLt (tVar 5) (tOp FW.rMul (tVar 6) (tOp FW.rSub (tVar 4) (tC (.int 1)))))) (tTest (tOp FW.rGt (tOp FW.rAdd (tVar 5) (tVar 6)) (tC (.int 6))))))) (tRet (tC (.bl false))) (tNext)) (tSeq (tIfS (tOr (tTest (tOp FW.rLt (tVar 7) (tOp FW.rSub (tC (.int 0)) (tVar 5)))) (tTest (tOp FW.rGt (tVar 7) (tOp FW.rAdd (tVar 5) (tVar 6))))) (tRet (tC (.bl false))) (tNext)) (tSeq (tIfS (tTest (tOp (rIn K true) (tOp (rIxL K) (tVar 0) (tC (.int 4))) (tLst (tCons (tC (.str "notless")) (tCons (tC (.str "equal")) (tCons (tC (.str "near1")) (tCons (tC (.str "near2")) (tCons (tC (.str "back")) (tCons (tC (.str "under")) (tCons (tC (.str "held")) (tNil))))))))))) (tRet (tC (.bl false))) (tNext)) (tSeq (tIfS (tTest (tOp (rIn K true) (tOp (rIxL K) (tVar 0) (tC (.int 5))) (tLst (tCons (tC (.str "old")) (tCons (tC (.str "new")) (tCons (tC (.str "less")) (tCons (tC (.str "more")) (tNil)))))))) (tRet (tC (.bl false))) (tNext)) (tSeq (tIfS (tAnd (tTest (tOp (rIn K false) (tOp (rIxL K) (tVar 0) (tC (.int 4))) (tLst (tCons (tC (.str "under")) (tCons (tC (.str "held")) (tNil)))))) (tTest (tOp rNe (tOp (rIxL K) (tVar 0) (tC (.int 5))) (tC (.str "old"))))) (tRet (tC (.bl false))) (tNext)) (tRet (tOp (rIn K false) (tOp (rIxL K) (tVar 0) (tC (.int 6))) (tLst (tCons (tC (.str "none")) (tCons (tC (.str "down")) (tCons (tC (.str "up")) (tCons (tC (.str "both")) (tNil))))))))))))))) { nx := fun _ H' => Q .non H', rt := Q } [some (.ref L), some (.ref d), none, none, none, none, none, none] H := by
  have ea : isAv [wk, wa, wc, wd, ws, wt, wm] = ((inW wk ["2", "3", "4"] && numO (figOf wk) (figOf wa) (figOf wc) (figOf wd)) &&
      (decide (V.str ws ∈ stopsV) && (decide (V.str wt ∈ toldsV) && ((!(decide (V.str ws ∈ looksV) && decide (wt ≠ "old"))) && decide (V.str wm ∈ mendsV))))) := by
    rw [inW_eq]; rfl
  have tl : ∀ {H1 : Hp} {nk na nc nd : Int} {v1 v2 v3 : Option V}, Ext H H1 → decide (wk ∈ (["2", "3", "4"] : List Str)) = true → figOf wk = some nk → figOf wa = some na → figOf wc = some nc → figOf wd = some nd →
    (tSeq (tIfS (tOr (tTest (tOp FW.rLt (tVar 5) (tC (.int 1)))) (tOr (tTest (tOp FW.rLt (tVar 6) (tC (.int 1)))) (tOr (tTest (tOp FW.rLt (tVar 5) (tOp FW.rMul (tVar 6) (tOp FW.rSub (tVar 4) (tC (.int 1)))))) (tTest (tOp FW.rGt (tOp FW.rAdd (tVar 5) (tVar 6)) (tC (.int 6))))))) (tRet (tC (.bl false))) (tNext)) (tSeq (tIfS (tOr (tTest (tOp FW.rLt (tVar 7) (tOp FW.rSub (tC (.int 0)) (tVar 5)))) (tTest (tOp FW.rGt (tVar 7) (tOp FW.rAdd (tVar 5) (tVar 6))))) (tRet (tC (.bl false))) (tNext)) (tSeq (tIfS (tTest (tOp (rIn K true) (tOp (rIxL K) (tVar 0) (tC (.int 4))) (tLst (tCons (tC (.str "notless")) (tCons (tC (.str "equal")) (tCons (tC (.str "near1")) (tCons (tC (.str "near2")) (tCons (tC (.str "back")) (tCons (tC (.str "under")) (tCons (tC (.str "held")) (tNil))))))))))) (tRet (tC (.bl false))) (tNext)) (tSeq (tIfS (tTest (tOp (rIn K true) (tOp (rIxL K) (tVar 0) (tC (.int 5))) (tLst (tCons (tC (.str "old")) (tCons (tC (.str "new")) (tCons (tC (.str "less")) (tCons (tC (.str "more")) (tNil)))))))) (tRet (tC (.bl false))) (tNext)) (tSeq (tIfS (tAnd (tTest (tOp (rIn K false) (tOp (rIxL K) (tVar 0) (tC (.int 4))) (tLst (tCons (tC (.str "under")) (tCons (tC (.str "held")) (tNil)))))) (tTest (tOp rNe (tOp (rIxL K) (tVar 0) (tC (.int 5))) (tC (.str "old"))))) (tRet (tC (.bl false))) (tNext)) (tRet (tOp (rIn K false) (tOp (rIxL K) (tVar 0) (tC (.int 6))) (tLst (tCons (tC (.str "none")) (tCons (tC (.str "down")) (tCons (tC (.str "up")) (tCons (tC (.str "both")) (tNil))))))))))))) { nx := fun _ H' => Q .non H', rt := Q } [some (.ref L), v1, v2, v3, some (.int nk), some (.int na), some (.int nc), some (.int nd)] H1 := fun e hb fk fa fc fd => avg_t3 (e _ _ hL) hb fk fa fc fd fun H' e' => q H' (e.tr e')
  generalize (tSeq (tIfS (tOr (tTest (tOp FW.rLt (tVar 5) (tC (.int 1)))) (tOr (tTest (tOp FW.rLt (tVar 6) (tC (.int 1)))) (tOr (tTest (tOp FW.rLt (tVar 5) (tOp FW.rMul (tVar 6) (tOp FW.rSub (tVar 4) (tC (.int 1)))))) (tTest (tOp FW.rGt (tOp FW.rAdd (tVar 5) (tVar 6)) (tC (.int 6))))))) (tRet (tC (.bl false))) (tNext)) (tSeq (tIfS (tOr (tTest (tOp FW.rLt (tVar 7) (tOp FW.rSub (tC (.int 0)) (tVar 5)))) (tTest (tOp FW.rGt (tVar 7) (tOp FW.rAdd (tVar 5) (tVar 6))))) (tRet (tC (.bl false))) (tNext)) (tSeq (tIfS (tTest (tOp (rIn K true) (tOp (rIxL K) (tVar 0) (tC (.int 4))) (tLst (tCons (tC (.str "notless")) (tCons (tC (.str "equal")) (tCons (tC (.str "near1")) (tCons (tC (.str "near2")) (tCons (tC (.str "back")) (tCons (tC (.str "under")) (tCons (tC (.str "held")) (tNil))))))))))) (tRet (tC (.bl false))) (tNext)) (tSeq (tIfS (tTest (tOp (rIn K true) (tOp (rIxL K) (tVar 0) (tC (.int 5))) (tLst (tCons (tC (.str "old")) (tCons (tC (.str "new")) (tCons (tC (.str "less")) (tCons (tC (.str "more")) (tNil)))))))) (tRet (tC (.bl false))) (tNext)) (tSeq (tIfS (tAnd (tTest (tOp (rIn K false) (tOp (rIxL K) (tVar 0) (tC (.int 4))) (tLst (tCons (tC (.str "under")) (tCons (tC (.str "held")) (tNil)))))) (tTest (tOp rNe (tOp (rIxL K) (tVar 0) (tC (.int 5))) (tC (.str "old"))))) (tRet (tC (.bl false))) (tNext)) (tRet (tOp (rIn K false) (tOp (rIxL K) (tVar 0) (tC (.int 6))) (tLst (tCons (tC (.str "none")) (tCons (tC (.str "down")) (tCons (tC (.str "up")) (tCons (tC (.str "both")) (tNil))))))))))))) = TL at *
  with_reducible refine s_seq ?_
  with_reducible refine FW.s_if ?_
  unfold tOr tTest
  refine e_win (ws := [wk, wa, wc, wd, ws, wt, wm]) (gs := ["2", "3", "4"]) (w := wk) rfl hL rfl (fun S hS => by walk_at "re"; exact hS) (by decide) fun H1 e1 => ⟨_, rfl, ?_⟩
  dsimp only
  cases c : inW wk ["2", "3", "4"] with
  | false =>
    rw [ea, c] at q
    rw [if_pos (show (if true = true then !false else false) = true from rfl)]
    exact FW.s_ret (e_c (q H1 e1))
  | true =>
    rw [if_neg (show ¬ (if true = true then !true else true) = true by decide)]
    have hb : decide (wk ∈ (["2", "3", "4"] : List Str)) = true := by rw [← inW_eq]; exact c
    walk_at "re"
    refine e_sl (e_var (e_part (e_c ⟨_, rfl, e_part (e_c ⟨_, rfl, e_slL (fun S hS => ?_) (SqL.of (e1 _ _ hL))⟩)⟩)) rfl)
    have e2 := Ext.new (o := .lst (cutV ([wk, wa, wc, wd, ws, wt, wm].map V.str) (some 1) (some 4))) hS
    have hS1 : (upd H1 S (.lst (cutV ([wk, wa, wc, wd, ws, wt, wm].map V.str) (some 1) (some 4)))) S = some (.lst ([wa, wc, wd].map V.str)) := upd_same
    generalize upd H1 S (.lst (cutV ([wk, wa, wc, wd, ws, wt, wm].map V.str) (some 1) (some 4))) = H2 at *
    refine ⟨S, rfl, ⟨_, SqL.of hS1⟩, lc_has (K := K) (ws := [wa, wc, wd]) rfl rfl hS1 (e2 _ _ (e1 _ _ hd)) (by show 3 ≤ 1000; decide) fun D G e3 hG => ?_⟩
    walk_at "re"
    refine e_all (bs := [(figOf wa).isSome, (figOf wc).isSome, (figOf wd).isSome]) ?_ (SqL.of hG)
    have e13 := e1.tr (e2.tr e3)
    refine ⟨_, rfl, ?_⟩
    have ba : ([(figOf wa).isSome, (figOf wc).isSome, (figOf wd).isSome] : List Bool).all id = ((figOf wa).isSome && ((figOf wc).isSome && (figOf wd).isSome)) := by simp
    rw [ba]
    cases cb : ((figOf wa).isSome && ((figOf wc).isSome && (figOf wd).isSome)) with
    | false =>
      rw [if_pos (show (!false) = true from rfl)]
      have n0 : numO (figOf wk) (figOf wa) (figOf wc) (figOf wd) = false := by
        cases h1 : figOf wk <;> cases h2 : figOf wa <;> cases h3 : figOf wc <;> cases h4 : figOf wd <;> first | rfl | (rw [h2, h3, h4] at cb; cases cb)
      rw [ea, n0, Bool.and_false] at q
      exact FW.s_ret (e_c (q G e13))
    | true =>
      rw [if_neg (show ¬ (!true) = true by decide)]
      simp only [Bool.and_eq_true] at cb
      obtain ⟨sa, sc, sd⟩ := cb
      have sk : (figOf wk).isSome = true := by
        have m := of_decide_eq_true hb
        simp only [List.mem_cons, List.not_mem_nil, or_false] at m
        rcases m with rfl | rfl | rfl <;> decide +kernel
      obtain ⟨nk, fk⟩ := Option.isSome_iff_exists.mp sk
      obtain ⟨na, fa⟩ := Option.isSome_iff_exists.mp sa
      obtain ⟨nc, fc⟩ := Option.isSome_iff_exists.mp sc
      obtain ⟨nd, fd⟩ := Option.isSome_iff_exists.mp sd
      walk_at "rd"
      refine e_sl (e_var (e_noP (e_part (e_c ⟨_, rfl, e_slL (fun S2 hS2 => ?_) (SqL.of (e13 _ _ hL))⟩))) rfl)
      have e4 := Ext.new (o := .lst (cutV ([wk, wa, wc, wd, ws, wt, wm].map V.str) none (some 4))) hS2
      have hS3 : (upd G S2 (.lst (cutV ([wk, wa, wc, wd, ws, wt, wm].map V.str) none (some 4)))) S2 = some (.lst ([wk, wa, wc, wd].map V.str)) := upd_same
      generalize upd G S2 (.lst (cutV ([wk, wa, wc, wd, ws, wt, wm].map V.str) none (some 4))) = H4 at *
      refine ⟨S2, rfl, ⟨_, SqL.of hS3⟩, lc_figs (K := K) (ws := [wk, wa, wc, wd]) rfl rfl hS3 (e4 _ _ (e13 _ _ hd)) (by show 4 ≤ 1000; decide) (fun w hw => ?_) fun D2 G2 e5 hG2 => ?_⟩
      · simp only [List.mem_cons, List.not_mem_nil, or_false] at hw
        rcases hw with rfl | rfl | rfl | rfl <;> assumption
      · rw [show ([wk, wa, wc, wd].map fun w => V.int ((figOf w).getD 0)) = [V.int nk, .int na, .int nc, .int nd] by simp only [List.map_cons, List.map_nil, fk, fa, fc, fd]; rfl] at hG2
        refine ha_gL (xs := [V.int nk, .int na, .int nc, .int nd]) hG2 rfl ?_
        walk_at "rd"
        exact tl (e13.tr (e4.tr e5)) hb fk fa fc fd
end
theorem pure_l_is_average (K : PySem.W.Frag) (vs : List V) (H : Hp) (Q : VK) (E : XK) (h : sp_l_is_average K vs H Q E) : rd_l_is_average K { nx := fun _ H' => Q .non H', rt := Q } (start ["_law_words", "_law_figures", "_law_number", "_law_word", "_law_k", "_law_a", "_law_c", "_law_d"] vs) H := by
  obtain ⟨L, ws, rfl, hL, hl, q⟩ := h
  match ws, hl with
  | [wk, wa, wc, wd, ws, wt, wm], _ =>
  unfold rd_l_is_average
  walk_at "rd"
  · refine fig_lc (K := K) rfl fun D G ps e1 hD hps => ?_
    walk_at "re"
    refine ⟨D, ps, figK, rfl, SqL.of hD, paired_sqt hps, fun d hd => ?_⟩
    rw [figK_merge]
    have e2 := Ext.new (o := .dK figK) hd
    have hd2 : (upd G d (.dK figK)) d = some (.dK figK) := upd_same
    generalize upd G d (.dK figK) = G2 at *
    have hL2 := e2 _ _ (e1 _ _ hL)
    have q2 : ∀ H', Ext G2 H' → Q (.bl (isAv [wk, wa, wc, wd, ws, wt, wm])) H' := fun H' e => q H' (e1.tr (e2.tr e))
    exact avg_t1 hL2 hd2 q2
  · decide
end FWL
namespace FWL
open PySem PySem.Spec PyProof.Rows L2 FW
/-! ### k53: is_text, walked -/
/-- rows of words -/
def RowsS (H : Hp) (xs : List V) (gs : List (List Str)) : Prop := Paired (fun v g => ∃ a, v = V.ref a ∧ H a = some (.lst (g.map V.str))) xs gs
theorem RowsS.ext {H H' : Hp} {xs : List V} {gs : List (List Str)} (h : RowsS H xs gs) (e : ∀ a ys, (∃ g : List Str, ys = g.map V.str) → H a = some (.lst ys) → H' a = some (.lst ys)) : RowsS H' xs gs := by
  unfold RowsS at *
  induction h with
  | nil => exact .nil
  | cons a _ ih =>
    obtain ⟨x, rfl, hx⟩ := a
    exact .cons ⟨x, rfl, e _ _ ⟨_, rfl⟩ hx⟩ ih
inductive RowsTA : List (List Str) → TA → Prop
  | nil : RowsTA [] tNil
  | cons {g : List Str} {gs : List (List Str)} {tl ta : TA} (h : ∀ (σ : L2.St) (H : Hp) (S : List V → Hp → Prop), S (g.map V.str) H → tl σ H S) (z : g.length ≤ 1000) (r : RowsTA gs ta) : RowsTA (g :: gs) (tCons (tLst tl) ta)
theorem RowsTA.run {gs : List (List Str)} {ta : TA} (r : RowsTA gs ta) : ∀ {σ : L2.St} {H : Hp} {S : List V → Hp → Prop}, (∀ xs H', Ext H H' → RowsS H' xs gs → S xs H') → ta σ H S := by
  induction r with
  | nil => intro σ H S k; exact e_nil (k [] H (fun _ _ z => z) .nil)
  | @cons g gs tl ta h z r ih =>
    intro σ H S k
    refine e_cons (e_lst (h σ H _ ⟨by rw [List.length_map]; exact Nat.le_trans z (by decide), fun t ht => ih fun xs H' e r' => k (.ref t :: xs) H' ((Ext.new ht).tr e) (.cons ⟨t, rfl, e _ _ upd_same⟩ r')⟩))
theorem RowsS.upd {H : Hp} {b : Addr} {o o' : HO} {xs : List V} {gs : List (List Str)} (h : RowsS H xs gs) (hb : H b = some o) (no : ∀ g : List Str, o ≠ .lst (g.map V.str)) : RowsS (upd H b o') xs gs :=
  h.ext fun a ys ⟨g, eg⟩ ha => by
    rw [upd_ne fun z => ?_]
    · exact ha
    · rw [z, hb] at ha
      injection ha with ha
      exact no g (by rw [ha, eg])
theorem RowsS.none {H : Hp} {b : Addr} {o' : HO} {xs : List V} {gs : List (List Str)} (h : RowsS H xs gs) (hb : H b = Option.none) : RowsS (L2.upd H b o') xs gs :=
  h.ext fun a ys _ ha => by
    rw [upd_ne fun z => ?_]
    · exact ha
    · rw [z, hb] at ha; cases ha
theorem RowsS.extE {H H' : Hp} {xs : List V} {gs : List (List Str)} (h : RowsS H xs gs) (e : Ext H H') : RowsS H' xs gs := h.ext fun a ys _ ha => e _ _ ha
theorem RowsS.app {H : Hp} {xs ys : List V} {gs hs : List (List Str)} (h : RowsS H xs gs) (k : RowsS H ys hs) : RowsS H (xs ++ ys) (gs ++ hs) := by
  induction h with
  | nil => exact k
  | cons a _ ih => exact .cons a (ih)
theorem RowsS.len {H : Hp} {xs : List V} {gs : List (List Str)} (h : RowsS H xs gs) : xs.length = gs.length := Paired.length h
/-- a list of rows is no list of texts -/
theorem RowsS.no {H : Hp} {xs : List V} {g : List Str} {gs : List (List Str)} (h : RowsS H xs (g :: gs)) : ∀ l : List Str, HO.lst xs ≠ .lst (l.map V.str) := fun l e => by
  cases h with
  | cons a _ =>
    obtain ⟨x, rfl, _⟩ := a
    injection e with e
    cases l with
    | nil => cases e
    | cons s r => rw [List.map_cons] at e; injection e with e _; cases e
theorem e_disp {trs : List (TE × TE)} {σ : L2.St} {H : Hp} {Q : VK} (k : ∀ p, H p = none → tPairs trs σ (upd H p (.dK [])) fun ps H2 => H2 p = some (.dK []) ∧ ∃ kvs : List (L2.Key × V), ps = kvs.map (fun kv => (kV kv.1, kv.2)) ∧ kvs.length ≤ 15 ∧ Q (.ref p) (upd H2 p (.dK (mergeK [] kvs)))) : tDisp trs σ H Q := k
theorem e_prs {tk tv : TE} {r : List (TE × TE)} {σ : L2.St} {H : Hp} {Q : List (V × V) → Hp → Prop} (k : tk σ H fun x H1 => tv σ H1 fun y H2 => tPairs r σ H2 fun ps H3 => Q ((x, y) :: ps) H3) : tPairs ((tk, tv) :: r) σ H Q := k
theorem e_prs0 {σ : L2.St} {H : Hp} {Q : List (V × V) → Hp → Prop} (k : Q [] H) : tPairs [] σ H Q := k
theorem d_get {σ : L2.St} {H : Hp} {Q : VK} {d : Addr} {kvs : List (L2.Key × V)} {w : Str} {v : V} (hσ : σ[2]? = some (some (.ref d))) (hd : H d = some (.dK kvs)) (hv : valV kvs (.inr w) = some v) (q : Q v H) : tDGet (tVar 2) (tC (.str w)) σ H Q :=
  e_get (e_var (e_c ⟨d, v, rfl, by have g := DGet.k (k := .inr w) hd; rw [hv] at g; exact g, q⟩) hσ)
theorem d_get0 {σ : L2.St} {H : Hp} {Q : VK} {d p : Addr} {kvs : List (L2.Key × V)} {ws : List V} {w : Str} {v : V} {K : PySem.W.Frag} (hσ : σ[2]? = some (some (.ref d))) (hσ1 : σ[1]? = some (some (.ref p))) (hp : H p = some (.lst ws)) (h0 : atI ws 0 = some (.str w)) (hd : H d = some (.dK kvs)) (hv : valV kvs (.inr w) = some v) (q : Q v H) : tDGet (tVar 2) (tOp (rIxL K) (tVar 1) (tC (.int 0))) σ H Q :=
  e_get (e_var (e_op (e_var (e_c (ha_ixL hp h0 ⟨d, v, rfl, by have g := DGet.k (k := .inr w) hd; rw [hv] at g; exact g, q⟩)) hσ1)) hσ)
def hvG4 : List (List Str) := [["0", "1"], ["upto", "below"], ["0", "1"], ["0", "1"]]
def slG3 : List (List Str) := [["upto", "below"], ["half", "same", "double"], ["1", "2"]]
def kHS (h s : Addr) : List (L2.Key × V) := [(.inr "halves", .ref h), (.inr "steps", .ref s)]
def sp_l_is_text (K : PySem.W.Frag) : Sp := fun vs H Q _ => ∃ z : Str, vs = [.str z] ∧ z.length ≤ 100000 ∧ ∀ H', Ext H H' → Q (.bl (isTx z)) H'
def rd_l_is_text (K : PySem.W.Frag) : TS := tSeq (tAsg (tM1 FW.rSplit (tVar 0) (tC (.str " "))) (gName 1)) (tSeq (tIfS (tTest (tOp rEq (tOp (rIxL K) (tVar 1) (tC (.int 0))) (tC (.str "average")))) (tRet (tAndV (tOp rEq (tCB (Evl.rLenS K) (tCons (tVar 1) (tNil))) (tC (.int 8))) (tCall (sp_l_is_average K) [] E0 (tCons (tSl (rSlL K) (tVar 1) (tPart (tC (.int 1))) (tNoPart)) (tNil))))) (tNext)) (tSeq (tAsg (tDisp [(tC (.str "halves"), tLst (tCons (tLst (tCons (tC (.str "0")) (tCons (tC (.str "1")) (tNil)))) (tCons (tLst (tCons (tC (.str "upto")) (tCons (tC (.str "below")) (tNil)))) (tCons (tLst (tCons (tC (.str "0")) (tCons (tC (.str "1")) (tNil)))) (tCons (tLst (tCons (tC (.str "0")) (tCons (tC (.str "1")) (tNil)))) (tNil))))))]) (gName 2)) (tSeq (tDrop (tBM K "list" rAppend (tDGet (tVar 2) (tC (.str "halves"))) (tCons (tLst (tCons (tC (.str "less")) (tCons (tC (.str "most")) (tCons (tC (.str "wide")) (tNil))))) (tNil)))) (tSeq (tDrop (tBM K "list" rExtend (tDGet (tVar 2) (tC (.str "halves"))) (tCons (tLst (tCons (tLst (tCons (tC (.str "low")) (tCons (tC (.str "high")) (tNil)))) (tCons (tLst (tCons (tC (.str "-1")) (tCons (tC (.str "0")) (tCons (tC (.str "1")) (tNil))))) (tNil)))) (tNil)))) (tSeq (sDPut (tVar 2) (tC (.str "steps")) (tLst (tCons (tLst (tCons (tC (.str "upto")) (tCons (tC (.str "below")) (tNil)))) (tCons (tLst (tCons (tC (.str "half")) (tCons (tC (.str "same")) (tCons (tC (.str "double")) (tNil))))) (tCons (tLst (tCons (tC (.str "1")) (tCons (tC (.str "2")) (tNil)))) (tNil)))))) (tSeq (tDrop (tBM K "list" rAppend (tDGet (tVar 2) (tC (.str "steps"))) (tCons (tLst (tCons (tC (.str "-1")) (tCons (tC (.str "0")) (tCons (tC (.str "1")) (tNil))))) (tNil)))) (tSeq (tIfS (tOr (tB (tDNotIn (tOp (rIxL K) (tVar 1) (tC (.int 0))) (tVar 2))) (tTest (tOp rNe (tCB (Evl.rLenS K) (tCons (tVar 1) (tNil))) (tOp FW.rAdd (tCB (Evl.rLenS K) (tCons (tDGet (tVar 2) (tOp (rIxL K) (tVar 1) (tC (.int 0)))) (tNil))) (tC (.int 1)))))) (tRet (tC (.bl false))) (tNext)) (tSeq (tAsg (FW.tListZip K (tCons (tSl (rSlL K) (tVar 1) (tPart (tC (.int 1))) (tNoPart)) (tCons (tDGet (tVar 2) (tOp (rIxL K) (tVar 1) (tC (.int 0)))) (tNil)))) (gName 3)) (tRet (tCB (rAll K) (tCons (tLc (iList K (tVar 3)) (gTup K 2 (gCons (gName 4) (gCons (gName 5) (gNil)))) (tYes) (tOp (rIn K false) (tVar 4) (tVar 5)) [4, 5]) (tNil))))))))))))
/-- some[w].append([..]) -/
theorem st_app {K : PySem.W.Frag} {σ : L2.St} {H : Hp} {D : Ends} {d l : Addr} {kvs : List (L2.Key × V)} {w : Str} {xs : List V} {g0 g : List Str} {gs : List (List Str)} {tl : TA} (hσ : σ[2]? = some (some (.ref d))) (hd : H d = some (.dK kvs)) (hv : valV kvs (.inr w) = some (.ref l)) (hl : H l = some (.lst xs))
    (r : RowsS H xs (g0 :: gs)) (hz : (g0 :: gs).length ≤ 1000) (hg : g.length ≤ 1000) (hA : ∀ S : List V → Hp → Prop, S (g.map V.str) H → tl σ H S) (k : ∀ H' xs', (∀ b o, b ≠ l → H b = some o → H' b = some o) → H' l = some (.lst xs') → RowsS H' xs' ((g0 :: gs) ++ [g]) → D.nx σ H') :
    tDrop (tBM K "list" rAppend (tDGet (tVar 2) (tC (.str w))) (tCons (tLst tl) (tNil))) D σ H := by
  refine FW.s_drop (FW.e_bm (d_get hσ hd hv (ha_tyL hl (e_cons (e_lst (hA _ ⟨by rw [List.length_map]; exact Nat.le_trans hg (by decide), fun t ht => e_nil ?_⟩))))))
  have e := Ext.new (o := .lst (g.map V.str)) ht
  have nt : t ≠ l := fun z => by rw [z, hl] at ht; cases ht
  have rl := r.len
  refine ha_app (e _ _ hl) (by rw [rl]; exact Nat.lt_of_le_of_lt hz (by decide)) ?_
  refine k _ _ (fun b o nb z => by rw [upd_ne nb]; exact e _ _ z) upd_same ?_
  refine (((r.none ht).upd (e _ _ hl) (r.no)).app (.cons ⟨t, rfl, ?_⟩ .nil))
  rw [upd_ne nt]
  exact upd_same
/-- some[w].extend([[..], ..]) -/
theorem st_ext {K : PySem.W.Frag} {σ : L2.St} {H : Hp} {D : Ends} {d l : Addr} {kvs : List (L2.Key × V)} {w : Str} {xs : List V} {g0 : List Str} {gs hs : List (List Str)} {ta : TA} (hσ : σ[2]? = some (some (.ref d))) (hd : H d = some (.dK kvs)) (hv : valV kvs (.inr w) = some (.ref l)) (hl : H l = some (.lst xs))
    (r : RowsS H xs (g0 :: gs)) (hz : (g0 :: gs).length + hs.length ≤ 1000) (hA : RowsTA hs ta) (k : ∀ H' xs', (∀ b o, b ≠ l → H b = some o → H' b = some o) → H' l = some (.lst xs') → RowsS H' xs' ((g0 :: gs) ++ hs) → D.nx σ H') :
    tDrop (tBM K "list" rExtend (tDGet (tVar 2) (tC (.str w))) (tCons (tLst ta) (tNil))) D σ H := by
  refine FW.s_drop (FW.e_bm (d_get hσ hd hv (ha_tyL hl (e_cons (e_lst (hA.run fun zs H1 e1 r1 => ⟨by rw [r1.len]; exact Nat.le_trans (by omega) (show 1000 ≤ sizeLine by decide), fun t ht => e_nil ?_⟩))))))
  have e := Ext.new (o := .lst zs) ht
  have hl1 := e1 _ _ hl
  have nt : t ≠ l := fun z => by rw [z, hl1] at ht; cases ht
  have rl := r.len
  have rl1 := r1.len
  refine ⟨l, t, xs, zs, rfl, rfl, e _ _ hl1, upd_same, by rw [rl, rl1]; exact Nat.le_trans hz (by decide), ?_⟩
  refine k _ _ (fun b o nb z => by rw [upd_ne nb]; exact e _ _ (e1 _ _ z)) upd_same ?_
  exact (((r.extE e1).none ht).upd (e _ _ hl1) r.no).app ((r1.none ht).upd (e _ _ hl1) r.no)
theorem put_hs {h s : Addr} : putK [((.inr "halves" : L2.Key), V.ref h)] (.inr "steps") (.ref s) = kHS h s := by
  unfold putK
  rw [if_neg (by simp only [List.any_cons, List.any_nil, Bool.or_false, decide_eq_true_eq]; decide +kernel)]
  rfl
theorem val_h {h s : Addr} : valV (kHS h s) (.inr "halves") = some (.ref h) := valV_pos rfl
theorem val_s {h s : Addr} : valV (kHS h s) (.inr "steps") = some (.ref s) := by
  unfold kHS
  rw [valV_neg (show ¬ (Sum.inr "halves" : L2.Key) = .inr "steps" by decide +kernel)]
  exact valV_pos rfl
theorem val_no {h s : Addr} {w : Str} (h1 : ¬ w = "halves") (h2 : ¬ w = "steps") : valV (kHS h s) (.inr w) = none := by
  unfold kHS
  rw [valV_neg (fun z => h1 (Sum.inr.inj z).symm), valV_neg (fun z => h2 (Sum.inr.inj z).symm)]
  rfl
theorem if_t {b : Bool} {A B : Prop} (h : b = true) (k : A) : if b = true then A else B := by rw [if_pos h]; exact k
theorem if_f {b : Bool} {A B : Prop} (h : b = false) (k : B) : if b = true then A else B := by rw [if_neg (by rw [h]; decide)]; exact k
theorem RowsS.at' {H : Hp} : ∀ {xs : List V} {gs : List (List Str)} {i : Nat} {y : V}, RowsS H xs gs → xs[i]? = some y → ∃ g a, gs[i]? = some g ∧ y = .ref a ∧ H a = some (.lst (g.map V.str))
  | [], _, i, y, _, h => by cases i <;> cases h
  | x :: xs, _, i, y, .cons (b := g) a r, h => by
    cases i with
    | zero =>
      cases h
      obtain ⟨b, e, hb⟩ := a
      exact ⟨g, b, rfl, e, hb⟩
    | succ i => exact RowsS.at' (i := i) r h
theorem lc_rows {K : PySem.W.Frag} {s0 s1 s2 s3 s4 s5 : Option V} {H : Hp} {Q : VK} {t : Addr} {ts : List Addr} {ws : List Str} {gs : List (List Str)} {xl : List V} (h3 : H t = some (.lst (ts.map V.ref))) (rl : RowsS H xl gs) (he : ws.length = gs.length) (hlen : ts.length = ws.length) (hz : gs.length ≤ 10)
    (hpr : ∀ (j : Nat) (t : Addr), ts[j]? = some t → ∃ x y, (ws.map V.str)[j]? = some x ∧ xl[j]? = some y ∧ H t = some (.tup [x, y])) (q : ∀ D G, Ext H G → G D = some (.lst ((ws.zip gs).map fun z => V.bl (decide (z.1 ∈ z.2)))) → Q (.ref D) G) :
    LcK (gTup K 2 (gCons (gName 4) (gCons (gName 5) gNil))) tYes (tOp (rIn K false) (tVar 4) (tVar 5)) [4, 5] [s0, s1, s2, s3, s4, s5] Q (Itl K t) H := by
  intro D hD
  refine lc_list (K := K) (a := t) (xs := ts.map V.ref) (fun i H' => Ext H H' ∧ H' D = some (.lst (((ws.zip gs).take i).map fun z => V.bl (decide (z.1 ∈ z.2))))) ⟨Ext.new hD, upd_same⟩ (fun i H' _ h' => SqL.of (h'.1 _ _ h3)) ?_ ?_
  · rintro i x H' hx ⟨e, hD'⟩
    obtain ⟨ti, hti, rfl⟩ : ∃ ti, ts[i]? = some ti ∧ x = V.ref ti := by
      rw [List.getElem?_map] at hx
      obtain ⟨ti, h1, h2⟩ := Option.map_eq_some_iff.mp hx
      exact ⟨ti, h1, h2.symm⟩
    obtain ⟨x1, y1, ew, ey, htu⟩ := hpr i ti hti
    obtain ⟨w, hw, rfl⟩ : ∃ w, ws[i]? = some w ∧ x1 = V.str w := by
      rw [List.getElem?_map] at ew
      obtain ⟨w, h1, h2⟩ := Option.map_eq_some_iff.mp ew
      exact ⟨w, h1, h2.symm⟩
    obtain ⟨g, a, hg, rfl, ha⟩ := rl.at' ey
    have hzip : (ws.zip gs)[i]? = some (w, g) := by
      rw [List.getElem?_zip_eq_some]
      exact ⟨hw, hg⟩
    refine g_tup ?_ (SqT.of (e _ _ htu)) rfl
    refine g_cons (g_name (g_cons (g_name (g_nil ?_))))
    refine ⟨rfl, ?_⟩
    unfold tYes
    dsimp only
    rw [if_pos rfl]
    walk_at "re"
    refine e_in ?_ (.inl (SqL.of (e _ _ ha))) rfl (flat_strs g)
    rw [inV_strs, inW_eq, if_neg (show ¬ false = true by decide)]
    refine ⟨_, hD', ?_, e.upds hD, ?_⟩
    · rw [List.length_map, List.length_take, List.length_zip]
      show _ < 2 ^ 24
      omega
    · rw [upd_same, List.take_add_one, hzip, List.map_append]
      rfl
  · rintro H' ⟨e, hD'⟩
    rw [List.take_of_length_le (by rw [List.length_map, List.length_zip]; omega)] at hD'
    exact q D H' e hD'
section
variable {K : PySem.W.Frag} {H : Hp} {Q : VK} {z w0 : Str} {ws : List Str} {p : Addr}
theorem text_t8 {d h s l : Addr} {xl : List V} {gs : List (List Str)} (hp : H p = some (.lst ((w0 :: ws).map V.str))) (hl : ws.length ≤ 200000) (hd : H d = some (.dK (kHS h s))) (hv : valV (kHS h s) (.inr w0) = some (.ref l)) (hll : H l = some (.lst xl)) (rl : RowsS H xl gs) (hz : gs.length ≤ 10) (he : ws.length = gs.length) (q : ∀ H', Ext H H' → Q (.bl (inAll ws gs)) H') :
    (tSeq (tAsg (FW.tListZip K (tCons (tSl (rSlL K) (tVar 1) (tPart (tC (.int 1))) (tNoPart)) (tCons (tDGet (tVar 2) (tOp (rIxL K) (tVar 1) (tC (.int 0)))) (tNil)))) (gName 3)) (tRet (tCB (rAll K) (tCons (tLc (iList K (tVar 3)) (gTup K 2 (gCons (gName 4) (gCons (gName 5) (gNil)))) (tYes) (tOp (rIn K false) (tVar 4) (tVar 5)) [4, 5]) (tNil))))) { nx := fun _ H' => Q .non H', rt := Q } [some (.str z), some (.ref p), some (.ref d), none, none, none] H := by
  have a0 : atI ((w0 :: ws).map V.str) 0 = some (.str w0) := by
    unfold atI ixN
    rw [if_pos (by decide), if_pos (by rw [List.length_map, List.length_cons]; omega)]
    rfl
  walk_at "rd"
  unfold FW.tListZip
  refine e_cons (e_sl (e_var (e_part (e_c ⟨_, rfl, e_noP (e_slL (fun S hS => ?_) (SqL.of hp))⟩)) rfl))
  rw [show (1 : Int) = ((1 : Nat) : Int) from rfl, cut_from _ 1 (by rw [List.length_map, List.length_cons]; omega)]
  have e2 := Ext.new (o := .lst (((w0 :: ws).map V.str).drop 1)) hS
  have hS1 : (L2.upd H S (.lst (((w0 :: ws).map V.str).drop 1))) S = some (.lst (ws.map V.str)) := upd_same
  generalize L2.upd H S (.lst (((w0 :: ws).map V.str).drop 1)) = H2 at *
  refine e_cons (d_get0 rfl rfl (e2 _ _ hp) a0 (e2 _ _ hd) hv (e_nil ⟨S, l, _, _, rfl, SqL.of hS1, SqL.of (e2 _ _ hll), fun H3 t ts e3 ht hts nt h3 hlen hpr => ?_⟩))
  walk_at "rd"
  have e13 : Ext H H3 := e2.tr e3
  refine ⟨t, rfl, ⟨_, SqL.of h3⟩, lc_rows (K := K) h3 (rl.extE e13) he (by rw [hlen, List.length_map, rl.len, he, Nat.min_self]) hz hpr fun D G e4 hG => ?_⟩
  walk_at "re"
  refine e_all (bs := (ws.zip gs).map fun z => decide (z.1 ∈ z.2)) ?_ (SqL.of (by rw [List.map_map]; exact hG))
  have ei : ((ws.zip gs).map fun z => decide (z.1 ∈ z.2)).all id = inAll ws gs := by
    unfold inAll
    rw [List.all_map]
    rfl
  rw [ei]
  exact q G (e13.tr e4)
theorem text_t7 {d h s : Addr} {xh xs : List V} (hp : H p = some (.lst ((w0 :: ws).map V.str))) (hl : ws.length ≤ 200000) (c1 : ¬ w0 = "average") (hd : H d = some (.dK (kHS h s))) (hh : H h = some (.lst xh)) (rh : RowsS H xh hvG) (hs : H s = some (.lst xs)) (rs : RowsS H xs slG) (q : ∀ H', Ext H H' → Q (.bl (isW w0 ws)) H') :
    (tSeq (tIfS (tOr (tB (tDNotIn (tOp (rIxL K) (tVar 1) (tC (.int 0))) (tVar 2))) (tTest (tOp rNe (tCB (Evl.rLenS K) (tCons (tVar 1) (tNil))) (tOp FW.rAdd (tCB (Evl.rLenS K) (tCons (tDGet (tVar 2) (tOp (rIxL K) (tVar 1) (tC (.int 0)))) (tNil))) (tC (.int 1)))))) (tRet (tC (.bl false))) (tNext)) (tSeq (tAsg (FW.tListZip K (tCons (tSl (rSlL K) (tVar 1) (tPart (tC (.int 1))) (tNoPart)) (tCons (tDGet (tVar 2) (tOp (rIxL K) (tVar 1) (tC (.int 0)))) (tNil)))) (gName 3)) (tRet (tCB (rAll K) (tCons (tLc (iList K (tVar 3)) (gTup K 2 (gCons (gName 4) (gCons (gName 5) (gNil)))) (tYes) (tOp (rIn K false) (tVar 4) (tVar 5)) [4, 5]) (tNil)))))) { nx := fun _ H' => Q .non H', rt := Q } [some (.str z), some (.ref p), some (.ref d), none, none, none] H := by
  have a0 : atI ((w0 :: ws).map V.str) 0 = some (.str w0) := by
    unfold atI ixN
    rw [if_pos (by decide), if_pos (by rw [List.length_map, List.length_cons]; omega)]
    rfl
  have fin : ∀ {H1 : Hp} {l : Addr} {xl : List V} {gs : List (List Str)}, Ext H H1 → valV (kHS h s) (.inr w0) = some (.ref l) → H l = some (.lst xl) → RowsS H xl gs → gs.length ≤ 10 → ws.length = gs.length → inAll ws gs = isW w0 ws →
      (tSeq (tAsg (FW.tListZip K (tCons (tSl (rSlL K) (tVar 1) (tPart (tC (.int 1))) (tNoPart)) (tCons (tDGet (tVar 2) (tOp (rIxL K) (tVar 1) (tC (.int 0)))) (tNil)))) (gName 3)) (tRet (tCB (rAll K) (tCons (tLc (iList K (tVar 3)) (gTup K 2 (gCons (gName 4) (gCons (gName 5) (gNil)))) (tYes) (tOp (rIn K false) (tVar 4) (tVar 5)) [4, 5]) (tNil))))) { nx := fun _ H' => Q .non H', rt := Q } [some (.str z), some (.ref p), some (.ref d), none, none, none] H1 := fun e a1 a2 a3 a4 a5 a6 => text_t8 (e _ _ hp) hl (e _ _ hd) a1 (e _ _ a2) (a3.extE e) a4 a5 fun H' e' => by rw [a6]; exact q H' (e.tr e')
  have found : ∀ {l : Addr} {xl : List V} {gs : List (List Str)}, valV (kHS h s) (.inr w0) = some (.ref l) → H l = some (.lst xl) → RowsS H xl gs → gs.length ≤ 10 → (decide (ws.length = gs.length) && inAll ws gs) = isW w0 ws →
      (tSeq (tIfS (tOr (tB (tDNotIn (tOp (rIxL K) (tVar 1) (tC (.int 0))) (tVar 2))) (tTest (tOp rNe (tCB (Evl.rLenS K) (tCons (tVar 1) (tNil))) (tOp FW.rAdd (tCB (Evl.rLenS K) (tCons (tDGet (tVar 2) (tOp (rIxL K) (tVar 1) (tC (.int 0)))) (tNil))) (tC (.int 1)))))) (tRet (tC (.bl false))) (tNext)) (tSeq (tAsg (FW.tListZip K (tCons (tSl (rSlL K) (tVar 1) (tPart (tC (.int 1))) (tNoPart)) (tCons (tDGet (tVar 2) (tOp (rIxL K) (tVar 1) (tC (.int 0)))) (tNil)))) (gName 3)) (tRet (tCB (rAll K) (tCons (tLc (iList K (tVar 3)) (gTup K 2 (gCons (gName 4) (gCons (gName 5) (gNil)))) (tYes) (tOp (rIn K false) (tVar 4) (tVar 5)) [4, 5]) (tNil)))))) { nx := fun _ H' => Q .non H', rt := Q } [some (.str z), some (.ref p), some (.ref d), none, none, none] H := fun {l xl gs} hv hll rl hz hw => by
    have fin' := fun {H1 : Hp} (e : Ext H H1) => fin e hv hll rl hz
    generalize (tSeq (tAsg (FW.tListZip K (tCons (tSl (rSlL K) (tVar 1) (tPart (tC (.int 1))) (tNoPart)) (tCons (tDGet (tVar 2) (tOp (rIxL K) (tVar 1) (tC (.int 0)))) (tNil)))) (gName 3)) (tRet (tCB (rAll K) (tCons (tLc (iList K (tVar 3)) (gTup K 2 (gCons (gName 4) (gCons (gName 5) (gNil)))) (tYes) (tOp (rIn K false) (tVar 4) (tVar 5)) [4, 5]) (tNil))))) = TL at *
    with_reducible refine s_seq ?_
    with_reducible refine FW.s_if ?_
    unfold tOr tB tTest tDNotIn
    have g := DGet.k (k := .inr w0) hd
    rw [hv] at g
    refine e_op (e_var (e_c (ha_ixL hp a0 (e_var ⟨d, _, rfl, g, ⟨_, rfl, if_f rfl ?_⟩⟩ rfl))) rfl)
    refine e_op (e_cb (e_cons (e_var (e_nil (ha_len hp ?_)) rfl)))
    refine e_op (e_cb (e_cons (d_get0 rfl rfl hp a0 hd hv (e_nil (ha_len hll ?_)))))
    walk_at "re"
    rw [decI]
    dsimp only
    by_cases c : ws.length = gs.length
    · refine if_f (by rw [decide_eq_true (by rw [List.length_map, List.length_cons, rl.len, c]; omega)]; rfl) ?_
      rw [decide_eq_true c, Bool.true_and] at hw
      exact FW.s_next (fin' (fun _ _ z => z) c hw)
    · refine if_t (by rw [decide_eq_false (by rw [List.length_map, List.length_cons, rl.len]; omega)]; rfl) ?_
      rw [decide_eq_false c, Bool.false_and] at hw
      rw [← hw] at q
      exact FW.s_ret (e_c (q H fun _ _ z => z))
  by_cases c2 : w0 = "halves"
  · subst c2
    refine found val_h hh rh (by decide) ?_
    unfold isW
    rw [if_neg (by decide), if_pos rfl]
    rfl
  by_cases c3 : w0 = "steps"
  · subst c3
    refine found val_s hs rs (by decide) ?_
    unfold isW
    rw [if_neg (by decide), if_neg (by decide), if_pos rfl]
    rfl
  have ew : isW w0 ws = false := by
    unfold isW
    rw [if_neg c1, if_neg c2, if_neg c3]
  rw [ew] at q
  clear found fin
  generalize (tSeq (tAsg (FW.tListZip K (tCons (tSl (rSlL K) (tVar 1) (tPart (tC (.int 1))) (tNoPart)) (tCons (tDGet (tVar 2) (tOp (rIxL K) (tVar 1) (tC (.int 0)))) (tNil)))) (gName 3)) (tRet (tCB (rAll K) (tCons (tLc (iList K (tVar 3)) (gTup K 2 (gCons (gName 4) (gCons (gName 5) (gNil)))) (tYes) (tOp (rIn K false) (tVar 4) (tVar 5)) [4, 5]) (tNil))))) = TL at *
  with_reducible refine s_seq ?_
  with_reducible refine FW.s_if ?_
  unfold tOr tB tTest tDNotIn
  have g := DGet.k (k := .inr w0) hd
  rw [val_no c2 c3] at g
  exact e_op (e_var (e_c (ha_ixL hp a0 (e_var ⟨d, _, rfl, g, ⟨_, rfl, if_t rfl (if_t rfl (FW.s_ret (e_c (q H fun _ _ z => z))))⟩⟩ rfl))) rfl)
theorem text_t2 (hp : H p = some (.lst ((w0 :: ws).map V.str))) (hl : ws.length ≤ 200000) (c1 : ¬ w0 = "average") (q : ∀ H', Ext H H' → Q (.bl (isW w0 ws)) H') :
    (tSeq (tAsg (tDisp [(tC (.str "halves"), tLst (tCons (tLst (tCons (tC (.str "0")) (tCons (tC (.str "1")) (tNil)))) (tCons (tLst (tCons (tC (.str "upto")) (tCons (tC (.str "below")) (tNil)))) (tCons (tLst (tCons (tC (.str "0")) (tCons (tC (.str "1")) (tNil)))) (tCons (tLst (tCons (tC (.str "0")) (tCons (tC (.str "1")) (tNil)))) (tNil))))))]) (gName 2)) (tSeq (tDrop (tBM K "list" rAppend (tDGet (tVar 2) (tC (.str "halves"))) (tCons (tLst (tCons (tC (.str "less")) (tCons (tC (.str "most")) (tCons (tC (.str "wide")) (tNil))))) (tNil)))) (tSeq (tDrop (tBM K "list" rExtend (tDGet (tVar 2) (tC (.str "halves"))) (tCons (tLst (tCons (tLst (tCons (tC (.str "low")) (tCons (tC (.str "high")) (tNil)))) (tCons (tLst (tCons (tC (.str "-1")) (tCons (tC (.str "0")) (tCons (tC (.str "1")) (tNil))))) (tNil)))) (tNil)))) (tSeq (sDPut (tVar 2) (tC (.str "steps")) (tLst (tCons (tLst (tCons (tC (.str "upto")) (tCons (tC (.str "below")) (tNil)))) (tCons (tLst (tCons (tC (.str "half")) (tCons (tC (.str "same")) (tCons (tC (.str "double")) (tNil))))) (tCons (tLst (tCons (tC (.str "1")) (tCons (tC (.str "2")) (tNil)))) (tNil)))))) (tSeq (tDrop (tBM K "list" rAppend (tDGet (tVar 2) (tC (.str "steps"))) (tCons (tLst (tCons (tC (.str "-1")) (tCons (tC (.str "0")) (tCons (tC (.str "1")) (tNil))))) (tNil)))) (tSeq (tIfS (tOr (tB (tDNotIn (tOp (rIxL K) (tVar 1) (tC (.int 0))) (tVar 2))) (tTest (tOp rNe (tCB (Evl.rLenS K) (tCons (tVar 1) (tNil))) (tOp FW.rAdd (tCB (Evl.rLenS K) (tCons (tDGet (tVar 2) (tOp (rIxL K) (tVar 1) (tC (.int 0)))) (tNil))) (tC (.int 1)))))) (tRet (tC (.bl false))) (tNext)) (tSeq (tAsg (FW.tListZip K (tCons (tSl (rSlL K) (tVar 1) (tPart (tC (.int 1))) (tNoPart)) (tCons (tDGet (tVar 2) (tOp (rIxL K) (tVar 1) (tC (.int 0)))) (tNil)))) (gName 3)) (tRet (tCB (rAll K) (tCons (tLc (iList K (tVar 3)) (gTup K 2 (gCons (gName 4) (gCons (gName 5) (gNil)))) (tYes) (tOp (rIn K false) (tVar 4) (tVar 5)) [4, 5]) (tNil))))))))))) { nx := fun _ H' => Q .non H', rt := Q } [some (.str z), some (.ref p), none, none, none, none] H := by
  walk_at "rd"
  refine e_disp fun d hd => ?_
  have e1 := Ext.new (o := .dK []) hd
  have hd1 : (upd H d (.dK [])) d = some (.dK []) := upd_same
  generalize upd H d (.dK []) = H1 at *
  refine e_prs (e_c (e_lst (RowsTA.run (gs := hvG4) ?_ fun xs H2 e2 r2 => ⟨?_, fun h hh => e_prs0 ⟨(Ext.new hh) _ _ (e2 _ _ hd1), [(.inr "halves", .ref h)], rfl, by show 1 ≤ 15; decide, ?_⟩⟩)))
  · refine .cons (fun σ H S hS => by walk_at "re"; exact hS) (by decide) (.cons (fun σ H S hS => by walk_at "re"; exact hS) (by decide) (.cons (fun σ H S hS => by walk_at "re"; exact hS) (by decide) (.cons (fun σ H S hS => by walk_at "re"; exact hS) (by decide) .nil)))
  · rw [r2.len]; show 4 ≤ sizeLine; decide
  have e12 := e1.tr e2
  have hdH : H2 d ≠ none := by rw [e2 _ _ hd1]; simp
  have ndh : d ≠ h := fun z => hdH (by rw [z]; exact hh)
  have hHh : H h = none := e12.non hh
  obtain ⟨H3, eH3⟩ : ∃ H3, H3 = upd (upd H2 h (.lst xs)) d (.dK (mergeK [] [(.inr "halves", .ref h)])) := ⟨_, rfl⟩
  have e3 : Ext H H3 := by rw [eH3]; exact (e12.tr (Ext.new hh)).upds hd
  have hd3 : H3 d = some (.dK [(.inr "halves", .ref h)]) := by rw [eH3]; exact upd_same
  have hh3 : H3 h = some (.lst xs) := by rw [eH3, upd_ne ndh.symm]; exact upd_same
  have r3 : RowsS H3 xs hvG4 := by rw [eH3]; exact (r2.none hh).upd ((Ext.new hh) _ _ (e2 _ _ hd1)) (fun g z => by cases z)
  have tl : ∀ {H4 : Hp} {d h s : Addr} {xh xs : List V}, Ext H H4 → H4 d = some (.dK (kHS h s)) → H4 h = some (.lst xh) → RowsS H4 xh hvG → H4 s = some (.lst xs) → RowsS H4 xs slG → (tSeq (tIfS (tOr (tB (tDNotIn (tOp (rIxL K) (tVar 1) (tC (.int 0))) (tVar 2))) (tTest (tOp rNe (tCB (Evl.rLenS K) (tCons (tVar 1) (tNil))) (tOp FW.rAdd (tCB (Evl.rLenS K) (tCons (tDGet (tVar 2) (tOp (rIxL K) (tVar 1) (tC (.int 0)))) (tNil))) (tC (.int 1)))))) (tRet (tC (.bl false))) (tNext)) (tSeq (tAsg (FW.tListZip K (tCons (tSl (rSlL K) (tVar 1) (tPart (tC (.int 1))) (tNoPart)) (tCons (tDGet (tVar 2) (tOp (rIxL K) (tVar 1) (tC (.int 0)))) (tNil)))) (gName 3)) (tRet (tCB (rAll K) (tCons (tLc (iList K (tVar 3)) (gTup K 2 (gCons (gName 4) (gCons (gName 5) (gNil)))) (tYes) (tOp (rIn K false) (tVar 4) (tVar 5)) [4, 5]) (tNil)))))) { nx := fun _ H' => Q .non H', rt := Q } [some (.str z), some (.ref p), some (.ref d), none, none, none] H4 := fun e a1 a2 a3 a4 a5 => text_t7 (e _ _ hp) hl c1 a1 a2 a3 a4 a5 fun H' e' => q H' (e.tr e')
  generalize (tSeq (tIfS (tOr (tB (tDNotIn (tOp (rIxL K) (tVar 1) (tC (.int 0))) (tVar 2))) (tTest (tOp rNe (tCB (Evl.rLenS K) (tCons (tVar 1) (tNil))) (tOp FW.rAdd (tCB (Evl.rLenS K) (tCons (tDGet (tVar 2) (tOp (rIxL K) (tVar 1) (tC (.int 0)))) (tNil))) (tC (.int 1)))))) (tRet (tC (.bl false))) (tNext)) (tSeq (tAsg (FW.tListZip K (tCons (tSl (rSlL K) (tVar 1) (tPart (tC (.int 1))) (tNoPart)) (tCons (tDGet (tVar 2) (tOp (rIxL K) (tVar 1) (tC (.int 0)))) (tNil)))) (gName 3)) (tRet (tCB (rAll K) (tCons (tLc (iList K (tVar 3)) (gTup K 2 (gCons (gName 4) (gCons (gName 5) (gNil)))) (tYes) (tOp (rIn K false) (tVar 4) (tVar 5)) [4, 5]) (tNil)))))) = TL at *
  rw [← eH3]
  clear eH3
  have hσ : ([some (.str z), some (.ref p), none, none, none, none].set 2 (some (.ref d)) : List (Option V))[2]? = some (some (.ref d)) := rfl
  with_reducible refine s_seq ?_
  refine st_app (g := ["less", "most", "wide"]) hσ hd3 (valV_pos rfl) hh3 r3 (by decide) (by decide) (fun S hS => by walk_at "re"; exact hS) fun H4 x4 k4 h4 r4 => ?_
  have e4 : Ext H H4 := fun b o hb => k4 b o (fun z => by rw [z, hHh] at hb; cases hb) (e3 _ _ hb)
  have hd4 := k4 _ _ ndh hd3
  with_reducible refine s_seq ?_
  refine st_ext (hs := [["low", "high"], ["-1", "0", "1"]]) hσ hd4 (valV_pos rfl) h4 r4 (by decide) (.cons (fun σ H S hS => by walk_at "re"; exact hS) (by decide) (.cons (fun σ H S hS => by walk_at "re"; exact hS) (by decide) .nil)) fun H5 x5 k5 h5 r5 => ?_
  have e5 : Ext H H5 := fun b o hb => k5 b o (fun z => by rw [z, hHh] at hb; cases hb) (e4 _ _ hb)
  have hd5 := k5 _ _ ndh hd4
  have r5 : RowsS H5 x5 hvG := r5
  with_reducible refine s_seq ?_
  unfold sDPut
  refine e_lst (RowsTA.run (gs := slG3) ?_ fun zs H6 e6 r6 => ⟨by rw [r6.len]; show 3 ≤ sizeLine; decide, fun s hs => ?_⟩)
  · exact .cons (fun σ H S hS => by walk_at "re"; exact hS) (by decide) (.cons (fun σ H S hS => by walk_at "re"; exact hS) (by decide) (.cons (fun σ H S hS => by walk_at "re"; exact hS) (by decide) .nil))
  have e7 := Ext.new (o := .lst zs) hs
  have hd7 := e7 _ _ (e6 _ _ hd5)
  have hs7 : (L2.upd H6 s (.lst zs)) s = some (.lst zs) := upd_same
  have h7 := e7 _ _ (e6 _ _ h5)
  have r7 := (r5.extE e6).none (o' := .lst zs) hs
  have q7 := r6.none (o' := .lst zs) hs
  have e57 := e5.tr (e6.tr e7)
  generalize L2.upd H6 s (.lst zs) = H7 at *
  have nsd : s ≠ d := fun z => by rw [z, hd7] at hs7; cases hs7
  refine e_var (e_c ⟨d, _, rfl, DPut.k (k := .inr "steps") hd7 (by show 1 < sizeLine; decide), ?_⟩) rfl
  rw [put_hs]
  have hHd : H d = none := hd
  obtain ⟨H8, eH8⟩ : ∃ H8, H8 = L2.upd H7 d (.dK (kHS h s)) := ⟨_, rfl⟩
  have e8 : Ext H H8 := by rw [eH8]; exact e57.upds hHd
  have hd8 : H8 d = some (.dK (kHS h s)) := by rw [eH8]; exact upd_same
  have h8 : H8 h = some (.lst x5) := by rw [eH8, upd_ne ndh.symm]; exact h7
  have hs8 : H8 s = some (.lst zs) := by rw [eH8, upd_ne nsd]; exact hs7
  have r8 : RowsS H8 x5 hvG := by rw [eH8]; exact r7.upd hd7 (fun g z => by cases z)
  have q8 : RowsS H8 zs slG3 := by rw [eH8]; exact q7.upd hd7 (fun g z => by cases z)
  rw [← eH8]
  clear eH8
  have hHs : H s = none := by
    cases hq : H s with
    | none => rfl
    | some o => rw [e6 _ _ (e5 _ _ hq)] at hs; cases hs
  have nsh : s ≠ h := fun z => by
    have := e6 _ _ h5
    rw [z, this] at hs
    cases hs
  with_reducible refine s_seq ?_
  refine st_app (g := ["-1", "0", "1"]) hσ hd8 val_s hs8 q8 (by decide) (by decide) (fun S hS => by walk_at "re"; exact hS) fun H9 x9 k9 h9 r9 => ?_
  have e9 : Ext H H9 := fun b o hb => k9 b o (fun z => by rw [z, hHs] at hb; cases hb) (e8 _ _ hb)
  refine tl e9 (k9 _ _ nsd.symm hd8) (k9 _ _ nsh.symm h8) (r8.ext fun a ys ⟨g, eg⟩ ha => k9 _ _ (fun z => ?_) ha) h9 r9
  rw [z, hs8] at ha
  injection ha with ha
  exact q8.no g (by rw [ha, eg])
end
theorem pure_l_is_text (K : PySem.W.Frag) (vs : List V) (H : Hp) (Q : VK) (E : XK) (h : sp_l_is_text K vs H Q E) : rd_l_is_text K { nx := fun _ H' => Q .non H', rt := Q } (start ["_law_text", "_law_words", "_law_some", "_law_rows", "_law_one", "_law_good"] vs) H := by
  obtain ⟨z, rfl, hz, q⟩ := h
  unfold rd_l_is_text
  obtain ⟨w0, ws, hsp⟩ : ∃ w0 ws, Txt.split z " " = w0 :: ws := by
    cases e : Txt.split z " " with
    | nil => exact absurd e (split_ne z)
    | cons a l => exact ⟨a, l, rfl⟩
  have hsz : szW (w0 :: ws) = z.length + 1 := by rw [← hsp]; exact szW_split z
  have hln : ws.length + 1 ≤ 100001 := by
    have := szW_len (w0 :: ws)
    rw [List.length_cons] at this
    omega
  have eT : isTx z = isW w0 ws := by unfold isTx; rw [hsp]
  rw [eT] at q
  have tl : ∀ {H1 : Hp} {p : Addr}, Ext H H1 → H1 p = some (.lst ((w0 :: ws).map V.str)) → ¬ w0 = "average" → (tSeq (tAsg (tDisp [(tC (.str "halves"), tLst (tCons (tLst (tCons (tC (.str "0")) (tCons (tC (.str "1")) (tNil)))) (tCons (tLst (tCons (tC (.str "upto")) (tCons (tC (.str "below")) (tNil)))) (tCons (tLst (tCons (tC (.str "0")) (tCons (tC (.str "1")) (tNil)))) (tCons (tLst (tCons (tC (.str "0")) (tCons (tC (.str "1")) (tNil)))) (tNil))))))]) (gName 2)) (tSeq (tDrop (tBM K "list" rAppend (tDGet (tVar 2) (tC (.str "halves"))) (tCons (tLst (tCons (tC (.str "less")) (tCons (tC (.str "most")) (tCons (tC (.str "wide")) (tNil))))) (tNil)))) (tSeq (tDrop (tBM K "list" rExtend (tDGet (tVar 2) (tC (.str "halves"))) (tCons (tLst (tCons (tLst (tCons (tC (.str "low")) (tCons (tC (.str "high")) (tNil)))) (tCons (tLst (tCons (tC (.str "-1")) (tCons (tC (.str "0")) (tCons (tC (.str "1")) (tNil))))) (tNil)))) (tNil)))) (tSeq (sDPut (tVar 2) (tC (.str "steps")) (tLst (tCons (tLst (tCons (tC (.str "upto")) (tCons (tC (.str "below")) (tNil)))) (tCons (tLst (tCons (tC (.str "half")) (tCons (tC (.str "same")) (tCons (tC (.str "double")) (tNil))))) (tCons (tLst (tCons (tC (.str "1")) (tCons (tC (.str "2")) (tNil)))) (tNil)))))) (tSeq (tDrop (tBM K "list" rAppend (tDGet (tVar 2) (tC (.str "steps"))) (tCons (tLst (tCons (tC (.str "-1")) (tCons (tC (.str "0")) (tCons (tC (.str "1")) (tNil))))) (tNil)))) (tSeq (tIfS (tOr (tB (tDNotIn (tOp (rIxL K) (tVar 1) (tC (.int 0))) (tVar 2))) (tTest (tOp rNe (tCB (Evl.rLenS K) (tCons (tVar 1) (tNil))) (tOp FW.rAdd (tCB (Evl.rLenS K) (tCons (tDGet (tVar 2) (tOp (rIxL K) (tVar 1) (tC (.int 0)))) (tNil))) (tC (.int 1)))))) (tRet (tC (.bl false))) (tNext)) (tSeq (tAsg (FW.tListZip K (tCons (tSl (rSlL K) (tVar 1) (tPart (tC (.int 1))) (tNoPart)) (tCons (tDGet (tVar 2) (tOp (rIxL K) (tVar 1) (tC (.int 0)))) (tNil)))) (gName 3)) (tRet (tCB (rAll K) (tCons (tLc (iList K (tVar 3)) (gTup K 2 (gCons (gName 4) (gCons (gName 5) (gNil)))) (tYes) (tOp (rIn K false) (tVar 4) (tVar 5)) [4, 5]) (tNil))))))))))) { nx := fun _ H' => Q .non H', rt := Q } [some (.str z), some (.ref p), none, none, none, none] H1 := fun e hp c => text_t2 hp (by omega) c fun H' e' => q H' (e.tr e')
  generalize (tSeq (tAsg (tDisp [(tC (.str "halves"), tLst (tCons (tLst (tCons (tC (.str "0")) (tCons (tC (.str "1")) (tNil)))) (tCons (tLst (tCons (tC (.str "upto")) (tCons (tC (.str "below")) (tNil)))) (tCons (tLst (tCons (tC (.str "0")) (tCons (tC (.str "1")) (tNil)))) (tCons (tLst (tCons (tC (.str "0")) (tCons (tC (.str "1")) (tNil)))) (tNil))))))]) (gName 2)) (tSeq (tDrop (tBM K "list" rAppend (tDGet (tVar 2) (tC (.str "halves"))) (tCons (tLst (tCons (tC (.str "less")) (tCons (tC (.str "most")) (tCons (tC (.str "wide")) (tNil))))) (tNil)))) (tSeq (tDrop (tBM K "list" rExtend (tDGet (tVar 2) (tC (.str "halves"))) (tCons (tLst (tCons (tLst (tCons (tC (.str "low")) (tCons (tC (.str "high")) (tNil)))) (tCons (tLst (tCons (tC (.str "-1")) (tCons (tC (.str "0")) (tCons (tC (.str "1")) (tNil))))) (tNil)))) (tNil)))) (tSeq (sDPut (tVar 2) (tC (.str "steps")) (tLst (tCons (tLst (tCons (tC (.str "upto")) (tCons (tC (.str "below")) (tNil)))) (tCons (tLst (tCons (tC (.str "half")) (tCons (tC (.str "same")) (tCons (tC (.str "double")) (tNil))))) (tCons (tLst (tCons (tC (.str "1")) (tCons (tC (.str "2")) (tNil)))) (tNil)))))) (tSeq (tDrop (tBM K "list" rAppend (tDGet (tVar 2) (tC (.str "steps"))) (tCons (tLst (tCons (tC (.str "-1")) (tCons (tC (.str "0")) (tCons (tC (.str "1")) (tNil))))) (tNil)))) (tSeq (tIfS (tOr (tB (tDNotIn (tOp (rIxL K) (tVar 1) (tC (.int 0))) (tVar 2))) (tTest (tOp rNe (tCB (Evl.rLenS K) (tCons (tVar 1) (tNil))) (tOp FW.rAdd (tCB (Evl.rLenS K) (tCons (tDGet (tVar 2) (tOp (rIxL K) (tVar 1) (tC (.int 0)))) (tNil))) (tC (.int 1)))))) (tRet (tC (.bl false))) (tNext)) (tSeq (tAsg (FW.tListZip K (tCons (tSl (rSlL K) (tVar 1) (tPart (tC (.int 1))) (tNoPart)) (tCons (tDGet (tVar 2) (tOp (rIxL K) (tVar 1) (tC (.int 0)))) (tNil)))) (gName 3)) (tRet (tCB (rAll K) (tCons (tLc (iList K (tVar 3)) (gTup K 2 (gCons (gName 4) (gCons (gName 5) (gNil)))) (tYes) (tOp (rIn K false) (tVar 4) (tVar 5)) [4, 5]) (tNil))))))))))) = TL at *
  walk_at "rd"
  unfold tM1
  refine e_var ⟨⟨_, rfl⟩, e_c ⟨z, " ", rfl, rfl, by decide +kernel, Nat.le_trans (Nat.add_le_add_right hz 2) (by decide), fun p hp => ?_⟩⟩ rfl
  rw [hsp]
  have e1 := Ext.new (o := .lst ((w0 :: ws).map V.str)) hp
  have hp1 : (upd H p (.lst ((w0 :: ws).map V.str))) p = some (.lst ((w0 :: ws).map V.str)) := upd_same
  generalize upd H p (.lst ((w0 :: ws).map V.str)) = H1 at *
  have a0 : atI ((w0 :: ws).map V.str) 0 = some (.str w0) := by
    unfold atI ixN
    rw [if_pos (by decide), if_pos (by rw [List.length_map, List.length_cons]; omega)]
    rfl
  walk_at "rd"
  refine ha_ixL hp1 a0 ?_
  walk_at "re"
  rw [decStr]
  by_cases c1 : w0 = "average"
  · rw [decide_eq_true c1]
    walk_at "rd"
    refine ha_len hp1 ?_
    walk_at "re"
    rw [decI]
    have ew : isW w0 ws = (decide (ws.length = 7) && isAv ws) := by unfold isW; rw [if_pos c1]
    rw [ew] at q
    by_cases c2 : ws.length = 7
    · rw [decide_eq_true (show (((w0 :: ws).map V.str).length : Int) = 8 by rw [List.length_map, List.length_cons]; omega)]
      rw [decide_eq_true c2, Bool.true_and] at q
      walk_at "rd"
      refine e_sl (e_var (e_part (e_c ⟨_, rfl, e_noP (e_slL (fun S hS => ?_) (SqL.of hp1))⟩)) rfl)
      rw [show (1 : Int) = ((1 : Nat) : Int) from rfl, cut_from _ 1 (by rw [List.length_map, List.length_cons]; omega)]
      exact ⟨S, ws, rfl, upd_same, c2, fun H' e => q H' (e1.tr ((Ext.new hS).tr e))⟩
    · rw [decide_eq_false (show ¬ (((w0 :: ws).map V.str).length : Int) = 8 by rw [List.length_map, List.length_cons]; omega)]
      rw [decide_eq_false c2, Bool.false_and] at q
      walk_at "rd"
      exact q H1 e1
  · rw [decide_eq_false c1]
    walk_at "rd"
    exact tl e1 hp1 c1
end FWL
namespace FWL
open PySem PySem.Spec PyProof.Rows L2 FW
/-! ### k53: a text spoilt, walked -/
def sp_l_spoilt (K : PySem.W.Frag) : Sp := fun vs H Q _ => ∃ (L : Addr) (a b c : Int) (z : Str), vs = [.ref L, .str z] ∧ H L = some (.lst [.int a, .int b, .int c]) ∧ (0 ≤ a ∧ 0 ≤ b ∧ 0 ≤ c) ∧ z.length ≤ 5000 ∧ ∀ z' H', z'.length ≤ 2 * z.length + 20 → Ext H H' → Q (.str z') H'
def rd_l_spoilt (K : PySem.W.Frag) : TS := tSeq (tPar 2 3 (tCons (tOp FW.rMod (tOp (rIxL K) (tVar 0) (tC (.int 0))) (tC (.int 8))) (tCons (tOp FW.rMod (tOp (rIxL K) (tVar 0) (tC (.int 1))) (tOp FW.rAdd (tCB FW.rLenStr (tCons (tVar 1) (tNil))) (tC (.int 1)))) (tNil)))) (tSeq (tAsg (tOp rCat (tCB FW.rListStr (tCons (tC (.str " -0123569owlS_+.\t\n")) (tNil))) (tLst (tCons (tC (.str "  ")) (tCons (tC (.str "-0")) (tNil))))) (gName 4)) (tSeq (tIfS (tTest (tOp FW.rLt (tVar 2) (tC (.int 3)))) (tSeq (tAsg (tOp FW.rMulS (tOp (rIxL K) (tVar 4) (tOp FW.rMod (tOp (rIxL K) (tVar 0) (tC (.int 2))) (tC (.int 20)))) (tCB FW.rInt1 (tCons (tOp FW.rGt (tVar 2) (tC (.int 0))) (tNil)))) (gName 5)) (tRet (tOp FW.rAddS (tOp FW.rAddS (tSl rSlS (tVar 1) (tNoPart) (tPart (tVar 3))) (tVar 5)) (tSl rSlS (tVar 1) (tPart (tOp FW.rAdd (tVar 3) (tOp (rIxL K) (tLst (tCons (tC (.int 1)) (tCons (tC (.int 0)) (tCons (tC (.int 1)) (tNil))))) (tVar 2)))) (tNoPart))))) (tNext)) (tSeq (tAsg (tM1 FW.rSplit (tVar 1) (tC (.str " "))) (gName 6)) (tSeq (tAsg (tOp FW.rMod (tOp (rIxL K) (tVar 0) (tC (.int 1))) (tCB (Evl.rLenS K) (tCons (tVar 6) (tNil)))) (gName 7)) (tSeq (tIfS (tTest (tOp rEq (tVar 2) (tC (.int 3)))) (tRet (tM1 (FW.rJoin K) (tC (.str " ")) (tOp rCat (tSl (rSlL K) (tVar 6) (tNoPart) (tPart (tOp FW.rAdd (tVar 7) (tC (.int 1))))) (tSl (rSlL K) (tVar 6) (tPart (tVar 7)) (tNoPart))))) (tNext)) (tSeq (tIfS (tTest (tOp rEq (tVar 2) (tC (.int 4)))) (tRet (tM1 (FW.rJoin K) (tC (.str " ")) (tOp rCat (tSl (rSlL K) (tVar 6) (tNoPart) (tPart (tVar 7))) (tSl (rSlL K) (tVar 6) (tPart (tOp FW.rAdd (tVar 7) (tC (.int 1)))) (tNoPart))))) (tNext)) (tSeq (tIfS (tTest (tOp rEq (tVar 2) (tC (.int 5)))) (tSeq (tDrop (tBM K "list" FW.rInsert (tVar 6) (tCons (tOp FW.rAdd (tVar 7) (tC (.int 1))) (tCons (tBM K "list" rPopAt (tVar 6) (tCons (tVar 7) (tNil))) (tNil))))) (tRet (tM1 (FW.rJoin K) (tC (.str " ")) (tVar 6)))) (tNext)) (tSeq (tAsg (tLst (tCons (tC (.str "old")) (tCons (tC (.str "high")) (tCons (tC (.str "0")) (tCons (tC (.str "1")) (tCons (tC (.str "-1")) (tCons (tC (.str "2")) (tCons (tC (.str "upto")) (tCons (tC (.str "most")) (tCons (tC (.str "back")) (tCons (tC (.str "double")) (tNil)))))))))))) (gName 8)) (tSeq (tAsg (tOp rCat (tVar 8) (tLst (tCons (tC (.str "")) (tCons (tC (.str "7")) (tCons (tC (.str "4")) (tCons (tC (.str "none")) (tCons (tC (.str "halves")) (tNil)))))))) (gName 8)) (tSeq (tAsg (tOp (rIxL K) (tVar 8) (tOp FW.rMod (tOp (rIxL K) (tVar 0) (tC (.int 2))) (tC (.int 15)))) (gSub (tVar 6) (tVar 7) rSetL)) (tRet (tIf (tTest (tOp rEq (tVar 2) (tC (.int 6)))) (tM1 (FW.rJoin K) (tC (.str " ")) (tVar 6)) (tVar 1)))))))))))))
theorem cutS_le (z : Str) (lo hi : Option Int) : (cutS z lo hi).length ≤ z.length := by
  unfold cutS
  rw [TL.len_tl, TL.len_tl]
  show (List.take _ (List.drop _ (TL.tl z))).length ≤ _
  rw [List.length_take, List.length_drop]
  omega
def signs0 : Str := " -0123569owlS_+.\t\n"
theorem signs0_len : signs0.length = 18 := by decide +kernel
theorem signs0_lst : (signsV signs0).length = 18 := by
  unfold signsV
  rw [List.length_map]
  exact (TL.len_tl signs0).symm.trans signs0_len
theorem signs_short : ∀ v ∈ signsV signs0 ++ [V.str "  ", .str "-0"], ∃ w, v = .str w ∧ w.length ≤ 2 := by
  intro v hv
  rcases List.mem_append.mp hv with h | h
  · unfold signsV at h
    obtain ⟨c, _, rfl⟩ := List.mem_map.mp h
    exact ⟨_, rfl, by show 1 ≤ 2; decide⟩
  · simp only [List.mem_cons, List.not_mem_nil, or_false] at h
    rcases h with rfl | rfl
    · exact ⟨_, rfl, by decide +kernel⟩
    · exact ⟨_, rfl, by decide +kernel⟩
theorem join_le (ys : List Str) : (Txt.join " " ys).length ≤ szW ys := by
  cases ys with
  | nil => exact Nat.zero_le _
  | cons a l =>
    have := join_len (ws := a :: l) (by simp)
    omega
theorem mul_le {w : Str} {n : Int} (hw : w.length ≤ 2) (hn : n = 0 ∨ n = 1) : (Txt.mul w n).length ≤ 2 := by
  unfold Txt.mul
  rcases hn with rfl | rfl
  · rw [if_pos (by decide)]; exact Nat.zero_le _
  · rw [if_neg (by decide), if_pos (by rfl)]; exact hw
theorem cut_to (xs : List V) (k : Nat) (h : k ≤ xs.length) : cutV xs none (some (k : Int)) = xs.take k := by
  unfold cutV
  rw [HT.sIx_nat, HT.sIx_none, Nat.min_eq_left h, List.drop_zero, Nat.sub_zero]
theorem rJ {K : PySem.W.Frag} {H : Hp} {Q : VK} {r : Addr} {ys : List Str} (h : H r = some (.lst (ys.map V.str))) (hs : szW ys ≤ 20000) (q : Q (.str (Txt.join " " ys)) H) : FW.rJoin K (.str " ") [.ref r] H Q := by
  refine ⟨" ", r, ys, rfl, rfl, .inl (SqL.of h), ?_, q⟩
  have e : (" " : Str).length = 1 := by decide +kernel
  rw [e]
  unfold szW at hs
  omega
section
variable {K : PySem.W.Frag} {H : Hp} {Q : VK} {L : Addr} {a b c m : Int} {z : Str} {v3 v5 v7 v8 : Option V} {S p : Addr} {i : Int} {ws : List Str} {n : Nat}
theorem spo_t2 (hL : H L = some (.lst [.int a, .int b, .int c])) (m0 : 0 ≤ m) (hz : z.length ≤ 5000) (hS : H S = some (.lst (signsV signs0 ++ [V.str "  ", .str "-0"]))) (q : ∀ z' H', z'.length ≤ 2 * z.length + 20 → Ext H H' → Q (.str z') H') {Dn : Ends} (rt : Dn.rt = Q)
    (k : 3 ≤ m → Dn.nx [some (.ref L), some (.str z), some (.int m), some (.int i), some (.ref S), none, none, none, none] H) :
    (tIfS (tTest (tOp FW.rLt (tVar 2) (tC (.int 3)))) (tSeq (tAsg (tOp FW.rMulS (tOp (rIxL K) (tVar 4) (tOp FW.rMod (tOp (rIxL K) (tVar 0) (tC (.int 2))) (tC (.int 20)))) (tCB FW.rInt1 (tCons (tOp FW.rGt (tVar 2) (tC (.int 0))) (tNil)))) (gName 5)) (tRet (tOp FW.rAddS (tOp FW.rAddS (tSl rSlS (tVar 1) (tNoPart) (tPart (tVar 3))) (tVar 5)) (tSl rSlS (tVar 1) (tPart (tOp FW.rAdd (tVar 3) (tOp (rIxL K) (tLst (tCons (tC (.int 1)) (tCons (tC (.int 0)) (tCons (tC (.int 1)) (tNil))))) (tVar 2)))) (tNoPart))))) (tNext)) Dn [some (.ref L), some (.str z), some (.int m), some (.int i), some (.ref S), none, none, none, none] H := by
  have hzl : z.length ≤ sizeLine := Nat.le_trans hz (by decide)
  walk_at "rx"
  by_cases c1 : m < 3
  · rw [decide_eq_true c1]
    walk_at "rx"
    refine ha_pick hS md0 ?_ fun v hv => ?_
    · have e : (signsV signs0 ++ [V.str "  ", .str "-0"]).length = 20 := by
        rw [List.length_append]
        unfold signsV
        rw [List.length_map, show signs0.cps.toList.length = 18 from signs0_len.symm ▸ (TL.len_tl signs0).symm]
        rfl
      rw [e]; omega
    obtain ⟨w, rfl, hw⟩ := signs_short v hv
    walk_at "rx"
    have h01 : (if 0 < m then (1 : Int) else 0) = 0 ∨ (if 0 < m then (1 : Int) else 0) = 1 := by split <;> simp
    generalize (if 0 < m then (1 : Int) else 0) = t at *
    have hmu := mul_le hw h01
    refine ⟨w, t, rfl, rfl, by omega, by omega, by omega, ?_⟩
    generalize Txt.mul w t = mo at *
    walk_at "rd"
    have l1 := cutS_le z none (some i)
    refine e_sl (e_var (e_noP (e_part (e_var ⟨_, rfl, ⟨z, rfl, hzl, ?_⟩⟩ rfl))) rfl)
    walk_at "re"
    refine ⟨_, _, rfl, rfl, ?_, ?_⟩
    · exact Nat.le_trans (show _ ≤ 10000 by omega) (by decide)
    have l2 : (cutS z none (some i) ++ mo).length ≤ z.length + 2 := by rw [Str.length_append]; omega
    generalize cutS z none (some i) ++ mo = za at *
    refine e_sl (e_var (e_part ?_) rfl)
    walk_at "rx"
    refine ⟨_, rfl, e_noP ⟨z, rfl, hzl, ?_⟩⟩
    have l3 := cutS_le z (some (i + w)) none
    refine ⟨_, _, rfl, rfl, ?_, ?_⟩
    · exact Nat.le_trans (show _ ≤ 20000 by omega) (by decide)
    rw [rt]
    refine q _ _ ?_ (by walk_at "rE")
    rw [Str.length_append]
    omega
  · rw [decide_eq_false c1]
    walk_at "rd"
    exact k (by omega)
theorem spo_t5 (hp : H p = some (.lst (ws.map V.str))) (hn : n < ws.length) (hw : szW ws ≤ z.length + 1) (hz : z.length ≤ 5000) (q : ∀ z' H', z'.length ≤ 2 * z.length + 20 → Ext H H' → Q (.str z') H') {Dn : Ends} (rt : Dn.rt = Q)
    (k : Dn.nx [some (.ref L), some (.str z), some (.int m), some (.int i), some (.ref S), none, some (.ref p), some (.int n), none] H) :
    (tIfS (tTest (tOp rEq (tVar 2) (tC (.int 3)))) (tRet (tM1 (FW.rJoin K) (tC (.str " ")) (tOp rCat (tSl (rSlL K) (tVar 6) (tNoPart) (tPart (tOp FW.rAdd (tVar 7) (tC (.int 1))))) (tSl (rSlL K) (tVar 6) (tPart (tVar 7)) (tNoPart))))) (tNext)) Dn [some (.ref L), some (.str z), some (.int m), some (.int i), some (.ref S), none, some (.ref p), some (.int n), none] H := by
  walk_at "rx"
  by_cases c1 : m = 3
  · rw [decide_eq_true c1]
    walk_at "rd"
    unfold tM1
    refine e_c ⟨⟨_, rfl⟩, ?_⟩
    walk_at "re"
    refine e_sl (e_var (e_noP (e_part ?_)) rfl)
    walk_at "re"
    refine ⟨_, rfl, e_slL (fun p1 h1 => ?_) (SqL.of hp)⟩
    rw [show ((n : Int) + 1) = ((n + 1 : Nat) : Int) from by omega, cut_to _ (n + 1) (by rw [List.length_map]; omega), ← List.map_take]
    have e1 := Ext.new (o := .lst ((ws.take (n + 1)).map V.str)) h1
    have hp1 : (L2.upd H p1 (.lst ((ws.take (n + 1)).map V.str))) p1 = some (.lst ((ws.take (n + 1)).map V.str)) := upd_same
    generalize L2.upd H p1 (.lst ((ws.take (n + 1)).map V.str)) = H1 at *
    refine e_sl (e_var (e_part (e_var ⟨_, rfl, e_noP (e_slL (fun p2 h2 => ?_) (SqL.of (e1 _ _ hp)))⟩ rfl)) rfl)
    rw [cut_from _ n (by rw [List.length_map]; omega), ← List.map_drop]
    have e2 := Ext.new (o := .lst ((ws.drop n).map V.str)) h2
    have hp2 : (L2.upd H1 p2 (.lst ((ws.drop n).map V.str))) p2 = some (.lst ((ws.drop n).map V.str)) := upd_same
    generalize L2.upd H1 p2 (.lst ((ws.drop n).map V.str)) = H2 at *
    have s1 := szW_take ws (n + 1)
    have s2 := szW_drop ws n
    have s3 := szW_app (ws.take (n + 1)) (ws.drop n)
    have s4 := szW_len (ws.take (n + 1) ++ ws.drop n)
    refine ha_cat (e2 _ _ hp1) hp2 ?_ fun p3 G h3 e3 hG => ?_
    · rw [List.length_map, List.length_map, ← List.length_append]
      exact Nat.le_trans s4 (Nat.le_trans (show _ ≤ 20000 by omega) (by decide))
    refine rJ (ys := ws.take (n + 1) ++ ws.drop n) (by rw [List.map_append]; exact hG) (by omega) ?_
    rw [rt]
    have j := join_le (ws.take (n + 1) ++ ws.drop n)
    exact q _ G (by omega) (e1.tr (e2.tr e3))
  · rw [decide_eq_false c1]
    walk_at "rd"
    exact k
theorem spo_t6 (hp : H p = some (.lst (ws.map V.str))) (hn : n < ws.length) (hw : szW ws ≤ z.length + 1) (hz : z.length ≤ 5000) (q : ∀ z' H', z'.length ≤ 2 * z.length + 20 → Ext H H' → Q (.str z') H') {Dn : Ends} (rt : Dn.rt = Q)
    (k : Dn.nx [some (.ref L), some (.str z), some (.int m), some (.int i), some (.ref S), none, some (.ref p), some (.int n), none] H) :
    (tIfS (tTest (tOp rEq (tVar 2) (tC (.int 4)))) (tRet (tM1 (FW.rJoin K) (tC (.str " ")) (tOp rCat (tSl (rSlL K) (tVar 6) (tNoPart) (tPart (tVar 7))) (tSl (rSlL K) (tVar 6) (tPart (tOp FW.rAdd (tVar 7) (tC (.int 1)))) (tNoPart))))) (tNext)) Dn [some (.ref L), some (.str z), some (.int m), some (.int i), some (.ref S), none, some (.ref p), some (.int n), none] H := by
  walk_at "rx"
  by_cases c1 : m = 4
  · rw [decide_eq_true c1]
    walk_at "rd"
    unfold tM1
    refine e_c ⟨⟨_, rfl⟩, ?_⟩
    walk_at "re"
    refine e_sl (e_var (e_noP (e_part (e_var ⟨_, rfl, e_slL (fun p1 h1 => ?_) (SqL.of hp)⟩ rfl))) rfl)
    rw [cut_to _ n (by rw [List.length_map]; omega), ← List.map_take]
    have e1 := Ext.new (o := .lst ((ws.take n).map V.str)) h1
    have hp1 : (L2.upd H p1 (.lst ((ws.take n).map V.str))) p1 = some (.lst ((ws.take n).map V.str)) := upd_same
    generalize L2.upd H p1 (.lst ((ws.take n).map V.str)) = H1 at *
    refine e_sl (e_var (e_part ?_) rfl)
    walk_at "re"
    refine ⟨_, rfl, e_noP (e_slL (fun p2 h2 => ?_) (SqL.of (e1 _ _ hp)))⟩
    rw [show ((n : Int) + 1) = ((n + 1 : Nat) : Int) from by omega, cut_from _ (n + 1) (by rw [List.length_map]; omega), ← List.map_drop]
    have e2 := Ext.new (o := .lst ((ws.drop (n + 1)).map V.str)) h2
    have hp2 : (L2.upd H1 p2 (.lst ((ws.drop (n + 1)).map V.str))) p2 = some (.lst ((ws.drop (n + 1)).map V.str)) := upd_same
    generalize L2.upd H1 p2 (.lst ((ws.drop (n + 1)).map V.str)) = H2 at *
    have s1 := szW_take ws n
    have s2 := szW_drop ws (n + 1)
    have s3 := szW_app (ws.take n) (ws.drop (n + 1))
    have s4 := szW_len (ws.take n ++ ws.drop (n + 1))
    refine ha_cat (e2 _ _ hp1) hp2 ?_ fun p3 G h3 e3 hG => ?_
    · rw [List.length_map, List.length_map, ← List.length_append]
      exact Nat.le_trans s4 (Nat.le_trans (show _ ≤ 20000 by omega) (by decide))
    refine rJ (ys := ws.take n ++ ws.drop (n + 1)) (by rw [List.map_append]; exact hG) (by omega) ?_
    rw [rt]
    have j := join_le (ws.take n ++ ws.drop (n + 1))
    exact q _ G (by omega) (e1.tr (e2.tr e3))
  · rw [decide_eq_false c1]
    walk_at "rd"
    exact k
theorem spo_t7 (hp : H p = some (.lst (ws.map V.str))) (hn : n < ws.length) (hw : szW ws ≤ z.length + 1) (hz : z.length ≤ 5000) {H0 : Hp} (hp0 : H0 p = none) (e0 : Ext H0 H) (q : ∀ z' H', z'.length ≤ 2 * z.length + 20 → Ext H0 H' → Q (.str z') H') {Dn : Ends} (rt : Dn.rt = Q)
    (k : Dn.nx [some (.ref L), some (.str z), some (.int m), some (.int i), some (.ref S), none, some (.ref p), some (.int n), none] H) :
    (tIfS (tTest (tOp rEq (tVar 2) (tC (.int 5)))) (tSeq (tDrop (tBM K "list" FW.rInsert (tVar 6) (tCons (tOp FW.rAdd (tVar 7) (tC (.int 1))) (tCons (tBM K "list" rPopAt (tVar 6) (tCons (tVar 7) (tNil))) (tNil))))) (tRet (tM1 (FW.rJoin K) (tC (.str " ")) (tVar 6)))) (tNext)) Dn [some (.ref L), some (.str z), some (.int m), some (.int i), some (.ref S), none, some (.ref p), some (.int n), none] H := by
  walk_at "rx"
  by_cases c1 : m = 5
  · rw [decide_eq_true c1]
    have hlen := szW_len ws
    have hix : seqIndex? (n : Int) (ws.map V.str).length = some n := by
      have n0 : ¬ (n : Int) < 0 := by omega
      have hn' : (n : Int) < (ws.length : Int) := by omega
      unfold seqIndex?
      rw [List.length_map]
      simp [n0, hn']
    obtain ⟨w, hwn⟩ : ∃ w, ws[n]? = some w := ⟨ws[n], List.getElem?_eq_getElem hn⟩
    walk_at "rd"
    refine ha_tyL hp ?_
    walk_at "re"
    refine ha_tyL hp ?_
    walk_at "re"
    refine ⟨p, ws.map V.str, n, n, .str w, rfl, rfl, hp, by omega, by omega, hix, by rw [List.getElem?_map, hwn]; rfl, ?_⟩
    walk_at "re"
    refine ⟨p, (ws.map V.str).eraseIdx n, (n : Int) + 1, .str w, rfl, rfl, upd_same, ?_, by omega, by omega, ?_⟩
    · rw [List.length_eraseIdx]
      split
      · rw [List.length_map]; exact Nat.lt_of_le_of_lt (show _ ≤ 6000 by omega) (by decide)
      · rw [List.length_map]; exact Nat.lt_of_le_of_lt (show _ ≤ 6000 by omega) (by decide)
    walk_at "rd"
    unfold tM1
    refine e_c ⟨⟨_, rfl⟩, ?_⟩
    walk_at "re"
    have s1 := szW_app (ws.take n) (ws.drop n)
    rw [List.take_append_drop] at s1
    have s2 : ws.drop n = w :: ws.drop (n + 1) := by
      rw [List.drop_eq_getElem_cons hn]
      congr 1
      have := List.getElem?_eq_getElem hn
      rw [hwn] at this
      exact (Option.some.inj this).symm
    rw [s2, szW_cons] at s1
    have s3 : szW (ws.eraseIdx n) + w.length + 1 = szW ws := by
      rw [List.eraseIdx_eq_take_drop_succ, szW_app]
      omega
    have s4 := szW_app ((ws.eraseIdx n).take (n + 1)) ((ws.eraseIdx n).drop (n + 1))
    rw [List.take_append_drop] at s4
    have s5 : szW ((ws.eraseIdx n).take (n + 1) ++ [w] ++ (ws.eraseIdx n).drop (n + 1)) = szW ws := by
      rw [szW_app, szW_app, szW_cons]
      have : szW [] = 0 := rfl
      omega
    refine rJ (ys := (ws.eraseIdx n).take (n + 1) ++ [w] ++ (ws.eraseIdx n).drop (n + 1)) ?_ (by omega) ?_
    · rw [upd_same, show ((n : Int) + 1).toNat = n + 1 by omega]
      congr 2
      simp only [List.eraseIdx_eq_take_drop_succ, List.map_append, List.map_take, List.map_drop, List.map_cons, List.map_nil]
    · rw [rt]
      have j := join_le ((ws.eraseIdx n).take (n + 1) ++ [w] ++ (ws.eraseIdx n).drop (n + 1))
      exact q _ _ (by omega) ((e0.upds hp0).upds hp0)
  · rw [decide_eq_false c1]
    walk_at "rd"
    exact k
theorem szW_set {w : Str} (hn : n < ws.length) : szW (ws.set n w) ≤ szW ws + w.length + 1 := by
  rw [List.set_eq_take_append_cons_drop, if_pos hn, szW_app, szW_cons]
  have s1 := szW_app (ws.take n) (ws.drop n)
  rw [List.take_append_drop] at s1
  have s2 := szW_drop (ws.drop n) 1
  rw [List.drop_drop] at s2
  omega
theorem spo_t8 (hL : H L = some (.lst [.int a, .int b, .int c])) (hp : H p = some (.lst (ws.map V.str))) (hn : n < ws.length) (hsz : szW ws ≤ z.length + 1) (hz : z.length ≤ 5000) {H0 : Hp} (hp0 : H0 p = none) (e0 : Ext H0 H) (q : ∀ z' H', z'.length ≤ 2 * z.length + 20 → Ext H0 H' → Q (.str z') H') :
    (tSeq (tAsg (tLst (tCons (tC (.str "old")) (tCons (tC (.str "high")) (tCons (tC (.str "0")) (tCons (tC (.str "1")) (tCons (tC (.str "-1")) (tCons (tC (.str "2")) (tCons (tC (.str "upto")) (tCons (tC (.str "most")) (tCons (tC (.str "back")) (tCons (tC (.str "double")) (tNil)))))))))))) (gName 8)) (tSeq (tAsg (tOp rCat (tVar 8) (tLst (tCons (tC (.str "")) (tCons (tC (.str "7")) (tCons (tC (.str "4")) (tCons (tC (.str "none")) (tCons (tC (.str "halves")) (tNil)))))))) (gName 8)) (tSeq (tAsg (tOp (rIxL K) (tVar 8) (tOp FW.rMod (tOp (rIxL K) (tVar 0) (tC (.int 2))) (tC (.int 15)))) (gSub (tVar 6) (tVar 7) rSetL)) (tRet (tIf (tTest (tOp rEq (tVar 2) (tC (.int 6)))) (tM1 (FW.rJoin K) (tC (.str " ")) (tVar 6)) (tVar 1)))))) { nx := fun _ H' => Q .non H', rt := Q } [some (.ref L), some (.str z), some (.int m), some (.int i), some (.ref S), none, some (.ref p), some (.int n), none] H := by
  walk_at "rx"
  have hwl : w.length ≤ 6 := by
    rcases hw with rfl | rfl | rfl | rfl | rfl | rfl | rfl | rfl | rfl | rfl | rfl | rfl | rfl | rfl | rfl <;> decide +kernel
  have hpN : nH p = some (.lst (ws.map V.str)) := by walk_at "rh"
  have eN : Ext H0 nH := by walk_at "rE"
  refine e_setL (m := n) ?_ hpN ?_
  · have eP : Ext H0 (L2.upd nH p (.lst ((ws.map V.str).set n (.str w)))) := eN.upds hp0
    have hpP : (L2.upd nH p (.lst ((ws.map V.str).set n (.str w)))) p = some (.lst ((ws.set n w).map V.str)) := by rw [upd_same, List.map_set]
    generalize L2.upd nH p (.lst ((ws.map V.str).set n (.str w))) = HP at *
    have ss := szW_set (w := w) hn
    walk_at "rx"
    by_cases c1 : m = 6
    · rw [decide_eq_true c1]
      walk_at "rd"
      unfold tM1
      refine e_c ⟨⟨_, rfl⟩, ?_⟩
      walk_at "re"
      refine rJ (ys := ws.set n w) hpP (by omega) ?_
      have j := join_le (ws.set n w)
      exact q _ _ (by omega) eP
    · rw [decide_eq_false c1]
      walk_at "rd"
      exact q z _ (by omega) eP
  · unfold ixN
    rw [if_pos (by omega), if_pos (by rw [List.length_map]; omega)]
    rfl
end
theorem spo_tail (K : PySem.W.Frag) {H0 H : Hp} {Q : VK} {L : Addr} {a b c m i : Int} {z : Str} {S : Addr} (hL : H L = some (.lst [.int a, .int b, .int c])) (hz : z.length ≤ 5000) (e0 : Ext H0 H) (q : ∀ z' H', z'.length ≤ 2 * z.length + 20 → Ext H0 H' → Q (.str z') H') :
    (tSeq (tAsg (tM1 FW.rSplit (tVar 1) (tC (.str " "))) (gName 6)) (tSeq (tAsg (tOp FW.rMod (tOp (rIxL K) (tVar 0) (tC (.int 1))) (tCB (Evl.rLenS K) (tCons (tVar 6) (tNil)))) (gName 7)) (tSeq (tIfS (tTest (tOp rEq (tVar 2) (tC (.int 3)))) (tRet (tM1 (FW.rJoin K) (tC (.str " ")) (tOp rCat (tSl (rSlL K) (tVar 6) (tNoPart) (tPart (tOp FW.rAdd (tVar 7) (tC (.int 1))))) (tSl (rSlL K) (tVar 6) (tPart (tVar 7)) (tNoPart))))) (tNext)) (tSeq (tIfS (tTest (tOp rEq (tVar 2) (tC (.int 4)))) (tRet (tM1 (FW.rJoin K) (tC (.str " ")) (tOp rCat (tSl (rSlL K) (tVar 6) (tNoPart) (tPart (tVar 7))) (tSl (rSlL K) (tVar 6) (tPart (tOp FW.rAdd (tVar 7) (tC (.int 1)))) (tNoPart))))) (tNext)) (tSeq (tIfS (tTest (tOp rEq (tVar 2) (tC (.int 5)))) (tSeq (tDrop (tBM K "list" FW.rInsert (tVar 6) (tCons (tOp FW.rAdd (tVar 7) (tC (.int 1))) (tCons (tBM K "list" rPopAt (tVar 6) (tCons (tVar 7) (tNil))) (tNil))))) (tRet (tM1 (FW.rJoin K) (tC (.str " ")) (tVar 6)))) (tNext)) (tSeq (tAsg (tLst (tCons (tC (.str "old")) (tCons (tC (.str "high")) (tCons (tC (.str "0")) (tCons (tC (.str "1")) (tCons (tC (.str "-1")) (tCons (tC (.str "2")) (tCons (tC (.str "upto")) (tCons (tC (.str "most")) (tCons (tC (.str "back")) (tCons (tC (.str "double")) (tNil)))))))))))) (gName 8)) (tSeq (tAsg (tOp rCat (tVar 8) (tLst (tCons (tC (.str "")) (tCons (tC (.str "7")) (tCons (tC (.str "4")) (tCons (tC (.str "none")) (tCons (tC (.str "halves")) (tNil)))))))) (gName 8)) (tSeq (tAsg (tOp (rIxL K) (tVar 8) (tOp FW.rMod (tOp (rIxL K) (tVar 0) (tC (.int 2))) (tC (.int 15)))) (gSub (tVar 6) (tVar 7) rSetL)) (tRet (tIf (tTest (tOp rEq (tVar 2) (tC (.int 6)))) (tM1 (FW.rJoin K) (tC (.str " ")) (tVar 6)) (tVar 1))))))))))) { nx := fun _ H' => Q .non H', rt := Q } [some (.ref L), some (.str z), some (.int m), some (.int i), some (.ref S), none, none, none, none] H := by
  have tl : ∀ {H1 : Hp} {p : Addr} {n : Nat}, Ext H H1 → H p = none → H1 p = some (.lst ((Txt.split z " ").map V.str)) → n < (Txt.split z " ").length → (tSeq (tIfS (tTest (tOp rEq (tVar 2) (tC (.int 3)))) (tRet (tM1 (FW.rJoin K) (tC (.str " ")) (tOp rCat (tSl (rSlL K) (tVar 6) (tNoPart) (tPart (tOp FW.rAdd (tVar 7) (tC (.int 1))))) (tSl (rSlL K) (tVar 6) (tPart (tVar 7)) (tNoPart))))) (tNext)) (tSeq (tIfS (tTest (tOp rEq (tVar 2) (tC (.int 4)))) (tRet (tM1 (FW.rJoin K) (tC (.str " ")) (tOp rCat (tSl (rSlL K) (tVar 6) (tNoPart) (tPart (tVar 7))) (tSl (rSlL K) (tVar 6) (tPart (tOp FW.rAdd (tVar 7) (tC (.int 1)))) (tNoPart))))) (tNext)) (tSeq (tIfS (tTest (tOp rEq (tVar 2) (tC (.int 5)))) (tSeq (tDrop (tBM K "list" FW.rInsert (tVar 6) (tCons (tOp FW.rAdd (tVar 7) (tC (.int 1))) (tCons (tBM K "list" rPopAt (tVar 6) (tCons (tVar 7) (tNil))) (tNil))))) (tRet (tM1 (FW.rJoin K) (tC (.str " ")) (tVar 6)))) (tNext)) (tSeq (tAsg (tLst (tCons (tC (.str "old")) (tCons (tC (.str "high")) (tCons (tC (.str "0")) (tCons (tC (.str "1")) (tCons (tC (.str "-1")) (tCons (tC (.str "2")) (tCons (tC (.str "upto")) (tCons (tC (.str "most")) (tCons (tC (.str "back")) (tCons (tC (.str "double")) (tNil)))))))))))) (gName 8)) (tSeq (tAsg (tOp rCat (tVar 8) (tLst (tCons (tC (.str "")) (tCons (tC (.str "7")) (tCons (tC (.str "4")) (tCons (tC (.str "none")) (tCons (tC (.str "halves")) (tNil)))))))) (gName 8)) (tSeq (tAsg (tOp (rIxL K) (tVar 8) (tOp FW.rMod (tOp (rIxL K) (tVar 0) (tC (.int 2))) (tC (.int 15)))) (gSub (tVar 6) (tVar 7) rSetL)) (tRet (tIf (tTest (tOp rEq (tVar 2) (tC (.int 6)))) (tM1 (FW.rJoin K) (tC (.str " ")) (tVar 6)) (tVar 1))))))))) { nx := fun _ H' => Q .non H', rt := Q } [some (.ref L), some (.str z), some (.int m), some (.int i), some (.ref S), none, some (.ref p), some (.int n), none] H1 := fun {H1 p n} e hp0 hp hn => by
    have hsz : szW (Txt.split z " ") ≤ z.length + 1 := Nat.le_of_eq (szW_split z)
    have q1 : ∀ z' H', z'.length ≤ 2 * z.length + 20 → Ext H1 H' → Q (.str z') H' := fun z' H' hl e' => q z' H' hl (e0.tr (e.tr e'))
    have hp00 := e0.non hp0
    have e1 := e0.tr e
    have t8 := spo_t8 (K := K) (m := m) (i := i) (S := S) (e _ _ hL) hp hn hsz hz hp00 e1 q
    generalize (tSeq (tAsg (tLst (tCons (tC (.str "old")) (tCons (tC (.str "high")) (tCons (tC (.str "0")) (tCons (tC (.str "1")) (tCons (tC (.str "-1")) (tCons (tC (.str "2")) (tCons (tC (.str "upto")) (tCons (tC (.str "most")) (tCons (tC (.str "back")) (tCons (tC (.str "double")) (tNil)))))))))))) (gName 8)) (tSeq (tAsg (tOp rCat (tVar 8) (tLst (tCons (tC (.str "")) (tCons (tC (.str "7")) (tCons (tC (.str "4")) (tCons (tC (.str "none")) (tCons (tC (.str "halves")) (tNil)))))))) (gName 8)) (tSeq (tAsg (tOp (rIxL K) (tVar 8) (tOp FW.rMod (tOp (rIxL K) (tVar 0) (tC (.int 2))) (tC (.int 15)))) (gSub (tVar 6) (tVar 7) rSetL)) (tRet (tIf (tTest (tOp rEq (tVar 2) (tC (.int 6)))) (tM1 (FW.rJoin K) (tC (.str " ")) (tVar 6)) (tVar 1)))))) = TL at *
    with_reducible refine s_seq ?_
    refine spo_t5 (K := K) hp hn hsz hz q1 rfl ?_
    with_reducible refine s_seq ?_
    refine spo_t6 (K := K) hp hn hsz hz q1 rfl ?_
    with_reducible refine s_seq ?_
    exact spo_t7 (K := K) hp hn hsz hz hp00 e1 q rfl t8
  generalize (tSeq (tIfS (tTest (tOp rEq (tVar 2) (tC (.int 3)))) (tRet (tM1 (FW.rJoin K) (tC (.str " ")) (tOp rCat (tSl (rSlL K) (tVar 6) (tNoPart) (tPart (tOp FW.rAdd (tVar 7) (tC (.int 1))))) (tSl (rSlL K) (tVar 6) (tPart (tVar 7)) (tNoPart))))) (tNext)) (tSeq (tIfS (tTest (tOp rEq (tVar 2) (tC (.int 4)))) (tRet (tM1 (FW.rJoin K) (tC (.str " ")) (tOp rCat (tSl (rSlL K) (tVar 6) (tNoPart) (tPart (tVar 7))) (tSl (rSlL K) (tVar 6) (tPart (tOp FW.rAdd (tVar 7) (tC (.int 1)))) (tNoPart))))) (tNext)) (tSeq (tIfS (tTest (tOp rEq (tVar 2) (tC (.int 5)))) (tSeq (tDrop (tBM K "list" FW.rInsert (tVar 6) (tCons (tOp FW.rAdd (tVar 7) (tC (.int 1))) (tCons (tBM K "list" rPopAt (tVar 6) (tCons (tVar 7) (tNil))) (tNil))))) (tRet (tM1 (FW.rJoin K) (tC (.str " ")) (tVar 6)))) (tNext)) (tSeq (tAsg (tLst (tCons (tC (.str "old")) (tCons (tC (.str "high")) (tCons (tC (.str "0")) (tCons (tC (.str "1")) (tCons (tC (.str "-1")) (tCons (tC (.str "2")) (tCons (tC (.str "upto")) (tCons (tC (.str "most")) (tCons (tC (.str "back")) (tCons (tC (.str "double")) (tNil)))))))))))) (gName 8)) (tSeq (tAsg (tOp rCat (tVar 8) (tLst (tCons (tC (.str "")) (tCons (tC (.str "7")) (tCons (tC (.str "4")) (tCons (tC (.str "none")) (tCons (tC (.str "halves")) (tNil)))))))) (gName 8)) (tSeq (tAsg (tOp (rIxL K) (tVar 8) (tOp FW.rMod (tOp (rIxL K) (tVar 0) (tC (.int 2))) (tC (.int 15)))) (gSub (tVar 6) (tVar 7) rSetL)) (tRet (tIf (tTest (tOp rEq (tVar 2) (tC (.int 6)))) (tM1 (FW.rJoin K) (tC (.str " ")) (tVar 6)) (tVar 1))))))))) = TL at *
  walk_at "rd"
  unfold tM1
  refine e_var ⟨⟨_, rfl⟩, e_c ⟨z, " ", rfl, rfl, by decide +kernel, Nat.le_trans (Nat.add_le_add_right hz 2) (by decide), fun p hp => ?_⟩⟩ rfl
  have e1 := Ext.new (o := .lst ((Txt.split z " ").map V.str)) hp
  have hp1 : (L2.upd H p (.lst ((Txt.split z " ").map V.str))) p = some (.lst ((Txt.split z " ").map V.str)) := upd_same
  generalize L2.upd H p (.lst ((Txt.split z " ").map V.str)) = H1 at *
  have hne : 0 < (Txt.split z " ").length := List.length_pos_iff.mpr (split_ne z)
  generalize Txt.split z " " = ws at *
  walk_at "rd"
  refine ha_ixL (e1 _ _ hL) rfl ?_
  walk_at "re"
  refine ha_len hp1 ?_
  rw [List.length_map]
  refine ha_mod (by omega) fun md md0 md1 mdh => ?_
  walk_at "rd"
  obtain ⟨n, rfl⟩ : ∃ n : Nat, md = n := ⟨md.toNat, by omega⟩
  exact tl e1 hp hp1 (by omega)
theorem pure_l_spoilt (K : PySem.W.Frag) (vs : List V) (H : Hp) (Q : VK) (E : XK) (h : sp_l_spoilt K vs H Q E) : rd_l_spoilt K { nx := fun _ H' => Q .non H', rt := Q } (start ["_law_draws", "_law_text", "_law_way", "_law_at", "_law_signs", "_law_more", "_law_words", "_law_spot", "_law_some"] vs) H := by
  obtain ⟨L, a, b, c, z, rfl, hL, ⟨a0, b0, c0⟩, hz, q⟩ := h
  unfold rd_l_spoilt
  have hzl : z.length ≤ sizeLine := Nat.le_trans hz (by decide)
  have tl : ∀ {H1 : Hp} {m i : Int} {S : Addr}, Ext H H1 → 0 ≤ m → H1 S = some (.lst (signsV signs0 ++ [V.str "  ", .str "-0"])) → (tSeq (tIfS (tTest (tOp FW.rLt (tVar 2) (tC (.int 3)))) (tSeq (tAsg (tOp FW.rMulS (tOp (rIxL K) (tVar 4) (tOp FW.rMod (tOp (rIxL K) (tVar 0) (tC (.int 2))) (tC (.int 20)))) (tCB FW.rInt1 (tCons (tOp FW.rGt (tVar 2) (tC (.int 0))) (tNil)))) (gName 5)) (tRet (tOp FW.rAddS (tOp FW.rAddS (tSl rSlS (tVar 1) (tNoPart) (tPart (tVar 3))) (tVar 5)) (tSl rSlS (tVar 1) (tPart (tOp FW.rAdd (tVar 3) (tOp (rIxL K) (tLst (tCons (tC (.int 1)) (tCons (tC (.int 0)) (tCons (tC (.int 1)) (tNil))))) (tVar 2)))) (tNoPart))))) (tNext)) (tSeq (tAsg (tM1 FW.rSplit (tVar 1) (tC (.str " "))) (gName 6)) (tSeq (tAsg (tOp FW.rMod (tOp (rIxL K) (tVar 0) (tC (.int 1))) (tCB (Evl.rLenS K) (tCons (tVar 6) (tNil)))) (gName 7)) (tSeq (tIfS (tTest (tOp rEq (tVar 2) (tC (.int 3)))) (tRet (tM1 (FW.rJoin K) (tC (.str " ")) (tOp rCat (tSl (rSlL K) (tVar 6) (tNoPart) (tPart (tOp FW.rAdd (tVar 7) (tC (.int 1))))) (tSl (rSlL K) (tVar 6) (tPart (tVar 7)) (tNoPart))))) (tNext)) (tSeq (tIfS (tTest (tOp rEq (tVar 2) (tC (.int 4)))) (tRet (tM1 (FW.rJoin K) (tC (.str " ")) (tOp rCat (tSl (rSlL K) (tVar 6) (tNoPart) (tPart (tVar 7))) (tSl (rSlL K) (tVar 6) (tPart (tOp FW.rAdd (tVar 7) (tC (.int 1)))) (tNoPart))))) (tNext)) (tSeq (tIfS (tTest (tOp rEq (tVar 2) (tC (.int 5)))) (tSeq (tDrop (tBM K "list" FW.rInsert (tVar 6) (tCons (tOp FW.rAdd (tVar 7) (tC (.int 1))) (tCons (tBM K "list" rPopAt (tVar 6) (tCons (tVar 7) (tNil))) (tNil))))) (tRet (tM1 (FW.rJoin K) (tC (.str " ")) (tVar 6)))) (tNext)) (tSeq (tAsg (tLst (tCons (tC (.str "old")) (tCons (tC (.str "high")) (tCons (tC (.str "0")) (tCons (tC (.str "1")) (tCons (tC (.str "-1")) (tCons (tC (.str "2")) (tCons (tC (.str "upto")) (tCons (tC (.str "most")) (tCons (tC (.str "back")) (tCons (tC (.str "double")) (tNil)))))))))))) (gName 8)) (tSeq (tAsg (tOp rCat (tVar 8) (tLst (tCons (tC (.str "")) (tCons (tC (.str "7")) (tCons (tC (.str "4")) (tCons (tC (.str "none")) (tCons (tC (.str "halves")) (tNil)))))))) (gName 8)) (tSeq (tAsg (tOp (rIxL K) (tVar 8) (tOp FW.rMod (tOp (rIxL K) (tVar 0) (tC (.int 2))) (tC (.int 15)))) (gSub (tVar 6) (tVar 7) rSetL)) (tRet (tIf (tTest (tOp rEq (tVar 2) (tC (.int 6)))) (tM1 (FW.rJoin K) (tC (.str " ")) (tVar 6)) (tVar 1)))))))))))) { nx := fun _ H' => Q .non H', rt := Q } [some (.ref L), some (.str z), some (.int m), some (.int i), some (.ref S), none, none, none, none] H1 := fun {H1 m i S} e m0 hS => by
    have t3 := spo_tail K (m := m) (i := i) (S := S) (e _ _ hL) hz e q
    generalize (tSeq (tAsg (tM1 FW.rSplit (tVar 1) (tC (.str " "))) (gName 6)) (tSeq (tAsg (tOp FW.rMod (tOp (rIxL K) (tVar 0) (tC (.int 1))) (tCB (Evl.rLenS K) (tCons (tVar 6) (tNil)))) (gName 7)) (tSeq (tIfS (tTest (tOp rEq (tVar 2) (tC (.int 3)))) (tRet (tM1 (FW.rJoin K) (tC (.str " ")) (tOp rCat (tSl (rSlL K) (tVar 6) (tNoPart) (tPart (tOp FW.rAdd (tVar 7) (tC (.int 1))))) (tSl (rSlL K) (tVar 6) (tPart (tVar 7)) (tNoPart))))) (tNext)) (tSeq (tIfS (tTest (tOp rEq (tVar 2) (tC (.int 4)))) (tRet (tM1 (FW.rJoin K) (tC (.str " ")) (tOp rCat (tSl (rSlL K) (tVar 6) (tNoPart) (tPart (tVar 7))) (tSl (rSlL K) (tVar 6) (tPart (tOp FW.rAdd (tVar 7) (tC (.int 1)))) (tNoPart))))) (tNext)) (tSeq (tIfS (tTest (tOp rEq (tVar 2) (tC (.int 5)))) (tSeq (tDrop (tBM K "list" FW.rInsert (tVar 6) (tCons (tOp FW.rAdd (tVar 7) (tC (.int 1))) (tCons (tBM K "list" rPopAt (tVar 6) (tCons (tVar 7) (tNil))) (tNil))))) (tRet (tM1 (FW.rJoin K) (tC (.str " ")) (tVar 6)))) (tNext)) (tSeq (tAsg (tLst (tCons (tC (.str "old")) (tCons (tC (.str "high")) (tCons (tC (.str "0")) (tCons (tC (.str "1")) (tCons (tC (.str "-1")) (tCons (tC (.str "2")) (tCons (tC (.str "upto")) (tCons (tC (.str "most")) (tCons (tC (.str "back")) (tCons (tC (.str "double")) (tNil)))))))))))) (gName 8)) (tSeq (tAsg (tOp rCat (tVar 8) (tLst (tCons (tC (.str "")) (tCons (tC (.str "7")) (tCons (tC (.str "4")) (tCons (tC (.str "none")) (tCons (tC (.str "halves")) (tNil)))))))) (gName 8)) (tSeq (tAsg (tOp (rIxL K) (tVar 8) (tOp FW.rMod (tOp (rIxL K) (tVar 0) (tC (.int 2))) (tC (.int 15)))) (gSub (tVar 6) (tVar 7) rSetL)) (tRet (tIf (tTest (tOp rEq (tVar 2) (tC (.int 6)))) (tM1 (FW.rJoin K) (tC (.str " ")) (tVar 6)) (tVar 1))))))))))) = TL at *
    with_reducible refine s_seq ?_
    exact spo_t2 (K := K) (e _ _ hL) m0 hz hS (fun z' H' hl e' => q z' H' hl (e.tr e')) rfl fun _ => t3
  generalize (tSeq (tIfS (tTest (tOp FW.rLt (tVar 2) (tC (.int 3)))) (tSeq (tAsg (tOp FW.rMulS (tOp (rIxL K) (tVar 4) (tOp FW.rMod (tOp (rIxL K) (tVar 0) (tC (.int 2))) (tC (.int 20)))) (tCB FW.rInt1 (tCons (tOp FW.rGt (tVar 2) (tC (.int 0))) (tNil)))) (gName 5)) (tRet (tOp FW.rAddS (tOp FW.rAddS (tSl rSlS (tVar 1) (tNoPart) (tPart (tVar 3))) (tVar 5)) (tSl rSlS (tVar 1) (tPart (tOp FW.rAdd (tVar 3) (tOp (rIxL K) (tLst (tCons (tC (.int 1)) (tCons (tC (.int 0)) (tCons (tC (.int 1)) (tNil))))) (tVar 2)))) (tNoPart))))) (tNext)) (tSeq (tAsg (tM1 FW.rSplit (tVar 1) (tC (.str " "))) (gName 6)) (tSeq (tAsg (tOp FW.rMod (tOp (rIxL K) (tVar 0) (tC (.int 1))) (tCB (Evl.rLenS K) (tCons (tVar 6) (tNil)))) (gName 7)) (tSeq (tIfS (tTest (tOp rEq (tVar 2) (tC (.int 3)))) (tRet (tM1 (FW.rJoin K) (tC (.str " ")) (tOp rCat (tSl (rSlL K) (tVar 6) (tNoPart) (tPart (tOp FW.rAdd (tVar 7) (tC (.int 1))))) (tSl (rSlL K) (tVar 6) (tPart (tVar 7)) (tNoPart))))) (tNext)) (tSeq (tIfS (tTest (tOp rEq (tVar 2) (tC (.int 4)))) (tRet (tM1 (FW.rJoin K) (tC (.str " ")) (tOp rCat (tSl (rSlL K) (tVar 6) (tNoPart) (tPart (tVar 7))) (tSl (rSlL K) (tVar 6) (tPart (tOp FW.rAdd (tVar 7) (tC (.int 1)))) (tNoPart))))) (tNext)) (tSeq (tIfS (tTest (tOp rEq (tVar 2) (tC (.int 5)))) (tSeq (tDrop (tBM K "list" FW.rInsert (tVar 6) (tCons (tOp FW.rAdd (tVar 7) (tC (.int 1))) (tCons (tBM K "list" rPopAt (tVar 6) (tCons (tVar 7) (tNil))) (tNil))))) (tRet (tM1 (FW.rJoin K) (tC (.str " ")) (tVar 6)))) (tNext)) (tSeq (tAsg (tLst (tCons (tC (.str "old")) (tCons (tC (.str "high")) (tCons (tC (.str "0")) (tCons (tC (.str "1")) (tCons (tC (.str "-1")) (tCons (tC (.str "2")) (tCons (tC (.str "upto")) (tCons (tC (.str "most")) (tCons (tC (.str "back")) (tCons (tC (.str "double")) (tNil)))))))))))) (gName 8)) (tSeq (tAsg (tOp rCat (tVar 8) (tLst (tCons (tC (.str "")) (tCons (tC (.str "7")) (tCons (tC (.str "4")) (tCons (tC (.str "none")) (tCons (tC (.str "halves")) (tNil)))))))) (gName 8)) (tSeq (tAsg (tOp (rIxL K) (tVar 8) (tOp FW.rMod (tOp (rIxL K) (tVar 0) (tC (.int 2))) (tC (.int 15)))) (gSub (tVar 6) (tVar 7) rSetL)) (tRet (tIf (tTest (tOp rEq (tVar 2) (tC (.int 6)))) (tM1 (FW.rJoin K) (tC (.str " ")) (tVar 6)) (tVar 1)))))))))))) = TL at *
  walk_at "rx"
  have m0 := md0
  refine ⟨z, rfl, hzl, ?_⟩
  walk_at "rx"
  refine ⟨signs0, rfl, by rw [signs0_len]; decide, fun p1 h1 => ?_⟩
  have e1 := Ext.new (o := .lst (signsV signs0)) h1
  have hp1 : (L2.upd H p1 (.lst (signsV signs0))) p1 = some (.lst (signsV signs0)) := upd_same
  generalize L2.upd H p1 (.lst (signsV signs0)) = H1 at *
  refine e_lst (e_cons (e_c (e_cons (e_c (e_nil ⟨by show 2 ≤ sizeLine; decide, fun p2 h2 => ?_⟩)))))
  have e2 := Ext.new (o := .lst [V.str "  ", .str "-0"]) h2
  have hp2 : (L2.upd H1 p2 (.lst [V.str "  ", .str "-0"])) p2 = some (.lst [V.str "  ", .str "-0"]) := upd_same
  generalize L2.upd H1 p2 (.lst [V.str "  ", .str "-0"]) = H2 at *
  refine ha_cat (e2 _ _ hp1) hp2 ?_ fun p3 G h3 e3 hG => ?_
  · rw [signs0_lst]
    show 20 ≤ sizeLine
    decide
  walk_at "rd"
  exact tl (e1.tr (e2.tr e3)) m0 hG
end FWL
namespace FW
open PySem PySem.Spec PyProof.Rows L2
/-! ### x == y where x's own __eq__ hands back NotImplemented and y declines: False -/
end FW
namespace FW
open PySem PySem.Spec PyProof.Rows L2
/-! ### x == y, x != y where one side is an instance of a class with its own __eq__ and the other one is anything of another type -/
end FW
namespace FW
open PySem PySem.Spec PyProof.Rows L2
/-! ### the layer's rules: ==, != of an instance of C (own __eq__) and anything -/
theorem sub_ty {K : PySem.W.Frag} {C : Addr} {T : String} (h : fastBuiltinMro T = some [.type T, .type "object"]) : PySem.W.subIn K (.type T) (.ref C) = some false := by
  show (fastBuiltinMro T).map (·.contains (.ref C)) = some false
  rw [h]
  simp
theorem nf_ty {K : PySem.W.Frag} {C : Addr} {T : String} (h : fastBuiltinMro T = some [.type T, .type "object"]) : PySem.W.notFirst K C (.type T) = true := by
  unfold PySem.W.notFirst
  rw [sub_ty h]; simp
/-- anything that does not go ahead of C -/
inductive Oth (K : PySem.W.Frag) (C : Addr) (H : Hp) : V → Prop where
  | non : Oth K C H .non
  | str (z : Str) : Oth K C H (.str z)
  | int (i : Int) : Oth K C H (.int i)
  | lst {t : Addr} {xs : List V} (h : H t = some (.lst xs)) : Oth K C H (.ref t)
  | tup {t : Addr} {xs : List V} (h : H t = some (.tup xs)) : Oth K C H (.ref t)
  | ins {b D dy : Addr} {gs : List (Str × V)} (h : H b = some (.ins D dy gs)) (n : PySem.W.notFirst K C (.ref D) = true) : Oth K C H (.ref b)
/-- a builtin thing: its type -/
inductive Bth (H : Hp) : V → String → Prop where
  | non : Bth H .non "NoneType"
  | str (z : Str) : Bth H (.str z) "str"
  | int (i : Int) : Bth H (.int i) "int"
  | lst {t : Addr} {xs : List V} (h : H t = some (.lst xs)) : Bth H (.ref t) "list"
  | tup {t : Addr} {xs : List V} (h : H t = some (.tup xs)) : Bth H (.ref t) "tuple"
theorem Bth.mro {H : Hp} {v : V} {T : String} (h : Bth H v T) : fastBuiltinMro T = some [.type T, .type "object"] := by cases h <;> decide +kernel
theorem Bth.is {X : Cx} {pins : List (Addr × Obj)} {σ : L2.St} {H : Hp} {s : Shared} {v : V} {T : String} {u : Value} (h : Bth H v T) (I : Inv X pins σ H s) (r : RelV v u) : s.TypeIs u T := by
  cases h with
  | non => cases r; rfl
  | str z => obtain ⟨tk, rfl⟩ := r; rfl
  | int z => obtain ⟨tk, rfl⟩ := r; rfl
  | lst h =>
    cases r
    obtain ⟨_, _, n, _, h1⟩ := (show ObjOk X.prog X.w H s.heap _ (.lst _) from I.hok _ _ h)
    exact ⟨_, h1, rfl⟩
  | tup h =>
    cases r
    obtain ⟨_, _, _, o, h1, h2, _⟩ := (show ObjOk X.prog X.w H s.heap _ (.tup _) from I.hok _ _ h)
    exact ⟨o, h1, h2⟩
theorem Oth.look {X : Cx} {pins : List (Addr × Obj)} {σ : L2.St} {H : Hp} {s : Shared} {A : Around} {E : Value → Shared → Prop} {C : Addr} {v : V} {u : Value} (h : Oth X.K C H v) (I : Inv X pins σ H s) (r : RelV v u) :
    ∃ tb, (∀ Q : Value → Shared → Prop, Q tb s → wpAny (model X.prog X.w) A (typeOf u) Q E s) ∧ PySem.W.notFirst X.K C tb = true := by
  have go : ∀ {T : String}, Bth H v T → ∃ tb, (∀ Q : Value → Shared → Prop, Q tb s → wpAny (model X.prog X.w) A (typeOf u) Q E s) ∧ PySem.W.notFirst X.K C tb = true := fun {T} b =>
    ⟨.type T, fun Q q => wpAny_typeOf (b.is I r) q, nf_ty b.mro⟩
  cases h with
  | non => exact go .non
  | str z => exact go (.str z)
  | int z => exact go (.int z)
  | lst h => exact go (.lst h)
  | tup h => exact go (.tup h)
  | @ins b D dy gs h n =>
    cases r
    obtain ⟨mB, J', _⟩ := ins_get I.hok h
    obtain ⟨od', J', _⟩ := J'.look
    exact ⟨.ref D, fun Q q => J'.type.here q, n⟩
/-- what the head tells of a class, of types that are not above it -/
structure SubK (K : PySem.W.Frag) (C : Addr) : Prop where
  n : PySem.W.subIn K (.ref C) (.type "NoneType") = some false
  s : PySem.W.subIn K (.ref C) (.type "str") = some false
  i : PySem.W.subIn K (.ref C) (.type "int") = some false
  l : PySem.W.subIn K (.ref C) (.type "list") = some false
  t : PySem.W.subIn K (.ref C) (.type "tuple") = some false
theorem SubK.of {K : PySem.W.Frag} {C : Addr} {H : Hp} {v : V} {T : String} (k : SubK K C) (h : Bth H v T) : PySem.W.subIn K (.ref C) (.type T) = some false := by
  cases h
  · exact k.n
  · exact k.s
  · exact k.i
  · exact k.l
  · exact k.t
section
variable {X : Cx} {C : Addr} {k j : Nat} {sp : Sp}
/-- one of two rules -/
def rOrU (r1 r2 : R2) : R2 := fun x y H Q => r1 x y H Q ∨ r2 x y H Q
theorem op_orU {op : CmpOp} {r1 r2 : R2} (h1 : OpR X (compareOp op) r1) (h2 : OpR X (compareOp op) r2) : OpR X (compareOp op) (rOrU r1 r2) := fun pins s σ H x y v u Q I rx ry h => by
  rcases h with h | h
  · exact h1 pins s σ H x y v u Q I rx ry h
  · exact h2 pins s σ H x y v u Q I rx ry h
end
/-- class x declines y -/
structure KitF (K : PySem.W.Frag) (C : Addr) : Prop where
  n : PySem.W.kitOne K (.type "NoneType") (.ref C) = some false
  s : PySem.W.kitOne K (.type "str") (.ref C) = some false
  i : PySem.W.kitOne K (.type "int") (.ref C) = some false
  l : PySem.W.kitOne K (.type "list") (.ref C) = some false
  t : PySem.W.kitOne K (.type "tuple") (.ref C) = some false
theorem KitF.of {K : PySem.W.Frag} {C : Addr} {H : Hp} {v : V} {T : String} (k : KitF K C) (h : Bth H v T) : PySem.W.kitOne K (.type T) (.ref C) = some false := by
  cases h
  · exact k.n
  · exact k.s
  · exact k.i
  · exact k.l
  · exact k.t
theorem Bth.ty {K : PySem.W.Frag} {H : Hp} {v : V} {T : String} (h : Bth H v T) : TyX K H v (.type T) := by
  cases h with
  | non => exact .base .non
  | str z => exact .base (.str z)
  | int z => exact .base (.int z)
  | lst h => exact .base (.lst h)
  | tup h => exact .base (.tup h)
end FW
namespace FWL
open PySem PySem.Spec PyProof.Rows L2 FW
/-! ### k53: the law's parts -/
def tabs (K : PySem.W.Frag) : List (Addr × Str) := [((He.cT K ("law", none)).2, (("law" : Str) ++ ".<locals>.") ++ "<lambda>")]
theorem tabs_of {K : PySem.W.Frag} {H : Hp} (h : ∀ p ∈ ([("law", none)] : List He.Defn).map (He.cT K), H p.2 = some (.tbl #[])) : LamX.Tabs (tabs K) H := fun p hp => by
  rw [List.mem_singleton.mp hp]
  exact LamX.TabS.nil (h _ (List.mem_map.mpr ⟨_, List.mem_singleton.mpr rfl, rfl⟩))
theorem or_neE {x y : Str} {b : Bool} (h : (decide (x = y) || b) = true) (n : x ≠ y) : b = true := by
  simp only [Bool.or_eq_true, decide_eq_true_eq] at h
  rcases h with h | h
  · exact absurd h n
  · exact h
def LN : List Str := ["Average", "Halves", "Steps"]
structure Hk53 (K : PySem.W.Frag) : Prop where
  hk : HotK K "BadText"
  av : AvK K
  hv : HvK K
  sp : SpK K
  ia : InsK K (He.ga K "Average")
  ih : InsK K (He.ga K "Halves")
  is : InsK K (He.ga K "Steps")
  ne : ∀ x ∈ LN, ∀ y ∈ LN, x ≠ y → PySem.W.kitOne K (.ref (He.ga K x)) (.ref (He.ga K y)) = some false
def Lo.cls : Lo → Str | .av _ => "Average" | .ha _ => "Halves" | .st _ => "Steps"
theorem Lo.eq_of {o o' : Lo} (h : o.hd = o'.hd) (e : o.V = o'.V) : o = o' := by
  cases o with
  | av l =>
    cases o' with
    | av l' =>
      obtain ⟨k, a, c, d, s, t, m⟩ := l
      obtain ⟨k', a', c', d', s', t', m'⟩ := l'
      have e2 : [V.int k, V.int a, V.int c, V.int d, V.str s, V.str t, V.str m] = [V.int k', V.int a', V.int c', V.int d', V.str s', V.str t', V.str m'] := e
      injection e2 with z1 e2; injection e2 with z2 e2; injection e2 with z3 e2; injection e2 with z4 e2; injection e2 with z5 e2; injection e2 with z6 e2; injection e2 with z7 e2
      cases z1; cases z2; cases z3; cases z4; cases z5; cases z6; cases z7
      rfl
    | ha l' => exact absurd h (by show ¬ ("average" : Str) = "halves"; decide)
    | st l' => exact absurd h (by show ¬ ("average" : Str) = "steps"; decide)
  | ha l =>
    cases o' with
    | ha l' =>
      obtain ⟨k, a, c, d, s, t, m⟩ := l
      obtain ⟨k', a', c', d', s', t', m'⟩ := l'
      have e2 : [V.int k, V.str a, V.int c, V.int d, V.str s, V.str t, V.int m] = [V.int k', V.str a', V.int c', V.int d', V.str s', V.str t', V.int m'] := e
      injection e2 with z1 e2; injection e2 with z2 e2; injection e2 with z3 e2; injection e2 with z4 e2; injection e2 with z5 e2; injection e2 with z6 e2; injection e2 with z7 e2
      cases z1; cases z2; cases z3; cases z4; cases z5; cases z6; cases z7
      rfl
    | av l' => exact absurd h (by show ¬ ("halves" : Str) = "average"; decide)
    | st l' => exact absurd h (by show ¬ ("halves" : Str) = "steps"; decide)
  | st l =>
    cases o' with
    | st l' =>
      obtain ⟨a, b, c, d⟩ := l
      obtain ⟨a', b', c', d'⟩ := l'
      have e2 : [V.str a, V.str b, V.int c, V.int d] = [V.str a', V.str b', V.int c', V.int d'] := e
      injection e2 with z1 e2; injection e2 with z2 e2; injection e2 with z3 e2; injection e2 with z4 e2
      cases z1; cases z2; cases z3; cases z4
      rfl
    | av l' => exact absurd h (by show ¬ ("steps" : Str) = "average"; decide)
    | ha l' => exact absurd h (by show ¬ ("steps" : Str) = "halves"; decide)
theorem Lo.eq_line {o o' : Lo} (h : o.Ok) (h' : o'.Ok) (e : o.line = o'.line) : o = o' := by
  obtain ⟨h1, h2⟩ := Lo.of_line h e.symm (Lo.words h')
  obtain ⟨h3, h4⟩ := Lo.of_line h' rfl (Lo.words h')
  exact Lo.eq_of h1 (h2.trans h4.symm)
theorem Hv.Ok.sh {l : Hv} (o : l.Ok) : SeqAt.shaped l.D = true := by
  obtain ⟨k, a, c, d, s, t, m⟩ := l
  have h1 := o.test; have h2 := o.stop; have h3 := o.told
  dsimp only at h1 h2 h3
  rcases h1 with rfl | rfl <;> rcases h2 with rfl | rfl | rfl <;> rcases h3 with rfl | rfl <;> kernel_rfl
theorem Sl.Ok.sh {l : Sl} (o : l.Ok) : SeqAt.shaped l.D = true := by
  obtain ⟨a, b, c, d⟩ := l
  have h1 := o.test; have h2 := o.after
  dsimp only at h1 h2
  rcases h1 with rfl | rfl <;> rcases h2 with rfl | rfl | rfl <;> kernel_rfl
section
variable {K : PySem.W.Frag} {σ : L2.St} {H : Hp} {Q : VK} {x y : Addr} {o : Lo}
theorem e_isiL (X : Hk53 K) (hx : IsLo K H x o) {c : Str} (hc : c ∈ LN) (q : Q (.bl (decide (o.cls = c))) H) : rIsi K [.ref x, .ref (He.ga K c)] H Q := by
  have go : ∀ (n : Str), n ∈ LN → Cls K (He.ga K n) → InsK K (He.ga K n) → o.cls = n → (∃ dx fs, H x = some (.ins (He.ga K n) dx fs)) → rIsi K [.ref x, .ref (He.ga K c)] H Q := fun n hn cl i en ⟨dx, fs, h⟩ => by
    rw [en] at q
    by_cases e : n = c
    · subst e
      rw [decide_eq_true rfl] at q
      exact e_isiO q h cl i
    · rw [decide_eq_false e] at q
      exact ⟨_, _, _, _, false, rfl, .own _, .base (.ins h cl i.cls i.get i.tk i.mro), X.ne n hn c hc e, q⟩
  cases o with
  | av l =>
    obtain ⟨dx, h⟩ := hx
    exact go "Average" (by decide) X.av.cls X.ia rfl ⟨dx, _, h⟩
  | ha l =>
    obtain ⟨dx, h⟩ := hx
    exact go "Halves" (by decide) X.hv.cls X.ih rfl ⟨dx, _, h⟩
  | st l =>
    obtain ⟨dx, h⟩ := hx
    exact go "Steps" (by decide) X.sp.cls X.is rfl ⟨dx, _, h⟩
/-- one loop != the same loop, made twice -/
theorem e_neL (ok : o.Ok) (hx : IsLo K H x o) (hy : IsLo K H y o) (q : ∀ H', Ext H H' → Q (.bl false) H') : FW.rOrU (FW.rNeO (He.ga K "Average") (sp_Average_eq K)) (FW.rOrU (FW.rNeO (He.ga K "Halves") (sp_Halves_eq K)) (FW.rNeO (He.ga K "Steps") (sp_Steps_eq K))) (.ref x) (.ref y) H Q := by
  cases o with
  | av l =>
    obtain ⟨dx, h⟩ := id hx
    obtain ⟨dy, h'⟩ := id hy
    refine .inl ⟨x, y, dx, dy, _, _, rfl, rfl, h, h', x, y, l, l, rfl, hx, hy, ok, ok, fun H' e => ⟨_, rfl, ?_⟩⟩
    rw [decide_eq_true rfl]
    exact q H' e
  | ha l =>
    obtain ⟨dx, h⟩ := id hx
    obtain ⟨dy, h'⟩ := id hy
    exact .inr (.inl ⟨x, y, dx, dy, _, _, rfl, rfl, h, h', x, y, l, rfl, hx, hy, Hv.Ok.sh ok, fun H' e => ⟨_, rfl, q H' e⟩⟩)
  | st l =>
    obtain ⟨dx, h⟩ := id hx
    obtain ⟨dy, h'⟩ := id hy
    exact .inr (.inr ⟨x, y, dx, dy, _, _, rfl, rfl, h, h', x, y, l, rfl, hx, hy, Sl.Ok.sh ok, fun H' e => ⟨_, rfl, q H' e⟩⟩)
/-- read_loop of a loop's own line -/
theorem read_own {z : Str} {E : XK} (ok : o.Ok) (hz : z = o.line) (q : ∀ x H', H x = none → Ext H H' → IsLo K H' x o → Q (.ref x) H') : sp_read_loopX K [.str z] H Q E := by
  refine ⟨z, rfl, by rw [hz]; exact Nat.le_trans (Lo.len ok) (by decide), fun o' ok' e' x H' hx e hl => ?_, fun no => absurd hz (no o ok)⟩
  have : o' = o := Lo.eq_line ok' ok (by rw [← e', hz])
  subst this
  exact q x H' hx e hl
/-- read_loop(text).text() -/
theorem e_readtext {te : TE} {z : Str} (ok : o.Ok) (hz : z = o.line) (he : ∀ S : VK, S (.str z) H → te σ H S) (q : ∀ H', Ext H H' → Q (.str z) H') :
    FW.tEither (tMeth (He.ga K "Average") "text" (sp_Average_text K) [] E0 (tCall (sp_read_loopX K) [] E0 (tCons te (tNil))) (tNil)) (FW.tEither (tMeth (He.ga K "Halves") "text" (sp_Halves_text K) [] E0 (tCall (sp_read_loopX K) [] E0 (tCons te (tNil))) (tNil)) (tMeth (He.ga K "Steps") "text" (sp_Steps_text K) [] E0 (tCall (sp_read_loopX K) [] E0 (tCons te (tNil))) (tNil))) σ H Q := by
  have lo := Lo.lineOk ok
  have rd : ∀ (S : VK), (∀ x H', H x = none → Ext H H' → IsLo K H' x o → S (.ref x) H') → tCall (sp_read_loopX K) [] E0 (tCons te (tNil)) σ H S := fun S k => e_call (e_cons (he _ (e_nil (read_own ok hz k))))
  have q' : ∀ H1, Ext H H1 → ∀ H', Ext H1 H' → Q (.str o.line) H' := fun H1 e1 H' e => by rw [← hz]; exact q H' (e1.tr e)
  cases o with
  | av l =>
    refine .inl (FW.e_mt (rd _ fun x H1 _ e1 hx => ?_))
    obtain ⟨dx, hd⟩ := id hx
    exact ⟨x, dx, _, rfl, hd, rfl, FW.e_nil ⟨x, l, rfl, hx, lo, q' H1 e1⟩⟩
  | ha l =>
    refine .inr (.inl (FW.e_mt (rd _ fun x H1 _ e1 hx => ?_)))
    obtain ⟨dx, hd⟩ := id hx
    exact ⟨x, dx, _, rfl, hd, rfl, FW.e_nil ⟨x, l, rfl, hx, lo, q' H1 e1⟩⟩
  | st l =>
    refine .inr (.inr (FW.e_mt (rd _ fun x H1 _ e1 hx => ?_)))
    obtain ⟨dx, hd⟩ := id hx
    exact ⟨x, dx, _, rfl, hd, rfl, FW.e_nil ⟨x, l, rfl, hx, lo, q' H1 e1⟩⟩
/-- the lambda -/
theorem lam_read (X : Hk53 K) {te : TE} {z : Str} (T : LamX.Tabs (tabs K) H) (hz : z.length ≤ 100000) (hte : ∀ (H2 : Hp) (R : VK), LamX.ExtN H H2 → R (.str z) H2 → te σ H2 R)
    (kn : isTx z = true → ∀ H', LamX.ExtN H H' → LamX.Tabs (tabs K) H' → Q .non H')
    (ke : isTx z = false → ∀ t' H', LamX.ExtN H H' → LamX.Tabs (tabs K) H' → H' t' = some (.tup [.str "text", .non]) → Q (.ref t') H') :
    LamX.tLam (tabs K) (TT_l_refusedH K) (fun E => tCall (sp_read_loopX K) [] E (tCons te (tNil))) σ H Q := by
  refine ⟨T, fun H2 eN t2 => ⟨fun cls d H' => RefX K Q cls d H', ?_, fun _ _ _ h => h⟩⟩
  refine e_call (e_cons (hte _ _ eN (e_nil ?_)))
  refine ⟨z, rfl, hz, fun o ok e x H' _ e' _ => kn (by rw [e]; exact tx_is ok) H' (eN.trans (LamX.ExtN.of e')) (t2.ext e'), fun no H' e => ?_⟩
  have hf : isTx z = false := by
    cases h : isTx z with
    | false => rfl
    | true =>
      obtain ⟨o, ok, eo⟩ := tx_fnd h
      exact absurd eo (no o ok)
  refine ⟨"BadText", rfl, X.hk, .inr (.inr ⟨by decide, rfl, fun t' G e' et => ?_⟩)⟩
  have ew : errWord "BadText" = "text" := by decide +kernel
  rw [ew] at et
  exact ke hf t' G (eN.trans (LamX.ExtN.of (e.tr e'))) (t2.ext (e.tr e')) et
end
end FWL
namespace FWL
open PySem PySem.Spec PyProof.Rows L2 FW
/-! ### k53: the law, walked -/
def rd_law_L1 (K : PySem.W.Frag) : TS := tAsg (tCall (sp_l_spoilt K) [] E0 (tCons (tLc (iList K (tSl (rSlL K) (tVar 2) (tPart (tOp FW.rAdd (tC (.int 11)) (tOp FW.rMul (tC (.int 3)) (tVar 10)))) (tPart (tOp FW.rAdd (tC (.int 14)) (tOp FW.rMul (tC (.int 3)) (tVar 10)))))) (gName 11) (tYes) (tCB FW.rInt1 (tCons (tVar 11) (tNil))) [11]) (tCons (tVar 9) (tNil)))) (gName 9)
def rd_law_L2 (K : PySem.W.Frag) : TS := tSeq (tAsg (tCall (sp_l_row K) [] E0 (tCons (tCall (sp_l_apart K) [] E0 (tCons (tCall (sp_l_cell_at K) [] E0 (tCons (tVar 0) (tCons (tVar 1) (tNil)))) (tCons (tVar 1) (tNil)))) (tCons (tC (.int 30)) (tNil)))) (gName 2)) (tSeq (tAsg (tOp (rIxL K) (tLst (tCons (tCall (sp_l_loop_parts K) [] E0 (tCons (tVar 2) (tCons (tC (.int 0)) (tNil)))) (tCons (tCall (sp_l_drawn_halves K) [] E0 (tCons (tVar 2) (tCons (tC (.int 0)) (tNil)))) (tCons (tCall (sp_l_drawn_steps K) [] E0 (tCons (tVar 2) (tCons (tC (.int 0)) (tNil)))) (tNil))))) (tOp FW.rMod (tVar 1) (tC (.int 3)))) (gName 3)) (tSeq (tAsg (tCall (sp_l_madeT K) [] E0 (tCons (tVar 3) (tCons (tOp FW.rMod (tVar 1) (tC (.int 3))) (tNil)))) (gName 4)) (tSeq (tAsg (tCall (sp_l_line K) [] E0 (tCons (tOp (rIxL K) (tLst (tCons (tC (.str "average")) (tCons (tC (.str "halves")) (tCons (tC (.str "steps")) (tNil))))) (tOp FW.rMod (tVar 1) (tC (.int 3)))) (tCons (tVar 3) (tNil)))) (gName 5)) (tSeq (tAsg (tCall (sp_read_loopX K) [] E0 (tCons (tVar 5) (tNil))) (gName 6)) (tSeq (tAsg (tLst (tCons (tCB (rIsi K) (tCons (tVar 6) (tCons (tC (.ref (He.ga K "Average"))) (tNil)))) (tCons (tCB (rIsi K) (tCons (tVar 6) (tCons (tC (.ref (He.ga K "Halves"))) (tNil)))) (tCons (tCB (rIsi K) (tCons (tVar 6) (tCons (tC (.ref (He.ga K "Steps"))) (tNil)))) (tNil))))) (gName 7)) (tSeq (tIfS (tOr (tTest (tOp rNe (FW.tEither (tMeth (He.ga K "Average") "text" (sp_Average_text K) [] E0 (tVar 4) (tNil)) (FW.tEither (tMeth (He.ga K "Halves") "text" (sp_Halves_text K) [] E0 (tVar 4) (tNil)) (tMeth (He.ga K "Steps") "text" (sp_Steps_text K) [] E0 (tVar 4) (tNil)))) (tVar 5))) (tOr (tTest (tOp (FW.rOrU (FW.rNeO (He.ga K "Average") (sp_Average_eq K)) (FW.rOrU (FW.rNeO (He.ga K "Halves") (sp_Halves_eq K)) (FW.rNeO (He.ga K "Steps") (sp_Steps_eq K)))) (tVar 6) (tVar 4))) (tTest (tOp (rNeD K) (tVar 7) (tLst (tCons (tOp rEq (tOp FW.rMod (tVar 1) (tC (.int 3))) (tC (.int 0))) (tCons (tOp rEq (tOp FW.rMod (tVar 1) (tC (.int 3))) (tC (.int 1))) (tCons (tOp rEq (tOp FW.rMod (tVar 1) (tC (.int 3))) (tC (.int 2))) (tNil))))))))) (tRet (tC (.bl false))) (tNext)) (tSeq (tAsg (tM1 FW.rSplit (tVar 5) (tC (.str " "))) (gName 8)) (tSeq (tAsg (tOp FW.rAddS (tOp (rIxL K) (tLst (tCons (tC (.str "")) (tCons (tC (.str "-")) (tNil)))) (tOp FW.rMod (tCB FW.rInt1 (tCons (tOp (rIxL K) (tVar 2) (tC (.int 21))) (tNil))) (tC (.int 2)))) (tOp FW.rMulS (tC (.str "1")) (tOp (rIxL K) (tLst (tCons (tC (.int 400)) (tCons (tC (.int 4301)) (tNil)))) (tOp FW.rMod (tVar 1) (tC (.int 2)))))) (gSub (tVar 8) (tOp FW.rAdd (tC (.int 1)) (tOp FW.rMod (tCB FW.rInt1 (tCons (tOp (rIxL K) (tVar 2) (tC (.int 20))) (tNil))) (tOp FW.rSub (tCB (Evl.rLenS K) (tCons (tVar 8) (tNil))) (tC (.int 1))))) rSetL)) (tSeq (tIfS (tTest (tOp (rNeD K) (LamX.tLam (FWL.tabs K) (TT_l_refusedH K) (fun E => tCall (sp_read_loopX K) [] E (tCons (tM1 (FW.rJoin K) (tC (.str " ")) (tVar 8)) (tNil)))) (tTup (tCons (tC (.str "text")) (tCons (tC .non) (tNil)))))) (tRet (tC (.bl false))) (tNext)) (tSeq (tAsg (tVar 5) (gName 9)) (tSeq (tFor (iRng1 (tCons (tOp FW.rAdd (tC (.int 1)) (tOp FW.rMod (tCB FW.rInt1 (tCons (tOp (rIxL K) (tVar 2) (tC (.int 10))) (tNil))) (tC (.int 3)))) (tNil))) (gName 10) (rd_law_L1 K)) (tSeq (tAsg (LamX.tLam (FWL.tabs K) (TT_l_refusedH K) (fun E => tCall (sp_read_loopX K) [] E (tCons (tVar 9) (tNil)))) (gName 12)) (tSeq (tIfS (tTest (tOp (rNeD K) (tVar 12) (tIf (tB (tCall (sp_l_is_text K) [] E0 (tCons (tVar 9) (tNil)))) (tC .non) (tTup (tCons (tC (.str "text")) (tCons (tC .non) (tNil))))))) (tRet (tC (.bl false))) (tNext)) (tIfS (tAnd (tTest (tOp FW.rIsN (tVar 12) (tC .non))) (tTest (tOp rNe (FW.tEither (tMeth (He.ga K "Average") "text" (sp_Average_text K) [] E0 (tCall (sp_read_loopX K) [] E0 (tCons (tVar 9) (tNil))) (tNil)) (FW.tEither (tMeth (He.ga K "Halves") "text" (sp_Halves_text K) [] E0 (tCall (sp_read_loopX K) [] E0 (tCons (tVar 9) (tNil))) (tNil)) (tMeth (He.ga K "Steps") "text" (sp_Steps_text K) [] E0 (tCall (sp_read_loopX K) [] E0 (tCons (tVar 9) (tNil))) (tNil)))) (tVar 9)))) (tRet (tC (.bl false))) (tNext)))))))))))))))
theorem three {es : List Int} (h : es.length = 3) : ∃ a b c, es = [a, b, c] := by
  match es, h with
  | [a, b, c], _ => exact ⟨a, b, c, rfl⟩
theorem cut3 {xs : List Int} {N : Nat} (hr : Row xs N) {i : Nat} (h : i + 3 ≤ N) : ∃ a b c, cutV (xs.map V.int) (some (i : Int)) (some ((i + 3 : Nat) : Int)) = [V.int a, .int b, .int c] ∧ (0 ≤ a ∧ 0 ≤ b ∧ 0 ≤ c) := by
  have e : cutV (xs.map V.int) (some (i : Int)) (some ((i + 3 : Nat) : Int)) = ((xs.drop i).take 3).map V.int := by
    unfold cutV
    rw [HT.sIx_nat, HT.sIx_nat, List.length_map, hr.1, Nat.min_eq_left (by omega), Nat.min_eq_left (by omega), List.map_take, List.map_drop, show i + 3 - i = 3 by omega]
  have hl : ((xs.drop i).take 3).length = 3 := by
    rw [List.length_take, List.length_drop, hr.1]; omega
  obtain ⟨a, b, c, hs⟩ := three hl
  have hm : ∀ x ∈ (xs.drop i).take 3, 0 ≤ x := fun x hx => (hr.2 x (List.mem_of_mem_drop (List.mem_of_mem_take hx))).1
  rw [hs] at hm
  exact ⟨a, b, c, by rw [e, hs]; rfl, hm a (by simp), hm b (by simp), hm c (by simp)⟩
section
variable {K : PySem.W.Frag} {H : Hp} {D : Ends} {L a : Addr} {xs : List Int} {z : Str} {i : Int} {v0 v1 v3 v4 v5 v6 v7 v8 v10 v11 v12 : Option V}
theorem law_L1 (hL : H L = some (.lst (xs.map V.int))) (hr : Row xs 30) (i0 : 0 ≤ i) (i3 : i < 3) (hz : z.length ≤ 5000) (k : ∀ z' H' w11, z'.length ≤ 2 * z.length + 20 → Ext H H' → D.nx [v0, v1, some (.ref L), v3, v4, v5, v6, v7, v8, some (.str z'), some (.int i), w11, v12] H') :
    rd_law_L1 K D [v0, v1, some (.ref L), v3, v4, v5, v6, v7, v8, some (.str z), some (.int i), v11, v12] H := by
  have mw : CMulW 3 i := wide_mul (a := 10) (b := 10) (by decide) (by show _ < 1024; omega) (by decide) (by decide) (by decide)
  obtain ⟨n, rfl⟩ : ∃ n : Nat, i = n := ⟨i.toNat, by omega⟩
  obtain ⟨x, y, w, ec, x0, y0, w0⟩ := cut3 hr (i := 11 + 3 * n) (by omega)
  unfold rd_law_L1
  walk_at "rd"
  refine e_sl (e_var (e_part ?_) rfl)
  walk_at "re"
  · refine ⟨_, rfl, e_part ?_⟩
    walk_at "re"
    · refine ⟨_, rfl, e_slL (fun S hS => ?_) (SqL.of hL)⟩
      rw [show (11 + 3 * (n : Int)) = ((11 + 3 * n : Nat) : Int) by omega, show (14 + 3 * (n : Int)) = ((11 + 3 * n + 3 : Nat) : Int) by omega, ec]
      have e1 := Ext.new (o := .lst [V.int x, .int y, .int w]) hS
      have hS1 : (L2.upd H S (.lst [V.int x, .int y, .int w])) S = some (.lst [V.int x, .int y, .int w]) := upd_same
      generalize L2.upd H S (.lst [V.int x, .int y, .int w]) = H1 at *
      refine ⟨S, rfl, ⟨_, SqL.of hS1⟩, ?_⟩
      refine lcLX (p := fun _ => true) (P := fun x v => v = x) (SqL.of hS1) (by show 3 ≤ 1000000; decide) (fun _ => rfl) (fun x _ H' R _ k => k H' (fun _ _ z => z)) (fun v hv _ H' R _ k => ?_) fun D2 G ys hD e3 hG hpr => ?_
      · obtain ⟨j, rfl⟩ : ∃ j : Int, v = .int j := by
          simp only [List.mem_cons, List.not_mem_nil, or_false] at hv
          rcases hv with rfl | rfl | rfl <;> exact ⟨_, rfl⟩
        walk_at "re"
        exact k _ _ (fun _ _ z => z) rfl
      · rw [List.filter_eq_self.mpr (fun _ _ => rfl)] at hpr
        rw [paired_eq hpr] at hG
        walk_at "re"
        exact ⟨D2, x, y, w, z, rfl, hG, ⟨x0, y0, w0⟩, hz, fun z' H' hl e => k z' H' _ hl (e1.tr (e3.tr e))⟩
    · exact mw
  · exact mw
/-- the first statements: what is drawn -/
theorem law_s2 {ns : List Int} {ws : List (Option V)} (hl : ws.length = 11) (i0 : 0 ≤ i) (i1 : i < 9) (hA : SqL K H a (ns.map V.int))
    (k : ∀ (H' : Hp) (L t : Addr) (xs : List Int) (o : Lo), Ext H H' → H' L = some (.lst (xs.map V.int)) → Row xs 30 → H' t = some (.lst o.V) → o.Ok → o.ix = i % 3 → (tSeq (tAsg (tCall (sp_l_madeT K) [] E0 (tCons (tVar 3) (tCons (tOp FW.rMod (tVar 1) (tC (.int 3))) (tNil)))) (gName 4)) (tSeq (tAsg (tCall (sp_l_line K) [] E0 (tCons (tOp (rIxL K) (tLst (tCons (tC (.str "average")) (tCons (tC (.str "halves")) (tCons (tC (.str "steps")) (tNil))))) (tOp FW.rMod (tVar 1) (tC (.int 3)))) (tCons (tVar 3) (tNil)))) (gName 5)) (tSeq (tAsg (tCall (sp_read_loopX K) [] E0 (tCons (tVar 5) (tNil))) (gName 6)) (tSeq (tAsg (tLst (tCons (tCB (rIsi K) (tCons (tVar 6) (tCons (tC (.ref (He.ga K "Average"))) (tNil)))) (tCons (tCB (rIsi K) (tCons (tVar 6) (tCons (tC (.ref (He.ga K "Halves"))) (tNil)))) (tCons (tCB (rIsi K) (tCons (tVar 6) (tCons (tC (.ref (He.ga K "Steps"))) (tNil)))) (tNil))))) (gName 7)) (tSeq (tIfS (tOr (tTest (tOp rNe (FW.tEither (tMeth (He.ga K "Average") "text" (sp_Average_text K) [] E0 (tVar 4) (tNil)) (FW.tEither (tMeth (He.ga K "Halves") "text" (sp_Halves_text K) [] E0 (tVar 4) (tNil)) (tMeth (He.ga K "Steps") "text" (sp_Steps_text K) [] E0 (tVar 4) (tNil)))) (tVar 5))) (tOr (tTest (tOp (FW.rOrU (FW.rNeO (He.ga K "Average") (sp_Average_eq K)) (FW.rOrU (FW.rNeO (He.ga K "Halves") (sp_Halves_eq K)) (FW.rNeO (He.ga K "Steps") (sp_Steps_eq K)))) (tVar 6) (tVar 4))) (tTest (tOp (rNeD K) (tVar 7) (tLst (tCons (tOp rEq (tOp FW.rMod (tVar 1) (tC (.int 3))) (tC (.int 0))) (tCons (tOp rEq (tOp FW.rMod (tVar 1) (tC (.int 3))) (tC (.int 1))) (tCons (tOp rEq (tOp FW.rMod (tVar 1) (tC (.int 3))) (tC (.int 2))) (tNil))))))))) (tRet (tC (.bl false))) (tNext)) (tSeq (tAsg (tM1 FW.rSplit (tVar 5) (tC (.str " "))) (gName 8)) (tSeq (tAsg (tOp FW.rAddS (tOp (rIxL K) (tLst (tCons (tC (.str "")) (tCons (tC (.str "-")) (tNil)))) (tOp FW.rMod (tCB FW.rInt1 (tCons (tOp (rIxL K) (tVar 2) (tC (.int 21))) (tNil))) (tC (.int 2)))) (tOp FW.rMulS (tC (.str "1")) (tOp (rIxL K) (tLst (tCons (tC (.int 400)) (tCons (tC (.int 4301)) (tNil)))) (tOp FW.rMod (tVar 1) (tC (.int 2)))))) (gSub (tVar 8) (tOp FW.rAdd (tC (.int 1)) (tOp FW.rMod (tCB FW.rInt1 (tCons (tOp (rIxL K) (tVar 2) (tC (.int 20))) (tNil))) (tOp FW.rSub (tCB (Evl.rLenS K) (tCons (tVar 8) (tNil))) (tC (.int 1))))) rSetL)) (tSeq (tIfS (tTest (tOp (rNeD K) (LamX.tLam (FWL.tabs K) (TT_l_refusedH K) (fun E => tCall (sp_read_loopX K) [] E (tCons (tM1 (FW.rJoin K) (tC (.str " ")) (tVar 8)) (tNil)))) (tTup (tCons (tC (.str "text")) (tCons (tC .non) (tNil)))))) (tRet (tC (.bl false))) (tNext)) (tSeq (tAsg (tVar 5) (gName 9)) (tSeq (tFor (iRng1 (tCons (tOp FW.rAdd (tC (.int 1)) (tOp FW.rMod (tCB FW.rInt1 (tCons (tOp (rIxL K) (tVar 2) (tC (.int 10))) (tNil))) (tC (.int 3)))) (tNil))) (gName 10) (rd_law_L1 K)) (tSeq (tAsg (LamX.tLam (FWL.tabs K) (TT_l_refusedH K) (fun E => tCall (sp_read_loopX K) [] E (tCons (tVar 9) (tNil)))) (gName 12)) (tSeq (tIfS (tTest (tOp (rNeD K) (tVar 12) (tIf (tB (tCall (sp_l_is_text K) [] E0 (tCons (tVar 9) (tNil)))) (tC .non) (tTup (tCons (tC (.str "text")) (tCons (tC .non) (tNil))))))) (tRet (tC (.bl false))) (tNext)) (tIfS (tAnd (tTest (tOp FW.rIsN (tVar 12) (tC .non))) (tTest (tOp rNe (FW.tEither (tMeth (He.ga K "Average") "text" (sp_Average_text K) [] E0 (tCall (sp_read_loopX K) [] E0 (tCons (tVar 9) (tNil))) (tNil)) (FW.tEither (tMeth (He.ga K "Halves") "text" (sp_Halves_text K) [] E0 (tCall (sp_read_loopX K) [] E0 (tCons (tVar 9) (tNil))) (tNil)) (tMeth (He.ga K "Steps") "text" (sp_Steps_text K) [] E0 (tCall (sp_read_loopX K) [] E0 (tCons (tVar 9) (tNil))) (tNil)))) (tVar 9)))) (tRet (tC (.bl false))) (tNext)))))))))))))) D (some (.ref a) :: some (.int i) :: (some (.ref L) :: some (.ref t) :: ws.drop 2)) H') :
    rd_law_L2 K D (some (.ref a) :: some (.int i) :: ws) H := by
  match ws, hl with
  | [v2, v3, v4, v5, v6, v7, v8, v9, v10, v11, v12], _ =>
  have k2 : ∀ (H' : Hp) (L t : Addr) (xs : List Int) (o : Lo), Ext H H' → H' L = some (.lst (xs.map V.int)) → Row xs 30 → H' t = some (.lst o.V) → o.Ok → o.ix = i % 3 → (tSeq (tAsg (tCall (sp_l_madeT K) [] E0 (tCons (tVar 3) (tCons (tOp FW.rMod (tVar 1) (tC (.int 3))) (tNil)))) (gName 4)) (tSeq (tAsg (tCall (sp_l_line K) [] E0 (tCons (tOp (rIxL K) (tLst (tCons (tC (.str "average")) (tCons (tC (.str "halves")) (tCons (tC (.str "steps")) (tNil))))) (tOp FW.rMod (tVar 1) (tC (.int 3)))) (tCons (tVar 3) (tNil)))) (gName 5)) (tSeq (tAsg (tCall (sp_read_loopX K) [] E0 (tCons (tVar 5) (tNil))) (gName 6)) (tSeq (tAsg (tLst (tCons (tCB (rIsi K) (tCons (tVar 6) (tCons (tC (.ref (He.ga K "Average"))) (tNil)))) (tCons (tCB (rIsi K) (tCons (tVar 6) (tCons (tC (.ref (He.ga K "Halves"))) (tNil)))) (tCons (tCB (rIsi K) (tCons (tVar 6) (tCons (tC (.ref (He.ga K "Steps"))) (tNil)))) (tNil))))) (gName 7)) (tSeq (tIfS (tOr (tTest (tOp rNe (FW.tEither (tMeth (He.ga K "Average") "text" (sp_Average_text K) [] E0 (tVar 4) (tNil)) (FW.tEither (tMeth (He.ga K "Halves") "text" (sp_Halves_text K) [] E0 (tVar 4) (tNil)) (tMeth (He.ga K "Steps") "text" (sp_Steps_text K) [] E0 (tVar 4) (tNil)))) (tVar 5))) (tOr (tTest (tOp (FW.rOrU (FW.rNeO (He.ga K "Average") (sp_Average_eq K)) (FW.rOrU (FW.rNeO (He.ga K "Halves") (sp_Halves_eq K)) (FW.rNeO (He.ga K "Steps") (sp_Steps_eq K)))) (tVar 6) (tVar 4))) (tTest (tOp (rNeD K) (tVar 7) (tLst (tCons (tOp rEq (tOp FW.rMod (tVar 1) (tC (.int 3))) (tC (.int 0))) (tCons (tOp rEq (tOp FW.rMod (tVar 1) (tC (.int 3))) (tC (.int 1))) (tCons (tOp rEq (tOp FW.rMod (tVar 1) (tC (.int 3))) (tC (.int 2))) (tNil))))))))) (tRet (tC (.bl false))) (tNext)) (tSeq (tAsg (tM1 FW.rSplit (tVar 5) (tC (.str " "))) (gName 8)) (tSeq (tAsg (tOp FW.rAddS (tOp (rIxL K) (tLst (tCons (tC (.str "")) (tCons (tC (.str "-")) (tNil)))) (tOp FW.rMod (tCB FW.rInt1 (tCons (tOp (rIxL K) (tVar 2) (tC (.int 21))) (tNil))) (tC (.int 2)))) (tOp FW.rMulS (tC (.str "1")) (tOp (rIxL K) (tLst (tCons (tC (.int 400)) (tCons (tC (.int 4301)) (tNil)))) (tOp FW.rMod (tVar 1) (tC (.int 2)))))) (gSub (tVar 8) (tOp FW.rAdd (tC (.int 1)) (tOp FW.rMod (tCB FW.rInt1 (tCons (tOp (rIxL K) (tVar 2) (tC (.int 20))) (tNil))) (tOp FW.rSub (tCB (Evl.rLenS K) (tCons (tVar 8) (tNil))) (tC (.int 1))))) rSetL)) (tSeq (tIfS (tTest (tOp (rNeD K) (LamX.tLam (FWL.tabs K) (TT_l_refusedH K) (fun E => tCall (sp_read_loopX K) [] E (tCons (tM1 (FW.rJoin K) (tC (.str " ")) (tVar 8)) (tNil)))) (tTup (tCons (tC (.str "text")) (tCons (tC .non) (tNil)))))) (tRet (tC (.bl false))) (tNext)) (tSeq (tAsg (tVar 5) (gName 9)) (tSeq (tFor (iRng1 (tCons (tOp FW.rAdd (tC (.int 1)) (tOp FW.rMod (tCB FW.rInt1 (tCons (tOp (rIxL K) (tVar 2) (tC (.int 10))) (tNil))) (tC (.int 3)))) (tNil))) (gName 10) (rd_law_L1 K)) (tSeq (tAsg (LamX.tLam (FWL.tabs K) (TT_l_refusedH K) (fun E => tCall (sp_read_loopX K) [] E (tCons (tVar 9) (tNil)))) (gName 12)) (tSeq (tIfS (tTest (tOp (rNeD K) (tVar 12) (tIf (tB (tCall (sp_l_is_text K) [] E0 (tCons (tVar 9) (tNil)))) (tC .non) (tTup (tCons (tC (.str "text")) (tCons (tC .non) (tNil))))))) (tRet (tC (.bl false))) (tNext)) (tIfS (tAnd (tTest (tOp FW.rIsN (tVar 12) (tC .non))) (tTest (tOp rNe (FW.tEither (tMeth (He.ga K "Average") "text" (sp_Average_text K) [] E0 (tCall (sp_read_loopX K) [] E0 (tCons (tVar 9) (tNil))) (tNil)) (FW.tEither (tMeth (He.ga K "Halves") "text" (sp_Halves_text K) [] E0 (tCall (sp_read_loopX K) [] E0 (tCons (tVar 9) (tNil))) (tNil)) (tMeth (He.ga K "Steps") "text" (sp_Steps_text K) [] E0 (tCall (sp_read_loopX K) [] E0 (tCons (tVar 9) (tNil))) (tNil)))) (tVar 9)))) (tRet (tC (.bl false))) (tNext)))))))))))))) D [some (.ref a), some (.int i), some (.ref L), some (.ref t), v4, v5, v6, v7, v8, v9, v10, v11, v12] H' := k
  clear k
  unfold rd_law_L2
  generalize (tSeq (tAsg (tCall (sp_l_madeT K) [] E0 (tCons (tVar 3) (tCons (tOp FW.rMod (tVar 1) (tC (.int 3))) (tNil)))) (gName 4)) (tSeq (tAsg (tCall (sp_l_line K) [] E0 (tCons (tOp (rIxL K) (tLst (tCons (tC (.str "average")) (tCons (tC (.str "halves")) (tCons (tC (.str "steps")) (tNil))))) (tOp FW.rMod (tVar 1) (tC (.int 3)))) (tCons (tVar 3) (tNil)))) (gName 5)) (tSeq (tAsg (tCall (sp_read_loopX K) [] E0 (tCons (tVar 5) (tNil))) (gName 6)) (tSeq (tAsg (tLst (tCons (tCB (rIsi K) (tCons (tVar 6) (tCons (tC (.ref (He.ga K "Average"))) (tNil)))) (tCons (tCB (rIsi K) (tCons (tVar 6) (tCons (tC (.ref (He.ga K "Halves"))) (tNil)))) (tCons (tCB (rIsi K) (tCons (tVar 6) (tCons (tC (.ref (He.ga K "Steps"))) (tNil)))) (tNil))))) (gName 7)) (tSeq (tIfS (tOr (tTest (tOp rNe (FW.tEither (tMeth (He.ga K "Average") "text" (sp_Average_text K) [] E0 (tVar 4) (tNil)) (FW.tEither (tMeth (He.ga K "Halves") "text" (sp_Halves_text K) [] E0 (tVar 4) (tNil)) (tMeth (He.ga K "Steps") "text" (sp_Steps_text K) [] E0 (tVar 4) (tNil)))) (tVar 5))) (tOr (tTest (tOp (FW.rOrU (FW.rNeO (He.ga K "Average") (sp_Average_eq K)) (FW.rOrU (FW.rNeO (He.ga K "Halves") (sp_Halves_eq K)) (FW.rNeO (He.ga K "Steps") (sp_Steps_eq K)))) (tVar 6) (tVar 4))) (tTest (tOp (rNeD K) (tVar 7) (tLst (tCons (tOp rEq (tOp FW.rMod (tVar 1) (tC (.int 3))) (tC (.int 0))) (tCons (tOp rEq (tOp FW.rMod (tVar 1) (tC (.int 3))) (tC (.int 1))) (tCons (tOp rEq (tOp FW.rMod (tVar 1) (tC (.int 3))) (tC (.int 2))) (tNil))))))))) (tRet (tC (.bl false))) (tNext)) (tSeq (tAsg (tM1 FW.rSplit (tVar 5) (tC (.str " "))) (gName 8)) (tSeq (tAsg (tOp FW.rAddS (tOp (rIxL K) (tLst (tCons (tC (.str "")) (tCons (tC (.str "-")) (tNil)))) (tOp FW.rMod (tCB FW.rInt1 (tCons (tOp (rIxL K) (tVar 2) (tC (.int 21))) (tNil))) (tC (.int 2)))) (tOp FW.rMulS (tC (.str "1")) (tOp (rIxL K) (tLst (tCons (tC (.int 400)) (tCons (tC (.int 4301)) (tNil)))) (tOp FW.rMod (tVar 1) (tC (.int 2)))))) (gSub (tVar 8) (tOp FW.rAdd (tC (.int 1)) (tOp FW.rMod (tCB FW.rInt1 (tCons (tOp (rIxL K) (tVar 2) (tC (.int 20))) (tNil))) (tOp FW.rSub (tCB (Evl.rLenS K) (tCons (tVar 8) (tNil))) (tC (.int 1))))) rSetL)) (tSeq (tIfS (tTest (tOp (rNeD K) (LamX.tLam (FWL.tabs K) (TT_l_refusedH K) (fun E => tCall (sp_read_loopX K) [] E (tCons (tM1 (FW.rJoin K) (tC (.str " ")) (tVar 8)) (tNil)))) (tTup (tCons (tC (.str "text")) (tCons (tC .non) (tNil)))))) (tRet (tC (.bl false))) (tNext)) (tSeq (tAsg (tVar 5) (gName 9)) (tSeq (tFor (iRng1 (tCons (tOp FW.rAdd (tC (.int 1)) (tOp FW.rMod (tCB FW.rInt1 (tCons (tOp (rIxL K) (tVar 2) (tC (.int 10))) (tNil))) (tC (.int 3)))) (tNil))) (gName 10) (rd_law_L1 K)) (tSeq (tAsg (LamX.tLam (FWL.tabs K) (TT_l_refusedH K) (fun E => tCall (sp_read_loopX K) [] E (tCons (tVar 9) (tNil)))) (gName 12)) (tSeq (tIfS (tTest (tOp (rNeD K) (tVar 12) (tIf (tB (tCall (sp_l_is_text K) [] E0 (tCons (tVar 9) (tNil)))) (tC .non) (tTup (tCons (tC (.str "text")) (tCons (tC .non) (tNil))))))) (tRet (tC (.bl false))) (tNext)) (tIfS (tAnd (tTest (tOp FW.rIsN (tVar 12) (tC .non))) (tTest (tOp rNe (FW.tEither (tMeth (He.ga K "Average") "text" (sp_Average_text K) [] E0 (tCall (sp_read_loopX K) [] E0 (tCons (tVar 9) (tNil))) (tNil)) (FW.tEither (tMeth (He.ga K "Halves") "text" (sp_Halves_text K) [] E0 (tCall (sp_read_loopX K) [] E0 (tCons (tVar 9) (tNil))) (tNil)) (tMeth (He.ga K "Steps") "text" (sp_Steps_text K) [] E0 (tCall (sp_read_loopX K) [] E0 (tCons (tVar 9) (tNil))) (tNil)))) (tVar 9)))) (tRet (tC (.bl false))) (tNext)))))))))))))) = TL at *
  walk_at "rd"
  refine ⟨a, ns, i, rfl, hA, i0, fun c => ?_⟩
  walk_at "rd"
  refine ⟨c, i, rfl, i0, by omega, fun c' => ?_⟩
  walk_at "rd"
  refine ⟨c', 30, rfl, by decide, fun L xs H1 _ e1 hL1 hr => ?_⟩
  walk_at "rd"
  refine ⟨L, xs, 30, 0, rfl, hL1, hr, by decide, by decide, fun t1 l1 H2 ok1 ht1 e2 h1 => ?_⟩
  walk_at "re"
  refine ⟨L, xs, 30, 0, rfl, e2 _ _ hL1, hr, by decide, by decide, fun t2 l2 H3 ht2 ok2 e3 h2 => ?_⟩
  walk_at "re"
  refine ⟨L, xs, 30, 0, rfl, e3 _ _ (e2 _ _ hL1), hr, by decide, by decide, fun t3 l3 H4 ht3 ok3 e4 h3 => ?_⟩
  walk_at "re"
  refine ⟨by show 3 ≤ sizeLine; decide, fun p hp => ?_⟩
  have e5 := Ext.new (o := .lst [V.ref t1, .ref t2, .ref t3]) hp
  have hp1 : (L2.upd H4 p (.lst [V.ref t1, .ref t2, .ref t3])) p = some (.lst [V.ref t1, .ref t2, .ref t3]) := upd_same
  generalize L2.upd H4 p (.lst [V.ref t1, .ref t2, .ref t3]) = H5 at *
  have e25 := e2.tr (e3.tr (e4.tr e5))
  walk_at "re"
  · have three : ∃ (o : Lo) (t : Addr), o.Ok ∧ o.ix = i % 3 ∧ H5 t = some (.lst o.V) ∧ atI [V.ref t1, .ref t2, .ref t3] (i % 3) = some (.ref t) := by
      have h3' : i % 3 = 0 ∨ i % 3 = 1 ∨ i % 3 = 2 := by omega
      rcases h3' with h | h | h
      · exact ⟨.av l1, t1, ok1, h.symm, (e3.tr (e4.tr e5)) _ _ h1, by rw [h]; rfl⟩
      · exact ⟨.ha l2, t2, ok2, h.symm, (e4.tr e5) _ _ h2, by rw [h]; rfl⟩
      · exact ⟨.st l3, t3, ok3, h.symm, e5 _ _ h3, by rw [h]; rfl⟩
    obtain ⟨o, t, ok, oi, ht, hat⟩ := three
    refine ha_ixL hp1 hat ?_
    walk_at "rd"
    exact k2 H5 L t xs o (e1.tr e25) (e25 _ _ hL1) hr ht ok oi
  · decide
end
section
variable {K : PySem.W.Frag} {H : Hp} {D : Ends} {L t a : Addr} {xs : List Int} {z : Str} {i : Int} {o : Lo} {v0 v1 v3 v4 v5 v6 v7 v8 v9 v10 v11 v12 : Option V}
theorem ne_refl {d : PyData} (h : SeqAt.shaped d = true) : (!PyData.eqv d d) = false := by rw [SeqAt.eqv_refl _ (SeqAt.canLay_of_shaped h)]; rfl
/-- the loop, its line, read back -/
theorem law_s7 (X : Hk53 K) (ht : H t = some (.lst o.V)) (ok : o.Ok) (oi : o.ix = i % 3)
    (k : ∀ (H' : Hp) (v4 v6 v7 : Option V), Ext H H' → (tSeq (tAsg (tM1 FW.rSplit (tVar 5) (tC (.str " "))) (gName 8)) (tSeq (tAsg (tOp FW.rAddS (tOp (rIxL K) (tLst (tCons (tC (.str "")) (tCons (tC (.str "-")) (tNil)))) (tOp FW.rMod (tCB FW.rInt1 (tCons (tOp (rIxL K) (tVar 2) (tC (.int 21))) (tNil))) (tC (.int 2)))) (tOp FW.rMulS (tC (.str "1")) (tOp (rIxL K) (tLst (tCons (tC (.int 400)) (tCons (tC (.int 4301)) (tNil)))) (tOp FW.rMod (tVar 1) (tC (.int 2)))))) (gSub (tVar 8) (tOp FW.rAdd (tC (.int 1)) (tOp FW.rMod (tCB FW.rInt1 (tCons (tOp (rIxL K) (tVar 2) (tC (.int 20))) (tNil))) (tOp FW.rSub (tCB (Evl.rLenS K) (tCons (tVar 8) (tNil))) (tC (.int 1))))) rSetL)) (tSeq (tIfS (tTest (tOp (rNeD K) (LamX.tLam (FWL.tabs K) (TT_l_refusedH K) (fun E => tCall (sp_read_loopX K) [] E (tCons (tM1 (FW.rJoin K) (tC (.str " ")) (tVar 8)) (tNil)))) (tTup (tCons (tC (.str "text")) (tCons (tC .non) (tNil)))))) (tRet (tC (.bl false))) (tNext)) (tSeq (tAsg (tVar 5) (gName 9)) (tSeq (tFor (iRng1 (tCons (tOp FW.rAdd (tC (.int 1)) (tOp FW.rMod (tCB FW.rInt1 (tCons (tOp (rIxL K) (tVar 2) (tC (.int 10))) (tNil))) (tC (.int 3)))) (tNil))) (gName 10) (rd_law_L1 K)) (tSeq (tAsg (LamX.tLam (FWL.tabs K) (TT_l_refusedH K) (fun E => tCall (sp_read_loopX K) [] E (tCons (tVar 9) (tNil)))) (gName 12)) (tSeq (tIfS (tTest (tOp (rNeD K) (tVar 12) (tIf (tB (tCall (sp_l_is_text K) [] E0 (tCons (tVar 9) (tNil)))) (tC .non) (tTup (tCons (tC (.str "text")) (tCons (tC .non) (tNil))))))) (tRet (tC (.bl false))) (tNext)) (tIfS (tAnd (tTest (tOp FW.rIsN (tVar 12) (tC .non))) (tTest (tOp rNe (FW.tEither (tMeth (He.ga K "Average") "text" (sp_Average_text K) [] E0 (tCall (sp_read_loopX K) [] E0 (tCons (tVar 9) (tNil))) (tNil)) (FW.tEither (tMeth (He.ga K "Halves") "text" (sp_Halves_text K) [] E0 (tCall (sp_read_loopX K) [] E0 (tCons (tVar 9) (tNil))) (tNil)) (tMeth (He.ga K "Steps") "text" (sp_Steps_text K) [] E0 (tCall (sp_read_loopX K) [] E0 (tCons (tVar 9) (tNil))) (tNil)))) (tVar 9)))) (tRet (tC (.bl false))) (tNext))))))))) D [v0, some (.int i), some (.ref L), some (.ref t), v4, some (.str o.line), v6, v7, v8, v9, v10, v11, v12] H') :
    (tSeq (tAsg (tCall (sp_l_madeT K) [] E0 (tCons (tVar 3) (tCons (tOp FW.rMod (tVar 1) (tC (.int 3))) (tNil)))) (gName 4)) (tSeq (tAsg (tCall (sp_l_line K) [] E0 (tCons (tOp (rIxL K) (tLst (tCons (tC (.str "average")) (tCons (tC (.str "halves")) (tCons (tC (.str "steps")) (tNil))))) (tOp FW.rMod (tVar 1) (tC (.int 3)))) (tCons (tVar 3) (tNil)))) (gName 5)) (tSeq (tAsg (tCall (sp_read_loopX K) [] E0 (tCons (tVar 5) (tNil))) (gName 6)) (tSeq (tAsg (tLst (tCons (tCB (rIsi K) (tCons (tVar 6) (tCons (tC (.ref (He.ga K "Average"))) (tNil)))) (tCons (tCB (rIsi K) (tCons (tVar 6) (tCons (tC (.ref (He.ga K "Halves"))) (tNil)))) (tCons (tCB (rIsi K) (tCons (tVar 6) (tCons (tC (.ref (He.ga K "Steps"))) (tNil)))) (tNil))))) (gName 7)) (tSeq (tIfS (tOr (tTest (tOp rNe (FW.tEither (tMeth (He.ga K "Average") "text" (sp_Average_text K) [] E0 (tVar 4) (tNil)) (FW.tEither (tMeth (He.ga K "Halves") "text" (sp_Halves_text K) [] E0 (tVar 4) (tNil)) (tMeth (He.ga K "Steps") "text" (sp_Steps_text K) [] E0 (tVar 4) (tNil)))) (tVar 5))) (tOr (tTest (tOp (FW.rOrU (FW.rNeO (He.ga K "Average") (sp_Average_eq K)) (FW.rOrU (FW.rNeO (He.ga K "Halves") (sp_Halves_eq K)) (FW.rNeO (He.ga K "Steps") (sp_Steps_eq K)))) (tVar 6) (tVar 4))) (tTest (tOp (rNeD K) (tVar 7) (tLst (tCons (tOp rEq (tOp FW.rMod (tVar 1) (tC (.int 3))) (tC (.int 0))) (tCons (tOp rEq (tOp FW.rMod (tVar 1) (tC (.int 3))) (tC (.int 1))) (tCons (tOp rEq (tOp FW.rMod (tVar 1) (tC (.int 3))) (tC (.int 2))) (tNil))))))))) (tRet (tC (.bl false))) (tNext)) (tSeq (tAsg (tM1 FW.rSplit (tVar 5) (tC (.str " "))) (gName 8)) (tSeq (tAsg (tOp FW.rAddS (tOp (rIxL K) (tLst (tCons (tC (.str "")) (tCons (tC (.str "-")) (tNil)))) (tOp FW.rMod (tCB FW.rInt1 (tCons (tOp (rIxL K) (tVar 2) (tC (.int 21))) (tNil))) (tC (.int 2)))) (tOp FW.rMulS (tC (.str "1")) (tOp (rIxL K) (tLst (tCons (tC (.int 400)) (tCons (tC (.int 4301)) (tNil)))) (tOp FW.rMod (tVar 1) (tC (.int 2)))))) (gSub (tVar 8) (tOp FW.rAdd (tC (.int 1)) (tOp FW.rMod (tCB FW.rInt1 (tCons (tOp (rIxL K) (tVar 2) (tC (.int 20))) (tNil))) (tOp FW.rSub (tCB (Evl.rLenS K) (tCons (tVar 8) (tNil))) (tC (.int 1))))) rSetL)) (tSeq (tIfS (tTest (tOp (rNeD K) (LamX.tLam (FWL.tabs K) (TT_l_refusedH K) (fun E => tCall (sp_read_loopX K) [] E (tCons (tM1 (FW.rJoin K) (tC (.str " ")) (tVar 8)) (tNil)))) (tTup (tCons (tC (.str "text")) (tCons (tC .non) (tNil)))))) (tRet (tC (.bl false))) (tNext)) (tSeq (tAsg (tVar 5) (gName 9)) (tSeq (tFor (iRng1 (tCons (tOp FW.rAdd (tC (.int 1)) (tOp FW.rMod (tCB FW.rInt1 (tCons (tOp (rIxL K) (tVar 2) (tC (.int 10))) (tNil))) (tC (.int 3)))) (tNil))) (gName 10) (rd_law_L1 K)) (tSeq (tAsg (LamX.tLam (FWL.tabs K) (TT_l_refusedH K) (fun E => tCall (sp_read_loopX K) [] E (tCons (tVar 9) (tNil)))) (gName 12)) (tSeq (tIfS (tTest (tOp (rNeD K) (tVar 12) (tIf (tB (tCall (sp_l_is_text K) [] E0 (tCons (tVar 9) (tNil)))) (tC .non) (tTup (tCons (tC (.str "text")) (tCons (tC .non) (tNil))))))) (tRet (tC (.bl false))) (tNext)) (tIfS (tAnd (tTest (tOp FW.rIsN (tVar 12) (tC .non))) (tTest (tOp rNe (FW.tEither (tMeth (He.ga K "Average") "text" (sp_Average_text K) [] E0 (tCall (sp_read_loopX K) [] E0 (tCons (tVar 9) (tNil))) (tNil)) (FW.tEither (tMeth (He.ga K "Halves") "text" (sp_Halves_text K) [] E0 (tCall (sp_read_loopX K) [] E0 (tCons (tVar 9) (tNil))) (tNil)) (tMeth (He.ga K "Steps") "text" (sp_Steps_text K) [] E0 (tCall (sp_read_loopX K) [] E0 (tCons (tVar 9) (tNil))) (tNil)))) (tVar 9)))) (tRet (tC (.bl false))) (tNext)))))))))))))) D [v0, some (.int i), some (.ref L), some (.ref t), v4, v5, v6, v7, v8, v9, v10, v11, v12] H := by
  generalize (tSeq (tAsg (tM1 FW.rSplit (tVar 5) (tC (.str " "))) (gName 8)) (tSeq (tAsg (tOp FW.rAddS (tOp (rIxL K) (tLst (tCons (tC (.str "")) (tCons (tC (.str "-")) (tNil)))) (tOp FW.rMod (tCB FW.rInt1 (tCons (tOp (rIxL K) (tVar 2) (tC (.int 21))) (tNil))) (tC (.int 2)))) (tOp FW.rMulS (tC (.str "1")) (tOp (rIxL K) (tLst (tCons (tC (.int 400)) (tCons (tC (.int 4301)) (tNil)))) (tOp FW.rMod (tVar 1) (tC (.int 2)))))) (gSub (tVar 8) (tOp FW.rAdd (tC (.int 1)) (tOp FW.rMod (tCB FW.rInt1 (tCons (tOp (rIxL K) (tVar 2) (tC (.int 20))) (tNil))) (tOp FW.rSub (tCB (Evl.rLenS K) (tCons (tVar 8) (tNil))) (tC (.int 1))))) rSetL)) (tSeq (tIfS (tTest (tOp (rNeD K) (LamX.tLam (FWL.tabs K) (TT_l_refusedH K) (fun E => tCall (sp_read_loopX K) [] E (tCons (tM1 (FW.rJoin K) (tC (.str " ")) (tVar 8)) (tNil)))) (tTup (tCons (tC (.str "text")) (tCons (tC .non) (tNil)))))) (tRet (tC (.bl false))) (tNext)) (tSeq (tAsg (tVar 5) (gName 9)) (tSeq (tFor (iRng1 (tCons (tOp FW.rAdd (tC (.int 1)) (tOp FW.rMod (tCB FW.rInt1 (tCons (tOp (rIxL K) (tVar 2) (tC (.int 10))) (tNil))) (tC (.int 3)))) (tNil))) (gName 10) (rd_law_L1 K)) (tSeq (tAsg (LamX.tLam (FWL.tabs K) (TT_l_refusedH K) (fun E => tCall (sp_read_loopX K) [] E (tCons (tVar 9) (tNil)))) (gName 12)) (tSeq (tIfS (tTest (tOp (rNeD K) (tVar 12) (tIf (tB (tCall (sp_l_is_text K) [] E0 (tCons (tVar 9) (tNil)))) (tC .non) (tTup (tCons (tC (.str "text")) (tCons (tC .non) (tNil))))))) (tRet (tC (.bl false))) (tNext)) (tIfS (tAnd (tTest (tOp FW.rIsN (tVar 12) (tC .non))) (tTest (tOp rNe (FW.tEither (tMeth (He.ga K "Average") "text" (sp_Average_text K) [] E0 (tCall (sp_read_loopX K) [] E0 (tCons (tVar 9) (tNil))) (tNil)) (FW.tEither (tMeth (He.ga K "Halves") "text" (sp_Halves_text K) [] E0 (tCall (sp_read_loopX K) [] E0 (tCons (tVar 9) (tNil))) (tNil)) (tMeth (He.ga K "Steps") "text" (sp_Steps_text K) [] E0 (tCall (sp_read_loopX K) [] E0 (tCons (tVar 9) (tNil))) (tNil)))) (tVar 9)))) (tRet (tC (.bl false))) (tNext))))))))) = TL at *
  have hm : atI [V.str "average", .str "halves", .str "steps"] (i % 3) = some (.str o.hd) := by
    rw [← oi]
    cases o <;> rfl
  walk_at "rd"
  · rw [← oi]
    refine ⟨t, o, rfl, ht, ok, fun x H1 _ e1 hx => ?_⟩
    walk_at "rd"
    refine ⟨by show 3 ≤ sizeLine; decide, fun p hp => ?_⟩
    have e2 := Ext.new (o := .lst [V.str "average", .str "halves", .str "steps"]) hp
    have hp1 : (L2.upd H1 p (.lst [V.str "average", .str "halves", .str "steps"])) p = some (.lst [V.str "average", .str "halves", .str "steps"]) := upd_same
    generalize L2.upd H1 p (.lst [V.str "average", .str "halves", .str "steps"]) = H2 at *
    walk_at "re"
    · refine ha_ixL hp1 hm ?_
      walk_at "re"
      refine ⟨o.hd, t, o.V, rfl, e2 _ _ (e1 _ _ ht), Lo.lineOk ok, fun H3 e3 => ?_⟩
      walk_at "rd"
      refine read_own (o := o) ok rfl fun y H4 _ e4 hy => ?_
      have hx4 : IsLo K H4 x o := hx.ext (e2.tr (e3.tr e4))
      have e14 := e1.tr (e2.tr (e3.tr e4))
      walk_at "rd"
      refine e_isiL X hy (c := "Average") (by decide) ?_
      walk_at "re"
      refine e_isiL X hy (c := "Halves") (by decide) ?_
      walk_at "re"
      refine e_isiL X hy (c := "Steps") (by decide) ?_
      walk_at "re"
      refine ⟨by show 3 ≤ sizeLine; decide, fun q hq => ?_⟩
      have e5 := Ext.new (o := .lst [V.bl (decide (o.cls = "Average")), .bl (decide (o.cls = "Halves")), .bl (decide (o.cls = "Steps"))]) hq
      have hq1 : (L2.upd H4 q (.lst [V.bl (decide (o.cls = "Average")), .bl (decide (o.cls = "Halves")), .bl (decide (o.cls = "Steps"))])) q = some (.lst [V.bl (decide (o.cls = "Average")), .bl (decide (o.cls = "Halves")), .bl (decide (o.cls = "Steps"))]) := upd_same
      generalize L2.upd H4 q (.lst [V.bl (decide (o.cls = "Average")), .bl (decide (o.cls = "Halves")), .bl (decide (o.cls = "Steps"))]) = H5 at *
      have hx5 := hx4.ext e5
      have hy5 := hy.ext e5
      walk_at "rd"
      refine e_text ok hx5 (fun S hS => e_var hS rfl) fun H6 e6 => ?_
      walk_at "re"
      refine if_f (by rw [show lineV o.hd o.V = o.line from rfl, decide_eq_true rfl]; rfl) ?_
      walk_at "re"
      refine e_neL ok (hy5.ext e6) (hx5.ext e6) fun H7 e7 => ?_
      walk_at "re"
      · refine ⟨by show 3 ≤ sizeLine; decide, fun p2 hp2 => ?_⟩
        have el : [V.bl (decide (V.int (i % 3) = V.int 0)), V.bl (decide (V.int (i % 3) = V.int 1)), V.bl (decide (V.int (i % 3) = V.int 2))] = [V.bl (decide (o.cls = "Average")), .bl (decide (o.cls = "Halves")), .bl (decide (o.cls = "Steps"))] := by
          rw [decI, decI, decI, ← oi]
          cases o with
          | av l =>
            show [V.bl (decide ((0 : Int) = 0)), V.bl (decide ((0 : Int) = 1)), V.bl (decide ((0 : Int) = 2))] = [V.bl (decide (("Average" : Str) = "Average")), .bl (decide (("Average" : Str) = "Halves")), .bl (decide (("Average" : Str) = "Steps"))]
            decide +kernel
          | ha l =>
            show [V.bl (decide ((1 : Int) = 0)), V.bl (decide ((1 : Int) = 1)), V.bl (decide ((1 : Int) = 2))] = [V.bl (decide (("Halves" : Str) = "Average")), .bl (decide (("Halves" : Str) = "Halves")), .bl (decide (("Halves" : Str) = "Steps"))]
            decide +kernel
          | st l =>
            show [V.bl (decide ((2 : Int) = 0)), V.bl (decide ((2 : Int) = 1)), V.bl (decide ((2 : Int) = 2))] = [V.bl (decide (("Steps" : Str) = "Average")), .bl (decide (("Steps" : Str) = "Halves")), .bl (decide (("Steps" : Str) = "Steps"))]
            decide +kernel
        rw [el]
        have e8 := Ext.new (o := .lst [V.bl (decide (o.cls = "Average")), .bl (decide (o.cls = "Halves")), .bl (decide (o.cls = "Steps"))]) hp2
        have hp3 : (L2.upd H7 p2 (.lst [V.bl (decide (o.cls = "Average")), .bl (decide (o.cls = "Halves")), .bl (decide (o.cls = "Steps"))])) p2 = some (.lst [V.bl (decide (o.cls = "Average")), .bl (decide (o.cls = "Halves")), .bl (decide (o.cls = "Steps"))]) := upd_same
        generalize L2.upd H7 p2 (.lst [V.bl (decide (o.cls = "Average")), .bl (decide (o.cls = "Halves")), .bl (decide (o.cls = "Steps"))]) = H8 at *
        have dl : ∀ {r : Addr} {b1 b2 b3 : Bool}, H8 r = some (.lst [V.bl b1, .bl b2, .bl b3]) → Dp K H8 (.ref r) (.list [.bool b1, .bool b2, .bool b3]) := fun h => .lst (SqL.of h) (.cons (.bl _) (.cons (.bl _) (.cons (.bl _) .nil)))
        have sh : ∀ b1 b2 b3 : Bool, SeqAt.shaped (.list [.bool b1, .bool b2, .bool b3]) = true := by intro b1 b2 b3; cases b1 <;> cases b2 <;> cases b3 <;> kernel_rfl
        refine e_neD ?_ (dl (e8 _ _ (e7 _ _ (e6 _ _ hq1)))) (dl hp3) (sh _ _ _) (sh _ _ _)
        rw [ne_refl (sh _ _ _)]
        refine ⟨_, rfl, if_f rfl (FW.s_next ?_)⟩
        exact k H8 _ _ _ (e14.tr (e5.tr (e6.tr (e7.tr e8))))
      · decide
      · decide
      · decide
    · decide
  · decide
end
end FWL
namespace FWL
open PySem PySem.Spec PyProof.Rows L2 FW
/-! ### k53: a long word, texts spoilt, the law whole -/
theorem mul1_signs (n : Int) (h : 0 ≤ n) : TL.tl (Txt.mul "1" n) = List.replicate n.toNat 49 := mul_one_list 49 n
theorem long_word {pre : Str} (hp : pre = "" ∨ pre = "-") {n : Int} (h0 : 0 ≤ n) (hn : 400 ≤ n) : NoSp (pre ++ Txt.mul "1" n) ∧ 100 < (pre ++ Txt.mul "1" n).length := by
  have m := mul1_signs n h0
  have hm : 32 ∉ TL.tl (Txt.mul "1" n) := by
    rw [m]
    intro h
    have := List.eq_of_mem_replicate h
    omega
  constructor
  · unfold NoSp
    rw [TL.tl_append, List.mem_append, not_or]
    refine ⟨?_, hm⟩
    rcases hp with rfl | rfl <;> decide +kernel
  · rw [Str.length_append, TL.len_tl (Txt.mul "1" n), m, List.length_replicate]
    omega
theorem long_len {pre : Str} (hp : pre = "" ∨ pre = "-") {n : Int} (h0 : 0 ≤ n) (hn : n ≤ 5000) : (pre ++ Txt.mul "1" n).length ≤ 5001 := by
  have m := mul1_signs n h0
  rw [Str.length_append, TL.len_tl (Txt.mul "1" n), m, List.length_replicate]
  rcases hp with rfl | rfl
  · have : ("" : Str).length = 0 := by decide +kernel
    omega
  · have : ("-" : Str).length = 1 := by decide +kernel
    omega
theorem Lo.len4 : ∀ {o : Lo}, 4 ≤ o.V.length
  | .av _ => show 4 ≤ 7 by decide
  | .ha _ => show 4 ≤ 7 by decide
  | .st _ => show 4 ≤ 4 by decide
section
variable {K : PySem.W.Frag} {H : Hp} {D : Ends} {L t a : Addr} {xs : List Int} {z : Str} {i : Int} {o : Lo} {v0 v1 v3 v4 v5 v6 v7 v8 v9 v10 v11 v12 : Option V}
/-- the line with a long word in it -/
theorem law_s8 (hL : H L = some (.lst (xs.map V.int))) (hr : Row xs 30) (ok : o.Ok) (i0 : 0 ≤ i)
    (k : ∀ (H' : Hp) (p : Addr) (ws : List Str), Ext H H' → H' p = some (.lst (ws.map V.str)) → ws ≠ [] → (∀ w ∈ ws, NoSp w) → (∃ w ∈ ws, 100 < w.length) → szW ws ≤ 20000 → (tSeq (tIfS (tTest (tOp (rNeD K) (LamX.tLam (FWL.tabs K) (TT_l_refusedH K) (fun E => tCall (sp_read_loopX K) [] E (tCons (tM1 (FW.rJoin K) (tC (.str " ")) (tVar 8)) (tNil)))) (tTup (tCons (tC (.str "text")) (tCons (tC .non) (tNil)))))) (tRet (tC (.bl false))) (tNext)) (tSeq (tAsg (tVar 5) (gName 9)) (tSeq (tFor (iRng1 (tCons (tOp FW.rAdd (tC (.int 1)) (tOp FW.rMod (tCB FW.rInt1 (tCons (tOp (rIxL K) (tVar 2) (tC (.int 10))) (tNil))) (tC (.int 3)))) (tNil))) (gName 10) (rd_law_L1 K)) (tSeq (tAsg (LamX.tLam (FWL.tabs K) (TT_l_refusedH K) (fun E => tCall (sp_read_loopX K) [] E (tCons (tVar 9) (tNil)))) (gName 12)) (tSeq (tIfS (tTest (tOp (rNeD K) (tVar 12) (tIf (tB (tCall (sp_l_is_text K) [] E0 (tCons (tVar 9) (tNil)))) (tC .non) (tTup (tCons (tC (.str "text")) (tCons (tC .non) (tNil))))))) (tRet (tC (.bl false))) (tNext)) (tIfS (tAnd (tTest (tOp FW.rIsN (tVar 12) (tC .non))) (tTest (tOp rNe (FW.tEither (tMeth (He.ga K "Average") "text" (sp_Average_text K) [] E0 (tCall (sp_read_loopX K) [] E0 (tCons (tVar 9) (tNil))) (tNil)) (FW.tEither (tMeth (He.ga K "Halves") "text" (sp_Halves_text K) [] E0 (tCall (sp_read_loopX K) [] E0 (tCons (tVar 9) (tNil))) (tNil)) (tMeth (He.ga K "Steps") "text" (sp_Steps_text K) [] E0 (tCall (sp_read_loopX K) [] E0 (tCons (tVar 9) (tNil))) (tNil)))) (tVar 9)))) (tRet (tC (.bl false))) (tNext))))))) D [v0, some (.int i), some (.ref L), v3, v4, some (.str o.line), v6, v7, some (.ref p), v9, v10, v11, v12] H') :
    (tSeq (tAsg (tM1 FW.rSplit (tVar 5) (tC (.str " "))) (gName 8)) (tSeq (tAsg (tOp FW.rAddS (tOp (rIxL K) (tLst (tCons (tC (.str "")) (tCons (tC (.str "-")) (tNil)))) (tOp FW.rMod (tCB FW.rInt1 (tCons (tOp (rIxL K) (tVar 2) (tC (.int 21))) (tNil))) (tC (.int 2)))) (tOp FW.rMulS (tC (.str "1")) (tOp (rIxL K) (tLst (tCons (tC (.int 400)) (tCons (tC (.int 4301)) (tNil)))) (tOp FW.rMod (tVar 1) (tC (.int 2)))))) (gSub (tVar 8) (tOp FW.rAdd (tC (.int 1)) (tOp FW.rMod (tCB FW.rInt1 (tCons (tOp (rIxL K) (tVar 2) (tC (.int 20))) (tNil))) (tOp FW.rSub (tCB (Evl.rLenS K) (tCons (tVar 8) (tNil))) (tC (.int 1))))) rSetL)) (tSeq (tIfS (tTest (tOp (rNeD K) (LamX.tLam (FWL.tabs K) (TT_l_refusedH K) (fun E => tCall (sp_read_loopX K) [] E (tCons (tM1 (FW.rJoin K) (tC (.str " ")) (tVar 8)) (tNil)))) (tTup (tCons (tC (.str "text")) (tCons (tC .non) (tNil)))))) (tRet (tC (.bl false))) (tNext)) (tSeq (tAsg (tVar 5) (gName 9)) (tSeq (tFor (iRng1 (tCons (tOp FW.rAdd (tC (.int 1)) (tOp FW.rMod (tCB FW.rInt1 (tCons (tOp (rIxL K) (tVar 2) (tC (.int 10))) (tNil))) (tC (.int 3)))) (tNil))) (gName 10) (rd_law_L1 K)) (tSeq (tAsg (LamX.tLam (FWL.tabs K) (TT_l_refusedH K) (fun E => tCall (sp_read_loopX K) [] E (tCons (tVar 9) (tNil)))) (gName 12)) (tSeq (tIfS (tTest (tOp (rNeD K) (tVar 12) (tIf (tB (tCall (sp_l_is_text K) [] E0 (tCons (tVar 9) (tNil)))) (tC .non) (tTup (tCons (tC (.str "text")) (tCons (tC .non) (tNil))))))) (tRet (tC (.bl false))) (tNext)) (tIfS (tAnd (tTest (tOp FW.rIsN (tVar 12) (tC .non))) (tTest (tOp rNe (FW.tEither (tMeth (He.ga K "Average") "text" (sp_Average_text K) [] E0 (tCall (sp_read_loopX K) [] E0 (tCons (tVar 9) (tNil))) (tNil)) (FW.tEither (tMeth (He.ga K "Halves") "text" (sp_Halves_text K) [] E0 (tCall (sp_read_loopX K) [] E0 (tCons (tVar 9) (tNil))) (tNil)) (tMeth (He.ga K "Steps") "text" (sp_Steps_text K) [] E0 (tCall (sp_read_loopX K) [] E0 (tCons (tVar 9) (tNil))) (tNil)))) (tVar 9)))) (tRet (tC (.bl false))) (tNext))))))))) D [v0, some (.int i), some (.ref L), v3, v4, some (.str o.line), v6, v7, v8, v9, v10, v11, v12] H := by
  generalize (tSeq (tIfS (tTest (tOp (rNeD K) (LamX.tLam (FWL.tabs K) (TT_l_refusedH K) (fun E => tCall (sp_read_loopX K) [] E (tCons (tM1 (FW.rJoin K) (tC (.str " ")) (tVar 8)) (tNil)))) (tTup (tCons (tC (.str "text")) (tCons (tC .non) (tNil)))))) (tRet (tC (.bl false))) (tNext)) (tSeq (tAsg (tVar 5) (gName 9)) (tSeq (tFor (iRng1 (tCons (tOp FW.rAdd (tC (.int 1)) (tOp FW.rMod (tCB FW.rInt1 (tCons (tOp (rIxL K) (tVar 2) (tC (.int 10))) (tNil))) (tC (.int 3)))) (tNil))) (gName 10) (rd_law_L1 K)) (tSeq (tAsg (LamX.tLam (FWL.tabs K) (TT_l_refusedH K) (fun E => tCall (sp_read_loopX K) [] E (tCons (tVar 9) (tNil)))) (gName 12)) (tSeq (tIfS (tTest (tOp (rNeD K) (tVar 12) (tIf (tB (tCall (sp_l_is_text K) [] E0 (tCons (tVar 9) (tNil)))) (tC .non) (tTup (tCons (tC (.str "text")) (tCons (tC .non) (tNil))))))) (tRet (tC (.bl false))) (tNext)) (tIfS (tAnd (tTest (tOp FW.rIsN (tVar 12) (tC .non))) (tTest (tOp rNe (FW.tEither (tMeth (He.ga K "Average") "text" (sp_Average_text K) [] E0 (tCall (sp_read_loopX K) [] E0 (tCons (tVar 9) (tNil))) (tNil)) (FW.tEither (tMeth (He.ga K "Halves") "text" (sp_Halves_text K) [] E0 (tCall (sp_read_loopX K) [] E0 (tCons (tVar 9) (tNil))) (tNil)) (tMeth (He.ga K "Steps") "text" (sp_Steps_text K) [] E0 (tCall (sp_read_loopX K) [] E0 (tCons (tVar 9) (tNil))) (tNil)))) (tVar 9)))) (tRet (tC (.bl false))) (tNext))))))) = TL at *
  have lw := Lo.words ok
  have l4 := Lo.len4 (o := o)
  have l7 := Lo.lenV (o := o)
  have lsz := Lo.szW ok
  have lns : ∀ w ∈ o.hd :: o.V.map wdV, NoSp w := fun w hw => split_free o.line w (by rw [lw]; exact hw)
  walk_at "rd"
  unfold tM1
  refine e_var ⟨⟨_, rfl⟩, e_c ⟨o.line, " ", rfl, rfl, by decide +kernel, Nat.le_trans (Nat.add_le_add_right (Lo.len ok) 2) (by decide), fun p hp => ?_⟩⟩ rfl
  rw [lw]
  have e1 := Ext.new (o := .lst ((o.hd :: o.V.map wdV).map V.str)) hp
  have hp1 : (L2.upd H p (.lst ((o.hd :: o.V.map wdV).map V.str))) p = some (.lst ((o.hd :: o.V.map wdV).map V.str)) := upd_same
  generalize L2.upd H p (.lst ((o.hd :: o.V.map wdV).map V.str)) = H1 at *
  have hL1 := e1 _ _ hL
  have hln : (o.hd :: o.V.map wdV).length = o.V.length + 1 := by rw [List.length_cons, List.length_map]
  generalize o.hd :: o.V.map wdV = W at *
  walk_at "rx"
  rename_i pre hpre
  have n0 : 400 ≤ w ∧ w ≤ 5000 := by rcases hw with rfl | rfl <;> decide
  have lgo := long_word hpre (by omega) n0.1
  have lle := long_len hpre (by omega) n0.2
  refine ⟨"1", w, rfl, rfl, by omega, by omega, by decide +kernel, ?_⟩
  refine ⟨_, _, rfl, rfl, Nat.le_trans (by rw [← Str.length_append]; exact lle) (by decide), ?_⟩
  generalize pre ++ Txt.mul "1" w = lw0 at *
  have hpN : nH p = some (.lst (W.map V.str)) := by walk_at "rh"
  have eN : Ext H nH := by walk_at "rE"
  have hlm : ((W.map V.str).length : Int) = (W.length : Int) := by rw [List.length_map]
  walk_at "rx"
  · obtain ⟨n, hn⟩ : ∃ n : Nat, 1 + md = n := ⟨(1 + md).toNat, by omega⟩
    rw [hn]
    have hnl : n < W.length := by omega
    refine e_setL (m := n) ?_ hpN ?_
    · refine k _ p (W.set n lw0) (eN.upds hp) (by rw [upd_same, List.map_set]) (fun z => ?_) (fun w' hw' => ?_) ⟨lw0, List.mem_set hnl lw0, lgo.2⟩ ?_
      · have h0 : (W.set n lw0).length = 0 := by rw [z]; rfl
        rw [List.length_set] at h0
        omega
      · rcases List.mem_or_eq_of_mem_set hw' with h | rfl
        · exact lns w' h
        · exact lgo.1
      · have := szW_set (w := lw0) hnl
        omega
    · unfold ixN
      rw [if_pos (by omega), if_pos (by rw [List.length_map]; omega)]
      rfl
/-- read_loop refuses it -/
theorem law_s9 (X : Hk53 K) {p : Addr} {ws : List Str} (T : LamX.Tabs (tabs K) H) (hp : H p = some (.lst (ws.map V.str))) (hne : ws ≠ []) (hns : ∀ w ∈ ws, NoSp w) (hlg : ∃ w ∈ ws, 100 < w.length) (hsz : szW ws ≤ 20000)
    (k : ∀ H', LamX.ExtN H H' → LamX.Tabs (tabs K) H' → D.nx [v0, v1, some (.ref L), v3, v4, v5, v6, v7, some (.ref p), v9, v10, v11, v12] H') :
    (tIfS (tTest (tOp (rNeD K) (LamX.tLam (FWL.tabs K) (TT_l_refusedH K) (fun E => tCall (sp_read_loopX K) [] E (tCons (tM1 (FW.rJoin K) (tC (.str " ")) (tVar 8)) (tNil)))) (tTup (tCons (tC (.str "text")) (tCons (tC .non) (tNil)))))) (tRet (tC (.bl false))) (tNext)) D [v0, v1, some (.ref L), v3, v4, v5, v6, v7, some (.ref p), v9, v10, v11, v12] H := by
  obtain ⟨w, hw, hl⟩ := hlg
  have hf := tx_long hne hns hw hl
  have hj := join_le ws
  with_reducible refine FW.s_if ?_
  unfold tTest
  refine e_op (lam_read X (z := Txt.join " " ws) T (by omega) (fun H2 R e hR => ?_) (fun z => by rw [hf] at z; cases z) fun _ t' H1 e1 T1 ht => ?_)
  · unfold tM1
    refine e_c ⟨⟨_, rfl⟩, e_var ?_ rfl⟩
    exact rJ (nx_lst e hp) hsz hR
  · walk_at "re"
    refine ⟨by show 2 ≤ sizeLine; decide, fun q hq => ?_⟩
    have e2 := Ext.new (o := .tup [V.str "text", .non]) hq
    have hq1 : (L2.upd H1 q (.tup [V.str "text", .non])) q = some (.tup [V.str "text", .non]) := upd_same
    generalize L2.upd H1 q (.tup [V.str "text", .non]) = H2 at *
    have dt : ∀ {r : Addr}, H2 r = some (.tup [V.str "text", .non]) → Dp K H2 (.ref r) (.tuple [.str "text", .none]) := fun h => .tup (SqT.of h) (.cons (.str _) (.cons .non .nil))
    have sh : SeqAt.shaped (.tuple [.str "text", .none]) = true := by kernel_rfl
    refine e_neD ?_ (dt (e2 _ _ ht)) (dt hq1) sh sh
    rw [ne_refl sh]
    exact ⟨_, rfl, if_f rfl (FW.s_next (k H2 (e1.trans (LamX.ExtN.of e2)) (T1.ext e2)))⟩
/-- what becomes of a text that is spoilt -/
theorem law_t12 (X : Hk53 K) (T : LamX.Tabs (tabs K) H) (hz : z.length ≤ 5000) (k : ∀ (H' : Hp) (w12 : Option V), LamX.ExtN H H' → LamX.Tabs (tabs K) H' → D.nx [v0, v1, v3, v4, v5, v6, v7, v8, v9, some (.str z), v10, v11, w12] H') :
    (tSeq (tAsg (LamX.tLam (FWL.tabs K) (TT_l_refusedH K) (fun E => tCall (sp_read_loopX K) [] E (tCons (tVar 9) (tNil)))) (gName 12)) (tSeq (tIfS (tTest (tOp (rNeD K) (tVar 12) (tIf (tB (tCall (sp_l_is_text K) [] E0 (tCons (tVar 9) (tNil)))) (tC .non) (tTup (tCons (tC (.str "text")) (tCons (tC .non) (tNil))))))) (tRet (tC (.bl false))) (tNext)) (tIfS (tAnd (tTest (tOp FW.rIsN (tVar 12) (tC .non))) (tTest (tOp rNe (FW.tEither (tMeth (He.ga K "Average") "text" (sp_Average_text K) [] E0 (tCall (sp_read_loopX K) [] E0 (tCons (tVar 9) (tNil))) (tNil)) (FW.tEither (tMeth (He.ga K "Halves") "text" (sp_Halves_text K) [] E0 (tCall (sp_read_loopX K) [] E0 (tCons (tVar 9) (tNil))) (tNil)) (tMeth (He.ga K "Steps") "text" (sp_Steps_text K) [] E0 (tCall (sp_read_loopX K) [] E0 (tCons (tVar 9) (tNil))) (tNil)))) (tVar 9)))) (tRet (tC (.bl false))) (tNext)))) D [v0, v1, v3, v4, v5, v6, v7, v8, v9, some (.str z), v10, v11, v12] H := by
  have dt : ∀ {G : Hp} {r : Addr}, G r = some (.tup [V.str "text", .non]) → Dp K G (.ref r) (.tuple [.str "text", .none]) := fun h => .tup (SqT.of h) (.cons (.str _) (.cons .non .nil))
  have sh : SeqAt.shaped (.tuple [.str "text", .none]) = true := by kernel_rfl
  have sn : SeqAt.shaped .none = true := by kernel_rfl
  with_reducible refine s_seq ?_
  with_reducible refine s_asg ?_
  refine lam_read X (z := z) T (by omega) (fun H2 R e hR => e_var hR rfl) (fun hy H1 e1 T1 => ?_) fun hn t' H1 e1 T1 ht => ?_
  · walk_at "rd"
    refine ⟨z, rfl, by omega, fun H2 e2 => ?_⟩
    rw [hy]
    walk_at "re"
    refine e_neD ?_ .non .non sn sn
    rw [ne_refl sn]
    refine ⟨_, rfl, if_f rfl (FW.s_next ?_)⟩
    obtain ⟨o, ok, eo⟩ := tx_fnd hy
    walk_at "rd"
    rw [decide_eq_true rfl]
    with_reducible refine e_T ?_
    walk_at "re"
    refine e_readtext (o := o) ok eo (fun S hS => e_var hS rfl) fun H3 e3 => ?_
    walk_at "re"
    refine if_f (by rw [decide_eq_true rfl]; rfl) (FW.s_next ?_)
    exact k H3 _ (e1.trans (LamX.ExtN.of (e2.tr e3))) (T1.ext (e2.tr e3))
  · walk_at "rd"
    refine ⟨z, rfl, by omega, fun H2 e2 => ?_⟩
    rw [hn]
    walk_at "re"
    refine ⟨by show 2 ≤ sizeLine; decide, fun q hq => ?_⟩
    have e3 := Ext.new (o := .tup [V.str "text", .non]) hq
    refine e_neD ?_ (dt (e3 _ _ (e2 _ _ ht))) (dt upd_same) sh sh
    rw [ne_refl sh]
    refine ⟨_, rfl, if_f rfl (FW.s_next ?_)⟩
    walk_at "rd"
    rw [decide_eq_false (show ¬ V.ref t' = V.non from fun w => nomatch w)]
    walk_at "rd"
    exact k _ _ (e1.trans (LamX.ExtN.of (e2.tr e3))) (T1.ext (e2.tr e3))
/-- one turn of the law -/
theorem law_L2 (X : Hk53 K) {ns : List Int} {ws : List (Option V)} (hl : ws.length = 11) (i0 : 0 ≤ i) (i1 : i < 9) (hA : SqL K H a (ns.map V.int)) (hT : LamX.Tabs (tabs K) H)
    (k : ∀ (H' : Hp) (ws : List (Option V)), ws.length = 11 → LamX.ExtN H H' → LamX.Tabs (tabs K) H' → D.nx (some (.ref a) :: some (.int i) :: ws) H') : rd_law_L2 K D (some (.ref a) :: some (.int i) :: ws) H := by
  match ws, hl with
  | [v2, v3, v4, v5, v6, v7, v8, v9, v10, v11, v12], hl =>
  have t12 : ∀ {H1 : Hp} {z : Str} {v2 v3 v4 v5 v6 v7 v8 v10 v11 v12 : Option V}, LamX.ExtN H H1 → LamX.Tabs (tabs K) H1 → z.length ≤ 5000 → (tSeq (tAsg (LamX.tLam (FWL.tabs K) (TT_l_refusedH K) (fun E => tCall (sp_read_loopX K) [] E (tCons (tVar 9) (tNil)))) (gName 12)) (tSeq (tIfS (tTest (tOp (rNeD K) (tVar 12) (tIf (tB (tCall (sp_l_is_text K) [] E0 (tCons (tVar 9) (tNil)))) (tC .non) (tTup (tCons (tC (.str "text")) (tCons (tC .non) (tNil))))))) (tRet (tC (.bl false))) (tNext)) (tIfS (tAnd (tTest (tOp FW.rIsN (tVar 12) (tC .non))) (tTest (tOp rNe (FW.tEither (tMeth (He.ga K "Average") "text" (sp_Average_text K) [] E0 (tCall (sp_read_loopX K) [] E0 (tCons (tVar 9) (tNil))) (tNil)) (FW.tEither (tMeth (He.ga K "Halves") "text" (sp_Halves_text K) [] E0 (tCall (sp_read_loopX K) [] E0 (tCons (tVar 9) (tNil))) (tNil)) (tMeth (He.ga K "Steps") "text" (sp_Steps_text K) [] E0 (tCall (sp_read_loopX K) [] E0 (tCons (tVar 9) (tNil))) (tNil)))) (tVar 9)))) (tRet (tC (.bl false))) (tNext)))) D [some (.ref a), some (.int i), v2, v3, v4, v5, v6, v7, v8, some (.str z), v10, v11, v12] H1 := fun e T hz => law_t12 X T hz fun H' w12 e' T' => k H' _ rfl (e.trans e') T'
  have t10 : ∀ {H1 : Hp} {L : Addr} {xs : List Int} {o : Lo} {v3 v4 v6 v7 v8 v9 v10 v11 v12 : Option V}, LamX.ExtN H H1 → LamX.Tabs (tabs K) H1 → H1 L = some (.lst (xs.map V.int)) → Row xs 30 → o.Ok →
      (tSeq (tAsg (tVar 5) (gName 9)) (tSeq (tFor (iRng1 (tCons (tOp FW.rAdd (tC (.int 1)) (tOp FW.rMod (tCB FW.rInt1 (tCons (tOp (rIxL K) (tVar 2) (tC (.int 10))) (tNil))) (tC (.int 3)))) (tNil))) (gName 10) (rd_law_L1 K)) (tSeq (tAsg (LamX.tLam (FWL.tabs K) (TT_l_refusedH K) (fun E => tCall (sp_read_loopX K) [] E (tCons (tVar 9) (tNil)))) (gName 12)) (tSeq (tIfS (tTest (tOp (rNeD K) (tVar 12) (tIf (tB (tCall (sp_l_is_text K) [] E0 (tCons (tVar 9) (tNil)))) (tC .non) (tTup (tCons (tC (.str "text")) (tCons (tC .non) (tNil))))))) (tRet (tC (.bl false))) (tNext)) (tIfS (tAnd (tTest (tOp FW.rIsN (tVar 12) (tC .non))) (tTest (tOp rNe (FW.tEither (tMeth (He.ga K "Average") "text" (sp_Average_text K) [] E0 (tCall (sp_read_loopX K) [] E0 (tCons (tVar 9) (tNil))) (tNil)) (FW.tEither (tMeth (He.ga K "Halves") "text" (sp_Halves_text K) [] E0 (tCall (sp_read_loopX K) [] E0 (tCons (tVar 9) (tNil))) (tNil)) (tMeth (He.ga K "Steps") "text" (sp_Steps_text K) [] E0 (tCall (sp_read_loopX K) [] E0 (tCons (tVar 9) (tNil))) (tNil)))) (tVar 9)))) (tRet (tC (.bl false))) (tNext)))))) D [some (.ref a), some (.int i), some (.ref L), v3, v4, some (.str o.line), v6, v7, v8, v9, v10, v11, v12] H1 := fun {H1 L xs o v3 v4 v6 v7 v8 v9 v10 v11 v12} e T hL hr ok => by
    generalize (tSeq (tAsg (LamX.tLam (FWL.tabs K) (TT_l_refusedH K) (fun E => tCall (sp_read_loopX K) [] E (tCons (tVar 9) (tNil)))) (gName 12)) (tSeq (tIfS (tTest (tOp (rNeD K) (tVar 12) (tIf (tB (tCall (sp_l_is_text K) [] E0 (tCons (tVar 9) (tNil)))) (tC .non) (tTup (tCons (tC (.str "text")) (tCons (tC .non) (tNil))))))) (tRet (tC (.bl false))) (tNext)) (tIfS (tAnd (tTest (tOp FW.rIsN (tVar 12) (tC .non))) (tTest (tOp rNe (FW.tEither (tMeth (He.ga K "Average") "text" (sp_Average_text K) [] E0 (tCall (sp_read_loopX K) [] E0 (tCons (tVar 9) (tNil))) (tNil)) (FW.tEither (tMeth (He.ga K "Halves") "text" (sp_Halves_text K) [] E0 (tCall (sp_read_loopX K) [] E0 (tCons (tVar 9) (tNil))) (tNil)) (tMeth (He.ga K "Steps") "text" (sp_Steps_text K) [] E0 (tCall (sp_read_loopX K) [] E0 (tCons (tVar 9) (tNil))) (tNil)))) (tVar 9)))) (tRet (tC (.bl false))) (tNext)))) = TL at *
    have l0 := Lo.len ok
    walk_at "rd"
    refine ha_row hL hr (by decide) (by decide) fun x x0 x1 => ?_
    walk_at "re"
    · refine for_range (lo := 0) (n := (1 + x % 3).toNat) (fun j σ H' => Ext H1 H' ∧ ∃ (z : Str) (w10 w11 : Option V), σ = [some (.ref a), some (.int i), some (.ref L), v3, v4, some (.str o.line), v6, v7, v8, some (.str z), w10, w11, v12] ∧ z.length + 20 ≤ 92 * 2 ^ j) ⟨fun _ _ z => z, o.line, _, _, rfl, by omega⟩ ?_ ?_
      · rintro j σ H' hj ⟨ej, z, w10, w11, rfl, hzl⟩
        have p3 : 2 ^ j ≤ 8 := by
          have : j ≤ 2 := by omega
          exact Nat.le_trans (Nat.pow_le_pow_right (by decide) this) (by decide)
        walk_at "re"
        refine law_L1 (i := 0 + (j : Int)) (ej _ _ hL) hr (by omega) (by omega) (by omega) fun z' H'' w11' hl' e' => ?_
        exact ⟨ej.tr e', z', _, _, rfl, by rw [Nat.pow_succ]; omega⟩
      · rintro σ H' ⟨ej, z, w10, w11, rfl, hzl⟩
        have p3 : 2 ^ (1 + x % 3).toNat ≤ 8 := by
          have : (1 + x % 3).toNat ≤ 3 := by omega
          exact Nat.le_trans (Nat.pow_le_pow_right (by decide) this) (by decide)
        exact t12 (e.trans (LamX.ExtN.of ej)) (T.ext ej) (by omega)
    · exact ⟨by omega, by omega⟩
    · decide
  have t9 : ∀ {H1 : Hp} {L p : Addr} {xs : List Int} {ws : List Str} {o : Lo} {v3 v4 v6 v7 v9 v10 v11 v12 : Option V}, Ext H H1 → H1 L = some (.lst (xs.map V.int)) → Row xs 30 → o.Ok → H1 p = some (.lst (ws.map V.str)) → ws ≠ [] → (∀ w ∈ ws, NoSp w) → (∃ w ∈ ws, 100 < w.length) → szW ws ≤ 20000 →
      (tSeq (tIfS (tTest (tOp (rNeD K) (LamX.tLam (FWL.tabs K) (TT_l_refusedH K) (fun E => tCall (sp_read_loopX K) [] E (tCons (tM1 (FW.rJoin K) (tC (.str " ")) (tVar 8)) (tNil)))) (tTup (tCons (tC (.str "text")) (tCons (tC .non) (tNil)))))) (tRet (tC (.bl false))) (tNext)) (tSeq (tAsg (tVar 5) (gName 9)) (tSeq (tFor (iRng1 (tCons (tOp FW.rAdd (tC (.int 1)) (tOp FW.rMod (tCB FW.rInt1 (tCons (tOp (rIxL K) (tVar 2) (tC (.int 10))) (tNil))) (tC (.int 3)))) (tNil))) (gName 10) (rd_law_L1 K)) (tSeq (tAsg (LamX.tLam (FWL.tabs K) (TT_l_refusedH K) (fun E => tCall (sp_read_loopX K) [] E (tCons (tVar 9) (tNil)))) (gName 12)) (tSeq (tIfS (tTest (tOp (rNeD K) (tVar 12) (tIf (tB (tCall (sp_l_is_text K) [] E0 (tCons (tVar 9) (tNil)))) (tC .non) (tTup (tCons (tC (.str "text")) (tCons (tC .non) (tNil))))))) (tRet (tC (.bl false))) (tNext)) (tIfS (tAnd (tTest (tOp FW.rIsN (tVar 12) (tC .non))) (tTest (tOp rNe (FW.tEither (tMeth (He.ga K "Average") "text" (sp_Average_text K) [] E0 (tCall (sp_read_loopX K) [] E0 (tCons (tVar 9) (tNil))) (tNil)) (FW.tEither (tMeth (He.ga K "Halves") "text" (sp_Halves_text K) [] E0 (tCall (sp_read_loopX K) [] E0 (tCons (tVar 9) (tNil))) (tNil)) (tMeth (He.ga K "Steps") "text" (sp_Steps_text K) [] E0 (tCall (sp_read_loopX K) [] E0 (tCons (tVar 9) (tNil))) (tNil)))) (tVar 9)))) (tRet (tC (.bl false))) (tNext))))))) D [some (.ref a), some (.int i), some (.ref L), v3, v4, some (.str o.line), v6, v7, some (.ref p), v9, v10, v11, v12] H1 := fun e hL hr ok hp h1 h2 h3 h4 => by
    generalize (tSeq (tAsg (tVar 5) (gName 9)) (tSeq (tFor (iRng1 (tCons (tOp FW.rAdd (tC (.int 1)) (tOp FW.rMod (tCB FW.rInt1 (tCons (tOp (rIxL K) (tVar 2) (tC (.int 10))) (tNil))) (tC (.int 3)))) (tNil))) (gName 10) (rd_law_L1 K)) (tSeq (tAsg (LamX.tLam (FWL.tabs K) (TT_l_refusedH K) (fun E => tCall (sp_read_loopX K) [] E (tCons (tVar 9) (tNil)))) (gName 12)) (tSeq (tIfS (tTest (tOp (rNeD K) (tVar 12) (tIf (tB (tCall (sp_l_is_text K) [] E0 (tCons (tVar 9) (tNil)))) (tC .non) (tTup (tCons (tC (.str "text")) (tCons (tC .non) (tNil))))))) (tRet (tC (.bl false))) (tNext)) (tIfS (tAnd (tTest (tOp FW.rIsN (tVar 12) (tC .non))) (tTest (tOp rNe (FW.tEither (tMeth (He.ga K "Average") "text" (sp_Average_text K) [] E0 (tCall (sp_read_loopX K) [] E0 (tCons (tVar 9) (tNil))) (tNil)) (FW.tEither (tMeth (He.ga K "Halves") "text" (sp_Halves_text K) [] E0 (tCall (sp_read_loopX K) [] E0 (tCons (tVar 9) (tNil))) (tNil)) (tMeth (He.ga K "Steps") "text" (sp_Steps_text K) [] E0 (tCall (sp_read_loopX K) [] E0 (tCons (tVar 9) (tNil))) (tNil)))) (tVar 9)))) (tRet (tC (.bl false))) (tNext)))))) = TL at *
    with_reducible refine s_seq ?_
    exact law_s9 X (hT.ext e) hp h1 h2 h3 h4 fun H2 e2 T2 => t10 ((LamX.ExtN.of e).trans e2) T2 (nx_lst e2 hL) hr ok
  clear t10 t12
  refine law_s2 hl i0 i1 hA fun H1 L t xs o e1 hL hr ht ok oi => ?_
  refine law_s7 X ht ok oi fun H2 w4 w6 w7 e2 => ?_
  exact law_s8 (e2 _ _ hL) hr ok i0 fun H3 p ws e3 hp h1 h2 h3 h4 => t9 (e1.tr (e2.tr e3)) (e3 _ _ (e2 _ _ hL)) hr ok hp h1 h2 h3 h4
end
def sp_law (K : PySem.W.Frag) : Sp := fun vs H Q _ => ∃ (a : Addr) (ns : List Int), vs = [.ref a] ∧ LamX.Tabs (tabs K) H ∧ SqL K H a (ns.map V.int) ∧ ∀ H', Q (.bl true) H'
def rd_law (K : PySem.W.Frag) : TS := tSeq (tFor (iRng1 (tCons (tC (.int 9)) (tNil))) (gName 1) (rd_law_L2 K)) (tRet (tC (.bl true)))
theorem pure_law (K : PySem.W.Frag) (X : Hk53 K) (vs : List V) (H : Hp) (Q : VK) (E : XK) (h : sp_law K vs H Q E) : rd_law K { nx := fun _ H' => Q .non H', rt := Q } (start ["_law_script", "_law_k", "_law_row_here", "_law_parts", "_law_loop_here", "_law_due", "_law_told", "_law_kinds", "_law_words", "_law_text", "_law_turn", "_law_draw", "_law_found"] vs) H := by
  obtain ⟨a, ns, rfl, hT, hA, q⟩ := h
  unfold rd_law
  walk_at "rd"
  · refine for_range (lo := 0) (n := 9) (fun i σ H' => LamX.ExtN H H' ∧ LamX.Tabs (tabs K) H' ∧ ∃ (u : Option V) (ws : List (Option V)), ws.length = 11 ∧ σ = some (.ref a) :: u :: ws) ⟨LamX.ExtN.refl H, hT, none, _, rfl, rfl⟩ ?_ ?_
    · rintro i σ H' hi ⟨e, tb, u, ws, hl, rfl⟩
      walk_at "re"
      refine law_L2 X (i := 0 + (i : Int)) hl (by omega) (by omega) (extN_sqL e hA) tb ?_
      intro H'' ws' hl' e'' t''
      exact ⟨e.trans e'', t'', _, _, hl', rfl⟩
    · rintro σ H' ⟨e, tb, u, ws, hl, rfl⟩
      walk_at "rd"
      exact q _
  · decide
end FWL
namespace FWL
open PySem PySem.Spec PyProof.Rows L2 FW
local macro_rules | `(tactic| walk_at "ln") => `(tactic| (intro vs H Q E h; repeat (obtain ⟨x', h⟩ := h; first | (rw [x']; rfl) | skip)))
structure Tx (K : PySem.W.Frag) (mg : Str → Option Value) (base : Heap) : Prop where
  n_abs : mg "abs" = none
  n_all : mg "all" = none
  n_any : mg "any" = none
  n_bool : mg "bool" = none
  n_dict : mg "dict" = none
  n_int : mg "int" = none
  n_isinstance : mg "isinstance" = none
  n_len : mg "len" = none
  n_list : mg "list" = none
  n_range : mg "range" = none
  n_str : mg "str" = none
  n_zip : mg "zip" = none
  s_DIGITS : ∃ t, mg "DIGITS" = some (.str "0123456789" t)
  g_Average : mg "Average" = some (.ref (He.ga K "Average"))
  g_BadBeginning : mg "BadBeginning" = some (.ref (He.ga K "BadBeginning"))
  g_BadBracket : mg "BadBracket" = some (.ref (He.ga K "BadBracket"))
  g_BadGuesses : mg "BadGuesses" = some (.ref (He.ga K "BadGuesses"))
  g_BadKind : mg "BadKind" = some (.ref (He.ga K "BadKind"))
  g_BadLoop : mg "BadLoop" = some (.ref (He.ga K "BadLoop"))
  g_BadNumber : mg "BadNumber" = some (.ref (He.ga K "BadNumber"))
  g_BadPower : mg "BadPower" = some (.ref (He.ga K "BadPower"))
  g_BadSought : mg "BadSought" = some (.ref (He.ga K "BadSought"))
  g_BadStart : mg "BadStart" = some (.ref (He.ga K "BadStart"))
  g_BadText : mg "BadText" = some (.ref (He.ga K "BadText"))
  g_FloorError : mg "FloorError" = some (.ref (He.ga K "FloorError"))
  g_Halves : mg "Halves" = some (.ref (He.ga K "Halves"))
  g_LOOKS : mg "LOOKS" = some (.ref (He.ga K "LOOKS"))
  g_MENDS : mg "MENDS" = some (.ref (He.ga K "MENDS"))
  g_NoGuess : mg "NoGuess" = some (.ref (He.ga K "NoGuess"))
  g_STOPS_averages : mg "STOPS_averages" = some (.ref (He.ga K "STOPS_averages"))
  g_STOPS_halves : mg "STOPS_halves" = some (.ref (He.ga K "STOPS_halves"))
  g_Steps : mg "Steps" = some (.ref (He.ga K "Steps"))
  g_TESTS : mg "TESTS" = some (.ref (He.ga K "TESTS"))
  g_TOLDS : mg "TOLDS" = some (.ref (He.ga K "TOLDS"))
  g__law_class : mg "_law_class" = some (.ref (He.ga K "_law_class"))
  g_is_whole : mg "is_whole" = some (.ref (He.ga K "is_whole"))
  g_is_whole_from : mg "is_whole_from" = some (.ref (He.ga K "is_whole_from"))
  g_is_word_of : mg "is_word_of" = some (.ref (He.ga K "is_word_of"))
  g_wrong_part : mg "wrong_part" = some (.ref (He.ga K "wrong_part"))
  g_is_number_of : mg "is_number_of" = some (.ref (He.ga K "is_number_of"))
  g_check_halves : mg "check_halves" = some (.ref (He.ga K "check_halves"))
  g_check_steps : mg "check_steps" = some (.ref (He.ga K "check_steps"))
  g_part_of : mg "part_of" = some (.ref (He.ga K "part_of"))
  g_made_loop : mg "made_loop" = some (.ref (He.ga K "made_loop"))
  g_read_loop : mg "read_loop" = some (.ref (He.ga K "read_loop"))
  g__law_cell_at : mg "_law_cell_at" = some (.ref (He.ga K "_law_cell_at"))
  g__law_mixed : mg "_law_mixed" = some (.ref (He.ga K "_law_mixed"))
  g__law_row : mg "_law_row" = some (.ref (He.ga K "_law_row"))
  g__law_apart : mg "_law_apart" = some (.ref (He.ga K "_law_apart"))
  g__law_drawn_halves : mg "_law_drawn_halves" = some (.ref (He.ga K "_law_drawn_halves"))
  g__law_halves : mg "_law_halves" = some (.ref (He.ga K "_law_halves"))
  g__law_drawn_steps : mg "_law_drawn_steps" = some (.ref (He.ga K "_law_drawn_steps"))
  g__law_steps : mg "_law_steps" = some (.ref (He.ga K "_law_steps"))
  g__law_weights : mg "_law_weights" = some (.ref (He.ga K "_law_weights"))
  g__law_loop_parts : mg "_law_loop_parts" = some (.ref (He.ga K "_law_loop_parts"))
  g__law_loop : mg "_law_loop" = some (.ref (He.ga K "_law_loop"))
  g__law_refused : mg "_law_refused" = some (.ref (He.ga K "_law_refused"))
  g__law_made : mg "_law_made" = some (.ref (He.ga K "_law_made"))
  g__law_line : mg "_law_line" = some (.ref (He.ga K "_law_line"))
  g__law_spoilt : mg "_law_spoilt" = some (.ref (He.ga K "_law_spoilt"))
  g__law_is_average : mg "_law_is_average" = some (.ref (He.ga K "_law_is_average"))
  g__law_is_text : mg "_law_is_text" = some (.ref (He.ga K "_law_is_text"))
  g_law : mg "law" = some (.ref (He.ga K "law"))
  d_is_whole : ∃ fd, FunD K "is_whole" "is_whole" (defArgs st_is_whole) (defBody st_is_whole) (defScope st_is_whole) [] [] (He.ga K "is_whole") fd
  d_is_whole_from : ∃ fd, FunD K "is_whole_from" "is_whole_from" (defArgs st_is_whole_from) (defBody st_is_whole_from) (defScope st_is_whole_from) [] [] (He.ga K "is_whole_from") fd
  d_is_word_of : ∃ fd, FunD K "is_word_of" "is_word_of" (defArgs st_is_word_of) (defBody st_is_word_of) (defScope st_is_word_of) [] [] (He.ga K "is_word_of") fd
  d_wrong_part : ∃ fd, FunD K "wrong_part" "wrong_part" (defArgs st_wrong_part) (defBody st_wrong_part) (defScope st_wrong_part) [] [] (He.ga K "wrong_part") fd
  d_Average_init : ∃ fd, FunD K "__init__" "Average.__init__" (defArgs st_Average_init) (defBody st_Average_init) (defScope st_Average_init) [.str "old", .str "none"] [] (He.ma K (He.ga K "Average") "__init__") fd
  d_Average_parts : ∃ fd, FunD K "parts" "Average.parts" (defArgs st_Average_parts) (defBody st_Average_parts) (defScope st_Average_parts) [] [] (He.ma K (He.ga K "Average") "parts") fd
  d_Average_eq : ∃ fd, FunD K "__eq__" "Average.__eq__" (defArgs st_Average_eq) (defBody st_Average_eq) (defScope st_Average_eq) [] [] (He.ma K (He.ga K "Average") "__eq__") fd
  d_Average_text : ∃ fd, FunD K "text" "Average.text" (defArgs st_Average_text) (defBody st_Average_text) (defScope st_Average_text) [] [] (He.ma K (He.ga K "Average") "text") fd
  d_is_number_ofU : ∃ fd, FunD K "is_number_of" "is_number_of" (defArgs st_is_number_ofU) (defBody st_is_number_ofU) (defScope st_is_number_ofU) [] [] (He.ga K "is_number_of") fd
  d_check_halves : ∃ fd, FunD K "check_halves" "check_halves" (defArgs st_check_halves) (defBody st_check_halves) (defScope st_check_halves) [] [] (He.ga K "check_halves") fd
  d_Halves_init : ∃ fd, FunD K "__init__" "Halves.__init__" (defArgs st_Halves_init) (defBody st_Halves_init) (defScope st_Halves_init) [] [] (He.ma K (He.ga K "Halves") "__init__") fd
  d_Halves_parts : ∃ fd, FunD K "parts" "Halves.parts" (defArgs st_Halves_parts) (defBody st_Halves_parts) (defScope st_Halves_parts) [] [] (He.ma K (He.ga K "Halves") "parts") fd
  d_Halves_eq : ∃ fd, FunD K "__eq__" "Halves.__eq__" (defArgs st_Halves_eq) (defBody st_Halves_eq) (defScope st_Halves_eq) [] [] (He.ma K (He.ga K "Halves") "__eq__") fd
  d_Halves_text : ∃ fd, FunD K "text" "Halves.text" (defArgs st_Halves_text) (defBody st_Halves_text) (defScope st_Halves_text) [] [] (He.ma K (He.ga K "Halves") "text") fd
  d_check_steps : ∃ fd, FunD K "check_steps" "check_steps" (defArgs st_check_steps) (defBody st_check_steps) (defScope st_check_steps) [] [] (He.ga K "check_steps") fd
  d_Steps_init : ∃ fd, FunD K "__init__" "Steps.__init__" (defArgs st_Steps_init) (defBody st_Steps_init) (defScope st_Steps_init) [] [] (He.ma K (He.ga K "Steps") "__init__") fd
  d_Steps_parts : ∃ fd, FunD K "parts" "Steps.parts" (defArgs st_Steps_parts) (defBody st_Steps_parts) (defScope st_Steps_parts) [] [] (He.ma K (He.ga K "Steps") "parts") fd
  d_Steps_eq : ∃ fd, FunD K "__eq__" "Steps.__eq__" (defArgs st_Steps_eq) (defBody st_Steps_eq) (defScope st_Steps_eq) [] [] (He.ma K (He.ga K "Steps") "__eq__") fd
  d_Steps_text : ∃ fd, FunD K "text" "Steps.text" (defArgs st_Steps_text) (defBody st_Steps_text) (defScope st_Steps_text) [] [] (He.ma K (He.ga K "Steps") "text") fd
  d_part_of : ∃ fd, FunD K "part_of" "part_of" (defArgs st_part_of) (defBody st_part_of) (defScope st_part_of) [] [] (He.ga K "part_of") fd
  d_made_loop : ∃ fd, FunD K "made_loop" "made_loop" (defArgs st_made_loop) (defBody st_made_loop) (defScope st_made_loop) [] [] (He.ga K "made_loop") fd
  d_read_loop : ∃ fd, FunD K "read_loop" "read_loop" (defArgs st_read_loop) (defBody st_read_loop) (defScope st_read_loop) [] [] (He.ga K "read_loop") fd
  d_l_cell_at : ∃ fd, FunD K "_law_cell_at" "_law_cell_at" (defArgs st_l_cell_at) (defBody st_l_cell_at) (defScope st_l_cell_at) [] [] (He.ga K "_law_cell_at") fd
  d_l_mixed : ∃ fd, FunD K "_law_mixed" "_law_mixed" (defArgs st_l_mixed) (defBody st_l_mixed) (defScope st_l_mixed) [] [] (He.ga K "_law_mixed") fd
  d_l_row : ∃ fd, FunD K "_law_row" "_law_row" (defArgs st_l_row) (defBody st_l_row) (defScope st_l_row) [] [] (He.ga K "_law_row") fd
  d_l_apart : ∃ fd, FunD K "_law_apart" "_law_apart" (defArgs st_l_apart) (defBody st_l_apart) (defScope st_l_apart) [] [] (He.ga K "_law_apart") fd
  d_l_drawn_halves : ∃ fd, FunD K "_law_drawn_halves" "_law_drawn_halves" (defArgs st_l_drawn_halves) (defBody st_l_drawn_halves) (defScope st_l_drawn_halves) [] [] (He.ga K "_law_drawn_halves") fd
  d_l_halvesT : ∃ fd, FunD K "_law_halves" "_law_halves" (defArgs st_l_halvesT) (defBody st_l_halvesT) (defScope st_l_halvesT) [] [] (He.ga K "_law_halves") fd
  d_l_drawn_steps : ∃ fd, FunD K "_law_drawn_steps" "_law_drawn_steps" (defArgs st_l_drawn_steps) (defBody st_l_drawn_steps) (defScope st_l_drawn_steps) [] [] (He.ga K "_law_drawn_steps") fd
  d_l_stepsT : ∃ fd, FunD K "_law_steps" "_law_steps" (defArgs st_l_stepsT) (defBody st_l_stepsT) (defScope st_l_stepsT) [] [] (He.ga K "_law_steps") fd
  d_l_weights2 : ∃ fd, FunD K "_law_weights" "_law_weights" (defArgs st_l_weights2) (defBody st_l_weights2) (defScope st_l_weights2) [] [] (He.ga K "_law_weights") fd
  d_l_loop_parts : ∃ fd, FunD K "_law_loop_parts" "_law_loop_parts" (defArgs st_l_loop_parts) (defBody st_l_loop_parts) (defScope st_l_loop_parts) [] [] (He.ga K "_law_loop_parts") fd
  d_l_loopT : ∃ fd, FunD K "_law_loop" "_law_loop" (defArgs st_l_loopT) (defBody st_l_loopT) (defScope st_l_loopT) [] [] (He.ga K "_law_loop") fd
  d_l_refusedH : ∃ fd, FunD K "_law_refused" "_law_refused" (defArgs st_l_refusedH) (defBody st_l_refusedH) (defScope st_l_refusedH) [] [] (He.ga K "_law_refused") fd
  d_l_class : ∃ fd, FunD K "_law_class" "_law_class" (defArgs st_l_class) (defBody st_l_class) (defScope st_l_class) [] [] (He.ga K "_law_class") fd
  d_l_madeT : ∃ fd, FunD K "_law_made" "_law_made" (defArgs st_l_madeT) (defBody st_l_madeT) (defScope st_l_madeT) [] [] (He.ga K "_law_made") fd
  d_l_line : ∃ fd, FunD K "_law_line" "_law_line" (defArgs st_l_line) (defBody st_l_line) (defScope st_l_line) [] [] (He.ga K "_law_line") fd
  d_l_spoilt : ∃ fd, FunD K "_law_spoilt" "_law_spoilt" (defArgs st_l_spoilt) (defBody st_l_spoilt) (defScope st_l_spoilt) [] [] (He.ga K "_law_spoilt") fd
  d_l_is_average : ∃ fd, FunD K "_law_is_average" "_law_is_average" (defArgs st_l_is_average) (defBody st_l_is_average) (defScope st_l_is_average) [] [] (He.ga K "_law_is_average") fd
  d_l_is_text : ∃ fd, FunD K "_law_is_text" "_law_is_text" (defArgs st_l_is_text) (defBody st_l_is_text) (defScope st_l_is_text) [] [] (He.ga K "_law_is_text") fd
  d_law : ∃ fd, FunD K "law" "law" (defArgs st_law) (defBody st_law) (defScope st_law) [] [] (He.ga K "law") fd
  c_Average : Cls K (He.ga K "Average")
  k_Average : Mk K (He.ga K "Average") (He.ma K (He.ga K "Average") "__init__")
  m_Average_parts : Meth K (He.ga K "Average") "parts" (He.ma K (He.ga K "Average") "parts")
  m_Average_eq : Meth K (He.ga K "Average") "__eq__" (He.ma K (He.ga K "Average") "__eq__")
  m_Average_text : Meth K (He.ga K "Average") "text" (He.ma K (He.ga K "Average") "text")
  a_Average_k : NoAttr K (He.ga K "Average") "k"
  a_Average_a : NoAttr K (He.ga K "Average") "a"
  a_Average_c : NoAttr K (He.ga K "Average") "c"
  a_Average_d : NoAttr K (He.ga K "Average") "d"
  a_Average_stop : NoAttr K (He.ga K "Average") "stop"
  a_Average_told : NoAttr K (He.ga K "Average") "told"
  a_Average_mend : NoAttr K (He.ga K "Average") "mend"
  c_Halves : Cls K (He.ga K "Halves")
  k_Halves : Mk K (He.ga K "Halves") (He.ma K (He.ga K "Halves") "__init__")
  m_Halves_parts : Meth K (He.ga K "Halves") "parts" (He.ma K (He.ga K "Halves") "parts")
  m_Halves_eq : Meth K (He.ga K "Halves") "__eq__" (He.ma K (He.ga K "Halves") "__eq__")
  m_Halves_text : Meth K (He.ga K "Halves") "text" (He.ma K (He.ga K "Halves") "text")
  a_Halves_up : NoAttr K (He.ga K "Halves") "up"
  a_Halves_test : NoAttr K (He.ga K "Halves") "test"
  a_Halves_low : NoAttr K (He.ga K "Halves") "low"
  a_Halves_high : NoAttr K (He.ga K "Halves") "high"
  a_Halves_stop : NoAttr K (He.ga K "Halves") "stop"
  a_Halves_told : NoAttr K (He.ga K "Halves") "told"
  a_Halves_plus : NoAttr K (He.ga K "Halves") "plus"
  c_Steps : Cls K (He.ga K "Steps")
  k_Steps : Mk K (He.ga K "Steps") (He.ma K (He.ga K "Steps") "__init__")
  m_Steps_parts : Meth K (He.ga K "Steps") "parts" (He.ma K (He.ga K "Steps") "parts")
  m_Steps_eq : Meth K (He.ga K "Steps") "__eq__" (He.ma K (He.ga K "Steps") "__eq__")
  m_Steps_text : Meth K (He.ga K "Steps") "text" (He.ma K (He.ga K "Steps") "text")
  a_Steps_test : NoAttr K (He.ga K "Steps") "test"
  a_Steps_after : NoAttr K (He.ga K "Steps") "after"
  a_Steps_last : NoAttr K (He.ga K "Steps") "last"
  a_Steps_plus : NoAttr K (He.ga K "Steps") "plus"
  e_BadLoop : PySem.ErrX.ErrC PySem.Challenge.pw_floorward_k53_texts_of_loops K (He.ga K "BadLoop") (He.ma K (He.ga K "BadLoop") "__init__") "word"
  x_BadLoop_BadLoop : PySem.W.exmOne K (.ref (He.ga K "BadLoop")) (.ref (He.ga K "BadLoop")) = some true
  x_BadLoop_BadText : PySem.W.exmOne K (.ref (He.ga K "BadLoop")) (.ref (He.ga K "BadText")) = some false
  e_BadText : PySem.ErrX.ErrC0 PySem.Challenge.pw_floorward_k53_texts_of_loops K (He.ga K "BadText") (He.ma K (He.ga K "BadText") "__init__")
  x_BadText_BadLoop : PySem.W.exmOne K (.ref (He.ga K "BadText")) (.ref (He.ga K "BadLoop")) = some false
  x_BadText_BadText : PySem.W.exmOne K (.ref (He.ga K "BadText")) (.ref (He.ga K "BadText")) = some true
  xc_BadText : ExcC K (He.ga K "BadText")
  xf_BadText : PySem.W.exmOne K (.ref (He.ga K "BadText")) (.ref (He.ga K "FloorError")) = some true
  xk_BadText_BadNumber : PySem.W.kitOne K (.ref (He.ga K "BadText")) (.ref (He.ga K "BadNumber")) = some false
  xk_BadText_BadPower : PySem.W.kitOne K (.ref (He.ga K "BadText")) (.ref (He.ga K "BadPower")) = some false
  xk_BadText_BadLoop : PySem.W.kitOne K (.ref (He.ga K "BadText")) (.ref (He.ga K "BadLoop")) = some false
  xk_BadText_BadStart : PySem.W.kitOne K (.ref (He.ga K "BadText")) (.ref (He.ga K "BadStart")) = some false
  xk_BadText_BadGuesses : PySem.W.kitOne K (.ref (He.ga K "BadText")) (.ref (He.ga K "BadGuesses")) = some false
  xk_BadText_BadBeginning : PySem.W.kitOne K (.ref (He.ga K "BadText")) (.ref (He.ga K "BadBeginning")) = some false
  xk_BadText_BadSought : PySem.W.kitOne K (.ref (He.ga K "BadText")) (.ref (He.ga K "BadSought")) = some false
  xk_BadText_BadBracket : PySem.W.kitOne K (.ref (He.ga K "BadText")) (.ref (He.ga K "BadBracket")) = some false
  xk_BadText_BadKind : PySem.W.kitOne K (.ref (He.ga K "BadText")) (.ref (He.ga K "BadKind")) = some false
  xk_BadText_BadText : PySem.W.kitOne K (.ref (He.ga K "BadText")) (.ref (He.ga K "BadText")) = some true
  xk_BadText_NoGuess : PySem.W.kitOne K (.ref (He.ga K "BadText")) (.ref (He.ga K "NoGuess")) = some false
  t_TESTS : ∀ H, SqT K H (He.ga K "TESTS") [.str "upto", .str "below"]
  t_STOPS_halves : ∀ H, SqT K H (He.ga K "STOPS_halves") [.str "less", .str "most", .str "wide"]
  t_STOPS_averages : ∀ H, SqT K H (He.ga K "STOPS_averages") [.str "notless", .str "equal", .str "near1", .str "near2", .str "back", .str "under", .str "held"]
  t_TOLDS : ∀ H, SqT K H (He.ga K "TOLDS") [.str "old", .str "new", .str "less", .str "more"]
  t_MENDS : ∀ H, SqT K H (He.ga K "MENDS") [.str "none", .str "down", .str "up", .str "both"]
  t_LOOKS : ∀ H, SqT K H (He.ga K "LOOKS") [.str "under", .str "held"]
  q_Halves : OwnE K (He.ga K "Halves")
  in_Halves : InsK K (He.ga K "Halves")
  q_Steps : OwnE K (He.ga K "Steps")
  in_Steps : InsK K (He.ga K "Steps")
  q_Average : OwnE K (He.ga K "Average")
  in_Average : InsK K (He.ga K "Average")
  kt_loops : ∀ x ∈ LN, ∀ y ∈ LN, x ≠ y → PySem.W.kitOne K (.ref (He.ga K x)) (.ref (He.ga K y)) = some false
  tb_law : LamX.TabB base mg (He.cT K ("law", none)).1 (He.cT K ("law", none)).2
theorem Tx.hk_BadText {K : PySem.W.Frag} {mg : Str → Option Value} {base : Heap} (T : Tx K mg base) : HotK K "BadText" := ⟨T.xc_BadText, T.xf_BadText, fun y hy => by
  simp only [clsNames, List.mem_cons, List.not_mem_nil, or_false] at hy
  rcases hy with rfl | rfl | rfl | rfl | rfl | rfl | rfl | rfl | rfl | rfl | rfl
  · exact T.xk_BadText_BadNumber.trans (by decide)
  · exact T.xk_BadText_BadPower.trans (by decide)
  · exact T.xk_BadText_BadLoop.trans (by decide)
  · exact T.xk_BadText_BadStart.trans (by decide)
  · exact T.xk_BadText_BadGuesses.trans (by decide)
  · exact T.xk_BadText_BadBeginning.trans (by decide)
  · exact T.xk_BadText_BadSought.trans (by decide)
  · exact T.xk_BadText_BadBracket.trans (by decide)
  · exact T.xk_BadText_BadKind.trans (by decide)
  · exact T.xk_BadText_BadText.trans (by decide)
  · exact T.xk_BadText_NoGuess.trans (by decide)⟩
theorem Tx.av {K : PySem.W.Frag} {mg : Str → Option Value} {base : Heap} (T : Tx K mg base) : AvK K := ⟨T.c_Average, T.a_Average_k, T.a_Average_a, T.a_Average_c, T.a_Average_d, T.a_Average_stop, T.a_Average_told, T.a_Average_mend, T.t_STOPS_averages, T.t_TOLDS, T.t_MENDS, T.t_LOOKS⟩
theorem Tx.hv {K : PySem.W.Frag} {mg : Str → Option Value} {base : Heap} (T : Tx K mg base) : HvK K := ⟨T.c_Halves, T.a_Halves_up, T.a_Halves_test, T.a_Halves_low, T.a_Halves_high, T.a_Halves_stop, T.a_Halves_told, T.a_Halves_plus, T.t_TESTS, T.t_STOPS_halves⟩
theorem Tx.sp {K : PySem.W.Frag} {mg : Str → Option Value} {base : Heap} (T : Tx K mg base) : SpK K := ⟨T.c_Steps, T.a_Steps_test, T.a_Steps_after, T.a_Steps_last, T.a_Steps_plus, T.t_TESTS⟩
theorem Tx.h53 {K : PySem.W.Frag} {mg : Str → Option Value} {base : Heap} (T : Tx K mg base) : Hk53 K := ⟨T.hk_BadText, T.av, T.hv, T.sp, T.in_Average, T.in_Halves, T.in_Steps, T.kt_loops⟩
abbrev PP : Program := PySem.Challenge.pw_floorward_k53_texts_of_loops
theorem hu_law {K : PySem.W.Frag} {mg : Str → Option Value} {base : Heap} (T : Tx K mg base) : ∀ p ∈ tabs K, p.1 = (He.cT K ("law", none)).2 → p.2 = (("law" : Str) ++ ".<locals>.") ++ "<lambda>" := fun p hp _ => by rw [List.mem_singleton.mp hp]
section
variable {w : World} {K : PySem.W.Frag} {mg : Str → Option Value} {base : Heap}
theorem dv_l_class {cdv : Value} {A : Around} {outer : List Env} {s : Shared} {H : Hp} {a : Addr} {oe : Obj} {cls : Value} {d : Option Addr} {ps0 : List (Addr × Obj)} (T : Tx K mg base) (hx : FWC.HXG (FWC.cxL CX0 PP w K mg base N_l_class "_law_class" (defScope st_l_class) (He.ga K "_law_class") cdv A outer s H E0 ps0) a oe cls d) : PSs (FWC.cxL CX0 PP w K mg base N_l_class "_law_class" (defScope st_l_class) (He.ga K "_law_class") cdv A outer s H E0 ps0) (defBody st_l_class) (rd_l_class K a cls d) := by
  exact pss_cons (ps_set (i := 1) sc_l_class.nd rfl (Or.inl rfl) (pe_lst (pa_cons (pe_callB (FWC.call_isG hx) (by rfl) T.n_isinstance (by decide +kernel) (pa_cons (pv 0) (pa_cons (FW.pe_gref (by rfl) T.g_BadNumber) (pa_nil)))) (pa_cons (pe_callB (FWC.call_isG hx) (by rfl) T.n_isinstance (by decide +kernel) (pa_cons (pv 0) (pa_cons (FW.pe_gref (by rfl) T.g_BadPower) (pa_nil)))) (pa_cons (pe_callB (FWC.call_isG hx) (by rfl) T.n_isinstance (by decide +kernel) (pa_cons (pv 0) (pa_cons (FW.pe_gref (by rfl) T.g_BadLoop) (pa_nil)))) (pa_nil)))))) (pss_cons (ps_set (i := 1) sc_l_class.nd rfl (Or.inl rfl) (pe_op op_cat (pv 1) (pe_lst (pa_cons (pe_callB (FWC.call_isG hx) (by rfl) T.n_isinstance (by decide +kernel) (pa_cons (pv 0) (pa_cons (FW.pe_gref (by rfl) T.g_BadStart) (pa_nil)))) (pa_cons (pe_callB (FWC.call_isG hx) (by rfl) T.n_isinstance (by decide +kernel) (pa_cons (pv 0) (pa_cons (FW.pe_gref (by rfl) T.g_BadGuesses) (pa_nil)))) (pa_cons (pe_callB (FWC.call_isG hx) (by rfl) T.n_isinstance (by decide +kernel) (pa_cons (pv 0) (pa_cons (FW.pe_gref (by rfl) T.g_BadBeginning) (pa_nil)))) (pa_nil))))))) (pss_cons (ps_set (i := 1) sc_l_class.nd rfl (Or.inl rfl) (pe_op op_cat (pv 1) (pe_lst (pa_cons (pe_callB (FWC.call_isG hx) (by rfl) T.n_isinstance (by decide +kernel) (pa_cons (pv 0) (pa_cons (FW.pe_gref (by rfl) T.g_BadSought) (pa_nil)))) (pa_cons (pe_callB (FWC.call_isG hx) (by rfl) T.n_isinstance (by decide +kernel) (pa_cons (pv 0) (pa_cons (FW.pe_gref (by rfl) T.g_BadBracket) (pa_nil)))) (pa_cons (pe_callB (FWC.call_isG hx) (by rfl) T.n_isinstance (by decide +kernel) (pa_cons (pv 0) (pa_cons (FW.pe_gref (by rfl) T.g_BadKind) (pa_nil)))) (pa_nil))))))) (pss_cons (ps_set (i := 1) sc_l_class.nd rfl (Or.inl rfl) (pe_op op_cat (pv 1) (pe_lst (pa_cons (pe_callB (FWC.call_isG hx) (by rfl) T.n_isinstance (by decide +kernel) (pa_cons (pv 0) (pa_cons (FW.pe_gref (by rfl) T.g_BadText) (pa_nil)))) (pa_cons (pe_callB (FWC.call_isG hx) (by rfl) T.n_isinstance (by decide +kernel) (pa_cons (pv 0) (pa_cons (FW.pe_gref (by rfl) T.g_NoGuess) (pa_nil)))) (pa_nil)))))) (pss_cons (ps_set (i := 2) sc_l_class.nd rfl (Or.inl rfl) (pe_lst (pa_cons (pe_str) (pa_cons (pe_str) (pa_cons (pe_str) (pa_cons (pe_str) (pa_cons (pe_str) (pa_cons (pe_str) (pa_nil))))))))) (pss_cons (ps_set (i := 2) sc_l_class.nd rfl (Or.inl rfl) (pe_op op_cat (pv 2) (pe_lst (pa_cons (pe_str) (pa_cons (pe_str) (pa_cons (pe_str) (pa_cons (pe_str) (pa_cons (pe_str) (pa_nil))))))))) (pss_one (ps_ret (pe_join (pe_str) (FWC.pe_lcG (own := [("_law_name", 3), ("_law_is_it", 4)]) (g := gTup K 2 (gCons (gName 3) (gCons (gName 4) (gNil)))) (tt := tB (tVar 4)) hx.hot sc_l_class.nd (FWC.pi_zipG (by rfl) T.n_zip (pa_cons (pv 2) (pa_cons (pv 1) (pa_nil)))) (blkOk_by (own := [("_law_name", 3), ("_law_is_it", 4)]) (N := N_l_class) (sc := defScope st_l_class) (by decide +kernel)) (fun _ _ _ _ _ ps hot => FWC.pg_tupG ⟨ps, hot, fun p m => m⟩ (pgs_cons (pg_name (i := 3) sc_l_class.nd rfl (Or.inl rfl)) (pgs_cons (pg_name (i := 4) sc_l_class.nd rfl (Or.inl rfl)) (pgs_nil)))) (fun _ _ _ _ _ _ _ => pts_one (pt_val (pv 4))) (fun _ _ _ _ _ _ _ => pv 3))))))))))
theorem dv_is_whole {f : Addr} {cdv : Value} {A : Around} {outer : List Env} {s : Shared} {H : Hp} {E : XK} (T : Tx K mg base) (hr : Room 0 (A.deeper (envOfC "is_whole" (defScope st_is_whole) s.heap.objs.size f cdv))) : PSs (cxOf CX0 PP w K mg base N_is_whole "is_whole" (defScope st_is_whole) f cdv A outer s H E).nox (defBody st_is_whole) (rd_is_whole K) := by
  exact pss_one (ps_ret (pe_and (pe_callB call_isi (by rfl) T.n_isinstance (by decide +kernel) (pa_cons (pv 0) (pa_cons (pe_bltn (by rfl) T.n_int (by decide +kernel) rfl) (pa_nil)))) (pe_one (pe_not (pe_callB call_isi (by rfl) T.n_isinstance (by decide +kernel) (pa_cons (pv 0) (pa_cons (pe_bltn (by rfl) T.n_bool (by decide +kernel) rfl) (pa_nil))))))))
theorem ok_is_whole (T : Tx K mg base) : Fn PP w K mg base CX0 1 "is_whole" (sp_is_whole K) [] :=
  Fn.mk0 T.d_is_whole T.g_is_whole sc_is_whole (fun _ _ _ _ _ _ us hl => match us, hl with | [_], _ => rfl) (by walk_at "ln") (fun cdv A outer s H vs Q E hr h => ⟨rd_is_whole K, dv_is_whole T hr, pure_is_whole K vs H Q E h⟩)
theorem dv_is_word_of {f : Addr} {cdv : Value} {A : Around} {outer : List Env} {s : Shared} {H : Hp} {E : XK} (T : Tx K mg base) (hr : Room 0 (A.deeper (envOfC "is_word_of" (defScope st_is_word_of) s.heap.objs.size f cdv))) : PSs (cxOf CX0 PP w K mg base N_is_word_of "is_word_of" (defScope st_is_word_of) f cdv A outer s H E).nox (defBody st_is_word_of) (rd_is_word_of K) := by
  exact pss_one (ps_ret (pe_and (pe_callB call_isi (by rfl) T.n_isinstance (by decide +kernel) (pa_cons (pv 0) (pa_cons (pe_bltn (by rfl) T.n_str (by decide +kernel) rfl) (pa_nil)))) (pe_one (pe_cmpR op_in_seq (pv 0) (pv 1) (by rfl)))))
theorem ok_is_word_of (T : Tx K mg base) : Fn PP w K mg base CX0 1 "is_word_of" (sp_is_word_of K) [] :=
  Fn.mk0 T.d_is_word_of T.g_is_word_of sc_is_word_of (fun _ _ _ _ _ _ us hl => match us, hl with | [_, _], _ => rfl) (by walk_at "ln") (fun cdv A outer s H vs Q E hr h => ⟨rd_is_word_of K, dv_is_word_of T hr, pure_is_word_of K vs H Q E h⟩)
theorem dv_Average_parts {f : Addr} {cdv : Value} {A : Around} {outer : List Env} {s : Shared} {H : Hp} {E : XK} (T : Tx K mg base) (hr : Room 0 (A.deeper (envOfC "Average.parts" (defScope st_Average_parts) s.heap.objs.size f cdv))) : PSs (cxOf CX0 PP w K mg base N_Average_parts "Average.parts" (defScope st_Average_parts) f cdv A outer s H E).nox (defBody st_Average_parts) (rd_Average_parts K) := by
  exact pss_one (ps_ret (pe_tup (pa_cons (pe_fld (pv 0) rfl) (pa_cons (pe_fld (pv 0) rfl) (pa_cons (pe_fld (pv 0) rfl) (pa_cons (pe_fld (pv 0) rfl) (pa_cons (pe_fld (pv 0) rfl) (pa_cons (pe_fld (pv 0) rfl) (pa_cons (pe_fld (pv 0) rfl) (pa_nil))))))))))
theorem ok_Average_parts (T : Tx K mg base) : Mt PP w K mg base CX0 1 (He.ga K "Average") "parts" (sp_Average_parts K) [] :=
  Mt.mk0 T.c_Average T.m_Average_parts T.d_Average_parts sc_Average_parts (fun _ _ _ _ _ _ us hl => match us, hl with | [_], _ => rfl) (by walk_at "ln") (fun cdv A outer s H vs Q E hr h => ⟨rd_Average_parts K, dv_Average_parts T hr, pure_Average_parts K T.av vs H Q E h⟩)
theorem dv_Halves_parts {f : Addr} {cdv : Value} {A : Around} {outer : List Env} {s : Shared} {H : Hp} {E : XK} (T : Tx K mg base) (hr : Room 0 (A.deeper (envOfC "Halves.parts" (defScope st_Halves_parts) s.heap.objs.size f cdv))) : PSs (cxOf CX0 PP w K mg base N_Halves_parts "Halves.parts" (defScope st_Halves_parts) f cdv A outer s H E).nox (defBody st_Halves_parts) (rd_Halves_parts K) := by
  exact pss_one (ps_ret (pe_tup (pa_cons (pe_fld (pv 0) rfl) (pa_cons (pe_fld (pv 0) rfl) (pa_cons (pe_fld (pv 0) rfl) (pa_cons (pe_fld (pv 0) rfl) (pa_cons (pe_fld (pv 0) rfl) (pa_cons (pe_fld (pv 0) rfl) (pa_cons (pe_fld (pv 0) rfl) (pa_nil))))))))))
theorem ok_Halves_parts (T : Tx K mg base) : Mt PP w K mg base CX0 1 (He.ga K "Halves") "parts" (sp_Halves_parts K) [] :=
  Mt.mk0 T.c_Halves T.m_Halves_parts T.d_Halves_parts sc_Halves_parts (fun _ _ _ _ _ _ us hl => match us, hl with | [_], _ => rfl) (by walk_at "ln") (fun cdv A outer s H vs Q E hr h => ⟨rd_Halves_parts K, dv_Halves_parts T hr, pure_Halves_parts K T.hv vs H Q E h⟩)
theorem dv_Steps_parts {f : Addr} {cdv : Value} {A : Around} {outer : List Env} {s : Shared} {H : Hp} {E : XK} (T : Tx K mg base) (hr : Room 0 (A.deeper (envOfC "Steps.parts" (defScope st_Steps_parts) s.heap.objs.size f cdv))) : PSs (cxOf CX0 PP w K mg base N_Steps_parts "Steps.parts" (defScope st_Steps_parts) f cdv A outer s H E).nox (defBody st_Steps_parts) (rd_Steps_parts K) := by
  exact pss_one (ps_ret (pe_tup (pa_cons (pe_fld (pv 0) rfl) (pa_cons (pe_fld (pv 0) rfl) (pa_cons (pe_fld (pv 0) rfl) (pa_cons (pe_fld (pv 0) rfl) (pa_nil)))))))
theorem ok_Steps_parts (T : Tx K mg base) : Mt PP w K mg base CX0 1 (He.ga K "Steps") "parts" (sp_Steps_parts K) [] :=
  Mt.mk0 T.c_Steps T.m_Steps_parts T.d_Steps_parts sc_Steps_parts (fun _ _ _ _ _ _ us hl => match us, hl with | [_], _ => rfl) (by walk_at "ln") (fun cdv A outer s H vs Q E hr h => ⟨rd_Steps_parts K, dv_Steps_parts T hr, pure_Steps_parts K T.sp vs H Q E h⟩)
theorem dv_part_of {f : Addr} {cdv : Value} {A : Around} {outer : List Env} {s : Shared} {H : Hp} {E : XK} (T : Tx K mg base) (hr : Room 0 (A.deeper (envOfC "part_of" (defScope st_part_of) s.heap.objs.size f cdv))) : PSs (cxOf CX0 PP w K mg base N_part_of "part_of" (defScope st_part_of) f cdv A outer s H E).nox (defBody st_part_of) (rd_part_of K) := by
  exact pss_cons (ps_set (i := 1) sc_part_of.nd rfl (Or.inl rfl) (pe_ifExp (pt_cmpR op_eq (pe_slice sl_str (pv 0) (po_none) (po_some (pe_int))) (pe_str) (nomark _)) (pe_slice sl_str (pv 0) (po_some (pe_int)) (po_none)) (pv 0))) (pss_cons (ps_if (PW.pt (pw_or (pt_cmpR op_eq (pv 1) (pe_str) (nomark _)) (pw_or (pt_cmpR op_gt (pe_callB call_len_str (by rfl) T.n_len (by decide +kernel) (pa_cons (pv 1) (pa_nil))) (pe_int) (nomark _)) (pw_or1 (pt_val (pe_callB (cr_any rfl) (by rfl) T.n_any (by decide +kernel) (pa_cons (pe_lc (own := [("figure", 2)]) (g := gName 2) (tt := tYes) rfl sc_part_of.nd (pi_str (pv 1)) (blkOk_by (own := [("figure", 2)]) (N := N_part_of) (sc := defScope st_part_of) (by decide +kernel)) (fun _ _ _ _ _ => pg_name (i := 2) sc_part_of.nd rfl (Or.inl rfl)) (fun _ _ _ _ _ => pts_nil) (fun _ _ _ _ _ => pe_cmpR op_notIn_sign (pv 2) (FW.pe_gcS (by rfl) T.s_DIGITS) (by rfl))) (pa_nil)))))))) (pss_one (ps_ret (pv 0))) (pss_nil)) (pss_one (ps_ret (pe_callTy call_int_str (by rfl) T.n_int (by decide +kernel) (pa_cons (pv 0) (pa_nil))))))
theorem ok_part_of (T : Tx K mg base) : Fn PP w K mg base CX0 1 "part_of" (sp_part_of K) [] :=
  Fn.mk0 T.d_part_of T.g_part_of sc_part_of (fun _ _ _ _ _ _ us hl => match us, hl with | [_], _ => rfl) (by walk_at "ln") (fun cdv A outer s H vs Q E hr h => ⟨rd_part_of K, dv_part_of T hr, pure_part_of K vs H Q E h⟩)
theorem dv_l_cell_at {f : Addr} {cdv : Value} {A : Around} {outer : List Env} {s : Shared} {H : Hp} {E : XK} (T : Tx K mg base) (hr : Room 0 (A.deeper (envOfC "_law_cell_at" (defScope st_l_cell_at) s.heap.objs.size f cdv))) : PSs (cxOf CX0 PP w K mg base N_l_cell_at "_law_cell_at" (defScope st_l_cell_at) f cdv A outer s H E).nox (defBody st_l_cell_at) (rd_l_cell_at K) := by
  exact pss_cons (ps_if (pt_cmpR op_lt (pv 1) (pe_callB call_len_seq (by rfl) T.n_len (by decide +kernel) (pa_cons (pv 0) (pa_nil))) (nomark _)) (pss_one (ps_ret (pe_ix ix_list (pv 0) (pv 1) (fun _ _ => rfl)))) (pss_nil)) (pss_one (ps_ret (pe_int)))
theorem ok_l_cell_at (T : Tx K mg base) : Fn PP w K mg base CX0 1 "_law_cell_at" (sp_l_cell_at K) [] :=
  Fn.mk0 T.d_l_cell_at T.g__law_cell_at sc_l_cell_at (fun _ _ _ _ _ _ us hl => match us, hl with | [_, _], _ => rfl) (by walk_at "ln") (fun cdv A outer s H vs Q E hr h => ⟨rd_l_cell_at K, dv_l_cell_at T hr, pure_l_cell_at K vs H Q E h⟩)
theorem dv_l_mixed {f : Addr} {cdv : Value} {A : Around} {outer : List Env} {s : Shared} {H : Hp} {E : XK} (T : Tx K mg base) (hr : Room 0 (A.deeper (envOfC "_law_mixed" (defScope st_l_mixed) s.heap.objs.size f cdv))) : PSs (cxOf CX0 PP w K mg base N_l_mixed "_law_mixed" (defScope st_l_mixed) f cdv A outer s H E).nox (defBody st_l_mixed) (rd_l_mixed K) := by
  exact pss_cons (ps_set (i := 2) sc_l_mixed.nd rfl (Or.inl rfl) (pe_op FW.opMod (pe_callTy call_int1 (by rfl) T.n_int (by decide +kernel) (pa_cons (pe_op FW.opPow (pe_op FW.opAdd (pe_op FW.opAdd (pe_op FW.opMod (pe_callTy call_int1 (by rfl) T.n_int (by decide +kernel) (pa_cons (pv 0) (pa_nil))) (pe_int)) (pe_op FW.opMul (pe_int) (pv 1))) (pe_int)) (pe_int)) (pa_nil))) (pe_int))) (pss_one (ps_ret (pe_op FW.opMod (pe_callTy call_int1 (by rfl) T.n_int (by decide +kernel) (pa_cons (pe_op FW.opMul (pe_op FW.opAdd (pv 2) (pv 1)) (pe_int)) (pa_nil))) (pe_int))))
theorem ok_l_mixed (T : Tx K mg base) : Fn PP w K mg base CX0 1 "_law_mixed" (sp_l_mixed K) [] :=
  Fn.mk0 T.d_l_mixed T.g__law_mixed sc_l_mixed (fun _ _ _ _ _ _ us hl => match us, hl with | [_, _], _ => rfl) (by walk_at "ln") (fun cdv A outer s H vs Q E hr h => ⟨rd_l_mixed K, dv_l_mixed T hr, pure_l_mixed K vs H Q E h⟩)
theorem dv_l_apart {f : Addr} {cdv : Value} {A : Around} {outer : List Env} {s : Shared} {H : Hp} {E : XK} (T : Tx K mg base) (hr : Room 0 (A.deeper (envOfC "_law_apart" (defScope st_l_apart) s.heap.objs.size f cdv))) : PSs (cxOf CX0 PP w K mg base N_l_apart "_law_apart" (defScope st_l_apart) f cdv A outer s H E).nox (defBody st_l_apart) (rd_l_apart K) := by
  exact pss_cons (ps_if (pt_cmpR op_ge (pe_callB call_abs (by rfl) T.n_abs (by decide +kernel) (pa_cons (pv 0) (pa_nil))) (pe_op FW.opPow (pe_int) (pe_int)) (nomark _)) (pss_one (ps_ret (pv 0))) (pss_nil)) (pss_one (ps_ret (pe_op FW.opAdd (pv 0) (pe_op FW.opMul (pe_int) (pv 1)))))
theorem ok_l_apart (T : Tx K mg base) : Fn PP w K mg base CX0 1 "_law_apart" (sp_l_apart K) [] :=
  Fn.mk0 T.d_l_apart T.g__law_apart sc_l_apart (fun _ _ _ _ _ _ us hl => match us, hl with | [_, _], _ => rfl) (by walk_at "ln") (fun cdv A outer s H vs Q E hr h => ⟨rd_l_apart K, dv_l_apart T hr, pure_l_apart K vs H Q E h⟩)
theorem dv_l_drawn_halves {f : Addr} {cdv : Value} {A : Around} {outer : List Env} {s : Shared} {H : Hp} {E : XK} (T : Tx K mg base) (hr : Room 0 (A.deeper (envOfC "_law_drawn_halves" (defScope st_l_drawn_halves) s.heap.objs.size f cdv))) : PSs (cxOf CX0 PP w K mg base N_l_drawn_halves "_law_drawn_halves" (defScope st_l_drawn_halves) f cdv A outer s H E).nox (defBody st_l_drawn_halves) (rd_l_drawn_halves K) := by
  exact pss_cons (ps_set (i := 2) sc_l_drawn_halves.nd rfl (Or.inl rfl) (pe_lst (pa_cons (pe_op FW.opMod (pe_callTy call_int1 (by rfl) T.n_int (by decide +kernel) (pa_cons (pe_ix ix_list (pv 0) (pv 1) (fun _ _ => rfl)) (pa_nil))) (pe_int)) (pa_cons (pe_ix ix_list (pe_lst (pa_cons (pe_str) (pa_cons (pe_str) (pa_nil)))) (pe_op FW.opMod (pe_callTy call_int1 (by rfl) T.n_int (by decide +kernel) (pa_cons (pe_ix ix_list (pv 0) (pe_op FW.opAdd (pv 1) (pe_int)) (fun _ _ => rfl)) (pa_nil))) (pe_int)) (fun _ _ => rfl)) (pa_nil))))) (pss_cons (ps_set (i := 2) sc_l_drawn_halves.nd rfl (Or.inl rfl) (pe_op op_cat (pv 2) (pe_lst (pa_cons (pe_op FW.opMod (pe_callTy call_int1 (by rfl) T.n_int (by decide +kernel) (pa_cons (pe_ix ix_list (pv 0) (pe_op FW.opAdd (pv 1) (pe_int)) (fun _ _ => rfl)) (pa_nil))) (pe_int)) (pa_cons (pe_op FW.opMod (pe_callTy call_int1 (by rfl) T.n_int (by decide +kernel) (pa_cons (pe_ix ix_list (pv 0) (pe_op FW.opAdd (pv 1) (pe_int)) (fun _ _ => rfl)) (pa_nil))) (pe_int)) (pa_nil)))))) (pss_cons (ps_set (i := 2) sc_l_drawn_halves.nd rfl (Or.inl rfl) (pe_op op_cat (pv 2) (pe_lst (pa_cons (pe_ix ix_list (pe_lst (pa_cons (pe_str) (pa_cons (pe_str) (pa_cons (pe_str) (pa_nil))))) (pe_op FW.opMod (pe_callTy call_int1 (by rfl) T.n_int (by decide +kernel) (pa_cons (pe_ix ix_list (pv 0) (pe_op FW.opAdd (pv 1) (pe_int)) (fun _ _ => rfl)) (pa_nil))) (pe_int)) (fun _ _ => rfl)) (pa_cons (pe_ix ix_list (pe_lst (pa_cons (pe_str) (pa_cons (pe_str) (pa_nil)))) (pe_op FW.opMod (pe_callTy call_int1 (by rfl) T.n_int (by decide +kernel) (pa_cons (pe_ix ix_list (pv 0) (pe_op FW.opAdd (pv 1) (pe_int)) (fun _ _ => rfl)) (pa_nil))) (pe_int)) (fun _ _ => rfl)) (pa_nil)))))) (pss_cons (ps_expr (pe_bm PySem.F.plainAttrs_list PySem.F.slot_list_append PySem.F.type_list_append mt_append (pv 2) (pa_cons (pe_op FW.opSub (pe_op FW.opMod (pe_callTy call_int1 (by rfl) T.n_int (by decide +kernel) (pa_cons (pe_ix ix_list (pv 0) (pe_op FW.opAdd (pv 1) (pe_int)) (fun _ _ => rfl)) (pa_nil))) (pe_int)) (pe_int)) (pa_nil)))) (pss_cons (ps_if (pt_cmpR op_eq (pe_op FW.opMod (pe_op FW.opDiv (pe_callTy call_int1 (by rfl) T.n_int (by decide +kernel) (pa_cons (pe_ix ix_list (pv 0) (pv 1) (fun _ _ => rfl)) (pa_nil))) (pe_int)) (pe_int)) (pe_int) (nomark _)) (pss_cons (ps_set (i := 3) sc_l_drawn_halves.nd rfl (Or.inl rfl) (pe_lst (pa_cons (pe_lst (pa_cons (pe_int) (pa_cons (pe_str) (pa_cons (pe_int) (pa_cons (pe_int) (pa_cons (pe_str) (pa_cons (pe_str) (pa_cons (pe_int) (pa_nil))))))))) (pa_cons (pe_lst (pa_cons (pe_int) (pa_cons (pe_str) (pa_cons (pe_int) (pa_cons (pe_int) (pa_cons (pe_str) (pa_cons (pe_str) (pa_cons (pe_int) (pa_nil))))))))) (pa_nil))))) (pss_cons (ps_set (i := 3) sc_l_drawn_halves.nd rfl (Or.inl rfl) (pe_op op_cat (pv 3) (pe_lst (pa_cons (pe_lst (pa_cons (pe_int) (pa_cons (pe_str) (pa_cons (pe_int) (pa_cons (pe_int) (pa_cons (pe_str) (pa_cons (pe_str) (pa_cons (pe_un un_neg (pe_int)) (pa_nil))))))))) (pa_cons (pe_lst (pa_cons (pe_int) (pa_cons (pe_str) (pa_cons (pe_int) (pa_cons (pe_int) (pa_cons (pe_str) (pa_cons (pe_str) (pa_cons (pe_int) (pa_nil))))))))) (pa_nil)))))) (pss_cons (ps_set (i := 4) sc_l_drawn_halves.nd rfl (Or.inl rfl) (pe_ix ix_list (pv 3) (pe_op FW.opMod (pe_op FW.opDiv (pe_callTy call_int1 (by rfl) T.n_int (by decide +kernel) (pa_cons (pe_ix ix_list (pv 0) (pe_op FW.opAdd (pv 1) (pe_int)) (fun _ _ => rfl)) (pa_nil))) (pe_int)) (pe_int)) (fun _ _ => rfl))) (pss_cons (ps_set (i := 5) sc_l_drawn_halves.nd rfl (Or.inl rfl) (pe_op FW.opMod (pe_op FW.opDiv (pe_callTy call_int1 (by rfl) T.n_int (by decide +kernel) (pa_cons (pe_ix ix_list (pv 0) (pe_op FW.opAdd (pv 1) (pe_int)) (fun _ _ => rfl)) (pa_nil))) (pe_int)) (pe_int))) (pss_cons (ps_if (pt_cmpR op_lt (pv 5) (pe_int) (nomark _)) (pss_one (ps_asg (pe_ix ix_list (pv 2) (pv 5) (fun _ _ => rfl)) (pg_sub (pv 4) (pv 5) set_list))) (pss_nil)) (pss_one (ps_set (i := 2) sc_l_drawn_halves.nd rfl (Or.inl rfl) (pv 4)))))))) (pss_nil)) (pss_one (ps_ret (pv 2)))))))
theorem ok_l_drawn_halves (T : Tx K mg base) : Fn PP w K mg base CX0 1 "_law_drawn_halves" (sp_l_drawn_halves K) [] :=
  Fn.mk0 T.d_l_drawn_halves T.g__law_drawn_halves sc_l_drawn_halves (fun _ _ _ _ _ _ us hl => match us, hl with | [_, _], _ => rfl) (by walk_at "ln") (fun cdv A outer s H vs Q E hr h => ⟨rd_l_drawn_halves K, dv_l_drawn_halves T hr, pure_l_drawn_halves K vs H Q E h⟩)
theorem dv_l_drawn_steps {f : Addr} {cdv : Value} {A : Around} {outer : List Env} {s : Shared} {H : Hp} {E : XK} (T : Tx K mg base) (hr : Room 0 (A.deeper (envOfC "_law_drawn_steps" (defScope st_l_drawn_steps) s.heap.objs.size f cdv))) : PSs (cxOf CX0 PP w K mg base N_l_drawn_steps "_law_drawn_steps" (defScope st_l_drawn_steps) f cdv A outer s H E).nox (defBody st_l_drawn_steps) (rd_l_drawn_steps K) := by
  exact pss_cons (ps_set (i := 2) sc_l_drawn_steps.nd rfl (Or.inl rfl) (pe_ix ix_list (pe_lst (pa_cons (pe_str) (pa_cons (pe_str) (pa_cons (pe_str) (pa_nil))))) (pe_op FW.opMod (pe_callTy call_int1 (by rfl) T.n_int (by decide +kernel) (pa_cons (pe_ix ix_list (pv 0) (pv 1) (fun _ _ => rfl)) (pa_nil))) (pe_int)) (fun _ _ => rfl))) (pss_cons (ps_set (i := 3) sc_l_drawn_steps.nd rfl (Or.inl rfl) (pe_lst (pa_cons (pv 2) (pa_cons (pe_ix ix_list (pe_lst (pa_cons (pe_str) (pa_cons (pe_str) (pa_cons (pe_str) (pa_nil))))) (pe_op FW.opMod (pe_callTy call_int1 (by rfl) T.n_int (by decide +kernel) (pa_cons (pe_ix ix_list (pv 0) (pe_op FW.opAdd (pv 1) (pe_int)) (fun _ _ => rfl)) (pa_nil))) (pe_int)) (fun _ _ => rfl)) (pa_cons (pe_op FW.opAdd (pe_int) (pe_callTy call_int1 (by rfl) T.n_int (by decide +kernel) (pa_cons (pe_cmpR op_eq (pe_op FW.opMod (pe_callTy call_int1 (by rfl) T.n_int (by decide +kernel) (pa_cons (pe_ix ix_list (pv 0) (pe_op FW.opAdd (pv 1) (pe_int)) (fun _ _ => rfl)) (pa_nil))) (pe_int)) (pe_int) (nomark _)) (pa_nil)))) (pa_nil)))))) (pss_one (ps_ret (pe_op op_cat (pv 3) (pe_lst (pa_cons (pe_ix ix_list (pe_lst (pa_cons (pe_int) (pa_cons (pe_int) (pa_cons (pe_int) (pa_cons (pe_un un_neg (pe_int)) (pa_nil)))))) (pe_op FW.opMod (pe_callTy call_int1 (by rfl) T.n_int (by decide +kernel) (pa_cons (pe_ix ix_list (pv 0) (pe_op FW.opAdd (pv 1) (pe_int)) (fun _ _ => rfl)) (pa_nil))) (pe_int)) (fun _ _ => rfl)) (pa_nil)))))))
theorem ok_l_drawn_steps (T : Tx K mg base) : Fn PP w K mg base CX0 1 "_law_drawn_steps" (sp_l_drawn_steps K) [] :=
  Fn.mk0 T.d_l_drawn_steps T.g__law_drawn_steps sc_l_drawn_steps (fun _ _ _ _ _ _ us hl => match us, hl with | [_, _], _ => rfl) (by walk_at "ln") (fun cdv A outer s H vs Q E hr h => ⟨rd_l_drawn_steps K, dv_l_drawn_steps T hr, pure_l_drawn_steps K vs H Q E h⟩)
theorem dv_l_weights2 {f : Addr} {cdv : Value} {A : Around} {outer : List Env} {s : Shared} {H : Hp} {E : XK} (T : Tx K mg base) (hr : Room 0 (A.deeper (envOfC "_law_weights" (defScope st_l_weights2) s.heap.objs.size f cdv))) : PSs (cxOf CX0 PP w K mg base N_l_weights2 "_law_weights" (defScope st_l_weights2) f cdv A outer s H E).nox (defBody st_l_weights2) (rd_l_weights2 K) := by
  exact pss_cons (ps_set (i := 1) sc_l_weights2.nd rfl (Or.inl rfl) (pe_lst (pa_nil))) (pss_cons (ps_for PassesOwn.never rfl (pi_range2 (by rfl) T.n_range (pa_cons (pe_int) (pa_cons (pe_int) (pa_nil)))) (pg_name (i := 2) sc_l_weights2.nd rfl (Or.inr rfl)) (pss_one (ps_expr (pe_bm PySem.F.plainAttrs_list PySem.F.slot_list_extend PySem.F.type_list_extend mt_extend (pv 1) (pa_cons (pe_lc (own := [("_law_c", 3)]) (g := gName 3) (tt := tTest (tOp FW.rGe (tVar 2) (tOp FW.rMul (tVar 3) (tOp FW.rSub (tVar 0) (tC (.int 1)))))) rfl sc_l_weights2.nd (pi_range2 (by rfl) T.n_range (pa_cons (pe_int) (pa_cons (pe_op FW.opSub (pe_int) (pv 2)) (pa_nil)))) (blkOk_by (own := [("_law_c", 3)]) (N := N_l_weights2) (sc := defScope st_l_weights2) (by decide +kernel)) (fun _ _ _ _ _ => pg_name (i := 3) sc_l_weights2.nd rfl (Or.inl rfl)) (fun _ _ _ _ _ => pts_one (pt_cmpR op_ge (pv 2) (pe_op FW.opMul (pv 3) (pe_op FW.opSub (pv 0) (pe_int))) (nomark _))) (fun _ _ _ _ _ => pe_tup (pa_cons (pv 2) (pa_cons (pv 3) (pa_nil))))) (pa_nil)))))) (pss_one (ps_ret (pv 1))))
theorem ok_l_weights2 (T : Tx K mg base) : Fn PP w K mg base CX0 1 "_law_weights" (sp_l_weights2 K) [] :=
  Fn.mk0 T.d_l_weights2 T.g__law_weights sc_l_weights2 (fun _ _ _ _ _ _ us hl => match us, hl with | [_], _ => rfl) (by walk_at "ln") (fun cdv A outer s H vs Q E hr h => ⟨rd_l_weights2 K, dv_l_weights2 T hr, pure_l_weights2 K vs H Q E h⟩)
theorem gv_l_refusedH {X : Cx} {cdv : Value} (hP : X.prog = PP) (T : Tx X.K X.mg X.base) : FWC.GivesToC X N_l_refusedH "_law_refused" (defScope st_l_refusedH) (He.ga X.K "_law_refused") cdv (defBody st_l_refusedH) "_law_ask" (X.env.qual ++ "<lambda>") (TT_l_refusedH X.K) := by
  obtain ⟨prog, w, K, mg, base, A, N, s_0, H_0, env, outer, stack, ex, fn, calm, pn, xe⟩ := X
  change prog = PP at hP
  subst hP
  change Tx K mg base at T
  intro f c s H Q tl j hr act hc h h8
  refine ⟨rd_l_refusedH K f c (env.qual ++ "<lambda>") tl, ?_, pure_l_refusedH K f c _ tl H Q hc h⟩
  exact pss_cons (FWC.ps_tryA (tb := fun W => FW.tWithE 3 (fun Ech => tDrop (FW.tAsk f c (env.qual ++ "<lambda>") tl Ech)) W) (Wout := (fun _ _ _ _ => False)) rfl rfl FWC.takesNo (fun W pn xe tk _ => FW.pss_withE fun Ech hW => pss_one (ps_expr (act (FW.wLen _ W) pn xe Ech _ _ (FWC.takes_len rfl tk) hW))) (FWC.Hds.cons (k := ⟨.ref (He.ga K "FloorError"), 1, fun a cls d => tSeq (tFor (iList K (tLst (tCons (tC (.str "word")) (tCons (tC (.str "value")) (tNil))))) (gName 2) (tSeq (tIfS (tAnd (tTest (tOp rEq (tVar 2) (tC (.str "word")))) (tB (tCB (FW.rIsXT K a cls d) (tCons (tVar 1) (tCons (tTup (tCons (tC (.ref (He.ga K "BadLoop"))) (tCons (tC (.ref (He.ga K "BadSought"))) (tCons (tC (.ref (He.ga K "BadBeginning"))) (tNil))))) (tNil)))))) (tRet (tTup (tCons (FW.tCallX a ["_law_e", "_law_some", "_law_names", "_law_name", "_law_is_it"] (rd_l_class K a cls d) (tVar 1)) (tCons (FW.tByX K "word" a cls d (tVar 1)) (tNil))))) (tNext)) (tIfS (tAnd (tTest (tOp rEq (tVar 2) (tC (.str "value")))) (tB (tCB (FW.rIsXT K a cls d) (tCons (tVar 1) (tCons (tTup (tCons (tC (.ref (He.ga K "BadNumber"))) (tCons (tC (.ref (He.ga K "BadPower"))) (tCons (tC (.ref (He.ga K "BadStart"))) (tCons (tC (.ref (He.ga K "BadKind"))) (tNil)))))) (tNil)))))) (tRet (tTup (tCons (FW.tCallX a ["_law_e", "_law_some", "_law_names", "_law_name", "_law_is_it"] (rd_l_class K a cls d) (tVar 1)) (tCons (FW.tByX K "value" a cls d (tVar 1)) (tNil))))) (tNext)))) (tRet (tTup (tCons (FW.tCallX a ["_law_e", "_law_some", "_law_names", "_law_name", "_law_is_it"] (rd_l_class K a cls d) (tVar 1)) (tCons (tC .non) (tNil)))))⟩) sc_l_refusedH.nd rfl rfl ⟨rfl, by decide, .inl T.g_FloorError⟩ (fun a oe cls d pn hz hf => by (refine FWC.pss_hxG (a := a) (oe := oe) (cls := cls) (d := d) (t := tSeq (tFor (iList K (tLst (tCons (tC (.str "word")) (tCons (tC (.str "value")) (tNil))))) (gName 2) (tSeq (tIfS (tAnd (tTest (tOp rEq (tVar 2) (tC (.str "word")))) (tB (tCB (FW.rIsXT K a cls d) (tCons (tVar 1) (tCons (tTup (tCons (tC (.ref (He.ga K "BadLoop"))) (tCons (tC (.ref (He.ga K "BadSought"))) (tCons (tC (.ref (He.ga K "BadBeginning"))) (tNil))))) (tNil)))))) (tRet (tTup (tCons (FW.tCallX a ["_law_e", "_law_some", "_law_names", "_law_name", "_law_is_it"] (rd_l_class K a cls d) (tVar 1)) (tCons (FW.tByX K "word" a cls d (tVar 1)) (tNil))))) (tNext)) (tIfS (tAnd (tTest (tOp rEq (tVar 2) (tC (.str "value")))) (tB (tCB (FW.rIsXT K a cls d) (tCons (tVar 1) (tCons (tTup (tCons (tC (.ref (He.ga K "BadNumber"))) (tCons (tC (.ref (He.ga K "BadPower"))) (tCons (tC (.ref (He.ga K "BadStart"))) (tCons (tC (.ref (He.ga K "BadKind"))) (tNil)))))) (tNil)))))) (tRet (tTup (tCons (FW.tCallX a ["_law_e", "_law_some", "_law_names", "_law_name", "_law_is_it"] (rd_l_class K a cls d) (tVar 1)) (tCons (FW.tByX K "value" a cls d (tVar 1)) (tNil))))) (tNext)))) (tRet (tTup (tCons (FW.tCallX a ["_law_e", "_law_some", "_law_names", "_law_name", "_law_is_it"] (rd_l_class K a cls d) (tVar 1)) (tCons (tC .non) (tNil)))))) ?_ ?_; (exact FWC.hx_suiteG hz hf); (intro hx; exact pss_cons (FWC.ps_forG PassesOwn.never hx.hot (FWC.pi_listG (pe_lst (pa_cons (pe_str) (pa_cons (pe_str) (pa_nil))))) (pg_name (i := 2) sc_l_refusedH.nd rfl (Or.inl rfl)) (pss_cons (ps_if (PW.pt (pw_and (pt_cmpR op_eq (pv 2) (pe_str) (nomark _)) (pw_and1 (pt_val (pe_callB (FWC.call_isGT hx) (by rfl) T.n_isinstance (by decide +kernel) (pa_cons (pv 1) (pa_cons (pe_tup (pa_cons (FW.pe_gref (by rfl) T.g_BadLoop) (pa_cons (FW.pe_gref (by rfl) T.g_BadSought) (pa_cons (FW.pe_gref (by rfl) T.g_BadBeginning) (pa_nil))))) (pa_nil)))))))) (pss_one (ps_ret (pe_tup (pa_cons (FWC.pe_callG (k := 0) (pn := "_law_e") hx T.d_l_class T.g__law_class (by rfl) sc_l_class (fun _ _ _ _ _ _ us hl => match us, hl with | [_], _ => rfl) (FW.roomS hr (by omega)) (pv 1) (fun cdv s H ps0 _ hx => dv_l_class T hx)) (pa_cons (FWC.pe_byG hx (pv 1)) (pa_nil)))))) (pss_nil)) (pss_one (ps_if (PW.pt (pw_and (pt_cmpR op_eq (pv 2) (pe_str) (nomark _)) (pw_and1 (pt_val (pe_callB (FWC.call_isGT hx) (by rfl) T.n_isinstance (by decide +kernel) (pa_cons (pv 1) (pa_cons (pe_tup (pa_cons (FW.pe_gref (by rfl) T.g_BadNumber) (pa_cons (FW.pe_gref (by rfl) T.g_BadPower) (pa_cons (FW.pe_gref (by rfl) T.g_BadStart) (pa_cons (FW.pe_gref (by rfl) T.g_BadKind) (pa_nil)))))) (pa_nil)))))))) (pss_one (ps_ret (pe_tup (pa_cons (FWC.pe_callG (k := 0) (pn := "_law_e") hx T.d_l_class T.g__law_class (by rfl) sc_l_class (fun _ _ _ _ _ _ us hl => match us, hl with | [_], _ => rfl) (FW.roomS hr (by omega)) (pv 1) (fun cdv s H ps0 _ hx => dv_l_class T hx)) (pa_cons (FWC.pe_byG hx (pv 1)) (pa_nil)))))) (pss_nil))))) (pss_one (ps_ret (pe_tup (pa_cons (FWC.pe_callG (k := 0) (pn := "_law_e") hx T.d_l_class T.g__law_class (by rfl) sc_l_class (fun _ _ _ _ _ _ us hl => match us, hl with | [_], _ => rfl) (FW.roomS hr (by omega)) (pv 1) (fun cdv s H ps0 _ hx => dv_l_class T hx)) (pa_cons (pe_non) (pa_nil))))))))) (FWC.Hds.nil))) (pss_one (ps_ret (pe_non)))
theorem dv_l_line {f : Addr} {cdv : Value} {A : Around} {outer : List Env} {s : Shared} {H : Hp} {E : XK} (T : Tx K mg base) (hr : Room 0 (A.deeper (envOfC "_law_line" (defScope st_l_line) s.heap.objs.size f cdv))) : PSs (cxOf CX0 PP w K mg base N_l_line "_law_line" (defScope st_l_line) f cdv A outer s H E).nox (defBody st_l_line) (rd_l_line K) := by
  exact pss_one (ps_ret (pe_join (pe_str) (pe_op op_cat (pe_lst (pa_cons (pv 0) (pa_nil))) (pe_lc (own := [("_law_part", 2)]) (g := gName 2) (tt := tYes) rfl sc_l_line.nd (pi_list (pv 1)) (blkOk_by (own := [("_law_part", 2)]) (N := N_l_line) (sc := defScope st_l_line) (by decide +kernel)) (fun _ _ _ _ _ => pg_name (i := 2) sc_l_line.nd rfl (Or.inl rfl)) (fun _ _ _ _ _ => pts_nil) (fun _ _ _ _ _ => FW.pe_either (pe_callTy call_str_int (by rfl) T.n_str (by decide +kernel) (pa_cons (pv 2) (pa_nil))) (pe_callTy FW.call_strS (by rfl) T.n_str (by decide +kernel) (pa_cons (pv 2) (pa_nil))))))))
theorem ok_l_line (T : Tx K mg base) : Fn PP w K mg base CX0 1 "_law_line" (sp_l_line K) [] :=
  Fn.mk0 T.d_l_line T.g__law_line sc_l_line (fun _ _ _ _ _ _ us hl => match us, hl with | [_, _], _ => rfl) (by walk_at "ln") (fun cdv A outer s H vs Q E hr h => ⟨rd_l_line K, dv_l_line T hr, pure_l_line K vs H Q E h⟩)
theorem dv_l_spoilt {f : Addr} {cdv : Value} {A : Around} {outer : List Env} {s : Shared} {H : Hp} {E : XK} (T : Tx K mg base) (hr : Room 0 (A.deeper (envOfC "_law_spoilt" (defScope st_l_spoilt) s.heap.objs.size f cdv))) : PSs (cxOf CX0 PP w K mg base N_l_spoilt "_law_spoilt" (defScope st_l_spoilt) f cdv A outer s H E).nox (defBody st_l_spoilt) (rd_l_spoilt K) := by
  exact pss_cons (ps_par (by rfl) sc_l_spoilt.nd rfl rfl (by decide) rfl rfl (pa_cons (pe_op FW.opMod (pe_ix ix_list (pv 0) (pe_int) (fun _ _ => rfl)) (pe_int)) (pa_cons (pe_op FW.opMod (pe_ix ix_list (pv 0) (pe_int) (fun _ _ => rfl)) (pe_op FW.opAdd (pe_callB call_len_str (by rfl) T.n_len (by decide +kernel) (pa_cons (pv 1) (pa_nil))) (pe_int))) (pa_nil))) (by rfl)) (pss_cons (ps_set (i := 4) sc_l_spoilt.nd rfl (Or.inl rfl) (pe_op op_cat (pe_callTy (FW.call_listStr rfl) (by rfl) T.n_list (by decide +kernel) (pa_cons (pe_str) (pa_nil))) (pe_lst (pa_cons (pe_str) (pa_cons (pe_str) (pa_nil)))))) (pss_cons (ps_if (pt_cmpR op_lt (pv 2) (pe_int) (nomark _)) (pss_cons (ps_set (i := 5) sc_l_spoilt.nd rfl (Or.inl rfl) (pe_op FW.op_mulS (pe_ix ix_list (pv 4) (pe_op FW.opMod (pe_ix ix_list (pv 0) (pe_int) (fun _ _ => rfl)) (pe_int)) (fun _ _ => rfl)) (pe_callTy call_int1 (by rfl) T.n_int (by decide +kernel) (pa_cons (pe_cmpR op_gt (pv 2) (pe_int) (nomark _)) (pa_nil))))) (pss_one (ps_ret (pe_op FW.op_addS (pe_op FW.op_addS (pe_slice sl_str (pv 1) (po_none) (po_some (pv 3))) (pv 5)) (pe_slice sl_str (pv 1) (po_some (pe_op FW.opAdd (pv 3) (pe_ix ix_list (pe_lst (pa_cons (pe_int) (pa_cons (pe_int) (pa_cons (pe_int) (pa_nil))))) (pv 2) (fun _ _ => rfl)))) (po_none)))))) (pss_nil)) (pss_cons (ps_set (i := 6) sc_l_spoilt.nd rfl (Or.inl rfl) (FW.pe_splitS (pv 1) (pe_str))) (pss_cons (ps_set (i := 7) sc_l_spoilt.nd rfl (Or.inl rfl) (pe_op FW.opMod (pe_ix ix_list (pv 0) (pe_int) (fun _ _ => rfl)) (pe_callB call_len_seq (by rfl) T.n_len (by decide +kernel) (pa_cons (pv 6) (pa_nil))))) (pss_cons (ps_if (pt_cmpR op_eq (pv 2) (pe_int) (nomark _)) (pss_one (ps_ret (pe_join (pe_str) (pe_op op_cat (pe_slice sl_list (pv 6) (po_none) (po_some (pe_op FW.opAdd (pv 7) (pe_int)))) (pe_slice sl_list (pv 6) (po_some (pv 7)) (po_none)))))) (pss_nil)) (pss_cons (ps_if (pt_cmpR op_eq (pv 2) (pe_int) (nomark _)) (pss_one (ps_ret (pe_join (pe_str) (pe_op op_cat (pe_slice sl_list (pv 6) (po_none) (po_some (pv 7))) (pe_slice sl_list (pv 6) (po_some (pe_op FW.opAdd (pv 7) (pe_int))) (po_none)))))) (pss_nil)) (pss_cons (ps_if (pt_cmpR op_eq (pv 2) (pe_int) (nomark _)) (pss_cons (ps_expr (pe_bm PySem.F.plainAttrs_list PySem.F.slot_list_insert PySem.F.type_list_insert FW.mt_insertM (pv 6) (pa_cons (pe_op FW.opAdd (pv 7) (pe_int)) (pa_cons (pe_bm PySem.F.plainAttrs_list PySem.F.slot_list_pop PySem.F.type_list_pop mt_popAt (pv 6) (pa_cons (pv 7) (pa_nil))) (pa_nil))))) (pss_one (ps_ret (pe_join (pe_str) (pv 6))))) (pss_nil)) (pss_cons (ps_set (i := 8) sc_l_spoilt.nd rfl (Or.inl rfl) (pe_lst (pa_cons (pe_str) (pa_cons (pe_str) (pa_cons (pe_str) (pa_cons (pe_str) (pa_cons (pe_str) (pa_cons (pe_str) (pa_cons (pe_str) (pa_cons (pe_str) (pa_cons (pe_str) (pa_cons (pe_str) (pa_nil))))))))))))) (pss_cons (ps_set (i := 8) sc_l_spoilt.nd rfl (Or.inl rfl) (pe_op op_cat (pv 8) (pe_lst (pa_cons (pe_str) (pa_cons (pe_str) (pa_cons (pe_str) (pa_cons (pe_str) (pa_cons (pe_str) (pa_nil))))))))) (pss_cons (ps_asg (pe_ix ix_list (pv 8) (pe_op FW.opMod (pe_ix ix_list (pv 0) (pe_int) (fun _ _ => rfl)) (pe_int)) (fun _ _ => rfl)) (pg_sub (pv 6) (pv 7) set_list)) (pss_one (ps_ret (pe_ifExp (pt_cmpR op_eq (pv 2) (pe_int) (nomark _)) (pe_join (pe_str) (pv 6)) (pv 1))))))))))))))
theorem ok_l_spoilt (T : Tx K mg base) : Fn PP w K mg base CX0 1 "_law_spoilt" (sp_l_spoilt K) [] :=
  Fn.mk0 T.d_l_spoilt T.g__law_spoilt sc_l_spoilt (fun _ _ _ _ _ _ us hl => match us, hl with | [_, _], _ => rfl) (by walk_at "ln") (fun cdv A outer s H vs Q E hr h => ⟨rd_l_spoilt K, dv_l_spoilt T hr, pure_l_spoilt K vs H Q E h⟩)
theorem dv_l_is_average {f : Addr} {cdv : Value} {A : Around} {outer : List Env} {s : Shared} {H : Hp} {E : XK} (T : Tx K mg base) (hr : Room 0 (A.deeper (envOfC "_law_is_average" (defScope st_l_is_average) s.heap.objs.size f cdv))) : PSs (cxOf CX0 PP w K mg base N_l_is_average "_law_is_average" (defScope st_l_is_average) f cdv A outer s H E).nox (defBody st_l_is_average) (rd_l_is_average K) := by
  exact pss_cons (ps_set (i := 1) sc_l_is_average.nd rfl (Or.inr rfl) (pe_callTy (call_dictP rfl) (by rfl) T.n_dict (by decide +kernel) (pa_cons (pe_lc (own := [("_law_number", 2)]) (g := gName 2) (tt := tYes) rfl sc_l_is_average.nd (pi_range2 (by rfl) T.n_range (pa_cons (pe_un un_neg (pe_int)) (pa_cons (pe_int) (pa_nil)))) (blkOk_by (own := [("_law_number", 2)]) (N := N_l_is_average) (sc := defScope st_l_is_average) (by decide +kernel)) (fun _ _ _ _ _ => pg_name (i := 2) sc_l_is_average.nd rfl (Or.inl rfl)) (fun _ _ _ _ _ => pts_nil) (fun _ _ _ _ _ => pe_tup (pa_cons (pe_callTy call_str_int (by rfl) T.n_str (by decide +kernel) (pa_cons (pv 2) (pa_nil))) (pa_cons (pv 2) (pa_nil))))) (pa_nil)))) (pss_cons (ps_if (PW.pt (pw_or (pt_cmpR op_notIn_seq (pe_ix ix_list (pv 0) (pe_int) (fun _ _ => rfl)) (pe_lst (pa_cons (pe_str) (pa_cons (pe_str) (pa_cons (pe_str) (pa_nil))))) (by rfl)) (pw_or1 (pt_not (pt_val (pe_callB (cr_all rfl) (by rfl) T.n_all (by decide +kernel) (pa_cons (pe_lc (own := [("_law_word", 3)]) (g := gName 3) (tt := tYes) rfl sc_l_is_average.nd (pi_list (pe_slice sl_list (pv 0) (po_some (pe_int)) (po_some (pe_int)))) (blkOk_by (own := [("_law_word", 3)]) (N := N_l_is_average) (sc := defScope st_l_is_average) (by decide +kernel)) (fun _ _ _ _ _ => pg_name (i := 3) sc_l_is_average.nd rfl (Or.inl rfl)) (fun _ _ _ _ _ => pts_nil) (fun _ _ _ _ _ => pe_cmp (pc_din (FW.u1 hr) (pv 3) (pv 1)))) (pa_nil)))))))) (pss_one (ps_ret (pe_bl))) (pss_nil)) (pss_cons (ps_asg (pe_lc (own := [("_law_word", 3)]) (g := gName 3) (tt := tYes) rfl sc_l_is_average.nd (pi_list (pe_slice sl_list (pv 0) (po_none) (po_some (pe_int)))) (blkOk_by (own := [("_law_word", 3)]) (N := N_l_is_average) (sc := defScope st_l_is_average) (by decide +kernel)) (fun _ _ _ _ _ => pg_name (i := 3) sc_l_is_average.nd rfl (Or.inl rfl)) (fun _ _ _ _ _ => pts_nil) (fun _ _ _ _ _ => pe_dget (FW.u1 hr) (pv 1) (pv 3) (fun _ _ => rfl))) (pg_lst rfl (pgs_cons (pg_name (i := 4) sc_l_is_average.nd rfl (Or.inl rfl)) (pgs_cons (pg_name (i := 5) sc_l_is_average.nd rfl (Or.inl rfl)) (pgs_cons (pg_name (i := 6) sc_l_is_average.nd rfl (Or.inl rfl)) (pgs_cons (pg_name (i := 7) sc_l_is_average.nd rfl (Or.inl rfl)) (pgs_nil))))))) (pss_cons (ps_if (PW.pt (pw_or (pt_cmpR op_lt (pv 5) (pe_int) (nomark _)) (pw_or (pt_cmpR op_lt (pv 6) (pe_int) (nomark _)) (pw_or (pt_cmpR op_lt (pv 5) (pe_op FW.opMul (pv 6) (pe_op FW.opSub (pv 4) (pe_int))) (nomark _)) (pw_or1 (pt_cmpR op_gt (pe_op FW.opAdd (pv 5) (pv 6)) (pe_int) (nomark _))))))) (pss_one (ps_ret (pe_bl))) (pss_nil)) (pss_cons (ps_if (PW.pt (pw_or (pt_cmpR op_lt (pv 7) (pe_op FW.opSub (pe_int) (pv 5)) (nomark _)) (pw_or1 (pt_cmpR op_gt (pv 7) (pe_op FW.opAdd (pv 5) (pv 6)) (nomark _))))) (pss_one (ps_ret (pe_bl))) (pss_nil)) (pss_cons (ps_if (pt_cmpR op_notIn_seq (pe_ix ix_list (pv 0) (pe_int) (fun _ _ => rfl)) (pe_lst (pa_cons (pe_str) (pa_cons (pe_str) (pa_cons (pe_str) (pa_cons (pe_str) (pa_cons (pe_str) (pa_cons (pe_str) (pa_cons (pe_str) (pa_nil))))))))) (by rfl)) (pss_one (ps_ret (pe_bl))) (pss_nil)) (pss_cons (ps_if (pt_cmpR op_notIn_seq (pe_ix ix_list (pv 0) (pe_int) (fun _ _ => rfl)) (pe_lst (pa_cons (pe_str) (pa_cons (pe_str) (pa_cons (pe_str) (pa_cons (pe_str) (pa_nil)))))) (by rfl)) (pss_one (ps_ret (pe_bl))) (pss_nil)) (pss_cons (ps_if (PW.pt (pw_and (pt_cmpR op_in_seq (pe_ix ix_list (pv 0) (pe_int) (fun _ _ => rfl)) (pe_lst (pa_cons (pe_str) (pa_cons (pe_str) (pa_nil)))) (by rfl)) (pw_and1 (pt_cmpR op_ne (pe_ix ix_list (pv 0) (pe_int) (fun _ _ => rfl)) (pe_str) (nomark _))))) (pss_one (ps_ret (pe_bl))) (pss_nil)) (pss_one (ps_ret (pe_cmpR op_in_seq (pe_ix ix_list (pv 0) (pe_int) (fun _ _ => rfl)) (pe_lst (pa_cons (pe_str) (pa_cons (pe_str) (pa_cons (pe_str) (pa_cons (pe_str) (pa_nil)))))) (by rfl)))))))))))
theorem ok_l_is_average (T : Tx K mg base) : Fn PP w K mg base CX0 1 "_law_is_average" (sp_l_is_average K) [] :=
  Fn.mk0 T.d_l_is_average T.g__law_is_average sc_l_is_average (fun _ _ _ _ _ _ us hl => match us, hl with | [_], _ => rfl) (by walk_at "ln") (fun cdv A outer s H vs Q E hr h => ⟨rd_l_is_average K, dv_l_is_average T hr, pure_l_is_average K vs H Q E h⟩)
theorem dv_is_whole_from {f : Addr} {cdv : Value} {A : Around} {outer : List Env} {s : Shared} {H : Hp} {E : XK} (T : Tx K mg base) (hr : Room 1 (A.deeper (envOfC "is_whole_from" (defScope st_is_whole_from) s.heap.objs.size f cdv))) : PSs (cxOf CX0 PP w K mg base N_is_whole_from "is_whole_from" (defScope st_is_whole_from) f cdv A outer s H E).nox (defBody st_is_whole_from) (rd_is_whole_from K) := by
  exact pss_one (ps_ret (pe_and (FW.pe_f (ok_is_whole T) hr (by decide) (by rfl) (pa_cons (pv 0) (pa_nil))) (pe_one (pe_cmpR op_ge (pv 0) (pv 1) (nomark _)))))
theorem ok_is_whole_from (T : Tx K mg base) : Fn PP w K mg base CX0 2 "is_whole_from" (sp_is_whole_from K) [] :=
  Fn.mk0 T.d_is_whole_from T.g_is_whole_from sc_is_whole_from (fun _ _ _ _ _ _ us hl => match us, hl with | [_, _], _ => rfl) (by walk_at "ln") (fun cdv A outer s H vs Q E hr h => ⟨rd_is_whole_from K, dv_is_whole_from T hr, pure_is_whole_from K vs H Q E h⟩)
theorem dv_Average_eq {f : Addr} {cdv : Value} {A : Around} {outer : List Env} {s : Shared} {H : Hp} {E : XK} (T : Tx K mg base) (hr : Room 1 (A.deeper (envOfC "Average.__eq__" (defScope st_Average_eq) s.heap.objs.size f cdv))) : PSs (cxOf CX0 PP w K mg base N_Average_eq "Average.__eq__" (defScope st_Average_eq) f cdv A outer s H E).nox (defBody st_Average_eq) (rd_Average_eq K) := by
  exact pss_cons (ps_if (pt_not (pt_val (pe_callB call_isi (by rfl) T.n_isinstance (by decide +kernel) (pa_cons (pv 1) (pa_cons (FW.pe_gref (by rfl) T.g_Average) (pa_nil)))))) (pss_one (ps_never)) (pss_nil)) (pss_one (ps_ret (pe_cmpR (op_eqD hr.units) (FW.pe_o0 (ok_Average_parts T) hr (by decide) (pv 0)) (FW.pe_o0 (ok_Average_parts T) hr (by decide) (pv 1)) (nomark _))))
theorem ok_Average_eq (T : Tx K mg base) : Mt PP w K mg base CX0 2 (He.ga K "Average") "__eq__" (sp_Average_eq K) [] :=
  Mt.mk0 T.c_Average T.m_Average_eq T.d_Average_eq sc_Average_eq (fun _ _ _ _ _ _ us hl => match us, hl with | [_, _], _ => rfl) (by walk_at "ln") (fun cdv A outer s H vs Q E hr h => ⟨rd_Average_eq K, dv_Average_eq T hr, pure_Average_eq K T.av T.in_Average vs H Q E h⟩)
theorem dv_Average_text {f : Addr} {cdv : Value} {A : Around} {outer : List Env} {s : Shared} {H : Hp} {E : XK} (T : Tx K mg base) (hr : Room 1 (A.deeper (envOfC "Average.text" (defScope st_Average_text) s.heap.objs.size f cdv))) : PSs (cxOf CX0 PP w K mg base N_Average_text "Average.text" (defScope st_Average_text) f cdv A outer s H E).nox (defBody st_Average_text) (rd_Average_text K) := by
  exact pss_one (ps_ret (pe_join (pe_str) (pe_op op_cat (pe_lst (pa_cons (pe_str) (pa_nil))) (pe_lc (own := [("part", 1)]) (g := gName 1) (tt := tYes) rfl sc_Average_text.nd (pi_tup (FW.pe_o0 (ok_Average_parts T) hr (by decide) (pv 0))) (blkOk_by (own := [("part", 1)]) (N := N_Average_text) (sc := defScope st_Average_text) (by decide +kernel)) (fun _ _ _ _ _ => pg_name (i := 1) sc_Average_text.nd rfl (Or.inl rfl)) (fun _ _ _ _ _ => pts_nil) (fun _ _ _ _ _ => FW.pe_either (pe_callTy call_str_int (by rfl) T.n_str (by decide +kernel) (pa_cons (pv 1) (pa_nil))) (pe_callTy FW.call_strS (by rfl) T.n_str (by decide +kernel) (pa_cons (pv 1) (pa_nil))))))))
theorem ok_Average_text (T : Tx K mg base) : Mt PP w K mg base CX0 2 (He.ga K "Average") "text" (sp_Average_text K) [] :=
  Mt.mk0 T.c_Average T.m_Average_text T.d_Average_text sc_Average_text (fun _ _ _ _ _ _ us hl => match us, hl with | [_], _ => rfl) (by walk_at "ln") (fun cdv A outer s H vs Q E hr h => ⟨rd_Average_text K, dv_Average_text T hr, pure_Average_text K vs H Q E h⟩)
theorem dv_is_number_ofU {f : Addr} {cdv : Value} {A : Around} {outer : List Env} {s : Shared} {H : Hp} {E : XK} (T : Tx K mg base) (hr : Room 1 (A.deeper (envOfC "is_number_of" (defScope st_is_number_ofU) s.heap.objs.size f cdv))) : PSs (cxOf CX0 PP w K mg base N_is_number_ofU "is_number_of" (defScope st_is_number_ofU) f cdv A outer s H E).nox (defBody st_is_number_ofU) (rd_is_number_ofU K) := by
  exact pss_one (ps_ret (pe_and (FW.pe_f (ok_is_whole T) hr (by decide) (by rfl) (pa_cons (pv 0) (pa_nil))) (pe_one (pe_cmpR op_in_seq (pv 0) (pv 1) (by rfl)))))
theorem ok_is_number_ofU (T : Tx K mg base) : Fn PP w K mg base CX0 2 "is_number_of" (sp_is_number_ofU K) [] :=
  Fn.mk0 T.d_is_number_ofU T.g_is_number_of sc_is_number_ofU (fun _ _ _ _ _ _ us hl => match us, hl with | [_, _], _ => rfl) (by walk_at "ln") (fun cdv A outer s H vs Q E hr h => ⟨rd_is_number_ofU K, dv_is_number_ofU T hr, pure_is_number_ofU K vs H Q E h⟩)
theorem dv_Halves_eq {f : Addr} {cdv : Value} {A : Around} {outer : List Env} {s : Shared} {H : Hp} {E : XK} (T : Tx K mg base) (hr : Room 1 (A.deeper (envOfC "Halves.__eq__" (defScope st_Halves_eq) s.heap.objs.size f cdv))) : PSs (cxOf CX0 PP w K mg base N_Halves_eq "Halves.__eq__" (defScope st_Halves_eq) f cdv A outer s H E).nox (defBody st_Halves_eq) (rd_Halves_eq K) := by
  exact pss_one (ps_ret (pe_and (pe_callB call_isi (by rfl) T.n_isinstance (by decide +kernel) (pa_cons (pv 1) (pa_cons (FW.pe_gref (by rfl) T.g_Halves) (pa_nil)))) (pe_one (pe_cmpR (op_eqD hr.units) (FW.pe_o0 (ok_Halves_parts T) hr (by decide) (pv 0)) (FW.pe_o0 (ok_Halves_parts T) hr (by decide) (pv 1)) (nomark _)))))
theorem ok_Halves_eq (T : Tx K mg base) : Mt PP w K mg base CX0 2 (He.ga K "Halves") "__eq__" (sp_Halves_eq K) [] :=
  Mt.mk0 T.c_Halves T.m_Halves_eq T.d_Halves_eq sc_Halves_eq (fun _ _ _ _ _ _ us hl => match us, hl with | [_, _], _ => rfl) (by walk_at "ln") (fun cdv A outer s H vs Q E hr h => ⟨rd_Halves_eq K, dv_Halves_eq T hr, pure_Halves_eq K T.hv T.in_Halves vs H Q E h⟩)
theorem dv_Halves_text {f : Addr} {cdv : Value} {A : Around} {outer : List Env} {s : Shared} {H : Hp} {E : XK} (T : Tx K mg base) (hr : Room 1 (A.deeper (envOfC "Halves.text" (defScope st_Halves_text) s.heap.objs.size f cdv))) : PSs (cxOf CX0 PP w K mg base N_Halves_text "Halves.text" (defScope st_Halves_text) f cdv A outer s H E).nox (defBody st_Halves_text) (rd_Halves_text K) := by
  exact pss_one (ps_ret (pe_join (pe_str) (pe_op op_cat (pe_lst (pa_cons (pe_str) (pa_nil))) (pe_lc (own := [("part", 1)]) (g := gName 1) (tt := tYes) rfl sc_Halves_text.nd (pi_tup (FW.pe_o0 (ok_Halves_parts T) hr (by decide) (pv 0))) (blkOk_by (own := [("part", 1)]) (N := N_Halves_text) (sc := defScope st_Halves_text) (by decide +kernel)) (fun _ _ _ _ _ => pg_name (i := 1) sc_Halves_text.nd rfl (Or.inl rfl)) (fun _ _ _ _ _ => pts_nil) (fun _ _ _ _ _ => FW.pe_either (pe_callTy call_str_int (by rfl) T.n_str (by decide +kernel) (pa_cons (pv 1) (pa_nil))) (pe_callTy FW.call_strS (by rfl) T.n_str (by decide +kernel) (pa_cons (pv 1) (pa_nil))))))))
theorem ok_Halves_text (T : Tx K mg base) : Mt PP w K mg base CX0 2 (He.ga K "Halves") "text" (sp_Halves_text K) [] :=
  Mt.mk0 T.c_Halves T.m_Halves_text T.d_Halves_text sc_Halves_text (fun _ _ _ _ _ _ us hl => match us, hl with | [_], _ => rfl) (by walk_at "ln") (fun cdv A outer s H vs Q E hr h => ⟨rd_Halves_text K, dv_Halves_text T hr, pure_Halves_text K vs H Q E h⟩)
theorem dv_Steps_eq {f : Addr} {cdv : Value} {A : Around} {outer : List Env} {s : Shared} {H : Hp} {E : XK} (T : Tx K mg base) (hr : Room 1 (A.deeper (envOfC "Steps.__eq__" (defScope st_Steps_eq) s.heap.objs.size f cdv))) : PSs (cxOf CX0 PP w K mg base N_Steps_eq "Steps.__eq__" (defScope st_Steps_eq) f cdv A outer s H E).nox (defBody st_Steps_eq) (rd_Steps_eq K) := by
  exact pss_one (ps_ret (pe_and (pe_callB call_isi (by rfl) T.n_isinstance (by decide +kernel) (pa_cons (pv 1) (pa_cons (FW.pe_gref (by rfl) T.g_Steps) (pa_nil)))) (pe_one (pe_cmpR (op_eqD hr.units) (FW.pe_o0 (ok_Steps_parts T) hr (by decide) (pv 0)) (FW.pe_o0 (ok_Steps_parts T) hr (by decide) (pv 1)) (nomark _)))))
theorem ok_Steps_eq (T : Tx K mg base) : Mt PP w K mg base CX0 2 (He.ga K "Steps") "__eq__" (sp_Steps_eq K) [] :=
  Mt.mk0 T.c_Steps T.m_Steps_eq T.d_Steps_eq sc_Steps_eq (fun _ _ _ _ _ _ us hl => match us, hl with | [_, _], _ => rfl) (by walk_at "ln") (fun cdv A outer s H vs Q E hr h => ⟨rd_Steps_eq K, dv_Steps_eq T hr, pure_Steps_eq K T.sp T.in_Steps vs H Q E h⟩)
theorem dv_Steps_text {f : Addr} {cdv : Value} {A : Around} {outer : List Env} {s : Shared} {H : Hp} {E : XK} (T : Tx K mg base) (hr : Room 1 (A.deeper (envOfC "Steps.text" (defScope st_Steps_text) s.heap.objs.size f cdv))) : PSs (cxOf CX0 PP w K mg base N_Steps_text "Steps.text" (defScope st_Steps_text) f cdv A outer s H E).nox (defBody st_Steps_text) (rd_Steps_text K) := by
  exact pss_one (ps_ret (pe_join (pe_str) (pe_op op_cat (pe_lst (pa_cons (pe_str) (pa_nil))) (pe_lc (own := [("part", 1)]) (g := gName 1) (tt := tYes) rfl sc_Steps_text.nd (pi_tup (FW.pe_o0 (ok_Steps_parts T) hr (by decide) (pv 0))) (blkOk_by (own := [("part", 1)]) (N := N_Steps_text) (sc := defScope st_Steps_text) (by decide +kernel)) (fun _ _ _ _ _ => pg_name (i := 1) sc_Steps_text.nd rfl (Or.inl rfl)) (fun _ _ _ _ _ => pts_nil) (fun _ _ _ _ _ => FW.pe_either (pe_callTy call_str_int (by rfl) T.n_str (by decide +kernel) (pa_cons (pv 1) (pa_nil))) (pe_callTy FW.call_strS (by rfl) T.n_str (by decide +kernel) (pa_cons (pv 1) (pa_nil))))))))
theorem ok_Steps_text (T : Tx K mg base) : Mt PP w K mg base CX0 2 (He.ga K "Steps") "text" (sp_Steps_text K) [] :=
  Mt.mk0 T.c_Steps T.m_Steps_text T.d_Steps_text sc_Steps_text (fun _ _ _ _ _ _ us hl => match us, hl with | [_], _ => rfl) (by walk_at "ln") (fun cdv A outer s H vs Q E hr h => ⟨rd_Steps_text K, dv_Steps_text T hr, pure_Steps_text K vs H Q E h⟩)
theorem dv_l_row {f : Addr} {cdv : Value} {A : Around} {outer : List Env} {s : Shared} {H : Hp} {E : XK} (T : Tx K mg base) (hr : Room 1 (A.deeper (envOfC "_law_row" (defScope st_l_row) s.heap.objs.size f cdv))) : PSs (cxOf CX0 PP w K mg base N_l_row "_law_row" (defScope st_l_row) f cdv A outer s H E).nox (defBody st_l_row) (rd_l_row K) := by
  exact pss_cons (ps_set (i := 2) sc_l_row.nd rfl (Or.inl rfl) (pe_ifExp (pt_cmpR op_ge (pe_callB call_abs (by rfl) T.n_abs (by decide +kernel) (pa_cons (pv 0) (pa_nil))) (pe_op FW.opPow (pe_int) (pe_int)) (nomark _)) (pe_callB call_abs (by rfl) T.n_abs (by decide +kernel) (pa_cons (pv 0) (pa_nil))) (pe_int))) (pss_cons (ps_set (i := 3) sc_l_row.nd rfl (Or.inl rfl) (pe_lst (pa_nil))) (pss_cons (ps_for PassesOwn.never rfl (pi_range1 (by rfl) T.n_range (pa_cons (pv 1) (pa_nil))) (pg_name (i := 4) sc_l_row.nd rfl (Or.inl rfl)) (pss_cons (ps_expr (pe_bm PySem.F.plainAttrs_list PySem.F.slot_list_append PySem.F.type_list_append mt_append (pv 3) (pa_cons (pe_op FW.opMod (pe_callTy call_int1 (by rfl) T.n_int (by decide +kernel) (pa_cons (pe_ifExp (pt_cmpR op_gt (pv 2) (pe_int) (nomark _)) (pv 2) (FW.pe_f (ok_l_mixed T) hr (by decide) (by rfl) (pa_cons (pv 0) (pa_cons (pv 4) (pa_nil))))) (pa_nil))) (pe_int)) (pa_nil)))) (pss_one (ps_set (i := 2) sc_l_row.nd rfl (Or.inl rfl) (pe_op FW.opDiv (pv 2) (pe_int)))))) (pss_one (ps_ret (pv 3)))))
theorem ok_l_row (T : Tx K mg base) : Fn PP w K mg base CX0 2 "_law_row" (sp_l_row K) [] :=
  Fn.mk0 T.d_l_row T.g__law_row sc_l_row (fun _ _ _ _ _ _ us hl => match us, hl with | [_, _], _ => rfl) (by walk_at "ln") (fun cdv A outer s H vs Q E hr h => ⟨rd_l_row K, dv_l_row T hr, pure_l_row K vs H Q E h⟩)
theorem dv_l_loop_parts {f : Addr} {cdv : Value} {A : Around} {outer : List Env} {s : Shared} {H : Hp} {E : XK} (T : Tx K mg base) (hr : Room 1 (A.deeper (envOfC "_law_loop_parts" (defScope st_l_loop_parts) s.heap.objs.size f cdv))) : PSs (cxOf CX0 PP w K mg base N_l_loop_parts "_law_loop_parts" (defScope st_l_loop_parts) f cdv A outer s H E).nox (defBody st_l_loop_parts) (rd_l_loop_parts K) := by
  exact pss_cons (ps_set (i := 2) sc_l_loop_parts.nd rfl (Or.inl rfl) (pe_ix ix_list (pe_lst (pa_cons (pe_int) (pa_cons (pe_int) (pa_cons (pe_int) (pa_cons (pe_int) (pa_nil)))))) (pe_op FW.opMod (pe_callTy call_int1 (by rfl) T.n_int (by decide +kernel) (pa_cons (pe_ix ix_list (pv 0) (pv 1) (fun _ _ => rfl)) (pa_nil))) (pe_int)) (fun _ _ => rfl))) (pss_cons (ps_set (i := 3) sc_l_loop_parts.nd rfl (Or.inl rfl) (FW.pe_f (ok_l_weights2 T) hr (by decide) (by rfl) (pa_cons (pv 2) (pa_nil)))) (pss_cons (ps_asg (pe_ix ix_list (pv 3) (pe_op FW.opMod (pe_callTy call_int1 (by rfl) T.n_int (by decide +kernel) (pa_cons (pe_ix ix_list (pv 0) (pe_op FW.opAdd (pv 1) (pe_int)) (fun _ _ => rfl)) (pa_nil))) (pe_callB call_len_seq (by rfl) T.n_len (by decide +kernel) (pa_cons (pv 3) (pa_nil)))) (fun _ _ => rfl)) (pg_tup rfl (pgs_cons (pg_name (i := 4) sc_l_loop_parts.nd rfl (Or.inl rfl)) (pgs_cons (pg_name (i := 5) sc_l_loop_parts.nd rfl (Or.inl rfl)) (pgs_nil))))) (pss_cons (ps_if (pt_cmpR op_eq (pe_op FW.opMod (pe_op FW.opDiv (pe_callTy call_int1 (by rfl) T.n_int (by decide +kernel) (pa_cons (pe_ix ix_list (pv 0) (pe_op FW.opAdd (pv 1) (pe_int)) (fun _ _ => rfl)) (pa_nil))) (pe_int)) (pe_int)) (pe_int) (nomark _)) (pss_one (ps_par (by rfl) sc_l_loop_parts.nd rfl rfl (by decide) rfl rfl (pa_cons (pe_op FW.opSub (pv 2) (pe_int)) (pa_cons (pe_int) (pa_nil))) (by rfl))) (pss_nil)) (pss_cons (ps_set (i := 6) sc_l_loop_parts.nd rfl (Or.inl rfl) (pe_op FW.opSub (pe_op FW.opMod (pe_callTy call_int1 (by rfl) T.n_int (by decide +kernel) (pa_cons (pe_ix ix_list (pv 0) (pe_op FW.opAdd (pv 1) (pe_int)) (fun _ _ => rfl)) (pa_nil))) (pe_op FW.opAdd (pe_op FW.opAdd (pe_op FW.opMul (pe_int) (pv 4)) (pv 5)) (pe_int))) (pv 4))) (pss_cons (ps_if (pt_cmpR op_eq (pe_op FW.opMod (pe_op FW.opDiv (pe_callTy call_int1 (by rfl) T.n_int (by decide +kernel) (pa_cons (pe_ix ix_list (pv 0) (pe_op FW.opAdd (pv 1) (pe_int)) (fun _ _ => rfl)) (pa_nil))) (pe_int)) (pe_int)) (pe_int) (nomark _)) (pss_one (ps_set (i := 6) sc_l_loop_parts.nd rfl (Or.inl rfl) (pe_int))) (pss_nil)) (pss_cons (ps_set (i := 7) sc_l_loop_parts.nd rfl (Or.inl rfl) (pe_ix ix_list (pe_lst (pa_cons (pe_str) (pa_cons (pe_str) (pa_cons (pe_str) (pa_cons (pe_str) (pa_cons (pe_str) (pa_cons (pe_str) (pa_cons (pe_str) (pa_nil))))))))) (pe_op FW.opMod (pe_callTy call_int1 (by rfl) T.n_int (by decide +kernel) (pa_cons (pe_ix ix_list (pv 0) (pe_op FW.opAdd (pv 1) (pe_int)) (fun _ _ => rfl)) (pa_nil))) (pe_int)) (fun _ _ => rfl))) (pss_cons (ps_set (i := 8) sc_l_loop_parts.nd rfl (Or.inl rfl) (pe_ix ix_list (pe_lst (pa_cons (pe_str) (pa_cons (pe_str) (pa_cons (pe_str) (pa_cons (pe_str) (pa_nil)))))) (pe_op FW.opMod (pe_callTy call_int1 (by rfl) T.n_int (by decide +kernel) (pa_cons (pe_ix ix_list (pv 0) (pe_op FW.opAdd (pv 1) (pe_int)) (fun _ _ => rfl)) (pa_nil))) (pe_int)) (fun _ _ => rfl))) (pss_cons (ps_if (pt_cmpR op_in_seq (pv 7) (pe_lst (pa_cons (pe_str) (pa_cons (pe_str) (pa_nil)))) (by rfl)) (pss_one (ps_set (i := 8) sc_l_loop_parts.nd rfl (Or.inl rfl) (pe_str))) (pss_nil)) (pss_one (ps_ret (pe_lst (pa_cons (pv 2) (pa_cons (pv 4) (pa_cons (pv 5) (pa_cons (pv 6) (pa_cons (pv 7) (pa_cons (pv 8) (pa_cons (pe_ix ix_list (pe_lst (pa_cons (pe_str) (pa_cons (pe_str) (pa_cons (pe_str) (pa_cons (pe_str) (pa_nil)))))) (pe_op FW.opMod (pe_callTy call_int1 (by rfl) T.n_int (by decide +kernel) (pa_cons (pe_ix ix_list (pv 0) (pe_op FW.opAdd (pv 1) (pe_int)) (fun _ _ => rfl)) (pa_nil))) (pe_int)) (fun _ _ => rfl)) (pa_nil)))))))))))))))))))
theorem ok_l_loop_parts (T : Tx K mg base) : Fn PP w K mg base CX0 2 "_law_loop_parts" (sp_l_loop_parts K) [] :=
  Fn.mk0 T.d_l_loop_parts T.g__law_loop_parts sc_l_loop_parts (fun _ _ _ _ _ _ us hl => match us, hl with | [_, _], _ => rfl) (by walk_at "ln") (fun cdv A outer s H vs Q E hr h => ⟨rd_l_loop_parts K, dv_l_loop_parts T hr, pure_l_loop_parts K vs H Q E h⟩)
theorem dv_l_is_text {f : Addr} {cdv : Value} {A : Around} {outer : List Env} {s : Shared} {H : Hp} {E : XK} (T : Tx K mg base) (hr : Room 1 (A.deeper (envOfC "_law_is_text" (defScope st_l_is_text) s.heap.objs.size f cdv))) : PSs (cxOf CX0 PP w K mg base N_l_is_text "_law_is_text" (defScope st_l_is_text) f cdv A outer s H E).nox (defBody st_l_is_text) (rd_l_is_text K) := by
  exact pss_cons (ps_set (i := 1) sc_l_is_text.nd rfl (Or.inl rfl) (FW.pe_splitS (pv 0) (pe_str))) (pss_cons (ps_if (pt_cmpR op_eq (pe_ix ix_list (pv 1) (pe_int) (fun _ _ => rfl)) (pe_str) (nomark _)) (pss_one (ps_ret (pe_and (pe_cmpR op_eq (pe_callB call_len_seq (by rfl) T.n_len (by decide +kernel) (pa_cons (pv 1) (pa_nil))) (pe_int) (nomark _)) (pe_one (FW.pe_f (ok_l_is_average T) hr (by decide) (by rfl) (pa_cons (pe_slice sl_list (pv 1) (po_some (pe_int)) (po_none)) (pa_nil))))))) (pss_nil)) (pss_cons (ps_set (i := 2) sc_l_is_text.nd rfl (Or.inl rfl) (pe_disp (pps_cons (pe_str) (pe_lst (pa_cons (pe_lst (pa_cons (pe_str) (pa_cons (pe_str) (pa_nil)))) (pa_cons (pe_lst (pa_cons (pe_str) (pa_cons (pe_str) (pa_nil)))) (pa_cons (pe_lst (pa_cons (pe_str) (pa_cons (pe_str) (pa_nil)))) (pa_cons (pe_lst (pa_cons (pe_str) (pa_cons (pe_str) (pa_nil)))) (pa_nil)))))) (pps_nil)) rfl rfl (fun z => nomatch z) (by decide))) (pss_cons (ps_expr (pe_bm PySem.F.plainAttrs_list PySem.F.slot_list_append PySem.F.type_list_append mt_append (pe_dget (FW.u1 hr) (pv 2) (pe_str) (fun _ _ => rfl)) (pa_cons (pe_lst (pa_cons (pe_str) (pa_cons (pe_str) (pa_cons (pe_str) (pa_nil))))) (pa_nil)))) (pss_cons (ps_expr (pe_bm PySem.F.plainAttrs_list PySem.F.slot_list_extend PySem.F.type_list_extend mt_extend (pe_dget (FW.u1 hr) (pv 2) (pe_str) (fun _ _ => rfl)) (pa_cons (pe_lst (pa_cons (pe_lst (pa_cons (pe_str) (pa_cons (pe_str) (pa_nil)))) (pa_cons (pe_lst (pa_cons (pe_str) (pa_cons (pe_str) (pa_cons (pe_str) (pa_nil))))) (pa_nil)))) (pa_nil)))) (pss_cons (ps_dput (FW.u1 hr) (pv 2) (pe_str) (pe_lst (pa_cons (pe_lst (pa_cons (pe_str) (pa_cons (pe_str) (pa_nil)))) (pa_cons (pe_lst (pa_cons (pe_str) (pa_cons (pe_str) (pa_cons (pe_str) (pa_nil))))) (pa_cons (pe_lst (pa_cons (pe_str) (pa_cons (pe_str) (pa_nil)))) (pa_nil))))) (by rfl)) (pss_cons (ps_expr (pe_bm PySem.F.plainAttrs_list PySem.F.slot_list_append PySem.F.type_list_append mt_append (pe_dget (FW.u1 hr) (pv 2) (pe_str) (fun _ _ => rfl)) (pa_cons (pe_lst (pa_cons (pe_str) (pa_cons (pe_str) (pa_cons (pe_str) (pa_nil))))) (pa_nil)))) (pss_cons (ps_if (PW.pt (pw_or (pt_cmp (pc_dnotin (FW.u1 hr) (pe_ix ix_list (pv 1) (pe_int) (fun _ _ => rfl)) (pv 2))) (pw_or1 (pt_cmpR op_ne (pe_callB call_len_seq (by rfl) T.n_len (by decide +kernel) (pa_cons (pv 1) (pa_nil))) (pe_op FW.opAdd (pe_callB call_len_seq (by rfl) T.n_len (by decide +kernel) (pa_cons (pe_dget (FW.u1 hr) (pv 2) (pe_ix ix_list (pv 1) (pe_int) (fun _ _ => rfl)) (fun _ _ => rfl)) (pa_nil))) (pe_int)) (nomark _))))) (pss_one (ps_ret (pe_bl))) (pss_nil)) (pss_cons (ps_set (i := 3) sc_l_is_text.nd rfl (Or.inl rfl) (FW.pe_listZip rfl (by rfl) T.n_list (by decide +kernel) (by rfl) T.n_zip (pa_cons (pe_slice sl_list (pv 1) (po_some (pe_int)) (po_none)) (pa_cons (pe_dget (FW.u1 hr) (pv 2) (pe_ix ix_list (pv 1) (pe_int) (fun _ _ => rfl)) (fun _ _ => rfl)) (pa_nil))))) (pss_one (ps_ret (pe_callB (cr_all rfl) (by rfl) T.n_all (by decide +kernel) (pa_cons (pe_lc (own := [("_law_one", 4), ("_law_good", 5)]) (g := gTup K 2 (gCons (gName 4) (gCons (gName 5) (gNil)))) (tt := tYes) rfl sc_l_is_text.nd (pi_list (pv 3)) (blkOk_by (own := [("_law_one", 4), ("_law_good", 5)]) (N := N_l_is_text) (sc := defScope st_l_is_text) (by decide +kernel)) (fun _ _ _ _ _ => pg_tup rfl (pgs_cons (pg_name (i := 4) sc_l_is_text.nd rfl (Or.inl rfl)) (pgs_cons (pg_name (i := 5) sc_l_is_text.nd rfl (Or.inl rfl)) (pgs_nil)))) (fun _ _ _ _ _ => pts_nil) (fun _ _ _ _ _ => pe_cmpR op_in_seq (pv 4) (pv 5) (by rfl))) (pa_nil)))))))))))))
theorem ok_l_is_text (T : Tx K mg base) : Fn PP w K mg base CX0 2 "_law_is_text" (sp_l_is_text K) [] :=
  Fn.mk0 T.d_l_is_text T.g__law_is_text sc_l_is_text (fun _ _ _ _ _ _ us hl => match us, hl with | [_], _ => rfl) (by walk_at "ln") (fun cdv A outer s H vs Q E hr h => ⟨rd_l_is_text K, dv_l_is_text T hr, pure_l_is_text K vs H Q E h⟩)
theorem dv_wrong_part {f : Addr} {cdv : Value} {A : Around} {outer : List Env} {s : Shared} {H : Hp} {E : XK} (T : Tx K mg base) (hr : Room 2 (A.deeper (envOfC "wrong_part" (defScope st_wrong_part) s.heap.objs.size f cdv))) : PSs (cxOf CX0 PP w K mg base N_wrong_part "wrong_part" (defScope st_wrong_part) f cdv A outer s H E).nox (defBody st_wrong_part) (rd_wrong_part K) := by
  exact pss_cons (ps_if (PW.pt (pw_or (pt_not (pt_val (FW.pe_f (ok_is_whole T) hr (by decide) (by rfl) (pa_cons (pv 0) (pa_nil))))) (pw_or1 (pt_cmpR op_notIn_seq (pv 0) (pe_tup (pa_cons (pe_int) (pa_cons (pe_int) (pa_cons (pe_int) (pa_nil))))) (by rfl))))) (pss_one (ps_ret (pe_str))) (pss_nil)) (pss_cons (ps_if (PW.pt (pw_or (pt_not (pt_val (FW.pe_f (ok_is_whole T) hr (by decide) (by rfl) (pa_cons (pv 1) (pa_nil))))) (pw_or1 (pt_not (pt_chain op_le op_le (pe_int) (pv 1) (pe_int)))))) (pss_one (ps_ret (pe_str))) (pss_nil)) (pss_cons (ps_if (PW.pt (pw_or (pt_not (pt_val (FW.pe_f (ok_is_whole_from T) hr (by decide) (by rfl) (pa_cons (pv 2) (pa_cons (pe_int) (pa_nil)))))) (pw_or (pt_cmpR op_lt (pv 1) (pe_op FW.opMul (pv 2) (pe_op FW.opSub (pv 0) (pe_int))) (nomark _)) (pw_or1 (pt_cmpR op_gt (pe_op FW.opAdd (pv 1) (pv 2)) (pe_int) (nomark _)))))) (pss_one (ps_ret (pe_str))) (pss_nil)) (pss_cons (ps_if (PW.pt (pw_or (pt_not (pt_val (FW.pe_f (ok_is_whole T) hr (by decide) (by rfl) (pa_cons (pv 3) (pa_nil))))) (pw_or1 (pt_not (pt_chain op_le op_le (pe_un un_neg (pv 1)) (pv 3) (pe_op FW.opAdd (pv 1) (pv 2))))))) (pss_one (ps_ret (pe_str))) (pss_nil)) (pss_cons (ps_if (pt_not (pt_val (FW.pe_f (ok_is_word_of T) hr (by decide) (by rfl) (pa_cons (pv 4) (pa_cons (FW.pe_gref (by rfl) T.g_STOPS_averages) (pa_nil)))))) (pss_one (ps_ret (pe_str))) (pss_nil)) (pss_cons (ps_if (PW.pt (pw_or (pt_not (pt_val (FW.pe_f (ok_is_word_of T) hr (by decide) (by rfl) (pa_cons (pv 5) (pa_cons (FW.pe_gref (by rfl) T.g_TOLDS) (pa_nil)))))) (pw_or1 (PW.pt (pw_and (pt_cmpR op_in_seq (pv 4) (FW.pe_gref (by rfl) T.g_LOOKS) (by rfl)) (pw_and1 (pt_cmpR op_ne (pv 5) (pe_str) (nomark _)))))))) (pss_one (ps_ret (pe_str))) (pss_nil)) (pss_one (ps_ret (pe_ifExp (pt_val (FW.pe_f (ok_is_word_of T) hr (by decide) (by rfl) (pa_cons (pv 6) (pa_cons (FW.pe_gref (by rfl) T.g_MENDS) (pa_nil))))) (pe_non) (pe_str)))))))))
theorem ok_wrong_part (T : Tx K mg base) : Fn PP w K mg base CX0 3 "wrong_part" (sp_wrong_part K) [] :=
  Fn.mk0 T.d_wrong_part T.g_wrong_part sc_wrong_part (fun _ _ _ _ _ _ us hl => match us, hl with | [_, _, _, _, _, _, _], _ => rfl) (by walk_at "ln") (fun cdv A outer s H vs Q E hr h => ⟨rd_wrong_part K, dv_wrong_part T hr, pure_wrong_part K T.av vs H Q E h⟩)
theorem dv_check_halvesX {f : Addr} {cdv : Value} {A : Around} {outer : List Env} {s : Shared} {H : Hp} {E : XK} (T : Tx K mg base) (hr : Room 2 (A.deeper (envOfC "check_halves" (defScope st_check_halves) s.heap.objs.size f cdv))) : PSs (cxOf (FWN.CXP PP w) PP w K mg base N_check_halves "check_halves" (defScope st_check_halves) f cdv A outer s H E) (defBody st_check_halves) (rd_check_halvesX K E) := by
  exact pss_cons (ps_set (i := 7) sc_check_halves.nd rfl (Or.inl rfl) (pe_lst (pa_cons (pe_tup (pa_cons (pe_str) (pa_cons (FW.pe_f (ok_is_number_ofU T) hr (by decide) (by rfl) (pa_cons (pv 0) (pa_cons (pe_tup (pa_cons (pe_int) (pa_cons (pe_int) (pa_nil)))) (pa_nil)))) (pa_nil)))) (pa_cons (pe_tup (pa_cons (pe_str) (pa_cons (FW.pe_f (ok_is_word_of T) hr (by decide) (by rfl) (pa_cons (pv 1) (pa_cons (FW.pe_gref (by rfl) T.g_TESTS) (pa_nil)))) (pa_nil)))) (pa_cons (pe_tup (pa_cons (pe_str) (pa_cons (FW.pe_f (ok_is_number_ofU T) hr (by decide) (by rfl) (pa_cons (pv 2) (pa_cons (pe_tup (pa_cons (pe_int) (pa_cons (pe_int) (pa_nil)))) (pa_nil)))) (pa_nil)))) (pa_cons (pe_tup (pa_cons (pe_str) (pa_cons (FW.pe_f (ok_is_number_ofU T) hr (by decide) (by rfl) (pa_cons (pv 3) (pa_cons (pe_tup (pa_cons (pe_int) (pa_cons (pe_int) (pa_nil)))) (pa_nil)))) (pa_nil)))) (pa_cons (pe_tup (pa_cons (pe_str) (pa_cons (FW.pe_f (ok_is_word_of T) hr (by decide) (by rfl) (pa_cons (pv 4) (pa_cons (FW.pe_gref (by rfl) T.g_STOPS_halves) (pa_nil)))) (pa_nil)))) (pa_cons (pe_tup (pa_cons (pe_str) (pa_cons (FW.pe_f (ok_is_word_of T) hr (by decide) (by rfl) (pa_cons (pv 5) (pa_cons (pe_tup (pa_cons (pe_str) (pa_cons (pe_str) (pa_nil)))) (pa_nil)))) (pa_nil)))) (pa_cons (pe_tup (pa_cons (pe_str) (pa_cons (FW.pe_f (ok_is_number_ofU T) hr (by decide) (by rfl) (pa_cons (pv 6) (pa_cons (pe_tup (pa_cons (pe_un un_neg (pe_int)) (pa_cons (pe_int) (pa_cons (pe_int) (pa_nil))))) (pa_nil)))) (pa_nil)))) (pa_nil)))))))))) (pss_one (ps_for (passes_of rfl) rfl (pi_list (pv 7)) (pg_tup rfl (pgs_cons (pg_name (i := 8) sc_check_halves.nd rfl (Or.inl rfl)) (pgs_cons (pg_name (i := 9) sc_check_halves.nd rfl (Or.inl rfl)) (pgs_nil)))) (pss_one (ps_if (pt_not (pt_val (pv 9))) (pss_one (FWN.ps_raiseE rfl T.e_BadLoop (Or.inr (Or.inl rfl)) T.g_BadLoop hr (L2N.takes_of rfl rfl rfl rfl) (pa_cons (pv 8) (pa_nil)) (by rfl))) (pss_nil)))))
theorem ok_check_halvesX (T : Tx K mg base) : Fn PP w K mg base (FWN.CXP PP w) 3 "check_halves" (sp_check_halvesX K) [] :=
  FWN.Fn.mkX T.d_check_halves T.g_check_halves sc_check_halves (fun _ _ _ _ _ _ us hl => match us, hl with | [_, _, _, _, _, _, _], _ => rfl) (by walk_at "ln") (fun cdv A outer s H vs Q E hr h => ⟨rd_check_halvesX K E, dv_check_halvesX T hr, pure_check_halvesX K T.hv vs H Q E h⟩)
theorem dv_check_stepsX {f : Addr} {cdv : Value} {A : Around} {outer : List Env} {s : Shared} {H : Hp} {E : XK} (T : Tx K mg base) (hr : Room 2 (A.deeper (envOfC "check_steps" (defScope st_check_steps) s.heap.objs.size f cdv))) : PSs (cxOf (FWN.CXP PP w) PP w K mg base N_check_steps "check_steps" (defScope st_check_steps) f cdv A outer s H E) (defBody st_check_steps) (rd_check_stepsX K E) := by
  exact pss_cons (ps_set (i := 4) sc_check_steps.nd rfl (Or.inl rfl) (pe_lst (pa_cons (pe_tup (pa_cons (pe_str) (pa_cons (FW.pe_f (ok_is_word_of T) hr (by decide) (by rfl) (pa_cons (pv 0) (pa_cons (FW.pe_gref (by rfl) T.g_TESTS) (pa_nil)))) (pa_nil)))) (pa_cons (pe_tup (pa_cons (pe_str) (pa_cons (FW.pe_f (ok_is_word_of T) hr (by decide) (by rfl) (pa_cons (pv 1) (pa_cons (pe_tup (pa_cons (pe_str) (pa_cons (pe_str) (pa_cons (pe_str) (pa_nil))))) (pa_nil)))) (pa_nil)))) (pa_cons (pe_tup (pa_cons (pe_str) (pa_cons (FW.pe_f (ok_is_number_ofU T) hr (by decide) (by rfl) (pa_cons (pv 2) (pa_cons (pe_tup (pa_cons (pe_int) (pa_cons (pe_int) (pa_nil)))) (pa_nil)))) (pa_nil)))) (pa_cons (pe_tup (pa_cons (pe_str) (pa_cons (FW.pe_f (ok_is_number_ofU T) hr (by decide) (by rfl) (pa_cons (pv 3) (pa_cons (pe_tup (pa_cons (pe_un un_neg (pe_int)) (pa_cons (pe_int) (pa_cons (pe_int) (pa_nil))))) (pa_nil)))) (pa_nil)))) (pa_nil))))))) (pss_one (ps_for (passes_of rfl) rfl (pi_list (pv 4)) (pg_tup rfl (pgs_cons (pg_name (i := 5) sc_check_steps.nd rfl (Or.inl rfl)) (pgs_cons (pg_name (i := 6) sc_check_steps.nd rfl (Or.inl rfl)) (pgs_nil)))) (pss_one (ps_if (pt_not (pt_val (pv 6))) (pss_one (FWN.ps_raiseE rfl T.e_BadLoop (Or.inr (Or.inl rfl)) T.g_BadLoop hr (L2N.takes_of rfl rfl rfl rfl) (pa_cons (pv 5) (pa_nil)) (by rfl))) (pss_nil)))))
theorem ok_check_stepsX (T : Tx K mg base) : Fn PP w K mg base (FWN.CXP PP w) 3 "check_steps" (sp_check_stepsX K) [] :=
  FWN.Fn.mkX T.d_check_steps T.g_check_steps sc_check_steps (fun _ _ _ _ _ _ us hl => match us, hl with | [_, _, _, _], _ => rfl) (by walk_at "ln") (fun cdv A outer s H vs Q E hr h => ⟨rd_check_stepsX K E, dv_check_stepsX T hr, pure_check_stepsX K T.sp vs H Q E h⟩)
theorem dv_Average_initX {f : Addr} {cdv : Value} {A : Around} {outer : List Env} {s : Shared} {H : Hp} {E : XK} (T : Tx K mg base) (hr : Room 3 (A.deeper (envOfC "Average.__init__" (defScope st_Average_init) s.heap.objs.size f cdv))) : PSs (cxOf (FWN.CXP PP w) PP w K mg base N_Average_init "Average.__init__" (defScope st_Average_init) f cdv A outer s H E) (defBody st_Average_init) (rd_Average_initX K E) := by
  exact pss_cons (ps_set (i := 8) sc_Average_init.nd rfl (Or.inl rfl) (FW.pe_f (ok_wrong_part T) hr (by decide) (by rfl) (pa_cons (pv 1) (pa_cons (pv 2) (pa_cons (pv 3) (pa_cons (pv 4) (pa_cons (pv 5) (pa_cons (pv 6) (pa_cons (pv 7) (pa_nil)))))))))) (pss_cons (ps_if (pt_cmpR op_notN (pv 8) (pe_non) (nomark _)) (pss_one (FWN.ps_raiseE rfl T.e_BadLoop (Or.inr (Or.inl rfl)) T.g_BadLoop hr (L2N.takes_of rfl rfl rfl rfl) (pa_cons (pv 8) (pa_nil)) (by rfl))) (pss_nil)) (pss_cons (ps_fld (pv 0) (pv 1) rfl) (pss_cons (ps_fld (pv 0) (pv 2) rfl) (pss_cons (ps_fld (pv 0) (pv 3) rfl) (pss_cons (ps_fld (pv 0) (pv 4) rfl) (pss_cons (ps_fld (pv 0) (pv 5) rfl) (pss_cons (ps_fld (pv 0) (pv 6) rfl) (pss_one (ps_fld (pv 0) (pv 7) rfl)))))))))
theorem ok_Average_initX (T : Tx K mg base) : Mkr PP w K mg base (FWN.CXP PP w) 4 "Average" (He.ga K "Average") (sp_Average_initX K) [] :=
  FWN.Mkr.mkX 8 2 T.k_Average T.g_Average T.d_Average_init sc_Average_init (by simp) rfl (fun _ _ _ _ _ _ _ us its hl hi => match us, its, hl, hi with | [_, _, _, _, _, _, _, _], [_, _], _, _ => ⟨_, rfl, rfl⟩) (by walk_at "ln") (fun cdv A outer s H vs Q E hr h => ⟨rd_Average_initX K E, dv_Average_initX T hr, pure_Average_initX K T.av vs H Q E h⟩)
theorem dv_Halves_initX {f : Addr} {cdv : Value} {A : Around} {outer : List Env} {s : Shared} {H : Hp} {E : XK} (T : Tx K mg base) (hr : Room 3 (A.deeper (envOfC "Halves.__init__" (defScope st_Halves_init) s.heap.objs.size f cdv))) : PSs (cxOf (FWN.CXP PP w) PP w K mg base N_Halves_init "Halves.__init__" (defScope st_Halves_init) f cdv A outer s H E) (defBody st_Halves_init) (rd_Halves_initX K E) := by
  exact pss_cons (ps_expr (FWN.pe_fX (L2N.takes_of rfl rfl rfl rfl) (ok_check_halvesX T) hr (by decide) (by rfl) (pa_cons (pv 1) (pa_cons (pv 2) (pa_cons (pv 3) (pa_cons (pv 4) (pa_cons (pv 5) (pa_cons (pv 6) (pa_cons (pv 7) (pa_nil)))))))))) (pss_cons (ps_fld (pv 0) (pv 1) rfl) (pss_cons (ps_fld (pv 0) (pv 2) rfl) (pss_cons (ps_fld (pv 0) (pv 3) rfl) (pss_cons (ps_fld (pv 0) (pv 4) rfl) (pss_cons (ps_fld (pv 0) (pv 5) rfl) (pss_cons (ps_fld (pv 0) (pv 6) rfl) (pss_one (ps_fld (pv 0) (pv 7) rfl))))))))
theorem ok_Halves_initX (T : Tx K mg base) : Mkr PP w K mg base (FWN.CXP PP w) 4 "Halves" (He.ga K "Halves") (sp_Halves_initX K) [] :=
  FWN.Mkr.mkX0 T.k_Halves T.g_Halves T.d_Halves_init sc_Halves_init (fun _ _ _ _ _ _ us hl => match us, hl with | [_, _, _, _, _, _, _, _], _ => rfl) (fun vs H Q E h => by obtain ⟨x1, x2, x3, x4, x5, h⟩ := h; rw [x4, List.length_cons, x5]; rfl) (fun cdv A outer s H vs Q E hr h => ⟨rd_Halves_initX K E, dv_Halves_initX T hr, pure_Halves_initX K T.hv vs H Q E h⟩)
theorem dv_Steps_initX {f : Addr} {cdv : Value} {A : Around} {outer : List Env} {s : Shared} {H : Hp} {E : XK} (T : Tx K mg base) (hr : Room 3 (A.deeper (envOfC "Steps.__init__" (defScope st_Steps_init) s.heap.objs.size f cdv))) : PSs (cxOf (FWN.CXP PP w) PP w K mg base N_Steps_init "Steps.__init__" (defScope st_Steps_init) f cdv A outer s H E) (defBody st_Steps_init) (rd_Steps_initX K E) := by
  exact pss_cons (ps_expr (FWN.pe_fX (L2N.takes_of rfl rfl rfl rfl) (ok_check_stepsX T) hr (by decide) (by rfl) (pa_cons (pv 1) (pa_cons (pv 2) (pa_cons (pv 3) (pa_cons (pv 4) (pa_nil))))))) (pss_cons (ps_fld (pv 0) (pv 1) rfl) (pss_cons (ps_fld (pv 0) (pv 2) rfl) (pss_cons (ps_fld (pv 0) (pv 3) rfl) (pss_one (ps_fld (pv 0) (pv 4) rfl)))))
theorem ok_Steps_initX (T : Tx K mg base) : Mkr PP w K mg base (FWN.CXP PP w) 4 "Steps" (He.ga K "Steps") (sp_Steps_initX K) [] :=
  FWN.Mkr.mkX0 T.k_Steps T.g_Steps T.d_Steps_init sc_Steps_init (fun _ _ _ _ _ _ us hl => match us, hl with | [_, _, _, _, _], _ => rfl) (fun vs H Q E h => by obtain ⟨x1, x2, x3, x4, x5, h⟩ := h; rw [x4, List.length_cons, x5]; rfl) (fun cdv A outer s H vs Q E hr h => ⟨rd_Steps_initX K E, dv_Steps_initX T hr, pure_Steps_initX K T.sp vs H Q E h⟩)
theorem dv_made_loopX {f : Addr} {cdv : Value} {A : Around} {outer : List Env} {s : Shared} {H : Hp} {E : XK} (T : Tx K mg base) (hr : Room 5 (A.deeper (envOfC "made_loop" (defScope st_made_loop) s.heap.objs.size f cdv))) : PSs (cxOf (FWN.CXP PP w) PP w K mg base N_made_loop "made_loop" (defScope st_made_loop) f cdv A outer s H E) (defBody st_made_loop) (rd_made_loopX K E) := by
  exact pss_cons (ps_if (PW.pt (pw_and (pt_cmpR op_eq (pv 0) (pe_str) (nomark _)) (pw_and1 (pt_cmpR op_eq (pe_callB call_len_seq (by rfl) T.n_len (by decide +kernel) (pa_cons (pv 1) (pa_nil))) (pe_int) (nomark _))))) (pss_cons (ps_asg (pv 1) (pg_lst rfl (pgs_cons (pg_name (i := 2) sc_made_loop.nd rfl (Or.inl rfl)) (pgs_cons (pg_name (i := 3) sc_made_loop.nd rfl (Or.inl rfl)) (pgs_cons (pg_name (i := 4) sc_made_loop.nd rfl (Or.inl rfl)) (pgs_cons (pg_name (i := 5) sc_made_loop.nd rfl (Or.inl rfl)) (pgs_cons (pg_name (i := 6) sc_made_loop.nd rfl (Or.inl rfl)) (pgs_cons (pg_name (i := 7) sc_made_loop.nd rfl (Or.inl rfl)) (pgs_cons (pg_name (i := 8) sc_made_loop.nd rfl (Or.inl rfl)) (pgs_nil)))))))))) (pss_one (ps_ret (FWN.pe_mX (L2N.takes_of rfl rfl rfl rfl) (ok_Average_initX T) hr (by decide) (by rfl) (pa_cons (pv 2) (pa_cons (pv 3) (pa_cons (pv 4) (pa_cons (pv 5) (pa_cons (pv 6) (pa_cons (pv 7) (pa_cons (pv 8) (pa_nil)))))))))))) (pss_nil)) (pss_cons (ps_if (PW.pt (pw_and (pt_cmpR op_eq (pv 0) (pe_str) (nomark _)) (pw_and1 (pt_cmpR op_eq (pe_callB call_len_seq (by rfl) T.n_len (by decide +kernel) (pa_cons (pv 1) (pa_nil))) (pe_int) (nomark _))))) (pss_cons (ps_asg (pv 1) (pg_lst rfl (pgs_cons (pg_name (i := 9) sc_made_loop.nd rfl (Or.inl rfl)) (pgs_cons (pg_name (i := 10) sc_made_loop.nd rfl (Or.inl rfl)) (pgs_cons (pg_name (i := 11) sc_made_loop.nd rfl (Or.inl rfl)) (pgs_cons (pg_name (i := 12) sc_made_loop.nd rfl (Or.inl rfl)) (pgs_cons (pg_name (i := 6) sc_made_loop.nd rfl (Or.inl rfl)) (pgs_cons (pg_name (i := 7) sc_made_loop.nd rfl (Or.inl rfl)) (pgs_cons (pg_name (i := 13) sc_made_loop.nd rfl (Or.inl rfl)) (pgs_nil)))))))))) (pss_one (ps_ret (FWN.pe_mX (L2N.takes_of rfl rfl rfl rfl) (ok_Halves_initX T) hr (by decide) (by rfl) (pa_cons (pv 9) (pa_cons (pv 10) (pa_cons (pv 11) (pa_cons (pv 12) (pa_cons (pv 6) (pa_cons (pv 7) (pa_cons (pv 13) (pa_nil)))))))))))) (pss_nil)) (pss_cons (ps_if (PW.pt (pw_and (pt_cmpR op_eq (pv 0) (pe_str) (nomark _)) (pw_and1 (pt_cmpR op_eq (pe_callB call_len_seq (by rfl) T.n_len (by decide +kernel) (pa_cons (pv 1) (pa_nil))) (pe_int) (nomark _))))) (pss_cons (ps_asg (pv 1) (pg_lst rfl (pgs_cons (pg_name (i := 10) sc_made_loop.nd rfl (Or.inl rfl)) (pgs_cons (pg_name (i := 14) sc_made_loop.nd rfl (Or.inl rfl)) (pgs_cons (pg_name (i := 15) sc_made_loop.nd rfl (Or.inl rfl)) (pgs_cons (pg_name (i := 13) sc_made_loop.nd rfl (Or.inl rfl)) (pgs_nil))))))) (pss_one (ps_ret (FWN.pe_mX (L2N.takes_of rfl rfl rfl rfl) (ok_Steps_initX T) hr (by decide) (by rfl) (pa_cons (pv 10) (pa_cons (pv 14) (pa_cons (pv 15) (pa_cons (pv 13) (pa_nil))))))))) (pss_nil)) (pss_one (ps_ret (pe_non)))))
theorem ok_made_loopX (T : Tx K mg base) : Fn PP w K mg base (FWN.CXP PP w) 6 "made_loop" (sp_made_loopX K) [] :=
  FWN.Fn.mkX T.d_made_loop T.g_made_loop sc_made_loop (fun _ _ _ _ _ _ us hl => match us, hl with | [_, _], _ => rfl) (by walk_at "ln") (fun cdv A outer s H vs Q E hr h => ⟨rd_made_loopX K E, dv_made_loopX T hr, pure_made_loopX K vs H Q E h⟩)
theorem dv_l_halvesT {f : Addr} {cdv : Value} {A : Around} {outer : List Env} {s : Shared} {H : Hp} {E : XK} (T : Tx K mg base) (hr : Room 5 (A.deeper (envOfC "_law_halves" (defScope st_l_halvesT) s.heap.objs.size f cdv))) : PSs (cxOf CX0 PP w K mg base N_l_halvesT "_law_halves" (defScope st_l_halvesT) f cdv A outer s H E).nox (defBody st_l_halvesT) (rd_l_halvesT K) := by
  exact pss_one (ps_ret (FWN.pe_mN (ok_Halves_initX T) hr (by decide) (by rfl) (pa_cons (pe_ix ix_list (pv 0) (pe_int) (fun _ _ => rfl)) (pa_cons (pe_ix ix_list (pv 0) (pe_int) (fun _ _ => rfl)) (pa_cons (pe_ix ix_list (pv 0) (pe_int) (fun _ _ => rfl)) (pa_cons (pe_ix ix_list (pv 0) (pe_int) (fun _ _ => rfl)) (pa_cons (pe_ix ix_list (pv 0) (pe_int) (fun _ _ => rfl)) (pa_cons (pe_ix ix_list (pv 0) (pe_int) (fun _ _ => rfl)) (pa_cons (pe_ix ix_list (pv 0) (pe_int) (fun _ _ => rfl)) (pa_nil))))))))))
theorem ok_l_halvesT (T : Tx K mg base) : Fn PP w K mg base CX0 6 "_law_halves" (sp_l_halvesT K) [] :=
  Fn.mk0 T.d_l_halvesT T.g__law_halves sc_l_halvesT (fun _ _ _ _ _ _ us hl => match us, hl with | [_], _ => rfl) (by walk_at "ln") (fun cdv A outer s H vs Q E hr h => ⟨rd_l_halvesT K, dv_l_halvesT T hr, pure_l_halvesT K vs H Q E h⟩)
theorem dv_l_stepsT {f : Addr} {cdv : Value} {A : Around} {outer : List Env} {s : Shared} {H : Hp} {E : XK} (T : Tx K mg base) (hr : Room 5 (A.deeper (envOfC "_law_steps" (defScope st_l_stepsT) s.heap.objs.size f cdv))) : PSs (cxOf CX0 PP w K mg base N_l_stepsT "_law_steps" (defScope st_l_stepsT) f cdv A outer s H E).nox (defBody st_l_stepsT) (rd_l_stepsT K) := by
  exact pss_one (ps_ret (FWN.pe_mN (ok_Steps_initX T) hr (by decide) (by rfl) (pa_cons (pe_ix ix_list (pv 0) (pe_int) (fun _ _ => rfl)) (pa_cons (pe_ix ix_list (pv 0) (pe_int) (fun _ _ => rfl)) (pa_cons (pe_ix ix_list (pv 0) (pe_int) (fun _ _ => rfl)) (pa_cons (pe_ix ix_list (pv 0) (pe_int) (fun _ _ => rfl)) (pa_nil)))))))
theorem ok_l_stepsT (T : Tx K mg base) : Fn PP w K mg base CX0 6 "_law_steps" (sp_l_stepsT K) [] :=
  Fn.mk0 T.d_l_stepsT T.g__law_steps sc_l_stepsT (fun _ _ _ _ _ _ us hl => match us, hl with | [_], _ => rfl) (by walk_at "ln") (fun cdv A outer s H vs Q E hr h => ⟨rd_l_stepsT K, dv_l_stepsT T hr, pure_l_stepsT K vs H Q E h⟩)
theorem dv_l_loopT {f : Addr} {cdv : Value} {A : Around} {outer : List Env} {s : Shared} {H : Hp} {E : XK} (T : Tx K mg base) (hr : Room 5 (A.deeper (envOfC "_law_loop" (defScope st_l_loopT) s.heap.objs.size f cdv))) : PSs (cxOf CX0 PP w K mg base N_l_loopT "_law_loop" (defScope st_l_loopT) f cdv A outer s H E).nox (defBody st_l_loopT) (rd_l_loopT K) := by
  exact pss_one (ps_ret (FWN.pe_mN (ok_Average_initX T) hr (by decide) (by rfl) (pa_cons (pe_ix ix_list (pv 0) (pe_int) (fun _ _ => rfl)) (pa_cons (pe_ix ix_list (pv 0) (pe_int) (fun _ _ => rfl)) (pa_cons (pe_ix ix_list (pv 0) (pe_int) (fun _ _ => rfl)) (pa_cons (pe_ix ix_list (pv 0) (pe_int) (fun _ _ => rfl)) (pa_cons (pe_ix ix_list (pv 0) (pe_int) (fun _ _ => rfl)) (pa_cons (pe_ix ix_list (pv 0) (pe_int) (fun _ _ => rfl)) (pa_cons (pe_ix ix_list (pv 0) (pe_int) (fun _ _ => rfl)) (pa_nil))))))))))
theorem ok_l_loopT (T : Tx K mg base) : Fn PP w K mg base CX0 6 "_law_loop" (sp_l_loopT K) [] :=
  Fn.mk0 T.d_l_loopT T.g__law_loop sc_l_loopT (fun _ _ _ _ _ _ us hl => match us, hl with | [_], _ => rfl) (by walk_at "ln") (fun cdv A outer s H vs Q E hr h => ⟨rd_l_loopT K, dv_l_loopT T hr, pure_l_loopT K vs H Q E h⟩)
theorem dv_read_loopX {f : Addr} {cdv : Value} {A : Around} {outer : List Env} {s : Shared} {H : Hp} {E : XK} (T : Tx K mg base) (hr : Room 6 (A.deeper (envOfC "read_loop" (defScope st_read_loop) s.heap.objs.size f cdv))) : PSs (cxOf (FWC.CXP PP w) PP w K mg base N_read_loop "read_loop" (defScope st_read_loop) f cdv A outer s H E) (defBody st_read_loop) (rd_read_loopX K E) := by
  exact pss_cons (ps_set (i := 1) sc_read_loop.nd rfl (Or.inl rfl) (FW.pe_splitS (pv 0) (pe_str))) (pss_cons (FWC.ps_tryFrom (tb := fun W => tAsg (tCallS (sp_made_loopX K) (WE W) (tCons (tOp (rIxL K) (tVar 1) (tC (.int 0))) (tCons (tLc (iList K (tSl (rSlL K) (tVar 1) (tPart (tC (.int 1))) (tNoPart))) (gName 3) (tYes) (tCall (sp_part_of K) [] E0 (tCons (tVar 3) (tNil))) [3]) (tNil)))) (gName 2)) (i := 4) (te := FWN.tMk0 (He.ga K "BadText")) rfl rfl rfl sc_read_loop.nd rfl rfl ⟨rfl, by decide, .inl T.g_BadLoop⟩ (raises_own T.e_BadLoop.exC T.e_BadLoop.tyC) rfl rfl (fun a pn xe => L2C.pmk5_err0 T.e_BadText T.g_BadText (FW.roomS (k := 0) hr (Nat.zero_le _)) (by rfl)) (fun W pn xe tk _ => pss_one (ps_set (i := 2) sc_read_loop.nd rfl (Or.inl rfl) (FWN.pe_fS tk (ok_made_loopX T) hr (by decide) (by rfl) (pa_cons (pe_ix ix_list (pv 1) (pe_int) (fun _ _ => rfl)) (pa_cons (pe_lc (own := [("word", 3)]) (g := gName 3) (tt := tYes) rfl sc_read_loop.nd (pi_list (pe_slice sl_list (pv 1) (po_some (pe_int)) (po_none))) (blkOk_by (own := [("word", 3)]) (N := N_read_loop) (sc := defScope st_read_loop) (by decide +kernel)) (fun _ _ _ _ _ => pg_name (i := 3) sc_read_loop.nd rfl (Or.inl rfl)) (fun _ _ _ _ _ => pts_nil) (fun _ _ _ _ _ => FW.pe_f (ok_part_of T) hr (by decide) (by rfl) (pa_cons (pv 3) (pa_nil)))) (pa_nil))))))) (pss_cons (ps_if (PW.pt (pw_or (pt_cmpR op_isN (pv 2) (pe_non) (nomark _)) (pw_or1 (pt_cmpR op_ne (FW.pe_either (FW.pe_o0 (ok_Average_text T) hr (by decide) (pv 2)) (FW.pe_either (FW.pe_o0 (ok_Halves_text T) hr (by decide) (pv 2)) (FW.pe_o0 (ok_Steps_text T) hr (by decide) (pv 2)))) (pv 0) (nomark _))))) (pss_one (FWC.ps_raise0 rfl T.e_BadText T.g_BadText hr (L2C.takes_of rfl rfl rfl rfl) (by rfl))) (pss_nil)) (pss_one (ps_ret (pv 2)))))
theorem ok_read_loopX (T : Tx K mg base) : Fn PP w K mg base (FWC.CXP PP w) 7 "read_loop" (sp_read_loopX K) [] :=
  FWC.Fn.mkX T.d_read_loop T.g_read_loop sc_read_loop (fun _ _ _ _ _ _ us hl => match us, hl with | [_], _ => rfl) (by walk_at "ln") (fun cdv A outer s H vs Q E hr h => ⟨rd_read_loopX K E, dv_read_loopX T hr, pure_read_loopX K T.x_BadLoop_BadLoop vs H Q E h⟩)
theorem dv_l_madeT {f : Addr} {cdv : Value} {A : Around} {outer : List Env} {s : Shared} {H : Hp} {E : XK} (T : Tx K mg base) (hr : Room 6 (A.deeper (envOfC "_law_made" (defScope st_l_madeT) s.heap.objs.size f cdv))) : PSs (cxOf CX0 PP w K mg base N_l_madeT "_law_made" (defScope st_l_madeT) f cdv A outer s H E).nox (defBody st_l_madeT) (rd_l_madeT K) := by
  exact pss_cons (ps_if (pt_cmpR op_eq (pv 1) (pe_int) (nomark _)) (pss_one (ps_ret (FW.pe_f (ok_l_loopT T) hr (by decide) (by rfl) (pa_cons (pv 0) (pa_nil))))) (pss_nil)) (pss_one (ps_ret (pe_ifExp (pt_cmpR op_eq (pv 1) (pe_int) (nomark _)) (FW.pe_f (ok_l_halvesT T) hr (by decide) (by rfl) (pa_cons (pv 0) (pa_nil))) (FW.pe_f (ok_l_stepsT T) hr (by decide) (by rfl) (pa_cons (pv 0) (pa_nil))))))
theorem ok_l_madeT (T : Tx K mg base) : Fn PP w K mg base CX0 7 "_law_made" (sp_l_madeT K) [] :=
  Fn.mk0 T.d_l_madeT T.g__law_made sc_l_madeT (fun _ _ _ _ _ _ us hl => match us, hl with | [_, _], _ => rfl) (by walk_at "ln") (fun cdv A outer s H vs Q E hr h => ⟨rd_l_madeT K, dv_l_madeT T hr, pure_l_madeT K vs H Q E h⟩)
theorem dv_law {A : Around} {outer : List Env} {s : Shared} {H : Hp} {E : XK} (T : Tx K mg base) (hr : Room 11 (A.deeper (envOfC "law" (defScope st_law) s.heap.objs.size (He.fAd K ("law", none)) (.ref (He.codeOf K ("law", none)))))) : PSs (cxOf CX0 PP w K mg base N_law "law" (defScope st_law) (He.fAd K ("law", none)) (.ref (He.codeOf K ("law", none))) A outer s H E).nox (defBody st_law) (rd_law K) := by
  exact pss_cons (ps_for PassesOwn.never rfl (pi_range1 (by rfl) T.n_range (pa_cons (pe_int) (pa_nil))) (pg_name (i := 1) sc_law.nd rfl (Or.inl rfl)) (pss_cons (ps_set (i := 2) sc_law.nd rfl (Or.inl rfl) (FW.pe_f (ok_l_row T) hr (by decide) (by rfl) (pa_cons (FW.pe_f (ok_l_apart T) hr (by decide) (by rfl) (pa_cons (FW.pe_f (ok_l_cell_at T) hr (by decide) (by rfl) (pa_cons (pv 0) (pa_cons (pv 1) (pa_nil)))) (pa_cons (pv 1) (pa_nil)))) (pa_cons (pe_int) (pa_nil))))) (pss_cons (ps_set (i := 3) sc_law.nd rfl (Or.inl rfl) (pe_ix ix_list (pe_lst (pa_cons (FW.pe_f (ok_l_loop_parts T) hr (by decide) (by rfl) (pa_cons (pv 2) (pa_cons (pe_int) (pa_nil)))) (pa_cons (FW.pe_f (ok_l_drawn_halves T) hr (by decide) (by rfl) (pa_cons (pv 2) (pa_cons (pe_int) (pa_nil)))) (pa_cons (FW.pe_f (ok_l_drawn_steps T) hr (by decide) (by rfl) (pa_cons (pv 2) (pa_cons (pe_int) (pa_nil)))) (pa_nil))))) (pe_op FW.opMod (pv 1) (pe_int)) (fun _ _ => rfl))) (pss_cons (ps_set (i := 4) sc_law.nd rfl (Or.inl rfl) (FW.pe_f (ok_l_madeT T) hr (by decide) (by rfl) (pa_cons (pv 3) (pa_cons (pe_op FW.opMod (pv 1) (pe_int)) (pa_nil))))) (pss_cons (ps_set (i := 5) sc_law.nd rfl (Or.inl rfl) (FW.pe_f (ok_l_line T) hr (by decide) (by rfl) (pa_cons (pe_ix ix_list (pe_lst (pa_cons (pe_str) (pa_cons (pe_str) (pa_cons (pe_str) (pa_nil))))) (pe_op FW.opMod (pv 1) (pe_int)) (fun _ _ => rfl)) (pa_cons (pv 3) (pa_nil))))) (pss_cons (ps_set (i := 6) sc_law.nd rfl (Or.inl rfl) (FWC.pe_fN (ok_read_loopX T) hr (by decide) (by rfl) (pa_cons (pv 5) (pa_nil)))) (pss_cons (ps_set (i := 7) sc_law.nd rfl (Or.inl rfl) (pe_lst (pa_cons (pe_callB call_isi (by rfl) T.n_isinstance (by decide +kernel) (pa_cons (pv 6) (pa_cons (FW.pe_gref (by rfl) T.g_Average) (pa_nil)))) (pa_cons (pe_callB call_isi (by rfl) T.n_isinstance (by decide +kernel) (pa_cons (pv 6) (pa_cons (FW.pe_gref (by rfl) T.g_Halves) (pa_nil)))) (pa_cons (pe_callB call_isi (by rfl) T.n_isinstance (by decide +kernel) (pa_cons (pv 6) (pa_cons (FW.pe_gref (by rfl) T.g_Steps) (pa_nil)))) (pa_nil)))))) (pss_cons (ps_if (PW.pt (pw_or (pt_cmpR op_ne (FW.pe_either (FW.pe_o0 (ok_Average_text T) hr (by decide) (pv 4)) (FW.pe_either (FW.pe_o0 (ok_Halves_text T) hr (by decide) (pv 4)) (FW.pe_o0 (ok_Steps_text T) hr (by decide) (pv 4)))) (pv 5) (nomark _)) (pw_or (pt_cmpR (FW.op_orU (FW.op_neO T.q_Average (ok_Average_eq T) hr (by decide)) (FW.op_orU (FW.op_neO T.q_Halves (ok_Halves_eq T) hr (by decide)) (FW.op_neO T.q_Steps (ok_Steps_eq T) hr (by decide)))) (pv 6) (pv 4) (nomark _)) (pw_or1 (pt_cmpR (op_neD hr.units) (pv 7) (pe_lst (pa_cons (pe_cmpR op_eq (pe_op FW.opMod (pv 1) (pe_int)) (pe_int) (nomark _)) (pa_cons (pe_cmpR op_eq (pe_op FW.opMod (pv 1) (pe_int)) (pe_int) (nomark _)) (pa_cons (pe_cmpR op_eq (pe_op FW.opMod (pv 1) (pe_int)) (pe_int) (nomark _)) (pa_nil))))) (nomark _)))))) (pss_one (ps_ret (pe_bl))) (pss_nil)) (pss_cons (ps_set (i := 8) sc_law.nd rfl (Or.inr rfl) (FW.pe_splitS (pv 5) (pe_str))) (pss_cons (ps_asg (pe_op FW.op_addS (pe_ix ix_list (pe_lst (pa_cons (pe_str) (pa_cons (pe_str) (pa_nil)))) (pe_op FW.opMod (pe_callTy call_int1 (by rfl) T.n_int (by decide +kernel) (pa_cons (pe_ix ix_list (pv 2) (pe_int) (fun _ _ => rfl)) (pa_nil))) (pe_int)) (fun _ _ => rfl)) (pe_op FW.op_mulS (pe_str) (pe_ix ix_list (pe_lst (pa_cons (pe_int) (pa_cons (pe_int) (pa_nil)))) (pe_op FW.opMod (pv 1) (pe_int)) (fun _ _ => rfl)))) (pg_sub (pv 8) (pe_op FW.opAdd (pe_int) (pe_op FW.opMod (pe_callTy call_int1 (by rfl) T.n_int (by decide +kernel) (pa_cons (pe_ix ix_list (pv 2) (pe_int) (fun _ _ => rfl)) (pa_nil))) (pe_op FW.opSub (pe_callB call_len_seq (by rfl) T.n_len (by decide +kernel) (pa_cons (pv 8) (pa_nil))) (pe_int)))) set_list)) (pss_cons (ps_if (pt_cmpR (op_neD hr.units) (FWC.pe_lamC (k := 7) T.d_l_refusedH T.g__law_refused (by rfl) (fun _ _ _ _ _ _ us hl => match us, hl with | [_], _ => rfl) sc_l_refusedH rfl (Or.inl rfl) (fun cdv => gv_l_refusedH rfl T) T.tb_law rfl (by first | exact List.mem_cons_self | exact List.mem_cons_of_mem _ List.mem_cons_self | exact List.mem_cons_of_mem _ (List.mem_cons_of_mem _ List.mem_cons_self) | exact List.mem_cons_of_mem _ (List.mem_cons_of_mem _ (List.mem_cons_of_mem _ List.mem_cons_self))) (hu_law T) hr (by decide) (by decide) (LamX.lamS_by (by kernel_rfl)) rfl (fun _ _ _ _ _ => rfl) (fun A outer s H E f c hr => FWC.pe_fX rfl (L2C.takes_of rfl rfl rfl rfl) (ok_read_loopX T) hr (by decide) (by rfl) (pa_cons (pe_join (pe_str) (pv 8)) (pa_nil)))) (pe_tup (pa_cons (pe_str) (pa_cons (pe_non) (pa_nil)))) (nomark _)) (pss_one (ps_ret (pe_bl))) (pss_nil)) (pss_cons (ps_set (i := 9) sc_law.nd rfl (Or.inr rfl) (pv 5)) (pss_cons (ps_for PassesOwn.never rfl (pi_range1 (by rfl) T.n_range (pa_cons (pe_op FW.opAdd (pe_int) (pe_op FW.opMod (pe_callTy call_int1 (by rfl) T.n_int (by decide +kernel) (pa_cons (pe_ix ix_list (pv 2) (pe_int) (fun _ _ => rfl)) (pa_nil))) (pe_int))) (pa_nil))) (pg_name (i := 10) sc_law.nd rfl (Or.inl rfl)) (pss_one (ps_set (i := 9) sc_law.nd rfl (Or.inr rfl) (FW.pe_f (ok_l_spoilt T) hr (by decide) (by rfl) (pa_cons (pe_lc (own := [("_law_draw", 11)]) (g := gName 11) (tt := tYes) rfl sc_law.nd (pi_list (pe_slice sl_list (pv 2) (po_some (pe_op FW.opAdd (pe_int) (pe_op FW.opMul (pe_int) (pv 10)))) (po_some (pe_op FW.opAdd (pe_int) (pe_op FW.opMul (pe_int) (pv 10)))))) (blkOk_by (own := [("_law_draw", 11)]) (N := N_law) (sc := defScope st_law) (by decide +kernel)) (fun _ _ _ _ _ => pg_name (i := 11) sc_law.nd rfl (Or.inl rfl)) (fun _ _ _ _ _ => pts_nil) (fun _ _ _ _ _ => pe_callTy call_int1 (by rfl) T.n_int (by decide +kernel) (pa_cons (pv 11) (pa_nil)))) (pa_cons (pv 9) (pa_nil))))))) (pss_cons (ps_set (i := 12) sc_law.nd rfl (Or.inl rfl) (FWC.pe_lamC (k := 7) T.d_l_refusedH T.g__law_refused (by rfl) (fun _ _ _ _ _ _ us hl => match us, hl with | [_], _ => rfl) sc_l_refusedH rfl (Or.inl rfl) (fun cdv => gv_l_refusedH rfl T) T.tb_law rfl (by first | exact List.mem_cons_self | exact List.mem_cons_of_mem _ List.mem_cons_self | exact List.mem_cons_of_mem _ (List.mem_cons_of_mem _ List.mem_cons_self) | exact List.mem_cons_of_mem _ (List.mem_cons_of_mem _ (List.mem_cons_of_mem _ List.mem_cons_self))) (hu_law T) hr (by decide) (by decide) (LamX.lamS_by (by kernel_rfl)) rfl (fun _ _ _ _ _ => rfl) (fun A outer s H E f c hr => FWC.pe_fX rfl (L2C.takes_of rfl rfl rfl rfl) (ok_read_loopX T) hr (by decide) (by rfl) (pa_cons (pv 9) (pa_nil))))) (pss_cons (ps_if (pt_cmpR (op_neD hr.units) (pv 12) (pe_ifExp (pt_val (FW.pe_f (ok_l_is_text T) hr (by decide) (by rfl) (pa_cons (pv 9) (pa_nil)))) (pe_non) (pe_tup (pa_cons (pe_str) (pa_cons (pe_non) (pa_nil))))) (nomark _)) (pss_one (ps_ret (pe_bl))) (pss_nil)) (pss_one (ps_if (PW.pt (pw_and (pt_cmpR op_isN (pv 12) (pe_non) (nomark _)) (pw_and1 (pt_cmpR op_ne (FW.pe_either (FW.pe_o0 (ok_Average_text T) hr (by decide) (FWC.pe_fN (ok_read_loopX T) hr (by decide) (by rfl) (pa_cons (pv 9) (pa_nil)))) (FW.pe_either (FW.pe_o0 (ok_Halves_text T) hr (by decide) (FWC.pe_fN (ok_read_loopX T) hr (by decide) (by rfl) (pa_cons (pv 9) (pa_nil)))) (FW.pe_o0 (ok_Steps_text T) hr (by decide) (FWC.pe_fN (ok_read_loopX T) hr (by decide) (by rfl) (pa_cons (pv 9) (pa_nil)))))) (pv 9) (nomark _))))) (pss_one (ps_ret (pe_bl))) (pss_nil)))))))))))))))))) (pss_one (ps_ret (pe_bl)))
end
/-! ### the head -/
theorem tx_of {K : PySem.W.Frag} {h : Heap} {mg : Str → Option Value} {base : Heap} (X : K.In h) (G : h.Ns mainGlobals mg) (c : He.SaysD fa fn K) (cx : ex K = true) (ce : er.map (fun d => fnE K d.x) = er.map ErrD.val) (TB : ∀ p ∈ tf.map (He.cT K), LamX.TabB base mg p.1 p.2) : Tx K mg base := by
  have EX0 : errB K PySem.Challenge.pw_floorward_k53_texts_of_loops.main.file "BadLoop" "word" = true := List.all_eq_true.mp cx _ (List.mem_of_getElem? (i := 0) rfl)
  have EX1 : errB0 K PySem.Challenge.pw_floorward_k53_texts_of_loops.main.file "BadText" = true := List.all_eq_true.mp cx _ (List.mem_of_getElem? (i := 1) rfl)
  have EX2 : FW.excB K "BadText" = true := List.all_eq_true.mp cx _ (List.mem_of_getElem? (i := 2) rfl)
  have EX3 : decide (PySem.W.kitOne K (.ref (He.ga K "BadText")) (.ref (He.ga K "BadNumber")) = some false) = true := List.all_eq_true.mp cx _ (List.mem_of_getElem? (i := 3) rfl)
  have EX4 : decide (PySem.W.kitOne K (.ref (He.ga K "BadText")) (.ref (He.ga K "BadPower")) = some false) = true := List.all_eq_true.mp cx _ (List.mem_of_getElem? (i := 4) rfl)
  have EX5 : decide (PySem.W.kitOne K (.ref (He.ga K "BadText")) (.ref (He.ga K "BadLoop")) = some false) = true := List.all_eq_true.mp cx _ (List.mem_of_getElem? (i := 5) rfl)
  have EX6 : decide (PySem.W.kitOne K (.ref (He.ga K "BadText")) (.ref (He.ga K "BadStart")) = some false) = true := List.all_eq_true.mp cx _ (List.mem_of_getElem? (i := 6) rfl)
  have EX7 : decide (PySem.W.kitOne K (.ref (He.ga K "BadText")) (.ref (He.ga K "BadGuesses")) = some false) = true := List.all_eq_true.mp cx _ (List.mem_of_getElem? (i := 7) rfl)
  have EX8 : decide (PySem.W.kitOne K (.ref (He.ga K "BadText")) (.ref (He.ga K "BadBeginning")) = some false) = true := List.all_eq_true.mp cx _ (List.mem_of_getElem? (i := 8) rfl)
  have EX9 : decide (PySem.W.kitOne K (.ref (He.ga K "BadText")) (.ref (He.ga K "BadSought")) = some false) = true := List.all_eq_true.mp cx _ (List.mem_of_getElem? (i := 9) rfl)
  have EX10 : decide (PySem.W.kitOne K (.ref (He.ga K "BadText")) (.ref (He.ga K "BadBracket")) = some false) = true := List.all_eq_true.mp cx _ (List.mem_of_getElem? (i := 10) rfl)
  have EX11 : decide (PySem.W.kitOne K (.ref (He.ga K "BadText")) (.ref (He.ga K "BadKind")) = some false) = true := List.all_eq_true.mp cx _ (List.mem_of_getElem? (i := 11) rfl)
  have EX12 : decide (PySem.W.kitOne K (.ref (He.ga K "BadText")) (.ref (He.ga K "BadText")) = some true) = true := List.all_eq_true.mp cx _ (List.mem_of_getElem? (i := 12) rfl)
  have EX13 : decide (PySem.W.kitOne K (.ref (He.ga K "BadText")) (.ref (He.ga K "NoGuess")) = some false) = true := List.all_eq_true.mp cx _ (List.mem_of_getElem? (i := 13) rfl)
  have EX14 : He.tupB K "TESTS" [.str "upto", .str "below"] = true := List.all_eq_true.mp cx _ (List.mem_of_getElem? (i := 14) rfl)
  have EX15 : He.tupB K "STOPS_halves" [.str "less", .str "most", .str "wide"] = true := List.all_eq_true.mp cx _ (List.mem_of_getElem? (i := 15) rfl)
  have EX16 : He.tupB K "STOPS_averages" [.str "notless", .str "equal", .str "near1", .str "near2", .str "back", .str "under", .str "held"] = true := List.all_eq_true.mp cx _ (List.mem_of_getElem? (i := 16) rfl)
  have EX17 : He.tupB K "TOLDS" [.str "old", .str "new", .str "less", .str "more"] = true := List.all_eq_true.mp cx _ (List.mem_of_getElem? (i := 17) rfl)
  have EX18 : He.tupB K "MENDS" [.str "none", .str "down", .str "up", .str "both"] = true := List.all_eq_true.mp cx _ (List.mem_of_getElem? (i := 18) rfl)
  have EX19 : He.tupB K "LOOKS" [.str "under", .str "held"] = true := List.all_eq_true.mp cx _ (List.mem_of_getElem? (i := 19) rfl)
  have EX20 : ownEB K "Halves" = true := List.all_eq_true.mp cx _ (List.mem_of_getElem? (i := 20) rfl)
  have EX21 : (He.eqO (PySem.W.findIn K (.ref (He.ga K "Halves")) "__class__") (some (some (.builtin "object.__class__"))) && (He.eqO (PySem.W.specialIn K (.builtin "object.__class__") "__get__") (some (some (.builtin "getset_descriptor.__get__"))) && (decide (PySem.W.takesIn K (.builtin "object.__class__") = some true) && decide (PySem.W.mroIn K (He.ga K "Halves") (.type "object") = some true)))) = true := List.all_eq_true.mp cx _ (List.mem_of_getElem? (i := 21) rfl)
  have EX22 : ownEB K "Steps" = true := List.all_eq_true.mp cx _ (List.mem_of_getElem? (i := 22) rfl)
  have EX23 : (He.eqO (PySem.W.findIn K (.ref (He.ga K "Steps")) "__class__") (some (some (.builtin "object.__class__"))) && (He.eqO (PySem.W.specialIn K (.builtin "object.__class__") "__get__") (some (some (.builtin "getset_descriptor.__get__"))) && (decide (PySem.W.takesIn K (.builtin "object.__class__") = some true) && decide (PySem.W.mroIn K (He.ga K "Steps") (.type "object") = some true)))) = true := List.all_eq_true.mp cx _ (List.mem_of_getElem? (i := 23) rfl)
  have EX24 : ownEB K "Average" = true := List.all_eq_true.mp cx _ (List.mem_of_getElem? (i := 24) rfl)
  have EX25 : (He.eqO (PySem.W.findIn K (.ref (He.ga K "Average")) "__class__") (some (some (.builtin "object.__class__"))) && (He.eqO (PySem.W.specialIn K (.builtin "object.__class__") "__get__") (some (some (.builtin "getset_descriptor.__get__"))) && (decide (PySem.W.takesIn K (.builtin "object.__class__") = some true) && decide (PySem.W.mroIn K (He.ga K "Average") (.type "object") = some true)))) = true := List.all_eq_true.mp cx _ (List.mem_of_getElem? (i := 25) rfl)
  have EX26 : ((["Average", "Halves", "Steps"] : List Str).all fun x => (["Average", "Halves", "Steps"] : List Str).all fun y => decide (x = y) || decide (PySem.W.kitOne K (.ref (He.ga K x)) (.ref (He.ga K y)) = some false)) = true := List.all_eq_true.mp cx _ (List.mem_of_getElem? (i := 26) rfl)
  exact {
    n_abs := He.free_ok X G (c.fact 0 (f := .free "abs") rfl),
    n_all := He.free_ok X G (c.fact 1 (f := .free "all") rfl),
    n_any := He.free_ok X G (c.fact 2 (f := .free "any") rfl),
    n_bool := He.free_ok X G (c.fact 3 (f := .free "bool") rfl),
    n_dict := He.free_ok X G (c.fact 4 (f := .free "dict") rfl),
    n_int := He.free_ok X G (c.fact 5 (f := .free "int") rfl),
    n_isinstance := He.free_ok X G (c.fact 6 (f := .free "isinstance") rfl),
    n_len := He.free_ok X G (c.fact 7 (f := .free "len") rfl),
    n_list := He.free_ok X G (c.fact 8 (f := .free "list") rfl),
    n_range := He.free_ok X G (c.fact 9 (f := .free "range") rfl),
    n_str := He.free_ok X G (c.fact 10 (f := .free "str") rfl),
    n_zip := He.free_ok X G (c.fact 11 (f := .free "zip") rfl),
    s_DIGITS := He.str_ok X G (c.fact 12 (f := .str "DIGITS" "0123456789") rfl),
    g_Average := He.glo_ok X G (c.fact 13 (f := .glo "Average") rfl),
    g_BadBeginning := He.glo_ok X G (c.fact 14 (f := .glo "BadBeginning") rfl),
    g_BadBracket := He.glo_ok X G (c.fact 15 (f := .glo "BadBracket") rfl),
    g_BadGuesses := He.glo_ok X G (c.fact 16 (f := .glo "BadGuesses") rfl),
    g_BadKind := He.glo_ok X G (c.fact 17 (f := .glo "BadKind") rfl),
    g_BadLoop := He.glo_ok X G (c.fact 18 (f := .glo "BadLoop") rfl),
    g_BadNumber := He.glo_ok X G (c.fact 19 (f := .glo "BadNumber") rfl),
    g_BadPower := He.glo_ok X G (c.fact 20 (f := .glo "BadPower") rfl),
    g_BadSought := He.glo_ok X G (c.fact 21 (f := .glo "BadSought") rfl),
    g_BadStart := He.glo_ok X G (c.fact 22 (f := .glo "BadStart") rfl),
    g_BadText := He.glo_ok X G (c.fact 23 (f := .glo "BadText") rfl),
    g_FloorError := He.glo_ok X G (c.fact 24 (f := .glo "FloorError") rfl),
    g_Halves := He.glo_ok X G (c.fact 25 (f := .glo "Halves") rfl),
    g_LOOKS := He.glo_ok X G (c.fact 26 (f := .glo "LOOKS") rfl),
    g_MENDS := He.glo_ok X G (c.fact 27 (f := .glo "MENDS") rfl),
    g_NoGuess := He.glo_ok X G (c.fact 28 (f := .glo "NoGuess") rfl),
    g_STOPS_averages := He.glo_ok X G (c.fact 29 (f := .glo "STOPS_averages") rfl),
    g_STOPS_halves := He.glo_ok X G (c.fact 30 (f := .glo "STOPS_halves") rfl),
    g_Steps := He.glo_ok X G (c.fact 31 (f := .glo "Steps") rfl),
    g_TESTS := He.glo_ok X G (c.fact 32 (f := .glo "TESTS") rfl),
    g_TOLDS := He.glo_ok X G (c.fact 33 (f := .glo "TOLDS") rfl),
    g__law_class := He.glo_ok X G (c.fact 34 (f := .glo "_law_class") rfl),
    g_is_whole := He.glo_ok X G (c.fact 35 (f := .glo "is_whole") rfl),
    g_is_whole_from := He.glo_ok X G (c.fact 36 (f := .glo "is_whole_from") rfl),
    g_is_word_of := He.glo_ok X G (c.fact 37 (f := .glo "is_word_of") rfl),
    g_wrong_part := He.glo_ok X G (c.fact 38 (f := .glo "wrong_part") rfl),
    g_is_number_of := He.glo_ok X G (c.fact 39 (f := .glo "is_number_of") rfl),
    g_check_halves := He.glo_ok X G (c.fact 40 (f := .glo "check_halves") rfl),
    g_check_steps := He.glo_ok X G (c.fact 41 (f := .glo "check_steps") rfl),
    g_part_of := He.glo_ok X G (c.fact 42 (f := .glo "part_of") rfl),
    g_made_loop := He.glo_ok X G (c.fact 43 (f := .glo "made_loop") rfl),
    g_read_loop := He.glo_ok X G (c.fact 44 (f := .glo "read_loop") rfl),
    g__law_cell_at := He.glo_ok X G (c.fact 45 (f := .glo "_law_cell_at") rfl),
    g__law_mixed := He.glo_ok X G (c.fact 46 (f := .glo "_law_mixed") rfl),
    g__law_row := He.glo_ok X G (c.fact 47 (f := .glo "_law_row") rfl),
    g__law_apart := He.glo_ok X G (c.fact 48 (f := .glo "_law_apart") rfl),
    g__law_drawn_halves := He.glo_ok X G (c.fact 49 (f := .glo "_law_drawn_halves") rfl),
    g__law_halves := He.glo_ok X G (c.fact 50 (f := .glo "_law_halves") rfl),
    g__law_drawn_steps := He.glo_ok X G (c.fact 51 (f := .glo "_law_drawn_steps") rfl),
    g__law_steps := He.glo_ok X G (c.fact 52 (f := .glo "_law_steps") rfl),
    g__law_weights := He.glo_ok X G (c.fact 53 (f := .glo "_law_weights") rfl),
    g__law_loop_parts := He.glo_ok X G (c.fact 54 (f := .glo "_law_loop_parts") rfl),
    g__law_loop := He.glo_ok X G (c.fact 55 (f := .glo "_law_loop") rfl),
    g__law_refused := He.glo_ok X G (c.fact 56 (f := .glo "_law_refused") rfl),
    g__law_made := He.glo_ok X G (c.fact 57 (f := .glo "_law_made") rfl),
    g__law_line := He.glo_ok X G (c.fact 58 (f := .glo "_law_line") rfl),
    g__law_spoilt := He.glo_ok X G (c.fact 59 (f := .glo "_law_spoilt") rfl),
    g__law_is_average := He.glo_ok X G (c.fact 60 (f := .glo "_law_is_average") rfl),
    g__law_is_text := He.glo_ok X G (c.fact 61 (f := .glo "_law_is_text") rfl),
    g_law := He.glo_ok X G (c.fact 62 (f := .glo "law") rfl),
    d_is_whole := c.def_ 0 rfl,
    d_is_whole_from := c.def_ 1 rfl,
    d_is_word_of := c.def_ 2 rfl,
    d_wrong_part := c.def_ 3 rfl,
    d_Average_init := c.def_ 4 rfl,
    d_Average_parts := c.def_ 5 rfl,
    d_Average_eq := c.def_ 6 rfl,
    d_Average_text := c.def_ 7 rfl,
    d_is_number_ofU := c.def_ 8 rfl,
    d_check_halves := c.def_ 9 rfl,
    d_Halves_init := c.def_ 10 rfl,
    d_Halves_parts := c.def_ 11 rfl,
    d_Halves_eq := c.def_ 12 rfl,
    d_Halves_text := c.def_ 13 rfl,
    d_check_steps := c.def_ 14 rfl,
    d_Steps_init := c.def_ 15 rfl,
    d_Steps_parts := c.def_ 16 rfl,
    d_Steps_eq := c.def_ 17 rfl,
    d_Steps_text := c.def_ 18 rfl,
    d_part_of := c.def_ 19 rfl,
    d_made_loop := c.def_ 20 rfl,
    d_read_loop := c.def_ 21 rfl,
    d_l_cell_at := c.def_ 22 rfl,
    d_l_mixed := c.def_ 23 rfl,
    d_l_row := c.def_ 24 rfl,
    d_l_apart := c.def_ 25 rfl,
    d_l_drawn_halves := c.def_ 26 rfl,
    d_l_halvesT := c.def_ 27 rfl,
    d_l_drawn_steps := c.def_ 28 rfl,
    d_l_stepsT := c.def_ 29 rfl,
    d_l_weights2 := c.def_ 30 rfl,
    d_l_loop_parts := c.def_ 31 rfl,
    d_l_loopT := c.def_ 32 rfl,
    d_l_refusedH := c.def_ 33 rfl,
    d_l_class := c.def_ 34 rfl,
    d_l_madeT := c.def_ 35 rfl,
    d_l_line := c.def_ 36 rfl,
    d_l_spoilt := c.def_ 37 rfl,
    d_l_is_average := c.def_ 38 rfl,
    d_l_is_text := c.def_ 39 rfl,
    d_law := c.def_ 40 rfl,
    c_Average := He.cls_ok (c.fact 63 (f := .cls "Average") rfl),
    k_Average := He.mkr_ok (c.fact 64 (f := .mkr "Average") rfl),
    m_Average_parts := He.meth_ok (c.fact 65 (f := .meth "Average" "parts") rfl),
    m_Average_eq := He.meth_ok (c.fact 66 (f := .meth "Average" "__eq__") rfl),
    m_Average_text := He.meth_ok (c.fact 67 (f := .meth "Average" "text") rfl),
    a_Average_k := He.noat_ok (c.fact 68 (f := .noat "Average" "k") rfl),
    a_Average_a := He.noat_ok (c.fact 69 (f := .noat "Average" "a") rfl),
    a_Average_c := He.noat_ok (c.fact 70 (f := .noat "Average" "c") rfl),
    a_Average_d := He.noat_ok (c.fact 71 (f := .noat "Average" "d") rfl),
    a_Average_stop := He.noat_ok (c.fact 72 (f := .noat "Average" "stop") rfl),
    a_Average_told := He.noat_ok (c.fact 73 (f := .noat "Average" "told") rfl),
    a_Average_mend := He.noat_ok (c.fact 74 (f := .noat "Average" "mend") rfl),
    c_Halves := He.cls_ok (c.fact 75 (f := .cls "Halves") rfl),
    k_Halves := He.mkr_ok (c.fact 76 (f := .mkr "Halves") rfl),
    m_Halves_parts := He.meth_ok (c.fact 77 (f := .meth "Halves" "parts") rfl),
    m_Halves_eq := He.meth_ok (c.fact 78 (f := .meth "Halves" "__eq__") rfl),
    m_Halves_text := He.meth_ok (c.fact 79 (f := .meth "Halves" "text") rfl),
    a_Halves_up := He.noat_ok (c.fact 80 (f := .noat "Halves" "up") rfl),
    a_Halves_test := He.noat_ok (c.fact 81 (f := .noat "Halves" "test") rfl),
    a_Halves_low := He.noat_ok (c.fact 82 (f := .noat "Halves" "low") rfl),
    a_Halves_high := He.noat_ok (c.fact 83 (f := .noat "Halves" "high") rfl),
    a_Halves_stop := He.noat_ok (c.fact 84 (f := .noat "Halves" "stop") rfl),
    a_Halves_told := He.noat_ok (c.fact 85 (f := .noat "Halves" "told") rfl),
    a_Halves_plus := He.noat_ok (c.fact 86 (f := .noat "Halves" "plus") rfl),
    c_Steps := He.cls_ok (c.fact 87 (f := .cls "Steps") rfl),
    k_Steps := He.mkr_ok (c.fact 88 (f := .mkr "Steps") rfl),
    m_Steps_parts := He.meth_ok (c.fact 89 (f := .meth "Steps" "parts") rfl),
    m_Steps_eq := He.meth_ok (c.fact 90 (f := .meth "Steps" "__eq__") rfl),
    m_Steps_text := He.meth_ok (c.fact 91 (f := .meth "Steps" "text") rfl),
    a_Steps_test := He.noat_ok (c.fact 92 (f := .noat "Steps" "test") rfl),
    a_Steps_after := He.noat_ok (c.fact 93 (f := .noat "Steps" "after") rfl),
    a_Steps_last := He.noat_ok (c.fact 94 (f := .noat "Steps" "last") rfl),
    a_Steps_plus := He.noat_ok (c.fact 95 (f := .noat "Steps" "plus") rfl),
    e_BadLoop := errC_of (prog := PySem.Challenge.pw_floorward_k53_texts_of_loops) (errs_at ce 0 rfl) EX0 ⟨_, _, rfl⟩ ⟨_, _, _, _, _, _, _, _, _, _, _, rfl, by decide⟩ rfl (by decide +kernel),
    x_BadLoop_BadLoop := He.exm_ok (c.fact 96 (f := .exm "BadLoop" "BadLoop" true) rfl),
    x_BadLoop_BadText := He.exm_ok (c.fact 97 (f := .exm "BadLoop" "BadText" false) rfl),
    e_BadText := errC0_of (prog := PySem.Challenge.pw_floorward_k53_texts_of_loops) (errs_at ce 1 rfl) EX1 ⟨_, rfl⟩ ⟨_, _, _, _, _, _, _, rfl, by decide⟩ rfl (by decide +kernel),
    x_BadText_BadLoop := He.exm_ok (c.fact 98 (f := .exm "BadText" "BadLoop" false) rfl),
    x_BadText_BadText := He.exm_ok (c.fact 99 (f := .exm "BadText" "BadText" true) rfl),
    xc_BadText := FW.excB_ok EX2,
    xf_BadText := He.exm_ok (c.fact 100 (f := .exm "BadText" "FloorError" true) rfl),
    xk_BadText_BadNumber := of_decide_eq_true EX3,
    xk_BadText_BadPower := of_decide_eq_true EX4,
    xk_BadText_BadLoop := of_decide_eq_true EX5,
    xk_BadText_BadStart := of_decide_eq_true EX6,
    xk_BadText_BadGuesses := of_decide_eq_true EX7,
    xk_BadText_BadBeginning := of_decide_eq_true EX8,
    xk_BadText_BadSought := of_decide_eq_true EX9,
    xk_BadText_BadBracket := of_decide_eq_true EX10,
    xk_BadText_BadKind := of_decide_eq_true EX11,
    xk_BadText_BadText := of_decide_eq_true EX12,
    xk_BadText_NoGuess := of_decide_eq_true EX13,
    t_TESTS := fun H => He.tupB_ok (vs := [.str "upto", .str "below"]) EX14 H,
    t_STOPS_halves := fun H => He.tupB_ok (vs := [.str "less", .str "most", .str "wide"]) EX15 H,
    t_STOPS_averages := fun H => He.tupB_ok (vs := [.str "notless", .str "equal", .str "near1", .str "near2", .str "back", .str "under", .str "held"]) EX16 H,
    t_TOLDS := fun H => He.tupB_ok (vs := [.str "old", .str "new", .str "less", .str "more"]) EX17 H,
    t_MENDS := fun H => He.tupB_ok (vs := [.str "none", .str "down", .str "up", .str "both"]) EX18 H,
    t_LOOKS := fun H => He.tupB_ok (vs := [.str "under", .str "held"]) EX19 H,
    q_Halves := ownEB_ok EX20,
    in_Halves := insKB_ok EX21,
    q_Steps := ownEB_ok EX22,
    in_Steps := insKB_ok EX23,
    q_Average := ownEB_ok EX24,
    in_Average := insKB_ok EX25,
    kt_loops := fun x hx y hy n => of_decide_eq_true (or_neE (List.all_eq_true.mp (List.all_eq_true.mp EX26 x hx) y hy) n),
    tb_law := TB _ (List.mem_map.mpr ⟨("law", none), by simp [tf], rfl⟩) }
theorem facts {w : World} {K : PySem.W.Frag} {h : Heap} {mg : Str → Option Value} {f : Addr} (X : K.In h) (G : h.Ns mainGlobals mg) (hfa : mg ("law" : Str) = some (.ref f)) (c : He.SaysD fa fn K) (cx : ex K = true) (ce : er.map (fun d => fnE K d.x) = er.map ErrD.val) :
    ∃ fd : FuncData, (∀ (s : Shared) (v : Value), BindsTo s fd ⟨[v], []⟩ [("_law_script", v)]) ∧ ∀ base : Heap, K.In base → base.Ns mainGlobals mg → (∀ p ∈ tf.map (He.cT K), LamX.TabB base mg p.1 p.2) → FnOk PP w K mg base CX0 12 f fd ["_law_script"] (sp_law K) := by
  have e := hfa.symm.trans (He.glo_ok X G (c.fact 62 (f := .glo "law") rfl))
  cases e
  obtain ⟨fd, F⟩ := (c.def_ 40 rfl : ∃ fd, FunD K "law" "law" (defArgs st_law) (defBody st_law) (defScope st_law) [] [] (He.ga K "law") fd)
  have b := FunD.bindsA (ps := ["_law_script"]) F fun _ _ _ _ _ _ us hl => match us, hl with | [_], _ => rfl
  refine ⟨fd, fun s v => b s [v] rfl, fun base _ _ TB => ?_⟩
  have T := tx_of (base := base) X G c cx ce TB
  exact funD_okC (p := ("law", none)) F sc_law (by walk_at "ln") fun A outer s H vs Q E hr h => ⟨rd_law K, (dv_law T hr).nox, pure_law K T.h53 vs H Q E h⟩
end FWL
open PySem PySem.W PySem.Calls PyProof.Rows
theorem PySem.Challenge.cw_floorward_k53_texts_of_loops_holds : PySem.Challenge.rw_floorward_k53_texts_of_loops.Holds := by
  w_on; o_law
  refine HandSHeadRun.head_any (r := OpenLaw.row PySem.Challenge.rw_floorward_k53_texts_of_loops) (q := view (OpenLaw.row PySem.Challenge.rw_floorward_k53_texts_of_loops).prog [61]) (H := FWL.hk) (ob := FWL.ob) (M := 30000) (loose := FWL.loose) (d := HandSHeadRun.topDef (OpenLaw.row PySem.Challenge.rw_floorward_k53_texts_of_loops).prog 61) (kwd := []) FWL.ob_eq
    (by kernel_rfl) (fun s => by kernel_rfl) FWL.run (by kernel_rfl) (by kernel_rfl) (by kernel_rfl) (by rfl) (by first | assumption | decide +kernel) (by decide +kernel) ⟨rfl, rfl, rfl, rfl, rfl, by decide +kernel⟩ ?hw ?hc
  case hw => w_witness2
  case hc =>
    refine LamX.walk_ofTsE (l := PySem.Challenge.rw_floorward_k53_texts_of_loops) (n := 63) (k := 12) (x := "_law_script") (CX := fun _ => L2.CX0) rfl (by decide) (by kernel_rfl) ⟨rfl, by decide, by decide⟩ ?F (fun _ _ _ _ _ z => z)
    intro w mg fa h Y G hmg0
    obtain ⟨K, KX, S⟩ := Y
    have hmg : mg ("law" : PySem.Str) = some (.ref fa) := by
      have e : (HandSHeadRun.topDef (OpenLaw.row PySem.Challenge.rw_floorward_k53_texts_of_loops).prog 61).name = ("law" : PySem.Str) := by kernel_rfl
      rw [← e]
      exact hmg0
    obtain ⟨fd, hb, hF⟩ := FWL.facts (w := w) KX G hmg S.d S.ex S.er
    refine ⟨K, KX, fd, FWL.tf.map (He.cT K), FWL.sp_law K, fun p hp => ?_, fun p hp => ?_, fun p hp => ?_, hb, fun H a ns hl hbits hH hS => ⟨a, ns, rfl, FWL.tabs_of hH, hS, fun _ => rfl⟩, hF⟩
    · obtain ⟨q, hq, rfl⟩ := List.mem_map.mp hp; exact S.empty q hq
    · obtain ⟨q, hq, rfl⟩ := List.mem_map.mp hp; exact S.out q hq
    · obtain ⟨q, hq, rfl⟩ := List.mem_map.mp hp; exact PySem.W.codeHd_of_K KX (S.hd q hq)
