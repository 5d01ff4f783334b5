import PyProof.Rows.All
import Wide.All
import OpenK.AllK
import Wide.FinOn
import KE.KStateDown
import Lean
import HandS.ForMost
import HandS.Exc
import HandS.WordsExc
import HandS.More
import HandS.Wide
import HandS.WideBits
import HandS.IsInst
import HandS.Style
import HandS.TupAny
import HandS.TupMul
import HandS.SortInts
import HandS.Conv
import HandS.Evl
import HandS.Zip
import HandS.Flow
import HandS.Defaults
import HandS.Head0
import HandS.Head1
import HandS.Head2
import HandS.HeadEnd
import HandS.HeadHook1
import HandS.HeadHook2
import KE.KExcSuper
import HandS.TryMany
import HandS.TryOnly
import HandS.ExcOwn
import HandS.Lambda
import HandS.EndTab
import HandS.HeadHook4
import HandS.HeadWalk
import PySem.Challenge.RW_floorward_k11_windows_of_tables
import KE.GoesMore
import KE.KRevSl
import HandS.Iter
import HandS.Walk
import HandS.Dict
import HandS.Strs
import HandS.SetFor
import PyProof.LongRange
import KE.SortKeyHeap
import HandS.ExcCtx
import HandS.HotCalls
import HandS.Deep
import HandS.TupSets
set_option Elab.async false
set_option linter.all false
set_option maxRecDepth 100000
set_option maxHeartbeats 4000000
namespace FW
open PySem PySem.Spec PyProof.Rows L2
/-! ### operators on ints, by short names -/
abbrev rAdd : R2 := rI0 fun i j => .int (i + j)
abbrev rSub : R2 := rI0 fun i j => .int (i - j)
abbrev rMul : R2 := rI CMulW fun i j => .int (i * j)
abbrev rDiv : R2 := rI CDivW fun i j => .int (i / j)
abbrev rMod : R2 := rI (fun _ j => 0 < j) fun i j => .int (i % j)
abbrev rPow : R2 := rI CPow fun i j => .int (i ^ j.toNat)
abbrev rShr : R2 := rI (fun _ j => 0 ≤ j) fun i j => .int (i / 2 ^ j.toNat)
abbrev rNeg : V → Hp → VK → Prop := rU fun i => .int (-i)
abbrev rLt : R2 := rI0 fun i j => .bl (decide (i < j))
abbrev rLe : R2 := rI0 fun i j => .bl (decide (i ≤ j))
abbrev rGt : R2 := rI0 fun i j => .bl (decide (j < i))
abbrev rGe : R2 := rI0 fun i j => .bl (decide (j ≤ i))
abbrev rIsN : R2 := fun x y H Q => y = .non ∧ Q (.bl (decide (x = .non))) H
abbrev rNotN : R2 := fun x y H Q => y = .non ∧ Q (.bl (!decide (x = .non))) H
abbrev rAddS : R2 := fun x y H Q => ∃ i j, x = .str i ∧ y = .str j ∧ i.length + j.length ≤ sizeLine ∧ Q (.str (i ++ j)) H
abbrev rAbs : List V → Hp → VK → Prop := fun xs H Q => ∃ i, xs = [.int i] ∧ Q (.int (if i < 0 then -i else i)) H
abbrev rMax2 : List V → Hp → VK → Prop := fun xs H Q => ∃ i j, xs = [.int i, .int j] ∧ Q (.int (if j > i then j else i)) H
abbrev rMin2 : List V → Hp → VK → Prop := fun xs H Q => ∃ i j, xs = [.int i, .int j] ∧ Q (.int (if j < i then j else i)) H
abbrev rInt1 : List V → Hp → VK → Prop := fun xs H Q => (∃ i, xs = [.int i] ∧ Q (.int i) H) ∨ ∃ k, xs = [.bl k] ∧ Q (.int (if k then 1 else 0)) H
abbrev rStrI : List V → Hp → VK → Prop := fun xs H Q => ∃ i, xs = [.int i] ∧ i.natAbs.log2 < 1920 ∧ Q (.str (toString i)) H
abbrev rLenStr : List V → Hp → VK → Prop := fun xs H Q => ∃ z, xs = [.str z] ∧ z.length ≤ sizeLine ∧ Q (.int z.length) H
abbrev rTupS (K : PySem.W.Frag) : List V → Hp → VK → Prop := fun xs H Q => ∃ p ys, xs = [.ref p] ∧ ((SqL K H p ys ∧ ∀ l, H l = none → Q (.ref l) (upd H l (.tup ys))) ∨ (SqT K H p ys ∧ Q (.ref p) H))
abbrev tTru (K : PySem.W.Frag) (ta : TE) : TT := fun σ H Q => ta σ H fun x H' => ∃ k, TruV K x H' k ∧ Q k H'
/-- x op= y -/
abbrev iAdd : TIp := ipI fun i j => i + j
abbrev iSub : TIp := ipI fun i j => i - j
abbrev iMul : TIp := rI CMulW fun i j => .int (i * j)
section
variable {X : Cx}
theorem opAdd : OpR X (binaryOp .Add) rAdd := op_add
theorem opSub : OpR X (binaryOp .Sub) rSub := op_sub
theorem opMul : OpR X (binaryOp .Mult) rMul := op_mulW
theorem opDiv : OpR X (binaryOp .FloorDiv) rDiv := op_fdivW
theorem opMod : OpR X (binaryOp .Mod) rMod := op_mod
theorem opPow : OpR X (binaryOp .Pow) rPow := op_pow
theorem opShr : OpR X (binaryOp .RShift) rShr := op_shr
theorem op_addS : OpR X (binaryOp .Add) rAddS := op_add_str
theorem ipAdd : PIp X .Add iAdd := ip_add
theorem ipSub : PIp X .Sub iSub := ip_sub
theorem ipMul : PIp X .Mult iMul := fun pins s σ H x y v u Q I rx ry h => by
  obtain ⟨i, j, rfl, rfl, hc, q⟩ := h
  obtain ⟨t, rfl⟩ := rx
  obtain ⟨t', rfl⟩ := ry
  exact imul_int ⟨.int (i * j), H, I.tok _, ⟨_, rfl⟩, q⟩ hc.ok
end
/-! ### defs by their promises -/
/-- a def that may be called by its name -/
structure Fn (P : Program) (w : World) (K : PySem.W.Frag) (mg : Str → Option Value) (base : Heap) (CX : CXT) (k : Nat) (x : Str) (sp : Sp) (dvs : List V) : Prop where
  ex : ∃ (f : Addr) (fd : FuncData) (ps : List Str) (ds : List Value), FnOk P w K mg base CX k f fd ps sp ∧ mg x = some (.ref f) ∧ PySem.W.keepIn K (.ref f) = true ∧ Binds K fd ps ds ∧ Vals dvs ds
/-- a method of the class at C -/
structure Mt (P : Program) (w : World) (K : PySem.W.Frag) (mg : Str → Option Value) (base : Heap) (CX : CXT) (k : Nat) (C : Addr) (m : Str) (sp : Sp) (dvs : List V) : Prop where
  ex : ∃ (f : Addr) (fd : FuncData) (ps : List Str) (ds : List Value), Cls K C ∧ Meth K C m f ∧ FnOk P w K mg base CX k f fd ps sp ∧ Binds K fd ps ds ∧ Vals dvs ds
/-- a class that may be made by its name -/
structure Mkr (P : Program) (w : World) (K : PySem.W.Frag) (mg : Str → Option Value) (base : Heap) (CX : CXT) (k : Nat) (x : Str) (C : Addr) (sp : Sp) (dvs : List V) : Prop where
  ex : ∃ (f : Addr) (fd : FuncData) (ps : List Str) (ds : List Value), Mk K C f ∧ FnOk P w K mg base CX k f fd ps sp ∧ mg x = some (.ref C) ∧ Binds K fd ps ds ∧ Vals dvs ds
section
variable {X : Cx} {CX : CXT} {k j : Nat} {C : Addr} {x m : Str} {sp : Sp} {dvs : List V} {p pos apos : Pos} {e o : Expr} {es : List Expr} {ta : TE} {t : TA} {E : XK}
theorem pe_f (c : Fn X.prog X.w X.K X.mg X.base CX0 k x sp dvs) (hr : Room j X.A) (hk : k ≤ j) (hg : Gl X x) (ha : PA X (e :: es) t)
    (hdb : (x == ("__debug__" : Str)) = false := by decide) (he : starEach (e :: es) X.env = (false, eval e X.env) :: starEach es X.env := by rfl) (hpl : (backTo pos (starEach es X.env)).any (·.1) = false := by rfl) :
    PE X (.Call (.Name x p) (e :: es) [] pos) (tCall sp dvs E0 t) := by
  obtain ⟨f, fd, ps, ds, F, hm, kp, b, d⟩ := c.ex
  exact pe_call F (hr.mono hk) hg hm kp b d pass0 ha hdb he hpl
theorem pe_f0 (c : Fn X.prog X.w X.K X.mg X.base CX0 k x sp dvs) (hr : Room j X.A) (hk : k ≤ j) (hg : Gl X x)
    (hdb : (x == ("__debug__" : Str)) = false := by decide) : PE X (.Call (.Name x p) [] [] pos) (tCall sp dvs E0 tNil) := by
  obtain ⟨f, fd, ps, ds, F, hm, kp, b, d⟩ := c.ex
  exact pe_call0 F (hr.mono hk) hg hm kp b d pass0 hdb
theorem pe_m (c : Mkr X.prog X.w X.K X.mg X.base CX0 k x C sp dvs) (hr : Room j X.A) (hk : k + 1 ≤ j) (hg : Gl X x) (ha : PA X (e :: es) t)
    (hdb : (x == ("__debug__" : Str)) = false := by decide) (he : starEach (e :: es) X.env = (false, eval e X.env) :: starEach es X.env := by rfl) (hpl : (backTo pos (starEach es X.env)).any (·.1) = false := by rfl) :
    PE X (.Call (.Name x p) (e :: es) [] pos) (tMake C sp dvs E0 t) := by
  obtain ⟨f, fd, ps, ds, M, F, hm, b, d⟩ := c.ex
  exact pe_make M F (hr.mono hk) hg hm b d pass0 ha hdb he hpl
theorem pe_o {pl : Sem Bool} (c : Mt X.prog X.w X.K X.mg X.base CX0 k C m sp dvs) (hr : Room j X.A) (hk : k ≤ j) (he : PE X o ta) (ha : PA X (e :: es) t)
    (hst : starEach (e :: es) X.env = (false, eval e X.env) :: starEach es X.env := by rfl) (hpl : (backTo pos (starEach es X.env)).any (·.1) = false := by rfl)
    (ht : eval (.Call (.Attribute o m apos) (e :: es) [] pos) X.env = (do
      let ov ← eval o X.env
      standAt apos.atName
      let (f, first) ← holding [ov] (getMethod ov m pl)
      callWith pos f first (backTo pos (starEach (e :: es) X.env)) (backToKw pos (keywordEach [] X.env))) := by rfl) :
    PE X (.Call (.Attribute o m apos) (e :: es) [] pos) (tMeth C m sp dvs E0 ta t) := by
  obtain ⟨f, fd, ps, ds, hc, hm, F, b, d⟩ := c.ex
  exact pe_meth (pl := pl) he hc hm F (hr.mono hk) b d pass0 ha hst hpl ht
theorem pe_o0 {pl : Sem Bool} (c : Mt X.prog X.w X.K X.mg X.base CX0 k C m sp dvs) (hr : Room j X.A) (hk : k ≤ j) (he : PE X o ta)
    (ht : eval (.Call (.Attribute o m apos) [] [] pos) X.env = (do
      let ov ← eval o X.env
      standAt apos.atName
      let (f, first) ← holding [ov] (getMethod ov m pl)
      callWith pos f first (backTo pos (starEach [] X.env)) (backToKw pos (keywordEach [] X.env))) := by rfl) :
    PE X (.Call (.Attribute o m apos) [] [] pos) (tMeth C m sp dvs E0 ta tNil) := by
  obtain ⟨f, fd, ps, ds, hc, hm, F, b, d⟩ := c.ex
  exact pe_meth0 (pl := pl) he hc hm F (hr.mono hk) b d pass0 ht
/-- a module's name that is an int -/
theorem pe_gcI {i : Int} (hg : Gl X x) (h : ∃ t, X.mg x = some (.int i t)) (hd : (x == ("__debug__" : Str)) = false := by decide) : PE X (.Name x pos) (tC (.int i)) := by
  obtain ⟨t, hm⟩ := h
  exact pe_glob hg hm ⟨t, rfl⟩ hd
end
/-! ### defs of the head, by their data -/
section
variable {P : Program} {w : World} {K : PySem.W.Frag} {mg : Str → Option Value} {base : Heap}
/-- a def of the module (no defaults), from its body -/
theorem Fn.mk0 {x : Str} {params : Arguments} {body : List Stmt} {scope : Scope} {f : Addr} {N ps : List Str} {k : Nat} {sp : Sp}
    (F : ∃ fd, FunD K x x params body scope [] [] f fd) (g : mg x = some (.ref f)) (S : FnScope N ps scope)
    (hb : ∀ (kV doc pm : Value) (an : Option Addr) (cdv ct : Value) (us : List Value), us.length = ps.length → bindArgs (PySem.W.fnOf x x params body scope .none kV doc pm an cdv ct) ⟨us, []⟩ = pure (ps.zip us))
    (len : ∀ vs H Q E, sp vs H Q E → vs.length = ps.length)
    (hbody : ∀ (cdv : Value) (A : Around) (outer : List Env) (s : Shared) (H : Hp) (vs : List V) (Q : VK) (E : XK), Room k (A.deeper (envOfC x scope s.heap.objs.size f cdv)) → sp vs H Q E →
      ∃ t, PSs (cxOf CX0 P w K mg base N x scope f cdv A outer s H E).nox body t ∧ t { nx := fun _ H' => Q .non H', rt := Q } (start N vs) H) : Fn P w K mg base CX0 (k + 1) x sp [] := by
  obtain ⟨fd, F⟩ := F
  refine ⟨f, fd, ps, [], ?_, g, F.kp, ?_, .nil⟩
  · refine F.ok S len fun cdv A outer s H vs Q E hr h => ?_
    obtain ⟨t, h1, h2⟩ := hbody cdv A outer s H vs Q E hr h
    exact ⟨t, h1.nox, h2⟩
  · exact F.bindsN fun kV doc pm an cdv ct us hl => hb kV doc pm an cdv ct us hl
/-- a method (no defaults) -/
theorem Mt.mk0 {m qual : Str} {C : Addr} {params : Arguments} {body : List Stmt} {scope : Scope} {f : Addr} {N ps : List Str} {k : Nat} {sp : Sp}
    (c : Cls K C) (me : Meth K C m f) (F : ∃ fd, FunD K m qual params body scope [] [] f fd) (S : FnScope N ps scope)
    (hb : ∀ (kV doc pm : Value) (an : Option Addr) (cdv ct : Value) (us : List Value), us.length = ps.length → bindArgs (PySem.W.fnOf m qual params body scope .none kV doc pm an cdv ct) ⟨us, []⟩ = pure (ps.zip us))
    (len : ∀ vs H Q E, sp vs H Q E → vs.length = ps.length)
    (hbody : ∀ (cdv : Value) (A : Around) (outer : List Env) (s : Shared) (H : Hp) (vs : List V) (Q : VK) (E : XK), Room k (A.deeper (envOfC qual scope s.heap.objs.size f cdv)) → sp vs H Q E →
      ∃ t, PSs (cxOf CX0 P w K mg base N qual scope f cdv A outer s H E).nox body t ∧ t { nx := fun _ H' => Q .non H', rt := Q } (start N vs) H) : Mt P w K mg base CX0 (k + 1) C m sp [] := by
  obtain ⟨fd, F⟩ := F
  refine ⟨f, fd, ps, [], c, me, ?_, ?_, .nil⟩
  · refine F.ok S len fun cdv A outer s H vs Q E hr h => ?_
    obtain ⟨t, h1, h2⟩ := hbody cdv A outer s H vs Q E hr h
    exact ⟨t, h1.nox, h2⟩
  · exact F.bindsN hb
/-- a class by its __init__ (no defaults) -/
theorem Mkr.mk0 {x qual : Str} {C : Addr} {params : Arguments} {body : List Stmt} {scope : Scope} {f : Addr} {N ps : List Str} {k : Nat} {sp : Sp}
    (M : Mk K C f) (g : mg x = some (.ref C)) (F : ∃ fd, FunD K "__init__" qual params body scope [] [] f fd) (S : FnScope N ps scope)
    (hb : ∀ (kV doc pm : Value) (an : Option Addr) (cdv ct : Value) (us : List Value), us.length = ps.length → bindArgs (PySem.W.fnOf "__init__" qual params body scope .none kV doc pm an cdv ct) ⟨us, []⟩ = pure (ps.zip us))
    (len : ∀ vs H Q E, sp vs H Q E → vs.length = ps.length)
    (hbody : ∀ (cdv : Value) (A : Around) (outer : List Env) (s : Shared) (H : Hp) (vs : List V) (Q : VK) (E : XK), Room k (A.deeper (envOfC qual scope s.heap.objs.size f cdv)) → sp vs H Q E →
      ∃ t, PSs (cxOf CX0 P w K mg base N qual scope f cdv A outer s H E).nox body t ∧ t { nx := fun _ H' => Q .non H', rt := Q } (start N vs) H) : Mkr P w K mg base CX0 (k + 1) x C sp [] := by
  obtain ⟨fd, F⟩ := F
  refine ⟨f, fd, ps, [], M, ?_, g, ?_, .nil⟩
  · refine F.ok S len fun cdv A outer s H vs Q E hr h => ?_
    obtain ⟨t, h1, h2⟩ := hbody cdv A outer s H vs Q E hr h
    exact ⟨t, h1.nox, h2⟩
  · exact F.bindsN hb
/-- .. with defaults dvs, of which those behind the first j fill up -/
theorem Mkr.mkD {x qual : Str} {C : Addr} {params : Arguments} {body : List Stmt} {scope : Scope} {f : Addr} {N ps : List Str} {k : Nat} {sp : Sp} {dvs : List V}
    (n j : Nat) (M : Mk K C f) (g : mg x = some (.ref C)) (F : ∃ fd, FunD K "__init__" qual params body scope dvs [] f fd) (S : FnScope N ps scope) (hd : dvs ≠ []) (hn : n + (dvs.length - j) = ps.length)
    (hb : ∀ (T : Addr) (kV doc pm : Value) (an : Option Addr) (cdv ct : Value) (us its : List Value), us.length = n → its.length = dvs.length →
      ∃ k, bindArgs (PySem.W.fnOf "__init__" qual params body scope (.ref T) kV doc pm an cdv ct) ⟨us, []⟩ = seqItems? (.ref T) >>= k ∧ k (some its.toArray) = pure (ps.zip (us ++ its.drop j)))
    (len : ∀ vs H Q E, sp vs H Q E → vs.length = ps.length)
    (hbody : ∀ (cdv : Value) (A : Around) (outer : List Env) (s : Shared) (H : Hp) (vs : List V) (Q : VK) (E : XK), Room k (A.deeper (envOfC qual scope s.heap.objs.size f cdv)) → sp vs H Q E →
      ∃ t, PSs (cxOf CX0 P w K mg base N qual scope f cdv A outer s H E).nox body t ∧ t { nx := fun _ H' => Q .non H', rt := Q } (start N vs) H) : Mkr P w K mg base CX0 (k + 1) x C sp (dvs.drop j) := by
  obtain ⟨fd, F⟩ := F
  obtain ⟨ds, hv, hbn⟩ := F.binds1 (ps := ps) n j hd hn hb
  refine ⟨f, fd, ps, ds, M, ?_, g, hbn, hv⟩
  refine F.ok S len fun cdv A outer s H vs Q E hr h => ?_
  obtain ⟨t, h1, h2⟩ := hbody cdv A outer s H vs Q E hr h
  exact ⟨t, h1.nox, h2⟩
end
/-! ### the head's facts, with one more Bool -/
abbrev AlX : Type := He.AlD × Bool
def obsX (fa : List He.Fa) (fn : List He.DefD) (ex : PySem.W.Frag → Bool) (K : PySem.W.Frag) : AlX := (He.obsD fa fn K, ex K)
def obsXG (n : Nat) (fa : List He.Fa) (fn : List He.DefD) (ex : PySem.W.Frag → Bool) (g : Addr → Option Obj) : AlX := obsX fa fn ex (He.frG g (He.asD g n))
def hookX (n : Nat) (fa : List He.Fa) (fn : List He.DefD) (ex : PySem.W.Frag → Bool) : PySem.W.Hook where
  α := AlX
  obs := fun s => obsXG n fa fn ex s.heap.get?
  val := fun _ => (He.valD fn, true)
  says := fun _ h => ∃ K : PySem.W.Frag, K.In h ∧ He.SaysD fa fn K ∧ ex K = true
  of := fun _ _ e => ⟨_, He.frG_in, congrArg (fun z : AlX => z.1) e, congrArg (fun z : AlX => z.2) e⟩
  keeps := fun _ _ _ ⟨K, hK, c⟩ k => ⟨K, PySem.W.Frag.In.keeps hK k, c⟩
theorem obsXG_eq {n : Nat} {fa : List He.Fa} {fn : List He.DefD} {ex : PySem.W.Frag → Bool} {g : Addr → Option Obj} {s : Shared} (h : ∀ a, g a = s.heap.get? a) : obsXG n fa fn ex g = (hookX n fa fn ex).obs s := by
  have e : g = s.heap.get? := funext h
  rw [e] <;> rfl
end FW
/-! own errors: class X(FloorError): def __init__(self, f): super().__init__('..'); self.f = f -/
namespace PySem
namespace ErrX
open PySem.W PySem.Calls PyProof.Rows PySem.HandSPX
def eA1 (f : Str) (p1 p2 : Pos) : Arguments := { posonlyargs := [], args := [{ arg := "self", annotation := none, pos := p1 }, { arg := f, annotation := none, pos := p2 }], vararg := none, kwonlyargs := [], kw_defaults := [], kwarg := none, defaults := [] }
def eB1 (f txt : Str) (q1 q2 q3 q4 q5 q6 q7 q8 q9 q10 : Pos) : List Stmt := [.Expr (.Call (.Attribute (.Call (.Name "super" q1) [] [] q2) "__init__" q3) [.Constant (.str txt) 0 q4] [] q5) q6, .Assign [.Attribute (.Name "self" q7) f q8] (.Name f q9) q10]
def eS1 (f : Str) : Scope := { kind := .function, names := [("self", .local), (f, .local), ("__class__", .free), ("super", .globalImplicit)], isGenerator := false, isCoroutine := false, more := [] }
/-- what the written part says of a class at C and of its __init__ at fI -/
structure ErrC (prog : Program) (K : Frag) (C fI : Addr) (f : Str) : Prop where
  cls : ∃ nm q N bs bm sn sub ab col dd k0 k1 k2 k3 k5, K.lookup C = some (excClassObj nm q C N bs bm true sn sub ab col dd k0 k1 k2 k3 k5 "ValueError.__new__") ∧ refsVE bm = true
  sa : findIn K (.ref C) "__setattr__" = some (some (.builtin "object.__setattr__"))
  ga : findIn K (.ref C) "__getattribute__" = some (some (.builtin "BaseException.__getattribute__"))
  gg : findIn K (.ref C) "__getattr__" = some none
  noN : findIn K (.ref C) f = some none
  iC : findIn K (.ref C) "__init__" = some (some (.ref fI))
  tC : typeIn K (.ref fI) = some (.type "function")
  kC : keepIn K (.ref C) = true
  exC : subIn K (.ref C) (.type "BaseException") = some true
  veC : subIn K (.ref C) (.type "ValueError") = some true
  tyC : typeIn K (.ref C) = some (.type "type")
  hdC : hasDictIn K C = true
  mro : mroIn K C (.ref C) = some true
  sup : nsIn K mainGlobals "super" = some none
  tp : nsIn K cStatics "thirdparty.any" = some none
  si : ks_superIn K C C "__init__" = some (some (.builtin "ValueError.__init__"))
  top : (prog.main.scope.names.lookup ("super" : Str)).isSome = false
  fn : ∃ (cc cda : Addr) (qual : Str) (oc : Value) (od : Option Addr) (kV doc pm : Value) (an : Option Addr) (ct : Value) (osl : Array (Option Value)) (txt : Str) (p1 p2 q1 q2 q3 q4 q5 q6 q7 q8 q9 q10 : Pos) (cl ccl : Value) (cld cdd : Option Addr) (csl ccs : Array (Option Value)) (vs : Array Value) (tf : Tok), (q3.endLine == q5.line) = true ∧
    K.lookup fI = some ⟨oc, od, .func (ksFn "__init__" qual (eA1 f p1 p2) (eB1 f txt q1 q2 q3 q4 q5 q6 q7 q8 q9 q10) (eS1 f) .none kV doc pm an (.ref cda) ct cc), osl⟩ ∧ codeIn K (.ref cda) qual = true ∧
    K.lookup cc = some ⟨cl, cld, .cell (some (.ref C)), csl⟩ ∧ K.lookup cda = some ⟨ccl, cdd, .fields vs, ccs⟩ ∧ vs[2]? = some (.str prog.main.file tf)
/-- what __init__ leaves of a fresh exception at x -/
structure InitEnd (h h' : Heap) (x C dx t1 : Addr) (f : Str) (v : Value) : Prop where
  keep : ∀ b o, b ≠ x → h.get? b = some o → h'.get? b = some o
  obj : h'.get? x = some { cls := .ref C, dict := some dx, data := .fields #[.ref t1, .none, .none, .none, .bool false, .none] }
  dbig : h.objs.size ≤ dx
  dne : dx ≠ x
  ns : h'.Ns1 dx (fun y => if y = f then some v else none)
/-- a made one -/
structure OwnMade (h h' : Heap) (e C d : Addr) (f : Str) (v : Value) : Prop where
  keep : ∀ b o, h.get? b = some o → h'.get? b = some o
  new : h.objs.size ≤ e
  obj : ∃ oe vs, h'.get? e = some oe ∧ oe.cls = .ref C ∧ oe.dict = some d ∧ oe.data = .fields vs ∧ vs[1]? = some .none ∧ vs[2]? = some .none
  dbig : h.objs.size ≤ d
  dne : d ≠ e
  ns : h'.Ns1 d (fun y => if y = f then some v else none)
section
variable {prog : Program} {w : World} {A : Around} {E : Value → Shared → Prop} {R : Result → Shared → Prop} {s : Shared} {K : Frag} {mg mb : Str → Option Value} {C fI : Addr} {f : Str}
/-- the bound __init__ called -/
theorem call_mw {h : Heap} {g : Array GenState} {d : Drawn} {tk : Nat} {os : OsState} {u x t0 : Addr} {rest : List Value} {Q : Value → Shared → Prop} {nm q : Str} {N : Addr} {bs bm : List Value} {sn : List Str} {sub : List Value} {ab : Bool} {col : Option Bool} {dd : Option Addr} {k0 k1 k2 k3 k5 : Option Value}
    (hC : h.get? C = some (excClassObj nm q C N bs bm true sn sub ab col dd k0 k1 k2 k3 k5 "ValueError.__new__")) (hx : h.get? x = some (excO C t0)) (hu : h.get? u = some (kxs_mw "ValueError.__init__" x)) (hz : rest.length ≤ sizeLine)
    (hq : ∀ h' t1, (∀ b o, b ≠ x → h.get? b = some o → h'.get? b = some o) → h'.get? x = some (excO C t1) → Q .none ⟨h', g, d, tk, os⟩) :
    wpAny (model prog w) A (call (.ref u) rest) Q E ⟨h, g, d, tk, os⟩ := by
  refine wpAny_call (codeAny_of_tree ?_)
  show wpAny _ A.in1 (callAny (.ref u) ⟨rest, []⟩) _ _ _
  simp only [callAny]
  refine wpAny_bind (wpAny_load hu ?_)
  simp only [kxs_mw, show (Value.type "method-wrapper" == Value.type "method" || Value.type "method-wrapper" == Value.type "builtin_function_or_method" || Value.type "method-wrapper" == Value.type "method-wrapper") = true by decide, if_true]
  refine KFB.if_so (by decide) ?_
  refine wpAny_bind (check_bound_init F.excBase_ValueError.toExcCallFacts hC hx rfl ?_)
  refine wpAny_bind (wpAny_pure (wpAny_pure ?_))
  refine ⟨plainId_quiet F.excBase_ValueError.init.plain _, codeAny_builtin F.excBase_ValueError.initEntry ?_⟩
  exact exc_init_tree (cls := .ref C) (t0 := t0) (dv := none) (c2 := .none) (c3 := .none) (b4 := .bool false) hx hz fun h' k e' _ => hq h' _ k e'
theorem ns_keep {h h' : Heap} {L : Addr} {m : Str → Option Value} (hn : h.Ns L m) (k : ∀ o, h.get? L = some o → h'.get? L = some o) : h'.Ns L m := by
  obtain ⟨oL, esL, epL, eL, rL⟩ := hn
  exact ⟨oL, esL, epL, k _ eL, rL⟩
/-- a method call whose name stands in the row of the call -/
theorem eval_mc {env : Env} {o : Expr} {name txt : Str} {q3 q4 q5 : Pos} (hl : (q3.endLine == q5.line) = true) : eval (.Call (.Attribute o name q3) [.Constant (.str txt) 0 q4] [] q5) env = (do
    let ov ← attributeBase o name env (eval o env)
    standAt q3.atName
    let (f, first) ← holding [ov] (getMethod ov name (do return (← importBound o env).getD true))
    callWith q5 f first (backTo q5 (starEach [.Constant (.str txt) 0 q4] env)) []) := by
  show (do
    let ov ← attributeBase o name env (eval o env)
    standAt q3.atName
    methodCall o name q3 q5 env ov 1 (backTo q5 (starEach [.Constant (.str txt) 0 q4] env)) []) = _
  have hf : methodCallForm 1 (backTo q5 (starEach [.Constant (.str txt) 0 q4] env)) [] = true := rfl
  have hp : methodCallPos true o env q3 q5 = pure q5 := by
    unfold methodCallPos
    rw [hl]
    rfl
  unfold methodCall calleeOf
  rw [hf, hp]
  rfl
theorem err_init (T : ErrC prog K C fI f) (hf : f = "value" ∨ f = "word" ∨ f = "field") {x t0 : Addr} {v : Value} (X : K.In s.heap) (hlim : s.heap.NoLimit) (G : s.heap.Ns mainGlobals mg) (B : s.heap.Ns builtinsNs mb) (hB : ∀ x : Str, x ≠ "__name__" → mb x = bootBuiltins x)
    (hx : s.heap.get? x = some (excO C t0)) (hnx : ¬ (K.lookup x).isSome = true) (hroom : A.depth < recursionLimit)
    (hq : ∀ h' tk dx t1, InitEnd s.heap h' x C dx t1 f v → R (.ok (.ret .none)) { s with heap := h', toks := tk }) :
    codeAny (model prog w) A (.call (.ref fI) ⟨[.ref x, v], []⟩) R s := by
  obtain ⟨cc, cda, qual, oc, od, kV, doc, pm, an, ct, osl, txt, p1, p2, q1, q2, q3, q4, q5, q6, q7, q8, q9, q10, cl, ccl, cld, cdd, csl, ccs, vs, tf, hln, ho, hcd, hcc, hcda, hvs⟩ := T.fn
  obtain ⟨nm, q, N, bs, bm, sn, sub, ab, col, dd, k0, k1, k2, k3, k5, hC, hbm⟩ := T.cls
  have hcl : clsIn K C = some { name := nm, bases := bs, mro := .ref C :: bm, ns := N, qualname := q, hasDict := true, slotNames := sn, subclasses := sub, abstract := ab, collection := col, hasDel := false } := by unfold clsIn; rw [hC] <;> rfl
  obtain ⟨hp, g, d, tk, os⟩ := s
  have hsi : alongIn K "__init__" ((((Value.ref C :: bm)).dropWhile (· != .ref C)).drop 1) = some (some (.builtin "ValueError.__init__")) := by
    have z := T.si
    unfold ks_superIn at z
    rw [hcl] at z
    exact z
  rcases hf with rfl | rfl | rfl
  all_goals
    refine ks_codeAny_call_defAt (fd := ksFn "__init__" qual (eA1 _ p1 p2) (eB1 _ txt q1 q2 q3 q4 q5 q6 q7 q8 q9 q10) (eS1 _) .none kV doc pm an (.ref cda) ct cc) (body := eB1 _ txt q1 q2 q3 q4 q5 q6 q7 q8 q9 q10) (binds := [("self", .ref x), (_, v)])
      hroom (X _ _ ho) rfl hlim (codeRec_of X hcd) rfl (BindsTo.of_eq (by first | rfl | with_unfolding_all rfl)) (fun y hy => (show ∀ y ∈ (eS1 _).names, y.2 ≠ .cell by decide) y hy)
      (fun y hy => by
        rcases List.mem_cons.mp hy with rfl | hy
        · rfl
        · rcases List.mem_cons.mp hy with rfl | hy
          · rfl
          · cases hy) (fun h₁ hns hk₁ => ?_) rfl rfl rfl
    have X₁ : K.In h₁ := X.keeps hk₁
    have hx₁ := hk₁ _ _ hx
    have zL : hp.objs.size < h₁.objs.size := hns.lt
    have hxL : hp.objs.size ≠ x := Nat.ne_of_gt (Heap.lt_size hx)
    -- super().__init__('..')
    show wpAt _ _ _ (execs (_ :: _) _) _ _ _
    refine ks_wpAt_execs_cons (ks_wpAt_Expr_any (ks_wpAt_MethodCall ?_ (eval_mc hln)))
    refine ks_wpAt_super_base (f := fI) (cc := cda) (ar := { arg := "self", annotation := none, pos := p1 }) rfl rfl (by decide) rfl (X₁ _ _ ho) rfl rfl rfl (X₁ _ _ hcda) rfl hvs (beq_self_eq_true _) T.top ?_
    refine ks_loadName_global rfl rfl (loadGlobal_builtin (G.keeps hk₁) (mg_none_of X G T.sup) (B.keeps hk₁) ((hB _ (by decide)).trans (by first | boot_by_name | rfl | kernel_rfl)) ⟨rfl, ?_⟩)
    refine wpAny_loadName_free rfl rfl rfl ⟨_, X₁ _ _ hcc, rfl⟩ ?_
    refine wpAny_loadName_local rfl rfl hns (by rfl) ?_
    refine ks_wpAny_isType_cls (X₁ _ _ hC) rfl ⟨rfl, ?_⟩
    refine ks_wpAny_call_super (X₁ _ _ hC) rfl hx₁ rfl (fun c e => by cases e) (looks_mroIn X₁ T.mro) (fun h₂ hso k₂ => ?_)
    have X₂ : K.In h₂ := X₁.keeps k₂
    have hx₂ := k₂ _ _ hx₁
    have I₂ : InstAt h₂ x (excO C t0) C none := ⟨hx₂, rfl, rfl, trivial⟩
    refine kxs_getMethod kxs_ValueError hso (looks_opaque X₂ T.tp) (l₀ := .ref C :: bm) (fun A Q E s k q => wpAny_bind ((looks_clsIn X₂ hcl) A _ E s k (wpAny_pure q))) rfl X₂ hsi (I₂.type.andThen (looks_subIn X₂ T.veC)) (ks_ne X₂ I₂ hcl) (by decide) ?_
    have k₃ : ∀ b o, h₂.get? b = some o → (h₂.push (kxs_mw "ValueError.__init__" x)).get? b = some o := fun b o e => Heap.get?_push_of_some _ e
    have hmw : (h₂.push (kxs_mw "ValueError.__init__" x)).get? h₂.objs.size = some (kxs_mw "ValueError.__init__" x) := Heap.get?_push_at rfl rfl
    refine kxs_callWith (i := "ValueError.__init__") (x := x) rfl (evalArgs_plain (Calls.spliced_cons ?_))
    show wpAny _ _ (eval (.Constant (.str txt) 0 q4) _) _ _ _
    refine Calls.Constant_str (Calls.spliced_nil ⟨hmw, ?_⟩)
    refine call_mw ((X₂.keeps k₃) _ _ hC) (k₃ _ _ hx₂) hmw (by show 1 ≤ sizeLine; decide) (fun h₄ t1 k₄ hx₄ => ?_)
    -- self.f = f
    have k14 : ∀ b o, b ≠ x → h₁.get? b = some o → h₄.get? b = some o := fun b o hb e => k₄ b o hb (k₃ _ _ (k₂ _ _ e))
    have hn4 := ns_keep hns (k14 _ · hxL)
    have X₄ : K.In h₄ := fun a o e => by
      by_cases ha : a = x
      · subst ha
        have z := X _ _ e
        rw [hx] at z
        exact absurd z (fun z => hnx (by rw [e]; rfl))
      · exact k14 _ _ ha (X₁ _ _ e)
    refine wpAt_of_wpAny ?_
    show wpAny _ _ (execs (_ :: _) _) _ _ _
    refine wpAny_execs_cons (plainObj_wpAny_Assign_Attribute ?_)
    refine wpAny_Name (wpAny_loadName_local rfl rfl hn4 (by rfl) ?_)
    refine wpAny_Name (wpAny_loadName_local rfl rfl hn4 (by rfl) ?_)
    refine set_plain X₄ (ox := excO C t1) (od := none) ⟨hx₄, rfl, rfl, trivial⟩ T.sa ?_
    refine exc_osa X₄ hx₄ hcl (show refsVE (.ref C :: bm) = true from hbm) rfl T.noN (fun h₅ tk₅ dx k₅ dn dne hx₅ hn₅ => ?_)
    show wpAny _ _ (execs _ _) _ _ _
    refine wpAny_execs_nil (hq h₅ tk₅ dx t1 ⟨fun b o hb e => k₅ b o hb (k14 b o hb (hk₁ b o e)), hx₅, ?_, dne, hn₅⟩)
    have z4 : hp.objs.size < h₄.objs.size := hn4.lt
    exact Nat.le_of_lt (Nat.lt_of_lt_of_le z4 dn)
theorem err_made (T : ErrC prog K C fI f) (hf : f = "value" ∨ f = "word" ∨ f = "field") {v : Value} (X : K.In s.heap) (hlim : s.heap.NoLimit) (G : s.heap.Ns mainGlobals mg) (B : s.heap.Ns builtinsNs mb) (hB : ∀ x : Str, x ≠ "__name__" → mb x = bootBuiltins x) (hroom : A.depth + 1 < recursionLimit)
    (hq : ∀ h' tk e d, OwnMade s.heap h' e C d f v → R (.ok (.ret (.ref e))) { s with heap := h', toks := tk }) :
    codeAny (model prog w) A (.call (.ref C) ⟨[v], []⟩) R s := by
  obtain ⟨nm, q, N, bs, bm, sn, sub, ab, col, dd, k0, k1, k2, k3, k5, hC, hbm⟩ := T.cls
  obtain ⟨hp, g, dr, tk, os⟩ := s
  have k : ∀ b o, hp.get? b = some o → ((hp.push (kdv_tup [v])).push (excO C hp.objs.size)).get? b = some o := fun b o e => Heap.get?_push_of_some _ (Heap.get?_push_of_some _ e)
  have hget : ((hp.push (kdv_tup [v])).push (excO C hp.objs.size)).get? (hp.objs.size + 1) = some (excO C hp.objs.size) := by heap_get
  have hnx : ¬ (K.lookup (hp.objs.size + 1)).isSome = true := by
    cases e : K.lookup (hp.objs.size + 1) with
    | none => intro z; cases z
    | some o =>
      have z : hp.get? (hp.objs.size + 1) = some o := X _ _ e
      exact absurd (Nat.lt_of_succ_lt (Heap.lt_size z)) (Nat.lt_irrefl _)
  refine call_own F.excBase_ValueError (fun X => refsVE_contains X bm hbm) (X _ _ hC) (looks_findIn X T.iC) (fun self => bind_fn X self T.tC) (by show 1 ≤ sizeLine; decide) ?_
  refine err_init (s := ⟨(hp.push (kdv_tup [v])).push (excO C hp.objs.size), g, dr, tk, os⟩) T hf (X.keeps k) (hlim.keeps k) (G.keeps k) (B.keeps k) hB hget hnx ?_ fun h' tk' dx t1 ⟨k', hx, dn, dne, hns⟩ => ?_
  · show A.depth + 1 < recursionLimit
    exact hroom
  · have old : ∀ b o, hp.get? b = some o → h'.get? b = some o := fun b o e => k' b o (Nat.ne_of_lt (Nat.lt_succ_of_lt (Heap.lt_size e))) (k b o e)
    have z : hp.objs.size + 1 + 1 ≤ dx := by
      have q := dn
      rw [Heap.size_push, Heap.size_push] at q
      exact q
    exact ⟨rfl, hq h' tk' (hp.objs.size + 1) dx ⟨old, Nat.le_succ _, ⟨_, _, hx, rfl, rfl, rfl, rfl, rfl⟩, Nat.le_trans (Nat.le_trans (Nat.le_succ _) (Nat.le_succ _)) z, dne, hns⟩⟩
end
end ErrX
end PySem
namespace FW
open PySem PySem.Spec PyProof.Rows L2
theorem relO_err {f : Str} {v : V} {v' : Value} (r : RelV v v') (g : Str) : RelO (List.lookup g [(f, v)]) (if g = f then some v' else none) := by
  by_cases hw : g = f
  · subst hw
    rw [if_pos rfl]
    have q : List.lookup g [(g, v)] = some v := by simp [List.lookup]
    rw [q]
    exact r
  · rw [if_neg hw]
    have qw : (g == f) = false := by simpa using hw
    have q2 : List.lookup g [(f, v)] = none := by simp [List.lookup, qw]
    rw [q2]
    trivial
/-- the fields' names -/
def ErrF (f : Str) : Prop := f = "value" ∨ f = "word" ∨ f = "field"
/-- C(e), C an own error with the field f -/
def tMkE (C : Addr) (f : Str) (ta : TA) : L2.St → Hp → XK → Prop := fun σ H Q => ta σ H fun vs H1 => ∃ v, vs = [v] ∧ ∀ d, H1 d = none → Q (.ref C) (some d) (upd H1 d (.xd [(f, v)]))
section
variable {X : Cx} {C fI : Addr} {f x : Str}
theorem pmk_err {a : Expr} {ta : TA} {p pos : Pos} {k : Nat} (T : PySem.ErrX.ErrC X.prog X.K C fI f) (hf : ErrF f) (gC : X.mg x = some (.ref C)) (hr : Room k X.A) (ha : PA X [a] ta) (hg : Gl X x) (hdb : (x == ("__debug__" : Str)) = false := by decide)
    (he : starEach (a :: []) X.env = (false, eval a X.env) :: starEach [] X.env := by rfl) (hpl : (backTo pos (starEach [] X.env)).any (·.1) = false := by rfl) :
    PMk X (.Call (.Name x p) [a] [] pos) (tMkE C f ta) := by
  intro pins s σ H Q I h
  refine wpAny_Call_Name_kw (ld_glob I hg gC ?_ hdb)
  refine PySem.W.callWith_K (h₀ := X.base) I.ok.mod.kin T.kC (thn (ha.run pos pins s σ H _ I h) fun us s1 hh => ?_) he hpl
  obtain ⟨vs, H1, I1, r1, v, ev, q1⟩ := hh
  subst ev
  refine ⟨I1.kIn, ?_⟩
  cases r1 with
  | cons rv rn =>
    rename_i v' us'
    cases rn
    show wpAny _ _ (call (.ref C) [v']) _ _ _
    have hlim := I1.nolimit
    have hG := I1.mod.glob.keeps I1.bk
    obtain ⟨mb, hb1, hb2⟩ := I1.mod.blt
    have hB := hb1.keeps I1.bk
    obtain ⟨hp, g, dr, tk, os⟩ := s1
    refine wpAny_call (PySem.ErrX.err_made T hf I1.kIn hlim hG hB hb2 (by have := hr.dp; omega) fun h' tk' e d M => ?_)
    show MkP X pins σ Q (.ref e) ⟨h', g, dr, tk', os⟩
    obtain ⟨oe, fv, hoe, hc, hd, hdat, h1, _⟩ := M.obj
    have hns := M.ns
    obtain ⟨G', g1, g2⟩ := restrict h' fun b => decide (b ≠ e)
    have gk : ∀ b, b ≠ e → G'.get? b = h'.get? b := fun b hb => g1 b (decide_eq_true hb)
    have ge : G'.get? e = none := g2 e (by simp)
    have old : ∀ b o, hp.get? b = some o → G'.get? b = some o := fun b o q => (gk b (Nat.ne_of_lt (Nat.lt_of_lt_of_le (Heap.lt_size q) M.new))).trans (M.keep b o q)
    have ob : ObjOk X.prog X.w (upd H1 d (.xd [(f, v)])) G' d (.xd [(f, v)]) :=
      ⟨_, hns.at (fun o q => (gk d M.dne).trans q), fun f => relO_err rv f⟩
    have J : Inv X pins σ (upd H1 d (.xd [(f, v)])) ⟨G', g, dr, tk', os⟩ := I1.laid (t' := tk') old M.dbig ob
    refine ⟨e, oe, fv, ⟨G', g, dr, tk', os⟩, _, .ref C, some d, rfl, J, fun b o q => ?_, ge, hoe, ⟨hc, hd⟩, hdat, h1, ?_, rfl, I1.bare, raises_own T.exC T.tyC, q1 d (I1.hok.fresh M.dbig)⟩
    · by_cases hb : b = e
      · have q' : G'.get? b = some o := q
        rw [hb, ge] at q'; cases q'
      · exact (gk b hb).symm.trans q
    · rw [upd_ne (Ne.symm M.dne)]
      exact I1.hok.fresh M.new
/-- raise C(e) -/
def tRaiseE (C : Addr) (f : Str) (W : WX) (ta : TA) : TS := fun _ σ H => tMkE C f ta σ H fun cls d H' => W cls d σ H'
theorem ps_raiseE {a : Expr} {ta : TA} {W : WX} {p pos pos2 : Pos} {k : Nat} (hc : X.calm = true) (T : PySem.ErrX.ErrC X.prog X.K C fI f) (hf : ErrF f) (gC : X.mg x = some (.ref C)) (hr : Room k X.A) (tk : Takes X W) (ha : PA X [a] ta) (hg : Gl X x) (hdb : (x == ("__debug__" : Str)) = false := by decide)
    (he : starEach (a :: []) X.env = (false, eval a X.env) :: starEach [] X.env := by rfl) (hpl : (backTo pos (starEach [] X.env)).any (·.1) = false := by rfl) :
    PS X (.Raise (some (.Call (.Name x p) [a] [] pos)) none pos2) (tRaiseE C f W ta) := ps_raise hc tk (pmk_err T hf gC hr ha hg hdb he hpl)
/-- e.f, e the exception that the suite holds (at a; its class cls, its dict d) -/
def tByE (C : Addr) (f : Str) (a : Addr) (cls : Value) (d : Option Addr) (te : TE) : TE := fun σ H Q => te σ H fun x H1 => x = .ref a ∧ cls = .ref C ∧ ∃ (dd : Addr) (v : V), d = some dd ∧ H1 dd = some (.xd [(f, v)]) ∧ Q v H1
theorem pe_byE {prog : Program} {a : Addr} {oe : Obj} {cls : Value} {d : Option Addr} {pn : List (Addr × Obj)} {e : Expr} {te : TE} {pos : Pos} (T : PySem.ErrX.ErrC prog X.K C fI f) (hz : Zc cls d oe) (hfl : ∃ vs, oe.data = .fields vs) (he : PE (X.suite a ((a, oe) :: pn)) e te)
    (hb : attributeBase e f X.env (eval e X.env) = eval e X.env := by rfl) :
    PE (X.suite a ((a, oe) :: pn)) (.Attribute e f pos) (tByE C f a cls d te) := by
  refine ⟨fun pins s σ H Q I h => ?_⟩
  refine attr_of hb (thn (he.run pins s σ H _ I h) fun u s1 hh => ?_)
  obtain ⟨x, H1, I1, rx, ex, ec, dd, v, ed, ea, q⟩ := hh
  subst ex
  obtain rfl : u = Value.ref a := rx
  subst ec
  subst ed
  obtain ⟨ha, _⟩ := I1.pin (a, oe) (List.mem_append_left _ List.mem_cons_self)
  obtain ⟨vs, hd⟩ := hfl
  have hx : ObjOk X.prog X.w H1 s1.heap dd (.xd [(f, v)]) := I1.hok dd _ ea
  obtain ⟨mA, hns, hr⟩ := hx
  obtain ⟨od, ho, hl⟩ := lookIn_ns hns
  have l : List.lookup f [(f, v)] = some v := by simp [List.lookup]
  obtain ⟨u, hu, ru⟩ := RelO.some_of (v := v) (o := mA f) (by rw [← l]; exact hr f)
  have J : PySem.W.InstAt s1.heap a oe C (some od) := ⟨ha, hz.1, by unfold PySem.W.notCls; rw [hd] <;> rfl, by rw [hz.2]; exact ho⟩
  exact HandSPX.exc_get I1.kIn J T.ga T.gg T.exC (PySem.W.findObj_own T.hdC T.noN rfl (by rw [hl, hu])) (handed_of ru) ⟨v, H1, I1.tok _, ru, q⟩
end
end FW
namespace FW
open PySem PySem.Spec PyProof.Rows L2 PySem.W PySem.HandSPX PySem.ErrX
/-! ### what the head looks at of an own error -/
abbrev FnE : Type := Option (Str × Str × Arguments × FuncBody × Scope × Addr × Value × Addr)
def fnE (K : Frag) (x : Str) : FnE := match K.lookup (He.ma K (He.ga K x) "__init__") with
  | some ⟨_, _, .func fd, _⟩ => some (fd.name, fd.qualname, fd.params, fd.body, fd.scope, fd.globals, fd.defaults, fd.builtins)
  | _ => none
def clsE (K : Frag) (C : Addr) : Bool := match K.lookup C with
  | some ⟨.type "type", _, .cls cd, sl⟩ => (match cd.mro, sl.toList with
    | .ref C' :: bm, [_, _, _, _, some (.builtin n), _] => C' == C && n == "ValueError.__new__" && !cd.hasDel && cd.hasDict && refsVE bm
    | _, _ => false)
  | _ => false
theorem clsE_ok {K : Frag} {C : Addr} (q : clsE K C = true) : ∃ nm q N bs bm sn sub ab col dd k0 k1 k2 k3 k5, K.lookup C = some (excClassObj nm q C N bs bm true sn sub ab col dd k0 k1 k2 k3 k5 "ValueError.__new__") ∧ refsVE bm = true := by
  unfold clsE at q
  split at q
  · rename_i dd cd sl ho
    split at q
    · rename_i C' bm k0 k1 k2 k3 n k5 hm hs
      simp only [Bool.and_eq_true, beq_iff_eq, Bool.not_eq_true'] at q
      obtain ⟨⟨⟨⟨rfl, rfl⟩, hdel⟩, hdd⟩, ht⟩ := q
      obtain ⟨nm, bs, mro, ns, qn, hd, sn, sub, ab, col, del⟩ := cd
      dsimp only at hm hdel hdd
      subst hm hdel hdd
      have hsl : sl = #[k0, k1, k2, k3, some (.builtin "ValueError.__new__"), k5] := by
        obtain ⟨l⟩ := sl
        simp only at hs
        rw [hs]
      subst hsl
      exact ⟨nm, qn, ns, bs, bm, sn, sub, ab, col, dd, k0, k1, k2, k3, k5, ho, ht⟩
    · cases q
  · cases q
def codeE (K : Frag) (file : Str) (x : Str) : Bool := match K.lookup (He.ma K (He.ga K x) "__init__") with
  | some ⟨_, _, .func fd, _⟩ => (match fd.code, fd.closure with
    | .ref cda, [(n, cc)] => codeIn K (.ref cda) fd.qualname && (decide (n = "__class__") && ((match K.lookup cda with
        | some ⟨_, _, .fields vs, _⟩ => (match (vs[2]? : Option Value) with
          | some (Value.str z _) => decide (z = file)
          | _ => false)
        | _ => false) && (match K.lookup cc with
        | some ⟨_, _, .cell (some (.ref D)), _⟩ => decide (D = He.ga K x)
        | _ => false)))
    | _, _ => false)
  | _ => false
def errB (K : Frag) (file x f : Str) : Bool := ([clsE K (He.ga K x), He.eqO (findIn K (.ref (He.ga K x)) "__setattr__") (some (some (.builtin "object.__setattr__"))), He.eqO (findIn K (.ref (He.ga K x)) "__getattribute__") (some (some (.builtin "BaseException.__getattribute__"))),
  He.eqO (findIn K (.ref (He.ga K x)) "__getattr__") (some none), He.eqO (findIn K (.ref (He.ga K x)) f) (some none), He.eqO (findIn K (.ref (He.ga K x)) "__init__") (some (some (.ref (He.ma K (He.ga K x) "__init__")))), decide (typeIn K (.ref (He.ma K (He.ga K x) "__init__")) = some (.type "function")),
  keepIn K (.ref (He.ga K x)), decide (subIn K (.ref (He.ga K x)) (.type "BaseException") = some true), decide (subIn K (.ref (He.ga K x)) (.type "ValueError") = some true), decide (typeIn K (.ref (He.ga K x)) = some (.type "type")), hasDictIn K (He.ga K x), decide (mroIn K (He.ga K x) (.ref (He.ga K x)) = some true),
  He.eqO (nsIn K mainGlobals "super") (some none), He.eqO (nsIn K cStatics "thirdparty.any") (some none), He.eqO (ks_superIn K (He.ga K x) (He.ga K x) "__init__") (some (some (.builtin "ValueError.__init__"))), codeE K file x] : List Bool).all id
theorem errB_at {K : Frag} {file x f : Str} (h : errB K file x f = true) {b : Bool} (i : Nat) (hb : ([clsE K (He.ga K x), He.eqO (findIn K (.ref (He.ga K x)) "__setattr__") (some (some (.builtin "object.__setattr__"))), He.eqO (findIn K (.ref (He.ga K x)) "__getattribute__") (some (some (.builtin "BaseException.__getattribute__"))),
  He.eqO (findIn K (.ref (He.ga K x)) "__getattr__") (some none), He.eqO (findIn K (.ref (He.ga K x)) f) (some none), He.eqO (findIn K (.ref (He.ga K x)) "__init__") (some (some (.ref (He.ma K (He.ga K x) "__init__")))), decide (typeIn K (.ref (He.ma K (He.ga K x) "__init__")) = some (.type "function")),
  keepIn K (.ref (He.ga K x)), decide (subIn K (.ref (He.ga K x)) (.type "BaseException") = some true), decide (subIn K (.ref (He.ga K x)) (.type "ValueError") = some true), decide (typeIn K (.ref (He.ga K x)) = some (.type "type")), hasDictIn K (He.ga K x), decide (mroIn K (He.ga K x) (.ref (He.ga K x)) = some true),
  He.eqO (nsIn K mainGlobals "super") (some none), He.eqO (nsIn K cStatics "thirdparty.any") (some none), He.eqO (ks_superIn K (He.ga K x) (He.ga K x) "__init__") (some (some (.builtin "ValueError.__init__"))), codeE K file x] : List Bool)[i]? = some b) : b = true :=
  List.all_eq_true.mp h b (List.mem_of_getElem? hb)
theorem errC_of {prog : Program} {K : Frag} {x f qual : Str} {params : Arguments} {body : List Stmt} {scope : Scope} (e : fnE K x = (some (("__init__" : Str), qual, params, FuncBody.stmts body, scope, mainGlobals, Value.none, builtinsNs) : FnE)) (h : errB K prog.main.file x f = true)
    (h1 : ∃ p1 p2, params = eA1 f p1 p2) (h2 : ∃ txt q1 q2 q3 q4 q5 q6 q7 q8 q9 q10, body = eB1 f txt q1 q2 q3 q4 q5 q6 q7 q8 q9 q10 ∧ (q3.endLine == q5.line) = true) (h3 : scope = eS1 f) (top : (prog.main.scope.names.lookup ("super" : Str)).isSome = false) :
    ErrC prog K (He.ga K x) (He.ma K (He.ga K x) "__init__") f := by
  have hc : codeE K prog.main.file x = true := errB_at h 16 rfl
  refine ⟨clsE_ok (errB_at h 0 rfl), He.eqO_ok (errB_at h 1 rfl), He.eqO_ok (errB_at h 2 rfl), He.eqO_ok (errB_at h 3 rfl), He.eqO_ok (errB_at h 4 rfl), He.eqO_ok (errB_at h 5 rfl), of_decide_eq_true (errB_at h 6 rfl), errB_at h 7 rfl, of_decide_eq_true (errB_at h 8 rfl), of_decide_eq_true (errB_at h 9 rfl),
    of_decide_eq_true (errB_at h 10 rfl), errB_at h 11 rfl, of_decide_eq_true (errB_at h 12 rfl), He.eqO_ok (errB_at h 13 rfl), He.eqO_ok (errB_at h 14 rfl), He.eqO_ok (errB_at h 15 rfl), top, ?_⟩
  obtain ⟨p1, p2, rfl⟩ := h1
  obtain ⟨txt, q1, q2, q3, q4, q5, q6, q7, q8, q9, q10, rfl, hl⟩ := h2
  subst h3
  unfold codeE at hc
  unfold fnE at e
  cases q : K.lookup (He.ma K (He.ga K x) "__init__") with
  | none => rw [q] at hc; cases hc
  | some o =>
    obtain ⟨oc, od, dt, osl⟩ := o
    rw [q] at hc e
    cases dt with
    | func fd =>
      obtain ⟨n1, n2, n3, n4, n5, n6, n7, n8, n9, n10, n11, n12, n13, n14, n15⟩ := fd
      have e2 : (some (n1, n2, n3, n4, n5, n6, n8, n15) : FnE) = (some (("__init__" : Str), qual, eA1 f p1 p2, FuncBody.stmts (eB1 f txt q1 q2 q3 q4 q5 q6 q7 q8 q9 q10), eS1 f, mainGlobals, Value.none, builtinsNs) : FnE) := e
      simp only [Option.some.injEq, Prod.mk.injEq] at e2
      obtain ⟨g1, g2, g3, g4, g5, g6, g7, g8⟩ := e2
      subst g1 g2 g3 g4 g5 g6 g7 g8
      dsimp only at hc
      split at hc
      · rename_i c0 l0 cda n cc
        simp only [Bool.and_eq_true, decide_eq_true_eq] at hc
        obtain ⟨hc1, rfl, hc2, hc3⟩ := hc
        split at hc2
        · rename_i ccl cdd vs ccs hcda
          split at hc2
          · rename_i z tf hvs
            have hz := of_decide_eq_true hc2
            subst hz
            split at hc3
            · rename_i cl cld D csl hcc
              have hD := of_decide_eq_true hc3
              subst hD
              exact ⟨cc, cda, _, oc, od, n9, n10, n11, n12, n14, osl, txt, p1, p2, q1, q2, q3, q4, q5, q6, q7, q8, q9, q10, cl, ccl, cld, cdd, csl, ccs, vs, tf, hl, rfl, hc1, hcc, hcda, hvs⟩
            · cases hc3
          · cases hc2
        · cases hc2
      · cases hc
    | _ => cases hc
/-- an own error's __init__, as the text has it -/
structure ErrD where
  x : Str
  qual : Str
  params : Arguments
  body : List Stmt
  scope : Scope
def ErrD.val (d : ErrD) : FnE := some (("__init__" : Str), d.qual, d.params, FuncBody.stmts d.body, d.scope, mainGlobals, Value.none, builtinsNs)
abbrev AlY : Type := He.AlD × Bool × List FnE
def obsY (fa : List He.Fa) (fn : List He.DefD) (ex : Frag → Bool) (er : List ErrD) (K : Frag) : AlY := (He.obsD fa fn K, ex K, er.map fun d => fnE K d.x)
def obsYG (n : Nat) (fa : List He.Fa) (fn : List He.DefD) (ex : Frag → Bool) (er : List ErrD) (g : Addr → Option Obj) : AlY := obsY fa fn ex er (He.frG g (He.asD g n ++ [cStatics]))
def hookY (n : Nat) (fa : List He.Fa) (fn : List He.DefD) (ex : Frag → Bool) (er : List ErrD) : PySem.W.Hook where
  α := AlY
  obs := fun s => obsYG n fa fn ex er s.heap.get?
  val := fun _ => (He.valD fn, true, er.map ErrD.val)
  says := fun _ h => ∃ K : Frag, K.In h ∧ He.SaysD fa fn K ∧ ex K = true ∧ er.map (fun d => fnE K d.x) = er.map ErrD.val
  of := fun _ _ e => ⟨_, He.frG_in, congrArg (fun z : AlY => z.1) e, congrArg (fun z : AlY => z.2.1) e, congrArg (fun z : AlY => z.2.2) e⟩
  keeps := fun _ _ _ ⟨K, hK, c⟩ k => ⟨K, PySem.W.Frag.In.keeps hK k, c⟩
theorem obsYG_eq {n : Nat} {fa : List He.Fa} {fn : List He.DefD} {ex : Frag → Bool} {er : List ErrD} {g : Addr → Option Obj} {s : Shared} (h : ∀ a, g a = s.heap.get? a) : obsYG n fa fn ex er g = (hookY n fa fn ex er).obs s := by
  have e : g = s.heap.get? := funext h
  rw [e] <;> rfl
theorem errs_at {K : Frag} {er : List ErrD} (h : er.map (fun d => fnE K d.x) = er.map ErrD.val) (i : Nat) {d : ErrD} (hd : er[i]? = some d) : fnE K d.x = d.val := by
  have e2 : (er.map fun d => fnE K d.x)[i]? = (er.map ErrD.val)[i]? := by rw [h]
  rw [List.getElem?_map, List.getElem?_map, hd] at e2
  exact Option.some.inj e2
end FW
namespace FW
open PySem PySem.Spec PyProof.Rows L2
/-! ### several clauses «except X as n» -/
/-- an exception that a try of X has caught; s: the state in which the clauses are asked -/
structure Cau (X : Cx) (pins : List (Addr × Obj)) (a : Addr) (B : Heap) (sI : Shared) (σ : L2.St) (H : Hp) (cls : Value) (d : Option Addr) (s : Shared) : Prop where
  hs : X.stack = X.env :: X.outer
  hf : X.env.frame = some X.env.locals
  inv : Inv X pins σ H sI
  nb : ∀ b o, sI.heap.get? b = some o → b ∉ frs X.stack → B.get? b = some o
  up : sI.heap.UpToSlots s.heap
  fly : HandSPX.FlyingZ B (X.env :: X.outer) a (Zc cls d) s.heap
  na : H a = none
  os : s.os = sI.os
  ag : AllBare s.gens
section
variable {X : Cx} {pins : List (Addr × Obj)} {a : Addr} {B : Heap} {sI s : Shared} {σ : L2.St} {H : Hp} {cls : Value} {d : Option Addr}
theorem Cau.now (c : Cau X pins a B sI σ H cls d s) : Inv X pins σ H s := c.inv.landed c.nb c.fly.1 c.up c.os c.ag
theorem Cau.on (c : Cau X pins a B sI σ H cls d s) {g : Heap} (f : HandSPX.FlyingZ B (X.env :: X.outer) a (Zc cls d) g) (u : s.heap.UpToSlots g) : Cau X pins a B sI σ H cls d { s with heap := g } :=
  ⟨c.hs, c.hf, c.inv, c.nb, c.up.trans u, f, c.na, c.os, c.ag⟩
theorem Cau.apart (c : Cau X pins a B sI σ H cls d s) : a ≠ X.env.locals ∧ a ∉ X.fs := by
  have no : a ∉ frs (X.env :: X.outer) := fun m => by
    obtain ⟨ox, vx, hx, _, dx⟩ := c.fly.there
    obtain ⟨_, ox', hx', nx⟩ := c.fly.2.2.1.mem m
    rw [hx] at hx'
    cases hx'
    exact nx _ dx
  have m0 : X.env.locals ∈ frs (X.env :: X.outer) := List.mem_filterMap.mpr ⟨X.env, List.mem_cons_self, c.hf⟩
  refine ⟨fun z => no (by rw [z]; exact m0), fun m => no ?_⟩
  obtain ⟨en, me, q⟩ := List.mem_filterMap.mp m
  exact List.mem_filterMap.mpr ⟨en, List.mem_cons_of_mem _ me, q⟩
theorem Cau.hold (c : Cau X pins a B sI σ H cls d s) : ∃ oe, Zc cls d oe ∧ (∃ vs, oe.data = .fields vs) ∧ s.heap.get? a = some oe ∧ Inv (X.suite a ((a, oe) :: (X.pn ++ pins))) [] σ H s := by
  obtain ⟨oe, vs, he, hz, hd⟩ := c.fly.there
  exact ⟨oe, hz, ⟨vs, hd⟩, he, c.now.suite he hd c.na c.apart.1 c.apart.2⟩
/-- a clause: its class, the slot of its name, its suite's reading -/
structure Cl where
  c : Value
  i : Nat
  ts : Addr → Value → Option Addr → TS
/-- what is wanted where clause after clause is asked -/
def wCls (K : PySem.W.Frag) (Wout : WX) (D : Ends) : List Cl → WX
  | [] => Wout
  | k :: r => fun cls d σ H => ∃ b, PySem.W.exmOne K cls k.c = some b ∧
      (b = true → ∀ a, H a = none → k.ts a cls d { nx := fun τ G => D.nx (τ.set k.i none) G, rt := D.rt, bk := fun τ G => D.bk (τ.set k.i none) G, ct := fun τ G => D.ct (τ.set k.i none) G } (σ.set k.i (some (.ref a))) H) ∧
      (b = false → wCls K Wout D r cls d σ H)
inductive Hds (X : Cx) : List ExceptHandler → List Cl → Prop
  | nil : Hds X [] []
  | cons {x n : Str} {k : Cl} {b₀ : Stmt} {suite : List Stmt} {np pos' : Pos} {hds : List ExceptHandler} {l : List Cl} (hN : X.N.Nodup) (hi : X.N[k.i]? = some n) (hln : X.env.kindOf n = some .local) (hc : Names X x k.c)
      (hsu : ∀ (a : Addr) (oe : Obj) (cls : Value) (d : Option Addr) (pn : List (Addr × Obj)), Zc cls d oe → (∃ vs, oe.data = .fields vs) → PSs (X.suite a ((a, oe) :: pn)) (b₀ :: suite) (k.ts a cls d)) (r : Hds X hds l) :
      Hds X (.ExceptHandler (some (.Name x np)) (some n) (b₀ :: suite) pos' :: hds) (k :: l)
/-- no clause takes it: it goes on -/
theorem Cau.pass (c : Cau X pins a B sI σ H cls d s) {Wout : WX} {Q : Flow → Shared → Prop} (tk : Takes X Wout) (w : Wout cls d σ H) : wpAny (model X.prog X.w) X.A (handleBy (.ref a) X.env []) Q X.xe s := by
  refine wpAny_handleBy_nil ?_
  have up0 : wpAny (model X.prog X.w) X.A (setFlight (.ref a) X.env.frame) (fun _ s4 => wpAny (model X.prog X.w) X.A (throw (.ref a) : Sem Flow) Q X.xe s4) X.xe s := by
    rw [c.hf]
    refine HandSPX.setFlight_upZ c.fly fun g gh gu => wpAny_throw (tk _ _ ?_)
    exact ⟨a, B, sI, pins, σ, H, cls, d, rfl, c.inv, c.nb, c.up.trans gu, .inr (.inr (by rw [c.hs]; exact gh)), c.na, c.os, c.ag, w⟩
  obtain ⟨_, _, _, oe, vs, Tb, oT, us, he, _, hd, h1, _⟩ := c.fly
  unfold PySem.passOn
  refine wpAny_bind (wpAny_field he hd h1 ?_)
  rw [if_neg (by simp)]
  first
    | exact wpAny_bind (wpAny_pure (wpAny_bind up0))
    | exact wpAny_bind up0
/-- the clauses, one behind the other -/
theorem Cau.ask {D : Ends} {Wout : WX} (tk : Takes X Wout) : ∀ {hds : List ExceptHandler} {l : List Cl}, Hds X hds l → Cau X pins a B sI σ H cls d s → wCls X.K Wout D l cls d σ H →
    wpAny (model X.prog X.w) X.A (handleBy (.ref a) X.env hds) (SP X pins D) X.xe s := by
  intro hds l hk c
  induction hk with
  | nil => exact fun w => c.pass tk w
  | @cons x n k b₀ suite np pos' hds' l' hN hi hln hc hsu _ ih =>
    rintro ⟨b, hb, yes, no⟩
    obtain ⟨oe, hz, hfl, he, S⟩ := c.hold
    refine wpAny_handleBy_cons (codeAny_handlers_test ?_) (by intro q; cases q)
    have lt : PySem.W.Looks (model X.prog X.w) s.heap (typeOf (.ref a)) cls := fun _ _ _ _ kp q => wpAny_typeOf_ref (kp _ _ he) (by rw [hz.1]; exact q)
    have lm := PySem.W.exm_one (M := model X.prog X.w) c.now.kIn lt hb
    have name : ∀ {Q : Value → Shared → Prop} {E : Value → Shared → Prop}, Q k.c s → wpAny (model X.prog X.w) (X.A.mark (some (.ref a))) (eval (.Name x np) X.env) Q E s := fun {Q E} q => by
      rcases hc with ⟨hg, hdb, hm | ⟨hm, hv, hnn⟩⟩
      · exact ld_glob (X := X.suite a ((a, oe) :: (X.pn ++ pins))) S hg hm q hdb
      · exact ld_blt (X := X.suite a ((a, oe) :: (X.pn ++ pins))) S hg hm hv q hnn hdb
    refine name (lm.here ?_)
    cases b with
    | false =>
      show wpAny _ X.A (handleBy (.ref a) X.env hds') _ _ _
      exact ih (no rfl)
    | true =>
      refine codeAny_handlers_suite_as (HandSPX.lands_againZ c.fly fun g gf gu => ?_)
      have c' := c.on gf gu
      obtain ⟨o2, z2, f2, e2, S2⟩ := c'.hold
      refine store_ok (X := X.suite a ((a, o2) :: (X.pn ++ pins))) (v := .ref a) S2 hN hi (.inl hln) rfl (fun s5 S5 => ?_) (.inr hln)
      refine wpAny_mono ((hsu a o2 cls d (X.pn ++ pins) z2 f2).run [] s5 _ H _ S5 (yes rfl a c.na)) (fun fl s6 hsp => ?_) (fun _ _ z => False.elim z)
      have leave : ∀ {τ : L2.St} {G : Hp} {Q : Shared → Prop}, Inv (X.suite a ((a, o2) :: (X.pn ++ pins))) [] τ G s6 → (∀ s7, Inv X pins (τ.set k.i none) G s7 → Q s7) →
          wpAny (model X.prog X.w) X.A (do bindName X.env n .none; unbindBehindTheSuite X.env n pos') (fun _ s7 => Q s7) X.xe s6 := fun {τ G Q} S6 hq => gone_ok (S6.unsuite c.inv.ok) hN hi hln hq
      cases fl with
      | ret u =>
        obtain ⟨v6, τ, G, S6, r6, q6⟩ := hsp
        exact leave S6 fun s7 J7 => ⟨_, _, _, J7, r6, q6⟩
      | next =>
        obtain ⟨τ, G, S6, q6⟩ := hsp
        exact leave S6 fun s7 J7 => ⟨_, _, J7, q6⟩
      | brk =>
        obtain ⟨τ, G, S6, q6⟩ := hsp
        exact leave S6 fun s7 J7 => ⟨_, _, J7, q6⟩
      | cont =>
        obtain ⟨τ, G, S6, q6⟩ := hsp
        exact leave S6 fun s7 J7 => ⟨_, _, J7, q6⟩
end
section
variable {X : Cx} {body : List Stmt} {h₀ : ExceptHandler} {hds : List ExceptHandler} {l : List Cl} {pos : Pos} {tb : WX → TS} {Wout : WX}
/-- try: body except X1 as n1: .. except X2 as n2: .. -/
def tTryA (K : PySem.W.Frag) (tb : WX → TS) (l : List Cl) (Wout : WX) : TS := fun D σ H => tb (wCls K Wout D l) D σ H
theorem ps_tryA (hs : X.stack = X.env :: X.outer) (hf : X.env.frame = some X.env.locals) (tk : Takes X Wout)
    (hb : ∀ (W : WX) (pn : List (Addr × Obj)) (xe : Value → Shared → Prop), Takes (X.tr pn xe) W → PassesOwn (model X.prog X.w) X.A X.env xe → PSs (X.tr pn xe) body (tb W))
    (hh : Hds X (h₀ :: hds) l) : PS X (.Try body (h₀ :: hds) [] [] pos) (tTryA X.K tb l Wout) := by
  refine ⟨fun pins s σ H D I h => wpAny_Try_except ?_⟩
  have fr : X.A.frames = some (X.env :: X.outer) := by rw [I.ok.frames, hs]
  have run := (hb (wCls X.K Wout D l) (X.pn ++ pins) (fun e s₁ => wpAny (model X.prog X.w) X.A (noteFrame e X.env) (fun _ s₂ => wpAny (model X.prog X.w) X.A (setFlight e none)
    (fun _ s₃ => wpAny (model X.prog X.w) X.A (handleBy e X.env (h₀ :: hds)) (SP X pins D) X.xe s₃) X.xe s₂) X.xe s₁) ?_ PassesOwn.looking).run [] s σ H D (I.toTry _) h
  · refine wpAny_mono run (fun fl s1 hsp => ?_) (fun _ _ he => he)
    cases fl with
    | ret u =>
      obtain ⟨v, τ, G, J, r, q⟩ := hsp
      exact ⟨v, τ, G, J.ofTry I.ok, r, q⟩
    | next =>
      obtain ⟨τ, G, J, q⟩ := hsp
      exact wpAny_execs_nil ⟨τ, G, J.ofTry I.ok, q⟩
    | brk =>
      obtain ⟨τ, G, J, q⟩ := hsp
      exact ⟨τ, G, J.ofTry I.ok, q⟩
    | cont =>
      obtain ⟨τ, G, J, q⟩ := hsp
      exact ⟨τ, G, J.ofTry I.ok, q⟩
  · rintro u s1 ⟨a, B, sI, ps, τ, G, cls, d, rfl, J, nb, up, sky, na, os, ag, w⟩
    have sky' : Sky B (X.env :: X.outer) a (Zc cls d) X.env.locals s1.heap := by rw [← hs]; exact sky
    show wpAny (model X.prog X.w) X.A (noteFrame (.ref a) X.env) _ _ _
    refine Sky.land Zc.steady fr hf sky' fun g gf gu => ?_
    exact Cau.ask (s := { s1 with heap := g }) tk hh ⟨hs, hf, J.ofTry I.ok, nb, up.trans gu, gf, na, os, ag⟩ w
/-- no exception leaves: a def that may raise, called where E0 is wanted -/
theorem passNo {P : Program} {w : World} {X : Cx} : Passes (L2.CX P w) X E0 := fun _ _ _ _ _ _ _ ⟨_, _, _, _, _, _, _, _, _, _, _, _, z⟩ => z.elim
theorem takesNo {X : Cx} : Takes X (fun _ _ _ _ => False) := fun _ _ ⟨_, _, _, _, _, _, _, _, _, _, _, _, _, _, _, _, z⟩ => z.elim
end
/-! ### calls of defs that may raise -/
section
variable {X : Cx} {k j : Nat} {C : Addr} {x m : Str} {sp : Sp} {dvs : List V} {p pos apos : Pos} {e o : Expr} {es : List Expr} {ta : TE} {t : TA} {E : XK} {W : WX}
abbrev CXX (X : Cx) : CXT := L2.CX X.prog X.w
/-- where nothing is raised -/
theorem pe_fN (c : Fn X.prog X.w X.K X.mg X.base (CXX X) k x sp dvs) (hr : Room j X.A) (hk : k ≤ j) (hg : Gl X x) (ha : PA X (e :: es) t)
    (hdb : (x == ("__debug__" : Str)) = false := by decide) (he : starEach (e :: es) X.env = (false, eval e X.env) :: starEach es X.env := by rfl) (hpl : (backTo pos (starEach es X.env)).any (·.1) = false := by rfl) :
    PE X (.Call (.Name x p) (e :: es) [] pos) (tCall sp dvs E0 t) := by
  obtain ⟨f, fd, ps, ds, F, hm, kp, b, d⟩ := c.ex
  exact pe_call F (hr.mono hk) hg hm kp b d passNo ha hdb he hpl
theorem pe_fX (tk : Takes X (fun cls d _ H => E cls d H)) (c : Fn X.prog X.w X.K X.mg X.base (CXX X) k x sp dvs) (hr : Room j X.A) (hk : k ≤ j) (hg : Gl X x) (ha : PA X (e :: es) t)
    (hdb : (x == ("__debug__" : Str)) = false := by decide) (he : starEach (e :: es) X.env = (false, eval e X.env) :: starEach es X.env := by rfl) (hpl : (backTo pos (starEach es X.env)).any (·.1) = false := by rfl) :
    PE X (.Call (.Name x p) (e :: es) [] pos) (tCall sp dvs E t) := by
  obtain ⟨f, fd, ps, ds, F, hm, kp, b, d⟩ := c.ex
  exact pe_call F (hr.mono hk) hg hm kp b d (passes_call tk fun _ _ _ _ h => h) ha hdb he hpl
theorem pe_fS (tk : Takes X W) (c : Fn X.prog X.w X.K X.mg X.base (CXX X) k x sp []) (hr : Room j X.A) (hk : k ≤ j) (hg : Gl X x) (ha : PA X (e :: es) t)
    (hdb : (x == ("__debug__" : Str)) = false := by decide) (he : starEach (e :: es) X.env = (false, eval e X.env) :: starEach es X.env := by rfl) (hpl : (backTo pos (starEach es X.env)).any (·.1) = false := by rfl) :
    PE X (.Call (.Name x p) (e :: es) [] pos) (tCallS sp (WE W) t) := by
  obtain ⟨f, fd, ps, ds, F, hm, kp, b, d⟩ := c.ex
  cases d
  exact pe_callS F (hr.mono hk) hg hm kp b (fun σ => passAt tk σ) ha hdb he hpl
theorem pe_mN (c : Mkr X.prog X.w X.K X.mg X.base (CXX X) k x C sp dvs) (hr : Room j X.A) (hk : k + 1 ≤ j) (hg : Gl X x) (ha : PA X (e :: es) t)
    (hdb : (x == ("__debug__" : Str)) = false := by decide) (he : starEach (e :: es) X.env = (false, eval e X.env) :: starEach es X.env := by rfl) (hpl : (backTo pos (starEach es X.env)).any (·.1) = false := by rfl) :
    PE X (.Call (.Name x p) (e :: es) [] pos) (tMake C sp dvs E0 t) := by
  obtain ⟨f, fd, ps, ds, M, F, hm, b, d⟩ := c.ex
  exact pe_make M F (hr.mono hk) hg hm b d passNo ha hdb he hpl
theorem pe_mX (tk : Takes X (fun cls d _ H => E cls d H)) (c : Mkr X.prog X.w X.K X.mg X.base (CXX X) k x C sp dvs) (hr : Room j X.A) (hk : k + 1 ≤ j) (hg : Gl X x) (ha : PA X (e :: es) t)
    (hdb : (x == ("__debug__" : Str)) = false := by decide) (he : starEach (e :: es) X.env = (false, eval e X.env) :: starEach es X.env := by rfl) (hpl : (backTo pos (starEach es X.env)).any (·.1) = false := by rfl) :
    PE X (.Call (.Name x p) (e :: es) [] pos) (tMake C sp dvs E t) := by
  obtain ⟨f, fd, ps, ds, M, F, hm, b, d⟩ := c.ex
  exact pe_make M F (hr.mono hk) hg hm b d (passes_call tk fun _ _ _ _ h => h) ha hdb he hpl
/-- the shape of o.m(..) in the model's words -/
abbrev MTree (X : Cx) (o : Expr) (m : Str) (apos pos : Pos) (args : List Expr) (pl : Sem Bool) : Prop := eval (.Call (.Attribute o m apos) args [] pos) X.env = (do
  let ov ← eval o X.env; standAt apos.atName; let (f, first) ← holding [ov] (getMethod ov m pl); callWith pos f first (backTo pos (starEach args X.env)) (backToKw pos (keywordEach [] X.env)))
theorem pe_oN {pl : Sem Bool} (c : Mt X.prog X.w X.K X.mg X.base (CXX X) k C m sp dvs) (hr : Room j X.A) (hk : k ≤ j) (he : PE X o ta) (ha : PA X (e :: es) t)
    (hst : starEach (e :: es) X.env = (false, eval e X.env) :: starEach es X.env := by rfl) (hpl : (backTo pos (starEach es X.env)).any (·.1) = false := by rfl) (ht : MTree X o m apos pos (e :: es) pl := by rfl) :
    PE X (.Call (.Attribute o m apos) (e :: es) [] pos) (tMeth C m sp dvs E0 ta t) := by
  obtain ⟨f, fd, ps, ds, hc, hm, F, b, d⟩ := c.ex
  exact pe_meth (pl := pl) he hc hm F (hr.mono hk) b d passNo ha hst hpl ht
theorem pe_oX {pl : Sem Bool} (tk : Takes X (fun cls d _ H => E cls d H)) (c : Mt X.prog X.w X.K X.mg X.base (CXX X) k C m sp dvs) (hr : Room j X.A) (hk : k ≤ j) (he : PE X o ta) (ha : PA X (e :: es) t)
    (hst : starEach (e :: es) X.env = (false, eval e X.env) :: starEach es X.env := by rfl) (hpl : (backTo pos (starEach es X.env)).any (·.1) = false := by rfl) (ht : MTree X o m apos pos (e :: es) pl := by rfl) :
    PE X (.Call (.Attribute o m apos) (e :: es) [] pos) (tMeth C m sp dvs E ta t) := by
  obtain ⟨f, fd, ps, ds, hc, hm, F, b, d⟩ := c.ex
  exact pe_meth (pl := pl) he hc hm F (hr.mono hk) b d (passes_call tk fun _ _ _ _ h => h) ha hst hpl ht
/-- in a try's body: what is raised is wished for at the slots as they stand -/
def tMethW (C : Addr) (m : Str) (sp : Sp) (W : WX) (ta : TE) (t : TA) : TE := fun σ H Q => ta σ H fun x H1 => ∃ a dx fs, x = .ref a ∧ H1 a = some (.ins C dx fs) ∧ fs.lookup m = none ∧ t σ H1 fun vs H2 => sp (x :: vs) H2 Q (WE W σ)
theorem pe_oS {pl : Sem Bool} (tk : Takes X W) (c : Mt X.prog X.w X.K X.mg X.base (CXX X) k C m sp []) (hr : Room j X.A) (hk : k ≤ j) (he : PE X o ta) (ha : PA X (e :: es) t)
    (hst : starEach (e :: es) X.env = (false, eval e X.env) :: starEach es X.env := by rfl) (hpl : (backTo pos (starEach es X.env)).any (·.1) = false := by rfl) (ht : MTree X o m apos pos (e :: es) pl := by rfl) :
    PE X (.Call (.Attribute o m apos) (e :: es) [] pos) (tMethW C m sp W ta t) := by
  obtain ⟨f, fd, ps, ds, hc, hm, F, b, d⟩ := c.ex
  cases d
  refine ⟨fun pins s σ H Q I h => PySem.W.methodCall_KW (pl := pl) (thn (he.run pins s σ H _ I h) ?_) ht⟩
  rintro u s1 ⟨x, H1, I1, rx, a, dx, fs, rfl, ea, l, q⟩
  obtain rfl : u = Value.ref a := rx
  refine getmeth_ok I1 ea hc hm l (PySem.W.callWith_K (first := [.ref a]) (h₀ := X.base) I.ok.mod.kin hm.kp (thn (ha.run pos pins s1 σ H1 _ I1 q) ?_) hst hpl)
  rintro us s2 ⟨vs, H2, I2, r, q2⟩
  exact ⟨I2.kIn, run_fnS (us := .ref a :: us) (vs := .ref a :: vs) F (hr.mono hk) b (passAt tk σ) I2 (.cons rfl r) q2⟩
end
section
variable {P : Program} {w : World} {K : PySem.W.Frag} {mg : Str → Option Value} {base : Heap}
abbrev CXP (P : Program) (w : World) : CXT := L2.CX P w
theorem Fn.mkX {x : Str} {params : Arguments} {body : List Stmt} {scope : Scope} {f : Addr} {N ps : List Str} {k : Nat} {sp : Sp}
    (F : ∃ fd, FunD K x x params body scope [] [] f fd) (g : mg x = some (.ref f)) (S : FnScope N ps scope)
    (hb : ∀ (kV doc pm : Value) (an : Option Addr) (cdv ct : Value) (us : List Value), us.length = ps.length → bindArgs (PySem.W.fnOf x x params body scope .none kV doc pm an cdv ct) ⟨us, []⟩ = pure (ps.zip us))
    (len : ∀ vs H Q E, sp vs H Q E → vs.length = ps.length)
    (hbody : ∀ (cdv : Value) (A : Around) (outer : List Env) (s : Shared) (H : Hp) (vs : List V) (Q : VK) (E : XK), Room k (A.deeper (envOfC x scope s.heap.objs.size f cdv)) → sp vs H Q E →
      ∃ t, PSs (cxOf (CXP P w) P w K mg base N x scope f cdv A outer s H E) body t ∧ t { nx := fun _ H' => Q .non H', rt := Q } (start N vs) H) : Fn P w K mg base (CXP P w) (k + 1) x sp [] := by
  obtain ⟨fd, F⟩ := F
  exact ⟨f, fd, ps, [], F.ok S len hbody, g, F.kp, F.bindsN hb, .nil⟩
theorem Mt.mkX {m qual : Str} {C : Addr} {params : Arguments} {body : List Stmt} {scope : Scope} {f : Addr} {N ps : List Str} {k : Nat} {sp : Sp}
    (c : Cls K C) (me : Meth K C m f) (F : ∃ fd, FunD K m qual params body scope [] [] f fd) (S : FnScope N ps scope)
    (hb : ∀ (kV doc pm : Value) (an : Option Addr) (cdv ct : Value) (us : List Value), us.length = ps.length → bindArgs (PySem.W.fnOf m qual params body scope .none kV doc pm an cdv ct) ⟨us, []⟩ = pure (ps.zip us))
    (len : ∀ vs H Q E, sp vs H Q E → vs.length = ps.length)
    (hbody : ∀ (cdv : Value) (A : Around) (outer : List Env) (s : Shared) (H : Hp) (vs : List V) (Q : VK) (E : XK), Room k (A.deeper (envOfC qual scope s.heap.objs.size f cdv)) → sp vs H Q E →
      ∃ t, PSs (cxOf (CXP P w) P w K mg base N qual scope f cdv A outer s H E) body t ∧ t { nx := fun _ H' => Q .non H', rt := Q } (start N vs) H) : Mt P w K mg base (CXP P w) (k + 1) C m sp [] := by
  obtain ⟨fd, F⟩ := F
  exact ⟨f, fd, ps, [], c, me, F.ok S len hbody, F.bindsN hb, .nil⟩
theorem Mkr.mkX {x qual : Str} {C : Addr} {params : Arguments} {body : List Stmt} {scope : Scope} {f : Addr} {N ps : List Str} {k : Nat} {sp : Sp} {dvs : List V}
    (n j : Nat) (M : Mk K C f) (g : mg x = some (.ref C)) (F : ∃ fd, FunD K "__init__" qual params body scope dvs [] f fd) (S : FnScope N ps scope) (hd : dvs ≠ []) (hn : n + (dvs.length - j) = ps.length)
    (hb : ∀ (T : Addr) (kV doc pm : Value) (an : Option Addr) (cdv ct : Value) (us its : List Value), us.length = n → its.length = dvs.length →
      ∃ k, bindArgs (PySem.W.fnOf "__init__" qual params body scope (.ref T) kV doc pm an cdv ct) ⟨us, []⟩ = seqItems? (.ref T) >>= k ∧ k (some its.toArray) = pure (ps.zip (us ++ its.drop j)))
    (len : ∀ vs H Q E, sp vs H Q E → vs.length = ps.length)
    (hbody : ∀ (cdv : Value) (A : Around) (outer : List Env) (s : Shared) (H : Hp) (vs : List V) (Q : VK) (E : XK), Room k (A.deeper (envOfC qual scope s.heap.objs.size f cdv)) → sp vs H Q E →
      ∃ t, PSs (cxOf (CXP P w) P w K mg base N qual scope f cdv A outer s H E) body t ∧ t { nx := fun _ H' => Q .non H', rt := Q } (start N vs) H) : Mkr P w K mg base (CXP P w) (k + 1) x C sp (dvs.drop j) := by
  obtain ⟨fd, F⟩ := F
  obtain ⟨ds, hv, hbn⟩ := F.binds1 (ps := ps) n j hd hn hb
  exact ⟨f, fd, ps, ds, M, F.ok S len hbody, g, hbn, hv⟩
theorem Mkr.mkX0 {x qual : Str} {C : Addr} {params : Arguments} {body : List Stmt} {scope : Scope} {f : Addr} {N ps : List Str} {k : Nat} {sp : Sp}
    (M : Mk K C f) (g : mg x = some (.ref C)) (F : ∃ fd, FunD K "__init__" qual params body scope [] [] f fd) (S : FnScope N ps scope)
    (hb : ∀ (kV doc pm : Value) (an : Option Addr) (cdv ct : Value) (us : List Value), us.length = ps.length → bindArgs (PySem.W.fnOf "__init__" qual params body scope .none kV doc pm an cdv ct) ⟨us, []⟩ = pure (ps.zip us))
    (len : ∀ vs H Q E, sp vs H Q E → vs.length = ps.length)
    (hbody : ∀ (cdv : Value) (A : Around) (outer : List Env) (s : Shared) (H : Hp) (vs : List V) (Q : VK) (E : XK), Room k (A.deeper (envOfC qual scope s.heap.objs.size f cdv)) → sp vs H Q E →
      ∃ t, PSs (cxOf (CXP P w) P w K mg base N qual scope f cdv A outer s H E) body t ∧ t { nx := fun _ H' => Q .non H', rt := Q } (start N vs) H) : Mkr P w K mg base (CXP P w) (k + 1) x C sp [] := by
  obtain ⟨fd, F⟩ := F
  exact ⟨f, fd, ps, [], M, F.ok S len hbody, g, F.bindsN hb, .nil⟩
end
end FW
namespace FW
open PySem PySem.Spec PyProof.Rows L2 PySem.W PySem.HandSPX PySem.ErrX
/-! ### the head's facts, with empty tables left out -/
abbrev AlZ : Type := He.AlD × Bool × List FnE
def obsZK (fa : List He.Fa) (fn : List He.DefD) (ex : Frag → Bool) (er : List ErrD) (tf : List He.Defn) (g : Addr → Option Obj) (K : Frag) : AlZ := (He.obsD fa fn K, ex K && He.tabsB g tf K, er.map fun d => fnE K d.x)
def obsZ (n : Nat) (fa : List He.Fa) (fn : List He.DefD) (ex : Frag → Bool) (er : List ErrD) (tf : List He.Defn) (g : Addr → Option Obj) : AlZ := obsZK fa fn ex er tf g (He.frT g (He.asD g n ++ [cStatics, sysModules]))
structure SaysZ (fa : List He.Fa) (fn : List He.DefD) (ex : Frag → Bool) (er : List ErrD) (tf : List He.Defn) (h : Heap) (K : Frag) : Prop where
  d : He.SaysD fa fn K
  ex : ex K = true
  er : er.map (fun d => fnE K d.x) = er.map ErrD.val
  hd : ∀ p ∈ tf, codeHdIn K (He.cT K p).1 (He.cT K p).2 = true
  out : ∀ p ∈ tf, K.lookup (He.cT K p).2 = none
  empty : ∀ p ∈ tf, h.get? (He.cT K p).2 = some { cls := .none, data := .fields #[] }
def valZ (fn : List He.DefD) (er : List ErrD) : AlZ := (He.valD fn, true, er.map ErrD.val)
theorem saysZ_of {fa : List He.Fa} {fn : List He.DefD} {ex : Frag → Bool} {er : List ErrD} {tf : List He.Defn} {h : Heap} {as : List Addr} (e : obsZK fa fn ex er tf h.get? (He.frT h.get? as) = valZ fn er) : SaysZ fa fn ex er tf h (He.frT h.get? as) := by
  have e2 : (ex (He.frT h.get? as) && He.tabsB h.get? tf (He.frT h.get? as)) = true := congrArg (fun z : AlZ => z.2.1) e
  obtain ⟨h1, h2⟩ := He.ba e2
  have key : ∀ p ∈ tf, codeHdIn (He.frT h.get? as) (He.cT (He.frT h.get? as) p).1 (He.cT (He.frT h.get? as) p).2 = true ∧ ∃ o, h.get? (He.cT (He.frT h.get? as) p).2 = some o ∧ He.emptyTab o = true := fun p hp => by
    obtain ⟨h3, h4⟩ := He.ba (List.all_eq_true.mp h2 p hp)
    refine ⟨h3, ?_⟩
    cases q : h.get? (He.cT (He.frT h.get? as) p).2 with
    | none => rw [q] at h4; cases h4
    | some o => rw [q] at h4; exact ⟨o, rfl, h4⟩
  exact ⟨congrArg (fun z : AlZ => z.1) e, h1, congrArg (fun z : AlZ => z.2.2) e, fun p hp => (key p hp).1, fun p hp => by
    obtain ⟨_, o, q, z⟩ := key p hp
    exact He.frT_none q z, fun p hp => by
    obtain ⟨_, o, q, z⟩ := key p hp
    rw [q, He.emptyTab_eq z]⟩
def hookZ (n : Nat) (fa : List He.Fa) (fn : List He.DefD) (ex : Frag → Bool) (er : List ErrD) (tf : List He.Defn) : PySem.W.Hook where
  α := AlZ
  obs := fun s => obsZ n fa fn ex er tf s.heap.get?
  val := fun _ => valZ fn er
  says := fun _ h => ∃ K : Frag, K.In h ∧ SaysZ fa fn ex er tf h K
  of := fun _ _ e => ⟨_, He.frT_in, saysZ_of e⟩
  keeps := fun _ _ _ ⟨K, hK, c⟩ k => ⟨K, PySem.W.Frag.In.keeps hK k, ⟨c.d, c.ex, c.er, c.hd, c.out, fun p hp => k _ _ (c.empty p hp)⟩⟩
theorem obsZ_eq {n : Nat} {fa : List He.Fa} {fn : List He.DefD} {ex : Frag → Bool} {er : List ErrD} {tf : List He.Defn} {g : Addr → Option Obj} {s : Shared} (h : ∀ a, g a = s.heap.get? a) : obsZ n fa fn ex er tf g = (hookZ n fa fn ex er tf).obs s := by
  have e : g = s.heap.get? := funext h
  rw [e] <;> rfl
/-! ### a def whose code object is known -/
section
variable {P : Program} {w : World} {K : PySem.W.Frag} {mg : Str → Option Value} {base : Heap}
theorem funD_okC {CX : CXT} {x qual : Str} {params : Arguments} {body : List Stmt} {scope : Scope} {dvs : List V} {kws : List (Str × V)} {fd : FuncData} {p : He.Defn} {N ps : List Str} {k : Nat} {sp : Sp}
    (F : FunD K x qual params body scope dvs kws (He.fAd K p) fd) (S : FnScope N ps scope) (len : ∀ vs H Q E, sp vs H Q E → vs.length = ps.length)
    (hbody : ∀ (A : Around) (outer : List Env) (s : Shared) (H : Hp) (vs : List V) (Q : VK) (E : XK), Room k (A.deeper (envOfC qual scope s.heap.objs.size (He.fAd K p) (.ref (He.codeOf K p)))) → sp vs H Q E →
      ∃ t, PSs (cxOf CX P w K mg base N qual scope (He.fAd K p) (.ref (He.codeOf K p)) A outer s H E) body t ∧ t { nx := fun _ H' => Q .non H', rt := Q } (start N vs) H) : FnOk P w K mg base CX (k + 1) (He.fAd K p) fd ps sp := by
  obtain ⟨oc, od, dV, kV, doc, pm, an, cdv, ct, osl, rfl, lk, hcd, _, _⟩ := F.ex
  obtain ⟨c, rfl⟩ := He.codeIn_ref hcd
  have e : He.codeOf K p = c := He.codeOf_eq lk rfl
  exact fn_of lk hcd S len fun A outer s H vs Q E hr hsp => by
    rw [← e] at hr ⊢
    exact hbody A outer s H vs Q E hr hsp
/-- a def of the module that makes lambdas -/
theorem Fn.mkC {x : Str} {params : Arguments} {body : List Stmt} {scope : Scope} {N ps : List Str} {k : Nat} {sp : Sp}
    (F : ∃ fd, FunD K x x params body scope [] [] (He.fAd K (x, none)) fd) (g : mg x = some (.ref (He.fAd K (x, none)))) (S : FnScope N ps scope)
    (hb : ∀ (kV doc pm : Value) (an : Option Addr) (cdv ct : Value) (us : List Value), us.length = ps.length → bindArgs (PySem.W.fnOf x x params body scope .none kV doc pm an cdv ct) ⟨us, []⟩ = pure (ps.zip us))
    (len : ∀ vs H Q E, sp vs H Q E → vs.length = ps.length)
    (hbody : ∀ (A : Around) (outer : List Env) (s : Shared) (H : Hp) (vs : List V) (Q : VK) (E : XK), Room k (A.deeper (envOfC x scope s.heap.objs.size (He.fAd K (x, none)) (.ref (He.codeOf K (x, none))))) → sp vs H Q E →
      ∃ t, PSs (cxOf CX0 P w K mg base N x scope (He.fAd K (x, none)) (.ref (He.codeOf K (x, none))) A outer s H E).nox body t ∧ t { nx := fun _ H' => Q .non H', rt := Q } (start N vs) H) : Fn P w K mg base CX0 (k + 1) x sp [] := by
  obtain ⟨fd, F⟩ := F
  refine ⟨_, fd, ps, [], funD_okC F S len fun A outer s H vs Q E hr h => ?_, g, F.kp, F.bindsN hb, .nil⟩
  obtain ⟨t, h1, h2⟩ := hbody A outer s H vs Q E hr h
  exact ⟨t, h1.nox, h2⟩
end
/-! ### a body that may raise what W takes, whatever the slots -/
def wLen (n : Nat) (W : WX) : WX := fun cls d σ H => σ.length = n → W cls d σ H
theorem takes_len {X : Cx} {W : WX} {n : Nat} (h : X.N.length = n) (t : Takes X W) : Takes X (wLen n W) := fun u s' ⟨a, B, sI, pins, σ, H, cls, d, e, I, nb, up, sky, na, os, ag, w⟩ =>
  t u s' ⟨a, B, sI, pins, σ, H, cls, d, e, I, nb, up, sky, na, os, ag, w (I.len.trans h)⟩
def tWithE (n : Nat) (t : XK → TS) (W : WX) : TS := fun D σ H => ∃ Ech : XK, (∀ cls d σ' H', Ech cls d H' → wLen n W cls d σ' H') ∧ t Ech D σ H
theorem pss_withE {X : Cx} {body : List Stmt} {n : Nat} {t : XK → TS} {W : WX} (h : ∀ Ech : XK, (∀ cls d σ' H', Ech cls d H' → wLen n W cls d σ' H') → PSs X body (t Ech)) : PSs X body (tWithE n t W) :=
  ⟨fun pins s σ H D I ⟨Ech, hW, q⟩ => (h Ech hW).run pins s σ H D I q⟩
/-- a() where a is the lambda at f, in slot 0 -/
def tAsk (f c : Addr) (q : Str) (tl : XK → Hp → VK → Prop) (E : XK) : TE := fun σ H Q => σ[0]? = some (some (.ref f)) ∧ H c = some (LamX.CodeO c q) ∧ tl E H Q
section
variable {X : Cx}
/-- x(lambda: body): the def x by its data -/
theorem pe_lam {T : List (Addr × Str)} {TT : (XK → Hp → VK → Prop) → Hp → VK → Prop} {x a : Str} {g c P : Addr} {k j : Nat} {pg : Arguments} {bg : List Stmt} {sg : Scope} {Ng : List Str}
    {params : Arguments} {body : Expr} {scope : Scope} {t : XK → TE} {p lpos pos : Pos} (F : ∃ fd, FunD X.K x x pg bg sg [] [] g fd) (hm : X.mg x = some (.ref g)) (hg : Gl X x)
    (hb : ∀ (kV doc pm : Value) (an : Option Addr) (cdv ct : Value) (us : List Value), us.length = [a].length → bindArgs (PySem.W.fnOf x x pg bg sg .none kV doc pm an cdv ct) ⟨us, []⟩ = pure ([a].zip us)) (Sg : FnScope Ng [a] sg) (hNg : Ng[0]? = some a) (hva : Vis sg a)
    (hG : ∀ cdv, LamX.GivesTo X Ng x sg g cdv bg a (X.env.qual ++ "<lambda>") TT)
    (TB : LamX.TabB X.base X.mg c P) (hcode : X.env.code = .ref c) (hmT : (P, X.env.qual ++ "<lambda>") ∈ T) (hu : ∀ p ∈ T, p.1 = P → p.2 = X.env.qual ++ "<lambda>") (hr : Room j X.A) (hk : k + 2 ≤ j) (L : LamX.LamS X.env.scope scope) (hdef : defaultsOf params X.env = ([], []))
    (hbind : ∀ (q : Str) (cl : List (Str × Addr)) (pm cv ctv : Value), bindArgs (PySem.W.kla_fn "<lambda>" q params body scope cl pm cv ctv) ⟨[], []⟩ = pure [])
    (hbody : ∀ (A : Around) (outer : List Env) (s : Shared) (H : Hp) (E : XK) (f c' : Addr), Room k (A.deeper (LamX.lamEnv X scope s.heap.objs.size f c')) → PE (LamX.lamCx X A outer s H E scope f c') body (t E))
    (hdb : (x == ("__debug__" : Str)) = false := by decide) (hd : (a == ("__debug__" : Str)) = false := by decide) (hcd : (a == ("__classdict__" : Str)) = false := by decide) :
    PE X (.Call (.Name x p) [.Lambda params body scope lpos] [] pos) (LamX.tLam T TT t) := by
  obtain ⟨fd, F⟩ := F
  have hbn := F.bindsN (ps := [a]) hb
  obtain ⟨oc, od, dV, kV, doc, pm, an, cdv, ct, osl, rfl, lk, hcd', _, _⟩ := F.ex
  exact LamX.pe_lamcall hg hm F.kp lk hcd' hbn Sg hNg hva (hG cdv) TB hcode hmT hu (hr.mono hk) L hdef hbind hbody hdb hd hcd
end
/-! ### what stays where lambdas are made -/
theorem extN_sqL {K : PySem.W.Frag} {H H' : Hp} {a : Addr} {xs : List V} (e : LamX.ExtN H H') (h : SqL K H a xs) : SqL K H' a xs := by
  rcases h with h | h
  · rcases h with h | ⟨o, h⟩
    · exact .inl (.inl (e _ _ h (fun _ z => by cases z)))
    · exact .inl (.inr ⟨o, e _ _ h (fun _ z => by cases z)⟩)
  · exact .inr h
theorem extN_tr {H H1 H2 : Hp} (a : LamX.ExtN H H1) (b : LamX.ExtN H1 H2) : LamX.ExtN H H2 := a.trans b
end FW
namespace FWL
open PySem PySem.Spec PyProof.Rows L2 FW
def top (i : Nat) : Stmt := PySem.Challenge.pw_floorward_k11_windows_of_tables.main.body.getD i (.Pass ⟨0, 0, 0, 0⟩)
def clsBody : Stmt → List Stmt | .ClassDef (body := b) .. => b | _ => []
def meth (i j : Nat) : Stmt := (clsBody (top i)).getD j (.Pass ⟨0, 0, 0, 0⟩)
abbrev st_is_whole : Stmt := FWL.top 7
abbrev N_is_whole : List Str := ["thing"]
theorem sc_is_whole : FnScope N_is_whole ["thing"] (defScope st_is_whole) := ⟨rfl, rfl, rfl, by decide +kernel, rfl, by decide +kernel, by decide +kernel⟩
abbrev st_is_whole_from : Stmt := FWL.top 8
abbrev N_is_whole_from : List Str := ["thing", "least"]
theorem sc_is_whole_from : FnScope N_is_whole_from ["thing", "least"] (defScope st_is_whole_from) := ⟨rfl, rfl, rfl, by decide +kernel, rfl, by decide +kernel, by decide +kernel⟩
abbrev st_power : Stmt := FWL.top 10
abbrev N_power : List Str := ["x", "k", "found", "turn"]
theorem sc_power : FnScope N_power ["x", "k"] (defScope st_power) := ⟨rfl, rfl, rfl, by decide +kernel, rfl, by decide +kernel, by decide +kernel⟩
abbrev st_trimmed : Stmt := FWL.top 11
abbrev N_trimmed : List Str := ["coefficients", "many"]
theorem sc_trimmed : FnScope N_trimmed ["coefficients"] (defScope st_trimmed) := ⟨rfl, rfl, rfl, by decide +kernel, rfl, by decide +kernel, by decide +kernel⟩
abbrev st_poly_value : Stmt := FWL.top 12
abbrev N_poly_value : List Str := ["poly", "r", "found", "coefficient"]
theorem sc_poly_value : FnScope N_poly_value ["poly", "r"] (defScope st_poly_value) := ⟨rfl, rfl, rfl, by decide +kernel, rfl, by decide +kernel, by decide +kernel⟩
abbrev st_poly_sum : Stmt := FWL.top 13
abbrev N_poly_sum : List Str := ["one", "other", "many", "first", "second", "x", "y"]
theorem sc_poly_sum : FnScope N_poly_sum ["one", "other"] (defScope st_poly_sum) := ⟨rfl, rfl, rfl, by decide +kernel, rfl, by decide +kernel, by decide +kernel⟩
abbrev st_poly_product : Stmt := FWL.top 14
abbrev N_poly_product : List Str := ["one", "other", "found", "i", "x", "j", "y"]
theorem sc_poly_product : FnScope N_poly_product ["one", "other"] (defScope st_poly_product) := ⟨rfl, rfl, rfl, by decide +kernel, rfl, by decide +kernel, by decide +kernel⟩
abbrev st_poly_less : Stmt := FWL.top 15
abbrev N_poly_less : List Str := ["one", "other", "coefficient"]
theorem sc_poly_less : FnScope N_poly_less ["one", "other"] (defScope st_poly_less) := ⟨rfl, rfl, rfl, by decide +kernel, rfl, by decide +kernel, by decide +kernel⟩
abbrev st_poly_power : Stmt := FWL.top 16
abbrev N_poly_power : List Str := ["poly", "k", "found", "turn"]
theorem sc_poly_power : FnScope N_poly_power ["poly", "k"] (defScope st_poly_power) := ⟨rfl, rfl, rfl, by decide +kernel, rfl, by decide +kernel, by decide +kernel⟩
abbrev st_settled : Stmt := FWL.top 17
abbrev N_settled : List Str := ["poly", "coefficient"]
theorem sc_settled : FnScope N_settled ["poly"] (defScope st_settled) := ⟨rfl, rfl, rfl, by decide +kernel, rfl, by decide +kernel, by decide +kernel⟩
abbrev st_positive_from : Stmt := FWL.top 18
abbrev N_positive_from : List Str := ["poly", "least", "found"]
theorem sc_positive_from : FnScope N_positive_from ["poly", "least"] (defScope st_positive_from) := ⟨rfl, rfl, rfl, by decide +kernel, rfl, by decide +kernel, by decide +kernel⟩
abbrev st_is_word_of : Stmt := FWL.top 24
abbrev N_is_word_of : List Str := ["thing", "words"]
theorem sc_is_word_of : FnScope N_is_word_of ["thing", "words"] (defScope st_is_word_of) := ⟨rfl, rfl, rfl, by decide +kernel, rfl, by decide +kernel, by decide +kernel⟩
abbrev st_wrong_part : Stmt := FWL.top 25
abbrev N_wrong_part : List Str := ["k", "a", "c", "d", "stop", "told", "mend"]
theorem sc_wrong_part : FnScope N_wrong_part ["k", "a", "c", "d", "stop", "told", "mend"] (defScope st_wrong_part) := ⟨rfl, rfl, rfl, by decide +kernel, rfl, by decide +kernel, by decide +kernel⟩
abbrev st_Average_init : Stmt := FWL.meth 26 0
abbrev N_Average_init : List Str := ["self", "k", "a", "c", "d", "stop", "told", "mend", "wrong"]
theorem sc_Average_init : FnScope N_Average_init ["self", "k", "a", "c", "d", "stop", "told", "mend"] (defScope st_Average_init) := ⟨rfl, rfl, rfl, by decide +kernel, rfl, by decide +kernel, by decide +kernel⟩
abbrev st_Average_led : Stmt := FWL.meth 26 4
abbrev N_Average_led : List Str := ["self", "n", "x", "quotient"]
theorem sc_Average_led : FnScope N_Average_led ["self", "n", "x"] (defScope st_Average_led) := ⟨rfl, rfl, rfl, by decide +kernel, rfl, by decide +kernel, by decide +kernel⟩
abbrev st_Average_nearness : Stmt := FWL.meth 26 8
abbrev N_Average_nearness : List Str := ["self"]
theorem sc_Average_nearness : FnScope N_Average_nearness ["self"] (defScope st_Average_nearness) := ⟨rfl, rfl, rfl, by decide +kernel, rfl, by decide +kernel, by decide +kernel⟩
abbrev st_top_gap : Stmt := FWL.top 28
abbrev N_top_gap : List Str := ["loop", "reach"]
theorem sc_top_gap : FnScope N_top_gap ["loop"] (defScope st_top_gap) := ⟨rfl, rfl, rfl, by decide +kernel, rfl, by decide +kernel, by decide +kernel⟩
abbrev st_low_gap : Stmt := FWL.top 30
abbrev N_low_gap : List Str := ["loop", "found", "lower"]
theorem sc_low_gap : FnScope N_low_gap ["loop"] (defScope st_low_gap) := ⟨rfl, rfl, rfl, by decide +kernel, rfl, by decide +kernel, by decide +kernel⟩
abbrev st_least_led : Stmt := FWL.top 31
abbrev N_least_led : List Str := ["loop", "i"]
theorem sc_least_led : FnScope N_least_led ["loop", "i"] (defScope st_least_led) := ⟨rfl, rfl, rfl, by decide +kernel, rfl, by decide +kernel, by decide +kernel⟩
abbrev st_slant : Stmt := FWL.top 32
abbrev N_slant : List Str := ["loop"]
theorem sc_slant : FnScope N_slant ["loop"] (defScope st_slant) := ⟨rfl, rfl, rfl, by decide +kernel, rfl, by decide +kernel, by decide +kernel⟩
abbrev st_end_poly : Stmt := FWL.top 33
abbrev N_end_poly : List Str := ["k"]
theorem sc_end_poly : FnScope N_end_poly ["k"] (defScope st_end_poly) := ⟨rfl, rfl, rfl, by decide +kernel, rfl, by decide +kernel, by decide +kernel⟩
abbrev st_rest_poly : Stmt := FWL.top 34
abbrev N_rest_poly : List Str := ["k", "i", "j"]
theorem sc_rest_poly : FnScope N_rest_poly ["k", "i", "j"] (defScope st_rest_poly) := ⟨rfl, rfl, rfl, by decide +kernel, rfl, by decide +kernel, by decide +kernel⟩
abbrev st_needed : Stmt := FWL.top 35
abbrev N_needed : List Str := ["loop", "i", "gap"]
theorem sc_needed : FnScope N_needed ["loop", "i", "gap"] (defScope st_needed) := ⟨rfl, rfl, rfl, by decide +kernel, rfl, by decide +kernel, by decide +kernel⟩
abbrev st_row_cuts : Stmt := FWL.top 36
abbrev N_row_cuts : List Str := ["loop", "i", "most", "found", "gap"]
theorem sc_row_cuts : FnScope N_row_cuts ["loop", "i"] (defScope st_row_cuts) := ⟨rfl, rfl, rfl, by decide +kernel, rfl, by decide +kernel, by decide +kernel⟩
abbrev st_in_the_end : Stmt := FWL.top 37
abbrev N_in_the_end : List Str := ["k", "poly"]
theorem sc_in_the_end : FnScope N_in_the_end ["k", "poly"] (defScope st_in_the_end) := ⟨rfl, rfl, rfl, by decide +kernel, rfl, by decide +kernel, by decide +kernel⟩
abbrev st_all_cuts : Stmt := FWL.top 38
abbrev N_all_cuts : List Str := ["loop", "low", "high", "found", "i", "poly"]
theorem sc_all_cuts : FnScope N_all_cuts ["loop", "low", "high"] (defScope st_all_cuts) := ⟨rfl, rfl, rfl, by decide +kernel, rfl, by decide +kernel, by decide +kernel⟩
abbrev st_fall_poly : Stmt := FWL.top 39
abbrev N_fall_poly : List Str := ["loop", "gap", "reach", "lesser"]
theorem sc_fall_poly : FnScope N_fall_poly ["loop", "gap"] (defScope st_fall_poly) := ⟨rfl, rfl, rfl, by decide +kernel, rfl, by decide +kernel, by decide +kernel⟩
abbrev st_above : Stmt := FWL.top 40
abbrev N_above : List Str := ["one", "other"]
theorem sc_above : FnScope N_above ["one", "other"] (defScope st_above) := ⟨rfl, rfl, rfl, by decide +kernel, rfl, by decide +kernel, by decide +kernel⟩
abbrev st_conditions : Stmt := FWL.top 41
abbrev N_conditions : List Str := ["loop", "low", "high", "cuts", "rising", "found", "t", "i"]
theorem sc_conditions : FnScope N_conditions ["loop", "low", "high", "cuts"] (defScope st_conditions) := ⟨rfl, rfl, rfl, by decide +kernel, rfl, by decide +kernel, by decide +kernel⟩
abbrev st_maps_of : Stmt := FWL.top 42
abbrev N_maps_of : List Str := ["loop", "low", "high", "cuts", "found", "t", "passed", "row", "i", "poly"]
theorem sc_maps_of : FnScope N_maps_of ["loop", "low", "high", "cuts"] (defScope st_maps_of) := ⟨rfl, rfl, rfl, by decide +kernel, rfl, by decide +kernel, by decide +kernel⟩
abbrev st_table : Stmt := FWL.top 43
abbrev N_table : List Str := ["loop", "low", "high", "cuts", "first", "poly"]
theorem sc_table : FnScope N_table ["loop"] (defScope st_table) := ⟨rfl, rfl, rfl, by decide +kernel, rfl, by decide +kernel, by decide +kernel⟩
abbrev st_l_stream : Stmt := FWL.top 45
abbrev N_l_stream : List Str := ["_law_script", "_law_k", "_law_cell"]
theorem sc_l_stream : FnScope N_l_stream ["_law_script", "_law_k"] (defScope st_l_stream) := ⟨rfl, rfl, rfl, by decide +kernel, rfl, by decide +kernel, by decide +kernel⟩
abbrev st_l_draw : Stmt := FWL.top 46
abbrev N_l_draw : List Str := ["_law_stream_here", "_law_many", "_law_digit", "_law_spread"]
theorem sc_l_draw : FnScope N_l_draw ["_law_stream_here", "_law_many"] (defScope st_l_draw) := ⟨rfl, rfl, rfl, by decide +kernel, rfl, by decide +kernel, by decide +kernel⟩
abbrev st_l_pick : Stmt := FWL.top 47
abbrev N_l_pick : List Str := ["_law_stream_here", "_law_things"]
theorem sc_l_pick : FnScope N_l_pick ["_law_stream_here", "_law_things"] (defScope st_l_pick) := ⟨rfl, rfl, rfl, by decide +kernel, rfl, by decide +kernel, by decide +kernel⟩
abbrev st_l_power : Stmt := FWL.top 48
abbrev N_l_power : List Str := ["_law_x", "_law_k", "_law_found", "_law_turn"]
theorem sc_l_power : FnScope N_l_power ["_law_x", "_law_k"] (defScope st_l_power) := ⟨rfl, rfl, rfl, by decide +kernel, rfl, by decide +kernel, by decide +kernel⟩
abbrev st_l_weights : Stmt := FWL.top 49
abbrev N_l_weights : List Str := ["_law_k", "_law_found", "_law_a", "_law_c"]
theorem sc_l_weights : FnScope N_l_weights ["_law_k"] (defScope st_l_weights) := ⟨rfl, rfl, rfl, by decide +kernel, rfl, by decide +kernel, by decide +kernel⟩
abbrev st_l_parts : Stmt := FWL.top 50
abbrev N_l_parts : List Str := ["_law_stream_here", "_law_k", "_law_a", "_law_c", "_law_d", "_law_stop", "_law_told", "_law_mend"]
theorem sc_l_parts : FnScope N_l_parts ["_law_stream_here"] (defScope st_l_parts) := ⟨rfl, rfl, rfl, by decide +kernel, rfl, by decide +kernel, by decide +kernel⟩
abbrev st_l_loop : Stmt := FWL.top 51
abbrev N_l_loop : List Str := ["_law_parts_here"]
theorem sc_l_loop : FnScope N_l_loop ["_law_parts_here"] (defScope st_l_loop) := ⟨rfl, rfl, rfl, by decide +kernel, rfl, by decide +kernel, by decide +kernel⟩
abbrev st_l_led : Stmt := FWL.top 52
abbrev N_l_led : List Str := ["_law_parts_here", "_law_n", "_law_x"]
theorem sc_l_led : FnScope N_l_led ["_law_parts_here", "_law_n", "_law_x"] (defScope st_l_led) := ⟨rfl, rfl, rfl, by decide +kernel, rfl, by decide +kernel, by decide +kernel⟩
abbrev st_l_near : Stmt := FWL.top 53
abbrev N_l_near : List Str := ["_law_parts_here"]
theorem sc_l_near : FnScope N_l_near ["_law_parts_here"] (defScope st_l_near) := ⟨rfl, rfl, rfl, by decide +kernel, rfl, by decide +kernel, by decide +kernel⟩
abbrev st_l_window : Stmt := FWL.top 54
abbrev N_l_window : List Str := ["_law_parts_here", "_law_k", "_law_a", "_law_c", "_law_d", "_law_stop", "_law_told", "_law_mend", "_law_low", "_law_lower"]
theorem sc_l_window : FnScope N_l_window ["_law_parts_here"] (defScope st_l_window) := ⟨rfl, rfl, rfl, by decide +kernel, rfl, by decide +kernel, by decide +kernel⟩
abbrev st_l_root_drawn : Stmt := FWL.top 55
abbrev N_l_root_drawn : List Str := ["_law_stream_here", "_law_first", "_law_most"]
theorem sc_l_root_drawn : FnScope N_l_root_drawn ["_law_stream_here", "_law_first"] (defScope st_l_root_drawn) := ⟨rfl, rfl, rfl, by decide +kernel, rfl, by decide +kernel, by decide +kernel⟩
abbrev st_l_has_form : Stmt := FWL.top 56
abbrev N_l_has_form : List Str := ["_law_thing", "_law_x", "_law_cuts", "_law_maps", "_law_row", "_law_cut"]
theorem sc_l_has_form : FnScope N_l_has_form ["_law_thing"] (defScope st_l_has_form) := ⟨rfl, rfl, rfl, by decide +kernel, rfl, by decide +kernel, by decide +kernel⟩
abbrev st_law : Stmt := FWL.top 57
abbrev N_law : List Str := ["_law_script", "_law_turn", "_law_stream_here", "_law_parts_here", "_law_found", "_law_first", "_law_low", "_law_high", "_law_cuts", "_law_maps", "_law_t", "_law_k", "_law_r", "_law_n", "_law_i", "_law_x"]
theorem sc_law : FnScope N_law ["_law_script"] (defScope st_law) := ⟨rfl, rfl, rfl, by decide +kernel, rfl, by decide +kernel, by decide +kernel⟩
def fn : List He.DefD := [⟨("is_whole", none), "is_whole", "is_whole", defArgs st_is_whole, defBody st_is_whole, defScope st_is_whole, [], []⟩,
  ⟨("is_whole_from", none), "is_whole_from", "is_whole_from", defArgs st_is_whole_from, defBody st_is_whole_from, defScope st_is_whole_from, [], []⟩,
  ⟨("power", none), "power", "power", defArgs st_power, defBody st_power, defScope st_power, [], []⟩,
  ⟨("trimmed", none), "trimmed", "trimmed", defArgs st_trimmed, defBody st_trimmed, defScope st_trimmed, [], []⟩,
  ⟨("poly_value", none), "poly_value", "poly_value", defArgs st_poly_value, defBody st_poly_value, defScope st_poly_value, [], []⟩,
  ⟨("poly_sum", none), "poly_sum", "poly_sum", defArgs st_poly_sum, defBody st_poly_sum, defScope st_poly_sum, [], []⟩,
  ⟨("poly_product", none), "poly_product", "poly_product", defArgs st_poly_product, defBody st_poly_product, defScope st_poly_product, [], []⟩,
  ⟨("poly_less", none), "poly_less", "poly_less", defArgs st_poly_less, defBody st_poly_less, defScope st_poly_less, [], []⟩,
  ⟨("poly_power", none), "poly_power", "poly_power", defArgs st_poly_power, defBody st_poly_power, defScope st_poly_power, [], []⟩,
  ⟨("settled", none), "settled", "settled", defArgs st_settled, defBody st_settled, defScope st_settled, [], []⟩,
  ⟨("positive_from", none), "positive_from", "positive_from", defArgs st_positive_from, defBody st_positive_from, defScope st_positive_from, [], []⟩,
  ⟨("is_word_of", none), "is_word_of", "is_word_of", defArgs st_is_word_of, defBody st_is_word_of, defScope st_is_word_of, [], []⟩,
  ⟨("wrong_part", none), "wrong_part", "wrong_part", defArgs st_wrong_part, defBody st_wrong_part, defScope st_wrong_part, [], []⟩,
  ⟨("Average", some "__init__"), "__init__", "Average.__init__", defArgs st_Average_init, defBody st_Average_init, defScope st_Average_init, [.str "old", .str "none"], []⟩,
  ⟨("Average", some "led"), "led", "Average.led", defArgs st_Average_led, defBody st_Average_led, defScope st_Average_led, [], []⟩,
  ⟨("Average", some "nearness"), "nearness", "Average.nearness", defArgs st_Average_nearness, defBody st_Average_nearness, defScope st_Average_nearness, [], []⟩,
  ⟨("top_gap", none), "top_gap", "top_gap", defArgs st_top_gap, defBody st_top_gap, defScope st_top_gap, [], []⟩,
  ⟨("low_gap", none), "low_gap", "low_gap", defArgs st_low_gap, defBody st_low_gap, defScope st_low_gap, [], []⟩,
  ⟨("least_led", none), "least_led", "least_led", defArgs st_least_led, defBody st_least_led, defScope st_least_led, [], []⟩,
  ⟨("slant", none), "slant", "slant", defArgs st_slant, defBody st_slant, defScope st_slant, [], []⟩,
  ⟨("end_poly", none), "end_poly", "end_poly", defArgs st_end_poly, defBody st_end_poly, defScope st_end_poly, [], []⟩,
  ⟨("rest_poly", none), "rest_poly", "rest_poly", defArgs st_rest_poly, defBody st_rest_poly, defScope st_rest_poly, [], []⟩,
  ⟨("needed", none), "needed", "needed", defArgs st_needed, defBody st_needed, defScope st_needed, [], []⟩,
  ⟨("row_cuts", none), "row_cuts", "row_cuts", defArgs st_row_cuts, defBody st_row_cuts, defScope st_row_cuts, [], []⟩,
  ⟨("in_the_end", none), "in_the_end", "in_the_end", defArgs st_in_the_end, defBody st_in_the_end, defScope st_in_the_end, [], []⟩,
  ⟨("all_cuts", none), "all_cuts", "all_cuts", defArgs st_all_cuts, defBody st_all_cuts, defScope st_all_cuts, [], []⟩,
  ⟨("fall_poly", none), "fall_poly", "fall_poly", defArgs st_fall_poly, defBody st_fall_poly, defScope st_fall_poly, [], []⟩,
  ⟨("above", none), "above", "above", defArgs st_above, defBody st_above, defScope st_above, [], []⟩,
  ⟨("conditions", none), "conditions", "conditions", defArgs st_conditions, defBody st_conditions, defScope st_conditions, [], []⟩,
  ⟨("maps_of", none), "maps_of", "maps_of", defArgs st_maps_of, defBody st_maps_of, defScope st_maps_of, [], []⟩,
  ⟨("table", none), "table", "table", defArgs st_table, defBody st_table, defScope st_table, [], []⟩,
  ⟨("_law_stream", none), "_law_stream", "_law_stream", defArgs st_l_stream, defBody st_l_stream, defScope st_l_stream, [], []⟩,
  ⟨("_law_draw", none), "_law_draw", "_law_draw", defArgs st_l_draw, defBody st_l_draw, defScope st_l_draw, [], []⟩,
  ⟨("_law_pick", none), "_law_pick", "_law_pick", defArgs st_l_pick, defBody st_l_pick, defScope st_l_pick, [], []⟩,
  ⟨("_law_power", none), "_law_power", "_law_power", defArgs st_l_power, defBody st_l_power, defScope st_l_power, [], []⟩,
  ⟨("_law_weights", none), "_law_weights", "_law_weights", defArgs st_l_weights, defBody st_l_weights, defScope st_l_weights, [], []⟩,
  ⟨("_law_parts", none), "_law_parts", "_law_parts", defArgs st_l_parts, defBody st_l_parts, defScope st_l_parts, [], []⟩,
  ⟨("_law_loop", none), "_law_loop", "_law_loop", defArgs st_l_loop, defBody st_l_loop, defScope st_l_loop, [], []⟩,
  ⟨("_law_led", none), "_law_led", "_law_led", defArgs st_l_led, defBody st_l_led, defScope st_l_led, [], []⟩,
  ⟨("_law_near", none), "_law_near", "_law_near", defArgs st_l_near, defBody st_l_near, defScope st_l_near, [], []⟩,
  ⟨("_law_window", none), "_law_window", "_law_window", defArgs st_l_window, defBody st_l_window, defScope st_l_window, [], []⟩,
  ⟨("_law_root_drawn", none), "_law_root_drawn", "_law_root_drawn", defArgs st_l_root_drawn, defBody st_l_root_drawn, defScope st_l_root_drawn, [], []⟩,
  ⟨("_law_has_form", none), "_law_has_form", "_law_has_form", defArgs st_l_has_form, defBody st_l_has_form, defScope st_l_has_form, [], []⟩,
  ⟨("law", none), "law", "law", defArgs st_law, defBody st_law, defScope st_law, [], []⟩]
def fa : List He.Fa := [.free "abs", .free "all", .free "bool", .free "enumerate", .free "int", .free "isinstance", .free "len", .free "list", .free "max", .free "range", .free "set", .free "sorted", .free "str", .free "tuple", .free "zip", .glo "LOOKS", .glo "MENDS", .glo "STOPS", .glo "TOLDS", .glo "is_whole", .glo "is_whole_from", .glo "power", .glo "trimmed", .glo "poly_value", .glo "poly_sum", .glo "poly_product", .glo "poly_less", .glo "poly_power", .glo "settled", .glo "positive_from", .glo "is_word_of", .glo "wrong_part", .glo "top_gap", .glo "low_gap", .glo "least_led", .glo "slant", .glo "end_poly", .glo "rest_poly", .glo "needed", .glo "row_cuts", .glo "in_the_end", .glo "all_cuts", .glo "fall_poly", .glo "above", .glo "conditions", .glo "maps_of", .glo "table", .glo "_law_stream", .glo "_law_draw", .glo "_law_pick", .glo "_law_power", .glo "_law_weights", .glo "_law_parts", .glo "_law_loop", .glo "_law_led", .glo "_law_near", .glo "_law_window", .glo "_law_root_drawn", .glo "_law_has_form", .glo "law", .glo "Average", .cls "Average", .mkr "Average", .meth "Average" "led", .meth "Average" "nearness", .noat "Average" "k", .noat "Average" "a", .noat "Average" "c", .noat "Average" "d", .noat "Average" "stop", .noat "Average" "told", .noat "Average" "mend"]
def ex (K : PySem.W.Frag) : Bool := ([He.tupB K "STOPS" [.str "notless", .str "equal", .str "near1", .str "near2", .str "back", .str "under", .str "held"], He.tupB K "TOLDS" [.str "old", .str "new", .str "less", .str "more"], He.tupB K "MENDS" [.str "none", .str "down", .str "up", .str "both"], He.tupB K "LOOKS" [.str "under", .str "held"]] : List Bool).all id
abbrev R : PySem.W.OpenRow := PySem.W.OpenLaw.row PySem.Challenge.rw_floorward_k11_windows_of_tables
def er : List FW.ErrD := []
def tf : List He.Defn := [("all_cuts", none)]
abbrev hk : PySem.W.Hook := FW.hookZ 4 fa fn ex er tf
def ob (s : PySem.W.SharedT) : FW.AlZ := FW.obsZ 4 fa fn ex er tf (HandSHeadRun.getT s)
theorem ob_eq (s : PySem.W.SharedT) : ob s = hk.obs s.abs := FW.obsZ_eq (HandSHeadRun.getT_eq s)
def loose0 : List Str := ["_wall", "FloorError", "BadNumber", "BadLoop", "BadStart", "is_whole", "is_whole_from", "check_number", "power", "trimmed", "poly_value", "poly_sum", "poly_product", "poly_less", "poly_power", "settled", "positive_from", "STOPS", "TOLDS", "MENDS", "LOOKS", "is_word_of", "wrong_part", "Average", "check_start", "top_gap", "low_gap", "least_led", "slant", "end_poly"]
def loose1 : List Str := ["rest_poly", "needed", "row_cuts", "in_the_end", "all_cuts", "fall_poly", "above", "conditions", "maps_of", "table", "_law_stream", "_law_draw", "_law_pick", "_law_power", "_law_weights", "_law_parts", "_law_loop", "_law_led", "_law_near", "_law_window", "_law_root_drawn", "_law_has_form"]
def loose : List Str := loose0 ++ loose1
theorem map3 {σ α β γ : Type} {o : Option σ} {f : σ → α} {g : σ → β} {h : σ → γ} {a : α} {b : β} {c : γ} (h1 : o.map f = some a) (h2 : o.map g = some b) (h3 : o.map h = some c) : o.map (fun s => (f s, g s, h s)) = some (a, b, c) := by
  cases o with
  | none => cases h1
  | some s => cases h1; cases h2; cases h3; rfl
open PySem PySem.W PySem.Calls PyProof.Rows HandSHeadRun in
theorem runA (w : World) : ∀ os : OsState, (endF (stepQ (denQ tabQ) R.prog w) 30000 R.prog w os).map (fun s => looksF R.prog (boot_heap w.params) s.abs) = some true := by
  intro os
  kernel_rfl
open PySem PySem.W PySem.Calls PyProof.Rows HandSHeadRun in
theorem runB (w : World) : ∀ os : OsState, (endF (stepQ (denQ tabQ) R.prog w) 30000 R.prog w os).map (fun s => seenQ (view R.prog [57]) loose (importedModules R.prog.main.body) (fun s => xlAt (view R.prog [57]) [] s && recOk R.toRowW.records s) s.abs) = some (openGood (view R.prog [57]) loose) := by
  intro os
  kernel_rfl
open PySem PySem.W PySem.Calls PyProof.Rows HandSHeadRun in
theorem runC (w : World) : ∀ os : OsState, (endF (stepQ (denQ tabQ) R.prog w) 30000 R.prog w os).map (fun s => ob s) = some (hk.val w) := by
  intro os
  kernel_rfl
theorem run (w : World) : HandSHeadRun.RunEq R (PySem.W.view R.prog [57]) hk ob 30000 loose w := fun os => map3 (runA w os) (runB w os) (runC w os)
end FWL
namespace FW
open PySem PySem.Spec PyProof.Rows L2
/-! ### readings, step by step: the main goal first, the side goals behind it -/
section
variable {K : PySem.W.Frag} {σ : L2.St} {H : Hp} {Q : VK} {D : Ends} {ta tb tc te : TE} {tt tu : TT} {ts tv : TS} {tA tA' : TA} {v : V} {i j : Int} {n : Nat} {a : Addr} {xs ys : List V}
theorem s_seq (k : ts { D with nx := tv D } σ H) : tSeq ts tv D σ H := k
theorem s_next (k : D.nx σ H) : tNext D σ H := k
theorem s_asg (k : te σ H fun v H1 => D.nx (σ.set n (some v)) H1) : tAsg te (gName n) D σ H := k
theorem s_asgG {g : TG} (k : te σ H fun v H1 => g v σ H1 D.nx) : tAsg te g D σ H := k
theorem s_ret (k : te σ H D.rt) : tRet te D σ H := k
theorem s_if (k : tt σ H fun b H1 => if b = true then ts D σ H1 else tv D σ H1) : tIfS tt ts tv D σ H := k
theorem s_drop (k : te σ H fun _ H1 => D.nx σ H1) : tDrop te D σ H := k
theorem s_par {m : Nat} (k : tA σ H fun vs H1 => ∃ v w, vs = [v, w] ∧ D.nx ((σ.set n (some v)).set m (some w)) H1) : tPar n m tA D σ H := k
theorem s_par2 {R : V → V → Prop} {x y : V} (k : R x y) : ∃ v w, [x, y] = [v, w] ∧ R v w := ⟨x, y, rfl, k⟩
theorem s_aug {ti : TIp} {x : V} (k : te σ H fun y H1 => ti x y H1 fun z H2 => D.nx (σ.set n (some z)) H2) (h : σ[n]? = some (some x)) : tAug n te ti D σ H := ⟨x, h, k⟩
theorem s_fld {f : Str} (k : te σ H fun y H1 => ta σ H1 fun x H2 => ∃ a C dx fs, x = .ref a ∧ H2 a = some (.ins C dx fs) ∧ Cls K C ∧ NoAttr K C f ∧ fs.length < 1000 ∧ D.nx σ (upd H2 a (.ins C dx (putF f y fs)))) : sFld K ta te f D σ H := k
theorem e_var (k : Q v H) (h : σ[n]? = some (some v)) : tVar n σ H Q := ⟨v, h, k⟩
theorem e_c (k : Q v H) : tC v σ H Q := k
theorem e_op {r : R2} (k : ta σ H fun x H1 => tb σ H1 fun y H2 => r x y H2 Q) : tOp r ta tb σ H Q := k
theorem e_un {r : V → Hp → VK → Prop} (k : ta σ H fun x H1 => r x H1 Q) : tUn r ta σ H Q := k
theorem e_U {g : Int → V} (k : Q (g i) H) : rU g (.int i) H Q := ⟨i, rfl, k⟩
theorem e_I0 {g : Int → Int → V} (k : Q (g i j) H) : rI0 g (.int i) (.int j) H Q := ⟨i, j, rfl, rfl, k⟩
theorem e_I {C : Int → Int → Prop} {g : Int → Int → V} (k : Q (g i j) H) (c : C i j) : rI C g (.int i) (.int j) H Q := ⟨i, j, rfl, rfl, c, k⟩
theorem e_ip {f : Int → Int → Int} (k : Q (.int (f i j)) H) : ipI f (.int i) (.int j) H Q := ⟨i, j, rfl, rfl, k⟩
theorem e_eq {x y : V} (k : Q (.bl (decide (x = y))) H) (h : scal x y = true) : rEq x y H Q := ⟨h, k⟩
theorem e_ne {x y : V} (k : Q (.bl (!decide (x = y))) H) (h : scal x y = true) : rNe x y H Q := ⟨h, k⟩
theorem e_test {R : Bool → Hp → Prop} (k : te σ H fun x H' => ∃ k, x = .bl k ∧ R k H') : tTest te σ H R := k
theorem e_tB {R : Bool → Hp → Prop} (k : te σ H fun x H' => ∃ k, x = .bl k ∧ R k H') : L2.tB te σ H R := k
theorem e_bl {R : Bool → Prop} {b : Bool} (k : R b) : ∃ k, V.bl b = .bl k ∧ R k := ⟨b, rfl, k⟩
theorem e_not {R : Bool → Hp → Prop} (k : tt σ H fun c H1 => R (!c) H1) : tNot tt σ H R := k
theorem e_and {R : Bool → Hp → Prop} (k : tt σ H fun c H1 => if c = true then tu σ H1 R else R false H1) : tAnd tt tu σ H R := k
theorem e_or {R : Bool → Hp → Prop} (k : tt σ H fun c H1 => if c = true then R true H1 else tu σ H1 R) : tOr tt tu σ H R := k
theorem e_andV (k : ta σ H fun x H1 => ∃ c, x = .bl c ∧ if c = true then tb σ H1 Q else Q (.bl false) H1) : tAndV ta tb σ H Q := k
theorem e_orV (k : ta σ H fun x H1 => ∃ c, x = .bl c ∧ if c = true then Q (.bl true) H1 else tb σ H1 Q) : tOrV ta tb σ H Q := k
theorem e_notV (k : ta σ H fun x H1 => ∃ c, x = .bl c ∧ Q (.bl (!c)) H1) : tNotV ta σ H Q := k
theorem e_ifx (k : tt σ H fun c H1 => if c = true then ta σ H1 Q else tb σ H1 Q) : tIf tt ta tb σ H Q := k
theorem e_nil {R : List V → Hp → Prop} (k : R [] H) : tNil σ H R := k
theorem e_cons {R : List V → Hp → Prop} (k : te σ H fun x H1 => tA σ H1 fun xs H2 => R (x :: xs) H2) : tCons te tA σ H R := k
theorem e_call {sp : Sp} {E : XK} (k : tA σ H fun vs H1 => sp vs H1 Q E) : tCall sp [] E tA σ H Q := by
  unfold tCall
  have e : (fun vs H1 => sp (vs ++ []) H1 Q E) = fun vs H1 => sp vs H1 Q E := by funext vs H1; rw [List.append_nil]
  rw [e]; exact k
theorem e_cb {r : List V → Hp → VK → Prop} (k : tA σ H fun vs H1 => r vs H1 Q) : tCB r tA σ H Q := k
theorem e_lst (k : tA σ H fun xs H1 => xs.length ≤ sizeLine ∧ ∀ p, H1 p = none → Q (.ref p) (upd H1 p (.lst xs))) : tLst tA σ H Q := k
theorem e_tup (k : tA σ H fun xs H1 => xs.length ≤ sizeLine ∧ ∀ p, H1 p = none → Q (.ref p) (upd H1 p (.tup xs))) : tTup tA σ H Q := k
theorem e_ixL (k : Q v H) (h : SqL K H a xs) (ha : atI xs i = some v) : rIxL K (.ref a) (.int i) H Q := ⟨a, xs, i, v, rfl, rfl, h, ha, k⟩
theorem e_ixT (k : Q v H) (h : SqT K H a xs) (ha : atI xs i = some v) : rIxT K (.ref a) (.int i) H Q := ⟨a, xs, i, v, rfl, rfl, h, ha, k⟩
theorem e_len (k : Q (.int xs.length) H) (h : SqL K H a xs ∨ SqT K H a xs) : Evl.rLenS K [.ref a] H Q := ⟨a, xs, rfl, h, k⟩
theorem e_int (k : Q (.int i) H) : rInt1 [.int i] H Q := .inl ⟨i, rfl, k⟩
theorem e_intB {b : Bool} (k : Q (.int (if b then 1 else 0)) H) : rInt1 [.bl b] H Q := .inr ⟨b, rfl, k⟩
theorem e_abs (k : Q (.int (if i < 0 then -i else i)) H) : rAbs [.int i] H Q := ⟨i, rfl, k⟩
theorem e_max2 (k : Q (.int (if j > i then j else i)) H) : rMax2 [.int i, .int j] H Q := ⟨i, j, rfl, k⟩
theorem e_min2 (k : Q (.int (if j < i then j else i)) H) : rMin2 [.int i, .int j] H Q := ⟨i, j, rfl, k⟩
theorem e_isN {x : V} (k : Q (.bl (decide (x = .non))) H) : rIsN x .non H Q := ⟨rfl, k⟩
theorem e_notN {x : V} (k : Q (.bl (!decide (x = .non))) H) : rNotN x .non H Q := ⟨rfl, k⟩
theorem e_in {x : V} {neg : Bool} (k : Q (.bl (if neg then !inV x xs else inV x xs)) H) (h : SqL K H a xs ∨ SqT K H a xs) (hx : flatV x = true) (ha : xs.all flatV = true) : rIn K neg x (.ref a) H Q := ⟨a, xs, rfl, h, hx, ha, k⟩
theorem e_chain {r r' : R2} (k : ta σ H fun x H1 => tb σ H1 fun y H2 => r x y H2 fun z H3 => ∃ k, z = .bl k ∧ (if k = true then tc σ H3 fun w' H4 => r' y w' H4 Q else Q (.bl false) H3)) : tChain r r' ta tb tc σ H Q := k
theorem e_fld {f : Str} {C dx : Addr} {fs : List (Str × V)} (k : ta σ H fun x H1 => ∃ a C dx fs v, x = .ref a ∧ H1 a = some (.ins C dx fs) ∧ Cls K C ∧ NoAttr K C f ∧ fs.lookup f = some v ∧ Q v H1) : tFld K ta f σ H Q := k
/-- what a for asks behind its walked thing -/
def ForK (g : TG) (tb : TS) (D : Ends) (σ : L2.St) (J : It) (H : Hp) : Prop := ∃ W : Nat → Nat → L2.St → Hp → Prop, (∃ m, W 0 m σ H) ∧ ∀ i m σ H, W i m σ H →
  (J.stop i H ∧ D.nx σ H) ∨ (J.go i H ∧ ∃ N : L2.St → Hp → Prop, (∀ σ' H', N σ' H' → ∃ m', m' < m ∧ W (i + 1) m' σ' H') ∧ ∀ x H', J.yld i H x H' → g x σ H' fun σ2 H2 => tb { D with nx := N, ct := N, bk := D.nx } σ2 H2)
theorem s_for {wi : TI} {g : TG} (k : wi σ H fun J H1 => ForK g ts D σ J H1) : tFor wi g ts D σ H := k
theorem i_rng1 {R : It → Hp → Prop} (k : tA σ H fun vs H1 => ∃ j : Int, vs = [.int j] ∧ -(2 ^ 62) ≤ j ∧ j < 2 ^ 62 ∧ R (Itr 0 j.toNat) H1) : iRng1 tA σ H R := k
theorem i_rng1' {R : Int → Prop} (k : R j) (h : -(2 ^ 62) ≤ j ∧ j < 2 ^ 62) : ∃ j' : Int, [V.int j] = [.int j'] ∧ -(2 ^ 62) ≤ j' ∧ j' < 2 ^ 62 ∧ R j' := ⟨j, rfl, h.1, h.2, k⟩
theorem i_rng2 {R : It → Hp → Prop} (k : tA σ H fun vs H1 => ∃ i j : Int, vs = [.int i, .int j] ∧ (-(2 ^ 62) ≤ i ∧ i < 2 ^ 62 ∧ -(2 ^ 62) ≤ j ∧ j < 2 ^ 62) ∧ R (Itr i (j - i).toNat) H1) : iRng2 tA σ H R := k
theorem i_rng2' {R : Int → Int → Prop} (k : R i j) (h : -(2 ^ 62) ≤ i ∧ i < 2 ^ 62 ∧ -(2 ^ 62) ≤ j ∧ j < 2 ^ 62) : ∃ i' j' : Int, [V.int i, V.int j] = [.int i', .int j'] ∧ (-(2 ^ 62) ≤ i' ∧ i' < 2 ^ 62 ∧ -(2 ^ 62) ≤ j' ∧ j' < 2 ^ 62) ∧ R i' j' := ⟨i, j, rfl, h, k⟩
theorem i_list {R : It → Hp → Prop} (k : te σ H fun x H1 => ∃ a, x = .ref a ∧ (∃ xs, SqL K H1 a xs) ∧ R (Itl K a) H1) : iList K te σ H R := k
theorem i_tup {R : It → Hp → Prop} (k : te σ H fun x H1 => ∃ a, x = .ref a ∧ (∃ xs, SqT K H1 a xs) ∧ R (Itt K a) H1) : iTup K te σ H R := k
theorem i_list' {R : Addr → Prop} (xs : List V) (k : R a) (h : SqL K H a xs) : ∃ a', V.ref a = .ref a' ∧ (∃ xs, SqL K H a' xs) ∧ R a' := ⟨a, rfl, ⟨xs, h⟩, k⟩
theorem i_tup' {R : Addr → Prop} (xs : List V) (k : R a) (h : SqT K H a xs) : ∃ a', V.ref a = .ref a' ∧ (∃ xs, SqT K H a' xs) ∧ R a' := ⟨a, rfl, ⟨xs, h⟩, k⟩
theorem s_while (W : Nat → L2.St → Hp → Prop) (m : Nat) (h0 : W m σ H) (hs : ∀ m σ H, W m σ H → tt σ H fun b H1 => if b = true then ∃ N : L2.St → Hp → Prop, (∀ σ' H', N σ' H' → ∃ m', m' < m ∧ W m' σ' H') ∧ ts { D with nx := N, ct := N, bk := D.nx } σ H1 else D.nx σ H1) : tWhile tt ts D σ H := ⟨W, ⟨m, h0⟩, hs⟩
/-- what a comprehension asks behind its walked thing -/
def LcK (g : TG) (tt : TT) (te : TE) (vs : List Nat) (σ : L2.St) (Q : VK) (J : It) (H1 : Hp) : Prop := ∀ D, H1 D = none → ∃ W : Nat → Nat → Hp → Prop, (∃ m, W 0 m (upd H1 D (.lst []))) ∧ ∀ i m H, W i m H →
  (J.stop i H ∧ Q (.ref D) H) ∨ (J.go i H ∧ ∃ Nx : Hp → Prop, (∀ H', Nx H' → ∃ m', m' < m ∧ W (i + 1) m' H') ∧ ∀ x H', J.yld i H x H' → g x (wipe σ vs) H' fun σ2 H2 => wipe σ2 vs = wipe σ vs ∧ tt σ2 H2 fun b H3 =>
    if b = true then te σ2 H3 fun y H4 => ∃ acc, H4 D = some (.lst acc) ∧ acc.length < sizeLine ∧ Nx (upd H4 D (.lst (acc ++ [y]))) else Nx H3)
theorem e_lc {wi : TI} {g : TG} {vs : List Nat} (k : wi σ H fun J H1 => LcK g tt te vs σ Q J H1) : tLc wi g tt te vs σ H Q := k
theorem g_sub {t : TSet} {R : L2.St → Hp → Prop} (k : ta σ H fun o H1 => tb σ H1 fun i H2 => t o i v H2 fun H3 => R σ H3) : gSub ta tb t v σ H R := k
theorem g_name {R : L2.St → Hp → Prop} (k : R (σ.set n (some v)) H) : gName n v σ H R := k
theorem g_nil {R : L2.St → Hp → Prop} (k : R σ H) : gNil [] σ H R := ⟨rfl, k⟩
theorem g_cons {g : TG} {gs : TGs} {R : L2.St → Hp → Prop} (k : g v σ H fun σ' H' => gs xs σ' H' R) : gCons g gs (v :: xs) σ H R := ⟨v, xs, rfl, k⟩
theorem g_tup {gs : TGs} {R : L2.St → Hp → Prop} (k : gs xs σ H R) (h : SqT K H a xs) (hl : xs.length = n) : gTup K n gs (.ref a) σ H R := ⟨a, xs, rfl, h, hl, k⟩
theorem e_setL {R : Hp → Prop} {m : Nat} (k : R (upd H a (.lst (xs.set m v)))) (h : H a = some (.lst xs)) (hi : ixN xs.length i = some m) : rSetL (.ref a) (.int i) v H R := ⟨a, xs, i, m, rfl, rfl, h, hi, k⟩
theorem e_yes {R : Bool → Hp → Prop} (k : R true H) : tYes σ H R := k
theorem e_bm {T : String} {r : V → List V → Hp → VK → Prop} (k : ta σ H fun x H1 => tyV K T x H1 ∧ tA σ H1 fun xs H2 => r x xs H2 Q) : tBM K T r ta tA σ H Q := k
theorem e_bm0 {T : String} {r : V → List V → Hp → VK → Prop} (k : ta σ H fun x H1 => tyV K T x H1 ∧ r x [] H1 Q) : tBM0 K T r ta σ H Q := k
theorem e_mk {C : Addr} {sp : Sp} {dvs : List V} {E : XK} (k : tA σ H fun vs H1 => ∀ x dx, H1 x = none → H1 dx = none → dx ≠ x → sp (.ref x :: (vs ++ dvs)) (upd (upd H1 dx (.own x)) x (.ins C dx [])) (fun v H2 => v = .non ∧ Q (.ref x) H2) E) : tMake C sp dvs E tA σ H Q := k
theorem e_mt {C : Addr} {m : Str} {sp : Sp} {dvs : List V} {E : XK} (k : ta σ H fun x H1 => ∃ a dx fs, x = .ref a ∧ H1 a = some (.ins C dx fs) ∧ fs.lookup m = none ∧ tA σ H1 fun vs H2 => sp (x :: (vs ++ dvs)) H2 Q E) : tMeth C m sp dvs E ta tA σ H Q := k
theorem e_fldk {f : Str} (k : ta σ H fun x H1 => ∃ a C dx fs v, x = .ref a ∧ H1 a = some (.ins C dx fs) ∧ Cls K C ∧ NoAttr K C f ∧ fs.lookup f = some v ∧ Q v H1) : tFld K ta f σ H Q := k
theorem e_ite {p : Prop} [Decidable p] {A B : Prop} (h1 : p → A) (h2 : ¬ p → B) : if decide p = true then A else B := by
  by_cases h : p
  · rw [if_pos (decide_eq_true h)]; exact h1 h
  · rw [if_neg (by rw [decide_eq_false h]; decide)]; exact h2 h
theorem e_iteN {p : Prop} [Decidable p] {A B : Prop} (h1 : ¬ p → A) (h2 : p → B) : if (!decide p) = true then A else B := by
  by_cases h : p
  · rw [if_neg (by rw [decide_eq_true h]; decide)]; exact h2 h
  · rw [if_pos (by rw [decide_eq_false h]; decide)]; exact h1 h
theorem e_iteB {b : Bool} {A B : Prop} (h1 : b = true → A) (h2 : b = false → B) : if b = true then A else B := by
  cases b
  · rw [if_neg (by decide)]; exact h2 rfl
  · rw [if_pos rfl]; exact h1 rfl
theorem e_T {A B : Prop} (h : A) : if true = true then A else B := by rw [if_pos rfl]; exact h
theorem e_nT {A B : Prop} (h : B) : if (!true) = true then A else B := by rw [if_neg (by decide)]; exact h
theorem e_nF {A B : Prop} (h : A) : if (!false) = true then A else B := by rw [if_pos (by decide)]; exact h
theorem e_F {A B : Prop} (h : B) : if false = true then A else B := by rw [if_neg (by decide)]; exact h
end
/-! ### extensions -/
abbrev Ext (H H' : Hp) : Prop := ∀ a o, H a = some o → H' a = some o
/-- all but the object at p is kept -/
def ExtB (p : Addr) (H H' : Hp) : Prop := ∀ a o, a ≠ p → H a = some o → H' a = some o
theorem Ext.rfl' {H : Hp} : Ext H H := fun _ _ h => h
theorem Ext.tr {H H1 H2 : Hp} (a : Ext H H1) (b : Ext H1 H2) : Ext H H2 := fun x o h => b x o (a x o h)
theorem Ext.new {H : Hp} {p : Addr} {o : HO} (h : H p = none) : Ext H (upd H p o) := fun a u e => by
  rw [upd_ne (ne_of_none e h)]; exact e
theorem Ext.non {H H' : Hp} {p : Addr} (e : Ext H H') (h : H' p = none) : H p = none := by
  cases q : H p with
  | none => rfl
  | some o => rw [e p o q] at h; cases h
theorem Ext.sqL {K : PySem.W.Frag} {H H' : Hp} {a : Addr} {xs : List V} (e : Ext H H') (h : SqL K H a xs) : SqL K H' a xs := Evl.ex_l e h
theorem Ext.sqT {K : PySem.W.Frag} {H H' : Hp} {a : Addr} {xs : List V} (e : Ext H H') (h : SqT K H a xs) : SqT K H' a xs := Evl.ex_t e h
theorem ExtB.of {p : Addr} {H H' : Hp} (e : Ext H H') : ExtB p H H' := fun a o _ h => e a o h
theorem ExtB.tr {p : Addr} {H H1 H2 : Hp} (a : ExtB p H H1) (b : ExtB p H1 H2) : ExtB p H H2 := fun x o n h => b x o n (a x o n h)
theorem ExtB.upd {p : Addr} {H : Hp} {o : HO} : ExtB p H (upd H p o) := fun a u n e => by rw [upd_ne n]; exact e
theorem Ext.upds {H H' : Hp} {p : Addr} {o : HO} (e : Ext H H') (h : H p = Option.none) : Ext H (upd H' p o) := fun a u q => by
  rw [upd_ne (ne_of_none q h)]; exact e a u q
end FW
/-! tuples turned about, counted, and things that are a list or a tuple -/
namespace PySem
namespace SeqX
open PyProof.Rows PySem.W
theorem adjust_rev (n : Nat) : Builtin.Slice.sliceAdjust none none (-1) (n : Int) = ((n : Int) - 1, -1) := by
  unfold Builtin.Slice.sliceAdjust
  rfl
theorem places_rev (n : Nat) : Builtin.Slice.slicePlaces ((n : Int) - 1) (-1) (-1) = n := by
  unfold Builtin.Slice.slicePlaces
  have h1 : ¬ ((-1 : Int) > 0) := by omega
  simp only [h1, if_false, show (- -1 : Int) = 1 from rfl, Int.ediv_one]
  split <;> omega
section
variable {prog : Program} {w : World} {A : Around} {E : Value → Shared → Prop} {s : Shared}
theorem sliceApplied_rev {sl : Addr} {vl vu vs : Value} {n : Nat} {Q : Int × Int × Nat → Shared → Prop} (hs : s.heap.IsSliceOf sl vl vu vs) (pl : IsPart vl none) (pu : IsPart vu none) (ps : IsPart vs (some (-1)))
    (h : Q ((n : Int) - 1, -1, n) s) : wpAny (model prog w) A (Builtin.Slice.sliceApplied (.ref sl) (pure (n : Int))) Q E s := by
  obtain ⟨os, hos, hcs, hds⟩ := id hs
  unfold Builtin.Slice.sliceApplied Builtin.Slice.sliceFields
  refine wpAny_bind (wpAny_bind (wpAny_field hos hds (x := vl) rfl (wpAny_bind (wpAny_field hos hds (x := vu) rfl (wpAny_bind (wpAny_field hos hds (x := vs) rfl (wpAny_pure ?_)))))))
  refine wpAny_bind (HT.slicePart_ ps ?_)
  show wpAny _ _ (if ((-1 : Int) == 0) = true then _ else _) _ _ s
  rw [if_neg (by decide)]
  refine wpAny_bind (HT.slicePart_ pl (wpAny_bind (HT.slicePart_ pu (wpAny_bind (wpAny_pure ?_)))))
  show wpAny _ _ (match Builtin.Slice.sliceAdjust none none (-1) (n : Int) with | (lo, hi) => pure (lo, (-1 : Int), Builtin.Slice.slicePlaces lo hi (-1))) _ _ s
  rw [adjust_rev n]
  show wpAny _ _ (pure ((n : Int) - 1, (-1 : Int), Builtin.Slice.slicePlaces ((n : Int) - 1) (-1) (-1))) _ _ s
  rw [places_rev]
  exact wpAny_pure h
theorem pick_rev (xs : Array Value) : ((List.range xs.size).filterMap fun (m : Nat) => xs[(((xs.size : Nat) : Int) - 1 + (m : Int) * (-1)).toNat]?).toArray = xs.toList.reverse.toArray := by
  have e : (List.range xs.size).filterMap (fun (m : Nat) => xs[(((xs.size : Nat) : Int) - 1 + (m : Int) * (-1)).toNat]?) = ((List.range xs.size).map fun k => xs.size - 1 - k).filterMap (xs[·]?) := by
    rw [List.filterMap_map]
    congr 1
    funext m
    show xs[(((xs.size : Nat) : Int) - 1 + (m : Int) * (-1)).toNat]? = xs[xs.size - 1 - m]?
    have q : (((xs.size : Nat) : Int) - 1 + (m : Int) * (-1)).toNat = xs.size - 1 - m := by omega
    rw [q]
  rw [e, krv_range, List.filterMap_reverse, krv_all]
theorem getItem_tuple_rev {t sl : Addr} {items : Array Value} {vl vu vs : Value} {Q : Value → Shared → Prop} (ht : IsTup s.heap t items) (hs : s.heap.IsSliceOf sl vl vu vs) (pl : IsPart vl none) (pu : IsPart vu none) (ps : IsPart vs (some (-1)))
    (h : Q (.ref s.heap.objs.size) { s with heap := s.heap.push { cls := .type "tuple", data := .seq items.toList.reverse.toArray } })
    (hsz : items.size ≤ sizeLine) : wpAny (model prog w) A (getItem (.ref t) (.ref sl)) Q E s := by
  have htake : sizeOk (.seq items.toList.reverse.toArray) := by
    show items.toList.reverse.toArray.size ≤ sizeLine
    rw [List.size_toArray, List.length_reverse, Array.length_toList]
    exact hsz
  obtain ⟨os, hos, hcs, hds⟩ := id hs
  have hTs : s.TypeIs (.ref sl) "slice" := ⟨os, hos, hcs⟩
  unfold getItem
  try with_reducible refine wpAny_holding ?_
  first | refine wpAny_bind (wpAny_pure ?_) | skip
  refine wpAny_bind (wpAny_sequenceKey ht.typeIs (by decide) ?_)
  refine wpAny_bind (wpAny_callSpecial?_slot (name := Str.ofString "__getitem__") ht.typeIs PyProof.Rows.slot_tuple_getitem
    (wpAny_call_entry PyProof.Rows.slot_tuple_getitem ht.typeIs entry_tuple_getitem ?_ (args_tuple_getitem _ _)))
  show wpAny _ _ (Builtin.Tuple.tupleItemsOf (.ref t) >>= _) _ _ s
  refine wpAny_bind (tupleItemsOf_ ht ?_)
  refine wpAny_bind (wpAny_typeOf hTs ?_)
  rw [if_pos (by decide)]
  refine wpAny_bind (sliceApplied_rev hs pl pu ps ?_)
  show wpAny _ _ (if ((((items.size : Nat) : Int) - 1) == 0 && (-1 : Int) == 1 && items.size == items.size) = true then _ else _) _ _ s
  rw [if_neg (by rw [show ((-1 : Int) == 1) = false from rfl, Bool.and_false, Bool.false_and]; exact Bool.false_ne_true), pick_rev]
  first
    | exact wpAny_bind (m := Builtin.Tuple.tupleExact _) (wpAny_newObj_type (wpAny_pure ⟨_, rfl, wpAny_pure h⟩) htake)
    | exact wpAny_bind (m := Builtin.Tuple.tupleExact _) (wpAny_newObj_type (wpAny_bind (wpAny_pure (wpAny_pure ⟨_, rfl, wpAny_pure h⟩))) htake)
    | exact wpAny_bind (wpAny_bind (m := Builtin.Tuple.tupleExact _) (wpAny_newObj_type (wpAny_pure (wpAny_pure ⟨_, rfl, wpAny_pure h⟩)) htake))
    | exact wpAny_bind (wpAny_bind (m := Builtin.Tuple.tupleExact _) (wpAny_newObj_type (wpAny_pure ⟨_, rfl, wpAny_pure h⟩) htake))
end
set_option maxHeartbeats 1000000 in
theorem meets_enumerate_newT {v : Value} {o : Obj} {H : Heap → Prop} (B : Begins v o H) :
    Meets (Builtin.«enumerate.__new__» ⟨[.type "enumerate", v], []⟩) (fun _ R s => H s.heap ∧
      R (.ok (.ret (.ref (s.heap.push o).objs.size))) { s with heap := (s.heap.push o).push { cls := .type "enumerate", data := .fields #[.none, .bool false, .ref s.heap.objs.size, rawInt 0, .none, .none] } }) :=
  .of_wp fun prog w A R s h => by
    obtain ⟨hp, g, d, tk, os⟩ := s; obtain ⟨h1, h⟩ := h
    have hsub := sub_enumerate
    have q1 : ∀ {A' : Around} {E : Value → Shared → Prop} {Q : Value → Shared → Prop}, Q (.ref hp.objs.size) ⟨hp.push o, g, d, tk, os⟩ → wpAny (model prog w) A' (pyIter v) Q E ⟨hp, g, d, tk, os⟩ :=
      fun q => B.iter prog w _ _ ⟨hp, g, d, tk, os⟩ _ h1 q
    wp_walk using q1
    refine wpAny_stack_any fun st => wpAny_pure ?_
    split
    · rename_i c _ _ _ _ _
      cases (c == Value.type "enumerate")
      · wp_walk using q1
        exact ⟨_, rfl, h⟩
      · wp_walk using q1
        exact ⟨_, rfl, h⟩
    · wp_walk using q1
      exact ⟨_, rfl, h⟩
section
variable {prog : Program} {w : World} {A : Around} {E : Value → Shared → Prop} {s : Shared}
theorem call_enumerate_tuple {t : Addr} {items : Array Value} {Q : Value → Shared → Prop} (hL : s.heap.IsTuple t items)
    (h : ∀ h', IsEnum h' (s.heap.objs.size + 1) s.heap.objs.size 0 .none → h'.IsTupleIter s.heap.objs.size t 0 → h'.objs.size = s.heap.objs.size + 2 →
      (∀ b o, s.heap.get? b = some o → h'.get? b = some o) → Q (.ref (s.heap.objs.size + 1)) { s with heap := h' }) :
    wpAny (model prog w) A (call (.type "enumerate") [.ref t]) Q E s := by
  refine callType_new F.called_enumerate (by decide) (F.typeCall_enumerate_1 _) (F.newCall_enumerate_1 _) (fun obj => F.args_object_init_2 obj _) F.entry_enumerate_new
    (meets_enumerate_newT (begins_tuple t items)) ⟨hL, ?_⟩
  have hz : (s.heap.push { cls := .type "tuple_iterator", data := .fields #[.ref t, .int 0 0] }).objs.size = s.heap.objs.size + 1 := Heap.size_push ..
  show _ ∧ _
  rw [hz]
  have he : IsEnum ((s.heap.push { cls := .type "tuple_iterator", data := .fields #[.ref t, .int 0 0] }).push
      { cls := .type "enumerate", data := .fields #[.none, .bool false, .ref s.heap.objs.size, rawInt 0, .none, .none] }) (s.heap.objs.size + 1) s.heap.objs.size 0 .none := by
    have := Heap.get?_push_size (s.heap.push { cls := .type "tuple_iterator", data := .fields #[.ref t, .int 0 0] })
      (o := { cls := .type "enumerate", data := .fields #[.none, .bool false, .ref s.heap.objs.size, rawInt 0, .none, .none] }) rfl
    rw [hz] at this; exact this
  refine ⟨⟨_, he, rfl⟩, h _ he ⟨_, Heap.get?_push_of_some _ (Heap.get?_push_size _ rfl), rfl, rfl⟩ (by rw [Heap.size_push, hz]) fun b o x => Heap.get?_push_of_some _ (Heap.get?_push_of_some _ x)⟩
end
end SeqX
end PySem
namespace FW
open PySem PySem.Spec PyProof.Rows L2
section
variable {X : Cx}
/-- t[::-1] of a tuple -/
def tRevT (K : PySem.W.Frag) (te : TE) : TE := fun σ H Q => te σ H fun x H1 => ∃ a xs, x = .ref a ∧ SqT K H1 a xs ∧ ∀ p, H1 p = none → Q (.ref p) (upd H1 p (.tup xs.reverse))
theorem pe_revT {e : Expr} {te : TE} {k : Nat} {p1 p2 p3 pos : Pos} (he : PE X e te) : PE X (.Subscript e (.Slice none none (some (.UnaryOp .USub (.Constant (.int 1) k p1) p2)) p3) pos) (tRevT X.K te) := by
  refine ⟨fun pins s σ H Q I h => ?_⟩
  refine Subscript_ (thn (he.run pins s σ H _ I h) fun v s1 ⟨x, H1, I1, r1, q1⟩ => ?_)
  obtain ⟨a, xs, ex, hx, q⟩ := q1
  subst ex
  cases r1
  have hst : PO X (some (.UnaryOp .USub (.Constant (.int 1) k p1) p2)) (tPart (tUn (rU fun i => .int (-i)) (tC (.int 1)))) := po_some (pe_un un_neg pe_int)
  refine wpAny_Slice (thn (po_none.run pins s1 σ H1 (fun o H2 => o = none ∧ H2 = H1) I1 ⟨rfl, rfl⟩) fun vl s2 ⟨l, H2, I2, pl, el, e2⟩ => ?_)
  subst el e2
  refine thn (po_none.run pins s2 σ H2 (fun o H3 => o = none ∧ H3 = H2) I2 ⟨rfl, rfl⟩) fun vu s3 ⟨u, H3, I3, pu, eu, e3⟩ => ?_
  subst eu e3
  refine thn (hst.run pins s3 σ H3 (fun o H4 => o = some (-1) ∧ H4 = H3) I3 ⟨1, rfl, -1, rfl, rfl, rfl⟩) fun vs s4 ⟨o, H4, I4, ps, eo, e4⟩ => ?_
  subst eo e4
  have I5 : Inv X pins σ H4 { s4 with heap := s4.heap.push { cls := .type "slice", data := .fields #[vl, vu, vs] } } := I4.kept (t' := s4.toks) fun b ob q => Heap.get?_push_of_some _ q
  obtain ⟨its, r, ht, hz⟩ := I5.tuple hx
  have hlen := r.length
  show wpAny (model X.prog X.w) X.A (subscriptTail e (.Slice none none (some (.UnaryOp .USub (.Constant (.int 1) k p1) p2)) p3) (.ref a) (.ref s4.heap.objs.size)) (EP X pins σ Q) X.xe { s4 with heap := s4.heap.push { cls := .type "slice", data := .fields #[vl, vu, vs] } }
  refine tail_any (ops := [.ref a, .ref s4.heap.objs.size]) ht.typeIs (PyProof.Rows.slot_tuple_getitem.lookup) ?_ (by with_unfolding_all rfl)
  refine SeqX.getItem_tuple_rev ht (Heap.IsSliceOf.new _ vl vu vs) pl pu ps ?_ (by rw [List.size_toArray]; omega)
  refine ⟨.ref _, _, I5.laid (t' := s4.toks) (o := .tup xs.reverse) (fun b ob q => Heap.get?_push_of_some _ q) (Nat.le_refl _) ?_, rfl, q _ (I5.hok.fresh (Nat.le_refl _))⟩
  exact ⟨by rw [List.length_reverse]; exact hz, _, r.reverse, IsTup.new _ _⟩
/-- one reading or another -/
def tEither (t u : TE) : TE := fun σ H Q => t σ H Q ∨ u σ H Q
theorem pe_either {e : Expr} {t u : TE} (h1 : PE X e t) (h2 : PE X e u) : PE X e (tEither t u) := ⟨fun pins s σ H Q I h => by
  rcases h with h | h
  · exact h1.run pins s σ H Q I h
  · exact h2.run pins s σ H Q I h⟩
def iEither (t u : TI) : TI := fun σ H Q => t σ H Q ∨ u σ H Q
theorem pi_either {tg e : Expr} {t u : TI} (h1 : PI X tg e t) (h2 : PI X tg e u) : PI X tg e (iEither t u) := ⟨fun pins s σ H Q I h => by
  rcases h with h | h
  · exact h1.run pins s σ H Q I h
  · exact h2.run pins s σ H Q I h⟩
/-! ### enumerate(tuple) -/
def IteT (K : PySem.W.Frag) (a : Addr) : It :=
  ⟨fun i H => ∃ (xs : List V) (x : V), SqT K H a xs ∧ xs[i]? = some x, fun i H v H' => ∃ T x, v = .ref T ∧ H T = none ∧ H' = upd H T (.tup [.int (i : Nat), x]) ∧ ∀ xs, SqT K H a xs → xs[i]? = some x, fun i H => ∃ xs : List V, SqT K H a xs ∧ xs.length = i⟩
theorem turn_enumT {P : Program} {w : World} {K : PySem.W.Frag} {elts : List Expr} {kk : Nat} {tpos : Pos} (a e it : Addr) :
    Turn P w K (.Tuple elts kk tpos) (IteT K a) [e, it] e (fun i h => (∃ old, IsEnum h e it ((i : Nat) : Int) old) ∧ h.IsTupleIter it a i ∧ e ≠ it) where
  mem := by simp
  obj := fun i h st b hb => by
    obtain ⟨⟨old, he⟩, ⟨o, ho, hc, hd⟩, _⟩ := st
    have e' : b = e ∨ b = it := by simpa using hb
    rcases e' with z | z
    · rw [z]; exact ⟨_, he, fun v q => nomatch q⟩
    · rw [z]; exact ⟨o, ho, fun v q => by rw [hd] at q; cases q⟩
  keep := fun i h h' st k => let ⟨⟨old, he⟩, hi, hne⟩ := st; ⟨⟨old, k e (by simp) _ he⟩, hi.at fun o q => k it (by simp) o q, hne⟩
  item := by
    intro X hP hw hK hc i pins s σ H E I hf st hg
    subst hP hw hK
    obtain ⟨⟨old, he⟩, hit, hne⟩ := st
    obtain ⟨xs, x, hq, hx⟩ := hg
    obtain ⟨its, rv, p, hz⟩ := I.tuple hq
    obtain ⟨u, hu, ru⟩ := rv.get hx
    have hel : e < s.heap.objs.size := Heap.lt_size he
    have hil : it < s.heap.objs.size := by obtain ⟨_, q, _⟩ := hit; exact Heap.lt_size q
    have hia : a ≠ it := by
      obtain ⟨o1, q1, c1, _⟩ := hit
      obtain ⟨o2, q2, c2, _⟩ := p
      intro z
      rw [z, q1] at q2
      cases q2
      rw [c1] at c2
      exact absurd c2 (by decide)
    have hea : e ∉ [it, a] := by
      intro z
      rcases List.mem_cons.mp z with z | z
      · exact hne z
      · have z := List.mem_singleton.mp z
        obtain ⟨o2, q2, c2, _⟩ := p
        rw [← z, he] at q2
        cases q2
        exact absurd (show Value.type "enumerate" = Value.type "tuple" from c2) (by decide)
    have hilen : i < its.toArray.size := by
      have := (List.getElem?_eq_some_iff.mp hu).1
      rw [List.size_toArray]; exact this
    refine wpAny_pyNext_enum_itemD (Draws.tuple (A := X.A.in1) (show X.A.in1.handled = none from I.ok.hd hc) it a hia its.toArray) he ⟨hit, p⟩ hilen hne hea fun y h' tk hy ho hst hT hsz hk => ?_
    obtain ⟨hit', _⟩ := hst
    have ey : y = u := by
      have : its[i]? = some y := by simpa using hy
      rw [hu] at this; injection this with z; exact z.symm
    subst ey
    refine ⟨_, rfl, wpAny_letOwnedTupleGo_enum (s := { s with heap := h', toks := tk + 1 }) ho fun h'' he' sb => ?_⟩
    have hT2 : h''.get? s.heap.objs.size = some { cls := .type "tuple", data := .seq #[.int i tk, y] } := (sb.2 _ (Nat.ne_of_gt hel)).trans hT
    have new : ObjOk X.prog X.w (upd H s.heap.objs.size (.tup [.int (i : Nat), x])) h'' s.heap.objs.size (.tup [.int (i : Nat), x]) :=
      ⟨by show 2 ≤ sizeLine; decide, [.int i tk, y], .cons ⟨_, rfl⟩ (.cons ru .nil), ⟨_, hT2, rfl, _, rfl⟩⟩
    have I1 : Inv X pins σ (upd H s.heap.objs.size (.tup [.int (i : Nat), x])) { s with heap := h'', toks := tk + 1 } :=
      I.turnedNew (ch := [e, it]) (fun b ob hb q => (sb.2 b (fun z => hb (by simp [z]))).trans (hk b ob (fun z => hb (by simp [z])) (fun z => hb (by simp [z])) q)) hf (Nat.le_refl _) new
    refine ⟨.ref s.heap.objs.size, _, I1, rfl, ⟨_, x, rfl, I.hok.fresh (Nat.le_refl _), rfl, fun ys hy => by rw [I.tuple_inj hy hq]; exact hx⟩, ⟨⟨y, ?_⟩, hit'.at fun o q => (sb.2 it (Ne.symm hne)).trans q, hne⟩, fun b hb => ?_⟩
    · have e1 : ((i + 1 : Nat) : Int) = (i : Int) + 1 := by omega
      rw [e1]; exact he'
    · have hb' : b < s.heap.objs.size := by
        have e' : b = e ∨ b = it := by simpa using hb
        rcases e' with z | z
        · rw [z]; exact hel
        · rw [z]; exact hil
      rw [upd_ne (Nat.ne_of_lt hb')]
      exact (hf b hb).1
  done := by
    intro X hP hw hK hc i pins s σ H E I hf st hg
    subst hP hw hK
    obtain ⟨⟨old, he⟩, hit, hne⟩ := st
    obtain ⟨xs, hq, hx⟩ := hg
    obtain ⟨its, rv, p, hz⟩ := I.tuple hq
    obtain ⟨f0, f1, f2, f3, f4, f5⟩ := hf it (by simp)
    have hl := rv.length
    have hia : a ≠ it := by
      obtain ⟨o1, q1, c1, _⟩ := hit
      obtain ⟨o2, q2, c2, _⟩ := p
      intro z
      rw [z, q1] at q2
      cases q2
      rw [c1] at c2
      exact absurd c2 (by decide)
    have hn : its.toArray.size = i := by rw [List.size_toArray]; omega
    exact wpAny_pyNext_enum_endD (Draws.tuple (A := X.A.in1) (show X.A.in1.handled = none from I.ok.hd hc) it a hia its.toArray) he ⟨by rw [hn]; exact hit, p⟩ fun h' eb => ⟨rfl, I.turned (t' := s.toks) (fun b o hb q => eb b o hb q) f0 f1 f3 f4 f5⟩
  self := fun A i s Q E st h => let ⟨⟨_, he⟩, _⟩ := st; wpAny_pyIter_enum he h
def iEnumT (K : PySem.W.Frag) (ta : TA) : TI := fun σ H R => ta σ H fun vs H1 => ∃ a xs, vs = [.ref a] ∧ SqT K H1 a xs ∧ R (IteT K a) H1
theorem pi_enumT {e : Expr} {ta : TA} {p pos tpos : Pos} {elts : List Expr} {kk : Nat} (hg : Gl X "enumerate") (hm : X.mg "enumerate" = none) (ha : PA X [e] ta) (hs : starEach [e] X.env = [(false, eval e X.env)] := by rfl) :
    PI X (.Tuple elts kk tpos) (.Call (.Name "enumerate" p) [e] [] pos) (iEnumT X.K ta) := by
  refine ⟨fun pins s σ H R I h => ?_⟩
  refine Call_ (ld_blt I hg hm boot_enumerate (PyProof.Rows.callWith_type1 (thn (ha.run pos pins s σ H _ I h) fun us s1 ⟨vs, H1, I1, r1, q1⟩ => ?_) hs rfl))
  obtain ⟨a, xs, ex, hq, q⟩ := q1
  subst ex
  cases r1 with
  | cons r rr =>
    cases rr
    cases r
    obtain ⟨its, rv, p', hz⟩ := I1.tuple hq
    refine SeqX.call_enumerate_tuple p' fun h' he hit hsz hk => wpAny_pyIter_enum he ?_
    have I2 : Inv X pins σ H1 { s1 with heap := h' } := I1.kept (t' := s1.toks) hk
    refine ⟨s1.heap.objs.size + 1, [s1.heap.objs.size + 1, s1.heap.objs.size], _, _, H1, rfl, I2, turn_enumT a (s1.heap.objs.size + 1) s1.heap.objs.size, ⟨⟨.none, he⟩, hit, Nat.succ_ne_self _⟩, fun b hb => ?_, q⟩
    have e' : b = s1.heap.objs.size + 1 ∨ b = s1.heap.objs.size := by simpa using hb
    have hle : s1.heap.objs.size ≤ b := by
      rcases e' with z | z
      · rw [z]; exact Nat.le_add_right _ _
      · rw [z]; exact Nat.le_refl _
    exact I1.fpOk hle (I1.hok.fresh hle)
end
end FW
namespace FW
open PySem PySem.Spec PyProof.Rows L2
section
variable {X : Cx}
theorem get_list : PGet X (rIxL X.K) := by
  intro pins s σ H x y v u Q I rx ry h
  obtain ⟨p, xs, i, z, rfl, rfl, hq, he, q⟩ := h
  cases rx
  obtain ⟨t, rfl⟩ := ry
  obtain ⟨its, r, pl, hz⟩ := I.list hq
  obtain ⟨j, h1, h2, h3, h4, h5⟩ := atI_get he
  obtain ⟨w, ew, rw'⟩ := r.get h2
  have hl := r.length
  have hn := line63
  have fin : EP X pins σ Q w s := ⟨z, H, I, rw', q⟩
  by_cases h0 : 0 ≤ i
  · have hj : i.toNat = j := by
      rw [seqIndex_of h0 h5] at h1
      exact Option.some.inj h1
    exact wpAny_getItem_list pl.isList h0 (by omega) (by rw [hj]; simpa using ew) fin
  · have hj : (i + (its.toArray.size : Int)).toNat = j := by
      rw [seqIndex_neg (by omega) h4] at h1
      rw [List.size_toArray, ← hl]
      exact Option.some.inj h1
    exact wpAny_getItem_list_neg pl.isList (by omega) (by rw [List.size_toArray] <;> omega) (by omega) (by rw [hj]; simpa using ew) fin
theorem walk_enumT {K : PySem.W.Frag} {a : Addr} {xs : List V} : Walk (IteT K a) xs.length (fun H => SqT K H a xs) (YPair (fun i => some (.int (i : Nat))) (fun i => xs[i]?)) := by
  refine ⟨fun i _ hi q => ⟨xs, xs[i], q, by simp [hi]⟩, fun _ q => ⟨xs, q, rfl⟩, fun i H v H' _ q y => ?_⟩
  obtain ⟨T, x, h1, h2, h3, h4⟩ := y
  exact ⟨T, .int (i : Nat), x, h1, h2, h3, rfl, h4 xs q⟩
end
abbrev rShl : R2 := rI CPow fun i j => .int (i * 2 ^ j.toNat)
theorem opShl {X : Cx} : OpR X (binaryOp .LShift) rShl := op_shl
end FW
local macro_rules | `(tactic| walk_at "re1") => `(tactic| with_reducible first
  | refine FW.e_var ?_ (by with_unfolding_all rfl) | refine FW.e_c ?_ | refine FW.e_op ?_ | refine FW.e_un ?_ | refine FW.e_U ?_ | refine FW.e_I0 ?_ | refine FW.e_I ?_ ?_ | refine FW.e_ip ?_
  | refine FW.e_test ?_ | refine FW.e_tB ?_ | refine FW.e_bl ?_ | refine FW.e_not ?_ | refine FW.e_and ?_ | refine FW.e_or ?_ | refine FW.e_andV ?_ | refine FW.e_orV ?_ | refine FW.e_notV ?_ | refine FW.e_ifx ?_
  | refine FW.e_nil ?_ | refine FW.e_cons ?_ | refine FW.e_call ?_ | refine FW.e_cb ?_ | refine FW.e_lst ?_ | refine FW.e_tup ?_ | refine FW.e_int ?_ | refine FW.e_intB ?_ | refine FW.e_abs ?_ | refine FW.e_max2 ?_ | refine FW.e_min2 ?_
  | refine FW.e_eq ?_ rfl | refine FW.e_ne ?_ rfl | refine FW.e_isN ?_ | refine FW.e_notN ?_ | refine FW.e_chain ?_ | refine FW.e_T ?_ | refine FW.e_F ?_ | refine FW.e_nT ?_ | refine FW.e_nF ?_ | refine FW.s_par2 ?_ | refine FW.i_rng1' ?_ ?_ | refine FW.i_rng2' ?_ ?_ | refine FW.g_sub ?_ | refine FW.e_lc ?_ | refine FW.e_yes ?_ | refine FW.e_bm ?_ | refine FW.e_bm0 ?_ | refine FW.e_mk ?_ | refine FW.e_mt ?_ | refine FW.e_fldk ?_ | refine FW.g_name ?_ | refine FW.g_nil ?_ | refine FW.g_cons ?_)
local macro_rules | `(tactic| walk_at "rs1") => `(tactic| with_reducible first
  | refine FW.s_seq ?_ | refine FW.s_asg ?_ | refine FW.s_ret ?_ | refine FW.s_if ?_ | refine FW.s_next ?_ | refine FW.s_drop ?_ | refine FW.s_fld ?_ | refine FW.s_par ?_ | refine FW.s_aug ?_ (by with_unfolding_all rfl) | refine FW.s_asgG ?_ | refine FW.s_for ?_ | refine FW.i_rng1 ?_ | refine FW.i_rng2 ?_ | refine FW.i_list ?_ | refine FW.i_tup ?_)
local macro_rules | `(tactic| walk_at "re") => `(tactic| repeat (walk_at "re1"))
local macro_rules | `(tactic| walk_at "rd") => `(tactic| repeat (first | walk_at "rs1" | walk_at "re1"))
namespace FWL
open PySem PySem.Spec PyProof.Rows L2 FW
/-! ### is_whole, is_whole_from -/
def tyNames : List String := ["NoneType", "bool", "int", "str", "float", "list", "tuple", "dict"]
/-- a thing of a built-in kind -/
def WT (K : PySem.W.Frag) (H : Hp) (v : V) (n : String) : Prop := TyX K H v (.type n) ∧ n ∈ tyNames
def isInt : V → Bool
  | .int _ => true
  | _ => false
def isStr : V → Bool
  | .str _ => true
  | _ => false
def iv : V → Int
  | .int i => i
  | _ => 0
def fromI (v : V) (l : Int) : Bool := isInt v && decide (l ≤ iv v)
theorem WT.isInt {K : PySem.W.Frag} {H : Hp} {v : V} {n : String} (h : WT K H v n) : isInt v = decide (n = "int") := by
  obtain ⟨h, _⟩ := h
  generalize ht : Value.type n = t at h
  cases h with
  | base b => cases b <;> first | (cases ht; rfl) | (injection ht with e; subst e; rfl) | cases ht
  | _ => injection ht with e; subst e; rfl
theorem WT.isStr {K : PySem.W.Frag} {H : Hp} {v : V} {n : String} (h : WT K H v n) : isStr v = decide (n = "str") := by
  obtain ⟨h, _⟩ := h
  generalize ht : Value.type n = t at h
  cases h with
  | base b => cases b <;> first | (cases ht; rfl) | (injection ht with e; subst e; rfl) | cases ht
  | _ => injection ht with e; subst e; rfl
theorem isInt_of {v : V} (h : isInt v = true) : ∃ i, v = .int i := by cases v <;> first | exact ⟨_, rfl⟩ | cases h
theorem isStr_of {v : V} (h : isStr v = true) : ∃ i, v = .str i := by cases v <;> first | exact ⟨_, rfl⟩ | cases h
theorem WT.i {K : PySem.W.Frag} {H : Hp} (i : Int) : WT K H (.int i) "int" := ⟨.base (.int i), by decide⟩
theorem WT.s {K : PySem.W.Frag} {H : Hp} (i : Str) : WT K H (.str i) "str" := ⟨.base (.str i), by decide⟩
theorem WT.non {K : PySem.W.Frag} {H : Hp} : WT K H .non "NoneType" := ⟨.base .non, by decide⟩
theorem WT.bl {K : PySem.W.Frag} {H : Hp} (b : Bool) : WT K H (.bl b) "bool" := ⟨.base (.bl b), by decide⟩
theorem WT.lst {K : PySem.W.Frag} {H : Hp} {a : Addr} {xs : List V} (h : H a = some (.lst xs)) : WT K H (.ref a) "list" := ⟨.base (.lst h), by decide⟩
theorem WT.tup {K : PySem.W.Frag} {H : Hp} {a : Addr} {xs : List V} (h : H a = some (.tup xs)) : WT K H (.ref a) "tuple" := ⟨.base (.tup h), by decide⟩
theorem kitI {n : String} (h : n ∈ tyNames) : kitB n "int" = some (decide (n = "int" ∨ n = "bool")) := by
  simp only [tyNames, List.mem_cons, List.not_mem_nil, or_false] at h
  rcases h with rfl | rfl | rfl | rfl | rfl | rfl | rfl | rfl <;> decide +kernel
theorem kitBl {n : String} (h : n ∈ tyNames) : kitB n "bool" = some (decide (n = "bool")) := by
  simp only [tyNames, List.mem_cons, List.not_mem_nil, or_false] at h
  rcases h with rfl | rfl | rfl | rfl | rfl | rfl | rfl | rfl <;> decide +kernel
theorem kitS {n : String} (h : n ∈ tyNames) : kitB n "str" = some (decide (n = "str")) := by
  simp only [tyNames, List.mem_cons, List.not_mem_nil, or_false] at h
  rcases h with rfl | rfl | rfl | rfl | rfl | rfl | rfl | rfl <;> decide +kernel
theorem e_isi {K : PySem.W.Frag} {H : Hp} {Q : VK} {v : V} {n m : String} {b : Bool} (k : Q (.bl b) H) (h : WT K H v n) (hk : kitB n m = some b) : rIsi K [v, .ty m] H Q :=
  ⟨v, .ty m, .type n, .type m, b, rfl, .ty m, h.1, kit_ty hk, k⟩
def sp_is_whole (K : PySem.W.Frag) : Sp := fun vs H Q _ => ∃ (v : V) (n : String), vs = [v] ∧ WT K H v n ∧ Q (.bl (isInt v)) H
def rd_is_whole (K : PySem.W.Frag) : TS := tRet (tAndV (tCB (rIsi K) (tCons (tVar 0) (tCons (tC (.ty "int")) (tNil)))) (tNotV (tCB (rIsi K) (tCons (tVar 0) (tCons (tC (.ty "bool")) (tNil))))))
theorem pure_is_whole (K : PySem.W.Frag) (vs : List V) (H : Hp) (Q : VK) (E : XK) (h : sp_is_whole K vs H Q E) : rd_is_whole K { nx := fun _ H' => Q .non H', rt := Q } (start ["thing"] vs) H := by
  obtain ⟨v, n, rfl, hv, q⟩ := h
  have e := hv.isInt
  unfold rd_is_whole
  walk_at "rd"
  refine e_isi ?_ hv (kitI hv.2)
  refine ?_
  walk_at "rd"
  refine e_ite (fun h => ?_) (fun h => ?_)
  · walk_at "rd"
    refine e_isi ?_ hv (kitBl hv.2)
    walk_at "rd"
    show Q (.bl (!decide (n = "bool"))) H
    have : (!decide (n = "bool")) = isInt v := by
      rw [e]
      rcases h with rfl | rfl <;> decide
    rw [this]; exact q
  · have : isInt v = false := by
      rw [e]; exact decide_eq_false fun z => h (.inl z)
    rw [this] at q; exact q
def sp_is_whole_from (K : PySem.W.Frag) : Sp := fun vs H Q _ => ∃ (v : V) (n : String) (l : Int), vs = [v, .int l] ∧ WT K H v n ∧ Q (.bl (fromI v l)) H
def rd_is_whole_from (K : PySem.W.Frag) : TS := tRet (tAndV (tCall (sp_is_whole K) [] E0 (tCons (tVar 0) (tNil))) (tOp FW.rGe (tVar 0) (tVar 1)))
theorem pure_is_whole_from (K : PySem.W.Frag) (vs : List V) (H : Hp) (Q : VK) (E : XK) (h : sp_is_whole_from K vs H Q E) : rd_is_whole_from K { nx := fun _ H' => Q .non H', rt := Q } (start ["thing", "least"] vs) H := by
  obtain ⟨v, n, l, rfl, hv, q⟩ := h
  unfold rd_is_whole_from
  walk_at "rd"
  refine ⟨v, n, rfl, hv, ?_⟩
  walk_at "rd"
  refine e_iteB (fun h => ?_) (fun h => ?_)
  · obtain ⟨i, rfl⟩ := isInt_of h
    walk_at "rd"
    have : fromI (.int i) l = decide (l ≤ i) := Bool.true_and _
    rw [this] at q; exact q
  · have : fromI v l = false := by simp [fromI, h]
    rw [this] at q; exact q
/-! ### check_number, check_start where nothing is raised -/
def sp_check_number (K : PySem.W.Frag) : Sp := fun vs H Q _ => ∃ n : Int, vs = [.int n] ∧ 0 ≤ n ∧ Q .non H
def sp_check_start (K : PySem.W.Frag) : Sp := fun vs H Q _ => ∃ n : Int, vs = [.int n] ∧ 1 ≤ n ∧ Q .non H
def rd_check_number (K : PySem.W.Frag) : TS := tIfS (tNot (tB (tCall (sp_is_whole_from K) [] E0 (tCons (tVar 0) (tCons (tC (.int 0)) (tNil)))))) (tNever) (tNext)
def rd_check_start (K : PySem.W.Frag) : TS := tIfS (tNot (tB (tCall (sp_is_whole_from K) [] E0 (tCons (tVar 0) (tCons (tC (.int 1)) (tNil)))))) (tNever) (tNext)
theorem pure_check_number (K : PySem.W.Frag) (vs : List V) (H : Hp) (Q : VK) (E : XK) (h : sp_check_number K vs H Q E) : rd_check_number K { nx := fun _ H' => Q .non H', rt := Q } (start ["n"] vs) H := by
  obtain ⟨n, rfl, hn, q⟩ := h
  unfold rd_check_number
  walk_at "rd"
  refine ⟨_, _, _, rfl, WT.i n, ?_⟩
  have : fromI (.int n) 0 = true := by simp [fromI, isInt, iv, hn]
  rw [this]
  walk_at "rd"
  exact q
theorem pure_check_start (K : PySem.W.Frag) (vs : List V) (H : Hp) (Q : VK) (E : XK) (h : sp_check_start K vs H Q E) : rd_check_start K { nx := fun _ H' => Q .non H', rt := Q } (start ["x"] vs) H := by
  obtain ⟨n, rfl, hn, q⟩ := h
  unfold rd_check_start
  walk_at "rd"
  refine ⟨_, _, _, rfl, WT.i n, ?_⟩
  have : fromI (.int n) 1 = true := by simp [fromI, isInt, iv, hn]
  rw [this]
  walk_at "rd"
  exact q

def rd_power_L1 (K : PySem.W.Frag) : TS := tAug 2 (tVar 0) FW.iMul
def rd_power (K : PySem.W.Frag) : TS := tSeq (tAsg (tC (.int 1)) (gName 2)) (tSeq (tFor (iRng1 (tCons (tVar 1) (tNil))) (gName 3) (rd_power_L1 K)) (tRet (tVar 2)))
/-- x ^ k, x below 2 ^ b -/
def sp_power (K : PySem.W.Frag) : Sp := fun vs H Q _ => ∃ (x k : Int) (b : Nat), vs = [.int x, .int k] ∧ 0 ≤ k ∧ x.natAbs < 2 ^ b ∧ 0 < b ∧ (k.toNat + 1) * b ≤ 900000 ∧ Q (.int (x ^ k.toNat)) H
theorem pow_lt {x : Int} {b : Nat} (h : x.natAbs < 2 ^ b) (hb : 0 < b) : ∀ n : Nat, (x ^ n).natAbs < 2 ^ (n * b + 1)
  | 0 => by simp
  | n + 1 => by
    have ih := pow_lt h hb n
    rw [Int.pow_succ, Int.natAbs_mul, Nat.add_mul, Nat.one_mul, Nat.add_right_comm, Nat.pow_add]
    exact Nat.mul_lt_mul'' ih h
theorem pure_power (K : PySem.W.Frag) (vs : List V) (H : Hp) (Q : VK) (E : XK) (h : sp_power K vs H Q E) : rd_power K { nx := fun _ H' => Q .non H', rt := Q } (start ["x", "k", "found", "turn"] vs) H := by
  obtain ⟨x, k, b, rfl, hk, hx, hb, hz, q⟩ := h
  unfold rd_power
  walk_at "rd"
  refine for_range (lo := 0) (n := k.toNat) (fun i σ H' => H' = H ∧ ∃ v, σ = [some (.int x), some (.int k), some (.int (x ^ i)), v]) ⟨rfl, _, by rw [Int.pow_zero]; rfl⟩ ?_ ?_
  · rintro i σ H' hi ⟨rfl, v, rfl⟩
    show rd_power_L1 K _ _ _
    unfold rd_power_L1
    walk_at "rd"
    · exact ⟨rfl, _, by rw [Int.pow_succ]; rfl⟩
    · refine wide_mul (pow_lt hx hb i) hx (by omega) hb ?_
      have : (i + 1) * b ≤ (k.toNat + 1) * b := Nat.mul_le_mul_right _ (by omega)
      rw [Nat.add_mul] at this
      omega
  · rintro σ H' ⟨rfl, v, rfl⟩
    walk_at "rd"
    exact q
  · have : k.toNat * 1 ≤ k.toNat * b := Nat.mul_le_mul_left _ hb
    rw [Nat.add_mul] at hz
    omega

/-! ### words -/
def wordOf (v : V) (ws : List V) : Bool := isStr v && inV v ws
def sp_is_word_of (K : PySem.W.Frag) : Sp := fun vs H Q _ => ∃ (v : V) (n : String) (a : Addr) (ws : List V), vs = [v, .ref a] ∧ WT K H v n ∧ SqT K H a ws ∧ ws.all flatV = true ∧ Q (.bl (wordOf v ws)) H
def rd_is_word_of (K : PySem.W.Frag) : TS := tRet (tAndV (tCB (rIsi K) (tCons (tVar 0) (tCons (tC (.ty "str")) (tNil)))) (tOp (rIn K false) (tVar 0) (tVar 1)))
theorem pure_is_word_of (K : PySem.W.Frag) (vs : List V) (H : Hp) (Q : VK) (E : XK) (h : sp_is_word_of K vs H Q E) : rd_is_word_of K { nx := fun _ H' => Q .non H', rt := Q } (start ["thing", "words"] vs) H := by
  obtain ⟨v, n, a, ws, rfl, hv, hw, hf, q⟩ := h
  have e := hv.isStr
  unfold rd_is_word_of
  walk_at "rd"
  refine e_isi ?_ hv (kitS hv.2)
  refine ?_
  walk_at "rd"
  refine e_ite (fun h => ?_) (fun h => ?_)
  · rw [decide_eq_true h] at e
    obtain ⟨x, rfl⟩ := isStr_of e
    walk_at "rd"
    refine e_in ?_ (.inr hw) rfl hf
    exact q
  · rw [decide_eq_false h] at e
    have : wordOf v ws = false := by simp [wordOf, e]
    rw [this] at q; exact q
def stopsV : List V := [.str "notless", .str "equal", .str "near1", .str "near2", .str "back", .str "under", .str "held"]
def toldsV : List V := [.str "old", .str "new", .str "less", .str "more"]
def mendsV : List V := [.str "none", .str "down", .str "up", .str "both"]
def looksV : List V := [.str "under", .str "held"]
/-- what the text's top holds for averages -/
structure AvK (K : PySem.W.Frag) : Prop where
  cls : Cls K (He.ga K "Average")
  n_k : NoAttr K (He.ga K "Average") "k"
  n_a : NoAttr K (He.ga K "Average") "a"
  n_c : NoAttr K (He.ga K "Average") "c"
  n_d : NoAttr K (He.ga K "Average") "d"
  n_stop : NoAttr K (He.ga K "Average") "stop"
  n_told : NoAttr K (He.ga K "Average") "told"
  n_mend : NoAttr K (He.ga K "Average") "mend"
  stops : ∀ H, SqT K H (He.ga K "STOPS") stopsV
  tolds : ∀ H, SqT K H (He.ga K "TOLDS") toldsV
  mends : ∀ H, SqT K H (He.ga K "MENDS") mendsV
  looks : ∀ H, SqT K H (He.ga K "LOOKS") looksV
/-- the first part that is not so -/
def wrongP (k a c d s t m : V) : V :=
  if (!isInt k || !inV k [.int 2, .int 3, .int 4]) = true then .str "k"
  else if (!isInt a || !(decide (1 ≤ iv a) && decide (iv a ≤ 5))) = true then .str "a"
  else if (!fromI c 1 || (decide (iv a < iv c * (iv k - 1)) || decide (6 < iv a + iv c))) = true then .str "c"
  else if (!isInt d || !(decide (-iv a ≤ iv d) && decide (iv d ≤ iv a + iv c))) = true then .str "d"
  else if (!wordOf s stopsV) = true then .str "stop"
  else if (!wordOf t toldsV || (inV s looksV && !decide (t = .str "old"))) = true then .str "told"
  else if wordOf m mendsV = true then .non else .str "mend"
def sp_wrong_part (K : PySem.W.Frag) : Sp := fun vs H Q _ => ∃ k a c d s t m : V, vs = [k, a, c, d, s, t, m] ∧ (∀ v ∈ [k, a, c, d, s, t, m], ∃ n, WT K H v n) ∧ (iv c).natAbs < 2 ^ 900 ∧
  ∀ H', Ext H H' → Q (wrongP k a c d s t m) H'
theorem WT.ext {K : PySem.W.Frag} {H H' : Hp} {v : V} {n : String} (e : Ext H H') (h : WT K H v n) : WT K H' v n := by
  obtain ⟨h, hn⟩ := h
  refine ⟨?_, hn⟩
  cases h with
  | base b =>
    refine .base ?_
    cases b with
    | non => exact .non
    | bl x => exact .bl x
    | int x => exact .int x
    | str x => exact .str x
    | flt x => exact .flt x
    | lst q => exact .lst (e _ _ q)
    | frz q => exact .frz (e _ _ q)
    | tup q => exact .tup (e _ _ q)
    | dK q => exact .dK (e _ _ q)
    | dT q => exact .dT (e _ _ q)
  | byt x => exact .byt x
  | set q => exact .set (e _ _ q)
  | kList q c => exact .kList q c
  | kTuple q c => exact .kTuple q c
  | kDict q c => exact .kDict q c
  | fTuple q => exact .fTuple (e _ _ q)
  | fDict q => exact .fDict (e _ _ q)
theorem or_ite {a b : Bool} {A B C : Prop} (h1 : (a || b) = true → A) (h2 : (a || b) = false → B) : if a = true then A else (if b = true then A else B) := by
  cases a <;> cases b <;> simp_all
def rd_wrong_part (K : PySem.W.Frag) : TS := tSeq (tIfS (tOr (tNot (tB (tCall (sp_is_whole K) [] E0 (tCons (tVar 0) (tNil))))) (tTest (tOp (rIn K true) (tVar 0) (tTup (tCons (tC (.int 2)) (tCons (tC (.int 3)) (tCons (tC (.int 4)) (tNil)))))))) (tRet (tC (.str "k"))) (tNext)) (tSeq (tIfS (tOr (tNot (tB (tCall (sp_is_whole K) [] E0 (tCons (tVar 1) (tNil))))) (tNot (tTest (tChain FW.rLe FW.rLe (tC (.int 1)) (tVar 1) (tC (.int 5)))))) (tRet (tC (.str "a"))) (tNext)) (tSeq (tIfS (tOr (tNot (tB (tCall (sp_is_whole_from K) [] E0 (tCons (tVar 2) (tCons (tC (.int 1)) (tNil)))))) (tOr (tTest (tOp FW.rLt (tVar 1) (tOp FW.rMul (tVar 2) (tOp FW.rSub (tVar 0) (tC (.int 1)))))) (tTest (tOp FW.rGt (tOp FW.rAdd (tVar 1) (tVar 2)) (tC (.int 6)))))) (tRet (tC (.str "c"))) (tNext)) (tSeq (tIfS (tOr (tNot (tB (tCall (sp_is_whole K) [] E0 (tCons (tVar 3) (tNil))))) (tNot (tTest (tChain FW.rLe FW.rLe (tUn FW.rNeg (tVar 1)) (tVar 3) (tOp FW.rAdd (tVar 1) (tVar 2)))))) (tRet (tC (.str "d"))) (tNext)) (tSeq (tIfS (tNot (tB (tCall (sp_is_word_of K) [] E0 (tCons (tVar 4) (tCons (tC (.ref (He.ga K "STOPS"))) (tNil)))))) (tRet (tC (.str "stop"))) (tNext)) (tSeq (tIfS (tOr (tNot (tB (tCall (sp_is_word_of K) [] E0 (tCons (tVar 5) (tCons (tC (.ref (He.ga K "TOLDS"))) (tNil)))))) (tAnd (tTest (tOp (rIn K false) (tVar 4) (tC (.ref (He.ga K "LOOKS"))))) (tTest (tOp rNe (tVar 5) (tC (.str "old")))))) (tRet (tC (.str "told"))) (tNext)) (tRet (tIf (tB (tCall (sp_is_word_of K) [] E0 (tCons (tVar 6) (tCons (tC (.ref (He.ga K "MENDS"))) (tNil))))) (tC .non) (tC (.str "mend")))))))))
set_option maxHeartbeats 8000000 in
theorem pure_wrong_part (K : PySem.W.Frag) (A : AvK K) (vs : List V) (H : Hp) (Q : VK) (E : XK) (h : sp_wrong_part K vs H Q E) : rd_wrong_part K { nx := fun _ H' => Q .non H', rt := Q } (start ["k", "a", "c", "d", "stop", "told", "mend"] vs) H := by
  obtain ⟨k, a, c, d, s, t, m, rfl, hW, hc, q⟩ := h
  obtain ⟨nk, wk⟩ := hW k (by simp)
  obtain ⟨na, wa⟩ := hW a (by simp)
  obtain ⟨nc, wc⟩ := hW c (by simp)
  obtain ⟨nd, wd⟩ := hW d (by simp)
  obtain ⟨ns, ws⟩ := hW s (by simp)
  obtain ⟨nt, wt⟩ := hW t (by simp)
  obtain ⟨nm, wm⟩ := hW m (by simp)
  unfold wrongP at q
  unfold rd_wrong_part
  walk_at "rd"
  refine ⟨_, _, rfl, wk, ?_⟩
  walk_at "rd"
  refine e_iteB (fun h1 => ?_) (fun h1 => ?_)
  · walk_at "rd"
    rw [if_pos (by rw [h1]; rfl)] at q
    exact q _ Ext.rfl'
  rw [h1, Bool.false_or] at q
  have h1' : isInt k = true := by simpa using h1
  obtain ⟨k, rfl⟩ := isInt_of h1'
  walk_at "rd"
  refine ⟨by show 3 ≤ sizeLine; decide, fun p hp => ?_⟩
  refine e_in ?_ (.inr (SqT.of upd_same)) rfl rfl
  have eH : Ext H (upd H p (.tup [.int 2, .int 3, .int 4])) := Ext.new hp
  generalize upd H p (.tup [.int 2, .int 3, .int 4]) = H1 at *
  rw [if_pos rfl]
  refine ?_
  walk_at "rd"
  refine e_iteB (fun h2 => ?_) (fun h2 => ?_)
  · walk_at "rd"
    rw [if_pos h2] at q
    exact q _ eH
  rw [if_neg (by rw [h2]; decide)] at q
  have hk : k = 2 ∨ k = 3 ∨ k = 4 := by
    simp [inV, eqV] at h2
    omega
  walk_at "rd"
  refine ⟨_, _, rfl, wa.ext eH, ?_⟩
  walk_at "rd"
  refine e_iteB (fun h3 => ?_) (fun h3 => ?_)
  · walk_at "rd"
    rw [if_pos (by rw [h3]; rfl)] at q
    exact q _ eH
  rw [h3, Bool.false_or] at q
  have h3' : isInt a = true := by simpa using h3
  obtain ⟨a, rfl⟩ := isInt_of h3'
  walk_at "rd"
  have ha : (1 ≤ a ∧ a ≤ 5) ∨ ¬ (1 ≤ a ∧ a ≤ 5) := Classical.em _
  rcases ha with ha | ha
  · rw [decide_eq_true ha.1]
    walk_at "rd"
    rw [decide_eq_true ha.2]
    walk_at "rd"
    rw [if_neg (by simp [iv, ha.1, ha.2])] at q
    refine ⟨_, _, _, rfl, wc.ext eH, ?_⟩
    walk_at "rd"
    refine e_iteB (fun h4 => ?_) (fun h4 => ?_)
    · walk_at "rd"
      rw [if_pos (by rw [h4]; rfl)] at q
      exact q _ eH
    rw [h4, Bool.false_or] at q
    have h4' : fromI c 1 = true := by simpa using h4
    have h4i : isInt c = true := by
      unfold fromI at h4'
      rw [Bool.and_eq_true] at h4'
      exact h4'.1
    obtain ⟨c, rfl⟩ := isInt_of h4i
    walk_at "rd"
    rotate_left 1
    · exact wide_mul (a := 900) (b := 10) hc (by omega) (by decide) (by decide) (by decide)
    refine e_ite (fun h5 => ?_) (fun h5 => ?_)
    · walk_at "rd"
      rw [if_pos (by rw [decide_eq_true (by exact h5)]; rfl)] at q
      exact q _ eH
    rw [decide_eq_false (by exact h5), Bool.false_or] at q
    walk_at "rd"
    refine e_ite (fun h6 => ?_) (fun h6 => ?_)
    · walk_at "rd"
      rw [if_pos (decide_eq_true (by exact h6))] at q
      exact q _ eH
    rw [if_neg (by rw [decide_eq_false (by exact h6)]; decide)] at q
    walk_at "rd"
    refine ⟨_, _, rfl, wd.ext eH, ?_⟩
    walk_at "rd"
    refine e_iteB (fun h7 => ?_) (fun h7 => ?_)
    · walk_at "rd"
      rw [if_pos (by rw [h7]; rfl)] at q
      exact q _ eH
    rw [h7, Bool.false_or] at q
    have h7' : isInt d = true := by simpa using h7
    obtain ⟨d, rfl⟩ := isInt_of h7'
    walk_at "rd"
    have hd : (-a ≤ d ∧ d ≤ a + c) ∨ ¬ (-a ≤ d ∧ d ≤ a + c) := Classical.em _
    rcases hd with hd | hd
    · rw [decide_eq_true hd.1]
      walk_at "rd"
      rw [decide_eq_true hd.2]
      walk_at "rd"
      rw [if_neg (by simp [iv, hd.1, hd.2])] at q
      refine ⟨_, _, _, _, rfl, ws.ext eH, A.stops _, by decide, ?_⟩
      walk_at "rd"
      refine e_iteB (fun h8 => ?_) (fun h8 => ?_)
      · walk_at "rd"
        rw [if_pos h8] at q
        exact q _ eH
      rw [if_neg (by rw [h8]; decide)] at q
      have h8' : wordOf s stopsV = true := by simpa using h8
      have h8s : isStr s = true := by
        unfold wordOf at h8'
        rw [Bool.and_eq_true] at h8'
        exact h8'.1
      obtain ⟨s, rfl⟩ := isStr_of h8s
      walk_at "rd"
      refine ⟨_, _, _, _, rfl, wt.ext eH, A.tolds _, by decide, ?_⟩
      walk_at "rd"
      refine e_iteB (fun h9 => ?_) (fun h9 => ?_)
      · walk_at "rd"
        rw [if_pos (by rw [h9]; rfl)] at q
        exact q _ eH
      rw [h9, Bool.false_or] at q
      have h9' : wordOf t toldsV = true := by simpa using h9
      have h9s : isStr t = true := by
        unfold wordOf at h9'
        rw [Bool.and_eq_true] at h9'
        exact h9'.1
      obtain ⟨t, rfl⟩ := isStr_of h9s
      walk_at "rd"
      refine e_in ?_ (.inr (A.looks _)) rfl (by decide)
      rw [if_neg (by decide)]
      refine ?_
      walk_at "rd"
      refine e_iteB (fun h10 => ?_) (fun h10 => ?_)
      · rw [h10, Bool.true_and] at q
        walk_at "rd"
        refine e_iteB (fun h11 => ?_) (fun h11 => ?_)
        · walk_at "rd"
          rw [if_pos h11] at q
          exact q _ eH
        rw [if_neg (by rw [h11]; decide)] at q
        walk_at "rd"
        refine ⟨_, _, _, _, rfl, wm.ext eH, A.mends _, by decide, ?_⟩
        walk_at "rd"
        refine e_iteB (fun h12 => ?_) (fun h12 => ?_)
        · walk_at "rd"
          rw [if_pos h12] at q
          exact q _ eH
        · walk_at "rd"
          rw [if_neg (by rw [h12]; decide)] at q
          exact q _ eH
      · rw [h10, Bool.false_and, if_neg (by decide)] at q
        walk_at "rd"
        refine ⟨_, _, _, _, rfl, wm.ext eH, A.mends _, by decide, ?_⟩
        walk_at "rd"
        refine e_iteB (fun h12 => ?_) (fun h12 => ?_)
        · walk_at "rd"
          rw [if_pos h12] at q
          exact q _ eH
        · walk_at "rd"
          rw [if_neg (by rw [h12]; decide)] at q
          exact q _ eH
    · by_cases h : -a ≤ d
      · have h' : ¬ d ≤ a + c := fun z => hd ⟨h, z⟩
        rw [if_pos (by show (!(decide (-a ≤ d) && decide (d ≤ a + c))) = true; rw [decide_eq_false h', Bool.and_false]; rfl)] at q
        rw [decide_eq_true h]
        walk_at "rd"
        rw [decide_eq_false h']
        walk_at "rd"
        exact q _ eH
      · rw [if_pos (by show (!(decide (-a ≤ d) && decide (d ≤ a + c))) = true; rw [decide_eq_false h]; rfl)] at q
        rw [decide_eq_false h]
        walk_at "rd"
        exact q _ eH
  · by_cases h : 1 ≤ a
    · have h' : ¬ a ≤ 5 := fun z => ha ⟨h, z⟩
      rw [if_pos (by show (!(decide (1 ≤ a) && decide (a ≤ 5))) = true; rw [decide_eq_false h', Bool.and_false]; rfl)] at q
      rw [decide_eq_true h]
      walk_at "rd"
      rw [decide_eq_false h']
      walk_at "rd"
      exact q _ eH
    · rw [if_pos (by show (!(decide (1 ≤ a) && decide (a ≤ 5))) = true; rw [decide_eq_false h]; rfl)] at q
      rw [decide_eq_false h]
      walk_at "rd"
      exact q _ eH
end FWL
namespace FWL
open PySem PySem.Spec PyProof.Rows L2 FW
/-! ### sizes -/
abbrev Sz (b : Nat) (x : Int) : Prop := x.natAbs < 2 ^ b
theorem Sz.mono {a b : Nat} {x : Int} (h : Sz a x) (l : a ≤ b) : Sz b x := Nat.lt_of_lt_of_le h (Nat.pow_le_pow_right (by decide) l)
theorem Sz.add {a : Nat} {x y : Int} (h : Sz a x) (h' : Sz a y) : Sz (a + 1) (x + y) := by
  show (x + y).natAbs < 2 ^ (a + 1)
  rw [Nat.pow_succ]
  have h1 : x.natAbs < 2 ^ a := h
  have h2 : y.natAbs < 2 ^ a := h'
  omega
theorem Sz.sub {a : Nat} {x y : Int} (h : Sz a x) (h' : Sz a y) : Sz (a + 1) (x - y) := by
  show (x - y).natAbs < 2 ^ (a + 1)
  rw [Nat.pow_succ]
  have h1 : x.natAbs < 2 ^ a := h
  have h2 : y.natAbs < 2 ^ a := h'
  omega
theorem Sz.mul {a b : Nat} {x y : Int} (h : Sz a x) (h' : Sz b y) : Sz (a + b) (x * y) := wide_lt h h'
theorem Sz.of_le {a : Nat} {x y : Int} (h0 : 0 ≤ x) (h : x ≤ y) (hy : Sz a y) : Sz a x := wide_le h0 h hy
theorem Sz.pow {b : Nat} {x : Int} (h : Sz b x) (hb : 0 < b) (n : Nat) : Sz (n * b + 1) (x ^ n) := pow_lt h hb n
theorem Sz.log2 {b : Nat} {x : Int} (h : Sz b x) (hb : 0 < b) (h9 : b ≤ 9000) : x.natAbs.log2 < 9000 := Nat.lt_of_lt_of_le (PySem.Flt.log2_lt_of hb h) h9
theorem Sz.powk {b : Nat} {x k : Int} (h : Sz b x) (hb : 0 < b) (hk : k ≤ 4) : Sz (4 * b + 1) (x ^ k.toNat) :=
  (h.pow hb k.toNat).mono (by have : k.toNat ≤ 4 := by omega
                              have := Nat.mul_le_mul_right b this
                              omega)
theorem pow_room {k : Int} {b : Nat} (hk : k ≤ 4) (hb : b ≤ 1000) : (k.toNat + 1) * b ≤ 900000 := by
  have : k.toNat + 1 ≤ 5 := by omega
  have := Nat.mul_le_mul this hb
  omega
end FWL
namespace FWL
open PySem PySem.Spec PyProof.Rows L2 FW
/-! ### more readings -/
section
variable {K : PySem.W.Frag} {σ : L2.St} {H : Hp} {Q : VK} {D : Ends} {ta tb tc te : TE} {tA : TA} {v : V} {i j : Int} {n : Nat} {a b : Addr} {xs ys : List V}
theorem e_rep (q : ∀ p, H p = none → Q (.ref p) (upd H p (.lst (List.replicate i.toNat v)))) (h : H a = some (.lst [v])) (hz : i ≤ 1000) (h0 : -1000 ≤ i) : rRep (.ref a) (.int i) H Q := by
  refine ⟨a, i, [v], rfl, rfl, h, by omega, by omega, ?_, fun p hp => ?_⟩
  · show 1 * i.toNat ≤ 2 ^ 24
    omega
  · have e : (List.replicate i.toNat [v]).flatten = List.replicate i.toNat v := by
      induction i.toNat with
      | zero => rfl
      | succ m ih => rw [List.replicate_succ, List.flatten_cons, ih, List.replicate_succ]; rfl
    rw [e]
    exact q p hp
theorem e_cat (q : ∀ p, H p = none → Q (.ref p) (upd H p (.lst (xs ++ ys)))) (h : H a = some (.lst xs)) (h' : H b = some (.lst ys)) (hz : xs.length + ys.length ≤ sizeLine) : rCat (.ref a) (.ref b) H Q := ⟨a, b, xs, ys, rfl, rfl, h, h', hz, q⟩
theorem e_listS (q : ∀ p, H p = none → Q (.ref p) (upd H p (.lst xs))) (h : SqL K H a xs ∨ SqT K H a xs) : Evl.rListS K [.ref a] H Q := ⟨a, xs, rfl, h, q⟩
theorem e_tupL (q : ∀ p, H p = none → Q (.ref p) (upd H p (.tup xs))) (h : SqL K H a xs) : FW.rTupS K [.ref a] H Q := ⟨a, xs, rfl, .inl ⟨h, q⟩⟩
theorem e_sl {r : V → Option Int → Option Int → Hp → VK → Prop} {tl th : L2.TO} (k : te σ H fun x H1 => tl σ H1 fun l H2 => th σ H2 fun u H3 => r x l u H3 Q) : L2.tSl r te tl th σ H Q := k
theorem e_noP {R : Option Int → Hp → Prop} (k : R none H) : tNoPart σ H R := k
theorem e_part {R : Option Int → Hp → Prop} (k : te σ H fun x H1 => ∃ i, x = .int i ∧ R (some i) H1) : tPart te σ H R := k
theorem e_part' {R : Int → Prop} (k : R i) : ∃ j, V.int i = .int j ∧ R j := ⟨i, rfl, k⟩
theorem e_slL {lo hi : Option Int} (q : ∀ p, H p = none → Q (.ref p) (upd H p (.lst (cutV xs lo hi)))) (h : SqL K H a xs) : rSlL K (.ref a) lo hi H Q := ⟨a, xs, rfl, h, q⟩
theorem e_sum {ns : List Int} (q : Q (.int ns.sum) H) (h : SqL K H a (ns.map V.int)) : rSum K [.ref a] H Q := ⟨a, ns, rfl, h, q⟩
theorem e_all {bs : List Bool} (q : Q (.bl (bs.all id)) H) (h : SqL K H a (bs.map V.bl)) : rAll K [.ref a] H Q := ⟨a, bs, rfl, h, q⟩
theorem e_eqD {d e : PyData} (q : Q (.bl (PyData.eqv d e)) H) {x y : V} (h1 : Dp K H x d) (h2 : Dp K H y e) (s1 : SeqAt.shaped d = true) (s2 : SeqAt.shaped e = true) : rEqD K x y H Q := ⟨d, e, h1, h2, s1, s2, q⟩
theorem e_neD {d e : PyData} (q : Q (.bl (!PyData.eqv d e)) H) {x y : V} (h1 : Dp K H x d) (h2 : Dp K H y e) (s1 : SeqAt.shaped d = true) (s2 : SeqAt.shaped e = true) : rNeD K x y H Q := ⟨d, e, h1, h2, s1, s2, q⟩
theorem e_rev (q : ∀ p, H p = none → Q (.ref p) (upd H p (.lst xs.reverse))) (q' : ∀ p, H p = none → Q (.ref p) (upd H p (.tup xs.reverse))) (hv : σ[n]? = some (some (.ref a))) (h : SqL K H a xs ∨ SqT K H a xs) : FW.tEither (tRevL K (tVar n)) (FW.tRevT K (tVar n)) σ H Q := by
  rcases h with h | h
  · exact .inl ⟨_, hv, a, xs, rfl, h, q⟩
  · exact .inr ⟨_, hv, a, xs, rfl, h, q'⟩
theorem i_zip {R : It → Hp → Prop} (k : tA σ H fun vs H1 => ∃ a b xs ys, vs = [.ref a, .ref b] ∧ SqL K H1 a xs ∧ SqL K H1 b ys ∧ R (Itz K a b) H1) : iZip K tA σ H R := k
theorem i_enum {R : It → Hp → Prop} (k : tA σ H fun vs H1 => ∃ a xs, vs = [.ref a] ∧ SqL K H1 a xs ∧ R (Ite K a) H1) : iEnum K tA σ H R := k
theorem i_enumT {R : It → Hp → Prop} (k : tA σ H fun vs H1 => ∃ a xs, vs = [.ref a] ∧ SqT K H1 a xs ∧ R (FW.IteT K a) H1) : FW.iEnumT K tA σ H R := k
theorem s_augS {to ti : TE} {tget : V → V → Hp → VK → Prop} {tip : TIp} {tset : TSet} (k : to σ H fun o H1 => ti σ H1 fun i H2 => tget o i H2 fun x H3 => te σ H3 fun y H4 => tip x y H4 fun z H5 => tset o i z H5 fun H6 => D.nx σ H6) : tAugS to ti te tget tip tset D σ H := k
end
/-- a list or a tuple -/
abbrev SqA (K : PySem.W.Frag) (H : Hp) (a : Addr) (xs : List V) : Prop := SqL K H a xs ∨ SqT K H a xs
theorem SqA.ext {K : PySem.W.Frag} {H H' : Hp} {a : Addr} {xs : List V} (e : Ext H H') (h : SqA K H a xs) : SqA K H' a xs := h.elim (fun h => .inl (e.sqL h)) (fun h => .inr (e.sqT h))
/-- for x in s, s a list or a tuple -/
theorem for_seq {K : PySem.W.Frag} {tl : TE} {g : TG} {tb : TS} {D : Ends} {σ : L2.St} {H H1 : Hp} {a : Addr} {xs : List V} (Pv : Nat → L2.St → Hp → Prop)
    (hl : ∀ R : V → Hp → Prop, R (.ref a) H1 → tl σ H R) (hq : SqA K H1 a xs) (h0 : Pv 0 σ H1) (hk : ∀ i σ H', Pv i σ H' → Ext H1 H')
    (hs : ∀ i x σ H', xs[i]? = some x → Pv i σ H' → g x σ H' fun σ2 H2 => tb { D with nx := Pv (i + 1), ct := Pv (i + 1), bk := D.nx } σ2 H2) (hd : ∀ σ H', Pv xs.length σ H' → D.nx σ H') :
    tFor (FW.iEither (iList K tl) (iTup K tl)) g tb D σ H := by
  rcases hq with hq | hq
  · refine s_for (.inl (i_list (hl _ (i_list' xs ?_ hq))))
    exact for_list (xs := xs) Pv h0 (fun i σ H' _ p => (hk i σ H' p).sqL hq) hs hd
  · refine s_for (.inr (i_tup (hl _ (i_tup' xs ?_ hq))))
    exact for_tup (xs := xs) Pv h0 (fun i σ H' _ p => (hk i σ H' p).sqT hq) hs hd
/-- for i, x in enumerate(s), s a list or a tuple at slot n -/
theorem for_enumA {K : PySem.W.Frag} {n : Nat} {g : TG} {tb : TS} {D : Ends} {σ : L2.St} {H0 H : Hp} {a : Addr} {xs : List V} (Pv : Nat → L2.St → Hp → Prop)
    (hv : σ[n]? = some (some (.ref a))) (hq : SqA K H0 a xs) (h0 : Pv 0 σ H) (hk : ∀ i σ H', Pv i σ H' → Ext H0 H')
    (hs : ∀ i x σ H' T, xs[i]? = some x → Pv i σ H' → H' T = none → g (.ref T) σ (upd H' T (.tup [.int (i : Nat), x])) fun σ2 H2 => tb { D with nx := Pv (i + 1), ct := Pv (i + 1), bk := D.nx } σ2 H2) (hd : ∀ σ H', Pv xs.length σ H' → D.nx σ H') :
    tFor (FW.iEither (iEnum K (tCons (tVar n) tNil)) (FW.iEnumT K (tCons (tVar n) tNil))) g tb D σ H := by
  rcases hq with hq | hq
  · refine s_for (.inl ?_)
    refine ⟨_, hv, a, xs, rfl, (hk _ _ _ h0).sqL hq, ?_⟩
    refine for_it (walk_enum (K := K) (a := a) (xs := xs)) Pv h0 (fun i σ H' _ p => (hk i σ H' p).sqL hq) ?_ hd
    rintro i x σ H' H'' hi p ⟨T, y, z, rfl, hT, rfl, e1, e2⟩
    cases e1
    exact hs i z σ H' T e2 p hT
  · refine s_for (.inr ?_)
    refine ⟨_, hv, a, xs, rfl, (hk _ _ _ h0).sqT hq, ?_⟩
    refine for_it (FW.walk_enumT (K := K) (a := a) (xs := xs)) Pv h0 (fun i σ H' _ p => (hk i σ H' p).sqT hq) ?_ hd
    rintro i x σ H' H'' hi p ⟨T, y, z, rfl, hT, rfl, e1, e2⟩
    cases e1
    exact hs i z σ H' T e2 p hT
/-! data of ints -/
theorem dpI {K : PySem.W.Frag} {H : Hp} : ∀ ns : List Int, DpAll K H (ns.map V.int) (ns.map PyData.int)
  | [] => .nil
  | n :: ns => .cons (.int n) (dpI ns)
theorem layI : ∀ ns : List Int, PyData.canLayAll0 (ns.map PyData.int) = true
  | [] => rfl
  | n :: ns => by rw [List.map_cons, PyData.canLayAll0, layI ns]; rfl
theorem depI : ∀ ns : List Int, PyData.depthAll (ns.map PyData.int) = 0
  | [] => rfl
  | n :: ns => by rw [List.map_cons, PyData.depthAll, depI ns]; rfl
theorem shL (ns : List Int) : SeqAt.shaped (.list (ns.map PyData.int)) = true := by
  unfold SeqAt.shaped
  rw [PyData.canLay0, layI, PyData.depth, depI]; rfl
theorem shT (ns : List Int) : SeqAt.shaped (.tuple (ns.map PyData.int)) = true := by
  unfold SeqAt.shaped
  rw [PyData.canLay0, layI, PyData.depth, depI]; rfl
theorem eqvI (ns ms : List Int) : PyData.eqvAll (ns.map PyData.int) (ms.map PyData.int) = decide (ns = ms) := by
  induction ns generalizing ms with
  | nil => cases ms <;> simp [PyData.eqvAll]
  | cons n ns ih =>
    cases ms with
    | nil => simp [PyData.eqvAll]
    | cons m ms =>
      simp [PyData.eqvAll, PyData.eqv, ih, Bool.and_comm]
      rfl
end FWL
namespace FWL
open PySem PySem.Spec PyProof.Rows L2 FW
/-! ### a stream: three ints; n bounds the draws so far -/
def Strm (H : Hp) (p : Addr) (n : Nat) : Prop := ∃ a b c : Int, H p = some (.lst [.int a, .int b, .int c]) ∧ 0 ≤ a ∧ 0 ≤ b ∧ b < 2 ^ 40 ∧ 0 ≤ c ∧ c ≤ n
theorem Strm.mono {H : Hp} {p : Addr} {n m : Nat} (h : Strm H p n) (l : n ≤ m) : Strm H p m := by
  obtain ⟨a, b, c, h1, h2, h3, h4, h5, h6⟩ := h
  exact ⟨a, b, c, h1, h2, h3, h4, h5, by omega⟩
theorem Strm.ext {H H' : Hp} {p : Addr} {n : Nat} (h : Strm H p n) (e : Ext H H') : Strm H' p n := by
  obtain ⟨a, b, c, h1, h2⟩ := h
  exact ⟨a, b, c, e _ _ h1, h2⟩
theorem Strm.ne {H : Hp} {p q : Addr} {n : Nat} (h : Strm H p n) (e : H q = none) : q ≠ p := by
  obtain ⟨a, b, c, h1, h2⟩ := h
  exact (ne_of_none h1 e).symm
def sp_l_stream (K : PySem.W.Frag) : Sp := fun vs H Q _ => ∃ (a : Addr) (ns : List Int) (k : Int), vs = [.ref a, .int k] ∧ SqL K H a (ns.map V.int) ∧ 0 ≤ k ∧ k < 1000 ∧
  ∀ p H', H p = none → Ext H H' → Strm H' p 0 → Q (.ref p) H'
def sp_l_draw (K : PySem.W.Frag) : Sp := fun vs H Q _ => ∃ (p : Addr) (many : Int) (n : Nat), vs = [.ref p, .int many] ∧ Strm H p n ∧ n < 1000000 ∧ 0 < many ∧ many.natAbs.log2 < 9000 ∧
  ∀ d H', 0 ≤ d → d < many → ExtB p H H' → Strm H' p (n + 1) → Q (.int d) H'
def sp_l_pick (K : PySem.W.Frag) : Sp := fun vs H Q _ => ∃ (p q : Addr) (xs : List V) (n : Nat), vs = [.ref p, .ref q] ∧ Strm H p n ∧ n < 1000000 ∧ q ≠ p ∧ H q = some (.lst xs) ∧ xs ≠ [] ∧ xs.length < 1000 ∧
  ∀ v H', v ∈ xs → ExtB p H H' → Strm H' p (n + 1) → Q v H'
def rd_l_stream (K : PySem.W.Frag) : TS := tSeq (tAsg (tIf (tTest (tOp FW.rLt (tVar 1) (tCB (Evl.rLenS K) (tCons (tVar 0) (tNil))))) (tCB FW.rAbs (tCons (tOp (rIxL K) (tVar 0) (tVar 1)) (tNil))) (tC (.int 0))) (gName 2)) (tRet (tLst (tCons (tIf (tTest (tOp FW.rGe (tVar 2) (tOp FW.rPow (tC (.int 10)) (tC (.int 18))))) (tVar 2) (tC (.int 0))) (tCons (tOp FW.rAdd (tOp FW.rMod (tCB FW.rInt1 (tCons (tVar 2) (tNil))) (tC (.int 2147483647))) (tOp FW.rMul (tC (.int 31)) (tVar 1))) (tCons (tC (.int 0)) (tNil))))))
def rd_l_draw (K : PySem.W.Frag) : TS := tSeq (tIfS (tTest (tOp FW.rGt (tOp (rIxL K) (tVar 0) (tC (.int 0))) (tC (.int 0)))) (tSeq (tAsg (tOp FW.rMod (tCB FW.rInt1 (tCons (tOp (rIxL K) (tVar 0) (tC (.int 0))) (tNil))) (tVar 1)) (gName 2)) (tSeq (tAsg (tOp FW.rDiv (tOp (rIxL K) (tVar 0) (tC (.int 0))) (tVar 1)) (gSub (tVar 0) (tC (.int 0)) rSetL)) (tRet (tVar 2)))) (tNext)) (tSeq (tAsg (tOp FW.rAdd (tOp (rIxL K) (tVar 0) (tC (.int 2))) (tC (.int 1))) (gSub (tVar 0) (tC (.int 2)) rSetL)) (tSeq (tAsg (tOp FW.rMod (tOp FW.rPow (tCB FW.rInt1 (tCons (tOp FW.rAdd (tOp FW.rAdd (tOp (rIxL K) (tVar 0) (tC (.int 1))) (tOp FW.rMul (tC (.int 7919)) (tOp (rIxL K) (tVar 0) (tC (.int 2))))) (tC (.int 104729))) (tNil))) (tC (.int 5))) (tC (.int 2147483647))) (gName 3)) (tRet (tOp FW.rMod (tOp FW.rDiv (tOp FW.rMod (tCB FW.rInt1 (tCons (tOp FW.rMul (tOp FW.rAdd (tVar 3) (tOp (rIxL K) (tVar 0) (tC (.int 2)))) (tC (.int 40692))) (tNil))) (tC (.int 2147483629))) (tC (.int 7))) (tVar 1)))))
def rd_l_pick (K : PySem.W.Frag) : TS := tRet (tOp (rIxL K) (tVar 1) (tCall (sp_l_draw K) [] E0 (tCons (tVar 0) (tCons (tCB (Evl.rLenS K) (tCons (tVar 1) (tNil))) (tNil)))))
theorem at_map {ns : List Int} {k : Int} (h0 : 0 ≤ k) (h : k < (ns.length : Int)) : ∃ i, atI (ns.map V.int) k = some (.int i) := by
  obtain ⟨k, rfl⟩ := Int.eq_ofNat_of_zero_le h0
  have hk : k < ns.length := by omega
  refine ⟨ns[k], atI_nat ?_⟩
  rw [List.getElem?_map, List.getElem?_eq_getElem hk]
  rfl
theorem pure_l_stream (K : PySem.W.Frag) (vs : List V) (H : Hp) (Q : VK) (E : XK) (h : sp_l_stream K vs H Q E) : rd_l_stream K { nx := fun _ H' => Q .non H', rt := Q } (start ["_law_script", "_law_k", "_law_cell"] vs) H := by
  obtain ⟨a, ns, k, rfl, hS, h0, hk, q⟩ := h
  have fin : ∀ cell : Int, 0 ≤ cell → (tRet (tLst (tCons (tIf (tTest (tOp FW.rGe (tVar 2) (tOp FW.rPow (tC (.int 10)) (tC (.int 18))))) (tVar 2) (tC (.int 0))) (tCons (tOp FW.rAdd (tOp FW.rMod (tCB FW.rInt1 (tCons (tVar 2) (tNil))) (tC (.int 2147483647))) (tOp FW.rMul (tC (.int 31)) (tVar 1))) (tCons (tC (.int 0)) (tNil)))))) { nx := fun _ H' => Q .non H', rt := Q } [some (.ref a), some (.int k), some (.int cell)] H := by
    intro cell hc
    have hm : 0 ≤ cell % 2147483647 := Int.emod_nonneg _ (by decide)
    have hm2 : cell % 2147483647 < 2147483647 := Int.emod_lt_of_pos _ (by decide)
    walk_at "rd"
    · refine e_ite (fun h => ?_) (fun h => ?_)
      · walk_at "rd"
        · refine ⟨by show 3 ≤ sizeLine; decide, fun p hp => q p _ hp (Ext.new hp) ⟨_, _, _, upd_same, hc, by omega, by omega, by decide, by decide⟩⟩
        · exact wide_mul (a := 10) (b := 10) (by decide) (by omega) (by decide) (by decide) (by decide)
        · decide
      · walk_at "rd"
        · refine ⟨by show 3 ≤ sizeLine; decide, fun p hp => q p _ hp (Ext.new hp) ⟨_, _, _, upd_same, by decide, by omega, by omega, by decide, by decide⟩⟩
        · exact wide_mul (a := 10) (b := 10) (by decide) (by omega) (by decide) (by decide) (by decide)
        · decide
    · exact ⟨by decide, by decide, by decide⟩
  unfold rd_l_stream
  walk_at "rd"
  refine e_len ?_ (.inl hS)
  walk_at "rd"
  refine e_ite (fun h => ?_) (fun h => ?_)
  · rw [List.length_map] at h
    obtain ⟨i, hi⟩ := at_map h0 h
    walk_at "rd"
    refine e_ixL ?_ hS hi
    walk_at "re"
    exact fin (if i < 0 then -i else i) (by split <;> omega)
  · walk_at "re"
    exact fin 0 (by decide)
theorem pure_l_draw (K : PySem.W.Frag) (vs : List V) (H : Hp) (Q : VK) (E : XK) (h : sp_l_draw K vs H Q E) : rd_l_draw K { nx := fun _ H' => Q .non H', rt := Q } (start ["_law_stream_here", "_law_many", "_law_digit", "_law_spread"] vs) H := by
  obtain ⟨p, many, n, rfl, ⟨a, b, c, hp, ha, hb, hb2, hc, hcn⟩, hn, hm, hml, q⟩ := h
  unfold rd_l_draw
  walk_at "rd"
  refine e_ixL ?_ (SqL.of hp) rfl
  walk_at "rd"
  refine e_ite (fun h => ?_) (fun h => ?_)
  · walk_at "rd"
    refine e_ixL ?_ (SqL.of hp) rfl
    walk_at "rd"
    · refine e_ixL ?_ (SqL.of hp) rfl
      walk_at "rd"
      · refine e_setL (m := 0) ?_ hp rfl
        walk_at "rd"
        refine q _ _ (Int.emod_nonneg _ (by omega)) (Int.emod_lt_of_pos _ hm) ExtB.upd ⟨_, _, _, upd_same, Int.ediv_nonneg ha (by omega), hb, hb2, hc, by omega⟩
      · exact ⟨hm, hml⟩
    · exact hm
  · walk_at "rd"
    refine e_ixL ?_ (SqL.of hp) rfl
    walk_at "rd"
    refine e_setL (m := 2) ?_ hp rfl
    have hp' : (upd H p (.lst ([V.int a, V.int b, V.int c].set 2 (.int (c + 1))))) p = some (.lst [.int a, .int b, .int (c + 1)]) := upd_same
    have eB : ExtB p H (upd H p (.lst ([V.int a, V.int b, V.int c].set 2 (.int (c + 1))))) := ExtB.upd
    generalize upd H p (.lst ([V.int a, V.int b, V.int c].set 2 (.int (c + 1)))) = H1 at *
    walk_at "rd"
    refine e_ixL ?_ (SqL.of hp') rfl
    walk_at "rd"
    refine e_ixL ?_ (SqL.of hp') rfl
    walk_at "rd"
    · refine e_ixL ?_ (SqL.of hp') rfl
      have hs : 0 ≤ ((b + 7919 * (c + 1) + 104729) ^ (5 : Int).toNat) % 2147483647 := Int.emod_nonneg _ (by decide)
      have hs2 : ((b + 7919 * (c + 1) + 104729) ^ (5 : Int).toNat) % 2147483647 < 2147483647 := Int.emod_lt_of_pos _ (by decide)
      walk_at "rd"
      · refine q _ _ (Int.emod_nonneg _ (by omega)) (Int.emod_lt_of_pos _ hm) eB ⟨_, _, _, hp', ha, hb, hb2, by omega, by omega⟩
      · exact hm
      · exact ⟨by decide, by decide⟩
      · decide
      · exact wide_mul (a := 60) (b := 20) (by omega) (by decide) (by decide) (by decide) (by decide)
    · decide
    · exact ⟨by decide, by decide, by omega⟩
    · exact wide_mul (a := 20) (b := 40) (by decide) (by omega) (by decide) (by decide) (by decide)
theorem log2_small {n : Nat} (h : n < 1000) : n.log2 < 9000 := by
  have : n.log2 ≤ n := Nat.log2_le_self n
  omega
theorem pure_l_pick (K : PySem.W.Frag) (vs : List V) (H : Hp) (Q : VK) (E : XK) (h : sp_l_pick K vs H Q E) : rd_l_pick K { nx := fun _ H' => Q .non H', rt := Q } (start ["_law_stream_here", "_law_things"] vs) H := by
  obtain ⟨p, a, xs, n, rfl, hS, hn, hne, ha, hx, hl, q⟩ := h
  have h0 : 0 < xs.length := List.length_pos_iff.mpr hx
  unfold rd_l_pick
  walk_at "rd"
  refine e_len ?_ (.inl (SqL.of ha))
  walk_at "rd"
  refine ⟨p, _, n, rfl, hS, hn, by omega, by rw [Int.natAbs_natCast]; exact log2_small hl, fun d H' d0 d1 e s => ?_⟩
  obtain ⟨d, rfl⟩ := Int.eq_ofNat_of_zero_le d0
  have hd : d < xs.length := by omega
  refine e_ixL (v := xs[d]) ?_ (SqL.of (e _ _ hne ha)) (atI_nat (List.getElem?_eq_getElem hd))
  exact q _ _ (List.getElem_mem _) e s
end FWL
namespace FWL
open PySem PySem.Spec PyProof.Rows L2 FW

/-! ### weights -/
def okW (k a c : Int) : Bool := decide (c * (k - 1) ≤ a) && decide (a + c ≤ 6)
def wRow (k a : Int) (cs : List Int) : List (Int × Int) := (cs.filter (okW k a)).map fun c => (a, c)
def wAll (k : Int) : Nat → List (Int × Int)
  | 0 => []
  | n + 1 => wAll k n ++ wRow k (1 + (n : Int)) [1, 2, 3]
def weightsL (k : Int) : List (Int × Int) := wAll k 5
/-- tuples of two ints -/
def Prs (H : Hp) : List V → List (Int × Int) → Prop
  | [], [] => True
  | v :: vs, w :: ws => (∃ t, v = .ref t ∧ H t = some (.tup [.int w.1, .int w.2])) ∧ Prs H vs ws
  | _, _ => False
theorem Prs.ext {H H' : Hp} (e : Ext H H') : ∀ {vs : List V} {ws : List (Int × Int)}, Prs H vs ws → Prs H' vs ws
  | [], [], _ => True.intro
  | _ :: _, _ :: _, ⟨⟨t, h1, h2⟩, r⟩ => ⟨⟨t, h1, e _ _ h2⟩, Prs.ext e r⟩
theorem Prs.upd {H : Hp} {D : Addr} {xs ys : List V} (hD : H D = some (.lst xs)) : ∀ {vs : List V} {ws : List (Int × Int)}, Prs H vs ws → Prs (upd H D (.lst ys)) vs ws
  | [], [], _ => True.intro
  | _ :: _, _ :: _, ⟨⟨t, h1, h2⟩, r⟩ => ⟨⟨t, h1, by rw [upd_ne (ne_of h2 hD (by intro z; cases z))]; exact h2⟩, Prs.upd hD r⟩
theorem Prs.app {H : Hp} : ∀ {vs vs' : List V} {ws ws' : List (Int × Int)}, Prs H vs ws → Prs H vs' ws' → Prs H (vs ++ vs') (ws ++ ws')
  | [], _, [], _, _, h => h
  | _ :: _, _, _ :: _, _, ⟨a, r⟩, h => ⟨a, Prs.app r h⟩
theorem Prs.len {H : Hp} : ∀ {vs : List V} {ws : List (Int × Int)}, Prs H vs ws → vs.length = ws.length
  | [], [], _ => rfl
  | _ :: _, _ :: _, ⟨_, r⟩ => congrArg Nat.succ (Prs.len r)
theorem Prs.mem {H : Hp} {v : V} : ∀ {vs : List V} {ws : List (Int × Int)}, Prs H vs ws → v ∈ vs → ∃ w ∈ ws, ∃ t, v = .ref t ∧ H t = some (.tup [.int w.1, .int w.2])
  | [], [], _, h => by cases h
  | x :: xs, w :: ws, ⟨a, r⟩, h => by
    rcases List.mem_cons.mp h with rfl | h
    · exact ⟨w, List.mem_cons_self, a⟩
    · obtain ⟨w', m, q⟩ := Prs.mem r h
      exact ⟨w', List.mem_cons_of_mem _ m, q⟩
theorem wRow_snoc (k a c : Int) (cs : List Int) : wRow k a (cs ++ [c]) = if okW k a c = true then wRow k a cs ++ [(a, c)] else wRow k a cs := by
  unfold wRow
  rw [List.filter_append]
  cases h : okW k a c <;> simp [List.filter_cons, h]
theorem wRow_len (k a : Int) (cs : List Int) : (wRow k a cs).length ≤ cs.length := by
  unfold wRow
  rw [List.length_map]
  exact List.length_filter_le _ _
theorem wAll_len (k : Int) : ∀ n, (wAll k n).length ≤ 3 * n
  | 0 => by simp [wAll]
  | n + 1 => by
    have := wAll_len k n
    have := wRow_len k (1 + (n : Int)) [1, 2, 3]
    simp only [wAll, List.length_append, List.length_cons, List.length_nil] at *
    omega
def sp_l_weights (K : PySem.W.Frag) : Sp := fun vs H Q _ => ∃ k : Int, vs = [.int k] ∧ 2 ≤ k ∧ k ≤ 4 ∧
  ∀ l ts H', H l = none → Ext H H' → H' l = some (.lst ts) → Prs H' ts (weightsL k) → Q (.ref l) H'
def rd_l_weights_L1 (K : PySem.W.Frag) : TS := tDrop (tBM K "list" rExtend (tVar 1) (tCons (tLc (iTup K (tTup (tCons (tC (.int 1)) (tCons (tC (.int 2)) (tCons (tC (.int 3)) (tNil)))))) (gName 3) (tAnd (tTest (tOp FW.rGe (tVar 2) (tOp FW.rMul (tVar 3) (tOp FW.rSub (tVar 0) (tC (.int 1)))))) (tTest (tOp FW.rLe (tOp FW.rAdd (tVar 2) (tVar 3)) (tC (.int 6))))) (tTup (tCons (tVar 2) (tCons (tVar 3) (tNil)))) [3]) (tNil)))
def rd_l_weights (K : PySem.W.Frag) : TS := tSeq (tAsg (tLst (tNil)) (gName 1)) (tSeq (tFor (iRng2 (tCons (tC (.int 1)) (tCons (tC (.int 6)) (tNil)))) (gName 2) (rd_l_weights_L1 K)) (tRet (tVar 1)))
theorem pure_l_weights (K : PySem.W.Frag) (vs : List V) (H : Hp) (Q : VK) (E : XK) (h : sp_l_weights K vs H Q E) : rd_l_weights K { nx := fun _ H' => Q .non H', rt := Q } (start ["_law_k", "_law_found", "_law_a", "_law_c"] vs) H := by
  obtain ⟨k, rfl, h2, h4, q⟩ := h
  unfold rd_l_weights
  walk_at "rd"
  refine ⟨by decide, fun l hl => ?_⟩
  walk_at "rd"
  · refine for_range (lo := 1) (n := 5) (fun i σ H' => Ext H H' ∧ (∃ ts, H' l = some (.lst ts) ∧ Prs H' ts (wAll k i)) ∧ ∃ u v, σ = [some (.int k), some (.ref l), u, v]) ⟨Ext.new hl, ⟨[], upd_same, True.intro⟩, _, _, rfl⟩ ?_ ?_
    · rintro i σ H' hi ⟨e, ⟨ts, hts, hp⟩, u, v, rfl⟩
      have hlen := hp.len
      have hwl := wAll_len k i
      walk_at "re"
      unfold rd_l_weights_L1
      walk_at "rd"
      refine ⟨.inl ⟨rfl, _, SqL.of hts⟩, ?_⟩
      walk_at "rd"
      refine ⟨by decide, fun c hc => ?_⟩
      have eC : Ext H' (upd H' c (.tup [.int 1, .int 2, .int 3])) := Ext.new hc
      have hC : (upd H' c (.tup [.int 1, .int 2, .int 3])) c = some (.tup [.int 1, .int 2, .int 3]) := upd_same
      generalize upd H' c (.tup [.int 1, .int 2, .int 3]) = H1 at *
      refine i_tup' [.int 1, .int 2, .int 3] ?_ (SqT.of hC)
      intro D hD
      refine lc_tup (xs := [.int 1, .int 2, .int 3]) (fun j H2 => Ext H1 H2 ∧ ∃ as, H2 D = some (.lst as) ∧ Prs H2 as (wRow k (1 + (i : Int)) ([(1 : Int), 2, 3].take j))) ⟨Ext.new hD, [], upd_same, True.intro⟩ (fun j H2 _ p => SqT.of (p.1 _ _ hC)) ?_ ?_
      · rintro j x H2 hx ⟨e2, as, has, hpr⟩
        have hal : as.length ≤ 3 := by
          rw [hpr.len]
          exact Nat.le_trans (wRow_len _ _ _) (by rw [List.length_take]; exact Nat.min_le_right _ _)
        obtain ⟨c0, hc0, rfl, hb⟩ : ∃ c0 : Int, [(1 : Int), 2, 3].take (j + 1) = [(1 : Int), 2, 3].take j ++ [c0] ∧ x = .int c0 ∧ 1 ≤ c0 ∧ c0 ≤ 3 := by
          match j, hx with
          | 0, hx => exact ⟨1, rfl, (Option.some.inj hx).symm, by decide, by decide⟩
          | 1, hx => exact ⟨2, rfl, (Option.some.inj hx).symm, by decide, by decide⟩
          | 2, hx => exact ⟨3, rfl, (Option.some.inj hx).symm, by decide, by decide⟩
          | (n + 3), hx => simp at hx
        have fin : ∀ b : Bool, okW k (1 + (i : Int)) c0 = b → (if b = true then tTup (tCons (tVar 2) (tCons (tVar 3) tNil)) [some (.int k), some (.ref l), some (.int (1 + (i : Int))), some (.int c0)] H2 fun y H4 => ∃ acc, H4 D = some (.lst acc) ∧ acc.length < sizeLine ∧ (Ext H1 (L2.upd H4 D (.lst (acc ++ [y]))) ∧ ∃ as, (L2.upd H4 D (.lst (acc ++ [y]))) D = some (.lst as) ∧ Prs (L2.upd H4 D (.lst (acc ++ [y]))) as (wRow k (1 + (i : Int)) ([(1 : Int), 2, 3].take (j + 1)))) else (Ext H1 H2 ∧ ∃ as, H2 D = some (.lst as) ∧ Prs H2 as (wRow k (1 + (i : Int)) ([(1 : Int), 2, 3].take (j + 1))))) := by
          intro b hb'
          rw [hc0, wRow_snoc, hb']
          cases b with
          | true =>
            rw [if_pos rfl, if_pos rfl]
            walk_at "rd"
            refine ⟨by show 2 ≤ sizeLine; decide, fun t ht => ⟨as, (Ext.new ht) _ _ has, Nat.lt_of_le_of_lt hal (by decide), (e2.tr (Ext.new ht)).upds hD, _, upd_same, ?_⟩⟩
            refine Prs.upd ((Ext.new ht) _ _ has) (Prs.app (hpr.ext (Ext.new ht)) ⟨⟨t, rfl, upd_same⟩, True.intro⟩)
          | false =>
            rw [if_neg (by decide), if_neg (by decide)]
            exact ⟨e2, as, has, hpr⟩
        walk_at "re"
        refine ⟨rfl, ?_⟩
        walk_at "re"
        · refine e_ite (fun h1 => ?_) (fun h1 => ?_)
          · walk_at "re"
            exact fin _ (by unfold okW; rw [decide_eq_true h1, Bool.true_and])
          · exact fin false (by unfold okW; rw [decide_eq_false h1, Bool.false_and])
        · exact wide_mul (a := 10) (b := 10) (by omega) (by omega) (by decide) (by decide) (by decide)
      · rintro H2 ⟨e2, as, has, hpr⟩
        have el : H2 l = some (.lst ts) := e2 _ _ (eC _ _ hts)
        have hne : D ≠ l := ((ne_of_none (eC _ _ hts) hD)).symm
        refine ⟨l, D, ts, as, rfl, rfl, el, has, ?_, ?_⟩
        · have hpr' : Prs H2 as (wRow k (1 + (i : Int)) [1, 2, 3]) := hpr
          have := hpr'.len
          have := wRow_len k (1 + (i : Int)) [1, 2, 3]
          simp only [List.length_cons, List.length_nil] at *
          exact Nat.le_trans (show ts.length + as.length ≤ 100 by omega) (by decide)
        · walk_at "rd"
          refine ⟨((e.tr eC).tr e2).upds hl, ⟨_, upd_same, ?_⟩, _, _, rfl⟩
          exact Prs.upd el (Prs.app ((hp.ext eC).ext e2) hpr)
    · rintro σ H' ⟨e, ⟨ts, hts, hp⟩, u, v, rfl⟩
      walk_at "rd"
      exact q _ _ _ hl e hts hp
  · decide
theorem weights_ok {k : Int} (h2 : 2 ≤ k) (h4 : k ≤ 4) : ∀ w ∈ weightsL k, 1 ≤ w.2 ∧ w.2 ≤ 3 ∧ w.2 * (k - 1) ≤ w.1 ∧ w.1 + w.2 ≤ 6 ∧ 1 ≤ w.1 ∧ w.1 ≤ 5 := by
  have : k = 2 ∨ k = 3 ∨ k = 4 := by omega
  rcases this with rfl | rfl | rfl <;> decide
theorem weights_ne {k : Int} (h2 : 2 ≤ k) (h4 : k ≤ 4) : weightsL k ≠ [] ∧ (weightsL k).length ≤ 15 := by
  have : k = 2 ∨ k = 3 ∨ k = 4 := by omega
  rcases this with rfl | rfl | rfl <;> decide
end FWL
namespace FWL
open PySem PySem.Spec PyProof.Rows L2 FW

/-! ### a loop's parts -/
structure Lp where
  k : Int
  a : Int
  c : Int
  d : Int
  stop : Str
  told : Str
  mend : Str
structure Lp.Ok (l : Lp) : Prop where
  hk : l.k = 2 ∨ l.k = 3 ∨ l.k = 4
  a1 : 1 ≤ l.a
  a5 : l.a ≤ 5
  c1 : 1 ≤ l.c
  c3 : l.c ≤ 3
  ca : l.c * (l.k - 1) ≤ l.a
  ac : l.a + l.c ≤ 6
  d0 : -l.a ≤ l.d
  d1 : l.d ≤ l.a + l.c
  hs : V.str l.stop ∈ stopsV
  ht : V.str l.told ∈ toldsV
  hl : V.str l.stop ∈ looksV → l.told = "old"
  hm : V.str l.mend ∈ mendsV
abbrev Lp.V (l : Lp) : List V := [.int l.k, .int l.a, .int l.c, .int l.d, .str l.stop, .str l.told, .str l.mend]
abbrev Lp.F (l : Lp) : List (Str × L2.V) := [("k", .int l.k), ("a", .int l.a), ("c", .int l.c), ("d", .int l.d), ("stop", .str l.stop), ("told", .str l.told), ("mend", .str l.mend)]
theorem eqV_str (a b : Str) : eqV (.str a) (.str b) = decide (a = b) := by
  show (a == b) = decide (a = b)
  by_cases h : a = b
  · subst h; simp
  · rw [decide_eq_false h]; exact beq_eq_false_iff_ne.mpr h
theorem inV_str (s : Str) : ∀ {xs : List V}, (∀ v ∈ xs, ∃ x, v = V.str x) → inV (.str s) xs = decide (V.str s ∈ xs)
  | [], _ => rfl
  | v :: vs, h => by
    obtain ⟨x, rfl⟩ := h v List.mem_cons_self
    have ih := inV_str s fun v hv => h v (List.mem_cons_of_mem _ hv)
    show (eqV (.str x) (.str s) || inV (.str s) vs) = _
    rw [ih, eqV_str]
    by_cases e : x = s
    · subst e; simp
    · have e' : ¬ s = x := fun z => e z.symm
      simp [e, e']
theorem strs_stops : ∀ v ∈ stopsV, ∃ x, v = V.str x := by
  intro v h
  simp only [stopsV, List.mem_cons, List.not_mem_nil, or_false] at h
  rcases h with rfl | rfl | rfl | rfl | rfl | rfl | rfl <;> exact ⟨_, rfl⟩
theorem strs_tolds : ∀ v ∈ toldsV, ∃ x, v = V.str x := by
  intro v h
  simp only [toldsV, List.mem_cons, List.not_mem_nil, or_false] at h
  rcases h with rfl | rfl | rfl | rfl <;> exact ⟨_, rfl⟩
theorem strs_mends : ∀ v ∈ mendsV, ∃ x, v = V.str x := by
  intro v h
  simp only [mendsV, List.mem_cons, List.not_mem_nil, or_false] at h
  rcases h with rfl | rfl | rfl | rfl <;> exact ⟨_, rfl⟩
theorem strs_looks : ∀ v ∈ looksV, ∃ x, v = V.str x := by
  intro v h
  simp only [looksV, List.mem_cons, List.not_mem_nil, or_false] at h
  rcases h with rfl | rfl <;> exact ⟨_, rfl⟩
theorem Lp.Ok.right {l : Lp} (o : l.Ok) : wrongP (.int l.k) (.int l.a) (.int l.c) (.int l.d) (.str l.stop) (.str l.told) (.str l.mend) = .non := by
  have h1 : inV (.int l.k) [.int 2, .int 3, .int 4] = true := by
    rcases o.hk with e | e | e <;> rw [e] <;> decide
  have h2 : wordOf (.str l.stop) stopsV = true := by
    show (true && inV (.str l.stop) stopsV) = true
    rw [Bool.true_and, inV_str _ strs_stops]; exact decide_eq_true o.hs
  have h3 : wordOf (.str l.told) toldsV = true := by
    show (true && inV (.str l.told) toldsV) = true
    rw [Bool.true_and, inV_str _ strs_tolds]; exact decide_eq_true o.ht
  have h4 : wordOf (.str l.mend) mendsV = true := by
    show (true && inV (.str l.mend) mendsV) = true
    rw [Bool.true_and, inV_str _ strs_mends]; exact decide_eq_true o.hm
  have h5 : (inV (.str l.stop) looksV && !decide (V.str l.told = .str "old")) = false := by
    rw [inV_str _ strs_looks]
    by_cases h : V.str l.stop ∈ looksV
    · rw [o.hl h]; simp
    · simp [h]
  have a1 := o.a1; have a5 := o.a5; have c1 := o.c1; have ca := o.ca; have ac := o.ac; have d0 := o.d0; have d1 := o.d1
  have e3 : ((decide (l.a < l.c * (l.k - 1)) || decide (6 < l.a + l.c))) = false := by
    rw [decide_eq_false (by omega), decide_eq_false (by omega)]; rfl
  have e1 : (decide (1 ≤ l.a) && decide (l.a ≤ 5)) = true := by rw [decide_eq_true a1, decide_eq_true a5]; rfl
  have e2 : (decide (-l.a ≤ l.d) && decide (l.d ≤ l.a + l.c)) = true := by rw [decide_eq_true d0, decide_eq_true d1]; rfl
  have e4 : fromI (.int l.c) 1 = true := by show (true && decide (1 ≤ l.c)) = true; rw [decide_eq_true c1]; rfl
  unfold wrongP
  rw [if_neg (by rw [h1]; show ¬ ((!true || !true) = true); decide), if_neg (by show ¬ ((!true || !(decide (1 ≤ l.a) && decide (l.a ≤ 5))) = true); rw [e1]; decide),
    if_neg (by show ¬ ((!fromI (.int l.c) 1 || (decide (l.a < l.c * (l.k - 1)) || decide (6 < l.a + l.c))) = true); rw [e4, e3]; decide),
    if_neg (by show ¬ ((!true || !(decide (-l.a ≤ l.d) && decide (l.d ≤ l.a + l.c))) = true); rw [e2]; decide),
    if_neg (by rw [h2]; decide), if_neg (by rw [h3, h5]; decide), if_pos h4]
/-- a loop as an object -/
def IsLp (K : PySem.W.Frag) (H : Hp) (x : Addr) (l : Lp) : Prop := ∃ dx, H x = some (.ins (He.ga K "Average") dx l.F)
theorem IsLp.ext {K : PySem.W.Frag} {H H' : Hp} {x : Addr} {l : Lp} (e : Ext H H') : IsLp K H x l → IsLp K H' x l
  | ⟨dx, h⟩ => ⟨dx, e _ _ h⟩
def sp_Average_init (K : PySem.W.Frag) : Sp := fun vs H Q _ => ∃ (x dx : Addr) (l : Lp), vs = .ref x :: l.V ∧ l.Ok ∧ H x = some (.ins (He.ga K "Average") dx []) ∧
  ∀ H', ExtB x H H' → H' x = some (.ins (He.ga K "Average") dx l.F) → Q .non H'
def rd_Average_init (K : PySem.W.Frag) : TS := tSeq (tAsg (tCall (sp_wrong_part K) [] E0 (tCons (tVar 1) (tCons (tVar 2) (tCons (tVar 3) (tCons (tVar 4) (tCons (tVar 5) (tCons (tVar 6) (tCons (tVar 7) (tNil))))))))) (gName 8)) (tSeq (tIfS (tTest (tOp FW.rNotN (tVar 8) (tC .non))) (tNever) (tNext)) (tSeq (sFld K (tVar 0) (tVar 1) "k") (tSeq (sFld K (tVar 0) (tVar 2) "a") (tSeq (sFld K (tVar 0) (tVar 3) "c") (tSeq (sFld K (tVar 0) (tVar 4) "d") (tSeq (sFld K (tVar 0) (tVar 5) "stop") (tSeq (sFld K (tVar 0) (tVar 6) "told") (sFld K (tVar 0) (tVar 7) "mend"))))))))
theorem e_sF {K : PySem.W.Frag} {H : Hp} {a C dx : Addr} {f : Str} {fs : List (Str × V)} {R : Hp → Prop} {y : V} (k : R (upd H a (.ins C dx (putF f y fs)))) (h : H a = some (.ins C dx fs)) (c : Cls K C) (n : NoAttr K C f) (hl : fs.length < 1000) :
    ∃ a' C dx fs, V.ref a = .ref a' ∧ H a' = some (.ins C dx fs) ∧ Cls K C ∧ NoAttr K C f ∧ fs.length < 1000 ∧ R (upd H a' (.ins C dx (putF f y fs))) := ⟨a, C, dx, fs, rfl, h, c, n, hl, k⟩
theorem pure_Average_init (K : PySem.W.Frag) (A : AvK K) (vs : List V) (H : Hp) (Q : VK) (E : XK) (h : sp_Average_init K vs H Q E) : rd_Average_init K { nx := fun _ H' => Q .non H', rt := Q } (start ["self", "k", "a", "c", "d", "stop", "told", "mend", "wrong"] vs) H := by
  obtain ⟨x, dx, l, rfl, o, hx, q⟩ := h
  unfold rd_Average_init
  walk_at "rd"
  refine ⟨_, _, _, _, _, _, _, rfl, ?_, ?_, fun H1 e1 => ?_⟩
  · intro v hv
    simp only [List.mem_cons, List.not_mem_nil, or_false] at hv
    rcases hv with rfl | rfl | rfl | rfl | rfl | rfl | rfl
    · exact ⟨_, WT.i _⟩
    · exact ⟨_, WT.i _⟩
    · exact ⟨_, WT.i _⟩
    · exact ⟨_, WT.i _⟩
    · exact ⟨_, WT.s _⟩
    · exact ⟨_, WT.s _⟩
    · exact ⟨_, WT.s _⟩
  · have := o.c1; have := o.c3
    exact Nat.lt_of_lt_of_le (show (iv (.int l.c)).natAbs < 2 ^ 3 by show l.c.natAbs < 8; omega) (Nat.pow_le_pow_right (by decide) (by decide))
  · rw [o.right]
    walk_at "rd"
    refine e_iteN (fun h => absurd rfl h) (fun _ => ?_)
    walk_at "rd"
    refine e_sF ?_ (e1 _ _ hx) A.cls A.n_k (by decide)
    walk_at "rd"
    refine e_sF ?_ upd_same A.cls A.n_a (by show 1 < 1000; decide)
    walk_at "rd"
    refine e_sF ?_ upd_same A.cls A.n_c (by show 2 < 1000; decide)
    walk_at "rd"
    refine e_sF ?_ upd_same A.cls A.n_d (by show 3 < 1000; decide)
    walk_at "rd"
    refine e_sF ?_ upd_same A.cls A.n_stop (by show 4 < 1000; decide)
    walk_at "rd"
    refine e_sF ?_ upd_same A.cls A.n_told (by show 5 < 1000; decide)
    walk_at "rd"
    refine e_sF ?_ upd_same A.cls A.n_mend (by show 6 < 1000; decide)
    refine q _ ?_ upd_same
    intro a o' ne h
    rw [upd_ne ne, upd_ne ne, upd_ne ne, upd_ne ne, upd_ne ne, upd_ne ne, upd_ne ne]
    exact e1 _ _ h
/-! ### led, step -/
theorem e_fL {K : PySem.W.Frag} {H : Hp} {x : Addr} {l : Lp} {f : Str} {R : V → Prop} {v : V} (k : R v) (A : AvK K) (h : IsLp K H x l) (n : NoAttr K (He.ga K "Average") f) (hl : l.F.lookup f = some v) :
    ∃ a C dx fs v, V.ref x = .ref a ∧ H a = some (.ins C dx fs) ∧ Cls K C ∧ NoAttr K C f ∧ fs.lookup f = some v ∧ R v := by
  obtain ⟨dx, h⟩ := h
  exact ⟨x, _, dx, _, v, rfl, h, A.cls, n, hl, k⟩
/-- the guess to which the step leads -/
def Lp.led (l : Lp) (n x : Int) : Int := (l.a * x + l.c * (n / x ^ (l.k - 1).toNat) + l.d) / (l.a + l.c)
def sp_Average_led (K : PySem.W.Frag) : Sp := fun vs H Q _ => ∃ (p : Addr) (l : Lp) (n x : Int), vs = [.ref p, .int n, .int x] ∧ IsLp K H p l ∧ l.Ok ∧ 1 ≤ x ∧ 0 ≤ n ∧ n.natAbs < 2 ^ 2000 ∧ x.natAbs < 2 ^ 2000 ∧ Q (.int (l.led n x)) H
def rd_Average_led (K : PySem.W.Frag) : TS := tSeq (tAsg (tOp FW.rDiv (tVar 1) (tCall (sp_power K) [] E0 (tCons (tVar 2) (tCons (tOp FW.rSub (tFld K (tVar 0) "k") (tC (.int 1))) (tNil))))) (gName 3)) (tRet (tOp FW.rDiv (tOp FW.rAdd (tOp FW.rAdd (tOp FW.rMul (tFld K (tVar 0) "a") (tVar 2)) (tOp FW.rMul (tFld K (tVar 0) "c") (tVar 3))) (tFld K (tVar 0) "d")) (tOp FW.rAdd (tFld K (tVar 0) "a") (tFld K (tVar 0) "c"))))
theorem pow_pos' {x : Int} (h : 1 ≤ x) : ∀ n : Nat, 1 ≤ x ^ n
  | 0 => by rw [Int.pow_zero]; omega
  | n + 1 => by
    have ih := pow_pos' h n
    rw [Int.pow_succ]
    have : 1 * 1 ≤ x ^ n * x := Int.mul_le_mul ih h (by decide) (by omega)
    simpa using this
theorem ediv_abs {a b : Int} (ha : 0 ≤ a) (hb : 1 ≤ b) : (a / b).natAbs ≤ a.natAbs := by
  have h1 : 0 ≤ a / b := Int.ediv_nonneg ha (by omega)
  have h2 : a / b ≤ a := Int.ediv_le_self _ ha
  omega
theorem pure_Average_led (K : PySem.W.Frag) (A : AvK K) (vs : List V) (H : Hp) (Q : VK) (E : XK) (h : sp_Average_led K vs H Q E) : rd_Average_led K { nx := fun _ H' => Q .non H', rt := Q } (start ["self", "n", "x", "quotient"] vs) H := by
  obtain ⟨p, l, n, x, rfl, hp, o, hx, hn, hnb, hxb, q⟩ := h
  have hk := o.hk; have a1 := o.a1; have a5 := o.a5; have c1 := o.c1; have c3 := o.c3
  have hk1 : 0 ≤ l.k - 1 ∧ l.k - 1 ≤ 3 := by omega
  have hpw := pow_lt hxb (by decide) (l.k - 1).toNat
  have hpp := pow_pos' hx (l.k - 1).toNat
  have hq : (n / x ^ (l.k - 1).toNat).natAbs < 2 ^ 2000 := Nat.lt_of_le_of_lt (ediv_abs hn hpp) hnb
  unfold rd_Average_led
  walk_at "rd"
  refine e_fL ?_ A hp A.n_k rfl
  walk_at "rd"
  refine ⟨x, l.k - 1, 2000, rfl, hk1.1, hxb, by decide, ?_, ?_⟩
  · have : (l.k - 1).toNat + 1 ≤ 4 := by omega
    have := Nat.mul_le_mul_right 2000 this
    omega
  walk_at "rd"
  · refine e_fL ?_ A hp A.n_a rfl
    walk_at "rd"
    · refine e_fL ?_ A hp A.n_c rfl
      walk_at "rd"
      · refine e_fL ?_ A hp A.n_d rfl
        walk_at "rd"
        refine e_fL ?_ A hp A.n_a rfl
        walk_at "rd"
        refine e_fL ?_ A hp A.n_c rfl
        walk_at "rd"
        · exact q
        · refine wide_div (b := 10) (by omega) ?_ (by decide) (by decide)
          show (l.a + l.c).natAbs < 1024
          omega
      · exact wide_mul (a := 10) (b := 2000) (by show l.c.natAbs < 1024; omega) hq (by decide) (by decide) (by decide)
    · exact wide_mul (a := 10) (b := 2000) (by show l.a.natAbs < 1024; omega) hxb (by decide) (by decide) (by decide)
  · refine wide_div (b := (l.k - 1).toNat * 2000 + 1) (by omega) hpw (by omega) ?_
    have : (l.k - 1).toNat ≤ 3 := by omega
    have := Nat.mul_le_mul_right 2000 this
    omega
def sp_Average_step (K : PySem.W.Frag) : Sp := sp_Average_led K
def rd_Average_step (K : PySem.W.Frag) : TS := tSeq (tDrop (tCall (sp_check_number K) [] E0 (tCons (tVar 1) (tNil)))) (tSeq (tDrop (tCall (sp_check_start K) [] E0 (tCons (tVar 2) (tNil)))) (tRet (tMeth (He.ga K "Average") "led" (sp_Average_led K) [] E0 (tVar 0) (tCons (tVar 1) (tCons (tVar 2) (tNil))))))
theorem pure_Average_step (K : PySem.W.Frag) (vs : List V) (H : Hp) (Q : VK) (E : XK) (h : sp_Average_step K vs H Q E) : rd_Average_step K { nx := fun _ H' => Q .non H', rt := Q } (start ["self", "n", "x"] vs) H := by
  obtain ⟨p, l, n, x, rfl, hp, o, hx, hn, hnb, hxb, q⟩ := h
  unfold rd_Average_step
  walk_at "rd"
  refine ⟨_, rfl, hn, ?_⟩
  walk_at "rd"
  refine ⟨_, rfl, hx, ?_⟩
  walk_at "rd"
  have hp' := hp
  obtain ⟨dx, hp'⟩ := hp'
  refine ⟨p, dx, _, rfl, hp', rfl, ?_⟩
  walk_at "rd"
  exact ⟨p, l, n, x, rfl, hp, o, hx, hn, hnb, hxb, q⟩
/-! ### parts drawn -/
theorem Strm.neT {H : Hp} {p t : Addr} {n : Nat} {xs : List V} (h : Strm H p n) (ht : H t = some (.tup xs)) : t ≠ p := by
  obtain ⟨a, b, c, h1, _⟩ := h
  exact ne_of ht h1 (by intro z; cases z)
theorem ExtB.non {p t : Addr} {H H' : Hp} {n : Nat} (e : ExtB p H H') (s : Strm H' p n) (h : H' t = none) : H t = none := by
  cases q : H t with
  | none => rfl
  | some o => rw [e t o (s.ne h) q] at h; cases h
def sp_l_parts (K : PySem.W.Frag) : Sp := fun vs H Q _ => ∃ (p : Addr) (n : Nat), vs = [.ref p] ∧ Strm H p n ∧ n + 10 < 1000000 ∧
  ∀ t l H', l.Ok → H t = none → ExtB p H H' → Strm H' p (n + 7) → H' t = some (.tup (Lp.V l)) → Q (.ref t) H'
def rd_l_parts (K : PySem.W.Frag) : TS := tSeq (tAsg (tOp FW.rAdd (tC (.int 2)) (tCall (sp_l_draw K) [] E0 (tCons (tVar 0) (tCons (tC (.int 3)) (tNil))))) (gName 1)) (tSeq (tAsg (tCall (sp_l_pick K) [] E0 (tCons (tVar 0) (tCons (tCall (sp_l_weights K) [] E0 (tCons (tVar 1) (tNil))) (tNil)))) (gTup K 2 (gCons (gName 2) (gCons (gName 3) (gNil))))) (tSeq (tAsg (tCall (sp_l_pick K) [] E0 (tCons (tVar 0) (tCons (tLst (tCons (tC (.int 0)) (tCons (tC (.int 0)) (tCons (tC (.int 1)) (tCons (tOp FW.rSub (tVar 3) (tC (.int 1))) (tCons (tVar 3) (tCons (tUn FW.rNeg (tC (.int 1))) (tCons (tOp FW.rSub (tCall (sp_l_draw K) [] E0 (tCons (tVar 0) (tCons (tOp FW.rAdd (tOp FW.rAdd (tOp FW.rMul (tC (.int 2)) (tVar 2)) (tVar 3)) (tC (.int 1))) (tNil)))) (tVar 2)) (tNil))))))))) (tNil)))) (gName 4)) (tSeq (tAsg (tCall (sp_l_pick K) [] E0 (tCons (tVar 0) (tCons (tLst (tCons (tC (.str "notless")) (tCons (tC (.str "equal")) (tCons (tC (.str "near1")) (tCons (tC (.str "near2")) (tCons (tC (.str "back")) (tCons (tC (.str "under")) (tCons (tC (.str "held")) (tNil))))))))) (tNil)))) (gName 5)) (tSeq (tAsg (tCall (sp_l_pick K) [] E0 (tCons (tVar 0) (tCons (tLst (tCons (tC (.str "old")) (tCons (tC (.str "new")) (tCons (tC (.str "less")) (tCons (tC (.str "more")) (tNil)))))) (tNil)))) (gName 6)) (tSeq (tAsg (tCall (sp_l_pick K) [] E0 (tCons (tVar 0) (tCons (tLst (tCons (tC (.str "none")) (tCons (tC (.str "none")) (tCons (tC (.str "down")) (tCons (tC (.str "up")) (tCons (tC (.str "both")) (tNil))))))) (tNil)))) (gName 7)) (tRet (tTup (tCons (tVar 1) (tCons (tVar 2) (tCons (tVar 3) (tCons (tVar 4) (tCons (tVar 5) (tCons (tIf (tTest (tOp (rIn K false) (tVar 5) (tTup (tCons (tC (.str "under")) (tCons (tC (.str "held")) (tNil)))))) (tC (.str "old")) (tVar 6)) (tCons (tVar 7) (tNil)))))))))))))))
theorem pure_l_parts (K : PySem.W.Frag) (vs : List V) (H : Hp) (Q : VK) (E : XK) (h : sp_l_parts K vs H Q E) : rd_l_parts K { nx := fun _ H' => Q .non H', rt := Q } (start ["_law_stream_here", "_law_k", "_law_a", "_law_c", "_law_d", "_law_stop", "_law_told", "_law_mend"] vs) H := by
  obtain ⟨p, n, rfl, hS, hn, q⟩ := h
  unfold rd_l_parts
  walk_at "rd"
  refine ⟨p, 3, n, rfl, hS, by omega, by decide, by decide, fun d H1 d0 d1 e1 s1 => ?_⟩
  walk_at "rd"
  refine ⟨2 + d, rfl, by omega, by omega, fun l ts H2 hl e2 hts hpr => ?_⟩
  obtain ⟨w1, w2⟩ := weights_ne (k := 2 + d) (by omega) (by omega)
  have hlen := hpr.len
  walk_at "rd"
  refine ⟨p, l, ts, n + 1, rfl, s1.ext e2, by omega, s1.ne hl, hts, ?_, by omega, fun v H3 hv e3 s3 => ?_⟩
  · intro z; rw [z] at hlen; exact w1 (List.length_eq_zero_iff.mp hlen.symm)
  obtain ⟨⟨a, c⟩, hw, t, rfl, ht⟩ := hpr.mem hv
  obtain ⟨c1, c3, ca, ac, a1, a5⟩ := weights_ok (k := 2 + d) (by omega) (by omega) _ hw
  dsimp only at c1 c3 ca ac a1 a5 ht
  refine g_tup ?_ (SqT.of (e3 _ _ ((s1.ext e2).neT ht) ht)) rfl
  walk_at "rd"
  · refine ⟨p, 2 * a + c + 1, n + 2, rfl, s3, by omega, by omega, log2_small (by omega), fun d' H4 d0' d1' e4 s4 => ?_⟩
    walk_at "rd"
    refine ⟨by show 7 ≤ sizeLine; decide, fun ql hq => ?_⟩
    walk_at "rd"
    refine ⟨p, ql, _, n + 3, rfl, s4.ext (Ext.new hq), by omega, s4.ne hq, upd_same, by simp, by show 7 < 1000; decide, fun v H5 hv5 e5 s5 => ?_⟩
    obtain ⟨dd, rfl, dd0, dd1⟩ : ∃ dd : Int, v = .int dd ∧ -a ≤ dd ∧ dd ≤ a + c := by
      simp only [List.mem_cons, List.not_mem_nil, or_false] at hv5
      rcases hv5 with rfl | rfl | rfl | rfl | rfl | rfl | rfl
      · exact ⟨_, rfl, by omega, by omega⟩
      · exact ⟨_, rfl, by omega, by omega⟩
      · exact ⟨_, rfl, by omega, by omega⟩
      · exact ⟨_, rfl, by omega, by omega⟩
      · exact ⟨_, rfl, by omega, by omega⟩
      · exact ⟨_, rfl, by omega, by omega⟩
      · exact ⟨_, rfl, by omega, by omega⟩
    walk_at "rd"
    refine ⟨by show 7 ≤ sizeLine; decide, fun q6 hq6 => ?_⟩
    walk_at "rd"
    refine ⟨p, q6, stopsV, n + 4, rfl, s5.ext (Ext.new hq6), by omega, s5.ne hq6, upd_same, by simp [stopsV], by show 7 < 1000; decide, fun v H7 hv7 e7 s7 => ?_⟩
    obtain ⟨ws, rfl⟩ := strs_stops v hv7
    walk_at "rd"
    refine ⟨by show 4 ≤ sizeLine; decide, fun q8 hq8 => ?_⟩
    walk_at "rd"
    refine ⟨p, q8, toldsV, n + 5, rfl, s7.ext (Ext.new hq8), by omega, s7.ne hq8, upd_same, by simp [toldsV], by show 4 < 1000; decide, fun v H9 hv9 e9 s9 => ?_⟩
    obtain ⟨wt, rfl⟩ := strs_tolds v hv9
    walk_at "rd"
    refine ⟨by show 5 ≤ sizeLine; decide, fun q10 hq10 => ?_⟩
    walk_at "rd"
    refine ⟨p, q10, _, n + 6, rfl, s9.ext (Ext.new hq10), by omega, s9.ne hq10, upd_same, by simp, by show 5 < 1000; decide, fun v H11 hv11 e11 s11 => ?_⟩
    obtain ⟨wm, rfl, hwm⟩ : ∃ x, v = .str x ∧ V.str x ∈ mendsV := by
      simp only [List.mem_cons, List.not_mem_nil, or_false] at hv11
      rcases hv11 with rfl | rfl | rfl | rfl | rfl <;> exact ⟨_, rfl, by simp [mendsV]⟩
    walk_at "rd"
    refine ⟨by show 2 ≤ sizeLine; decide, fun q12 hq12 => ?_⟩
    have eB : ExtB p H H11 := e1.tr ((ExtB.of e2).tr (e3.tr (e4.tr ((ExtB.of (Ext.new hq)).tr (e5.tr ((ExtB.of (Ext.new hq6)).tr (e7.tr ((ExtB.of (Ext.new hq8)).tr (e9.tr ((ExtB.of (Ext.new hq10)).tr e11))))))))))
    refine e_in ?_ (.inr (SqT.of upd_same)) rfl rfl
    rw [if_neg (by decide)]
    have fin : ∀ tt : Str, V.str tt ∈ toldsV → (V.str ws ∈ looksV → tt = "old") → ∀ r, (upd H11 q12 (.tup [.str "under", .str "held"])) r = none → Q (.ref r) (upd (upd H11 q12 (.tup [.str "under", .str "held"])) r (.tup [.int (2 + d), .int a, .int c, .int dd, .str ws, .str tt, .str wm])) := by
      intro tt htt hlk r hr
      have s12 : Strm (upd H11 q12 (.tup [.str "under", .str "held"])) p (n + 7) := s11.ext (Ext.new hq12)
      have eB12 : ExtB p H (upd H11 q12 (.tup [.str "under", .str "held"])) := eB.tr (ExtB.of (Ext.new hq12))
      exact q r ⟨2 + d, a, c, dd, ws, tt, wm⟩ _ ⟨by show 2 + d = 2 ∨ 2 + d = 3 ∨ 2 + d = 4; omega, a1, a5, c1, c3, ca, ac, dd0, dd1, hv7, htt, hlk, hwm⟩ (FWL.ExtB.non eB12 s12 hr) (eB12.tr (ExtB.of (Ext.new hr))) (s12.ext (Ext.new hr)) upd_same
    walk_at "rd"
    refine e_iteB (fun hb => ?_) (fun hb => ?_)
    · walk_at "rd"
      exact ⟨by show 7 ≤ sizeLine; decide, fin "old" (by simp [toldsV]) (fun _ => rfl)⟩
    · walk_at "rd"
      refine ⟨by show 7 ≤ sizeLine; decide, fin wt hv9 (fun hx => ?_)⟩
      have e := inV_str ws strs_looks
      rw [decide_eq_true hx] at e
      rw [show inV (V.str ws) [V.str "under", V.str "held"] = inV (V.str ws) looksV from rfl, e] at hb
      cases hb
  · exact wide_mul (a := 10) (b := 10) (by decide) (by omega) (by decide) (by decide) (by decide)
end FWL
namespace FWL
open PySem PySem.Spec PyProof.Rows L2 FW

/-! ### the law's power -/
def sp_l_power (K : PySem.W.Frag) : Sp := sp_power K
def rd_l_power_L1 (K : PySem.W.Frag) : TS := tAsg (tOp FW.rMul (tVar 2) (tVar 0)) (gName 2)
def rd_l_power (K : PySem.W.Frag) : TS := tSeq (tAsg (tC (.int 1)) (gName 2)) (tSeq (tFor (iRng1 (tCons (tVar 1) (tNil))) (gName 3) (rd_l_power_L1 K)) (tRet (tVar 2)))
theorem pure_l_power (K : PySem.W.Frag) (vs : List V) (H : Hp) (Q : VK) (E : XK) (h : sp_l_power K vs H Q E) : rd_l_power K { nx := fun _ H' => Q .non H', rt := Q } (start ["_law_x", "_law_k", "_law_found", "_law_turn"] vs) H := by
  obtain ⟨x, k, b, rfl, hk, hx, hb, hz, q⟩ := h
  unfold rd_l_power
  walk_at "rd"
  refine for_range (lo := 0) (n := k.toNat) (fun i σ H' => H' = H ∧ ∃ v, σ = [some (.int x), some (.int k), some (.int (x ^ i)), v]) ⟨rfl, _, by rw [Int.pow_zero]; rfl⟩ ?_ ?_
  · rintro i σ H' hi ⟨rfl, v, rfl⟩
    walk_at "re"
    unfold rd_l_power_L1
    walk_at "rd"
    · exact ⟨rfl, _, by rw [Int.pow_succ]; rfl⟩
    · refine wide_mul (pow_lt hx hb i) hx (by omega) hb ?_
      have : (i + 1) * b ≤ (k.toNat + 1) * b := Nat.mul_le_mul_right _ (by omega)
      rw [Nat.add_mul] at this
      omega
  · rintro σ H' ⟨rfl, v, rfl⟩
    walk_at "rd"
    exact q
  · have : k.toNat * 1 ≤ k.toNat * b := Nat.mul_le_mul_left _ hb
    rw [Nat.add_mul] at hz
    omega
end FWL
namespace FWL
open PySem PySem.Spec PyProof.Rows L2 FW
/-! ### polynomials: their values -/
def pvl : List Int → Int → Int
  | [], _ => 0
  | c :: cs, r => c + r * pvl cs r
theorem pv_append (xs ys : List Int) (r : Int) : pvl (xs ++ ys) r = pvl xs r + r ^ xs.length * pvl ys r := by
  induction xs with
  | nil => simp [pvl]
  | cons x xs ih => simp only [List.cons_append, pvl, ih, List.length_cons]; grind
theorem pv_zeros {xs : List Int} (h : ∀ c ∈ xs, c = 0) (r : Int) : pvl xs r = 0 := by
  induction xs with
  | nil => rfl
  | cons x xs ih => rw [pvl, ih fun c hc => h c (List.mem_cons_of_mem _ hc), h x List.mem_cons_self]; simp
theorem pv_zip : ∀ (xs ys : List Int), xs.length = ys.length → ∀ r, pvl (List.zipWith (· + ·) xs ys) r = pvl xs r + pvl ys r
  | [], [], _, r => by simp [pvl]
  | x :: xs, y :: ys, h, r => by
    have ih := pv_zip xs ys (by simpa using h) r
    simp only [List.zipWith_cons_cons, pvl, ih]; grind
  | [], _ :: _, h, _ => by simp at h
  | _ :: _, [], h, _ => by simp at h
theorem pv_set : ∀ (xs : List Int) (k : Nat) (c d r : Int), xs[k]? = some c → pvl (xs.set k (c + d)) r = pvl xs r + d * r ^ k
  | x :: xs, 0, c, d, r, h => by
    simp only [List.getElem?_cons_zero, Option.some.injEq] at h
    subst h
    simp only [List.set_cons_zero, pvl]; grind
  | x :: xs, k + 1, c, d, r, h => by
    have ih := pv_set xs k c d r (by simpa using h)
    simp only [List.set_cons_succ, pvl, ih, Int.pow_succ]; grind
  | [], k, c, d, r, h => by simp at h
/-! trimmed -/
def sp_trimmedL (K : PySem.W.Frag) : Sp := fun vs H Q _ => ∃ (a : Addr) (ns : List Int), vs = [.ref a] ∧ SqL K H a (ns.map V.int) ∧
  ∀ t cs H', H t = none → Ext H H' → H' t = some (.tup (cs.map V.int)) → (∀ r, pvl cs r = pvl ns r) → cs.getLast? ≠ some 0 → (∀ c ∈ cs, c ∈ ns) → cs.length ≤ ns.length → Q (.ref t) H'
def rd_trimmed_L1 (K : PySem.W.Frag) : TS := tAug 1 (tC (.int 1)) FW.iSub
def sp_trimmedT (K : PySem.W.Frag) : Sp := fun vs H Q _ => ∃ (a : Addr) (ns : List Int), vs = [.ref a] ∧ SqT K H a (ns.map V.int) ∧
  ∀ t cs H', Ext H H' → SqT K H' t (cs.map V.int) → (∀ r, pvl cs r = pvl ns r) → cs.getLast? ≠ some 0 → (∀ c ∈ cs, c ∈ ns) → cs.length ≤ ns.length → Q (.ref t) H'
def sp_trimmed (K : PySem.W.Frag) : Sp := fun vs H Q E => sp_trimmedL K vs H Q E ∨ sp_trimmedT K vs H Q E
def rd_trimmed (K : PySem.W.Frag) : TS := tSeq (tAsg (tCB (Evl.rLenS K) (tCons (tVar 0) (tNil))) (gName 1)) (tSeq (tWhile (tAnd (tTest (tOp FW.rGt (tVar 1) (tC (.int 0)))) (tTest (tOp rEq (tOp (rIx K) (tVar 0) (tOp FW.rSub (tVar 1) (tC (.int 1)))) (tC (.int 0))))) (rd_trimmed_L1 K)) (tRet (tCB (FW.rTupS K) (tCons (FW.tEither (tSl (rSlL K) (tVar 0) (tNoPart) (tPart (tVar 1))) (tSl (rSlA K) (tVar 0) (tNoPart) (tPart (tVar 1)))) (tNil)))))
theorem cut_take (ns : List Int) (m : Nat) : cutV (ns.map V.int) none (some (m : Int)) = (ns.take m).map V.int := by
  unfold cutV
  rw [HT.sIx_none, HT.sIx_nat]
  rw [List.drop_zero, List.length_map, Nat.sub_zero, List.map_take]
  rcases Nat.le_total m ns.length with h | h
  · rw [Nat.min_eq_left h]
  · rw [Nat.min_eq_right h, List.take_of_length_le (by simp), List.take_of_length_le (by simpa using h)]
theorem at_int {ns : List Int} {k : Nat} (h : k < ns.length) : atI (ns.map V.int) (k : Int) = some (.int ns[k]) := atI_nat (by simp [h])
theorem e_ixA {K : PySem.W.Frag} {H : Hp} {Q : VK} {a : Addr} {xs : List V} {i : Int} {v : V} (k : Q v H) (h : SqL K H a xs ∨ SqT K H a xs) (ha : atI xs i = some v) : rIx K (.ref a) (.int i) H Q :=
  h.elim (fun h => .inl (e_ixL k h ha)) fun h => .inr (.inl (e_ixT k h ha))
theorem trimmed_gen {K : PySem.W.Frag} {H : Hp} {Q : VK} {a : Addr} {ns : List Int} (hA : SqL K H a (ns.map V.int) ∨ SqT K H a (ns.map V.int))
    (fin0 : ∀ m : Nat, m ≤ ns.length → (∀ c ∈ ns.drop m, c = 0) → (ns.take m).getLast? ≠ some 0 → tRet (tCB (FW.rTupS K) (tCons (FW.tEither (tSl (rSlL K) (tVar 0) (tNoPart) (tPart (tVar 1))) (tSl (rSlA K) (tVar 0) (tNoPart) (tPart (tVar 1)))) (tNil))) { nx := fun _ H' => Q .non H', rt := Q } [some (.ref a), some (.int (m : Int))] H) :
    rd_trimmed K { nx := fun _ H' => Q .non H', rt := Q } (start ["coefficients", "many"] [.ref a]) H := by
  unfold rd_trimmed
  walk_at "rd"
  refine e_len ?_ hA
  walk_at "rd"
  rw [List.length_map]
  refine s_while (fun m σ H' => H' = H ∧ m ≤ ns.length ∧ (∀ c ∈ ns.drop m, c = 0) ∧ σ = [some (.ref a), some (.int (m : Int))]) ns.length ⟨rfl, Nat.le_refl _, by simp, rfl⟩ ?_
  rintro m σ H' ⟨rfl, hm, hz, rfl⟩
  have fin := fin0 m hm hz
  walk_at "rd"
  refine e_ite (fun hpos => ?_) (fun hno => ?_)
  · obtain ⟨k, rfl⟩ : ∃ k, m = k + 1 := ⟨m - 1, by omega⟩
    have hk : k < ns.length := by omega
    walk_at "rd"
    rw [show (((k + 1 : Nat) : Int) - 1) = (k : Int) by omega]
    refine e_ixA ?_ hA (at_int hk)
    walk_at "rd"
    have hd : decide (V.int ns[k] = V.int 0) = decide (ns[k] = 0) := decide_eq_decide.mpr ⟨fun z => by injection z, fun z => by rw [z]⟩
    rw [hd]
    refine e_ite (fun h0 => ?_) (fun h0 => ?_)
    · refine ⟨fun σ' H'' => H'' = H' ∧ k ≤ ns.length ∧ (∀ c ∈ ns.drop k, c = 0) ∧ σ' = [some (.ref a), some (.int (k : Int))], fun σ' H'' h => ⟨k, by omega, h⟩, ?_⟩
      unfold rd_trimmed_L1
      walk_at "rd"
      refine ⟨rfl, by omega, ?_, by rw [show (((k + 1 : Nat) : Int) - 1) = (k : Int) by omega]; rfl⟩
      intro c hc
      rw [List.drop_eq_getElem_cons hk] at hc
      rcases List.mem_cons.mp hc with rfl | hc
      · exact h0
      · exact hz c hc
    · refine fin ?_
      rw [List.getLast?_eq_getElem?, List.length_take, Nat.min_eq_left hm, Nat.add_sub_cancel, List.getElem?_take]
      simp [hk]
      exact h0
  · have : m = 0 := by omega
    subst this
    exact fin (by simp)
theorem pure_trimmed (K : PySem.W.Frag) (vs : List V) (H : Hp) (Q : VK) (E : XK) (h : sp_trimmed K vs H Q E) : rd_trimmed K { nx := fun _ H' => Q .non H', rt := Q } (start ["coefficients", "many"] vs) H := by
  have pvt : ∀ {ns : List Int} {m : Nat}, (∀ c ∈ ns.drop m, c = 0) → ∀ r, pvl (ns.take m) r = pvl ns r := fun {ns m} hz r => by
    have := pv_append (ns.take m) (ns.drop m) r
    rw [List.take_append_drop, pv_zeros hz r] at this
    simp at this
    exact this.symm
  rcases h with ⟨a, ns, rfl, hA, q⟩ | ⟨a, ns, rfl, hA, q⟩
  · refine trimmed_gen (.inl hA) fun m hm hz hl => ?_
    walk_at "rd"
    refine .inl ?_
    refine e_sl ?_
    walk_at "rd"
    refine e_noP ?_
    refine e_part ?_
    walk_at "rd"
    refine e_part' ?_
    refine e_slL (fun p hp => ?_) hA
    rw [cut_take]
    walk_at "rd"
    refine e_tupL (fun t ht => ?_) (SqL.of upd_same)
    have e1 := Ext.new (o := .lst ((ns.take m).map V.int)) hp
    exact q t (ns.take m) _ (e1.non ht) (e1.tr (Ext.new ht)) upd_same (pvt hz) hl (fun c hc => List.mem_of_mem_take hc) (by rw [List.length_take]; omega)
  · refine trimmed_gen (.inr hA) fun m hm hz hl => ?_
    have fin : ∀ (p : Addr) (H' : Hp), Ext H H' → SqT K H' p ((ns.take m).map V.int) → tCB (FW.rTupS K) (tCons (tC (.ref p)) tNil) [] H' Q := fun p H' e h => by
      walk_at "rd"
      exact ⟨p, _, rfl, .inr ⟨h, q p (ns.take m) H' e h (pvt hz) hl (fun c hc => List.mem_of_mem_take hc) (by rw [List.length_take]; omega)⟩⟩
    walk_at "rd"
    refine .inr ?_
    refine e_sl ?_
    walk_at "rd"
    refine e_noP ?_
    refine e_part ?_
    walk_at "rd"
    refine e_part' ?_
    refine ⟨a, _, rfl, hA, fun z => ?_, fun z p hp => ?_⟩
    · walk_at "rd"
      refine fin a H Ext.rfl' ?_
      have z2 := z.2
      rw [HT.sIx_nat, List.length_map] at z2
      have hml : ns.length ≤ m := by omega
      rw [List.take_of_length_le hml]; exact hA
    · rw [cut_take]
      walk_at "rd"
      exact fin p _ (Ext.new hp) (SqT.of upd_same)
/-! the value of a polynomial -/
theorem pv_sz : ∀ (cs : List Int) (r : Int) (b : Nat), (∀ c ∈ cs, Sz b c) → Sz b r → Sz (cs.length * (b + 1)) (pvl cs r)
  | [], r, b, _, _ => by show Sz (0 * (b + 1)) 0; rw [Nat.zero_mul]; decide
  | c :: cs, r, b, h, hr => by
    have ih := pv_sz cs r b (fun c hc => h c (List.mem_cons_of_mem _ hc)) hr
    have hm := Sz.mul hr ih
    have hc := h c List.mem_cons_self
    have e : (c :: cs).length * (b + 1) = (b + cs.length * (b + 1)) + 1 := by rw [List.length_cons, Nat.add_mul]; omega
    rw [e, pvl]
    exact (hc.mono (by omega)).add hm
def sp_poly_value (K : PySem.W.Frag) : Sp := fun vs H Q _ => ∃ (a : Addr) (ns : List Int) (r : Int) (b : Nat), vs = [.ref a, .int r] ∧ SqA K H a (ns.map V.int) ∧ (∀ c ∈ ns, Sz b c) ∧ Sz b r ∧ (ns.length + 2) * (b + 1) ≤ 900000 ∧
  ∀ H', Ext H H' → Q (.int (pvl ns r)) H'
def rd_poly_value_L1 (K : PySem.W.Frag) : TS := tAsg (tOp FW.rAdd (tOp FW.rMul (tVar 2) (tVar 1)) (tVar 3)) (gName 2)
def rd_poly_value (K : PySem.W.Frag) : TS := tSeq (tAsg (tC (.int 0)) (gName 2)) (tSeq (tFor (FW.iEither (iList K (FW.tEither (tRevL K (tVar 0)) (FW.tRevT K (tVar 0)))) (iTup K (FW.tEither (tRevL K (tVar 0)) (FW.tRevT K (tVar 0))))) (gName 3) (rd_poly_value_L1 K)) (tRet (tVar 2)))
theorem take_succ' {xs : List Int} {i : Nat} {x : Int} (h : xs[i]? = some x) : xs.take (i + 1) = xs.take i ++ [x] := by
  rw [List.take_add_one, h]; rfl
theorem rev_take {ns : List Int} {i : Nat} {x : Int} (h : ns.reverse[i]? = some x) : (ns.reverse.take (i + 1)).reverse = x :: (ns.reverse.take i).reverse := by
  rw [take_succ' h, List.reverse_append]; rfl
theorem rev_all {ns : List Int} {n : Nat} (h : n = ns.length) : (ns.reverse.take n).reverse = ns := by
  rw [h, List.take_of_length_le (by simp), List.reverse_reverse]
theorem int_at {ns : List Int} {i : Nat} {x : V} (h : (ns.map V.int).reverse[i]? = some x) : ∃ c, x = .int c ∧ ns.reverse[i]? = some c := by
  rw [← List.map_reverse, List.getElem?_map] at h
  cases e : ns.reverse[i]? with
  | none => rw [e] at h; cases h
  | some c => rw [e] at h; cases h; exact ⟨c, rfl, rfl⟩
theorem pure_poly_value (K : PySem.W.Frag) (vs : List V) (H : Hp) (Q : VK) (E : XK) (h : sp_poly_value K vs H Q E) : rd_poly_value K { nx := fun _ H' => Q .non H', rt := Q } (start ["poly", "r", "found", "coefficient"] vs) H := by
  obtain ⟨a, ns, r, b, rfl, hA, hc, hr, hsz, q⟩ := h
  unfold rd_poly_value
  walk_at "rd"
  have main : ∀ p o H1, H p = none → (o = HO.lst (ns.map V.int).reverse ∨ o = HO.tup (ns.map V.int).reverse) → H1 = upd H p o → ∃ Pv : Nat → L2.St → Hp → Prop, Pv 0 [some (.ref a), some (.int r), some (.int 0), none] H1 ∧ (∀ i σ H', Pv i σ H' → H' = H1) ∧
      (∀ i x σ H', (ns.map V.int).reverse[i]? = some x → Pv i σ H' → gName 3 x σ H' fun σ2 H2 => rd_poly_value_L1 K { nx := Pv (i + 1), ct := Pv (i + 1), bk := fun σ' H' => tRet (tVar 2) { nx := fun _ H' => Q .non H', rt := Q } σ' H', rt := Q } σ2 H2) ∧
      (∀ σ H', Pv (ns.map V.int).reverse.length σ H' → tRet (tVar 2) { nx := fun _ H' => Q .non H', rt := Q } σ H') := by
    intro p o H1 hp ho e1
    refine ⟨fun i σ H' => H' = H1 ∧ i ≤ ns.length ∧ ∃ v, σ = [some (.ref a), some (.int r), some (.int (pvl (ns.reverse.take i).reverse r)), v], ⟨rfl, Nat.zero_le _, none, rfl⟩, fun _ _ _ h => h.1, ?_, ?_⟩
    · rintro i x σ H' hx ⟨rfl, hi, v, rfl⟩
      obtain ⟨c, rfl, hci⟩ := int_at hx
      have hlt : i < ns.length := by
        have := (List.getElem?_eq_some_iff.mp hci).1
        simpa using this
      unfold rd_poly_value_L1
      walk_at "rd"
      · refine ⟨rfl, by omega, some (.int c), ?_⟩
        rw [rev_take hci, pvl]
        rw [show pvl (ns.reverse.take i).reverse r * r + c = c + r * pvl (ns.reverse.take i).reverse r by grind]
        rfl
      · have hs := pv_sz (ns.reverse.take i).reverse r b (fun c hc' => hc c (by
          have := List.mem_reverse.mp hc'
          exact List.mem_reverse.mp (List.mem_of_mem_take this))) hr
        have hlen : (ns.reverse.take i).reverse.length = i := by simp; omega
        rw [hlen] at hs
        have h1 : (i + 1) * (b + 1) ≤ (ns.length + 1) * (b + 1) := Nat.mul_le_mul_right _ (by omega)
        have h2 : (ns.length + 2) * (b + 1) = (ns.length + 1) * (b + 1) + (b + 1) := by rw [Nat.add_mul (ns.length + 1) 1, Nat.one_mul]
        have h3 : (i + 1) * (b + 1) = i * (b + 1) + (b + 1) := by rw [Nat.add_mul, Nat.one_mul]
        refine wide_mul (a := i * (b + 1) + 1) (b := b + 1) (hs.mono (by omega)) (hr.mono (by omega)) (by omega) (by omega) (by omega)
    · rintro σ H' ⟨rfl, _, v, rfl⟩
      walk_at "rd"
      rw [rev_all (by simp)]
      rw [e1]
      exact q _ (Ext.new hp)
  have hl0 : [some (V.ref a), some (V.int r), some (V.int 0), (none : Option V)][0]? = some (some (.ref a)) := rfl
  rcases hA with hA | hA
  · refine Or.inl (i_list (Or.inl ⟨_, hl0, a, _, rfl, hA, fun p hp => ?_⟩))
    obtain ⟨Pv, h0, hk, hs, hd⟩ := main p _ _ hp (.inl rfl) rfl
    refine i_list' _ ?_ (SqL.of upd_same)
    exact for_list (xs := (ns.map V.int).reverse) Pv h0 (fun i σ H' _ p => by rw [hk i σ H' p]; exact SqL.of upd_same) hs hd
  · refine Or.inr (i_tup (Or.inr ⟨_, hl0, a, _, rfl, hA, fun p hp => ?_⟩))
    obtain ⟨Pv, h0, hk, hs, hd⟩ := main p _ _ hp (.inr rfl) rfl
    refine i_tup' _ ?_ (SqT.of upd_same)
    exact for_tup (xs := (ns.map V.int).reverse) Pv h0 (fun i σ H' _ p => by rw [hk i σ H' p]; exact SqT.of upd_same) hs hd
end FWL
namespace FWL
open PySem PySem.Spec PyProof.Rows L2 FW
/-! ### sums -/
def pad (ns : List Int) (m : Nat) : List Int := ns ++ List.replicate (m - ns.length) 0
theorem pad_len {ns : List Int} {m : Nat} (h : ns.length ≤ m) : (pad ns m).length = m := by simp [pad]; omega
theorem pv_pad (ns : List Int) (m : Nat) (r : Int) : pvl (pad ns m) r = pvl ns r := by
  rw [pad, pv_append, pv_zeros (xs := List.replicate (m - ns.length) 0) (fun c hc => List.eq_of_mem_replicate hc)]; simp
def addL (ns ms : List Int) : List Int := List.zipWith (· + ·) (pad ns (max ns.length ms.length)) (pad ms (max ns.length ms.length))
theorem pv_addL (ns ms : List Int) (r : Int) : pvl (addL ns ms) r = pvl ns r + pvl ms r := by
  rw [addL, pv_zip _ _ (by rw [pad_len (by omega), pad_len (by omega)]), pv_pad, pv_pad]
theorem addL_len (ns ms : List Int) : (addL ns ms).length = max ns.length ms.length := by
  rw [addL, List.length_zipWith, pad_len (by omega), pad_len (by omega)]; omega
theorem addL_sz {ns ms : List Int} {b : Nat} (h1 : ∀ c ∈ ns, Sz b c) (h2 : ∀ c ∈ ms, Sz b c) : ∀ c ∈ addL ns ms, Sz (b + 1) c := by
  have hp : ∀ (xs : List Int) m, (∀ c ∈ xs, Sz b c) → ∀ c ∈ pad xs m, Sz b c := by
    intro xs m h c hc
    rcases List.mem_append.mp hc with hc | hc
    · exact h c hc
    · rw [List.eq_of_mem_replicate hc]; exact Nat.pow_pos (by decide)
  intro c hc
  obtain ⟨i, hi, rfl⟩ := List.getElem_of_mem hc
  simp only [addL, List.getElem_zipWith]
  exact (hp _ _ h1 _ (List.getElem_mem _)).add (hp _ _ h2 _ (List.getElem_mem _))
def sp_poly_sum (K : PySem.W.Frag) : Sp := fun vs H Q _ => ∃ (a b : Addr) (ns ms : List Int), vs = [.ref a, .ref b] ∧ SqA K H a (ns.map V.int) ∧ SqA K H b (ms.map V.int) ∧ ns.length ≤ 100 ∧ ms.length ≤ 100 ∧
  ∀ t cs H', H t = none → Ext H H' → H' t = some (.tup (cs.map V.int)) → (∀ r, pvl cs r = pvl ns r + pvl ms r) → cs.getLast? ≠ some 0 → (∀ c ∈ cs, c ∈ addL ns ms) → cs.length ≤ max ns.length ms.length → Q (.ref t) H'
def rd_poly_sum (K : PySem.W.Frag) : TS := tSeq (tAsg (tCB FW.rMax2 (tCons (tCB (Evl.rLenS K) (tCons (tVar 0) (tNil))) (tCons (tCB (Evl.rLenS K) (tCons (tVar 1) (tNil))) (tNil)))) (gName 2)) (tSeq (tAsg (tOp rCat (tCB (Evl.rListS K) (tCons (tVar 0) (tNil))) (tOp rRep (tLst (tCons (tC (.int 0)) (tNil))) (tOp FW.rSub (tVar 2) (tCB (Evl.rLenS K) (tCons (tVar 0) (tNil)))))) (gName 3)) (tSeq (tAsg (tOp rCat (tCB (Evl.rListS K) (tCons (tVar 1) (tNil))) (tOp rRep (tLst (tCons (tC (.int 0)) (tNil))) (tOp FW.rSub (tVar 2) (tCB (Evl.rLenS K) (tCons (tVar 1) (tNil)))))) (gName 4)) (tRet (tCall (sp_trimmed K) [] E0 (tCons (tLc (iZip K (tCons (tVar 3) (tCons (tVar 4) (tNil)))) (gTup K 2 (gCons (gName 5) (gCons (gName 6) (gNil)))) (tYes) (tOp FW.rAdd (tVar 5) (tVar 6)) [5, 6]) (tNil))))))
theorem map_pad (ns : List Int) (m : Nat) : (pad ns m).map V.int = ns.map V.int ++ List.replicate (m - ns.length) (V.int 0) := by simp [pad]
theorem map_at {xs : List Int} {i : Nat} {v : V} (h : (xs.map V.int)[i]? = some v) : ∃ c, v = .int c ∧ xs[i]? = some c := by
  rw [List.getElem?_map] at h
  cases e : xs[i]? with
  | none => rw [e] at h; cases h
  | some c => rw [e] at h; cases h; exact ⟨c, rfl, rfl⟩
theorem zip_take {xs ys : List Int} {i : Nat} {x y : Int} (h1 : xs[i]? = some x) (h2 : ys[i]? = some y) : (List.zipWith (· + ·) xs ys).take (i + 1) = (List.zipWith (· + ·) xs ys).take i ++ [x + y] := by
  refine take_succ' ?_
  rw [List.getElem?_zipWith, h1, h2]
theorem pure_poly_sum (K : PySem.W.Frag) (vs : List V) (H : Hp) (Q : VK) (E : XK) (h : sp_poly_sum K vs H Q E) : rd_poly_sum K { nx := fun _ H' => Q .non H', rt := Q } (start ["one", "other", "many", "first", "second", "x", "y"] vs) H := by
  obtain ⟨a, b, ns, ms, rfl, hA, hB, hn, hm, q⟩ := h
  unfold rd_poly_sum
  walk_at "rd"
  refine e_len ?_ hA
  walk_at "rd"
  refine e_len ?_ hB
  walk_at "rd"
  rw [List.length_map, List.length_map]
  have hmx : (if (ms.length : Int) > (ns.length : Int) then (ms.length : Int) else (ns.length : Int)) = ((max ns.length ms.length : Nat) : Int) := by
    split <;> omega
  rw [hmx]
  have hmx1 : max ns.length ms.length ≤ 100 := by omega
  have hmxn : ns.length ≤ max ns.length ms.length := by omega
  have hmxm : ms.length ≤ max ns.length ms.length := by omega
  have eaddL : addL ns ms = List.zipWith (· + ·) (pad ns (max ns.length ms.length)) (pad ms (max ns.length ms.length)) := rfl
  generalize max ns.length ms.length = mx at *
  refine e_listS (fun p1 h1 => ?_) hA
  walk_at "rd"
  refine ⟨by show 1 ≤ sizeLine; decide, fun p2 h2 => ?_⟩
  walk_at "rd"
  have e1 : Ext H (upd (upd H p1 (.lst (ns.map V.int))) p2 (.lst [V.int 0])) := (Ext.new h1).tr (Ext.new h2)
  refine e_len ?_ (hA.ext e1)
  walk_at "rd"
  rw [List.length_map]
  refine e_rep (fun p3 h3 => ?_) upd_same (by omega) (by omega)
  have g1 : (upd (upd (upd H p1 (.lst (ns.map V.int))) p2 (.lst [V.int 0])) p3 (.lst (List.replicate ((mx : Int) - (ns.length : Int)).toNat (V.int 0)))) p1 = some (.lst (ns.map V.int)) := (Ext.new h3) _ _ ((Ext.new h2) _ _ upd_same)
  refine e_cat (fun p4 h4 => ?_) g1 upd_same (by rw [List.length_map, List.length_replicate]; show _ ≤ 2 ^ 24; omega)
  have e4 : Ext H (upd (upd (upd (upd H p1 (.lst (ns.map V.int))) p2 (.lst [V.int 0])) p3 (.lst (List.replicate ((mx : Int) - (ns.length : Int)).toNat (V.int 0)))) p4 (.lst (ns.map V.int ++ List.replicate ((mx : Int) - (ns.length : Int)).toNat (V.int 0)))) := e1.tr ((Ext.new h3).tr (Ext.new h4))
  have g4 : (upd (upd (upd (upd H p1 (.lst (ns.map V.int))) p2 (.lst [V.int 0])) p3 (.lst (List.replicate ((mx : Int) - (ns.length : Int)).toNat (V.int 0)))) p4 (.lst (ns.map V.int ++ List.replicate ((mx : Int) - (ns.length : Int)).toNat (V.int 0)))) p4 = some (.lst ((pad ns mx).map V.int)) := by
    rw [map_pad, show mx - ns.length = ((mx : Int) - (ns.length : Int)).toNat by omega]; exact upd_same
  generalize upd (upd (upd (upd H p1 (.lst (ns.map V.int))) p2 (.lst [V.int 0])) p3 (.lst (List.replicate ((mx : Int) - (ns.length : Int)).toNat (V.int 0)))) p4 (.lst (ns.map V.int ++ List.replicate ((mx : Int) - (ns.length : Int)).toNat (V.int 0))) = H4 at *
  clear h1 h2 h3 h4 g1 e1
  walk_at "rd"
  refine e_listS (fun p1 h1 => ?_) (hB.ext e4)
  walk_at "rd"
  refine ⟨by show 1 ≤ sizeLine; decide, fun p2 h2 => ?_⟩
  walk_at "rd"
  have e1 : Ext H4 (upd (upd H4 p1 (.lst (ms.map V.int))) p2 (.lst [V.int 0])) := (Ext.new h1).tr (Ext.new h2)
  refine e_len ?_ ((hB.ext e4).ext e1)
  walk_at "rd"
  rw [List.length_map]
  refine e_rep (fun p3 h3 => ?_) upd_same (by omega) (by omega)
  have g1 : (upd (upd (upd H4 p1 (.lst (ms.map V.int))) p2 (.lst [V.int 0])) p3 (.lst (List.replicate ((mx : Int) - (ms.length : Int)).toNat (V.int 0)))) p1 = some (.lst (ms.map V.int)) := (Ext.new h3) _ _ ((Ext.new h2) _ _ upd_same)
  refine e_cat (fun p5 h4 => ?_) g1 upd_same (by rw [List.length_map, List.length_replicate]; show _ ≤ 2 ^ 24; omega)
  have e5 : Ext H4 (upd (upd (upd (upd H4 p1 (.lst (ms.map V.int))) p2 (.lst [V.int 0])) p3 (.lst (List.replicate ((mx : Int) - (ms.length : Int)).toNat (V.int 0)))) p5 (.lst (ms.map V.int ++ List.replicate ((mx : Int) - (ms.length : Int)).toNat (V.int 0)))) := e1.tr ((Ext.new h3).tr (Ext.new h4))
  have g5 : (upd (upd (upd (upd H4 p1 (.lst (ms.map V.int))) p2 (.lst [V.int 0])) p3 (.lst (List.replicate ((mx : Int) - (ms.length : Int)).toNat (V.int 0)))) p5 (.lst (ms.map V.int ++ List.replicate ((mx : Int) - (ms.length : Int)).toNat (V.int 0)))) p5 = some (.lst ((pad ms mx).map V.int)) := by
    rw [map_pad, show mx - ms.length = ((mx : Int) - (ms.length : Int)).toNat by omega]; exact upd_same
  generalize upd (upd (upd (upd H4 p1 (.lst (ms.map V.int))) p2 (.lst [V.int 0])) p3 (.lst (List.replicate ((mx : Int) - (ms.length : Int)).toNat (V.int 0)))) p5 (.lst (ms.map V.int ++ List.replicate ((mx : Int) - (ms.length : Int)).toNat (V.int 0))) = H5 at *
  have e45 := e4.tr e5
  have g4' := e5 _ _ g4
  clear h1 h2 h3 h4 g1 e1 g4
  walk_at "rd"
  refine i_zip ?_
  walk_at "rd"
  refine ⟨p4, p5, _, _, rfl, SqL.of g4', SqL.of g5, ?_⟩
  intro D hD
  have l1 := pad_len hmxn
  have l2 := pad_len hmxm
  have hne4 : p4 ≠ D := (ne_of_none g4' hD)
  have hne5 : p5 ≠ D := (ne_of_none g5 hD)
  have lz : (List.zipWith (· + ·) (pad ns mx) (pad ms mx)).length = mx := by rw [List.length_zipWith]; omega
  refine lc_it (walk_zip (K := K) (a := p4) (b := p5) (xs := (pad ns mx).map V.int) (ys := (pad ms mx).map V.int) (n := mx) (by rw [List.length_map, List.length_map]; omega))
    (fun i H' => i ≤ mx ∧ (∀ c o, c ≠ D → H5 c = some o → H' c = some o) ∧ H' D = some (.lst (((List.zipWith (· + ·) (pad ns mx) (pad ms mx)).take i).map V.int))) ⟨Nat.zero_le _, fun c o hc e => by rw [upd_ne hc]; exact e, upd_same⟩
    (fun i H' _ p => ⟨SqL.of (p.2.1 _ _ hne4 g4'), SqL.of (p.2.1 _ _ hne5 g5)⟩) ?_ ?_
  · rintro i v H' H'' hi ⟨hle, hk, hDD⟩ ⟨T, x, y, rfl, hT, rfl, hx, hy⟩
    obtain ⟨cx, rfl, hcx⟩ := map_at hx
    obtain ⟨cy, rfl, hcy⟩ := map_at hy
    refine g_tup ?_ (SqT.of upd_same) rfl
    have hTD : D ≠ T := ne_of_none hDD hT
    walk_at "rd"
    refine ⟨rfl, ?_⟩
    walk_at "rd"
    refine ⟨_, by rw [upd_ne hTD]; exact hDD, ?_, by omega, fun c o hc e => ?_, ?_⟩
    · rw [List.length_map, List.length_take, lz]; show _ < 2 ^ 24; omega
    · rw [upd_ne hc, upd_ne (ne_of_none (hk c o hc e) hT)]; exact hk c o hc e
    · rw [upd_same, zip_take hcx hcy, List.map_append]; rfl
  · rintro H' ⟨_, hk, hDD⟩
    walk_at "rd"
    rw [List.take_of_length_le (by omega)] at hDD
    refine .inl ⟨D, _, rfl, SqL.of hDD, fun t cs H'' ht e hH hpv hlast hmem hlen => ?_⟩
    have e6 : Ext H H' := fun c o q => hk c o (ne_of_none (e45 c o q) hD) (e45 c o q)
    refine q t cs H'' (e6.non ht) (e6.tr e) hH (fun r => ?_) hlast (fun c hc => by rw [eaddL]; exact hmem c hc) (by omega)
    rw [hpv r, pv_zip _ _ (by omega), pv_pad, pv_pad]
end FWL
namespace FWL
open PySem PySem.Spec PyProof.Rows L2 FW
/-! ### products -/
def sp_poly_product (K : PySem.W.Frag) : Sp := fun vs H Q _ => ∃ (a b : Addr) (ns ms : List Int) (p q' : Nat), vs = [.ref a, .ref b] ∧ SqA K H a (ns.map V.int) ∧ SqA K H b (ms.map V.int) ∧ ns.length ≤ 100 ∧ ms.length ≤ 100 ∧ (∀ c ∈ ns, Sz p c) ∧ (∀ c ∈ ms, Sz q' c) ∧ p + q' ≤ 100000 ∧
  ∀ t cs H', H t = none → Ext H H' → H' t = some (.tup (cs.map V.int)) → (∀ r, pvl cs r = pvl ns r * pvl ms r) → cs.getLast? ≠ some 0 → (∀ c ∈ cs, c.natAbs ≤ ns.length * ms.length * 2 ^ (p + q')) → cs.length ≤ ns.length + ms.length → Q (.ref t) H'
def rd_poly_product_L1 (K : PySem.W.Frag) : TS := tAugS (tVar 2) (tOp FW.rAdd (tVar 3) (tVar 5)) (tOp FW.rMul (tVar 4) (tVar 6)) (rIxL K) FW.iAdd rSetL
def rd_poly_product_L2 (K : PySem.W.Frag) : TS := tFor (FW.iEither (iEnum K (tCons (tVar 1) (tNil))) (FW.iEnumT K (tCons (tVar 1) (tNil)))) (gTup K 2 (gCons (gName 5) (gCons (gName 6) (gNil)))) (rd_poly_product_L1 K)
def rd_poly_product (K : PySem.W.Frag) : TS := tSeq (tAsg (tOp rRep (tLst (tCons (tC (.int 0)) (tNil))) (tOp FW.rAdd (tCB (Evl.rLenS K) (tCons (tVar 0) (tNil))) (tCB (Evl.rLenS K) (tCons (tVar 1) (tNil))))) (gName 2)) (tSeq (tFor (FW.iEither (iEnum K (tCons (tVar 0) (tNil))) (FW.iEnumT K (tCons (tVar 0) (tNil)))) (gTup K 2 (gCons (gName 3) (gCons (gName 4) (gNil)))) (rd_poly_product_L2 K)) (tRet (tCall (sp_trimmed K) [] E0 (tCons (tVar 2) (tNil)))))
theorem set_map (cur : List Int) (k : Nat) (c : Int) : (cur.map V.int).set k (.int c) = (cur.set k c).map V.int := by rw [List.map_set]
theorem pv_take1 {xs : List Int} {i : Nat} {x : Int} (h : xs[i]? = some x) (r : Int) : pvl (xs.take (i + 1)) r = pvl (xs.take i) r + x * r ^ i := by
  have hi := (List.getElem?_eq_some_iff.mp h).1
  rw [take_succ' h, pv_append, List.length_take, Nat.min_eq_left (by omega)]
  simp only [pvl]
  grind
theorem mem_set_le {cur : List Int} {k : Nat} {c : Int} {B : Nat} (h : ∀ z ∈ cur, z.natAbs ≤ B) (hc : c.natAbs ≤ B) : ∀ z ∈ cur.set k c, z.natAbs ≤ B := fun z hz => by
  rcases List.mem_or_eq_of_mem_set hz with h' | rfl
  · exact h z h'
  · exact hc
theorem pure_poly_product (K : PySem.W.Frag) (vs : List V) (H : Hp) (Q : VK) (E : XK) (h : sp_poly_product K vs H Q E) : rd_poly_product K { nx := fun _ H' => Q .non H', rt := Q } (start ["one", "other", "found", "i", "x", "j", "y"] vs) H := by
  obtain ⟨a, b, ns, ms, p, q', rfl, hA, hB, hn, hm, hcn, hcm, hpq, q⟩ := h
  unfold rd_poly_product
  walk_at "rd"
  refine ⟨by show 1 ≤ sizeLine; decide, fun p2 h2 => ?_⟩
  have e2 : Ext H (upd H p2 (.lst [V.int 0])) := Ext.new h2
  walk_at "rd"
  refine e_len ?_ (hA.ext e2)
  walk_at "rd"
  refine e_len ?_ (hB.ext e2)
  walk_at "rd"
  rw [List.length_map, List.length_map]
  refine e_rep (fun F hF => ?_) upd_same (by omega) (by omega)
  have hFn : H F = none := e2.non hF
  have e3 : Ext H (upd (upd H p2 (.lst [V.int 0])) F (.lst (List.replicate ((ns.length : Int) + (ms.length : Int)).toNat (V.int 0)))) := e2.tr (Ext.new hF)
  have hF3 : (upd (upd H p2 (.lst [V.int 0])) F (.lst (List.replicate ((ns.length : Int) + (ms.length : Int)).toNat (V.int 0)))) F = some (.lst ((List.replicate (ns.length + ms.length) (0 : Int)).map V.int)) := by
    rw [upd_same, List.map_replicate, show ((ns.length : Int) + (ms.length : Int)).toNat = ns.length + ms.length by omega]
  generalize upd (upd H p2 (.lst [V.int 0])) F (.lst (List.replicate ((ns.length : Int) + (ms.length : Int)).toNat (V.int 0))) = H3 at *
  refine s_seq ?_
  refine for_enumA (H0 := H) (xs := ns.map V.int) (fun i σ H' => Ext H H' ∧ i ≤ ns.length ∧ ∃ (cur : List Int) (v3 v4 v5 v6 : Option V), H' F = some (.lst (cur.map V.int)) ∧ cur.length = ns.length + ms.length ∧ (∀ r, pvl cur r = pvl (ns.take i) r * pvl ms r) ∧ (∀ c ∈ cur, c.natAbs ≤ i * ms.length * 2 ^ (p + q')) ∧ σ = [some (.ref a), some (.ref b), some (.ref F), v3, v4, v5, v6])
    rfl hA ⟨e3, Nat.zero_le _, _, _, _, _, _, hF3, by simp, fun r => ?_, fun c hc => ?_, rfl⟩ (fun _ _ _ h => h.1) ?_ ?_
  · rw [pv_zeros (fun c hc => List.eq_of_mem_replicate hc)]; simp [pvl]
  · rw [List.eq_of_mem_replicate hc]; simp
  · rintro i x σ H' T hx ⟨e, hi, cur, v3, v4, v5, v6, hF', hlen, hpv, hbd, rfl⟩ hT
    obtain ⟨cx, rfl, hcx⟩ := map_at hx
    have hi' := (List.getElem?_eq_some_iff.mp hcx).1
    have hcxs : Sz p cx := hcn cx (List.mem_of_getElem? hcx)
    refine g_tup ?_ (SqT.of upd_same) rfl
    walk_at "re"
    unfold rd_poly_product_L2
    have hTF : F ≠ T := ne_of_none hF' hT
    refine for_enumA (H0 := H) (xs := ms.map V.int) (fun j σ H' => Ext H H' ∧ j ≤ ms.length ∧ ∃ (cur : List Int) (v5 v6 : Option V), H' F = some (.lst (cur.map V.int)) ∧ cur.length = ns.length + ms.length ∧ (∀ r, pvl cur r = pvl (ns.take i) r * pvl ms r + cx * r ^ i * pvl (ms.take j) r) ∧ (∀ c ∈ cur, c.natAbs ≤ (i * ms.length + j) * 2 ^ (p + q')) ∧ σ = [some (.ref a), some (.ref b), some (.ref F), some (.int (i : Nat)), some (.int cx), v5, v6])
      rfl hB ⟨e.tr (Ext.new hT), Nat.zero_le _, cur, _, _, by rw [upd_ne hTF]; exact hF', hlen, fun r => ?_, fun c hc => ?_, rfl⟩ (fun _ _ _ h => h.1) ?_ ?_
    · rw [hpv r]; simp [pvl]
    · simpa using hbd c hc
    · rintro j y σ H2 T2 hy ⟨e2, hj, cur, v5, v6, hF2, hlen, hpv, hbd, rfl⟩ hT2
      obtain ⟨cy, rfl, hcy⟩ := map_at hy
      have hj' := (List.getElem?_eq_some_iff.mp hcy).1
      have hcys : Sz q' cy := hcm cy (List.mem_of_getElem? hcy)
      refine g_tup ?_ (SqT.of upd_same) rfl
      walk_at "re"
      have hT2F : F ≠ T2 := ne_of_none hF2 hT2
      have hF3 : (upd H2 T2 (.tup [.int (j : Nat), .int cy])) F = some (.lst (cur.map V.int)) := by rw [upd_ne hT2F]; exact hF2
      have e3 : Ext H (upd H2 T2 (.tup [.int (j : Nat), .int cy])) := e2.tr (Ext.new hT2)
      generalize upd H2 T2 (.tup [.int (j : Nat), .int cy]) = H4 at *
      have hij : i + j < cur.length := by omega
      unfold rd_poly_product_L1
      refine s_augS ?_
      walk_at "rd"
      rw [show ((i : Int) + (j : Int)) = ((i + j : Nat) : Int) by omega]
      refine e_ixL ?_ (SqL.of hF3) (at_int hij)
      walk_at "rd"
      · refine e_setL (m := i + j) ?_ hF3 ?_
        · refine ⟨e3.upds hFn, by omega, cur.set (i + j) (cur[i + j] + cx * cy), _, _, by rw [upd_same, set_map], by simpa using hlen, fun r => ?_, ?_, rfl⟩
          · rw [pv_set _ _ _ _ _ (List.getElem?_eq_getElem hij), hpv r, pv_take1 hcy r]
            have : r ^ (i + j) = r ^ i * r ^ j := Int.pow_add ..
            rw [this]; grind
          · refine mem_set_le (fun z hz => Nat.le_trans (hbd z hz) (Nat.mul_le_mul_right _ (by omega))) ?_
            have h1 := hbd _ (List.getElem_mem hij)
            have h2 : (cx * cy).natAbs < 2 ^ (p + q') := hcxs.mul hcys
            have h3 : (i * ms.length + (j + 1)) * 2 ^ (p + q') = (i * ms.length + j) * 2 ^ (p + q') + 2 ^ (p + q') := by rw [← Nat.add_assoc, Nat.add_mul (i * ms.length + j) 1, Nat.one_mul]
            omega
        · show ixN (cur.map V.int).length ((i + j : Nat) : Int) = some (i + j)
          rw [List.length_map]
          exact Evl.ixN_nat hij
      · exact wide_mul (a := p + 1) (b := q' + 1) (hcxs.mono (by omega)) (hcys.mono (by omega)) (by omega) (by omega) (by omega)
    · rintro σ H2 ⟨e2, hj, cur, v5, v6, hF2, hlen, hpv, hbd, rfl⟩
      refine ⟨e2, by omega, cur, _, _, _, _, hF2, hlen, fun r => ?_, fun c hc => ?_, rfl⟩
      · rw [List.length_map] at hpv
        have e := hpv r
        rw [List.take_of_length_le (l := ms) (Nat.le_refl _)] at e
        rw [e, pv_take1 hcx r]; grind
      · have := hbd c hc
        rw [List.length_map] at this
        rw [Nat.add_mul i 1, Nat.one_mul]; exact this
  · rintro σ H' ⟨e, hi, cur, v3, v4, v5, v6, hF', hlen, hpv, hbd, rfl⟩
    walk_at "rd"
    rw [List.length_map] at hpv hbd
    refine .inl ⟨F, cur, rfl, SqL.of hF', fun t cs H'' ht e' hH hpv' hlast hmem hlen' => ?_⟩
    refine q t cs H'' (e.non ht) (e.tr e') hH (fun r => ?_) hlast (fun c hc => hbd c (hmem c hc)) (by omega)
    rw [hpv' r, hpv r, List.take_of_length_le (Nat.le_refl _)]
/-! ### a polynomial shifted -/
theorem trimLen {cs : List Int} {n m B : Nat} (h : ∀ c ∈ cs, c.natAbs ≤ n * m * 2 ^ B) (hn : n * m < 2 ^ 8) : ∀ c ∈ cs, Sz (B + 8) c := fun c hc => by
  show c.natAbs < 2 ^ (B + 8)
  rw [Nat.pow_add, Nat.mul_comm]
  exact Nat.lt_of_le_of_lt (h c hc) (Nat.mul_lt_mul_of_pos_right hn (Nat.pow_pos (by decide)))
def sp_poly_shift (K : PySem.W.Frag) : Sp := fun vs H Q _ => ∃ (a : Addr) (ns : List Int) (by_ : Int), vs = [.ref a, .int by_] ∧ SqA K H a (ns.map V.int) ∧ ns.length ≤ 10 ∧ (∀ c ∈ ns, Sz 400 c) ∧ Sz 400 by_ ∧
  ∀ t cs H', H t = none → Ext H H' → H' t = some (.tup (cs.map V.int)) → (∀ r, pvl cs r = pvl ns (r + by_)) → cs.getLast? ≠ some 0 → (∀ c ∈ cs, Sz 5000 c) → cs.length ≤ 30 → Q (.ref t) H'
def rd_poly_shift_L1 (K : PySem.W.Frag) : TS := tAsg (tCall (sp_poly_sum K) [] E0 (tCons (tCall (sp_poly_product K) [] E0 (tCons (tVar 2) (tCons (tTup (tCons (tVar 1) (tCons (tC (.int 1)) (tNil)))) (tNil)))) (tCons (tTup (tCons (tVar 3) (tNil))) (tNil)))) (gName 2)
def rd_poly_shift (K : PySem.W.Frag) : TS := tSeq (tAsg (tTup (tNil)) (gName 2)) (tSeq (tFor (FW.iEither (iList K (FW.tEither (tRevL K (tVar 0)) (FW.tRevT K (tVar 0)))) (iTup K (FW.tEither (tRevL K (tVar 0)) (FW.tRevT K (tVar 0))))) (gName 3) (rd_poly_shift_L1 K)) (tRet (tVar 2)))
theorem pure_poly_shift (K : PySem.W.Frag) (vs : List V) (H : Hp) (Q : VK) (E : XK) (h : sp_poly_shift K vs H Q E) : rd_poly_shift K { nx := fun _ H' => Q .non H', rt := Q } (start ["poly", "by", "found", "coefficient"] vs) H := by
  obtain ⟨a, ns, y, rfl, hA, hlen, hc, hy, q⟩ := h
  unfold rd_poly_shift
  walk_at "rd"
  refine ⟨by show 0 ≤ sizeLine; decide, fun f0 hf0 => ?_⟩
  walk_at "rd"
  have e0 : Ext H (upd H f0 (.tup [])) := Ext.new hf0
  have g0 : (upd H f0 (.tup [])) f0 = some (.tup (([] : List Int).map V.int)) := upd_same
  generalize upd H f0 (.tup []) = H0 at *
  have main : ∀ H1, Ext H0 H1 → ∃ Pv : Nat → L2.St → Hp → Prop, Pv 0 [some (.ref a), some (.int y), some (.ref f0), none] H1 ∧ (∀ i σ H', Pv i σ H' → Ext H1 H') ∧
      (∀ i x σ H', (ns.map V.int).reverse[i]? = some x → Pv i σ H' → gName 3 x σ H' fun σ2 H2 => rd_poly_shift_L1 K { nx := Pv (i + 1), ct := Pv (i + 1), bk := fun σ' H' => tRet (tVar 2) { nx := fun _ H' => Q .non H', rt := Q } σ' H', rt := Q } σ2 H2) ∧
      (∀ σ H', Pv (ns.map V.int).reverse.length σ H' → tRet (tVar 2) { nx := fun _ H' => Q .non H', rt := Q } σ H') := by
    intro H1 e1
    refine ⟨fun i σ H' => Ext H1 H' ∧ i ≤ ns.length ∧ ∃ (t : Addr) (cs : List Int) (v : Option V), H t = none ∧ H' t = some (.tup (cs.map V.int)) ∧ (∀ r, pvl cs r = pvl (ns.reverse.take i).reverse (r + y)) ∧ cs.getLast? ≠ some 0 ∧ (∀ c ∈ cs, Sz (420 * i + 401) c) ∧ cs.length ≤ 3 * i ∧ σ = [some (.ref a), some (.int y), some (.ref t), v],
      ⟨Ext.rfl', Nat.zero_le _, f0, [], none, hf0, e1 _ _ g0, fun r => rfl, by simp, by simp, by simp, rfl⟩, fun _ _ _ h => h.1, ?_, ?_⟩
    · rintro i x σ H' hx ⟨e, hi, t, cs, v, htn, ht, hpv, hlast, hsz, hcl, rfl⟩
      obtain ⟨c, rfl, hci⟩ := int_at hx
      have hlt : i < ns.length := by
        have := (List.getElem?_eq_some_iff.mp hci).1
        simpa using this
      have hcs : Sz 400 c := hc c (List.mem_reverse.mp (List.mem_of_getElem? hci))
      unfold rd_poly_shift_L1
      walk_at "rd"
      refine ⟨by show 2 ≤ sizeLine; decide, fun p1 hp1 => ?_⟩
      walk_at "rd"
      have ep1 : Ext H' (upd H' p1 (.tup [V.int y, V.int 1])) := Ext.new hp1
      have gp1 : (upd H' p1 (.tup [V.int y, V.int 1])) p1 = some (.tup ([y, 1].map V.int)) := upd_same
      generalize upd H' p1 (.tup [V.int y, V.int 1]) = H2 at *
      refine ⟨t, p1, cs, [y, 1], 420 * i + 401, 400, rfl, .inr (SqT.of (ep1 _ _ ht)), .inr (SqT.of gp1), by omega, by show 2 ≤ 100; decide, hsz, ?_, by omega, fun t2 cs2 H3 ht2 e3 g3 hpv2 hlast2 hbd2 hl2 => ?_⟩
      · intro c hc'
        simp only [List.mem_cons, List.not_mem_nil, or_false] at hc'
        rcases hc' with rfl | rfl
        · exact hy
        · exact Sz.mono (show Sz 10 1 by decide) (by decide)
      walk_at "rd"
      refine ⟨by show 1 ≤ sizeLine; decide, fun p4 hp4 => ?_⟩
      walk_at "rd"
      have ep4 : Ext H3 (upd H3 p4 (.tup [V.int c])) := Ext.new hp4
      have gp4 : (upd H3 p4 (.tup [V.int c])) p4 = some (.tup ([c].map V.int)) := upd_same
      generalize upd H3 p4 (.tup [V.int c]) = H4 at *
      have hl2' : cs2.length ≤ cs.length + 2 := hl2
      have hbd2' : ∀ c ∈ cs2, c.natAbs ≤ cs.length * 2 * 2 ^ (420 * i + 401 + 400) := hbd2
      have hbds : ∀ c ∈ cs2, Sz (420 * i + 809) c := trimLen hbd2' (by omega)
      refine ⟨t2, p4, cs2, [c], rfl, .inr (SqT.of (ep4 _ _ g3)), .inr (SqT.of gp4), by omega, by show 1 ≤ 100; decide, fun t5 cs5 H5 ht5 e5 g5 hpv5 hlast5 hmem5 hl5 => ?_⟩
      walk_at "rd"
      have hl5' : cs5.length ≤ max cs2.length 1 := hl5
      have eall : Ext H H' := e0.tr (e1.tr e)
      refine ⟨e.tr (ep1.tr (e3.tr (ep4.tr e5))), by omega, t5, cs5, _, (eall.tr (ep1.tr (e3.tr ep4))).non ht5, g5, fun r => ?_, hlast5, fun c' hc' => ?_, by omega, rfl⟩
      · rw [hpv5 r, hpv2 r, hpv r, rev_take hci]
        simp only [pvl]
        grind
      · have := addL_sz (b := 420 * i + 809) hbds (fun z hz => by
          simp only [List.mem_cons, List.not_mem_nil, or_false] at hz
          rw [hz]; exact hcs.mono (by omega)) c' (hmem5 c' hc')
        exact this.mono (by omega)
    · rintro σ H' ⟨e, hi, t, cs, v, htn, ht, hpv, hlast, hsz, hcl, rfl⟩
      walk_at "rd"
      have hlen' : (ns.map V.int).reverse.length = ns.length := by simp
      rw [hlen'] at hpv hsz hcl
      refine q t cs H' htn (e0.tr (e1.tr e)) ht (fun r => ?_) hlast (fun c hc' => (hsz c hc').mono (by omega)) (by omega)
      rw [hpv r, rev_all rfl]
  have hl0 : [some (V.ref a), some (V.int y), some (V.ref f0), (none : Option V)][0]? = some (some (.ref a)) := rfl
  rcases hA with hA | hA
  · refine Or.inl (i_list (Or.inl ⟨_, hl0, a, _, rfl, e0.sqL hA, fun p hp => ?_⟩))
    obtain ⟨Pv, h0, hk, hs, hd⟩ := main (upd H0 p (.lst (ns.map V.int).reverse)) (Ext.new hp)
    refine i_list' _ ?_ (SqL.of upd_same)
    exact for_list (xs := (ns.map V.int).reverse) Pv h0 (fun i σ H' _ p => (hk i σ H' p).sqL (SqL.of upd_same)) hs hd
  · refine Or.inr (i_tup (Or.inr ⟨_, hl0, a, _, rfl, e0.sqT hA, fun p hp => ?_⟩))
    obtain ⟨Pv, h0, hk, hs, hd⟩ := main (upd H0 p (.tup (ns.map V.int).reverse)) (Ext.new hp)
    refine i_tup' _ ?_ (SqT.of upd_same)
    exact for_tup (xs := (ns.map V.int).reverse) Pv h0 (fun i σ H' _ p => (hk i σ H' p).sqT (SqT.of upd_same)) hs hd
end FWL
namespace FWL
open PySem PySem.Spec PyProof.Rows L2 FW

/-! ### the law's own root: the greatest number whose power is at most n -/
def sp_l_root (K : PySem.W.Frag) : Sp := fun vs H Q _ => ∃ n k : Int, vs = [.int n, .int k] ∧ 0 ≤ n ∧ 1 ≤ k ∧ k ≤ 4 ∧ Sz 2000 n ∧ ∀ (r : Int) H', 0 ≤ r → r ^ k.toNat ≤ n → n < (r + 1) ^ k.toNat → Ext H H' → Q (.int r) H'
def rd_l_root_L1 (K : PySem.W.Frag) : TS := tAsg (tOp FW.rMul (tVar 3) (tC (.int 2))) (gName 3)
def rd_l_root_L2 (K : PySem.W.Frag) : TS := tSeq (tAsg (tOp FW.rDiv (tOp FW.rAdd (tVar 2) (tVar 3)) (tC (.int 2))) (gName 4)) (tIfS (tTest (tOp FW.rLe (tCall (sp_l_power K) [] E0 (tCons (tVar 4) (tCons (tVar 1) (tNil)))) (tVar 0))) (tAsg (tVar 4) (gName 2)) (tAsg (tVar 4) (gName 3)))
def rd_l_root (K : PySem.W.Frag) : TS := tSeq (tAsg (tTup (tCons (tC (.int 0)) (tCons (tC (.int 1)) (tNil)))) (gTup K 2 (gCons (gName 2) (gCons (gName 3) (gNil))))) (tSeq (tWhile (tTest (tOp FW.rLe (tCall (sp_l_power K) [] E0 (tCons (tVar 3) (tCons (tVar 1) (tNil)))) (tVar 0))) (rd_l_root_L1 K)) (tSeq (tWhile (tTest (tOp FW.rGt (tOp FW.rSub (tVar 3) (tVar 2)) (tC (.int 1)))) (rd_l_root_L2 K)) (tRet (tVar 2))))
theorem pow_ge_self {x : Int} (h : 1 ≤ x) (n : Nat) (hn : 1 ≤ n) : x ≤ x ^ n := by
  obtain ⟨m, rfl⟩ : ∃ m, n = m + 1 := ⟨n - 1, by omega⟩
  have hp := pow_pos' h m
  rw [Int.pow_succ]
  have : 1 * x ≤ x ^ m * x := Int.mul_le_mul_of_nonneg_right hp (by omega)
  omega
theorem pow_mono {x y : Int} (h0 : 0 ≤ x) (h : x ≤ y) : ∀ n : Nat, x ^ n ≤ y ^ n
  | 0 => by simp
  | n + 1 => by
    have ih := pow_mono h0 h n
    have hx : 0 ≤ x ^ n := Int.pow_nonneg h0
    rw [Int.pow_succ, Int.pow_succ]
    exact Int.mul_le_mul ih h h0 (by omega)
theorem pow_lt_inv {x y : Int} (h0 : 0 ≤ y) {n : Nat} (h : x ^ n < y ^ n) (hx : 0 ≤ x) : x < y := by
  rcases Int.lt_or_le x y with h1 | h1
  · exact h1
  · have := pow_mono h0 h1 n
    omega
theorem pure_l_root (K : PySem.W.Frag) (vs : List V) (H : Hp) (Q : VK) (E : XK) (h : sp_l_root K vs H Q E) : rd_l_root K { nx := fun _ H' => Q .non H', rt := Q } (start ["_law_n", "_law_k", "_law_least", "_law_most", "_law_middle"] vs) H := by
  obtain ⟨n, k, rfl, hn, hk1, hk4, hs, q⟩ := h
  have hnb : n.natAbs < 2 ^ 2000 := hs
  unfold rd_l_root
  walk_at "rd"
  refine ⟨by show 2 ≤ sizeLine; decide, fun q1 hq1 => ?_⟩
  refine g_tup ?_ (SqT.of upd_same) rfl
  have eE := Ext.new (o := .tup [V.int 0, V.int 1]) hq1
  generalize upd H q1 (.tup [V.int 0, V.int 1]) = H at *
  walk_at "rd"
  refine s_while (fun m σ H' => H' = H ∧ ∃ (most : Int) (v : Option V), 1 ≤ most ∧ most ≤ 2 * n + 1 ∧ m = (n + 1 - most).toNat + 1 ∧ σ = [some (.int n), some (.int k), some (.int 0), some (.int most), v]) _ ⟨rfl, 1, none, by decide, by omega, rfl, rfl⟩ ?_
  rintro m σ H' ⟨rfl, most, v, h1, h2, rfl, rfl⟩
  have hms : Sz 2002 most := by
    show most.natAbs < 2 ^ 2002
    rw [show (2 : Nat) ^ 2002 = 4 * 2 ^ 2000 from by rw [Nat.pow_add 2 2000 2, Nat.mul_comm]]
    have : 0 < 2 ^ 2000 := Nat.pow_pos (by decide)
    omega
  walk_at "rd"
  refine ⟨most, k, 2002, rfl, by omega, hms, by decide, ?_, ?_⟩
  · have : k.toNat + 1 ≤ 5 := by omega
    have := Nat.mul_le_mul_right 2002 this
    omega
  walk_at "rd"
  refine e_ite (fun hle => ?_) (fun hgt => ?_)
  · have hself := pow_ge_self h1 k.toNat (by omega)
    refine ⟨fun σ' H'' => ∃ m', m' < (n + 1 - most).toNat + 1 ∧ (H'' = H' ∧ ∃ (most : Int) (v : Option V), 1 ≤ most ∧ most ≤ 2 * n + 1 ∧ m' = (n + 1 - most).toNat + 1 ∧ σ' = [some (.int n), some (.int k), some (.int 0), some (.int most), v]), fun _ _ h => h, ?_⟩
    unfold rd_l_root_L1
    walk_at "rd"
    · exact ⟨_, by omega, rfl, most * 2, v, by omega, by omega, rfl, rfl⟩
    · exact wide_mul hms (b := 10) (by decide) (by decide) (by decide) (by decide)
  · walk_at "rd"
    have h0k : (0 : Int) ^ k.toNat ≤ n := by
      rw [Int.zero_pow (by omega)]; exact hn
    refine s_while (fun m σ H'' => H'' = H' ∧ ∃ (lo hi : Int) (v : Option V), 0 ≤ lo ∧ lo < hi ∧ hi ≤ most ∧ lo ^ k.toNat ≤ n ∧ n < hi ^ k.toNat ∧ m = (hi - lo).toNat ∧ σ = [some (.int n), some (.int k), some (.int lo), some (.int hi), v]) _ ⟨rfl, 0, most, v, by decide, by omega, by omega, h0k, by omega, rfl, rfl⟩ ?_
    rintro m σ H'' ⟨rfl, lo, hi, v, l0, llt, lm, p1, p2, rfl, rfl⟩
    walk_at "rd"
    refine e_ite (fun hgo => ?_) (fun hno => ?_)
    · refine ⟨fun σ' H2 => ∃ m', m' < (hi - lo).toNat ∧ (H2 = H'' ∧ ∃ (lo hi : Int) (v : Option V), 0 ≤ lo ∧ lo < hi ∧ hi ≤ most ∧ lo ^ k.toNat ≤ n ∧ n < hi ^ k.toNat ∧ m' = (hi - lo).toNat ∧ σ' = [some (.int n), some (.int k), some (.int lo), some (.int hi), v]), fun _ _ h => h, ?_⟩
      unfold rd_l_root_L2
      walk_at "rd"
      · have hmid : lo < (lo + hi) / 2 ∧ (lo + hi) / 2 < hi := by omega
        generalize (lo + hi) / 2 = mid at *
        have hmds : Sz 2002 mid := Sz.of_le (by omega) (by omega : mid ≤ most) hms
        refine ⟨mid, k, 2002, rfl, by omega, hmds, by decide, ?_, ?_⟩
        · have : k.toNat + 1 ≤ 5 := by omega
          have := Nat.mul_le_mul_right 2002 this
          omega
        walk_at "rd"
        refine e_ite (fun hle => ?_) (fun hgt => ?_)
        · walk_at "rd"
          exact ⟨_, by omega, rfl, mid, hi, _, by omega, by omega, by omega, hle, p2, rfl, rfl⟩
        · walk_at "rd"
          exact ⟨_, by omega, rfl, lo, mid, _, by omega, by omega, by omega, p1, by omega, rfl, rfl⟩
      · exact ⟨by decide, by decide⟩
    · walk_at "rd"
      have e : hi = lo + 1 := by omega
      subst e
      exact q lo _ l0 p1 p2 eE
/-! ### led over a tuple of parts, a loop made of it -/
def sp_l_led (K : PySem.W.Frag) : Sp := fun vs H Q _ => ∃ (t : Addr) (l : Lp) (n x : Int), vs = [.ref t, .int n, .int x] ∧ H t = some (.tup l.V) ∧ l.Ok ∧ 1 ≤ x ∧ 0 ≤ n ∧ n.natAbs < 2 ^ 2000 ∧ x.natAbs < 2 ^ 2000 ∧ Q (.int (l.led n x)) H
def rd_l_led (K : PySem.W.Frag) : TS := tRet (tOp FW.rDiv (tOp FW.rAdd (tOp FW.rAdd (tOp FW.rMul (tOp (rIxT K) (tVar 0) (tC (.int 1))) (tVar 2)) (tOp FW.rMul (tOp (rIxT K) (tVar 0) (tC (.int 2))) (tOp FW.rDiv (tVar 1) (tCall (sp_l_power K) [] E0 (tCons (tVar 2) (tCons (tOp FW.rSub (tOp (rIxT K) (tVar 0) (tC (.int 0))) (tC (.int 1))) (tNil))))))) (tOp (rIxT K) (tVar 0) (tC (.int 3)))) (tOp FW.rAdd (tOp (rIxT K) (tVar 0) (tC (.int 1))) (tOp (rIxT K) (tVar 0) (tC (.int 2)))))
theorem pure_l_led (K : PySem.W.Frag) (vs : List V) (H : Hp) (Q : VK) (E : XK) (h : sp_l_led K vs H Q E) : rd_l_led K { nx := fun _ H' => Q .non H', rt := Q } (start ["_law_parts_here", "_law_n", "_law_x"] vs) H := by
  obtain ⟨t, l, n, x, rfl, ht, o, hx, hn, hnb, hxb, q⟩ := h
  have hk := o.hk; have a1 := o.a1; have a5 := o.a5; have c1 := o.c1; have c3 := o.c3
  have hpw := pow_lt hxb (by decide) (l.k - 1).toNat
  have hpp := pow_pos' hx (l.k - 1).toNat
  have hq : (n / x ^ (l.k - 1).toNat).natAbs < 2 ^ 2000 := Nat.lt_of_le_of_lt (ediv_abs hn hpp) hnb
  unfold rd_l_led
  walk_at "rd"
  refine e_ixT ?_ (SqT.of ht) rfl
  walk_at "rd"
  · refine e_ixT ?_ (SqT.of ht) rfl
    walk_at "rd"
    refine e_ixT ?_ (SqT.of ht) rfl
    walk_at "rd"
    refine ⟨x, l.k - 1, 2000, rfl, by omega, hxb, by decide, ?_, ?_⟩
    · have : (l.k - 1).toNat + 1 ≤ 4 := by omega
      have := Nat.mul_le_mul_right 2000 this
      omega
    walk_at "rd"
    · refine e_ixT ?_ (SqT.of ht) rfl
      walk_at "rd"
      refine e_ixT ?_ (SqT.of ht) rfl
      walk_at "rd"
      refine e_ixT ?_ (SqT.of ht) rfl
      walk_at "rd"
      · exact q
      · refine wide_div (b := 10) (by omega) ?_ (by decide) (by decide)
        show (l.a + l.c).natAbs < 1024
        omega
    · exact wide_mul (a := 10) (b := 2000) (by show l.c.natAbs < 1024; omega) hq (by decide) (by decide) (by decide)
    · refine wide_div (b := (l.k - 1).toNat * 2000 + 1) (by omega) hpw (by omega) ?_
      have : (l.k - 1).toNat ≤ 3 := by omega
      have := Nat.mul_le_mul_right 2000 this
      omega
  · exact wide_mul (a := 10) (b := 2000) (by show l.a.natAbs < 1024; omega) hxb (by decide) (by decide) (by decide)
def sp_l_loop (K : PySem.W.Frag) : Sp := fun vs H Q _ => ∃ (t : Addr) (l : Lp), vs = [.ref t] ∧ H t = some (.tup l.V) ∧ l.Ok ∧ ∀ x H', H x = none → Ext H H' → IsLp K H' x l → Q (.ref x) H'
def rd_l_loop (K : PySem.W.Frag) : TS := tRet (tMake (He.ga K "Average") (sp_Average_init K) [] E0 (tCons (tOp (rIxT K) (tVar 0) (tC (.int 0))) (tCons (tOp (rIxT K) (tVar 0) (tC (.int 1))) (tCons (tOp (rIxT K) (tVar 0) (tC (.int 2))) (tCons (tOp (rIxT K) (tVar 0) (tC (.int 3))) (tCons (tOp (rIxT K) (tVar 0) (tC (.int 4))) (tCons (tOp (rIxT K) (tVar 0) (tC (.int 5))) (tCons (tOp (rIxT K) (tVar 0) (tC (.int 6))) (tNil)))))))))
theorem pure_l_loop (K : PySem.W.Frag) (vs : List V) (H : Hp) (Q : VK) (E : XK) (h : sp_l_loop K vs H Q E) : rd_l_loop K { nx := fun _ H' => Q .non H', rt := Q } (start ["_law_parts_here"] vs) H := by
  obtain ⟨t, l, rfl, ht, o, q⟩ := h
  unfold rd_l_loop
  walk_at "rd"
  refine e_ixT ?_ (SqT.of ht) rfl
  walk_at "rd"
  refine e_ixT ?_ (SqT.of ht) rfl
  walk_at "rd"
  refine e_ixT ?_ (SqT.of ht) rfl
  walk_at "rd"
  refine e_ixT ?_ (SqT.of ht) rfl
  walk_at "rd"
  refine e_ixT ?_ (SqT.of ht) rfl
  walk_at "rd"
  refine e_ixT ?_ (SqT.of ht) rfl
  walk_at "rd"
  refine e_ixT ?_ (SqT.of ht) rfl
  walk_at "rd"
  intro x dx hx hdx hne
  have e3 : Ext H (upd (upd H dx (.own x)) x (.ins (He.ga K "Average") dx [])) := (Ext.new hdx).tr (Ext.new (by rw [upd_ne hne.symm]; exact hx))
  refine ⟨x, dx, l, rfl, o, upd_same, fun H4 e4 h4 => ⟨rfl, q x H4 hx (fun b ob q => e4 _ _ (ne_of_none q hx) (e3 _ _ q)) ⟨dx, h4⟩⟩⟩
end FWL
namespace FWL
open PySem PySem.Spec PyProof.Rows L2 FW
/-! ### cells and rows -/
theorem list_at {xs : List V} {i : Int} (h0 : 0 ≤ i) (h : i < (xs.length : Int)) : ∃ v, v ∈ xs ∧ atI xs i = some v := by
  obtain ⟨k, rfl⟩ := Int.eq_ofNat_of_zero_le h0
  have hk : k < xs.length := by omega
  exact ⟨xs[k], List.getElem_mem _, atI_nat (List.getElem?_eq_getElem hk)⟩
def sp_l_cell_at (K : PySem.W.Frag) : Sp := fun vs H Q _ => ∃ (a : Addr) (ns : List Int) (k : Int), vs = [.ref a, .int k] ∧ SqL K H a (ns.map V.int) ∧ 0 ≤ k ∧ ∀ c, Q (.int c) H
def rd_l_cell_at (K : PySem.W.Frag) : TS := tSeq (tIfS (tTest (tOp FW.rLt (tVar 1) (tCB (Evl.rLenS K) (tCons (tVar 0) (tNil))))) (tRet (tOp (rIxL K) (tVar 0) (tVar 1))) (tNext)) (tRet (tC (.int 0)))
theorem pure_l_cell_at (K : PySem.W.Frag) (vs : List V) (H : Hp) (Q : VK) (E : XK) (h : sp_l_cell_at K vs H Q E) : rd_l_cell_at K { nx := fun _ H' => Q .non H', rt := Q } (start ["_law_script", "_law_k"] vs) H := by
  obtain ⟨a, ns, k, rfl, hA, hk, q⟩ := h
  unfold rd_l_cell_at
  walk_at "rd"
  refine e_len ?_ (.inl hA)
  walk_at "rd"
  refine e_ite (fun h => ?_) (fun h => ?_)
  · rw [List.length_map] at h
    obtain ⟨i, hi⟩ := at_map hk h
    walk_at "rd"
    refine e_ixL ?_ hA hi
    exact q _
  · walk_at "rd"
    exact q _
def sp_l_mixed (K : PySem.W.Frag) : Sp := fun vs H Q _ => ∃ c k : Int, vs = [.int c, .int k] ∧ 0 ≤ k ∧ k < 100000 ∧ ∀ v, 0 ≤ v → Q (.int v) H
def rd_l_mixed (K : PySem.W.Frag) : TS := tSeq (tAsg (tOp FW.rMod (tCB FW.rInt1 (tCons (tOp FW.rPow (tOp FW.rAdd (tOp FW.rAdd (tOp FW.rMod (tCB FW.rInt1 (tCons (tVar 0) (tNil))) (tC (.int 2147483647))) (tOp FW.rMul (tC (.int 7919)) (tVar 1))) (tC (.int 104729))) (tC (.int 5))) (tNil))) (tC (.int 2147483647))) (gName 2)) (tRet (tOp FW.rMod (tCB FW.rInt1 (tCons (tOp FW.rMul (tOp FW.rAdd (tVar 2) (tVar 1)) (tC (.int 40692))) (tNil))) (tC (.int 2147483629))))
theorem pure_l_mixed (K : PySem.W.Frag) (vs : List V) (H : Hp) (Q : VK) (E : XK) (h : sp_l_mixed K vs H Q E) : rd_l_mixed K { nx := fun _ H' => Q .non H', rt := Q } (start ["_law_cell", "_law_k", "_law_spread"] vs) H := by
  obtain ⟨c, k, rfl, hk, hk1, q⟩ := h
  have h0 : 0 ≤ c % 2147483647 := Int.emod_nonneg _ (by decide)
  have h1 : c % 2147483647 < 2147483647 := Int.emod_lt_of_pos _ (by decide)
  have hs : 0 ≤ ((c % 2147483647 + 7919 * k + 104729) ^ (5 : Int).toNat) % 2147483647 := Int.emod_nonneg _ (by decide)
  have hs2 : ((c % 2147483647 + 7919 * k + 104729) ^ (5 : Int).toNat) % 2147483647 < 2147483647 := Int.emod_lt_of_pos _ (by decide)
  unfold rd_l_mixed
  walk_at "rd"
  · walk_at "rd"
    · exact q _ (Int.emod_nonneg _ (by decide))
  · decide
  · exact wide_mul (a := 60) (b := 20) (by omega) (by decide) (by decide) (by decide) (by decide)
  · decide
  · refine ⟨by decide, by decide, ?_⟩
    have : (2 : Nat) ^ 64 = 18446744073709551616 := by decide
    omega
  · exact wide_mul (a := 20) (b := 40) (by decide) (by omega) (by decide) (by decide) (by decide)
  · decide
def sp_l_apart (K : PySem.W.Frag) : Sp := fun vs H Q _ => ∃ c k : Int, vs = [.int c, .int k] ∧ 0 ≤ k ∧ k < 100000 ∧ ∀ v, Q (.int v) H
def rd_l_apart (K : PySem.W.Frag) : TS := tSeq (tIfS (tTest (tOp FW.rGe (tCB FW.rAbs (tCons (tVar 0) (tNil))) (tOp FW.rPow (tC (.int 10)) (tC (.int 18))))) (tRet (tVar 0)) (tNext)) (tRet (tOp FW.rAdd (tVar 0) (tOp FW.rMul (tC (.int 1000003)) (tVar 1))))
theorem pure_l_apart (K : PySem.W.Frag) (vs : List V) (H : Hp) (Q : VK) (E : XK) (h : sp_l_apart K vs H Q E) : rd_l_apart K { nx := fun _ H' => Q .non H', rt := Q } (start ["_law_cell", "_law_k"] vs) H := by
  obtain ⟨c, k, rfl, hk, hk1, q⟩ := h
  unfold rd_l_apart
  walk_at "rd"
  · refine e_ite (fun h => ?_) (fun h => ?_)
    · walk_at "rd"
      exact q _
    · walk_at "rd"
      · exact q _
      · exact wide_mul (a := 20) (b := 40) (by decide) (by omega) (by decide) (by decide) (by decide)
  · exact ⟨by decide, by decide, by decide⟩
/-- a row: numbers from 0 to 999 -/
def Row (xs : List Int) (n : Nat) : Prop := xs.length = n ∧ ∀ x ∈ xs, 0 ≤ x ∧ x < 1000
def sp_l_row (K : PySem.W.Frag) : Sp := fun vs H Q _ => ∃ (c : Int) (m : Nat), vs = [.int c, .int (m : Int)] ∧ m < 1000 ∧ ∀ (L : Addr) (xs : List Int) (H' : Hp), H L = none → Ext H H' → H' L = some (.lst (xs.map V.int)) → Row xs m → Q (.ref L) H'
def rd_l_row_L1 (K : PySem.W.Frag) : TS := tSeq (tDrop (tBM K "list" rAppend (tVar 3) (tCons (tOp FW.rMod (tCB FW.rInt1 (tCons (tIf (tTest (tOp FW.rGt (tVar 2) (tC (.int 0)))) (tVar 2) (tCall (sp_l_mixed K) [] E0 (tCons (tVar 0) (tCons (tVar 4) (tNil))))) (tNil))) (tC (.int 1000))) (tNil)))) (tAsg (tOp FW.rDiv (tVar 2) (tC (.int 1000))) (gName 2))
def rd_l_row (K : PySem.W.Frag) : TS := tSeq (tAsg (tIf (tTest (tOp FW.rGe (tCB FW.rAbs (tCons (tVar 0) (tNil))) (tOp FW.rPow (tC (.int 10)) (tC (.int 18))))) (tCB FW.rAbs (tCons (tVar 0) (tNil))) (tC (.int 0))) (gName 2)) (tSeq (tAsg (tLst (tNil)) (gName 3)) (tSeq (tFor (iRng1 (tCons (tVar 1) (tNil))) (gName 4) (rd_l_row_L1 K)) (tRet (tVar 3))))
theorem pure_l_row (K : PySem.W.Frag) (vs : List V) (H : Hp) (Q : VK) (E : XK) (h : sp_l_row K vs H Q E) : rd_l_row K { nx := fun _ H' => Q .non H', rt := Q } (start ["_law_cell", "_law_many", "_law_left", "_law_row_here", "_law_k"] vs) H := by
  obtain ⟨c, m, rfl, hm, q⟩ := h
  have main : ∀ left : Int, 0 ≤ left → (tSeq (tAsg (tLst (tNil)) (gName 3)) (tSeq (tFor (iRng1 (tCons (tVar 1) (tNil))) (gName 4) (rd_l_row_L1 K)) (tRet (tVar 3)))) { nx := fun _ H' => Q .non H', rt := Q } [some (.int c), some (.int (m : Int)), some (.int left), none, none] H := by
    intro left hleft
    walk_at "rd"
    refine ⟨by show 0 ≤ sizeLine; decide, fun L hL => ?_⟩
    walk_at "rd"
    · refine for_range (lo := 0) (n := (m : Int).toNat) (fun i σ H' => Ext H H' ∧ ∃ (left : Int) (xs : List Int) (v : Option V), 0 ≤ left ∧ H' L = some (.lst (xs.map V.int)) ∧ Row xs i ∧ σ = [some (.int c), some (.int (m : Int)), some (.int left), some (.ref L), v]) ⟨Ext.new hL, left, [], _, hleft, upd_same, ⟨rfl, by simp⟩, rfl⟩ ?_ ?_
      · rintro i σ H' hi ⟨e, left, xs, v, hl, hx, hr, rfl⟩
        have fin : ∀ y : Int, 0 ≤ y → y < 1000 → rAppend (.ref L) [.int y] H' fun _ H1 => (tAsg (tOp FW.rDiv (tVar 2) (tC (.int 1000))) (gName 2)) { nx := fun σ H' => Ext H H' ∧ ∃ (left : Int) (xs : List Int) (v : Option V), 0 ≤ left ∧ H' L = some (.lst (xs.map V.int)) ∧ Row xs (i + 1) ∧ σ = [some (.int c), some (.int (m : Int)), some (.int left), some (.ref L), v], ct := fun σ H' => Ext H H' ∧ ∃ (left : Int) (xs : List Int) (v : Option V), 0 ≤ left ∧ H' L = some (.lst (xs.map V.int)) ∧ Row xs (i + 1) ∧ σ = [some (.int c), some (.int (m : Int)), some (.int left), some (.ref L), v], bk := fun σ' H' => tRet (tVar 3) { nx := fun _ H' => Q .non H', rt := Q } σ' H', rt := Q } [some (.int c), some (.int (m : Int)), some (.int left), some (.ref L), some (.int (0 + (i : Int)))] H1 := by
          intro y y0 y1
          refine ⟨L, _, _, rfl, rfl, hx, ?_, ?_⟩
          · rw [List.length_map, hr.1]; show _ < 2 ^ 24; omega
          walk_at "rd"
          · refine ⟨e.upds hL, left / 1000, xs ++ [y], _, by omega, by rw [upd_same, List.map_append]; rfl, ⟨by simp [hr.1], fun x hx' => ?_⟩, rfl⟩
            rcases List.mem_append.mp hx' with h | h
            · exact hr.2 x h
            · rw [List.mem_singleton.mp h]; exact ⟨y0, y1⟩
          · exact ⟨by decide, by decide⟩
        walk_at "re"
        unfold rd_l_row_L1
        walk_at "rd"
        refine ⟨Or.inl ⟨rfl, _, SqL.of hx⟩, ?_⟩
        walk_at "rd"
        refine e_ite (fun h => ?_) (fun h => ?_)
        · walk_at "re"
          · exact fin _ (Int.emod_nonneg _ (by decide)) (Int.emod_lt_of_pos _ (by decide))
          · decide
        · walk_at "re"
          refine ⟨c, 0 + (i : Int), rfl, by omega, by omega, fun w hw => ?_⟩
          walk_at "re"
          · exact fin _ (Int.emod_nonneg _ (by decide)) (Int.emod_lt_of_pos _ (by decide))
          · decide
      · rintro σ H' ⟨e, left, xs, v, hl, hx, hr, rfl⟩
        walk_at "rd"
        exact q L xs H' hL e hx (by simpa using hr)
    · omega
  unfold rd_l_row
  walk_at "rd"
  · refine e_ite (fun h => ?_) (fun h => ?_)
    · walk_at "re"
      refine main (if c < 0 then -c else c) (by split <;> omega)
    · walk_at "re"
      exact main 0 (by decide)
  · exact ⟨by decide, by decide, by decide⟩
theorem row_at {xs : List Int} {n : Nat} {i : Int} (h : Row xs n) (h0 : 0 ≤ i) (h1 : i < n) : ∃ x, 0 ≤ x ∧ x < 1000 ∧ atI (xs.map V.int) i = some (.int x) := by
  obtain ⟨k, rfl⟩ := Int.eq_ofNat_of_zero_le h0
  have hk : k < xs.length := by rw [h.1]; omega
  obtain ⟨a, b⟩ := h.2 xs[k] (List.getElem_mem _)
  exact ⟨xs[k], a, b, at_int hk⟩
def sp_l_great (K : PySem.W.Frag) : Sp := fun vs H Q _ => ∃ (L : Addr) (xs : List Int) (n : Nat) (a m : Int), vs = [.ref L, .int a, .int m] ∧ H L = some (.lst (xs.map V.int)) ∧ Row xs n ∧ 0 ≤ a ∧ 0 ≤ m ∧ m ≤ 100 ∧ a + m ≤ n ∧ ∀ v : Int, 0 ≤ v → v < 1000 ^ m.toNat → Q (.int v) H
def rd_l_great_L1 (K : PySem.W.Frag) : TS := tAsg (tOp FW.rAdd (tOp FW.rMul (tC (.int 1000)) (tVar 3)) (tCB FW.rInt1 (tCons (tOp (rIxL K) (tVar 0) (tOp FW.rAdd (tVar 1) (tVar 4))) (tNil)))) (gName 3)
def rd_l_great (K : PySem.W.Frag) : TS := tSeq (tAsg (tC (.int 0)) (gName 3)) (tSeq (tFor (iRng1 (tCons (tVar 2) (tNil))) (gName 4) (rd_l_great_L1 K)) (tRet (tVar 3)))
theorem pure_l_great (K : PySem.W.Frag) (vs : List V) (H : Hp) (Q : VK) (E : XK) (h : sp_l_great K vs H Q E) : rd_l_great K { nx := fun _ H' => Q .non H', rt := Q } (start ["_law_row_here", "_law_at", "_law_many", "_law_found", "_law_k"] vs) H := by
  obtain ⟨L, xs, n, a, m, rfl, hL, hr, ha, hm, hm1, ham, q⟩ := h
  unfold rd_l_great
  walk_at "rd"
  · refine for_range (lo := 0) (n := m.toNat) (fun i σ H' => H' = H ∧ ∃ (f : Int) (v : Option V), 0 ≤ f ∧ f < 1000 ^ i ∧ σ = [some (.ref L), some (.int a), some (.int m), some (.int f), v]) ⟨rfl, 0, _, by decide, by decide, rfl⟩ ?_ ?_
    · rintro i σ H' hi ⟨rfl, f, v, f0, f1, rfl⟩
      obtain ⟨x, x0, x1, hx⟩ := row_at (i := a + (0 + (i : Int))) hr (by omega) (by omega)
      have hp : (1000 : Int) ^ (i + 1) = 1000 ^ i * 1000 := Int.pow_succ ..
      walk_at "re"
      unfold rd_l_great_L1
      walk_at "rd"
      · refine e_ixL ?_ (SqL.of hL) hx
        walk_at "rd"
        refine ⟨rfl, 1000 * f + x, _, by omega, ?_, rfl⟩
        rw [hp]; omega
      · refine wide_mul (a := 10) (b := 1001) (by decide) ?_ (by decide) (by decide) (by decide)
        exact (Sz.of_le f0 (by omega : f ≤ 1000 ^ i) (Sz.pow (b := 10) (by decide) (by decide) i)).mono (by omega)
    · rintro σ H' ⟨rfl, f, v, f0, f1, rfl⟩
      walk_at "rd"
      exact q f f0 f1
  · omega
theorem e_max1 {K : PySem.W.Frag} {H : Hp} {Q : VK} {a : Addr} {i j : Int} (k : ∀ m, (m = i ∨ m = j) → i ≤ m → j ≤ m → Q (.int m) H) (h : H a = some (.lst [.int i, .int j])) : rMax K [.ref a] H Q :=
  ⟨a, [i, j], rfl, SqL.of h, by show 0 < 2; decide, fun m hm hy => k m (by simpa using hm) (hy i (by simp)) (hy j (by simp))⟩
theorem e_min1 {K : PySem.W.Frag} {H : Hp} {Q : VK} {a : Addr} {i j : Int} (k : ∀ m, (m = i ∨ m = j) → m ≤ i → m ≤ j → Q (.int m) H) (h : H a = some (.lst [.int i, .int j])) : rMin K [.ref a] H Q :=
  ⟨a, [i, j], rfl, SqL.of h, by show 0 < 2; decide, fun m hm hy => k m (by simpa using hm) (hy i (by simp)) (hy j (by simp))⟩
end FWL
namespace FWL
open PySem PySem.Spec PyProof.Rows L2 FW
/-! ### sign, bits -/
def sgn (i : Int) : Int := (if i > 0 then 1 else 0) - (if i < 0 then 1 else 0)
def sp_sign (K : PySem.W.Frag) : Sp := fun vs H Q _ => ∃ i : Int, vs = [.int i] ∧ Q (.int (sgn i)) H
def rd_sign (K : PySem.W.Frag) : TS := tRet (tOp FW.rSub (tCB FW.rInt1 (tCons (tOp FW.rGt (tVar 0) (tC (.int 0))) (tNil))) (tCB FW.rInt1 (tCons (tOp FW.rLt (tVar 0) (tC (.int 0))) (tNil))))
theorem ite_dec (p : Prop) [Decidable p] : (if decide p = true then (1 : Int) else 0) = if p then 1 else 0 := by
  by_cases h : p <;> simp [h]
theorem pure_sign (K : PySem.W.Frag) (vs : List V) (H : Hp) (Q : VK) (E : XK) (h : sp_sign K vs H Q E) : rd_sign K { nx := fun _ H' => Q .non H', rt := Q } (start ["number"] vs) H := by
  obtain ⟨i, rfl, q⟩ := h
  unfold rd_sign
  walk_at "rd"
  rw [ite_dec, ite_dec]
  exact q
theorem two_pow_pos (n : Nat) : (1 : Int) ≤ 2 ^ n := pow_pos' (by decide) n
theorem shr_pos {n : Int} {j : Nat} : (0 < n / 2 ^ j) ↔ 2 ^ j ≤ n := by
  have := two_pow_pos j
  constructor
  · intro h
    have h1 : (1 : Int) ≤ n / 2 ^ j := h
    rw [Int.le_ediv_iff_mul_le (by omega)] at h1
    omega
  · intro h
    have : (1 : Int) ≤ n / 2 ^ j := by
      rw [Int.le_ediv_iff_mul_le (by omega)]
      omega
    omega
theorem pow_le_right {x : Int} (hx : 1 ≤ x) {a b : Nat} (h : a ≤ b) : x ^ a ≤ x ^ b := by
  obtain ⟨c, rfl⟩ := Nat.le.dest h
  rw [Int.pow_add]
  have h1 := pow_pos' hx a
  have h2 := pow_pos' hx c
  have : x ^ a * 1 ≤ x ^ a * x ^ c := Int.mul_le_mul_of_nonneg_left h2 (by omega)
  omega
theorem two_le_inv {a b : Nat} (h : (2 : Int) ^ a < 2 ^ b) : a < b := by
  rcases Nat.lt_or_ge a b with h1 | h1
  · exact h1
  · have : (2 : Int) ^ b ≤ 2 ^ a := pow_le_right (by decide) h1
    omega
def sp_bits (K : PySem.W.Frag) : Sp := fun vs H Q _ => ∃ n : Int, vs = [.int n] ∧ 0 ≤ n ∧ Sz 2000 n ∧ ∀ (b : Nat) H', n < 2 ^ b → (b = 0 ∨ 2 ^ (b - 1) ≤ n) → Ext H H' → Q (.int (b : Int)) H'
def rd_bits_L1 (K : PySem.W.Frag) : TS := tAug 2 (tC (.int 2)) FW.iMul
def rd_bits_L2 (K : PySem.W.Frag) : TS := tSeq (tAsg (tOp FW.rDiv (tOp FW.rAdd (tVar 1) (tVar 2)) (tC (.int 2))) (gName 3)) (tIfS (tTest (tOp FW.rGt (tOp FW.rShr (tVar 0) (tVar 3)) (tC (.int 0)))) (tAsg (tOp FW.rAdd (tVar 3) (tC (.int 1))) (gName 1)) (tAsg (tVar 3) (gName 2)))
def rd_bits (K : PySem.W.Frag) : TS := tSeq (tAsg (tTup (tCons (tC (.int 0)) (tCons (tC (.int 1)) (tNil)))) (gTup K 2 (gCons (gName 1) (gCons (gName 2) (gNil))))) (tSeq (tWhile (tTest (tOp FW.rGt (tOp FW.rShr (tVar 0) (tVar 2)) (tC (.int 0)))) (rd_bits_L1 K)) (tSeq (tWhile (tTest (tOp FW.rLt (tVar 1) (tVar 2))) (rd_bits_L2 K)) (tRet (tVar 1))))
theorem pure_bits (K : PySem.W.Frag) (vs : List V) (H : Hp) (Q : VK) (E : XK) (h : sp_bits K vs H Q E) : rd_bits K { nx := fun _ H' => Q .non H', rt := Q } (start ["n", "low", "high", "middle"] vs) H := by
  obtain ⟨n, rfl, hn, hs, q⟩ := h
  have hnb : n < 2 ^ 2000 := by
    have : n.natAbs < 2 ^ 2000 := hs
    have e : ((2 ^ 2000 : Nat) : Int) = 2 ^ 2000 := by rw [Int.natCast_pow]; rfl
    omega
  unfold rd_bits
  walk_at "rd"
  refine ⟨by show 2 ≤ sizeLine; decide, fun q1 hq1 => ?_⟩
  refine g_tup ?_ (SqT.of upd_same) rfl
  have eE := Ext.new (o := .tup [V.int 0, V.int 1]) hq1
  generalize upd H q1 (.tup [V.int 0, V.int 1]) = H at *
  walk_at "rd"
  refine s_while (fun m σ H' => H' = H ∧ ∃ (j : Nat) (v : Option V), 1 ≤ j ∧ j ≤ 4000 ∧ m = 4000 - j ∧ σ = [some (.int n), some (.int 0), some (.int (j : Int)), v]) _ ⟨rfl, 1, none, by decide, by decide, rfl, rfl⟩ ?_
  rintro m σ H' ⟨rfl, j, v, j1, j2, rfl, rfl⟩
  walk_at "rd"
  · rw [Int.toNat_natCast]
    refine e_ite (fun hgo => ?_) (fun hno => ?_)
    · have hle : (2 : Int) ^ j ≤ n := shr_pos.mp hgo
      have hj : j < 2000 := two_le_inv (by omega)
      refine ⟨fun σ' H'' => H'' = H' ∧ ∃ (j' : Nat) (v : Option V), 1 ≤ j' ∧ j' ≤ 4000 ∧ j < j' ∧ σ' = [some (.int n), some (.int 0), some (.int (j' : Int)), v], fun σ' H'' h => ?_, ?_⟩
      · obtain ⟨h1, j', v', a1, a2, a3, a4⟩ := h
        exact ⟨4000 - j', by omega, h1, j', v', a1, a2, rfl, a4⟩
      unfold rd_bits_L1
      walk_at "rd"
      · refine ⟨rfl, 2 * j, v, by omega, by omega, by omega, ?_⟩
        rw [show ((j : Int) * 2) = ((2 * j : Nat) : Int) by omega]; rfl
      · exact wide_mul (a := 20) (b := 10) (by omega) (by decide) (by decide) (by decide) (by decide)
    · have hlt : n < 2 ^ j := by
        rcases Int.lt_or_le n (2 ^ j) with h | h
        · exact h
        · exact absurd (shr_pos.mpr h) hno
      walk_at "rd"
      refine s_while (fun m σ H'' => H'' = H' ∧ ∃ (lo hi : Nat) (v : Option V), lo ≤ hi ∧ hi ≤ 4000 ∧ n < 2 ^ hi ∧ (lo = 0 ∨ 2 ^ (lo - 1) ≤ n) ∧ m = hi - lo ∧ σ = [some (.int n), some (.int (lo : Int)), some (.int (hi : Int)), v]) _ ⟨rfl, 0, j, v, by omega, by omega, hlt, .inl rfl, rfl, rfl⟩ ?_
      rintro m σ H'' ⟨rfl, lo, hi, v, l1, l2, p1, p2, rfl, rfl⟩
      walk_at "rd"
      refine e_ite (fun hgo => ?_) (fun hno => ?_)
      · refine ⟨fun σ' H2 => H2 = H'' ∧ ∃ (lo' hi' : Nat) (v : Option V), lo' ≤ hi' ∧ hi' ≤ 4000 ∧ n < 2 ^ hi' ∧ (lo' = 0 ∨ 2 ^ (lo' - 1) ≤ n) ∧ hi' - lo' < hi - lo ∧ σ' = [some (.int n), some (.int (lo' : Int)), some (.int (hi' : Int)), v], fun σ' H2 h => ?_, ?_⟩
        · obtain ⟨h1, lo', hi', v', a1, a2, a3, a4, a5, a6⟩ := h
          exact ⟨_, a5, h1, lo', hi', v', a1, a2, a3, a4, rfl, a6⟩
        unfold rd_bits_L2
        walk_at "rd"
        · have em : ((lo : Int) + (hi : Int)) / 2 = (((lo + hi) / 2 : Nat) : Int) := by omega
          rw [em, Int.toNat_natCast]
          refine e_ite (fun hg => ?_) (fun hg => ?_)
          · have hle := shr_pos.mp hg
            walk_at "rd"
            refine ⟨rfl, (lo + hi) / 2 + 1, hi, some (.int (((lo + hi) / 2 : Nat) : Int)), by omega, l2, p1, .inr ?_, by omega, ?_⟩
            · rw [Nat.add_sub_cancel]; exact hle
            · rw [show ((((lo + hi) / 2 : Nat) : Int) + 1) = (((lo + hi) / 2 + 1 : Nat) : Int) by omega]; rfl
          · have hlt' : n < 2 ^ ((lo + hi) / 2) := by
              rcases Int.lt_or_le n (2 ^ ((lo + hi) / 2)) with h | h
              · exact h
              · exact absurd (shr_pos.mpr h) hg
            walk_at "rd"
            exact ⟨rfl, lo, (lo + hi) / 2, _, by omega, by omega, hlt', p2, by omega, rfl⟩
        · omega
        · exact ⟨by decide, by decide⟩
      · walk_at "rd"
        have : lo = hi := by omega
        subst this
        exact q lo _ p1 p2 eE
  · omega
/-! ### the whole root, by Newton's steps -/
theorem conv (g r : Int) (hg : 0 ≤ g) (hr : 0 ≤ r) : ∀ k : Nat, g ^ (k + 1) + (k + 1 : Int) * g ^ k * (r - g) ≤ r ^ (k + 1)
  | 0 => by
    have e1 : g ^ (0 + 1) = g := by rw [Int.pow_succ, Int.pow_zero, Int.one_mul]
    have e2 : r ^ (0 + 1) = r := by rw [Int.pow_succ, Int.pow_zero, Int.one_mul]
    rw [e1, e2, Int.pow_zero]; simp; omega
  | k + 1 => by
    have ih := conv g r hg hr k
    have h1 : r * (g ^ (k + 1) + (k + 1 : Int) * g ^ k * (r - g)) ≤ r * r ^ (k + 1) := Int.mul_le_mul_of_nonneg_left ih hr
    have h2 : 0 ≤ (k + 1 : Int) * g ^ k * ((r - g) * (r - g)) := by
      have a1 : 0 ≤ g ^ k := Int.pow_nonneg hg
      have a2 : 0 ≤ (r - g) * (r - g) := by
        rcases Int.le_total 0 (r - g) with h | h
        · exact Int.mul_nonneg h h
        · exact Int.mul_nonneg_of_nonpos_of_nonpos h h
      exact Int.mul_nonneg (Int.mul_nonneg (by omega) a1) a2
    have e1 : r ^ (k + 1 + 1) = r * r ^ (k + 1) := by rw [Int.pow_succ, Int.mul_comm]
    have e2 : g ^ (k + 1 + 1) = g * g * g ^ k := by rw [Int.pow_succ, Int.pow_succ]; grind
    have e3 : g ^ (k + 1) = g * g ^ k := by rw [Int.pow_succ, Int.mul_comm]
    rw [e1]
    have e4 : g ^ (k + 1 + 1) + ((k + 1 : Nat) + 1 : Int) * g ^ (k + 1) * (r - g) = r * (g ^ (k + 1) + (k + 1 : Int) * g ^ k * (r - g)) - (k + 1 : Int) * g ^ k * ((r - g) * (r - g)) := by
      rw [e2, e3]; push_cast; grind
    rw [e4]
    omega
/-- a step of Newton's leads to no guess below the root -/
theorem newton_ge {n g r : Int} {k : Nat} (hg : 1 ≤ g) (hr : 0 ≤ r) (hn : r ^ (k + 1) ≤ n) : r ≤ ((k : Int) * g + n / g ^ k) / (k + 1) := by
  have hp : 1 ≤ g ^ k := pow_pos' hg k
  rw [Int.le_ediv_iff_mul_le (by omega)]
  have h := conv g r (by omega) hr k
  have hq : (k + 1 : Int) * (r - g) + g ≤ n / g ^ k := by
    rw [Int.le_ediv_iff_mul_le (by omega)]
    have e : ((k + 1 : Int) * (r - g) + g) * g ^ k = g ^ (k + 1) + (k + 1 : Int) * g ^ k * (r - g) := by rw [Int.pow_succ]; grind
    rw [e]; omega
  have e : r * (k + 1 : Int) = (k : Int) * g + ((k + 1 : Int) * (r - g) + g) := by grind
  rw [e]; omega
theorem newton_stop {n g : Int} {k : Nat} (hg : 1 ≤ g) (h : g ≤ ((k : Int) * g + n / g ^ k) / (k + 1)) : g ^ (k + 1) ≤ n := by
  have hp : 1 ≤ g ^ k := pow_pos' hg k
  rw [Int.le_ediv_iff_mul_le (by omega)] at h
  have e : g * (k + 1 : Int) = (k : Int) * g + g := by grind
  rw [e] at h
  have hq : g ≤ n / g ^ k := by omega
  rw [Int.le_ediv_iff_mul_le (by omega)] at hq
  rw [Int.pow_succ, Int.mul_comm]; exact hq
theorem root_exists (n : Int) (hn : 0 ≤ n) (k : Nat) : ∃ r : Int, 0 ≤ r ∧ r ^ (k + 1) ≤ n ∧ n < (r + 1) ^ (k + 1) := by
  have key : ∀ m : Nat, (∃ r : Int, 0 ≤ r ∧ r ^ (k + 1) ≤ n ∧ n < (r + 1) ^ (k + 1)) ∨ ((m : Int) ^ (k + 1) ≤ n) := by
    intro m
    induction m with
    | zero =>
      refine .inr ?_
      show (0 : Int) ^ (k + 1) ≤ n
      rw [Int.zero_pow (by omega)]; exact hn
    | succ m ih =>
      rcases ih with h | h
      · exact .inl h
      · rcases Int.lt_or_le n (((m : Int) + 1) ^ (k + 1)) with h1 | h1
        · exact .inl ⟨m, by omega, h, h1⟩
        · exact .inr (by push_cast; exact h1)
  rcases key (n.toNat + 1) with h | h
  · exact h
  · have := pow_ge_self (x := ((n.toNat + 1 : Nat) : Int)) (by omega) (k + 1) (by omega)
    omega
theorem root_unique {n r s : Int} {k : Nat} (hr : 0 ≤ r) (hs : 0 ≤ s) (r1 : r ^ k ≤ n) (r2 : n < (r + 1) ^ k) (s1 : s ^ k ≤ n) (s2 : n < (s + 1) ^ k) : r = s := by
  have h1 := pow_lt_inv (x := r) (y := s + 1) (n := k) (by omega) (by omega) hr
  have h2 := pow_lt_inv (x := s) (y := r + 1) (n := k) (by omega) (by omega) hs
  omega
def sp_whole_root (K : PySem.W.Frag) : Sp := fun vs H Q _ => ∃ n k : Int, vs = [.int n, .int k] ∧ 0 ≤ n ∧ 1 ≤ k ∧ k ≤ 64 ∧ Sz 2000 n ∧ ∀ (r : Int) H', 0 ≤ r → r ^ k.toNat ≤ n → n < (r + 1) ^ k.toNat → Ext H H' → Q (.int r) H'
def rd_whole_root_L1 (K : PySem.W.Frag) : TS := tSeq (tAsg (tVar 3) (gName 2)) (tAsg (tOp FW.rDiv (tOp FW.rAdd (tOp FW.rMul (tOp FW.rSub (tVar 1) (tC (.int 1))) (tVar 2)) (tOp FW.rDiv (tVar 0) (tCall (sp_power K) [] E0 (tCons (tVar 2) (tCons (tOp FW.rSub (tVar 1) (tC (.int 1))) (tNil)))))) (tVar 1)) (gName 3))
def rd_whole_root (K : PySem.W.Frag) : TS := tSeq (tIfS (tOr (tTest (tOp rEq (tVar 0) (tC (.int 0)))) (tTest (tOp rEq (tVar 1) (tC (.int 1))))) (tRet (tVar 0)) (tNext)) (tSeq (tAsg (tOp FW.rShl (tC (.int 1)) (tOp FW.rDiv (tOp FW.rSub (tOp FW.rAdd (tCall (sp_bits K) [] E0 (tCons (tVar 0) (tNil))) (tVar 1)) (tC (.int 1))) (tVar 1))) (gName 2)) (tSeq (tAsg (tOp FW.rDiv (tOp FW.rAdd (tOp FW.rMul (tOp FW.rSub (tVar 1) (tC (.int 1))) (tVar 2)) (tOp FW.rDiv (tVar 0) (tCall (sp_power K) [] E0 (tCons (tVar 2) (tCons (tOp FW.rSub (tVar 1) (tC (.int 1))) (tNil)))))) (tVar 1)) (gName 3)) (tSeq (tWhile (tTest (tOp FW.rLt (tVar 3) (tVar 2))) (rd_whole_root_L1 K)) (tRet (tVar 2)))))
theorem ceil_pow {n : Int} {b k : Nat} (hk : 1 ≤ k) (h : n < 2 ^ b) : n < (2 ^ ((b + k - 1) / k)) ^ k := by
  rw [← Int.pow_mul]
  refine Int.lt_of_lt_of_le h (pow_le_right (by decide) ?_)
  have h1 := Nat.div_add_mod (b + k - 1) k
  have h2 := Nat.mod_lt (b + k - 1) hk
  rw [Nat.mul_comm]
  omega
theorem pure_whole_root (K : PySem.W.Frag) (vs : List V) (H : Hp) (Q : VK) (E : XK) (h : sp_whole_root K vs H Q E) : rd_whole_root K { nx := fun _ H' => Q .non H', rt := Q } (start ["n", "k", "guess", "below"] vs) H := by
  obtain ⟨n, k, rfl, hn, hk1, hk64, hs, q⟩ := h
  have hd1 : decide (V.int n = V.int 0) = decide (n = 0) := decide_eq_decide.mpr ⟨fun z => by injection z, fun z => by rw [z]⟩
  have hd2 : decide (V.int k = V.int 1) = decide (k = 1) := decide_eq_decide.mpr ⟨fun z => by injection z, fun z => by rw [z]⟩
  unfold rd_whole_root
  walk_at "rd"
  rw [hd1]
  refine e_ite (fun h0 => ?_) (fun h0 => ?_)
  · walk_at "rd"
    subst h0
    refine q 0 H (by decide) ?_ ?_ Ext.rfl'
    · rw [Int.zero_pow (by omega)]; decide
    · show (0 : Int) < (0 + 1) ^ k.toNat
      rw [show (0 : Int) + 1 = 1 by decide, Int.one_pow]; decide
  walk_at "rd"
  rw [hd2]
  refine e_ite (fun h1 => ?_) (fun h1 => ?_)
  · walk_at "rd"
    subst h1
    refine q n H hn ?_ ?_ Ext.rfl'
    · show n ^ 1 ≤ n
      rw [Int.pow_succ, Int.pow_zero, Int.one_mul]; exact Int.le_refl _
    · show n < (n + 1) ^ 1
      rw [Int.pow_succ, Int.pow_zero, Int.one_mul]; omega
  obtain ⟨j, rfl⟩ : ∃ j : Nat, k = (j : Int) + 1 := ⟨(k - 1).toNat, by omega⟩
  have hj1 : 1 ≤ j := by omega
  have hj64 : j ≤ 63 := by omega
  have hkn : ((j : Int) + 1).toNat = j + 1 := by omega
  rw [hkn] at q
  have e1 : ((j : Int) + 1 - 1) = (j : Int) := by omega
  obtain ⟨r, r0, rle, rlt⟩ := root_exists n hn j
  walk_at "rd"
  refine ⟨n, rfl, hn, hs, fun b H1 hb hb2 eb => ?_⟩
  · have hbn : b ≤ 2000 := by
      rcases hb2 with rfl | hb2
      · decide
      · have hnb : n < 2 ^ 2000 := by
          have : n.natAbs < 2 ^ 2000 := hs
          have e : ((2 ^ 2000 : Nat) : Int) = 2 ^ 2000 := by rw [Int.natCast_pow]; rfl
          omega
        have := two_le_inv (a := b - 1) (b := 2000) (by omega)
        omega
    have ec : (((b : Int) + ((j : Int) + 1) - 1) / ((j : Int) + 1)) = (((b + (j + 1) - 1) / (j + 1) : Nat) : Int) := by
      rw [Int.natCast_ediv]; congr 1
      all_goals omega
    have hcp := ceil_pow (k := j + 1) (by omega) hb
    have hck : (b + (j + 1) - 1) / (j + 1) * (j + 1) ≤ b + j := by
      have := Nat.div_mul_le_self (b + (j + 1) - 1) (j + 1)
      omega
    have hc1 : (b + (j + 1) - 1) / (j + 1) ≤ 2100 := by
      have : (b + (j + 1) - 1) / (j + 1) * 1 ≤ (b + (j + 1) - 1) / (j + 1) * (j + 1) := Nat.mul_le_mul_left _ (by omega)
      omega
    have hc2 : (b + (j + 1) - 1) / (j + 1) * j ≤ 2100 := by
      have : (b + (j + 1) - 1) / (j + 1) * j ≤ (b + (j + 1) - 1) / (j + 1) * (j + 1) := Nat.mul_le_mul_left _ (by omega)
      omega
    generalize (b + (j + 1) - 1) / (j + 1) = c at *
    have hGp : (1 : Int) ≤ 2 ^ c := two_pow_pos _
    have two_sz : ∀ x : Nat, x ≤ 2100 → Sz 2101 ((2 : Int) ^ x) := fun x hx => by
      show ((2 : Int) ^ x).natAbs < 2 ^ 2101
      rw [Int.natAbs_pow]
      exact Nat.pow_lt_pow_right (by decide) (by omega)
    have hGs := two_sz c hc1
    have hGj : Sz 2101 (((2 : Int) ^ c) ^ j) := by rw [← Int.pow_mul]; exact two_sz _ hc2
    obtain ⟨G, eG⟩ : ∃ G : Int, G = 2 ^ c := ⟨_, rfl⟩
    rw [← eG] at hGp hGs hGj hcp
    have hrG : r ≤ G := by
      have := pow_lt_inv (x := r) (y := G) (n := j + 1) (by omega) (by omega) r0
      omega
    have hr1 : 1 ≤ r := by
      rcases Int.lt_or_le r 1 with z | z
      · have : r = 0 := by omega
        subst this
        rw [show (0 : Int) + 1 = 1 by decide, Int.one_pow] at rlt
        omega
      · exact z
    have room : ((j : Int).toNat + 1) * 2101 ≤ 900000 := by
      have : (j : Int).toNat + 1 ≤ 64 := by omega
      have := Nat.mul_le_mul_right 2101 this
      omega
    have gpow : ∀ g : Int, 1 ≤ g → g ≤ G → 1 ≤ g ^ j ∧ Sz 2101 (g ^ j) := fun g g1 g2 => ⟨pow_pos' g1 j, Sz.of_le (by have := pow_pos' g1 j; omega) (pow_mono (by omega) g2 j) hGj⟩
    have gsz : ∀ g : Int, 1 ≤ g → g ≤ G → Sz 2101 g := fun g g1 g2 => Sz.of_le (by omega) g2 hGs
    have stepOk : ∀ (g : Int) (σ : L2.St) (H' : Hp) (R : VK), 1 ≤ g → g ≤ G → σ[0]? = some (some (.int n)) → σ[1]? = some (some (.int ((j : Int) + 1))) → σ[2]? = some (some (.int g)) → R (.int (((j : Int) * g + n / g ^ j) / ((j : Int) + 1))) H' →
        (tOp FW.rDiv (tOp FW.rAdd (tOp FW.rMul (tOp FW.rSub (tVar 1) (tC (.int 1))) (tVar 2)) (tOp FW.rDiv (tVar 0) (tCall (sp_power K) [] E0 (tCons (tVar 2) (tCons (tOp FW.rSub (tVar 1) (tC (.int 1))) (tNil)))))) (tVar 1)) σ H' R := by
      intro g σ H' R g1 g2 s0 s1 s2 hR
      obtain ⟨pg1, pg2⟩ := gpow g g1 g2
      refine e_op (e_op (e_op (e_op (e_var (e_c (e_I0 ?_)) s1))))
      refine e_var (e_I ?_ ?_) s2
      · refine e_op (e_var (e_call (e_cons (e_var (e_cons (e_op (e_var (e_c (e_I0 (e_nil ?_))) s1))) s2))) s0)
        rw [e1]
        refine ⟨g, (j : Int), 2101, rfl, by omega, gsz g g1 g2, by decide, room, ?_⟩
        rw [Int.toNat_natCast]
        refine e_I (e_I0 (e_var (e_I hR ?_) s1)) ?_
        · exact wide_div (b := 10) (by omega) (by show ((j : Int) + 1).natAbs < 1024; omega) (by decide) (by decide)
        · exact wide_div (b := 2101) (by omega) pg2 (by decide) (by decide)
      · rw [e1]
        exact wide_mul (a := 10) (b := 2101) (by show (j : Int).natAbs < 1024; omega) (gsz g g1 g2) (by decide) (by decide) (by decide)
    walk_at "re"
    · rw [ec, Int.toNat_natCast, Int.one_mul, ← eG]
      with_reducible refine s_seq ?_
      with_reducible refine s_asg ?_
      refine stepOk G _ _ _ hGp (Int.le_refl _) rfl rfl rfl ?_
      with_reducible refine s_seq ?_
      refine s_while (fun m σ H' => H' = H1 ∧ ∃ g : Int, r ≤ g ∧ g ≤ G ∧ m = g.toNat ∧ σ = [some (.int n), some (.int ((j : Int) + 1)), some (.int g), some (.int (((j : Int) * g + n / g ^ j) / ((j : Int) + 1)))]) _ ⟨rfl, G, hrG, Int.le_refl _, rfl, rfl⟩ ?_
      rintro m σ H' ⟨rfl, g, g1, g2, rfl, rfl⟩
      have hnew := newton_ge (n := n) (g := g) (r := r) (k := j) (by omega) r0 rle
      walk_at "rd"
      refine e_ite (fun hgo => ?_) (fun hno => ?_)
      · refine ⟨fun σ' H'' => H'' = H' ∧ ∃ g' : Int, r ≤ g' ∧ g' ≤ G ∧ g' < g ∧ σ' = [some (.int n), some (.int ((j : Int) + 1)), some (.int g'), some (.int (((j : Int) * g' + n / g' ^ j) / ((j : Int) + 1)))], fun σ' H'' h => ?_, ?_⟩
        · obtain ⟨h1, g', a1, a2, a3, a4⟩ := h
          exact ⟨g'.toNat, by omega, h1, g', a1, a2, rfl, a4⟩
        unfold rd_whole_root_L1
        with_reducible refine s_seq ?_
        with_reducible refine s_asg ?_
        refine e_var ?_ rfl
        with_reducible refine s_asg ?_
        refine stepOk _ _ _ _ (Int.le_trans hr1 hnew) (by omega) rfl rfl rfl ?_
        exact ⟨rfl, _, hnew, by omega, hgo, rfl⟩
      · have hst := newton_stop (n := n) (g := g) (k := j) (by omega) (by omega)
        have : g < r + 1 := pow_lt_inv (n := j + 1) (by omega) (by omega) (by omega)
        have e : g = r := by omega
        subst e
        walk_at "rd"
        exact q g _ r0 rle rlt eb
    · exact ⟨by omega, by omega, by decide⟩
    · exact ⟨by omega, by
        have : ((j : Int) + 1).natAbs.log2 ≤ ((j : Int) + 1).natAbs := Nat.log2_le_self _
        omega⟩
end FWL
namespace FWL
open PySem PySem.Spec PyProof.Rows L2 FW
/-! ### polynomials with whole coefficients: equal values, shifted, far out -/
theorem dvd_small {x : Int} {N : Int} (h : ∀ r, N ≤ r → ∃ y, x = r * y) : x = 0 := by
  have hr : N ≤ (if N ≤ x.natAbs + 1 then (x.natAbs : Int) + 1 else N) := by split <;> omega
  obtain ⟨y, hy⟩ := h _ hr
  generalize hR : (if N ≤ x.natAbs + 1 then (x.natAbs : Int) + 1 else N) = R at *
  have hR1 : (x.natAbs : Int) + 1 ≤ R := by rw [← hR]; split <;> omega
  rcases Int.lt_trichotomy y 0 with h0 | h0 | h0
  · have : R * y ≤ R * (-1) := Int.mul_le_mul_of_nonneg_left (by omega) (by omega)
    omega
  · rw [h0, Int.mul_zero] at hy; exact hy
  · have : R * 1 ≤ R * y := Int.mul_le_mul_of_nonneg_left (by omega) (by omega)
    omega
theorem pv_zero_all : ∀ (xs : List Int) (N : Int), (∀ r, N ≤ r → pvl xs r = 0) → ∀ c ∈ xs, c = 0
  | [], _, _ => fun c hc => by cases hc
  | x :: xs, N, h => by
    have hx : x = 0 := dvd_small (N := N) fun r hr => ⟨-pvl xs r, by have := h r hr; rw [pvl] at this; rw [Int.mul_neg]; omega⟩
    have ih := pv_zero_all xs (if 1 ≤ N then N else 1) fun r hr => by
      have hr1 : 1 ≤ r ∧ N ≤ r := by split at hr <;> omega
      have := h r hr1.2
      rw [pvl, hx, Int.zero_add] at this
      rcases Int.mul_eq_zero.mp this with z | z
      · omega
      · exact z
    intro c hc
    rcases List.mem_cons.mp hc with rfl | hc
    · exact hx
    · exact ih c hc
theorem pv_prefix : ∀ (cs ds : List Int) (N : Int), (∀ r, N ≤ r → pvl cs r = pvl ds r) → cs.getLast? ≠ some 0 → ∃ k, cs = ds.take k
  | [], ds, _, _, _ => ⟨0, by simp⟩
  | c :: cs, [], N, h, hl => by
    have z := pv_zero_all (c :: cs) N fun r hr => h r hr
    exfalso
    have hne : (c :: cs) ≠ [] := by simp
    have : (c :: cs).getLast? = some ((c :: cs).getLast hne) := by rw [List.getLast?_eq_some_getLast hne]
    rw [this, z _ (List.getLast_mem hne)] at hl
    exact hl rfl
  | c :: cs, d :: ds, N, h, hl => by
    have hcd : c - d = 0 := dvd_small (N := N) fun r hr => ⟨pvl ds r - pvl cs r, by have := h r hr; rw [pvl, pvl] at this; rw [Int.mul_sub]; omega⟩
    have hcd : c = d := by omega
    subst hcd
    obtain ⟨k, hk⟩ := pv_prefix cs ds (if 1 ≤ N then N else 1) (fun r hr => by
      have hr1 : 1 ≤ r ∧ N ≤ r := by split at hr <;> omega
      have := h r hr1.2
      rw [pvl, pvl] at this
      exact Int.eq_of_mul_eq_mul_left (by omega : r ≠ 0) (by omega)) (by
      cases cs with
      | nil => simp
      | cons x xs => rw [List.getLast?_cons_cons] at hl; exact hl)
    exact ⟨k + 1, by rw [List.take_succ_cons, ← hk]⟩
/-- the polynomial at r + 1, and that less the polynomial -/
def shiftL : List Int → List Int
  | [] => []
  | c :: cs => List.zipWith (· + ·) (c :: shiftL cs) (shiftL cs ++ [0])
theorem shiftL_len : ∀ ns : List Int, (shiftL ns).length = ns.length
  | [] => rfl
  | c :: cs => by
    have := shiftL_len cs
    simp only [shiftL, List.length_zipWith, List.length_cons, List.length_append, List.length_nil, this]; omega
theorem shiftL_pv : ∀ (ns : List Int) (r : Int), pvl (shiftL ns) r = pvl ns (r + 1)
  | [], r => rfl
  | c :: cs, r => by
    have ih := shiftL_pv cs r
    rw [shiftL, pv_zip _ _ (by simp), pv_append, pvl, pvl, ih]
    simp only [pvl]
    grind
theorem zip_sz {b : Nat} : ∀ {xs ys : List Int}, (∀ c ∈ xs, Sz b c) → (∀ c ∈ ys, Sz b c) → ∀ c ∈ List.zipWith (· + ·) xs ys, Sz (b + 1) c
  | [], _, _, _, c, h => by simp at h
  | _ :: _, [], _, _, c, h => by simp at h
  | x :: xs, y :: ys, hx, hy, c, h => by
    rw [List.zipWith_cons_cons] at h
    rcases List.mem_cons.mp h with rfl | h
    · exact (hx x List.mem_cons_self).add (hy y List.mem_cons_self)
    · exact zip_sz (fun c hc => hx c (List.mem_cons_of_mem _ hc)) (fun c hc => hy c (List.mem_cons_of_mem _ hc)) c h
theorem sz0 {b : Nat} : Sz b 0 := Nat.pow_pos (by decide)
theorem shiftL_sz {b : Nat} : ∀ {ns : List Int}, (∀ c ∈ ns, Sz b c) → ∀ c ∈ shiftL ns, Sz (b + ns.length) c
  | [], _, c, h => by cases h
  | x :: xs, hx, c, h => by
    have ih := shiftL_sz (fun c hc => hx c (List.mem_cons_of_mem _ hc))
    refine zip_sz (b := b + xs.length) ?_ ?_ c h
    · intro z hz
      rcases List.mem_cons.mp hz with rfl | hz
      · exact (hx _ List.mem_cons_self).mono (by omega)
      · exact ih z hz
    · intro z hz
      rcases List.mem_append.mp hz with hz | hz
      · exact ih z hz
      · simp only [List.mem_cons, List.not_mem_nil, or_false] at hz; subst hz; exact sz0
def diffL : List Int → List Int
  | [] => []
  | _ :: cs => List.zipWith (· + ·) (0 :: diffL cs) (shiftL cs)
theorem diffL_len : ∀ ns : List Int, (diffL ns).length = ns.length - 1
  | [] => rfl
  | c :: cs => by
    have := diffL_len cs
    simp only [diffL, List.length_zipWith, List.length_cons, shiftL_len, this]; omega
theorem diffL_pv : ∀ (ns : List Int) (r : Int), pvl (diffL ns) r = pvl ns (r + 1) - pvl ns r
  | [], r => by simp [diffL, pvl]
  | [c], r => by simp [diffL, pvl, shiftL]
  | c :: d :: cs, r => by
    have ih := diffL_pv (d :: cs) r
    rw [diffL, pv_zip _ _ (by rw [List.length_cons, diffL_len, shiftL_len]; simp), shiftL_pv]
    rw [pvl, ih]
    generalize hp : pvl (d :: cs) (r + 1) = p at *
    generalize hq : pvl (d :: cs) r = q at *
    rw [show pvl (c :: d :: cs) (r + 1) = c + (r + 1) * p from by rw [pvl, hp], show pvl (c :: d :: cs) r = c + r * q from by rw [pvl, hq]]
    grind
theorem diffL_sz {b : Nat} : ∀ {ns : List Int}, (∀ c ∈ ns, Sz b c) → ∀ c ∈ diffL ns, Sz (b + ns.length) c
  | [], _, c, h => by cases h
  | x :: xs, hx, c, h => by
    have ih := diffL_sz (fun c hc => hx c (List.mem_cons_of_mem _ hc))
    refine zip_sz (b := b + xs.length) ?_ (shiftL_sz fun c hc => hx c (List.mem_cons_of_mem _ hc)) c h
    intro z hz
    rcases List.mem_cons.mp hz with rfl | hz
    · exact sz0
    · exact ih z hz
/-- far out the last coefficient settles the sign -/
theorem pv_low {M r : Int} (hr : 2 ≤ r) : ∀ {xs : List Int}, (∀ c ∈ xs, c.natAbs ≤ M) → (r - 1) * (pvl xs r).natAbs ≤ M * (r ^ xs.length - 1)
  | [], _ => by simp [pvl]
  | x :: xs, h => by
    have ih := pv_low hr (fun c hc => h c (List.mem_cons_of_mem _ hc))
    have hx : (x.natAbs : Int) ≤ M := by exact_mod_cast h x List.mem_cons_self
    have h1 : ((pvl (x :: xs) r).natAbs : Int) ≤ x.natAbs + r * (pvl xs r).natAbs := by
      rw [pvl]
      have : ((x + r * pvl xs r).natAbs : Int) ≤ x.natAbs + (r * pvl xs r).natAbs := by omega
      have e : ((r * pvl xs r).natAbs : Int) = r * (pvl xs r).natAbs := by
        rw [Int.natAbs_mul]; push_cast; rw [show ((r.natAbs : Nat) : Int) = r by omega]
      omega
    generalize ((pvl (x :: xs) r).natAbs : Int) = A at *
    generalize ((pvl xs r).natAbs : Int) = B at *
    generalize ((x.natAbs : Nat) : Int) = C at *
    rw [List.length_cons, Int.pow_succ]
    generalize r ^ xs.length = P at *
    have h2 : (r - 1) * A ≤ (r - 1) * (C + r * B) := Int.mul_le_mul_of_nonneg_left h1 (by omega)
    have h3 : r * ((r - 1) * B) ≤ r * (M * (P - 1)) := Int.mul_le_mul_of_nonneg_left ih (by omega)
    have h4 : (r - 1) * C ≤ (r - 1) * M := Int.mul_le_mul_of_nonneg_left hx (by omega)
    have e1 : (r - 1) * (C + r * B) = (r - 1) * C + r * ((r - 1) * B) := by grind
    have e2 : M * (P * r - 1) = (r - 1) * M + r * (M * (P - 1)) := by grind
    omega
theorem sgn_pos {x : Int} (h : 0 < x) : sgn x = 1 := by unfold sgn; rw [if_pos h, if_neg (by omega)]; rfl
theorem sgn_neg {x : Int} (h : x < 0) : sgn x = -1 := by unfold sgn; rw [if_neg (by omega), if_pos h]; rfl
theorem sgn_zero : sgn 0 = 0 := by decide
theorem pv_far {xs : List Int} {l M r : Int} (hl : l ≠ 0) (h : ∀ c ∈ xs, c.natAbs ≤ M) (hM : M < l.natAbs * (r - 1)) (hr : 2 ≤ r) : sgn (pvl (xs ++ [l]) r) = sgn l := by
  have h1 := pv_low hr h
  rw [pv_append]
  have e : pvl [l] r = l := by simp [pvl]
  rw [e]
  have hP : 1 ≤ r ^ xs.length := Int.pow_pos (n := r) (m := xs.length) (by omega)
  have hM0 : 0 ≤ M ∨ xs = [] := by
    cases xs with
    | nil => exact .inr rfl
    | cons x xs => exact .inl (by have := h x List.mem_cons_self; omega)
  generalize r ^ xs.length = P at *
  generalize pvl xs r = A at *
  have key : (A.natAbs : Int) < P * l.natAbs := by
    have h2 : M * (P - 1) ≤ (l.natAbs * (r - 1)) * (P - 1) := Int.mul_le_mul_of_nonneg_right (by omega) (by omega)
    have h3 : (r - 1) * (A.natAbs : Int) < (r - 1) * (P * l.natAbs) := by
      have e3 : (l.natAbs * (r - 1)) * (P - 1) = (r - 1) * (P * l.natAbs) - (r - 1) * l.natAbs := by grind
      have : 0 < (r - 1) * (l.natAbs : Int) := Int.mul_pos (by omega) (by omega)
      omega
    exact Int.lt_of_mul_lt_mul_left h3 (by omega)
  rcases Int.lt_trichotomy l 0 with h0 | h0 | h0
  · have : P * l = -(P * l.natAbs) := by rw [show (l.natAbs : Int) = -l by omega, Int.mul_neg, Int.neg_neg]
    rw [sgn_neg h0, sgn_neg (by omega)]
  · exact absurd h0 hl
  · have : P * l = P * l.natAbs := by rw [show (l.natAbs : Int) = l by omega]
    rw [sgn_pos h0, sgn_pos (by omega)]

/-! ### where the sign changes -/
/-- f does not turn between b and e -/
def MonOn (f : Int → Int) (b e : Int) : Prop := (∀ x y, b ≤ x → x ≤ y → y ≤ e → f x ≤ f y) ∨ (∀ x y, b ≤ x → x ≤ y → y ≤ e → f y ≤ f x)
theorem mon_up {f : Int → Int} {b e : Int} (h : ∀ r, b ≤ r → r < e → f r ≤ f (r + 1)) : ∀ (n : Nat) (x : Int), b ≤ x → x + n ≤ e → f x ≤ f (x + n)
  | 0, x, _, _ => by simp
  | n + 1, x, hb, he => by
    have ih := mon_up h n x hb (by omega)
    have := h (x + n) (by omega) (by omega)
    have e1 : x + ((n + 1 : Nat) : Int) = x + n + 1 := by omega
    rw [e1]; omega
theorem mon_of_diff {f : Int → Int} {b e : Int} (h : (∀ r, b ≤ r → r < e → 0 ≤ f (r + 1) - f r) ∨ (∀ r, b ≤ r → r < e → f (r + 1) - f r ≤ 0)) : MonOn f b e := by
  rcases h with h | h
  · left
    intro x y hb hxy he
    have := mon_up (f := f) (b := b) (e := e) (fun r h1 h2 => by have := h r h1 h2; omega) (y - x).toNat x hb (by omega)
    rwa [show x + ((y - x).toNat : Int) = y by omega] at this
  · right
    intro x y hb hxy he
    have := mon_up (f := fun r => -f r) (b := b) (e := e) (fun r h1 h2 => by have := h r h1 h2; omega) (y - x).toNat x hb (by omega)
    rw [show x + ((y - x).toNat : Int) = y by omega] at this
    omega
theorem sgn_mono {x y : Int} (h : x ≤ y) : sgn x ≤ sgn y := by
  unfold sgn
  split <;> split <;> split <;> split <;> omega
/-- between two places of one sign there is no other sign -/
theorem MonOn.same {f : Int → Int} {b e x y z : Int} (m : MonOn f b e) (hb : b ≤ x) (hxy : x ≤ y) (hyz : y ≤ z) (hz : z ≤ e) (hs : sgn (f x) = sgn (f z)) : sgn (f y) = sgn (f x) := by
  rcases m with m | m
  · have h1 := sgn_mono (m x y hb hxy (by omega)); have h2 := sgn_mono (m y z (by omega) hyz hz); omega
  · have h1 := sgn_mono (m x y hb hxy (by omega)); have h2 := sgn_mono (m y z (by omega) hyz hz); omega
/-- L: the places behind a, up to e, at which the sign is another one than just ahead -/
structure ChgIn (f : Int → Int) (a e : Int) (L : List Int) : Prop where
  asc : L.Pairwise (· < ·)
  mem : ∀ r, r ∈ L ↔ (a < r ∧ r ≤ e ∧ sgn (f r) ≠ sgn (f (r - 1)))
theorem ChgIn.nil {f : Int → Int} {a : Int} : ChgIn f a a [] := ⟨.nil, fun r => ⟨fun h => (by cases h), fun h => absurd h.1 (by omega)⟩⟩
theorem ChgIn.snoc {f : Int → Int} {a b n : Int} {L : List Int} (h : ChgIn f a b L) (hab : a ≤ b) (hbn : b < n) (hs : ∀ r, b < r → r < n → sgn (f r) = sgn (f b)) (hn : sgn (f n) ≠ sgn (f b)) : ChgIn f a n (L ++ [n]) := by
  refine ⟨?_, fun r => ?_⟩
  · rw [List.pairwise_append]
    exact ⟨h.asc, .cons (fun _ z => by cases z) .nil, fun x hx y hy => by
      have := (h.mem x).mp hx
      simp only [List.mem_cons, List.not_mem_nil, or_false] at hy
      omega⟩
  · rw [List.mem_append, h.mem]
    simp only [List.mem_cons, List.not_mem_nil, or_false]
    have pre : ∀ r, b ≤ r → r < n → sgn (f r) = sgn (f b) := fun r h1 h2 => by
      rcases Int.lt_or_eq_of_le h1 with z | z
      · exact hs r z h2
      · rw [z]
    constructor
    · rintro (⟨h1, h2, h3⟩ | rfl)
      · exact ⟨h1, by omega, h3⟩
      · exact ⟨by omega, by omega, by rw [pre (r - 1) (by omega) (by omega)]; exact hn⟩
    · rintro ⟨h1, h2, h3⟩
      by_cases hr : r ≤ b
      · exact .inl ⟨h1, hr, h3⟩
      · by_cases hr2 : r = n
        · exact .inr hr2
        · exact absurd ((pre r (by omega) (by omega)).trans (pre (r - 1) (by omega) (by omega)).symm) h3
theorem ChgIn.stay {f : Int → Int} {a b e : Int} {L : List Int} (h : ChgIn f a b L) (hbe : b ≤ e) (hs : ∀ r, b < r → r ≤ e → sgn (f r) = sgn (f b)) : ChgIn f a e L := by
  refine ⟨h.asc, fun r => ?_⟩
  rw [h.mem]
  have pre : ∀ r, b ≤ r → r ≤ e → sgn (f r) = sgn (f b) := fun r h1 h2 => by
    rcases Int.lt_or_eq_of_le h1 with z | z
    · exact hs r z h2
    · rw [z]
  constructor
  · rintro ⟨h1, h2, h3⟩; exact ⟨h1, by omega, h3⟩
  · rintro ⟨h1, h2, h3⟩
    by_cases hr : r ≤ b
    · exact ⟨h1, hr, h3⟩
    · exact absurd ((pre r (by omega) h2).trans (pre (r - 1) (by omega) (by omega)).symm) h3
/-- .. behind a, all of them -/
structure Chg (f : Int → Int) (a : Int) (L : List Int) : Prop where
  asc : L.Pairwise (· < ·)
  mem : ∀ r, r ∈ L ↔ (a < r ∧ sgn (f r) ≠ sgn (f (r - 1)))
theorem Chg.const {f : Int → Int} {a : Int} (h : ∀ r, sgn (f r) = sgn (f 0)) : Chg f a [] := ⟨.nil, fun r => ⟨fun z => (by cases z), fun z => absurd ((h r).trans (h (r - 1)).symm) z.2⟩⟩
theorem sgn_run {f : Int → Int} {b : Int} (h : ∀ r, b < r → sgn (f r) = sgn (f (r - 1))) : ∀ n : Nat, sgn (f (b + n)) = sgn (f b)
  | 0 => by simp
  | n + 1 => by
    have := h (b + ((n + 1 : Nat) : Int)) (by omega)
    rw [this, show b + ((n + 1 : Nat) : Int) - 1 = b + n by omega]
    exact sgn_run h n
theorem Chg.none_ {f : Int → Int} {a : Int} (h : Chg f a []) : ∀ r, a ≤ r → sgn (f r) = sgn (f a) := fun r hr => by
  have := sgn_run (f := f) (b := a) (fun r hr => Classical.byContradiction fun z => by
    have := (h.mem r).mpr ⟨hr, z⟩
    cases this) (r - a).toNat
  rwa [show a + ((r - a).toNat : Int) = r by omega] at this
theorem sgn_runE {f : Int → Int} {b e : Int} (h : ∀ r, b < r → r ≤ e → sgn (f r) = sgn (f (r - 1))) : ∀ n : Nat, b + n ≤ e → sgn (f (b + n)) = sgn (f b)
  | 0, _ => by simp
  | n + 1, he => by
    have := h (b + ((n + 1 : Nat) : Int)) (by omega) he
    rw [this, show b + ((n + 1 : Nat) : Int) - 1 = b + n by omega]
    exact sgn_runE h n (by omega)
/-- where the difference keeps its sign there is no turn -/
theorem mon_seg {f g : Int → Int} {b e : Int} (hg : ∀ r, g r = f (r + 1) - f r) (h : ∀ r, b < r → r < e → sgn (g r) = sgn (g (r - 1))) : MonOn f b e := by
  have hs : ∀ r, b ≤ r → r < e → sgn (g r) = sgn (g b) := fun r h1 h2 => by
    have := sgn_runE (f := g) (b := b) (e := e - 1) (fun r a1 a2 => h r a1 (by omega)) (r - b).toNat (by omega)
    rwa [show b + ((r - b).toNat : Int) = r by omega] at this
  refine mon_of_diff ?_
  have sg : ∀ x y : Int, sgn x = sgn y → 0 ≤ y → 0 ≤ x := fun x y e hy => by
    unfold sgn at e
    split at e <;> split at e <;> split at e <;> split at e <;> omega
  have sg' : ∀ x y : Int, sgn x = sgn y → y ≤ 0 → x ≤ 0 := fun x y e hy => by
    unfold sgn at e
    split at e <;> split at e <;> split at e <;> split at e <;> omega
  rcases Int.le_total 0 (g b) with h0 | h0
  · left
    intro r h1 h2
    rw [← hg]; exact sg _ _ (hs r h1 h2) h0
  · right
    intro r h1 h2
    rw [← hg]; exact sg' _ _ (hs r h1 h2) h0
end FWL
namespace FWL
open PySem PySem.Spec PyProof.Rows L2 FW
/-! ### comprehensions over ints: [f(c) for c in s if p(c)] -/
section
variable {K : PySem.W.Frag} {σ : L2.St} {H : Hp} {Q : VK} {a : Addr} {ns : List Int} {n : Nat} {tt : TT} {te : TE} {p : Int → Bool} {f : Int → Int}
theorem ints_at {i : Nat} {x : V} (h : (ns.map V.int)[i]? = some x) : ∃ c, x = .int c ∧ ns[i]? = some c := by
  rw [List.getElem?_map] at h
  cases e : ns[i]? with
  | none => rw [e] at h; cases h
  | some c => rw [e] at h; cases h; exact ⟨c, rfl, rfl⟩
theorem lc_step {D : Addr} {i : Nat} {c : Int} (hD : H D = none) (hl : ns.length ≤ 100000) (hc : ns[i]? = some c) (hw : ∀ v : V, wipe ((wipe σ [n]).set n (some v)) [n] = wipe σ [n])
    (ht : ∀ c ∈ ns, ∀ (H' : Hp) (R : Bool → Hp → Prop), Ext H H' → R (p c) H' → tt ((wipe σ [n]).set n (some (.int c))) H' R)
    (he : ∀ c ∈ ns, p c = true → ∀ (H' : Hp) (R : VK), Ext H H' → R (.int (f c)) H' → te ((wipe σ [n]).set n (some (.int c))) H' R) :
    gName n (.int c) (wipe σ [n]) (upd H D (.lst ((((ns.take i).filter p).map f).map V.int))) fun σ2 H2 => wipe σ2 [n] = wipe σ [n] ∧ tt σ2 H2 fun b H3 =>
      if b = true then te σ2 H3 fun y H4 => ∃ acc, H4 D = some (.lst acc) ∧ acc.length < sizeLine ∧ (i + 1 ≤ ns.length ∧ upd H4 D (.lst (acc ++ [y])) = upd H D (.lst ((((ns.take (i + 1)).filter p).map f).map V.int))) else (i + 1 ≤ ns.length ∧ H3 = upd H D (.lst ((((ns.take (i + 1)).filter p).map f).map V.int))) := by
  have hi := (List.getElem?_eq_some_iff.mp hc).1
  have hm : c ∈ ns := List.mem_of_getElem? hc
  have eX : Ext H (upd H D (.lst ((((ns.take i).filter p).map f).map V.int))) := Ext.new hD
  have et : ns.take (i + 1) = ns.take i ++ [c] := by rw [List.take_add_one, hc]; rfl
  refine g_name ⟨hw _, ht c hm _ _ eX ?_⟩
  cases hp : p c with
  | true =>
    rw [if_pos rfl]
    refine he c hm hp _ _ eX ⟨_, upd_same, ?_, hi, ?_⟩
    · rw [List.length_map, List.length_map]
      have := List.length_filter_le p (ns.take i)
      rw [List.length_take] at this
      show _ < 2 ^ 24
      omega
    · rw [et, List.filter_append, List.filter_cons_of_pos hp, List.filter_nil, List.map_append, List.map_append, upd_upd]; rfl
  | false =>
    rw [if_neg (by decide)]
    refine ⟨hi, ?_⟩
    rw [et, List.filter_append, List.filter_cons_of_neg (by rw [hp]; decide), List.filter_nil, List.append_nil]
theorem lcT_gen (h : SqT K H a (ns.map V.int)) (hl : ns.length ≤ 100000) (hw : ∀ v : V, wipe ((wipe σ [n]).set n (some v)) [n] = wipe σ [n])
    (ht : ∀ c ∈ ns, ∀ (H' : Hp) (R : Bool → Hp → Prop), Ext H H' → R (p c) H' → tt ((wipe σ [n]).set n (some (.int c))) H' R)
    (he : ∀ c ∈ ns, p c = true → ∀ (H' : Hp) (R : VK), Ext H H' → R (.int (f c)) H' → te ((wipe σ [n]).set n (some (.int c))) H' R)
    (q : ∀ D, H D = none → Q (.ref D) (upd H D (.lst (((ns.filter p).map f).map V.int)))) : LcK (gName n) tt te [n] σ Q (Itt K a) H := by
  intro D hD
  refine lc_tup (K := K) (a := a) (xs := ns.map V.int) (fun i H' => i ≤ ns.length ∧ H' = upd H D (.lst ((((ns.take i).filter p).map f).map V.int))) ⟨Nat.zero_le _, rfl⟩ (fun i H' _ h' => by rw [h'.2]; exact Ext.sqT (Ext.new hD) h) ?_ ?_
  · rintro i x H' hx ⟨_, rfl⟩
    obtain ⟨c, rfl, hc⟩ := ints_at hx
    exact lc_step hD hl hc hw ht he
  · rintro H' ⟨_, rfl⟩
    rw [List.length_map, List.take_of_length_le (Nat.le_refl _)]
    exact q D hD
theorem lcL_gen (h : SqL K H a (ns.map V.int)) (hl : ns.length ≤ 100000) (hw : ∀ v : V, wipe ((wipe σ [n]).set n (some v)) [n] = wipe σ [n])
    (ht : ∀ c ∈ ns, ∀ (H' : Hp) (R : Bool → Hp → Prop), Ext H H' → R (p c) H' → tt ((wipe σ [n]).set n (some (.int c))) H' R)
    (he : ∀ c ∈ ns, p c = true → ∀ (H' : Hp) (R : VK), Ext H H' → R (.int (f c)) H' → te ((wipe σ [n]).set n (some (.int c))) H' R)
    (q : ∀ D, H D = none → Q (.ref D) (upd H D (.lst (((ns.filter p).map f).map V.int)))) : LcK (gName n) tt te [n] σ Q (Itl K a) H := by
  intro D hD
  refine lc_list (K := K) (a := a) (xs := ns.map V.int) (fun i H' => i ≤ ns.length ∧ H' = upd H D (.lst ((((ns.take i).filter p).map f).map V.int))) ⟨Nat.zero_le _, rfl⟩ (fun i H' _ h' => by rw [h'.2]; exact Ext.sqL (Ext.new hD) h) ?_ ?_
  · rintro i x H' hx ⟨_, rfl⟩
    obtain ⟨c, rfl, hc⟩ := ints_at hx
    exact lc_step hD hl hc hw ht he
  · rintro H' ⟨_, rfl⟩
    rw [List.length_map, List.take_of_length_le (Nat.le_refl _)]
    exact q D hD
end
theorem filter_all (ns : List Int) : ns.filter (fun _ => true) = ns := by rw [List.filter_eq_self]; intro _ _; rfl
theorem yes_all {σ : L2.St} {H' : Hp} {R : Bool → Hp → Prop} (h : R true H') : tYes σ H' R := h
/-- the greatest, the least of a list of ints -/
theorem e_maxL {K : PySem.W.Frag} {H : Hp} {Q : VK} {a : Addr} {ns : List Int} (h : SqL K H a (ns.map V.int)) (hn : ns ≠ []) (k : ∀ m, m ∈ ns → (∀ c ∈ ns, c ≤ m) → Q (.int m) H) : rMax K [.ref a] H Q :=
  ⟨a, ns, rfl, h, List.length_pos_iff.mpr hn, k⟩
theorem e_minL {K : PySem.W.Frag} {H : Hp} {Q : VK} {a : Addr} {ns : List Int} (h : SqL K H a (ns.map V.int)) (hn : ns ≠ []) (k : ∀ m, m ∈ ns → (∀ c ∈ ns, m ≤ c) → Q (.int m) H) : rMin K [.ref a] H Q :=
  ⟨a, ns, rfl, h, List.length_pos_iff.mpr hn, k⟩
end FWL
namespace FWL
open PySem PySem.Spec PyProof.Rows L2 FW
/-! ### poly_less, settled, next_change -/
theorem pv_neg (ns : List Int) (r : Int) : pvl (ns.map fun c => -c) r = -pvl ns r := by
  induction ns with
  | nil => simp [pvl]
  | cons c cs ih => simp only [List.map_cons, pvl, ih]; grind
def sp_poly_less (K : PySem.W.Frag) : Sp := fun vs H Q _ => ∃ (a b : Addr) (ns ms : List Int), vs = [.ref a, .ref b] ∧ SqA K H a (ns.map V.int) ∧ SqT K H b (ms.map V.int) ∧ ns.length ≤ 100 ∧ ms.length ≤ 100 ∧
  ∀ t cs H', H t = none → Ext H H' → H' t = some (.tup (cs.map V.int)) → (∀ r, pvl cs r = pvl ns r - pvl ms r) → cs.getLast? ≠ some 0 → Q (.ref t) H'
def rd_poly_less (K : PySem.W.Frag) : TS := tRet (tCall (sp_poly_sum K) [] E0 (tCons (tVar 0) (tCons (tCB (FW.rTupS K) (tCons (tLc (iTup K (tVar 1)) (gName 2) (tYes) (tUn FW.rNeg (tVar 2)) [2]) (tNil))) (tNil))))
theorem pure_poly_less (K : PySem.W.Frag) (vs : List V) (H : Hp) (Q : VK) (E : XK) (h : sp_poly_less K vs H Q E) : rd_poly_less K { nx := fun _ H' => Q .non H', rt := Q } (start ["one", "other", "coefficient"] vs) H := by
  obtain ⟨a, b, ns, ms, rfl, hA, hB, hn, hm, q⟩ := h
  unfold rd_poly_less
  walk_at "rd"
  refine i_tup' _ ?_ hB
  refine lcT_gen (p := fun _ => true) (f := fun c => -c) hB (by omega) (fun _ => rfl) (fun c _ H' R _ h => yes_all h) (fun c _ _ H' R _ h => ?_) (fun D hD => ?_)
  · walk_at "rd"
    exact h
  · rw [filter_all]
    have e1 := Ext.new (o := .lst ((ms.map fun c => -c).map V.int)) hD
    walk_at "rd"
    refine e_tupL (fun t ht => ?_) (SqL.of upd_same)
    have e2 := Ext.new (o := .tup ((ms.map fun c => -c).map V.int)) ht
    walk_at "rd"
    refine ⟨a, t, ns, ms.map fun c => -c, rfl, hA.ext (e1.tr e2), .inr (SqT.of upd_same), hn, by simpa using hm, fun t' cs H' ht' e3 g hpv hl _ _ => ?_⟩
    walk_at "rd"
    refine q t' cs H' ((e1.tr e2).non ht') ((e1.tr e2).tr e3) g (fun r => ?_) hl
    rw [hpv r, pv_neg]; omega
def sp_settled (K : PySem.W.Frag) : Sp := fun vs H Q _ => ∃ (a : Addr) (ns : List Int) (b : Nat), vs = [.ref a] ∧ SqT K H a (ns.map V.int) ∧ ns ≠ [] ∧ ns.getLast? ≠ some 0 ∧ ns.length ≤ 100 ∧ (∀ c ∈ ns, Sz b c) ∧ 0 < b ∧ b ≤ 5000 ∧
  ∀ s H', Ext H H' → 2 ≤ s → Sz (b + 2) s → (∀ r, s ≤ r → sgn (pvl ns r) = sgn (pvl ns s)) → Q (.int s) H'
def rd_settled (K : PySem.W.Frag) : TS := tRet (tOp FW.rAdd (tC (.int 2)) (tOp FW.rDiv (tCB (rMax K) (tCons (tLc (iTup K (tVar 0)) (gName 1) (tYes) (tCB FW.rAbs (tCons (tVar 1) (tNil))) [1]) (tNil))) (tCB FW.rAbs (tCons (tOp (rIxT K) (tVar 0) (tUn FW.rNeg (tC (.int 1)))) (tNil)))))
theorem last_of {ns : List Int} (h : ns ≠ []) : ∃ xs l, ns = xs ++ [l] ∧ ns.getLast? = some l := by
  refine ⟨ns.dropLast, ns.getLast h, (List.dropLast_concat_getLast h).symm, List.getLast?_eq_some_getLast h⟩
theorem abs_if (i : Int) : (if i < 0 then -i else i) = (i.natAbs : Int) := by split <;> omega
theorem pure_settled (K : PySem.W.Frag) (vs : List V) (H : Hp) (Q : VK) (E : XK) (h : sp_settled K vs H Q E) : rd_settled K { nx := fun _ H' => Q .non H', rt := Q } (start ["poly", "coefficient"] vs) H := by
  obtain ⟨a, ns, b, rfl, hA, hne, hl, hlen, hsz, hb0, hb, q⟩ := h
  obtain ⟨xs, l, rfl, hlast⟩ := last_of hne
  have hl0 : l ≠ 0 := fun z => hl (by rw [hlast, z])
  unfold rd_settled
  walk_at "rd"
  · refine i_tup' _ ?_ hA
    refine lcT_gen (p := fun _ => true) (f := fun c => (c.natAbs : Int)) hA (by omega) (fun _ => rfl) (fun c _ H' R _ h => yes_all h) (fun c _ _ H' R _ h => ?_) (fun D hD => ?_)
    · walk_at "rd"
      rw [abs_if]; exact h
    · rw [filter_all]
      have e1 := Ext.new (o := .lst (((xs ++ [l]).map fun c => (c.natAbs : Int)).map V.int)) hD
      walk_at "rd"
      refine e_maxL (SqL.of upd_same) (by simp) fun M hM hmax => ?_
      walk_at "rd"
      have hix : atI ((xs ++ [l]).map V.int) (-1) = some (.int l) := by
        unfold atI ixN
        rw [List.length_map, List.length_append, List.length_cons, List.length_nil]
        rw [if_neg (by decide), if_pos (by omega)]
        show ((xs ++ [l]).map V.int)[(-1 + ((xs.length + (0 + 1) : Nat) : Int)).toNat]? = _
        rw [show (-1 + ((xs.length + (0 + 1) : Nat) : Int)).toNat = xs.length by omega, List.map_append]
        simp
      refine e_ixT ?_ (e1.sqT hA) hix
      walk_at "rd"
      · rw [abs_if]
        have hM0 : 0 ≤ M ∧ Sz b M := by
          obtain ⟨c, hc, rfl⟩ := List.mem_map.mp hM
          exact ⟨by omega, by show ((c.natAbs : Int)).natAbs < 2 ^ b; have := hsz c hc; rw [show ((c.natAbs : Int)).natAbs = c.natAbs by omega]; exact this⟩
        have hla : (0 : Int) < l.natAbs := by omega
        have hd0 : 0 ≤ M / (l.natAbs : Int) := Int.ediv_nonneg hM0.1 (by omega)
        have hd1 : M / (l.natAbs : Int) ≤ M := Int.ediv_le_self _ hM0.1
        have hdm := Int.emod_add_mul_ediv M (l.natAbs : Int)
        have hdr := Int.emod_lt_of_pos M hla
        have hdr0 := Int.emod_nonneg M (by omega : (l.natAbs : Int) ≠ 0)
        generalize hq : M / (l.natAbs : Int) = qq at *
        have far : ∀ r, 2 + qq ≤ r → sgn (pvl (xs ++ [l]) r) = sgn l := fun r hr => by
          refine pv_far (M := M) hl0 (fun c hc => hmax _ (List.mem_map.mpr ⟨c, List.mem_append_left _ hc, rfl⟩)) ?_ (by omega)
          have : (l.natAbs : Int) * (1 + qq) ≤ l.natAbs * (r - 1) := Int.mul_le_mul_of_nonneg_left (by omega) (by omega)
          rw [Int.mul_add, Int.mul_one] at this
          omega
        refine q (2 + qq) _ e1 (by omega) ?_ fun r hr => by rw [far r hr, far (2 + qq) (Int.le_refl _)]
        show (2 + qq).natAbs < 2 ^ (b + 2)
        have := hM0.2
        have h2 : M.natAbs < 2 ^ b := this
        rw [Nat.pow_add]
        have : 1 ≤ 2 ^ b := Nat.pow_pos (by decide)
        omega
      · rw [abs_if]
        have hla : (0 : Int) < l.natAbs := by omega
        have : Sz b l := hsz l (by simp)
        exact wide_div (b := b) hla (by rw [show ((l.natAbs : Int)).natAbs = l.natAbs by omega]; exact this) hb0 (by omega)
def sp_next_change (K : PySem.W.Frag) : Sp := fun vs H Q _ => ∃ (a : Addr) (ns : List Int) (b e : Int) (z : Nat), vs = [.ref a, .int b, .int e] ∧ SqT K H a (ns.map V.int) ∧ b < e ∧ MonOn (pvl ns) b e ∧ sgn (pvl ns e) ≠ sgn (pvl ns b) ∧ (∀ c ∈ ns, Sz z c) ∧ Sz z b ∧ Sz z e ∧ (ns.length + 2) * (z + 1) ≤ 900000 ∧
  ∀ n H', Ext H H' → b < n → n ≤ e → (∀ r, b < r → r < n → sgn (pvl ns r) = sgn (pvl ns b)) → sgn (pvl ns n) ≠ sgn (pvl ns b) → Q (.int n) H'
def rd_next_change_L1 (K : PySem.W.Frag) : TS := tSeq (tAsg (tOp FW.rDiv (tOp FW.rAdd (tVar 3) (tVar 4)) (tC (.int 2))) (gName 5)) (tIfS (tTest (tOp rEq (tCall (sp_sign K) [] E0 (tCons (tCall (sp_poly_value K) [] E0 (tCons (tVar 0) (tCons (tVar 5) (tNil)))) (tNil))) (tCall (sp_sign K) [] E0 (tCons (tCall (sp_poly_value K) [] E0 (tCons (tVar 0) (tCons (tVar 1) (tNil)))) (tNil))))) (tAsg (tVar 5) (gName 3)) (tAsg (tVar 5) (gName 4)))
def rd_next_change (K : PySem.W.Frag) : TS := tSeq (tPar 3 4 (tCons (tVar 1) (tCons (tVar 2) (tNil)))) (tSeq (tWhile (tTest (tOp FW.rGt (tOp FW.rSub (tVar 4) (tVar 3)) (tC (.int 1)))) (rd_next_change_L1 K)) (tRet (tVar 4)))
theorem sz_between {z : Nat} {b e x : Int} (hb : Sz z b) (he : Sz z e) (h1 : b ≤ x) (h2 : x ≤ e) : Sz z x := by
  have h3 : b.natAbs < 2 ^ z := hb
  have h4 : e.natAbs < 2 ^ z := he
  show x.natAbs < 2 ^ z
  omega
theorem pure_next_change (K : PySem.W.Frag) (vs : List V) (H : Hp) (Q : VK) (E : XK) (h : sp_next_change K vs H Q E) : rd_next_change K { nx := fun _ H' => Q .non H', rt := Q } (start ["poly", "begun", "beyond", "low", "high", "middle"] vs) H := by
  obtain ⟨a, ns, b, e, z, rfl, hA, hbe, hm, hs, hc, hb, he, hz, q⟩ := h
  unfold rd_next_change
  walk_at "rd"
  refine s_while (fun m σ H' => Ext H H' ∧ ∃ (lo hi : Int) (v5 : Option V), b ≤ lo ∧ lo < hi ∧ hi ≤ e ∧ m = (hi - lo).toNat ∧ sgn (pvl ns lo) = sgn (pvl ns b) ∧ sgn (pvl ns hi) ≠ sgn (pvl ns b) ∧ σ = [some (.ref a), some (.int b), some (.int e), some (.int lo), some (.int hi), v5]) (e - b).toNat ⟨Ext.rfl', b, e, _, Int.le_refl _, hbe, Int.le_refl _, rfl, rfl, hs, rfl⟩ ?_
  rintro m σ H' ⟨e1, lo, hi, v5, h1, h2, h3, rfl, h4, h5, rfl⟩
  walk_at "rd"
  refine e_ite (fun h6 => ?_) (fun h6 => ?_)
  · refine ⟨fun σ' H'' => Ext H H'' ∧ ∃ (lo' hi' : Int) (v5 : Option V), b ≤ lo' ∧ lo' < hi' ∧ hi' ≤ e ∧ (hi' - lo').toNat < (hi - lo).toNat ∧ sgn (pvl ns lo') = sgn (pvl ns b) ∧ sgn (pvl ns hi') ≠ sgn (pvl ns b) ∧ σ' = [some (.ref a), some (.int b), some (.int e), some (.int lo'), some (.int hi'), v5], fun σ' H'' h => ?_, ?_⟩
    · obtain ⟨e2, lo', hi', v5, g1, g2, g3, g4, g5, g6, rfl⟩ := h
      exact ⟨_, g4, e2, lo', hi', v5, g1, g2, g3, rfl, g5, g6, rfl⟩
    unfold rd_next_change_L1
    walk_at "rd"
    · have hmid : lo < (lo + hi) / 2 ∧ (lo + hi) / 2 < hi := by omega
      generalize (lo + hi) / 2 = mid at *
      refine ⟨a, ns, mid, z, rfl, .inr (e1.sqT hA), hc, sz_between hb he (by omega) (by omega), hz, fun H2 e2 => ?_⟩
      walk_at "rd"
      refine ⟨_, rfl, ?_⟩
      walk_at "rd"
      refine ⟨a, ns, b, z, rfl, .inr ((e1.tr e2).sqT hA), hc, hb, hz, fun H3 e3 => ?_⟩
      walk_at "rd"
      refine ⟨_, rfl, ?_⟩
      walk_at "rd"
      have hd : ∀ x y : Int, decide (V.int x = V.int y) = decide (x = y) := fun x y => decide_eq_decide.mpr ⟨fun z => by injection z, fun z => by rw [z]⟩
      rw [hd]
      refine e_ite (fun h7 => ?_) (fun h7 => ?_)
      · walk_at "rd"
        exact ⟨e1.tr (e2.tr e3), mid, hi, _, by omega, by omega, h3, by omega, h7, h5, rfl⟩
      · walk_at "rd"
        exact ⟨e1.tr (e2.tr e3), lo, mid, _, h1, by omega, by omega, by omega, h4, h7, rfl⟩
    · exact wide_div (b := 10) (by decide) (by decide) (by decide) (by decide)
  · walk_at "rd"
    refine q hi H' e1 (by omega) h3 (fun r hr1 hr2 => ?_) h5
    exact hm.same (Int.le_refl _) (by omega) (show r ≤ lo by omega) (by omega) h4.symm
/-! ### changes -/
theorem asc_gap {L : List Int} (h : L.Pairwise (· < ·)) {i : Nat} {x y r : Int} (hx : L[i]? = some x) (hy : L[i + 1]? = some y) (h1 : x < r) (h2 : r < y) : r ∉ L := by
  intro hr
  obtain ⟨j, hj, e⟩ := List.mem_iff_getElem.mp hr
  obtain ⟨hi, ex⟩ := List.getElem?_eq_some_iff.mp hx
  obtain ⟨hi1, ey⟩ := List.getElem?_eq_some_iff.mp hy
  have pw := List.pairwise_iff_getElem.mp h
  by_cases hji : j ≤ i
  · rcases Nat.lt_or_eq_of_le hji with z | z
    · have := pw j i hj hi z; omega
    · subst z; omega
  · by_cases hj1 : j = i + 1
    · subst hj1; omega
    · have := pw (i + 1) j hi1 hj (by omega); omega
def sp_changes (K : PySem.W.Frag) (n : Nat) : Sp := fun vs H Q _ => ∃ (a : Addr) (ns : List Int) (first : Int) (b : Nat), vs = [.ref a, .int first] ∧ SqT K H a (ns.map V.int) ∧ ns.length ≤ n + 1 ∧ ns.getLast? ≠ some 0 ∧ (∀ c ∈ ns, Sz b c) ∧ Sz b first ∧ 0 < b ∧ b + 10 * n ≤ 390 ∧ n ≤ 7 ∧
  ∀ L cs H', Ext H H' → H' L = some (.lst (cs.map V.int)) → Chg (pvl ns) first cs → cs.length + 2 ≤ 2 ^ (n + 1) → Q (.ref L) H'
def rd_changes_L1 (K : PySem.W.Frag) : TS := tSeq (tAsg (tCall (sp_next_change K) [] E0 (tCons (tVar 0) (tCons (tVar 7) (tCons (tVar 8) (tNil))))) (gName 7)) (tDrop (tBM K "list" rAppend (tVar 6) (tCons (tVar 7) (tNil))))
def rd_changes_L2 (K : PySem.W.Frag) : TS := tWhile (tTest (tOp rNe (tCall (sp_sign K) [] E0 (tCons (tCall (sp_poly_value K) [] E0 (tCons (tVar 0) (tCons (tVar 7) (tNil)))) (tNil))) (tCall (sp_sign K) [] E0 (tCons (tCall (sp_poly_value K) [] E0 (tCons (tVar 0) (tCons (tVar 8) (tNil)))) (tNil))))) (rd_changes_L1 K)
def rd_changes (K : PySem.W.Frag) (R : Sp) : TS := tSeq (tIfS (tTest (tOp FW.rLt (tCB (Evl.rLenS K) (tCons (tVar 0) (tNil))) (tC (.int 2)))) (tRet (tLst (tNil))) (tNext)) (tSeq (tAsg (tOp FW.rAdd (tCB FW.rMax2 (tCons (tVar 1) (tCons (tCall (sp_settled K) [] E0 (tCons (tVar 0) (tNil))) (tNil)))) (tC (.int 1))) (gName 2)) (tSeq (tAsg (tCall R [] E0 (tCons (tCall (sp_poly_less K) [] E0 (tCons (tCall (sp_poly_shift K) [] E0 (tCons (tVar 0) (tCons (tC (.int 1)) (tNil)))) (tCons (tVar 0) (tNil)))) (tCons (tVar 1) (tNil)))) (gName 3)) (tSeq (tAsg (tOp rCat (tOp rCat (tLst (tCons (tVar 1) (tNil))) (tLc (iList K (tVar 3)) (gName 5) (tTest (tOp FW.rLt (tVar 5) (tVar 2))) (tVar 5) [5])) (tLst (tCons (tVar 2) (tNil)))) (gName 4)) (tSeq (tAsg (tLst (tNil)) (gName 6)) (tSeq (tFor (iZip K (tCons (tVar 4) (tCons (tSl (rSlL K) (tVar 4) (tPart (tC (.int 1))) (tNoPart)) (tNil)))) (gTup K 2 (gCons (gName 7) (gCons (gName 8) (gNil)))) (rd_changes_L2 K)) (tRet (tVar 6)))))))
theorem chg_short {ns : List Int} {first : Int} (h : ns.length < 2) : Chg (pvl ns) first [] := by
  refine Chg.const fun r => ?_
  match ns, h with
  | [], _ => rfl
  | [c], _ => simp [pvl]
theorem sgn_toward {f : Int → Int} {b e n : Int} (m : MonOn f b e) (h1 : b < n) (h2 : n ≤ e) (hn : sgn (f n) ≠ sgn (f b)) (hs : sgn (f e) ≠ sgn (f b)) : (sgn (f e) - sgn (f n)).natAbs < (sgn (f e) - sgn (f b)).natAbs := by
  rcases m with m | m
  · have a1 := sgn_mono (m b n (Int.le_refl _) (by omega) h2); have a2 := sgn_mono (m n e (by omega) h2 (Int.le_refl _)); omega
  · have a1 := sgn_mono (m b n (Int.le_refl _) (by omega) h2); have a2 := sgn_mono (m n e (by omega) h2 (Int.le_refl _)); omega
theorem sgn_two (x y : Int) : (sgn x - sgn y).natAbs ≤ 2 := by
  unfold sgn
  split <;> split <;> split <;> split <;> omega
/-- one stretch -/
theorem changes_L2 {K : PySem.W.Frag} {H : Hp} {D : Ends} {a F : Addr} {ns : List Int} {first b e : Int} {z i : Nat} {u2 u3 u4 u5 : Option V} {cs : List Int} (hA : SqT K H a (ns.map V.int)) (hF : H F = some (.lst (cs.map V.int))) (hbe : b < e) (hfb : first ≤ b) (hm : MonOn (pvl ns) b e)
    (hc : ∀ c ∈ ns, Sz z c) (hb : Sz z b) (he : Sz z e) (hz : (ns.length + 2) * (z + 1) ≤ 900000) (hi : 2 * i + 10 < 2 ^ 24) (hlen : cs.length ≤ 2 * i) (hC : ChgIn (pvl ns) first b cs)
    (k : ∀ H' cs' w7 w8, ExtB F H H' → H' F = some (.lst (cs'.map V.int)) → cs'.length ≤ 2 * (i + 1) → ChgIn (pvl ns) first e cs' → D.nx [some (.ref a), some (.int first), u2, u3, u4, u5, some (.ref F), w7, w8] H') :
    rd_changes_L2 K D [some (.ref a), some (.int first), u2, u3, u4, u5, some (.ref F), some (.int b), some (.int e)] H := by
  have haF : ∀ {xs : List V}, SqT K H a xs → ∀ {H'}, ExtB F H H' → SqT K H' a xs := fun {xs} h {H'} e => by
    rcases h with h | h
    · rcases h with h | ⟨o, h⟩
      · exact .inl (.inl (e _ _ (fun z => by rw [z, hF] at h; cases h) h))
      · exact .inl (.inr ⟨o, e _ _ (fun z => by rw [z, hF] at h; cases h) h⟩)
    · exact .inr h
  unfold rd_changes_L2
  refine s_while (fun m σ H' => ExtB F H H' ∧ ∃ (b' : Int) (cs' : List Int), b ≤ b' ∧ b' ≤ e ∧ Sz z b' ∧ m = (sgn (pvl ns e) - sgn (pvl ns b')).natAbs ∧ cs'.length + m ≤ 2 * i + 2 ∧ H' F = some (.lst (cs'.map V.int)) ∧ ChgIn (pvl ns) first b' cs' ∧ σ = [some (.ref a), some (.int first), u2, u3, u4, u5, some (.ref F), some (.int b'), some (.int e)])
    (sgn (pvl ns e) - sgn (pvl ns b)).natAbs ⟨fun _ _ _ h => h, b, cs, Int.le_refl _, by omega, hb, rfl, by have := sgn_two (pvl ns e) (pvl ns b); omega, hF, hC, rfl⟩ ?_
  rintro m σ H1 ⟨e1, b', cs', g1, g2, g3, rfl, g4, g5, g6, rfl⟩
  walk_at "rd"
  refine ⟨a, ns, b', z, rfl, .inr (haF hA e1), hc, g3, hz, fun H2 e2 => ?_⟩
  walk_at "rd"
  refine ⟨_, rfl, ?_⟩
  walk_at "rd"
  refine ⟨a, ns, e, z, rfl, .inr (haF hA (e1.tr (ExtB.of e2))), hc, he, hz, fun H3 e3 => ?_⟩
  walk_at "rd"
  refine ⟨_, rfl, ?_⟩
  walk_at "rd"
  have hd : ∀ x y : Int, decide (V.int x = V.int y) = decide (x = y) := fun x y => decide_eq_decide.mpr ⟨fun z => by injection z, fun z => by rw [z]⟩
  rw [hd]
  have e13 : ExtB F H H3 := e1.tr (ExtB.of (e2.tr e3))
  have g53 := e3 _ _ (e2 _ _ g5)
  refine e_iteN (fun hne => ?_) (fun heq => ?_)
  · have hlt : b' < e := by
      rcases Int.lt_or_eq_of_le g2 with z | z
      · exact z
      · exact absurd (by rw [z]) hne
    have mon' : MonOn (pvl ns) b' e := by
      rcases hm with hm | hm
      · exact .inl fun x y h1 h2 h3 => hm x y (by omega) h2 h3
      · exact .inr fun x y h1 h2 h3 => hm x y (by omega) h2 h3
    refine ⟨fun σ' H'' => ExtB F H H'' ∧ ∃ (n : Int) (cs2 : List Int), b ≤ n ∧ n ≤ e ∧ Sz z n ∧ (sgn (pvl ns e) - sgn (pvl ns n)).natAbs < (sgn (pvl ns e) - sgn (pvl ns b')).natAbs ∧ cs2.length + (sgn (pvl ns e) - sgn (pvl ns n)).natAbs ≤ 2 * i + 2 ∧ H'' F = some (.lst (cs2.map V.int)) ∧ ChgIn (pvl ns) first n cs2 ∧ σ' = [some (.ref a), some (.int first), u2, u3, u4, u5, some (.ref F), some (.int n), some (.int e)], fun σ' H'' h => ?_, ?_⟩
    · obtain ⟨e2', n, cs2, h1, h2, h3, h4, h5, h6, h7, rfl⟩ := h
      exact ⟨_, h4, e2', n, cs2, h1, h2, h3, rfl, h5, h6, h7, rfl⟩
    unfold rd_changes_L1
    walk_at "rd"
    refine ⟨a, ns, b', e, z, rfl, haF hA e13, hlt, mon', fun z => hne z.symm, hc, g3, he, hz, fun n H4 e4 h1 h2 h3 h4 => ?_⟩
    walk_at "rd"
    refine ⟨.inl ⟨rfl, _, SqL.of (e4 _ _ g53)⟩, ?_⟩
    walk_at "rd"
    have htw := sgn_toward mon' h1 h2 h4 (fun z => hne z.symm)
    refine ⟨F, cs'.map V.int, .int n, rfl, rfl, e4 _ _ g53, by rw [List.length_map]; show _ < 2 ^ 24; omega, ?_⟩
    refine ⟨(e13.tr (ExtB.of e4)).tr ExtB.upd, n, cs' ++ [n], by omega, h2, sz_between hb he (by omega) h2, htw, ?_, ?_, g6.snoc (by omega) h1 h3 h4, rfl⟩
    · rw [List.length_append, List.length_cons, List.length_nil]; omega
    · rw [upd_same, List.map_append]; rfl
  · refine k H3 cs' _ _ e13 g53 (by omega) ?_
    refine g6.stay g2 fun r hr1 hr2 => ?_
    have := hm.same (x := b') (y := r) (z := e) g1 (by omega) hr2 (Int.le_refl _) heq
    exact this
theorem changes_gen {K : PySem.W.Frag} {R : Sp} {n : Nat} {vs : List V} {H : Hp} {Q : VK} {E : XK} (hR : ∀ (m : Nat), n = m + 1 → ∀ vs H Q E, sp_changes K m vs H Q E → R vs H Q E) (h : sp_changes K n vs H Q E) : rd_changes K R { nx := fun _ H' => Q .non H', rt := Q } (start ["poly", "first", "last", "inner", "ends", "r", "found", "begun", "beyond"] vs) H := by
  obtain ⟨a, ns, first, b, rfl, hA, hlen, hlast, hc, hf, hb0, hb, hn7, q⟩ := h
  unfold rd_changes
  walk_at "rd"
  refine e_len ?_ (.inr hA)
  rw [List.length_map]
  walk_at "rd"
  refine e_ite (fun h2 => ?_) (fun h2 => ?_)
  · walk_at "rd"
    refine ⟨by show 0 ≤ sizeLine; decide, fun p hp => ?_⟩
    refine q p [] _ (Ext.new hp) upd_same (chg_short (by omega)) ?_
    have : 2 ^ 1 ≤ 2 ^ (n + 1) := Nat.pow_le_pow_right (by decide) (by omega)
    exact this
  obtain ⟨m, rfl⟩ : ∃ m, n = m + 1 := ⟨n - 1, by omega⟩
  have hne : ns ≠ [] := fun z => by rw [z] at h2; simp at h2
  walk_at "rd"
  refine ⟨a, ns, b, rfl, hA, hne, hlast, by omega, hc, hb0, by omega, fun s H1 e1 hs2 hss hsg => ?_⟩
  walk_at "rd"
  have hlastE : ∀ v : Int, (if s > first then s else first) = v → first ≤ v ∧ s ≤ v ∧ Sz (b + 2) v := fun v hv => by
    refine ⟨?_, ?_, ?_⟩
    · rw [← hv]; split <;> omega
    · rw [← hv]; split <;> omega
    · rw [← hv]; split
      · exact hss
      · exact hf.mono (by omega)
  obtain ⟨w, hw⟩ : ∃ w, (if s > first then s else first) = w := ⟨_, rfl⟩
  obtain ⟨hw1, hw2, hw3⟩ := hlastE w hw
  rw [hw]
  have hw4 : Sz (b + 3) (w + 1) := hw3.add (Sz.mono (show Sz 1 1 by decide) (by omega))
  refine ⟨a, ns, 1, rfl, .inr (e1.sqT hA), by omega, fun c hc' => (hc c hc').mono (by omega), Sz.mono (show Sz 1 1 by decide) (by decide), fun t2 cs2 H2 ht2 e2 g2 hpv2 hl2 hs2' hlen2 => ?_⟩
  walk_at "rd"
  refine ⟨t2, a, cs2, ns, rfl, .inr (SqT.of g2), (e1.tr e2).sqT hA, by omega, by omega, fun t3 cs3 H3 ht3 e3 g3 hpv3 hl3 => ?_⟩
  have hdiff : ∀ r, pvl cs3 r = pvl (diffL ns) r := fun r => by rw [hpv3, hpv2, diffL_pv]
  obtain ⟨kk, hkk⟩ := pv_prefix cs3 (diffL ns) 0 (fun r _ => hdiff r) hl3
  have hlen3 : cs3.length ≤ m + 1 := by
    have := diffL_len ns
    rw [hkk, List.length_take]; omega
  have hc3 : ∀ c ∈ cs3, Sz (b + 10) c := fun c hc' => by
    rw [hkk] at hc'
    exact (diffL_sz hc c (List.mem_of_mem_take hc')).mono (by omega)
  walk_at "rd"
  refine hR m rfl _ _ _ _ ⟨t3, cs3, first, b + 10, rfl, SqT.of g3, hlen3, hl3, hc3, hf.mono (by omega), by omega, by omega, by omega, fun L inner H4 e4 g4 hC hLl => ?_⟩
  have hinner : inner.length ≤ 600 := by
    have : 2 ^ (m + 1) ≤ 2 ^ 7 := Nat.pow_le_pow_right (by decide) (by omega)
    omega
  have e14 : Ext H H4 := e1.tr (e2.tr (e3.tr e4))
  walk_at "rd"
  refine ⟨by show 1 ≤ sizeLine; decide, fun p5 h5 => ?_⟩
  have e5 := Ext.new (o := .lst [V.int first]) h5
  have g5 : (upd H4 p5 (.lst [V.int first])) p5 = some (.lst [V.int first]) := upd_same
  generalize upd H4 p5 (.lst [V.int first]) = H5 at *
  walk_at "rd"
  refine i_list' _ ?_ (SqL.of (e5 _ _ g4))
  refine lcL_gen (p := fun r => decide (r < w + 1)) (f := fun r => r) (SqL.of (e5 _ _ g4)) (by omega) (fun _ => rfl) (fun c _ H' R' _ h => ?_) (fun c _ _ H' R' _ h => ?_) (fun p6 h6 => ?_)
  · walk_at "rd"
    exact h
  · walk_at "rd"
    exact h
  rw [show ((inner.filter fun r => decide (r < w + 1)).map fun r => r) = (inner.filter fun r => decide (r < w + 1)) by simp]
  have e6 := Ext.new (o := .lst ((inner.filter fun r => decide (r < w + 1)).map V.int)) h6
  have g6 : (upd H5 p6 (.lst ((inner.filter fun r => decide (r < w + 1)).map V.int))) p6 = some (.lst ((inner.filter fun r => decide (r < w + 1)).map V.int)) := upd_same
  generalize upd H5 p6 (.lst ((inner.filter fun r => decide (r < w + 1)).map V.int)) = H6 at *
  have hfl : (inner.filter fun r => decide (r < w + 1)).length ≤ inner.length := List.length_filter_le _ _
  refine e_cat (fun p7 h7 => ?_) (e6 _ _ g5) g6 (by rw [List.length_map]; show 1 + _ ≤ 2 ^ 24; omega)
  have e7 := Ext.new (o := .lst ([V.int first] ++ (inner.filter fun r => decide (r < w + 1)).map V.int)) h7
  have g7 : (upd H6 p7 (.lst ([V.int first] ++ (inner.filter fun r => decide (r < w + 1)).map V.int))) p7 = some (.lst ([V.int first] ++ (inner.filter fun r => decide (r < w + 1)).map V.int)) := upd_same
  generalize upd H6 p7 (.lst ([V.int first] ++ (inner.filter fun r => decide (r < w + 1)).map V.int)) = H7 at *
  walk_at "rd"
  refine ⟨by show 1 ≤ sizeLine; decide, fun p8 h8 => ?_⟩
  have e8 := Ext.new (o := .lst [V.int (w + 1)]) h8
  refine e_cat (fun p9 h9 => ?_) (e8 _ _ g7) upd_same (by rw [List.length_append, List.length_map]; show 1 + _ + 1 ≤ 2 ^ 24; omega)
  have e9 := Ext.new (o := .lst ([V.int first] ++ (inner.filter fun r => decide (r < w + 1)).map V.int ++ [V.int (w + 1)])) h9
  have g9 : (upd (upd H7 p8 (.lst [V.int (w + 1)])) p9 (.lst ([V.int first] ++ (inner.filter fun r => decide (r < w + 1)).map V.int ++ [V.int (w + 1)]))) p9 = some (.lst ((first :: (inner.filter fun r => decide (r < w + 1)) ++ [w + 1]).map V.int)) := by
    rw [upd_same, List.map_append]; rfl
  have e49 : Ext H4 (upd (upd H7 p8 (.lst [V.int (w + 1)])) p9 (.lst ([V.int first] ++ (inner.filter fun r => decide (r < w + 1)).map V.int ++ [V.int (w + 1)]))) := e5.tr (e6.tr (e7.tr (e8.tr e9)))
  generalize upd (upd H7 p8 (.lst [V.int (w + 1)])) p9 (.lst ([V.int first] ++ (inner.filter fun r => decide (r < w + 1)).map V.int ++ [V.int (w + 1)])) = H9 at *
  obtain ⟨en, hen⟩ : ∃ en, first :: (inner.filter fun r => decide (r < w + 1)) ++ [w + 1] = en := ⟨_, rfl⟩
  rw [hen] at g9
  -- the ends ascend, and between two of them there is no turn
  have hasc : en.Pairwise (· < ·) := by
    rw [← hen, List.cons_append, List.pairwise_cons, List.pairwise_append]
    refine ⟨fun x hx => ?_, hC.asc.filter _, .cons (fun _ z => by cases z) .nil, fun x hx y hy => ?_⟩
    · rcases List.mem_append.mp hx with hx | hx
      · exact ((hC.mem x).mp (List.mem_filter.mp hx).1).1
      · simp only [List.mem_cons, List.not_mem_nil, or_false] at hx; omega
    · have := (List.mem_filter.mp hx).2
      simp only [List.mem_cons, List.not_mem_nil, or_false] at hy
      have := of_decide_eq_true this
      omega
  have hmem : ∀ x ∈ en, first ≤ x ∧ x ≤ w + 1 := fun x hx => by
    rw [← hen] at hx
    rcases List.mem_append.mp hx with hx | hx
    · rcases List.mem_cons.mp hx with rfl | hx
      · omega
      · have h1 := ((hC.mem x).mp (List.mem_filter.mp hx).1).1
        have h2 := of_decide_eq_true (List.mem_filter.mp hx).2
        omega
    · simp only [List.mem_cons, List.not_mem_nil, or_false] at hx; omega
  have hfil : ∀ x, x ∉ en → first < x → x < w + 1 → sgn (pvl (diffL ns) x) = sgn (pvl (diffL ns) (x - 1)) := fun x hx h1 h2 => by
    refine Classical.byContradiction fun z => hx ?_
    rw [← hen]
    have : x ∈ inner := (hC.mem x).mpr ⟨h1, by rw [hdiff, hdiff]; exact z⟩
    exact List.mem_append_left _ (List.mem_cons_of_mem _ (List.mem_filter.mpr ⟨this, decide_eq_true h2⟩))
  have hseg : ∀ (i : Nat) (x y : Int), en[i]? = some x → en[i + 1]? = some y → x < y ∧ MonOn (pvl ns) x y := fun i x y hx hy => by
    obtain ⟨hi, ex⟩ := List.getElem?_eq_some_iff.mp hx
    obtain ⟨hi1, ey⟩ := List.getElem?_eq_some_iff.mp hy
    have hxy : x < y := by
      have := List.pairwise_iff_getElem.mp hasc i (i + 1) hi hi1 (by omega); omega
    refine ⟨hxy, mon_seg (g := pvl (diffL ns)) (fun r => diffL_pv ns r) fun r h1 h2 => ?_⟩
    have hx' := hmem x (List.mem_of_getElem? hx)
    have hy' := hmem y (List.mem_of_getElem? hy)
    exact hfil r (asc_gap hasc hx hy h1 h2) (by omega) (by omega)
  have henl : en.length ≤ inner.length + 2 := by rw [← hen, List.length_append, List.length_cons]; simp; omega
  have henl2 : 2 ≤ en.length := by rw [← hen, List.length_append, List.length_cons]; simp
  have hen0 : en[0]? = some first := by rw [← hen]; rfl
  have henk : en[en.length - 1]? = some (w + 1) := by rw [← hen]; simp
  walk_at "rd"
  refine ⟨by show 0 ≤ sizeLine; decide, fun F hF => ?_⟩
  have e10 := Ext.new (o := .lst []) hF
  have g10 : (upd H9 F (.lst [])) F = some (.lst (([] : List Int).map V.int)) := upd_same
  have nF : H F = none := (e14.tr e49).non hF
  have g910 := e10 _ _ g9
  generalize upd H9 F (.lst []) = H10 at *
  have hA10 : SqT K H10 a (ns.map V.int) := (e14.tr (e49.tr e10)).sqT hA
  walk_at "rs1"
  refine s_for (i_zip ?_)
  walk_at "re"
  refine e_sl ?_
  walk_at "re"
  refine e_part ?_
  walk_at "re"
  refine e_part' ?_
  refine e_noP ?_
  refine e_slL (fun p11 h11 => ?_) (SqL.of g910)
  have e11 := Ext.new (o := .lst (cutV (en.map V.int) (some 1) none)) h11
  have hcut : cutV (en.map V.int) (some 1) none = (en.drop 1).map V.int := by
    unfold cutV
    rw [show HT.sIx (en.map V.int).length 0 (some 1) = 1 by
      rw [show (1 : Int) = ((1 : Nat) : Int) from rfl, HT.sIx_nat, List.length_map]; omega, HT.sIx_none, List.map_drop, List.take_of_length_le (by rw [List.length_drop]; omega)]
  have g11 : (upd H10 p11 (.lst (cutV (en.map V.int) (some 1) none))) p11 = some (.lst ((en.drop 1).map V.int)) := by rw [upd_same, hcut]
  generalize upd H10 p11 (.lst (cutV (en.map V.int) (some 1) none)) = H11 at *
  walk_at "re"
  refine ⟨p9, p11, en.map V.int, (en.drop 1).map V.int, rfl, SqL.of (e11 _ _ g910), SqL.of g11, ?_⟩
  have neF9 : p9 ≠ F := fun z => by rw [z] at g9; rw [g9] at hF; cases hF
  have neF11 : p11 ≠ F := fun z => by rw [z, g10] at h11; cases h11
  have hA11 := e11.sqT hA10
  have haF : ∀ {H'}, ExtB F H11 H' → SqT K H' a (ns.map V.int) := fun {H'} e => by
    have gF : H11 F = some (.lst (([] : List Int).map V.int)) := e11 _ _ g10
    rcases hA11 with h | h
    · rcases h with h | ⟨o, h⟩
      · exact .inl (.inl (e _ _ (fun z => by rw [z, gF] at h; cases h) h))
      · exact .inl (.inr ⟨o, e _ _ (fun z => by rw [z, gF] at h; cases h) h⟩)
    · exact .inr h
  refine for_it (walk_zip (K := K) (a := p9) (b := p11) (xs := en.map V.int) (ys := (en.drop 1).map V.int) (n := en.length - 1) (by rw [List.length_map, List.length_map, List.length_drop]; omega))
    (fun i σ H' => ExtB F H11 H' ∧ i ≤ en.length - 1 ∧ ∃ (cs : List Int) (x : Int) (w7 w8 : Option V), H' F = some (.lst (cs.map V.int)) ∧ cs.length ≤ 2 * i ∧ en[i]? = some x ∧ ChgIn (pvl ns) first x cs ∧ σ = [some (.ref a), some (.int first), some (.int (w + 1)), some (.ref L), some (.ref p9), none, some (.ref F), w7, w8])
    ⟨fun _ _ _ h => h, Nat.zero_le _, [], first, _, _, e11 _ _ g10, by simp, hen0, .nil, rfl⟩
    (fun i σ H' _ h => ⟨SqL.of (h.1 _ _ neF9 (e11 _ _ g910)), SqL.of (h.1 _ _ neF11 g11)⟩) ?_ ?_
  · rintro i v σ H12 H13 hi ⟨e12, _, cs, x, w7, w8, g12, hcl, hx, hCI, rfl⟩ ⟨T, vx, vy, rfl, hT, rfl, hvx, hvy⟩
    have hvx' : vx = .int x := by
      dsimp only at hvx
      rw [List.getElem?_map, hx] at hvx; cases hvx; rfl
    obtain ⟨y, hy⟩ : ∃ y, en[i + 1]? = some y := ⟨en[i + 1], List.getElem?_eq_getElem (by omega)⟩
    have hvy' : vy = .int y := by
      dsimp only at hvy
      rw [List.getElem?_map, List.getElem?_drop, Nat.add_comm 1 i, hy] at hvy; cases hvy; rfl
    subst hvx' hvy'
    obtain ⟨hxy, hmon⟩ := hseg i x y hx hy
    have e13 := Ext.new (o := .tup [V.int x, V.int y]) hT
    refine g_tup ?_ (SqT.of upd_same) rfl
    generalize upd H12 T (.tup [V.int x, V.int y]) = H13 at *
    walk_at "re"
    have hx' := hmem x (List.mem_of_getElem? hx)
    have hy' := hmem y (List.mem_of_getElem? hy)
    have hzz : (ns.length + 2) * (b + 4 + 1) ≤ 900000 := by
      have h1 : ns.length + 2 ≤ 12 := by omega
      exact Nat.le_trans (Nat.mul_le_mul h1 (show b + 4 + 1 ≤ 500 by omega)) (by decide)
    refine changes_L2 (z := b + 4) (i := i) (haF (e12.tr (ExtB.of e13))) (e13 _ _ g12) hxy hx'.1 hmon (fun c hc' => (hc c hc').mono (by omega)) (sz_between (hf.mono (by omega)) (hw4.mono (by omega)) hx'.1 hx'.2) (sz_between (hf.mono (by omega)) (hw4.mono (by omega)) hy'.1 hy'.2) hzz (by omega) hcl hCI fun H14 cs' w7 w8 e14 g14 hcl' hCI' => ?_
    exact ⟨(e12.tr (ExtB.of e13)).tr e14, by omega, cs', y, w7, w8, g14, hcl', hy, hCI', rfl⟩
  · rintro σ H12 ⟨e12, _, cs, x, w7, w8, g12, hcl, hx, hCI, rfl⟩
    rw [henk] at hx
    cases hx
    walk_at "rd"
    have hpre : ∀ r, w + 1 ≤ r → sgn (pvl ns r) = sgn (pvl ns s) := fun r hr => hsg r (by omega)
    refine q F cs H12 (fun bb ob zz => e12 _ _ (ne_of_none zz nF) (e11 _ _ (e10 _ _ (e49 _ _ (e14 _ _ zz))))) g12 ⟨hCI.asc, fun r => ?_⟩ ?_
    · rw [hCI.mem]
      constructor
      · rintro ⟨a1, a2, a3⟩; exact ⟨a1, a3⟩
      · rintro ⟨a1, a3⟩
        refine ⟨a1, ?_, a3⟩
        refine Classical.byContradiction fun z => a3 ?_
        rw [hpre r (by omega), hpre (r - 1) (by omega)]
    · rw [Nat.pow_succ]
      omega

theorem pure_changes0 (K : PySem.W.Frag) (vs : List V) (H : Hp) (Q : VK) (E : XK) (h : sp_changes K 0 vs H Q E) : rd_changes K (fun _ _ _ _ => False) { nx := fun _ H' => Q .non H', rt := Q } (start ["poly", "first", "last", "inner", "ends", "r", "found", "begun", "beyond"] vs) H :=
  changes_gen (fun m z => by omega) h
theorem pure_changesS (K : PySem.W.Frag) (n : Nat) (vs : List V) (H : Hp) (Q : VK) (E : XK) (h : sp_changes K (n + 1) vs H Q E) : rd_changes K (sp_changes K n) { nx := fun _ H' => Q .non H', rt := Q } (start ["poly", "first", "last", "inner", "ends", "r", "found", "begun", "beyond"] vs) H :=
  changes_gen (fun m z => by obtain rfl : n = m := by omega
                             exact fun _ _ _ _ h => h) h
/-! ### sign_from -/
/-- the sign from a place on -/
def SgF (f : Int → Int) (first : Int) (v : V) : Prop := (∃ i, v = .int i ∧ ∀ r, first ≤ r → sgn (f r) = i) ∨ (v = .non ∧ ∃ r, first ≤ r ∧ sgn (f r) ≠ sgn (f first))
def sp_sign_from (K : PySem.W.Frag) : Sp := fun vs H Q _ => ∃ (a : Addr) (ns : List Int) (first : Int), vs = [.ref a, .int first] ∧ SqA K H a (ns.map V.int) ∧ ns.length ≤ 8 ∧ (∀ c ∈ ns, Sz 300 c) ∧ Sz 300 first ∧ ∀ v H', Ext H H' → SgF (pvl ns) first v → Q v H'
def rd_sign_from (K : PySem.W.Frag) : TS := tSeq (tAsg (tCall (sp_trimmed K) [] E0 (tCons (tVar 0) (tNil))) (gName 0)) (tSeq (tIfS (tTest (tOp (rEqD K) (tVar 0) (tTup (tNil)))) (tRet (tC (.int 0))) (tNext)) (tSeq (tIfS (tTest (tOp (rNeD K) (tCall (sp_changes K 7) [] E0 (tCons (tVar 0) (tCons (tVar 1) (tNil)))) (tLst (tNil)))) (tRet (tC .non)) (tNext)) (tRet (tCall (sp_sign K) [] E0 (tCons (tCall (sp_poly_value K) [] E0 (tCons (tVar 0) (tCons (tVar 1) (tNil)))) (tNil))))))
theorem sh_nil (ns : List Int) : SeqAt.shaped (.tuple (ns.map PyData.int)) = true := by
  unfold SeqAt.shaped
  rw [PyData.canLay0, layI, PyData.depth, depI]; rfl
theorem eqv_nilT (ns : List Int) : PyData.eqv (.tuple (ns.map PyData.int)) (.tuple []) = decide (ns = []) := by
  cases ns with
  | nil => simp only [List.map_nil, PyData.eqv, PyData.eqvAll]; rfl
  | cons c cs => simp only [List.map_cons, PyData.eqv, PyData.eqvAll]; rfl
theorem eqv_nilL (ns : List Int) : PyData.eqv (.list (ns.map PyData.int)) (.list []) = decide (ns = []) := by
  cases ns with
  | nil => simp only [List.map_nil, PyData.eqv, PyData.eqvAll]; rfl
  | cons c cs => simp only [List.map_cons, PyData.eqv, PyData.eqvAll]; rfl
theorem pure_sign_from (K : PySem.W.Frag) (vs : List V) (H : Hp) (Q : VK) (E : XK) (h : sp_sign_from K vs H Q E) : rd_sign_from K { nx := fun _ H' => Q .non H', rt := Q } (start ["poly", "first"] vs) H := by
  obtain ⟨a, ns, first, rfl, hA, hlen, hc, hf, q⟩ := h
  have main : ∀ (t : Addr) (cs : List Int) (H1 : Hp), Ext H H1 → SqT K H1 t (cs.map V.int) → (∀ r, pvl cs r = pvl ns r) → cs.getLast? ≠ some 0 → (∀ c ∈ cs, c ∈ ns) → cs.length ≤ ns.length →
      (tSeq (tIfS (tTest (tOp (rEqD K) (tVar 0) (tTup (tNil)))) (tRet (tC (.int 0))) (tNext)) (tSeq (tIfS (tTest (tOp (rNeD K) (tCall (sp_changes K 7) [] E0 (tCons (tVar 0) (tCons (tVar 1) (tNil)))) (tLst (tNil)))) (tRet (tC .non)) (tNext)) (tRet (tCall (sp_sign K) [] E0 (tCons (tCall (sp_poly_value K) [] E0 (tCons (tVar 0) (tCons (tVar 1) (tNil)))) (tNil)))))) { nx := fun _ H' => Q .non H', rt := Q } [some (.ref t), some (.int first)] H1 := by
    intro t cs H1 e1 ht hpv hl hmem hlen'
    have hpv' : pvl cs = pvl ns := funext hpv
    walk_at "rd"
    refine ⟨by show 0 ≤ sizeLine; decide, fun p2 h2 => ?_⟩
    have e2 := Ext.new (o := .tup []) h2
    refine e_eqD (d := .tuple (cs.map PyData.int)) (e := .tuple []) ?_ (.tup (e2.sqT ht) (dpI cs)) (.tup (SqT.of upd_same) .nil) (sh_nil cs) (by kernel_rfl)
    rw [eqv_nilT]
    generalize upd H1 p2 (.tup []) = H2 at *
    walk_at "rd"
    refine e_ite (fun hnil => ?_) (fun hnil => ?_)
    · walk_at "rd"
      refine q _ H2 (e1.tr e2) (.inl ⟨0, rfl, fun r _ => ?_⟩)
      rw [← hpv, hnil]; rfl
    · walk_at "rd"
      refine ⟨t, cs, first, 300, rfl, e2.sqT ht, by omega, hl, fun c hc' => hc c (hmem c hc'), hf, by decide, by decide, by decide, fun L ch H3 e3 g3 hC _ => ?_⟩
      walk_at "rd"
      refine ⟨by show 0 ≤ sizeLine; decide, fun p4 h4 => ?_⟩
      have e4 := Ext.new (o := .lst []) h4
      refine e_neD (d := .list (ch.map PyData.int)) (e := .list []) ?_ (.lst (SqL.of (e4 _ _ g3)) (dpI ch)) (.lst (SqL.of upd_same) .nil) (shL ch) (by kernel_rfl)
      rw [eqv_nilL]
      generalize upd H3 p4 (.lst []) = H4 at *
      walk_at "rd"
      refine e_iteN (fun hne => ?_) (fun heq => ?_)
      · walk_at "rd"
        refine q _ H4 (e1.tr (e2.tr (e3.tr e4))) (.inr ⟨rfl, ?_⟩)
        rw [hpv'] at hC
        refine Classical.byContradiction fun z => hne ?_
        have all : ∀ r, first ≤ r → sgn (pvl ns r) = sgn (pvl ns first) := fun r hr => Classical.byContradiction fun z' => z ⟨r, hr, z'⟩
        cases ch with
        | nil => rfl
        | cons x xs =>
          exfalso
          obtain ⟨h1, h2⟩ := (hC.mem x).mp List.mem_cons_self
          exact h2 ((all x (by omega)).trans (all (x - 1) (by omega)).symm)
      · walk_at "rd"
        refine ⟨t, cs, first, 300, rfl, .inr ((e2.tr (e3.tr e4)).sqT ht), fun c hc' => hc c (hmem c hc'), hf, ?_, fun H5 e5 => ?_⟩
        · have : cs.length + 2 ≤ 10 := by omega
          exact Nat.le_trans (Nat.mul_le_mul_right _ this) (by decide)
        · walk_at "rd"
          refine ⟨_, rfl, ?_⟩
          rw [heq, hpv'] at hC
          refine q _ H5 (e1.tr (e2.tr (e3.tr (e4.tr e5)))) (.inl ⟨_, rfl, fun r hr => ?_⟩)
          rw [hC.none_ r hr, hpv']
  unfold rd_sign_from
  walk_at "rs1"
  walk_at "rs1"
  walk_at "re"
  rcases hA with hA | hA
  · exact .inl ⟨a, ns, rfl, hA, fun t cs H1 _ e1 g hpv hl hmem hlen' => main t cs H1 e1 (SqT.of g) hpv hl hmem hlen'⟩
  · exact .inr ⟨a, ns, rfl, hA, fun t cs H1 e1 g hpv hl hmem hlen' => main t cs H1 e1 g hpv hl hmem hlen'⟩
end FWL
namespace FWL
open PySem PySem.Spec PyProof.Rows L2 FW
/-! ### the check of a number -/
abbrev clsN (K : PySem.W.Frag) : Value := .ref (He.ga K "BadNumber")
def sp_check_numberX (K : PySem.W.Frag) : Sp := fun vs H Q E => ∃ (v : V) (n : String), vs = [v] ∧ WT K H v n ∧ (fromI v 0 = true → Q .non H) ∧ (fromI v 0 = false → ∀ d, H d = none → E (clsN K) (some d) (upd H d (.xd [("value", v)])))
def rd_check_numberX (K : PySem.W.Frag) (E : XK) : TS := tIfS (tNot (tB (tCall (sp_is_whole_from K) [] E0 (tCons (tVar 0) (tCons (tC (.int 0)) (tNil)))))) (FW.tRaiseE (He.ga K "BadNumber") "value" (fun cls d _ H => E cls d H) (tCons (tVar 0) (tNil))) (tNext)
theorem pure_check_numberX (K : PySem.W.Frag) (vs : List V) (H : Hp) (Q : VK) (E : XK) (h : sp_check_numberX K vs H Q E) : rd_check_numberX K E { nx := fun _ H' => Q .non H', rt := Q } (start ["n"] vs) H := by
  obtain ⟨v, n, rfl, hv, q1, q2⟩ := h
  unfold rd_check_numberX
  walk_at "rd"
  refine ⟨v, n, 0, rfl, hv, ?_⟩
  walk_at "rd"
  cases hb : fromI v 0 with
  | true =>
    walk_at "rd"
    exact q1 hb
  | false =>
    walk_at "rd"
    unfold tRaiseE tMkE
    walk_at "rd"
    exact ⟨v, rfl, q2 hb⟩
theorem fromI_of {v : V} {l : Int} (h : fromI v l = true) : ∃ i, v = .int i ∧ l ≤ i := by
  cases v <;> first | (simp [fromI, isInt] at h; done) | skip
  rename_i i
  exact ⟨i, rfl, of_decide_eq_true h⟩
theorem fromI_int {i l : Int} (h : l ≤ i) : fromI (.int i) l = true := by simp [fromI, isInt, iv, h]
theorem e_byE {C : Addr} {f : Str} {a : Addr} {cls : Value} {d : Option Addr} {te : TE} {σ : L2.St} {H : Hp} {Q : VK} (k : te σ H fun x H1 => x = .ref a ∧ cls = .ref C ∧ ∃ (dd : Addr) (v : V), d = some dd ∧ H1 dd = some (.xd [(f, v)]) ∧ Q v H1) : tByE C f a cls d te σ H Q := k
abbrev clsS (K : PySem.W.Frag) : Value := .ref (He.ga K "BadStart")
def sp_check_startX (K : PySem.W.Frag) : Sp := fun vs H Q E => ∃ (v : V) (n : String), vs = [v] ∧ WT K H v n ∧ (fromI v 1 = true → Q .non H) ∧ (fromI v 1 = false → ∀ d, H d = none → E (clsS K) (some d) (upd H d (.xd [("value", v)])))
def rd_check_startX (K : PySem.W.Frag) (E : XK) : TS := tIfS (tNot (tB (tCall (sp_is_whole_from K) [] E0 (tCons (tVar 0) (tCons (tC (.int 1)) (tNil)))))) (FW.tRaiseE (He.ga K "BadStart") "value" (fun cls d _ H => E cls d H) (tCons (tVar 0) (tNil))) (tNext)
theorem pure_check_startX (K : PySem.W.Frag) (vs : List V) (H : Hp) (Q : VK) (E : XK) (h : sp_check_startX K vs H Q E) : rd_check_startX K E { nx := fun _ H' => Q .non H', rt := Q } (start ["x"] vs) H := by
  obtain ⟨v, n, rfl, hv, q1, q2⟩ := h
  unfold rd_check_startX
  walk_at "rd"
  refine ⟨v, n, 1, rfl, hv, ?_⟩
  walk_at "rd"
  cases hb : fromI v 1 with
  | true =>
    walk_at "rd"
    exact q1 hb
  | false =>
    walk_at "rd"
    unfold tRaiseE tMkE
    walk_at "rd"
    exact ⟨v, rfl, q2 hb⟩
end FWL
namespace FWL
open PySem PySem.Spec PyProof.Rows L2 FW
/-! ### a number to try -/
theorem ExtB.ext {p : Addr} {H H' : Hp} (e : ExtB p H H') (h : H p = none) : Ext H H' := fun a o q => e a o (ne_of_none q h) q
theorem pow_lt_succ {r : Int} (hr : 1 ≤ r) : ∀ n : Nat, 1 ≤ n → r ^ n + 1 ≤ (r + 1) ^ n
  | 0, h => absurd h (by decide)
  | 1, _ => by rw [Int.pow_succ, Int.pow_succ, Int.pow_zero, Int.pow_zero]; omega
  | n + 2, _ => by
    have ih := pow_lt_succ hr (n + 1) (by omega)
    have hp : 1 ≤ r ^ (n + 1) := pow_pos' hr (n + 1)
    have e1 : (r + 1) ^ (n + 2) = (r + 1) ^ (n + 1) * (r + 1) := Int.pow_succ ..
    have e2 : r ^ (n + 2) = r ^ (n + 1) * r := Int.pow_succ ..
    rw [e1, e2]
    have h1 : (r ^ (n + 1) + 1) * (r + 1) ≤ (r + 1) ^ (n + 1) * (r + 1) := Int.mul_le_mul_of_nonneg_right ih (by omega)
    have h2 : (r ^ (n + 1) + 1) * (r + 1) = r ^ (n + 1) * r + r ^ (n + 1) + r + 1 := by grind
    omega
def sp_l_number (K : PySem.W.Frag) : Sp := fun vs H Q _ => ∃ (p : Addr) (k : Int) (n : Nat), vs = [.ref p, .int k] ∧ Strm H p n ∧ n + 10 < 1000000 ∧ 2 ≤ k ∧ k ≤ 4 ∧
  ∀ m H', 1 ≤ m → Sz 440 m → ExtB p H H' → Strm H' p (n + 10) → Q (.int m) H'
def rd_l_number_tl (K : PySem.W.Frag) : TS := tSeq (tAsg (tOp FW.rSub (tCall (sp_l_power K) [] E0 (tCons (tOp FW.rAdd (tVar 3) (tC (.int 1))) (tCons (tVar 1) (tNil)))) (tCall (sp_l_power K) [] E0 (tCons (tVar 3) (tCons (tVar 1) (tNil))))) (gName 4)) (tSeq (tAsg (tOp FW.rSub (tCall (sp_l_draw K) [] E0 (tCons (tVar 0) (tCons (tC (.int 9)) (tNil)))) (tC (.int 2))) (gName 5)) (tSeq (tAsg (tOp FW.rMul (tOp FW.rSub (tOp FW.rAdd (tVar 3) (tCB FW.rInt1 (tCons (tCall (sp_l_draw K) [] E0 (tCons (tVar 0) (tCons (tOp FW.rAdd (tVar 1) (tC (.int 2))) (tNil)))) (tNil)))) (tOp FW.rMul (tOp FW.rSub (tVar 1) (tC (.int 1))) (tVar 5))) (tCall (sp_l_power K) [] E0 (tCons (tOp FW.rAdd (tVar 3) (tVar 5)) (tCons (tOp FW.rSub (tVar 1) (tC (.int 1))) (tNil))))) (gName 6)) (tSeq (tAsg (tOp FW.rSub (tOp FW.rAdd (tOp FW.rSub (tVar 6) (tCall (sp_l_power K) [] E0 (tCons (tVar 3) (tCons (tVar 1) (tNil))))) (tCall (sp_l_draw K) [] E0 (tCons (tVar 0) (tCons (tC (.int 3)) (tNil))))) (tC (.int 1))) (gName 6)) (tSeq (tAsg (tCall (sp_l_pick K) [] E0 (tCons (tVar 0) (tCons (tLst (tCons (tC (.int 0)) (tCons (tC (.int 1)) (tCons (tOp FW.rSub (tVar 4) (tC (.int 1))) (tCons (tOp FW.rSub (tVar 4) (tC (.int 2))) (tCons (tCall (sp_l_draw K) [] E0 (tCons (tVar 0) (tCons (tVar 4) (tNil)))) (tCons (tVar 6) (tCons (tVar 6) (tNil))))))))) (tNil)))) (gName 7)) (tRet (tOp FW.rAdd (tCall (sp_l_power K) [] E0 (tCons (tVar 3) (tCons (tVar 1) (tNil)))) (tCB FW.rMax2 (tCons (tC (.int 0)) (tCons (tCB FW.rMin2 (tCons (tVar 7) (tCons (tOp FW.rSub (tVar 4) (tC (.int 1))) (tNil)))) (tNil)))))))))) 
def rd_l_number (K : PySem.W.Frag) : TS := tSeq (tAsg (tCall (sp_l_draw K) [] E0 (tCons (tVar 0) (tCons (tC (.int 5)) (tNil)))) (gName 2)) (tSeq (tIfS (tTest (tOp rEq (tVar 2) (tC (.int 0)))) (tRet (tOp FW.rAdd (tC (.int 1)) (tCall (sp_l_draw K) [] E0 (tCons (tVar 0) (tCons (tC (.int 120)) (tNil)))))) (tNext)) (tSeq (tAsg (tOp FW.rAdd (tC (.int 1)) (tCall (sp_l_draw K) [] E0 (tCons (tVar 0) (tCons (tC (.int 60)) (tNil))))) (gName 3)) (tSeq (tIfS (tTest (tOp FW.rGt (tVar 2) (tC (.int 2)))) (tAsg (tOp FW.rAdd (tVar 3) (tOp FW.rMul (tCB FW.rInt1 (tCons (tCall (sp_l_draw K) [] E0 (tCons (tVar 0) (tCons (tOp FW.rPow (tC (.int 10)) (tC (.int 12))) (tNil)))) (tNil))) (tCall (sp_l_pick K) [] E0 (tCons (tVar 0) (tCons (tLst (tCons (tC (.int 1)) (tCons (tOp FW.rPow (tC (.int 10)) (tC (.int 9))) (tCons (tOp FW.rPow (tC (.int 10)) (tC (.int 20))) (tNil))))) (tNil)))))) (gName 3)) (tNext)) (rd_l_number_tl K))))
theorem number_tl {K : PySem.W.Frag} {H : Hp} {D : Ends} {p : Addr} {k r : Int} {n : Nat} {u2 u4 u5 u6 u7 : Option V} (hS : Strm H p n) (hn : n + 5 < 1000000) (hk1 : 2 ≤ k) (hk4 : k ≤ 4) (hr : 1 ≤ r) (hrs : Sz 108 r)
    (q : ∀ m H', 1 ≤ m → Sz 440 m → ExtB p H H' → Strm H' p (n + 5) → D.rt (.int m) H') : rd_l_number_tl K D [some (.ref p), some (.int k), u2, some (.int r), u4, u5, u6, u7] H := by
  have hr1 : Sz 109 (r + 1) := hrs.add (by show (1 : Int).natAbs < 2 ^ 108; decide)
  have hrk : Sz 437 (r ^ k.toNat) := (hrs.mono (by decide : 108 ≤ 109)).powk (by decide) hk4
  have hrk1 : Sz 437 ((r + 1) ^ k.toNat) := hr1.powk (by decide) hk4
  have hp0 := pow_lt_succ hr k.toNat (by omega)
  have hp1 : 1 ≤ r ^ k.toNat := pow_pos' hr _
  unfold rd_l_number_tl
  walk_at "rd"
  refine ⟨r + 1, k, 109, rfl, by omega, hr1, by decide, pow_room hk4 (by decide), ?_⟩
  walk_at "rd"
  refine ⟨r, k, 108, rfl, by omega, hrs, by decide, pow_room hk4 (by decide), ?_⟩
  walk_at "rd"
  refine ⟨p, 9, n, rfl, hS, by omega, by decide, by decide, fun d1 H1 d10 d11 e1 s1 => ?_⟩
  walk_at "rd"
  refine ⟨p, k + 2, n + 1, rfl, s1, by omega, by omega, log2_small (by omega), fun d2 H2 d20 d21 e2 s2 => ?_⟩
  have his : Sz 108 (d1 - 2) := by
    show (d1 - 2).natAbs < 2 ^ 108
    have : 2 ^ 4 ≤ 2 ^ 108 := Nat.pow_le_pow_right (by decide) (by decide)
    omega
  have hris : Sz 109 (r + (d1 - 2)) := hrs.add his
  have k1s : Sz 10 (k - 1) := by show (k - 1).natAbs < 1024; omega
  have i1s : Sz 10 (d1 - 2) := by show (d1 - 2).natAbs < 1024; omega
  have d2s : Sz 108 d2 := Sz.mono (by show d2.natAbs < 2 ^ 10; omega) (by decide : 10 ≤ 108)
  walk_at "rd"
  · refine ⟨r + (d1 - 2), k - 1, 109, rfl, by omega, hris, by decide, pow_room (by omega) (by decide), ?_⟩
    have hrik : Sz 437 ((r + (d1 - 2)) ^ (k - 1).toNat) := hris.powk (by decide) (by omega)
    have h1 : Sz 110 (r + d2 - (k - 1) * (d1 - 2)) := ((hrs.add d2s).sub ((k1s.mul i1s).mono (by decide)))
    walk_at "rd"
    · refine ⟨r, k, 108, rfl, by omega, hrs, by decide, pow_room hk4 (by decide), ?_⟩
      walk_at "rd"
      refine ⟨p, 3, n + 2, rfl, s2, by omega, by omega, by decide, fun d3 H3 d30 d31 e3 s3 => ?_⟩
      walk_at "rd"
      generalize (r + d2 - (k - 1) * (d1 - 2)) * (r + (d1 - 2)) ^ (k - 1).toNat - r ^ k.toNat + d3 - 1 = turn
      refine ⟨p, (r + 1) ^ k.toNat - r ^ k.toNat, n + 3, rfl, s3, by omega, by omega, (hrk1.sub hrk).log2 (by decide) (by decide), fun d4 H4 d40 d41 e4 s4 => ?_⟩
      walk_at "rd"
      refine ⟨by show 7 ≤ sizeLine; decide, fun q5 hq5 => ?_⟩
      walk_at "rd"
      refine ⟨p, q5, _, n + 4, rfl, s4.ext (Ext.new hq5), by omega, s4.ne hq5, upd_same, by simp, by show 7 < 1000; decide, fun v H6 hv e6 s6 => ?_⟩
      obtain ⟨y, rfl⟩ : ∃ y : Int, v = .int y := by
        simp only [List.mem_cons, List.not_mem_nil, or_false] at hv
        rcases hv with rfl | rfl | rfl | rfl | rfl | rfl | rfl <;> exact ⟨_, rfl⟩
      walk_at "rd"
      refine ⟨r, k, 108, rfl, by omega, hrs, by decide, pow_room hk4 (by decide), ?_⟩
      walk_at "rd"
      refine q _ H6 ?_ ?_ (e1.tr (e2.tr (e3.tr (e4.tr ((ExtB.of (Ext.new hq5)).tr e6))))) s6
      · split <;> split <;> omega
      · refine Sz.of_le ?_ ?_ (hrk1.mono (by decide))
        · split <;> split <;> omega
        · split <;> split <;> omega
    · exact wide_mul h1 hrik (by decide) (by decide) (by decide)
  · exact wide_mul k1s i1s (by decide) (by decide) (by decide)
theorem pure_l_number (K : PySem.W.Frag) (vs : List V) (H : Hp) (Q : VK) (E : XK) (h : sp_l_number K vs H Q E) : rd_l_number K { nx := fun _ H' => Q .non H', rt := Q } (start ["_law_stream_here", "_law_k", "_law_way", "_law_floor", "_law_end", "_law_i", "_law_turn", "_law_some"] vs) H := by
  obtain ⟨p, k, n, rfl, hS, hn, hk1, hk4, q⟩ := h
  unfold rd_l_number
  walk_at "rd"
  refine ⟨p, 5, n, rfl, hS, by omega, by decide, by decide, fun d1 H1 d10 d11 e1 s1 => ?_⟩
  walk_at "rd"
  have hd : decide (V.int d1 = V.int 0) = decide (d1 = 0) := decide_eq_decide.mpr ⟨fun z => by injection z, fun z => by rw [z]⟩
  rw [hd]
  refine e_ite (fun h0 => ?_) (fun h0 => ?_)
  · walk_at "rd"
    refine ⟨p, 120, n + 1, rfl, s1, by omega, by decide, by decide, fun d2 H2 d20 d21 e2 s2 => ?_⟩
    walk_at "rd"
    refine q _ _ (by omega) ?_ (e1.tr e2) (s2.mono (by omega))
    exact Sz.mono (by show (1 + d2).natAbs < 2 ^ 10; omega) (by decide : 10 ≤ 440)
  · walk_at "rd"
    refine ⟨p, 60, n + 1, rfl, s1, by omega, by decide, by decide, fun d2 H2 d20 d21 e2 s2 => ?_⟩
    walk_at "rd"
    refine e_ite (fun h2 => ?_) (fun h2 => ?_)
    · walk_at "rd"
      · refine ⟨p, _, n + 2, rfl, s2, by omega, by decide, by decide, fun d3 H3 d30 d31 e3 s3 => ?_⟩
        have d31' : d3 < 10 ^ 12 := d31
        walk_at "rd"
        · refine ⟨by show 3 ≤ sizeLine; decide, fun q4 hq4 => ?_⟩
          walk_at "rd"
          refine ⟨p, q4, _, n + 3, rfl, s3.ext (Ext.new hq4), by omega, s3.ne hq4, upd_same, by simp, by show 3 < 1000; decide, fun v H5 hv e5 s5 => ?_⟩
          obtain ⟨y, rfl, y0, y1⟩ : ∃ y : Int, v = .int y ∧ 1 ≤ y ∧ y ≤ 10 ^ 20 := by
            simp only [List.mem_cons, List.not_mem_nil, or_false] at hv
            rcases hv with rfl | rfl | rfl <;> exact ⟨_, rfl, by decide, by decide⟩
          have hm0 : 0 ≤ d3 * y := Int.mul_nonneg d30 (by omega)
          have hm1 : d3 * y ≤ 10 ^ 12 * 10 ^ 20 := Int.mul_le_mul (by omega) y1 (by omega) (by decide)
          walk_at "rd"
          · refine number_tl (n := n + 4) s5 (by omega) hk1 hk4 (by omega) ?_ (fun m H' m1 ms e' s' => q m H' m1 ms (e1.tr (e2.tr (e3.tr ((ExtB.of (Ext.new hq4)).tr (e5.tr e'))))) (s'.mono (by omega)))
            show (1 + d2 + d3 * y).natAbs < 2 ^ 108
            have : (10 : Int) ^ 12 * 10 ^ 20 + 100 < 2 ^ 108 := by decide
            omega
          · refine wide_mul (a := 108) (b := 108) ?_ ?_ (by decide) (by decide) (by decide)
            · show d3.natAbs < 2 ^ 108
              have : (10 : Int) ^ 12 < 2 ^ 108 := by decide
              omega
            · show y.natAbs < 2 ^ 108
              have : (10 : Int) ^ 20 < 2 ^ 108 := by decide
              omega
        · exact ⟨by decide, by decide, by decide⟩
        · exact ⟨by decide, by decide, by decide⟩
      · exact ⟨by decide, by decide, by decide⟩
    · walk_at "rd"
      refine number_tl (n := n + 2) s2 (by omega) hk1 hk4 (by omega) ?_ (fun m H' m1 ms e' s' => q m H' m1 ms (e1.tr (e2.tr e')) (s'.mono (by omega)))
      exact Sz.mono (by show (1 + d2).natAbs < 2 ^ 10; omega) (by decide : 10 ≤ 108)
end FWL
namespace FWL
open PySem PySem.Spec PyProof.Rows L2 FW
/-! ### the law -/
mutual
theorem Dp.ext {K : PySem.W.Frag} {H H' : Hp} (e : Ext H H') : ∀ (d : PyData) (v : V), Dp K H v d → Dp K H' v d
  | .none, _, h => by cases h; exact .non
  | .bool b, _, h => by cases h; exact .bl b
  | .int i, _, h => by cases h; exact .int i
  | .str x, _, h => by cases h; exact .str x
  | .list ds, _, h => by
    cases h with
    | lst hs ha => exact .lst (e.sqL hs) (DpAll.ext e ds _ ha)
  | .tuple ds, _, h => by
    cases h with
    | tup hs ha => exact .tup (e.sqT hs) (DpAll.ext e ds _ ha)
  | .dict _, _, h => by cases h
theorem DpAll.ext {K : PySem.W.Frag} {H H' : Hp} (e : Ext H H') : ∀ (ds : List PyData) (vs : List V), DpAll K H vs ds → DpAll K H' vs ds
  | [], _, h => by cases h; exact .nil
  | d :: ds, _, h => by
    cases h with
    | cons h1 h2 => exact .cons (Dp.ext e d _ h1) (DpAll.ext e ds _ h2)
end
/-- a thing that may be told of, and compared -/
def Odd (K : PySem.W.Frag) (H : Hp) (v : V) : Prop := ∃ n d, WT K H v n ∧ Dp K H v d ∧ SeqAt.shaped (.tuple [.str "number", d]) = true ∧ SeqAt.shaped (.tuple [.str "start", d]) = true
theorem Odd.ext {K : PySem.W.Frag} {H H' : Hp} {v : V} (e : Ext H H') (h : Odd K H v) : Odd K H' v := by
  obtain ⟨n, d, h1, h2, h3⟩ := h
  exact ⟨n, d, h1.ext e, Dp.ext e d v h2, h3⟩
theorem Odd.i {K : PySem.W.Frag} {H : Hp} (i : Int) : Odd K H (.int i) := ⟨_, .int i, WT.i i, .int i, by kernel_rfl, by kernel_rfl⟩
theorem Odd.b {K : PySem.W.Frag} {H : Hp} (i : Bool) : Odd K H (.bl i) := ⟨_, .bool i, WT.bl i, .bl i, by kernel_rfl, by kernel_rfl⟩
theorem Odd.n {K : PySem.W.Frag} {H : Hp} : Odd K H .non := ⟨_, .none, WT.non, .non, by kernel_rfl, by kernel_rfl⟩
theorem Odd.s9 {K : PySem.W.Frag} {H : Hp} : Odd K H (.str "9") := ⟨_, .str "9", WT.s _, .str _, by kernel_rfl, by kernel_rfl⟩
theorem Odd.s1 {K : PySem.W.Frag} {H : Hp} : Odd K H (.str "1") := ⟨_, .str "1", WT.s _, .str _, by kernel_rfl, by kernel_rfl⟩
theorem Odd.l {K : PySem.W.Frag} {H : Hp} {a : Addr} {i : Int} (h : H a = some (.lst [.int i])) : Odd K H (.ref a) := ⟨_, .list [.int i], WT.lst h, .lst (SqL.of h) (.cons (.int i) .nil), by kernel_rfl, by kernel_rfl⟩
theorem Odd.t {K : PySem.W.Frag} {H : Hp} {a : Addr} {i : Int} (h : H a = some (.tup [.int i])) : Odd K H (.ref a) := ⟨_, .tuple [.int i], WT.tup h, .tup (SqT.of h) (.cons (.int i) .nil), by kernel_rfl, by kernel_rfl⟩
theorem Strm.neI {H : Hp} {p x : Addr} {n : Nat} {K : PySem.W.Frag} {l : Lp} (h : Strm H p n) (hx : IsLp K H x l) : x ≠ p := by
  obtain ⟨dx, hx⟩ := hx
  obtain ⟨a, b, c, h1, _⟩ := h
  exact ne_of hx h1 (by intro z; cases z)
theorem IsLp.extB {H H' : Hp} {p x : Addr} {n : Nat} {K : PySem.W.Frag} {l : Lp} (hx : IsLp K H x l) (h : Strm H p n) (e : ExtB p H H') : IsLp K H' x l := by
  have := h.neI hx
  obtain ⟨dx, hx⟩ := hx
  exact ⟨dx, e _ _ this hx⟩
/-! monotone steps from behind the root on -/
theorem quot_step {m : Nat} {n x : Int} (hm : m = 1 ∨ m = 2 ∨ m = 3) (hn : 0 ≤ n) (hx : 1 ≤ x) (h : n < x ^ (m + 1)) : n / x ^ m ≤ n / (x + 1) ^ m + m := by
  have hp : 1 ≤ x ^ m := pow_pos' hx m
  have hp1 : 1 ≤ (x + 1) ^ m := pow_pos' (by omega) m
  have q1 : n / x ^ m * x ^ m ≤ n := Int.ediv_mul_le _ (by omega)
  have q2 : n / x ^ m < x := by
    rw [Int.ediv_lt_iff_lt_mul (by omega)]
    rw [Int.pow_succ, Int.mul_comm] at h
    exact h
  have q0 : 0 ≤ n / x ^ m := Int.ediv_nonneg hn (by omega)
  have r0 : 0 ≤ n / (x + 1) ^ m := Int.ediv_nonneg hn (by omega)
  generalize n / x ^ m = q at *
  rcases Int.lt_or_le (m : Int) q with hq | hq
  · have : q - m ≤ n / (x + 1) ^ m := by
      rw [Int.le_ediv_iff_mul_le (by omega)]
      refine Int.le_trans ?_ q1
      have hxq : x * (q - x) ≤ 0 := Int.mul_nonpos_of_nonneg_of_nonpos (by omega) (by omega)
      have hxx : x * x * (q - x) ≤ 0 := Int.mul_nonpos_of_nonneg_of_nonpos (Int.mul_nonneg (by omega) (by omega)) (by omega)
      have hx2 : 0 ≤ x * x := Int.mul_nonneg (by omega) (by omega)
      rcases hm with rfl | rfl | rfl
      · have e : (q - ((1 : Nat) : Int)) * (x + 1) ^ 1 = q * x ^ 1 + (q - x - 1) := by grind
        rw [e]; omega
      · have e : (q - ((2 : Nat) : Int)) * (x + 1) ^ 2 = q * x ^ 2 + 2 * (x * (q - x)) + (q - 4 * x - 2) := by grind
        rw [e]; omega
      · have e : (q - ((3 : Nat) : Int)) * (x + 1) ^ 3 = q * x ^ 3 + 3 * (x * x * (q - x)) + 3 * (x * (q - x)) - 6 * (x * x) + (q - 9 * x - 3) := by grind
        rw [e]; omega
    omega
  · omega
theorem led_nonneg {l : Lp} (o : l.Ok) {n x : Int} (hn : 0 ≤ n) (hx : 1 ≤ x) : 0 ≤ l.led n x := by
  have a1 := o.a1; have c1 := o.c1; have d0 := o.d0
  have hp : 1 ≤ x ^ (l.k - 1).toNat := pow_pos' hx _
  have q0 : 0 ≤ n / x ^ (l.k - 1).toNat := Int.ediv_nonneg hn (by omega)
  have h1 : l.a * 1 ≤ l.a * x := Int.mul_le_mul_of_nonneg_left hx (by omega)
  have h2 : 0 ≤ l.c * (n / x ^ (l.k - 1).toNat) := Int.mul_nonneg (by omega) q0
  unfold Lp.led
  exact Int.ediv_nonneg (by omega) (by omega)
theorem led_step {l : Lp} (o : l.Ok) {n x : Int} (hn : 0 ≤ n) (hx : 1 ≤ x) (h : n < x ^ l.k.toNat) : l.led n x ≤ l.led n (x + 1) := by
  have a1 := o.a1; have c1 := o.c1; have ca := o.ca; have hk := o.hk
  obtain ⟨m, hm, hm3⟩ : ∃ m : Nat, (l.k - 1).toNat = m ∧ (m = 1 ∨ m = 2 ∨ m = 3) := ⟨_, rfl, by omega⟩
  have hkm : l.k.toNat = m + 1 := by omega
  rw [hkm] at h
  have qs := quot_step hm3 hn hx h
  unfold Lp.led
  rw [hm]
  refine Int.ediv_le_ediv (by omega) ?_
  have h1 : l.c * (n / x ^ m) ≤ l.c * (n / (x + 1) ^ m + m) := Int.mul_le_mul_of_nonneg_left qs (by omega)
  have hmk : (m : Int) = l.k - 1 := by omega
  rw [hmk, Int.mul_add] at h1
  have h2 : l.a * (x + 1) = l.a * x + l.a := by rw [Int.mul_add, Int.mul_one]
  omega
theorem led_mono {l : Lp} (o : l.Ok) {n x : Int} (hn : 0 ≤ n) (hx : 1 ≤ x) (h : n < x ^ l.k.toNat) : ∀ j : Nat, l.led n x ≤ l.led n (x + j)
  | 0 => by simp
  | j + 1 => by
    refine Int.le_trans (led_mono o hn hx h j) ?_
    have e : x + ((j + 1 : Nat) : Int) = x + j + 1 := by omega
    rw [e]
    refine led_step o hn (by omega) (Int.lt_of_lt_of_le h (pow_mono (by omega) (by omega) _))
end FWL
namespace FWL
open PySem PySem.Spec PyProof.Rows L2 FW
/-! ### polynomials, as lists -/
def trm : List Int → List Int
  | [] => []
  | c :: cs => match trm cs with
    | [] => if c = 0 then [] else [c]
    | t :: ts => c :: t :: ts
def scaL (c : Int) (b : List Int) : List Int := b.map fun x => c * x
def mulL : List Int → List Int → List Int
  | [], _ => []
  | c :: cs, b => addL (scaL c b) (0 :: mulL cs b)
def negL (b : List Int) : List Int := b.map fun x => -x
def pAdd (a b : List Int) : List Int := trm (addL a b)
def pLess (a b : List Int) : List Int := trm (addL a (negL b))
def pMul (a b : List Int) : List Int := trm (mulL a b)
def pPow (p : List Int) : Nat → List Int
  | 0 => [1]
  | k + 1 => pMul (pPow p k) p
theorem pv_trm : ∀ (cs : List Int) (r : Int), pvl (trm cs) r = pvl cs r
  | [], _ => rfl
  | c :: cs, r => by
    have ih := pv_trm cs r
    unfold trm
    cases h : trm cs with
    | nil =>
      rw [h] at ih
      have ih : (0 : Int) = pvl cs r := ih
      show pvl (if c = 0 then [] else [c]) r = c + r * pvl cs r
      rw [← ih]
      by_cases hc : c = 0
      · rw [if_pos hc, hc]; simp [pvl]
      · rw [if_neg hc]; simp [pvl]
    | cons t ts =>
      rw [h] at ih
      show c + r * pvl (t :: ts) r = c + r * pvl cs r
      rw [ih]
theorem trm_last : ∀ cs : List Int, (trm cs).getLast? ≠ some 0
  | [] => by simp [trm]
  | c :: cs => by
    have ih := trm_last cs
    unfold trm
    cases h : trm cs with
    | nil =>
      by_cases hc : c = 0
      · simp [hc]
      · simp [hc]
    | cons t ts =>
      rw [h] at ih
      show (c :: t :: ts).getLast? ≠ some 0
      rw [List.getLast?_cons_cons]; exact ih
theorem trm_mem : ∀ {cs : List Int} {c : Int}, c ∈ trm cs → c ∈ cs
  | [], _, h => by cases h
  | d :: cs, c, h => by
    unfold trm at h
    cases e : trm cs with
    | nil =>
      rw [e] at h
      by_cases hd : d = 0
      · simp [hd] at h
      · simp [hd] at h; rw [h]; exact List.mem_cons_self
    | cons t ts =>
      rw [e] at h
      have h : c ∈ d :: t :: ts := h
      rcases List.mem_cons.mp h with h | h
      · rw [h]; exact List.mem_cons_self
      · exact List.mem_cons_of_mem _ (trm_mem (by rw [e]; exact h))
theorem trm_len : ∀ cs : List Int, (trm cs).length ≤ cs.length
  | [] => Nat.le_refl _
  | c :: cs => by
    have ih := trm_len cs
    unfold trm
    cases e : trm cs with
    | nil =>
      by_cases hc : c = 0
      · simp [hc]
      · simp [hc]
    | cons t ts => rw [e] at ih; simp only [List.length_cons] at ih ⊢; omega
theorem pv_sca (c : Int) (b : List Int) (r : Int) : pvl (scaL c b) r = c * pvl b r := by
  induction b with
  | nil => simp [scaL, pvl]
  | cons x b ih =>
    show c * x + r * pvl (scaL c b) r = c * (x + r * pvl b r)
    rw [ih]; grind
theorem pv_mulL : ∀ (a b : List Int) (r : Int), pvl (mulL a b) r = pvl a r * pvl b r
  | [], b, r => by simp [mulL, pvl]
  | c :: cs, b, r => by
    unfold mulL
    rw [pv_addL, pv_sca]
    show c * pvl b r + (0 + r * pvl (mulL cs b) r) = (c + r * pvl cs r) * pvl b r
    rw [pv_mulL cs b r]; grind
theorem pv_add (a b : List Int) (r : Int) : pvl (pAdd a b) r = pvl a r + pvl b r := by unfold pAdd; rw [pv_trm, pv_addL]
theorem pv_less (a b : List Int) (r : Int) : pvl (pLess a b) r = pvl a r - pvl b r := by unfold pLess negL; rw [pv_trm, pv_addL, pv_neg]; omega
theorem pv_mul (a b : List Int) (r : Int) : pvl (pMul a b) r = pvl a r * pvl b r := by unfold pMul; rw [pv_trm, pv_mulL]
theorem pv_pow (p : List Int) (r : Int) : ∀ k, pvl (pPow p k) r = pvl p r ^ k
  | 0 => by simp [pPow, pvl]
  | k + 1 => by unfold pPow; rw [pv_mul, pv_pow p r k, Int.pow_succ]
/-- values nought everywhere -/
theorem pv_nought : ∀ {cs : List Int}, (∀ r, pvl cs r = 0) → ∀ c, c ∈ cs → c = 0
  | [], _, _, h => by cases h
  | d :: cs, h, c, hc => by
    have d0 : d = 0 := by have := h 0; simp [pvl] at this; exact this
    have nz : ∀ r, r ≠ 0 → pvl cs r = 0 := fun r hr => by
      have := h r
      simp only [pvl, d0, Int.zero_add] at this
      exact (Int.mul_eq_zero.mp this).resolve_left hr
    have z0 : pvl cs 0 = 0 := by
      cases cs with
      | nil => rfl
      | cons x xs =>
        have h1 := nz (x.natAbs + 1) (by omega)
        have e0 : pvl (x :: xs) 0 = x := by simp [pvl]
        rw [e0]
        have h2 : x + ((x.natAbs : Int) + 1) * pvl xs (x.natAbs + 1) = 0 := h1
        generalize pvl xs ((x.natAbs : Int) + 1) = t at h2
        rcases Int.lt_trichotomy t 0 with z | z | z
        · have h3 : ((x.natAbs : Int) + 1) * t ≤ ((x.natAbs : Int) + 1) * (-1) := Int.mul_le_mul_of_nonneg_left (by omega) (by omega)
          omega
        · rw [z] at h2; omega
        · have h3 : ((x.natAbs : Int) + 1) * 1 ≤ ((x.natAbs : Int) + 1) * t := Int.mul_le_mul_of_nonneg_left (by omega) (by omega)
          omega
    have all : ∀ r, pvl cs r = 0 := fun r => by
      by_cases hr : r = 0
      · rw [hr]; exact z0
      · exact nz r hr
    rcases List.mem_cons.mp hc with e | e
    · rw [e]; exact d0
    · exact pv_nought all c e
theorem pv_uniq : ∀ {cs ds : List Int}, (∀ r, pvl cs r = pvl ds r) → cs.getLast? ≠ some 0 → ds.getLast? ≠ some 0 → cs = ds
  | [], [], _, _, _ => rfl
  | [], d :: ds, h, _, h2 => by
    have z := pv_nought (cs := d :: ds) (fun r => (h r).symm)
    have hm := List.getLast_mem (l := d :: ds) (by simp)
    rw [List.getLast?_eq_some_getLast (by simp)] at h2
    exact absurd (congrArg some (z _ hm)) h2
  | c :: cs, [], h, h1, _ => by
    have z := pv_nought (cs := c :: cs) (fun r => h r)
    have hm := List.getLast_mem (l := c :: cs) (by simp)
    rw [List.getLast?_eq_some_getLast (by simp)] at h1
    exact absurd (congrArg some (z _ hm)) h1
  | c :: cs, d :: ds, h, h1, h2 => by
    have e0 : c = d := by have := h 0; simp [pvl] at this; exact this
    have df : ∀ r, pvl (addL cs (negL ds)) r = 0 ∨ r = 0 := fun r => by
      by_cases hr : r = 0
      · exact .inr hr
      · refine .inl ?_
        have := h r
        simp only [pvl, e0] at this
        have h3 : r * pvl cs r = r * pvl ds r := by omega
        have h4 := Int.eq_of_mul_eq_mul_left hr h3
        unfold negL
        rw [pv_addL, pv_neg]; omega
    have all : ∀ r, pvl (0 :: addL cs (negL ds)) r = 0 := fun r => by
      rcases df r with z | z
      · simp [pvl, z]
      · simp [pvl, z]
    have zz := pv_nought all
    have ez : ∀ r, pvl cs r = pvl ds r := fun r => by
      have h5 := pv_zeros (xs := addL cs (negL ds)) (fun c hc => zz c (List.mem_cons_of_mem _ hc)) r
      unfold negL at h5
      rw [pv_addL, pv_neg] at h5; omega
    rw [e0]
    by_cases hcs : cs = []
    · by_cases hds : ds = []
      · rw [hcs, hds]
      · have : ds.getLast? ≠ some 0 := by
          intro z; apply h2
          cases ds with
          | nil => exact absurd rfl hds
          | cons x xs => rw [List.getLast?_cons_cons]; exact z
        rw [hcs] at ez ⊢
        rw [← pv_uniq ez (by simp) this]
    · have l1 : cs.getLast? ≠ some 0 := by
        intro z; apply h1
        cases cs with
        | nil => exact absurd rfl hcs
        | cons x xs => rw [List.getLast?_cons_cons]; exact z
      by_cases hds : ds = []
      · rw [hds] at ez ⊢
        rw [pv_uniq ez l1 (by simp)]
      · have l2 : ds.getLast? ≠ some 0 := by
          intro z; apply h2
          cases ds with
          | nil => exact absurd rfl hds
          | cons x xs => rw [List.getLast?_cons_cons]; exact z
        rw [pv_uniq ez l1 l2]
  termination_by cs ds => cs.length + ds.length
/-- coefficients below 2 ^ b, at most m of them -/
def PZ (m b : Nat) (cs : List Int) : Prop := cs.length ≤ m ∧ ∀ c, c ∈ cs → Sz b c
theorem PZ.mono {m m' b b' : Nat} {cs : List Int} (h : PZ m b cs) (h1 : m ≤ m') (h2 : b ≤ b') : PZ m' b' cs := ⟨Nat.le_trans h.1 h1, fun c hc => Sz.mono (h.2 c hc) h2⟩
theorem PZ.add {m n b : Nat} {cs ds : List Int} (h1 : PZ m b cs) (h2 : PZ n b ds) : PZ (max m n) (b + 1) (pAdd cs ds) := by
  refine ⟨?_, fun c hc => addL_sz h1.2 h2.2 c (trm_mem hc)⟩
  have := trm_len (addL cs ds)
  rw [addL_len] at this
  have := h1.1; have := h2.1
  unfold pAdd; omega
theorem PZ.neg {m b : Nat} {cs : List Int} (h : PZ m b cs) : PZ m b (negL cs) := by
  refine ⟨by unfold negL; rw [List.length_map]; exact h.1, fun c hc => ?_⟩
  obtain ⟨d, hd, rfl⟩ := List.mem_map.mp hc
  have := h.2 d hd
  show (-d).natAbs < _
  rw [Int.natAbs_neg]; exact this
theorem PZ.less {m n b : Nat} {cs ds : List Int} (h1 : PZ m b cs) (h2 : PZ n b ds) : PZ (max m n) (b + 1) (pLess cs ds) := by
  have h2 := h2.neg
  refine ⟨?_, fun c hc => addL_sz h1.2 h2.2 c (trm_mem hc)⟩
  have := trm_len (addL cs (negL ds))
  rw [addL_len] at this
  have := h1.1; have := h2.1
  unfold pLess; omega
end FWL
namespace FWL
open PySem PySem.Spec PyProof.Rows L2 FW
/-! ### how far steps lead -/
theorem Lp.Ok.cases {l : Lp} (o : l.Ok) : (l.k, l.a, l.c) ∈ ([(2, 1, 1), (2, 2, 1), (2, 2, 2), (2, 3, 1), (2, 3, 2), (2, 3, 3), (2, 4, 1), (2, 4, 2), (2, 5, 1), (3, 2, 1), (3, 3, 1), (3, 4, 1), (3, 4, 2), (3, 5, 1), (4, 3, 1), (4, 4, 1), (4, 5, 1)] : List (Int × Int × Int)) := by
  obtain ⟨k, a, c, d, st, td, md⟩ := l
  have hk := o.hk; have a1 := o.a1; have a5 := o.a5; have c1 := o.c1; have c3 := o.c3; have ca := o.ca; have ac := o.ac
  dsimp only at *
  have ha : a = 1 ∨ a = 2 ∨ a = 3 ∨ a = 4 ∨ a = 5 := by omega
  have hc : c = 1 ∨ c = 2 ∨ c = 3 := by omega
  clear o
  rcases hk with rfl | rfl | rfl <;> rcases ha with rfl | rfl | rfl | rfl | rfl <;> rcases hc with rfl | rfl | rfl <;> first | (exfalso; omega) | simp
theorem q_up {n r x : Int} {j : Nat} (hr : 0 ≤ r) (h2 : n < (r + 1) ^ (j + 1)) (hx : r + 1 ≤ x) : n / x ^ j ≤ r := by
  have hp : 1 ≤ x ^ j := pow_pos' (by omega) j
  have h : n / x ^ j < r + 1 := by
    rw [Int.ediv_lt_iff_lt_mul (by omega)]
    refine Int.lt_of_lt_of_le h2 ?_
    rw [Int.pow_succ, Int.mul_comm]
    exact Int.mul_le_mul_of_nonneg_left (pow_mono (by omega) hx j) (by omega)
  omega
theorem q_lo {n r x : Int} {j : Nat} (hr : 0 ≤ r) (h1 : r ^ (j + 1) ≤ n) (hx : 1 ≤ x) : (j + 1 : Int) * r - j * x ≤ n / x ^ j := by
  have hp : 1 ≤ x ^ j := pow_pos' hx j
  rw [Int.le_ediv_iff_mul_le (by omega)]
  have h := conv x r (by omega) hr j
  have e : ((j + 1 : Int) * r - j * x) * x ^ j = x ^ (j + 1) + (j + 1 : Int) * x ^ j * (r - x) := by rw [Int.pow_succ]; grind
  rw [e]; omega
theorem q_near {n r x : Int} {j : Nat} (hj : j = 1 ∨ j = 2 ∨ j = 3) (hr : 0 ≤ r) (h2 : n < (r + 1) ^ (j + 1)) (hx : 1 ≤ x) (hx6 : r - 6 ≤ x) : n / x ^ j ≤ r + 4100 := by
  have hp : 1 ≤ x ^ j := pow_pos' hx j
  have h : n / x ^ j < r + 4101 := by
    rw [Int.ediv_lt_iff_lt_mul (by omega)]
    refine Int.lt_of_lt_of_le h2 ?_
    rcases Int.lt_or_le r 8 with h8 | h8
    · have : (r + 1) ^ (j + 1) ≤ 8 ^ (j + 1) := pow_mono (by omega) (by omega) _
      have h3 : (8 : Int) ^ (j + 1) ≤ 4096 := by rcases hj with rfl | rfl | rfl <;> decide
      have h4 : (r + 4101) * 1 ≤ (r + 4101) * x ^ j := Int.mul_le_mul_of_nonneg_left hp (by omega)
      omega
    · obtain ⟨t, rfl⟩ : ∃ t : Nat, r = (t : Int) + 8 := ⟨(r - 8).toNat, by omega⟩
      have hxt : ((t : Int) + 2) ^ j ≤ x ^ j := pow_mono (by omega) (by omega) j
      have h4 : ((t : Int) + 8 + 4101) * ((t : Int) + 2) ^ j ≤ ((t : Int) + 8 + 4101) * x ^ j := Int.mul_le_mul_of_nonneg_left hxt (by omega)
      refine Int.le_trans ?_ h4
      have t0 : (0 : Int) ≤ t := by omega
      have t2 : (0 : Int) ≤ (t : Int) * t := Int.mul_nonneg t0 t0
      have t3 : (0 : Int) ≤ (t : Int) * t * t := Int.mul_nonneg t2 t0
      rcases hj with rfl | rfl | rfl
      · have e : ((t : Int) + 8 + 4101) * ((t : Int) + 2) ^ 1 = ((t : Int) + 8 + 1) ^ (1 + 1) + (4093 * t + 8137) := by grind
        rw [e]; omega
      · have e : ((t : Int) + 8 + 4101) * ((t : Int) + 2) ^ 2 = ((t : Int) + 8 + 1) ^ (2 + 1) + (4086 * (t * t) + 16197 * t + 15707) := by grind
        rw [e]; omega
      · have e : ((t : Int) + 8 + 4101) * ((t : Int) + 2) ^ 3 = ((t : Int) + 8 + 1) ^ (3 + 1) + (4079 * (t * t * t) + 24180 * (t * t) + 46400 * t + 26311) := by grind
        rw [e]; omega
  omega
/-- a number and its root -/
structure RootOf (k n r : Int) : Prop where
  r0 : 0 ≤ r
  lo : r ^ k.toNat ≤ n
  hi : n < (r + 1) ^ k.toNat
theorem led_up {l : Lp} (o : l.Ok) {n r x : Int} (R : RootOf l.k n r) (hx : r + 1 ≤ x) : 6 * (l.led n x - r) ≤ 5 * (x - r) + 6 := by
  obtain ⟨r0, h1, h2⟩ := R
  have hc := o.cases
  have d0 := o.d0; have d1 := o.d1
  unfold Lp.led
  obtain ⟨k, a, c, d, st, td, md⟩ := l
  dsimp only at *
  simp only [List.mem_cons, Prod.mk.injEq, List.not_mem_nil, or_false] at hc
  rcases hc with ⟨rfl, rfl, rfl⟩ | ⟨rfl, rfl, rfl⟩ | ⟨rfl, rfl, rfl⟩ | ⟨rfl, rfl, rfl⟩ | ⟨rfl, rfl, rfl⟩ | ⟨rfl, rfl, rfl⟩ | ⟨rfl, rfl, rfl⟩ | ⟨rfl, rfl, rfl⟩ | ⟨rfl, rfl, rfl⟩ | ⟨rfl, rfl, rfl⟩ | ⟨rfl, rfl, rfl⟩ | ⟨rfl, rfl, rfl⟩ | ⟨rfl, rfl, rfl⟩ | ⟨rfl, rfl, rfl⟩ | ⟨rfl, rfl, rfl⟩ | ⟨rfl, rfl, rfl⟩ | ⟨rfl, rfl, rfl⟩
  all_goals
    first
    | (have q := q_up (j := 1) r0 h2 hx; change _ at q; generalize hq : n / x ^ 1 = qq at q; show 6 * ((_ * x + _ * (n / x ^ 1) + d) / (_ + _) - r) ≤ _; rw [hq]; omega)
    | (have q := q_up (j := 2) r0 h2 hx; generalize hq : n / x ^ 2 = qq at q; show 6 * ((_ * x + _ * (n / x ^ 2) + d) / (_ + _) - r) ≤ _; rw [hq]; omega)
    | (have q := q_up (j := 3) r0 h2 hx; generalize hq : n / x ^ 3 = qq at q; show 6 * ((_ * x + _ * (n / x ^ 3) + d) / (_ + _) - r) ≤ _; rw [hq]; omega)
/-- the quotient of a step, and its ends -/
theorem led_q {l : Lp} (o : l.Ok) {n r x : Int} (R : RootOf l.k n r) (hx : 1 ≤ x) : ∃ q : Int, l.led n x = (l.a * x + l.c * q + l.d) / (l.a + l.c) ∧ l.k * r - (l.k - 1) * x ≤ q ∧ 0 ≤ q ∧ (r + 1 ≤ x → q ≤ r) ∧ (r - 6 ≤ x → q ≤ r + 4100) ∧ q ≤ n := by
  obtain ⟨r0, h1, h2⟩ := R
  have hk := o.hk
  obtain ⟨j, hj, hj3⟩ : ∃ j : Nat, l.k = (j : Int) + 1 ∧ (j = 1 ∨ j = 2 ∨ j = 3) := ⟨(l.k - 1).toNat, by omega, by omega⟩
  have e1 : (l.k - 1).toNat = j := by omega
  have e2 : l.k.toNat = j + 1 := by omega
  have n0 : 0 ≤ n := Int.le_trans (Int.pow_nonneg r0) h1
  rw [e2] at h1 h2
  have hp : 1 ≤ x ^ j := pow_pos' hx j
  refine ⟨n / x ^ j, ?_, ?_, Int.ediv_nonneg n0 (by omega), fun h => q_up r0 h2 h, fun h => q_near hj3 r0 h2 hx h, Int.ediv_le_self _ n0⟩
  · unfold Lp.led; rw [e1]
  · have := q_lo r0 h1 hx
    rw [hj]
    have e : ((j : Int) + 1 - 1) = j := by omega
    rw [e]; exact this
theorem led_lo {l : Lp} (o : l.Ok) {n r x : Int} (R : RootOf l.k n r) (hx : 1 ≤ x) : 3 * (r - l.led n x) ≤ 2 * (r - x) + 6 ∨ r ≤ x := by
  obtain ⟨q, e, q1, q0, q2, q3, qn⟩ := led_q o R hx
  rw [e]
  have hc := o.cases
  have d0 := o.d0; have d1 := o.d1
  clear e o R
  obtain ⟨k, a, c, d, st, td, md⟩ := l
  dsimp only at *
  rcases Int.lt_or_le x r with h | h
  · refine .inl ?_
    simp only [List.mem_cons, Prod.mk.injEq, List.not_mem_nil, or_false] at hc
    rcases hc with ⟨rfl, rfl, rfl⟩ | ⟨rfl, rfl, rfl⟩ | ⟨rfl, rfl, rfl⟩ | ⟨rfl, rfl, rfl⟩ | ⟨rfl, rfl, rfl⟩ | ⟨rfl, rfl, rfl⟩ | ⟨rfl, rfl, rfl⟩ | ⟨rfl, rfl, rfl⟩ | ⟨rfl, rfl, rfl⟩ | ⟨rfl, rfl, rfl⟩ | ⟨rfl, rfl, rfl⟩ | ⟨rfl, rfl, rfl⟩ | ⟨rfl, rfl, rfl⟩ | ⟨rfl, rfl, rfl⟩ | ⟨rfl, rfl, rfl⟩ | ⟨rfl, rfl, rfl⟩ | ⟨rfl, rfl, rfl⟩
    all_goals omega
  · exact .inr h
theorem led_lo1 {l : Lp} (o : l.Ok) {n r x : Int} (R : RootOf l.k n r) (hx : 1 ≤ x) (h : r ≤ x) : r - 1 ≤ l.led n x := by
  obtain ⟨q, e, q1, q0, q2, q3, qn⟩ := led_q o R hx
  rw [e]
  have hc := o.cases
  have d0 := o.d0; have d1 := o.d1
  clear e o R
  obtain ⟨k, a, c, d, st, td, md⟩ := l
  dsimp only at *
  simp only [List.mem_cons, Prod.mk.injEq, List.not_mem_nil, or_false] at hc
  rcases hc with ⟨rfl, rfl, rfl⟩ | ⟨rfl, rfl, rfl⟩ | ⟨rfl, rfl, rfl⟩ | ⟨rfl, rfl, rfl⟩ | ⟨rfl, rfl, rfl⟩ | ⟨rfl, rfl, rfl⟩ | ⟨rfl, rfl, rfl⟩ | ⟨rfl, rfl, rfl⟩ | ⟨rfl, rfl, rfl⟩ | ⟨rfl, rfl, rfl⟩ | ⟨rfl, rfl, rfl⟩ | ⟨rfl, rfl, rfl⟩ | ⟨rfl, rfl, rfl⟩ | ⟨rfl, rfl, rfl⟩ | ⟨rfl, rfl, rfl⟩ | ⟨rfl, rfl, rfl⟩ | ⟨rfl, rfl, rfl⟩
  all_goals omega
/-- the window -/
def Win (r x : Int) : Prop := r - 6 ≤ x ∧ x ≤ r + 4200
theorem led_win {l : Lp} (o : l.Ok) {n r x : Int} (R : RootOf l.k n r) (hx : 1 ≤ x) (h : Win r x) : Win r (l.led n x) := by
  obtain ⟨q, e, q1, q0, q2, q3, qn⟩ := led_q o R hx
  obtain ⟨w1, w2⟩ := h
  have q3 := q3 w1
  unfold Win
  rw [e]
  have hc := o.cases
  have d0 := o.d0; have d1 := o.d1
  clear e o R
  obtain ⟨k, a, c, d, st, td, md⟩ := l
  dsimp only at *
  simp only [List.mem_cons, Prod.mk.injEq, List.not_mem_nil, or_false] at hc
  rcases hc with ⟨rfl, rfl, rfl⟩ | ⟨rfl, rfl, rfl⟩ | ⟨rfl, rfl, rfl⟩ | ⟨rfl, rfl, rfl⟩ | ⟨rfl, rfl, rfl⟩ | ⟨rfl, rfl, rfl⟩ | ⟨rfl, rfl, rfl⟩ | ⟨rfl, rfl, rfl⟩ | ⟨rfl, rfl, rfl⟩ | ⟨rfl, rfl, rfl⟩ | ⟨rfl, rfl, rfl⟩ | ⟨rfl, rfl, rfl⟩ | ⟨rfl, rfl, rfl⟩ | ⟨rfl, rfl, rfl⟩ | ⟨rfl, rfl, rfl⟩ | ⟨rfl, rfl, rfl⟩ | ⟨rfl, rfl, rfl⟩
  all_goals omega
theorem led_most {l : Lp} (o : l.Ok) {n r x M : Int} (R : RootOf l.k n r) (hx : 1 ≤ x) (h1 : x ≤ M) (h2 : n + 10 ≤ M) : l.led n x ≤ M := by
  obtain ⟨q, e, q1, q0, q2, q3, qn⟩ := led_q o R hx
  rw [e]
  have hc := o.cases
  have d0 := o.d0; have d1 := o.d1
  clear e o R
  obtain ⟨k, a, c, d, st, td, md⟩ := l
  dsimp only at *
  simp only [List.mem_cons, Prod.mk.injEq, List.not_mem_nil, or_false] at hc
  rcases hc with ⟨rfl, rfl, rfl⟩ | ⟨rfl, rfl, rfl⟩ | ⟨rfl, rfl, rfl⟩ | ⟨rfl, rfl, rfl⟩ | ⟨rfl, rfl, rfl⟩ | ⟨rfl, rfl, rfl⟩ | ⟨rfl, rfl, rfl⟩ | ⟨rfl, rfl, rfl⟩ | ⟨rfl, rfl, rfl⟩ | ⟨rfl, rfl, rfl⟩ | ⟨rfl, rfl, rfl⟩ | ⟨rfl, rfl, rfl⟩ | ⟨rfl, rfl, rfl⟩ | ⟨rfl, rfl, rfl⟩ | ⟨rfl, rfl, rfl⟩ | ⟨rfl, rfl, rfl⟩ | ⟨rfl, rfl, rfl⟩
  all_goals omega
/-- the guesses from a start -/
def itr (l : Lp) (n x : Int) : Nat → Int
  | 0 => x
  | j + 1 => l.led n (itr l n x j)
theorem itr_add (l : Lp) (n x : Int) (i : Nat) : ∀ j, itr l n x (i + j) = itr l n (itr l n x i) j
  | 0 => rfl
  | j + 1 => by
    show l.led n (itr l n x (i + j)) = l.led n (itr l n (itr l n x i) j)
    rw [itr_add l n x i j]
theorem itr_most {l : Lp} (o : l.Ok) {n r x M : Int} (R : RootOf l.k n r) (h1 : x ≤ M) (h2 : n + 10 ≤ M) : ∀ j, (∀ i, i < j → 1 ≤ itr l n x i) → itr l n x j ≤ M
  | 0, _ => h1
  | j + 1, h => led_most o R (h j (by omega)) (itr_most o R h1 h2 j fun i hi => h i (by omega)) h2
theorem itr_win {l : Lp} (o : l.Ok) {n r x : Int} (R : RootOf l.k n r) (hw : Win r x) : ∀ j, (∀ i, i < j → 1 ≤ itr l n x i) → Win r (itr l n x j)
  | 0, _ => hw
  | j + 1, h => led_win o R (h j (by omega)) (itr_win o R hw j fun i hi => h i (by omega))
theorem below_run {l : Lp} (o : l.Ok) {n r x : Int} (R : RootOf l.k n r) (hx : 0 ≤ x) : ∀ j, (∀ i, i < j → 1 ≤ itr l n x i ∧ itr l n x i < r - 6) → (21 : Int) ^ j * (r - itr l n x j) ≤ 20 ^ j * r
  | 0, _ => by
    show (1 : Int) * (r - x) ≤ 1 * r
    omega
  | j + 1, h => by
    have ih := below_run o R hx j fun i hi => h i (by omega)
    obtain ⟨h1, h2⟩ := h j (by omega)
    have hl : 3 * (r - itr l n x (j + 1)) ≤ 2 * (r - itr l n x j) + 6 := by
      rcases led_lo o R h1 with z | z
      · exact z
      · omega
    have h3 : 21 * (r - itr l n x (j + 1)) ≤ 20 * (r - itr l n x j) := by omega
    have p : (0 : Int) ≤ 21 ^ j := Int.pow_nonneg (by decide)
    have h4 := Int.mul_le_mul_of_nonneg_left h3 p
    have e1 : (21 : Int) ^ (j + 1) * (r - itr l n x (j + 1)) = 21 ^ j * (21 * (r - itr l n x (j + 1))) := by rw [Int.pow_succ, Int.mul_assoc]
    have e2 : (20 : Int) ^ (j + 1) * r = 20 * (20 ^ j * r) := by rw [Int.pow_succ]; grind
    have e3 : (21 : Int) ^ j * (20 * (r - itr l n x j)) = 20 * (21 ^ j * (r - itr l n x j)) := by grind
    rw [e1, e2]
    rw [e3] at h4
    omega
theorem above_run {l : Lp} (o : l.Ok) {n r x : Int} (R : RootOf l.k n r) : ∀ j, (∀ i, i < j → r + 4200 < itr l n x i) → (8 : Int) ^ j * (itr l n x j - r) ≤ 7 ^ j * (x - r)
  | 0, _ => by
    show (1 : Int) * (x - r) ≤ 1 * (x - r)
    omega
  | j + 1, h => by
    have ih := above_run o R j fun i hi => h i (by omega)
    have h2 := h j (by omega)
    have hl : 6 * (itr l n x (j + 1) - r) ≤ 5 * (itr l n x j - r) + 6 := led_up o R (by omega)
    have h3 : 8 * (itr l n x (j + 1) - r) ≤ 7 * (itr l n x j - r) := by omega
    have p : (0 : Int) ≤ 8 ^ j := Int.pow_nonneg (by decide)
    have h4 := Int.mul_le_mul_of_nonneg_left h3 p
    have e1 : (8 : Int) ^ (j + 1) * (itr l n x (j + 1) - r) = 8 ^ j * (8 * (itr l n x (j + 1) - r)) := by rw [Int.pow_succ, Int.mul_assoc]
    have e2 : (7 : Int) ^ (j + 1) * (x - r) = 7 * (7 ^ j * (x - r)) := by rw [Int.pow_succ]; grind
    have e3 : (8 : Int) ^ j * (7 * (itr l n x j - r)) = 7 * (8 ^ j * (itr l n x j - r)) := by grind
    rw [e1, e2]
    rw [e3] at h4
    omega
theorem pow_cmp1 : 20 ^ 14300 * 2 ^ 1000 < 7 * 21 ^ 14300 := by decide +kernel
theorem pow_cmp2 : 7 ^ 5300 * 2 ^ 1001 < 4200 * 8 ^ 5300 := by decide +kernel
/-- the first index with a property -/
theorem first_of {p : Nat → Prop} [DecidablePred p] : ∀ N, (∀ i, i < N → ¬ p i) ∨ ∃ j, j < N ∧ p j ∧ ∀ i, i < j → ¬ p i
  | 0 => .inl fun i hi => absurd hi (by omega)
  | N + 1 => by
    rcases first_of (p := p) N with h | ⟨j, h1, h2⟩
    · by_cases hN : p N
      · exact .inr ⟨N, by omega, hN, h⟩
      · refine .inl fun i hi => ?_
        rcases Nat.lt_or_ge i N with z | z
        · exact h i z
        · have : i = N := by omega
          subst this; exact hN
    · exact .inr ⟨j, by omega, h2⟩
instance (r x : Int) : Decidable (Win r x) := inferInstanceAs (Decidable (_ ∧ _))
theorem root_le {k n r : Int} (hk : 1 ≤ k) (R : RootOf k n r) : r ≤ n := by
  obtain ⟨r0, h1, h2⟩ := R
  rcases Int.lt_or_le r 1 with h | h
  · have : 0 ≤ r ^ k.toNat := Int.pow_nonneg r0
    omega
  · have := pow_ge_self h k.toNat (by omega)
    omega
/-- the window is come to -/
theorem come {l : Lp} (o : l.Ok) {n r x : Int} (R : RootOf l.k n r) (hx : 0 ≤ x) (hn : n < 2 ^ 1000) (hxs : x < 2 ^ 1000) (hall : ∀ i, i < 20000 → 1 ≤ itr l n x i) : ∃ j, j < 19700 ∧ Win r (itr l n x j) := by
  have hk := o.hk
  have hrn := root_le (by omega) R
  have r0 := R.r0
  have e1 : ∃ j, j < 14301 ∧ r - 6 ≤ itr l n x j := by
    rcases first_of (p := fun j => r - 6 ≤ itr l n x j) 14301 with h | ⟨j, h1, h2, _⟩
    · exfalso
      have hb := below_run o R hx 14300 fun i hi => ⟨hall i (by omega), by have := h i (by omega); omega⟩
      have hl := h 14300 (by omega)
      have c : (20 : Int) ^ 14300 * 2 ^ 1000 < 7 * 21 ^ 14300 := by exact_mod_cast pow_cmp1
      have p1 : (0 : Int) ≤ 20 ^ 14300 := Int.pow_nonneg (by decide)
      have p2 : (0 : Int) ≤ 21 ^ 14300 := Int.pow_nonneg (by decide)
      have h3 : (20 : Int) ^ 14300 * r ≤ 20 ^ 14300 * 2 ^ 1000 := Int.mul_le_mul_of_nonneg_left (by omega) p1
      have h4 : (21 : Int) ^ 14300 * 7 ≤ 21 ^ 14300 * (r - itr l n x 14300) := Int.mul_le_mul_of_nonneg_left (by omega) p2
      generalize (21 : Int) ^ 14300 * (r - itr l n x 14300) = u at *
      generalize (20 : Int) ^ 14300 * r = v at *
      generalize (20 : Int) ^ 14300 * 2 ^ 1000 = w at *
      generalize (21 : Int) ^ 14300 = z at *
      omega
    · exact ⟨j, h1, h2⟩
  obtain ⟨j1, hj1, hge⟩ := e1
  have hM : itr l n x j1 ≤ 2 ^ 1000 + 10 := itr_most o R (by omega) (by omega) j1 fun i hi => hall i (by omega)
  obtain ⟨y, hy⟩ : ∃ y, y = itr l n x j1 := ⟨_, rfl⟩
  have hally : ∀ i, i < 5302 → 1 ≤ itr l n y i := fun i hi => by
    rw [hy, ← itr_add]; exact hall _ (by omega)
  rw [← hy] at hge hM
  have e2 : ∃ j, j < 5301 ∧ itr l n y j ≤ r + 4200 ∧ ∀ i, i < j → ¬ itr l n y i ≤ r + 4200 := by
    rcases first_of (p := fun j => itr l n y j ≤ r + 4200) 5301 with h | h
    · exfalso
      have hb := above_run o R (x := y) 5300 fun i hi => by have := h i (by omega); omega
      have hl := h 5300 (by omega)
      have c : (7 : Int) ^ 5300 * 2 ^ 1001 < 4200 * 8 ^ 5300 := by exact_mod_cast pow_cmp2
      have p1 : (0 : Int) ≤ 7 ^ 5300 := Int.pow_nonneg (by decide)
      have p2 : (0 : Int) ≤ 8 ^ 5300 := Int.pow_nonneg (by decide)
      have e3 : (2 : Int) ^ 1001 = 2 * 2 ^ 1000 := by rw [Int.pow_succ, Int.mul_comm]
      have e4 : (10 : Int) ≤ 2 ^ 1000 := Int.le_trans (by decide : (10 : Int) ≤ 2 ^ 10) (pow_le_right (by decide) (by decide))
      have h3 : (7 : Int) ^ 5300 * (y - r) ≤ 7 ^ 5300 * 2 ^ 1001 := Int.mul_le_mul_of_nonneg_left (by omega) p1
      have h4 : (8 : Int) ^ 5300 * 4200 ≤ 8 ^ 5300 * (itr l n y 5300 - r) := Int.mul_le_mul_of_nonneg_left (by omega) p2
      generalize (8 : Int) ^ 5300 * (itr l n y 5300 - r) = u at *
      generalize (7 : Int) ^ 5300 * (y - r) = v at *
      generalize (7 : Int) ^ 5300 * 2 ^ 1001 = w at *
      generalize (8 : Int) ^ 5300 = z at *
      omega
    · exact h
  obtain ⟨j2, hj2, hle, hno⟩ := e2
  refine ⟨j1 + j2, by omega, ?_⟩
  rw [itr_add, ← hy]
  refine ⟨?_, hle⟩
  cases j2 with
  | zero => exact hge
  | succ i =>
    have h1 := hno i (by omega)
    have := led_lo1 o R (x := itr l n y i) (hally i (by omega)) (by omega)
    show r - 6 ≤ l.led n (itr l n y i)
    omega
/-! ### no more unlike numbers than there are -/
theorem filter_ne_len (v : Int) : ∀ l : List Int, l.Nodup → l.length ≤ (l.filter fun x => decide (x ≠ v)).length + 1
  | [], _ => by simp
  | x :: t, h => by
    rw [List.nodup_cons] at h
    by_cases e : x = v
    · subst e
      have : t.filter (fun y => decide (y ≠ x)) = t := List.filter_eq_self.mpr fun y hy => decide_eq_true fun z => h.1 (z ▸ hy)
      rw [List.filter_cons_of_neg (by simp), this]
      simp
    · have ih := filter_ne_len v t h.2
      rw [List.filter_cons_of_pos (by simp [e])]
      simp only [List.length_cons]
      omega
theorem nodup_le : ∀ (m : Nat) (l : List Int) (lo : Int), l.Nodup → (∀ x ∈ l, lo ≤ x ∧ x < lo + m) → l.length ≤ m
  | 0, l, lo, _, h => by
    cases l with
    | nil => simp
    | cons x t => have := h x List.mem_cons_self; omega
  | m + 1, l, lo, hn, h => by
    have h1 := filter_ne_len (lo + m) l hn
    have h2 := nodup_le m (l.filter fun x => decide (x ≠ lo + m)) lo (hn.filter _) fun x hx => by
      rw [List.mem_filter] at hx
      have := h x hx.1
      have h3 : x ≠ lo + m := of_decide_eq_true hx.2
      omega
    omega
theorem itr_eq {l : Lp} {n x : Int} {p q : Nat} (h : itr l n x p = itr l n x q) : itr l n x (p + 1) = itr l n x (q + 1) := by
  show l.led n _ = l.led n _
  rw [h]
/-- soon two guesses are the same -/
theorem same_two {l : Lp} (o : l.Ok) {n r x : Int} (R : RootOf l.k n r) (hx : 0 ≤ x) (hn : n < 2 ^ 1000) (hxs : x < 2 ^ 1000) (hall : ∀ i, i < 30000 → 1 ≤ itr l n x i) : ∃ p q, p < q ∧ q < 29000 ∧ itr l n x p = itr l n x q := by
  obtain ⟨j, hj, hw⟩ := come o R hx hn hxs fun i hi => hall i (by omega)
  have win : ∀ i, i < 4300 → Win r (itr l n x (j + i)) := fun i hi => by
    rw [itr_add]
    exact itr_win o R hw i fun k hk => by rw [← itr_add]; exact hall _ (by omega)
  by_cases hd : ((List.range 4300).map fun i => itr l n x (j + i)).Nodup
  · exfalso
    have := nodup_le 4207 _ (r - 6) hd fun y hy => by
      obtain ⟨i, hi, rfl⟩ := List.mem_map.mp hy
      obtain ⟨w1, w2⟩ := win i (List.mem_range.mp hi)
      omega
    rw [List.length_map, List.length_range] at this
    omega
  · have key : ∀ m, m ≤ 4300 → ((List.range m).map fun i => itr l n x (j + i)).Nodup ∨ ∃ p q, p < q ∧ q < m ∧ itr l n x (j + p) = itr l n x (j + q) := by
      intro m
      induction m with
      | zero => intro _; exact .inl (by simp)
      | succ m ih =>
        intro hm
        rcases ih (by omega) with h | ⟨p, q, h1, h2, h3⟩
        · by_cases hmem : itr l n x (j + m) ∈ (List.range m).map fun i => itr l n x (j + i)
          · obtain ⟨p, hp, e⟩ := List.mem_map.mp hmem
            exact .inr ⟨p, m, List.mem_range.mp hp, by omega, e⟩
          · refine .inl ?_
            rw [List.range_succ, List.map_append, List.nodup_append]
            refine ⟨h, by simp, fun a ha b hb => ?_⟩
            simp only [List.map_cons, List.map_nil, List.mem_singleton] at hb
            subst hb
            exact fun z => hmem (z ▸ ha)
        · exact .inr ⟨p, q, h1, by omega, h3⟩
    rcases key 4300 (by omega) with h | ⟨p, q, h1, h2, h3⟩
    · exact absurd h hd
    · exact ⟨j + p, j + q, by omega, by omega, h3⟩
end FWL
namespace FW
open PySem PySem.Spec PyProof.Rows L2
theorem u1 {j : Nat} {A : Around} (hr : Room j A) : A.units + 1 < cLine := by have := hr.un; omega
/-! ### dicts whose keys are tuples of ints and None -/
abbrev NK := Option Int
def nkIs : NK → Value → Bool
  | none, .none => true
  | none, _ => false
  | some k, v => Value.isInt k v
def nkH : NK → Int
  | none => 0xFCA86420
  | some k => hashInt k
def nkV : NK → V
  | none => .non
  | some i => .int i
theorem nkIs_shape {k : NK} {v : Value} (h : nkIs k v = true) : (k = none ∧ v = .none) ∨ ∃ i t, k = some i ∧ v = .int i t := by
  cases k with
  | none => cases v <;> first | exact .inl ⟨rfl, rfl⟩ | exact nomatch h
  | some i =>
    obtain ⟨t, e⟩ := Value.isInt_shape (k := i) (v := v) h
    exact .inr ⟨i, t, rfl, e⟩
theorem wpAny_pyHash_none {prog : Program} {w : World} {A : Around} {E : Value → Shared → Prop} {s : Shared} {Q : Int → Shared → Prop} (h : Q 0xFCA86420 { s with toks := s.toks + 1 }) : wpAny (model prog w) A (pyHash .none) Q E s := by
  have hT : s.TypeIs .none "NoneType" := rfl
  unfold pyHash
  have hv : [Value.none].any Value.onHeap = false := rfl
  refine wpAny_bind ?_
  rw [cRoomFor, if_neg (by rw [hv]; exact Bool.false_ne_true)]; refine wpAny_pure ?_
  refine wpAny_bind (wpAny_specialOf hT F.slot_NoneType_hash.lookup ?_)
  show wpAny _ _ (if (some (Value.builtin "NoneType.__hash__") == some Value.none) = true then _ else _) Q E s
  rw [if_neg (by rw [beq_builtin_none]; exact Bool.false_ne_true)]
  refine wpAny_bind (wpAny_specialOf hT F.slot_NoneType_hash.lookup ?_)
  show wpAny _ _ (callSpecialIfBoundUnlessNone? .none "__hash__" _ >>= _) Q E s
  refine wpAny_bind (wpAny_callSpecialIfBoundUnlessNone?_slot hT F.slot_NoneType_hash
    (wpAny_call_entry F.slot_NoneType_hash hT F.entry_NoneType_hash
      (show wpAny _ _ (do ret (← mkInt 0xFCA86420)) _ _ s from wpAny_ret_mkInt ?_) (F.args_NoneType_hash_1 _)))
  show wpAny _ _ (if (decide (-(2 : Int) ^ 63 ≤ 0xFCA86420) && decide ((0xFCA86420 : Int) < 2 ^ 63)) = true then _ else _) Q E _
  rw [if_pos (by decide)]
  exact wpAny_pure h
theorem eq_none_none {prog : Program} {w : World} {A : Around} {E : Value → Shared → Prop} {s : Shared} {Q : Bool → Shared → Prop} (h : Q true s) : wpAny (model prog w) A (eqBool .none .none) Q E s := by
  unfold eqBool
  refine wpAny_holding ?_
  refine wpAny_ite_split (fun _ => ?_) (fun hab => absurd rfl hab)
  exact wpAny_bind (wpAny_rule (wpAny_pure h))
def nKind (prog : Program) (w : World) : PySem.KeyKind prog w NK where
  is := nkIs
  hash := nkH
  inj := fun v a b ha hb => by
    rcases nkIs_shape ha with ⟨rfl, rfl⟩ | ⟨i, t, rfl, rfl⟩
    · rcases nkIs_shape hb with ⟨rfl, _⟩ | ⟨j, u, rfl, e⟩
      · rfl
      · exact nomatch e
    · rcases nkIs_shape hb with ⟨rfl, e⟩ | ⟨j, u, rfl, e⟩
      · exact nomatch e
      · injection e with e1 _; rw [e1]
  byValue := fun k v h => by
    rcases nkIs_shape h with ⟨rfl, rfl⟩ | ⟨i, t, rfl, rfl⟩ <;> rfl
  pyHash := fun hv h => by
    rcases nkIs_shape hv with ⟨rfl, rfl⟩ | ⟨i, t, rfl, rfl⟩
    · exact wpAny_pyHash_none h
    · exact wpAny_pyHash_int h
  eqBool := fun {A E s a b u v Q} hu hv h => by
    rcases nkIs_shape hu with ⟨rfl, rfl⟩ | ⟨i, t, rfl, rfl⟩
    · rcases nkIs_shape hv with ⟨rfl, rfl⟩ | ⟨j, u, rfl, rfl⟩
      · exact eq_none_none h
      · rw [decide_eq_false (fun z => nomatch z)] at h
        exact SeqAt.EqAt.none_int j u _ _ _ _ h
    · rcases nkIs_shape hv with ⟨rfl, rfl⟩ | ⟨j, u, rfl, rfl⟩
      · rw [decide_eq_false (fun z => nomatch z)] at h
        exact SeqAt.EqAt.int_none i t _ _ _ _ h
      · have e : decide (some i = some j) = (i == j) := by
          by_cases z : i = j
          · subst z; simp
          · simp [z]
        rw [e] at h
        exact wpAny_eqBool_int h
  «strs» := fun k x t v h => by
    rcases nkIs_shape h with ⟨rfl, e⟩ | ⟨i, u, rfl, e⟩ <;> exact nomatch e
def hashN (ks : List NK) : Int := reduceHash (Builtin.Tuple.tupleHashOf (ks.map nkH))
def entN (x : List NK × Addr × Value) : DictEntry := ⟨hashN x.1, .ref x.2.1, x.2.2⟩
theorem entN_eq (P : Program) (w : World) (x : List NK × Addr × Value) : entryOfKey (tupleKind (nKind P w)) x = entN x := rfl
abbrev KvN := List NK × Addr × V
abbrev KN : List KvN → List (List NK × Addr × Value) → Prop := Paired fun p q => p.1 = q.1 ∧ p.2.1 = q.2.1 ∧ RelV p.2.2 q.2.2
def DNφ (a : Addr) (kvs : List KvN) : Heap → Prop := fun h => (a == sysModules) = false ∧ ∃ (xs : List (List NK × Addr × Value)) (o : Obj) (es : Array DictEntry) (ep : Nat), KN kvs xs ∧ h.get? a = some o ∧ o.ExactDict ∧ o.data = .dict es ep ∧ es.toList = xs.map entN ∧ (xs.map (·.1)).Nodup
def dN (a : Addr) (kvs : List KvN) : HO := .ext (DNφ a kvs)
structure IsDN (H : Hp) (a : Addr) (kvs : List KvN) : Prop where
  at' : H a = some (dN a kvs)
  keys : ∀ x ∈ kvs, H x.2.1 = some (.tup (x.1.map nkV))
  size : kvs.length ≤ sizeLine
def valN (kvs : List KvN) (k : List NK) : Option V := (kvs.find? fun x => decide (x.1 = k)).map (·.2.2)
theorem nk_items {P : Program} {w : World} : ∀ {ks : List NK} {us : List Value}, Vals (ks.map nkV) us → ItemsAre (nKind P w) ks us
  | [], _, .nil => .nil
  | none :: ks, _, .cons r t => by
    cases r
    exact .cons rfl (nk_items t)
  | some i :: ks, _, .cons r t => by
    obtain ⟨t', rfl⟩ := r
    exact .cons (by show nkIs (some i) (Value.int i t') = true; simp [nkIs, Value.isInt]) (nk_items t)
theorem keyN {P : Program} {w : World} {H : Hp} {h : Heap} {a : Addr} {ks : List NK} (ok : HOk P w H h) (e : H a = some (.tup (ks.map nkV))) : (tupleKind (nKind P w)).is h ks a := by
  obtain ⟨_, its, r, o, h1, h2, n, h3⟩ := (show ObjOk P w H h a (.tup (ks.map nkV)) from ok a _ e)
  exact ⟨o, its.toArray, n, h1, h2, h3, by simpa using nk_items r⟩
theorem KN.mem : ∀ {kvs : List KvN} {xs : List (List NK × Addr × Value)}, KN kvs xs → ∀ x ∈ xs, ∃ y ∈ kvs, y.1 = x.1 ∧ y.2.1 = x.2.1
  | _, _, .nil, x, hx => nomatch hx
  | _, _, .cons (a := p) r t, x, hx => by
    rcases List.mem_cons.mp hx with e | hx
    · subst e
      exact ⟨p, List.mem_cons_self, r.1, r.2.1⟩
    · obtain ⟨y, hy, h⟩ := KN.mem t x hx
      exact ⟨y, List.mem_cons_of_mem _ hy, h⟩
theorem dn_rd {P : Program} {w : World} {H : Hp} {h : Heap} {a : Addr} {kvs : List KvN} (ok : HOk P w H h) (e : IsDN H a kvs) : (a == sysModules) = false ∧ ∃ xs, KN kvs xs ∧ h.DictOfH (tupleKind (nKind P w)) a xs := by
  obtain ⟨⟨hd, xs, o, es, ep, r, h1, h2, h3, h4, h5⟩, _, _⟩ := (show ObjOk P w H h a (.ext (DNφ a kvs)) from ok a _ e.at')
  refine ⟨hd, xs, r, o, es, ep, h1, h2, h3, h4, fun x hx => ?_, h5⟩
  obtain ⟨y, hy, e1, e2⟩ := r.mem x hx
  rw [← e1, ← e2]
  exact keyN ok (e.keys y hy)
theorem KN.val : ∀ {kvs : List KvN} {xs : List (List NK × Addr × Value)}, KN kvs xs → ∀ k : List NK, RelO (valN kvs k) ((atKey xs k).map (·.2))
  | _, _, .nil, k => True.intro
  | _, _, .cons (a := p) (b := q) r t, k => by
    have ih := KN.val t k
    unfold valN atKey at ih ⊢
    rw [List.find?_cons, List.find?_cons]
    by_cases e : q.1 = k
    · have e' : p.1 = k := r.1.trans e
      simp only [e, e', decide_true, Option.map_some]
      exact r.2.2
    · have e' : ¬ p.1 = k := fun z => e (r.1.symm.trans z)
      simp only [e, e', decide_false]
      exact ih
theorem dn_ok {P : Program} {w : World} {H : Hp} {h : Heap} {a : Addr} {kvs : List KvN} (x : DNφ a kvs h) : ObjOk P w H h a (dN a kvs) := by
  refine ⟨x, ?_, ?_⟩
  · obtain ⟨_, xs, o, es, ep, _, h1, _⟩ := x
    exact ⟨o, h1⟩
  · rintro h1 h2 ⟨hd, xs, o, es, ep, r, g1, g2⟩ k
    exact ⟨hd, xs, o, es, ep, r, k _ g1, g2⟩
theorem KN.snoc : ∀ {kvs : List KvN} {xs : List (List NK × Addr × Value)} {p : KvN} {q : List NK × Addr × Value}, KN kvs xs → (p.1 = q.1 ∧ p.2.1 = q.2.1 ∧ RelV p.2.2 q.2.2) → KN (kvs ++ [p]) (xs ++ [q])
  | _, _, _, _, .nil, h => .cons h .nil
  | _, _, _, _, .cons r t, h => .cons r (KN.snoc t h)
section
variable {X : Cx} {o i value : Expr} {pos pos' : Pos} {td ty tv : TE}
def tNNew : TE := fun _ H Q => ∀ p, H p = none → Q (.ref p) (upd H p (dN p []))
def tNIn (ty td : TE) : TE := fun σ H Q => ty σ H fun y H1 => td σ H1 fun x H2 => ∃ a b kvs k, x = .ref a ∧ y = .ref b ∧ IsDN H2 a kvs ∧ H2 b = some (.tup (k.map nkV)) ∧ Q (.bl (valN kvs k).isSome) H2
def tNNotIn (ty td : TE) : TE := fun σ H Q => ty σ H fun y H1 => td σ H1 fun x H2 => ∃ a b kvs k, x = .ref a ∧ y = .ref b ∧ IsDN H2 a kvs ∧ H2 b = some (.tup (k.map nkV)) ∧ Q (.bl (!(valN kvs k).isSome)) H2
def tNGet (td ty : TE) : TE := fun σ H Q => td σ H fun x H1 => ty σ H1 fun y H2 => ∃ a b kvs k v, x = .ref a ∧ y = .ref b ∧ IsDN H2 a kvs ∧ H2 b = some (.tup (k.map nkV)) ∧ valN kvs k = some v ∧ Q v H2
def sNPut (td ty tv : TE) : TS := fun D σ H => tv σ H fun v H1 => td σ H1 fun x H2 => ty σ H2 fun y H3 => ∃ a b kvs k, x = .ref a ∧ y = .ref b ∧ IsDN H3 a kvs ∧ H3 b = some (.tup (k.map nkV)) ∧ valN kvs k = none ∧ kvs.length < sizeLine ∧ D.nx σ (upd H3 a (dN a (kvs ++ [(k, b, v)])))
theorem pe_nnew : PE X (.Dict [] [] pos) tNNew := ⟨fun pins s σ H Q I h =>
  wpAny_Dict_empty ⟨.ref s.heap.objs.size, _, I.laid (a := s.heap.objs.size) (o := dN s.heap.objs.size []) (t' := s.toks) (fun _ _ q => Heap.get?_push_of_some _ q) (Nat.le_refl _)
    (dn_ok ⟨(dk_empty (P := X.prog) (w := X.w) (H := H) s.heap I.big).2.1, [], _, #[], 0, .nil, Heap.get?_push_size _ rfl, ⟨rfl, rfl, rfl⟩, rfl, rfl, List.nodup_nil⟩), rfl, h _ (I.hok.fresh (Nat.le_refl _))⟩⟩
theorem pc_nin (hu : X.A.units + 1 < cLine) (hi : PE X i ty) (ho : PE X o td) : PC X .In i o (tNIn ty td) := by
  refine ⟨fun pins s σ H Q I h => ?_⟩
  refine thn (hi.run pins s σ H _ I h) fun iv s1 ⟨y, H1, I1, ry, q1⟩ => thn (ho.run pins s1 σ H1 _ I1 q1) fun u s2 ⟨x, H2, I2, rx, a, b, kvs, k, ex, ey, g, eb, q2⟩ => ?_
  subst ex ey
  obtain rfl : u = Value.ref a := rx
  obtain rfl : iv = Value.ref b := ry
  obtain ⟨hd, xs, rel, dd⟩ := dn_rd I2.hok g
  refine wpAny_in_heap (tupleKind_room_in1 hu) (keyN I2.hok eb) hd dd ?_
  have q := (rel.val k).isSome_eq
  rw [Option.isSome_map] at q
  rw [← q]
  exact ⟨.bl _, H2, I2.tok _, rfl, q2⟩
theorem pc_nnotin (hu : X.A.units + 1 < cLine) (hi : PE X i ty) (ho : PE X o td) : PC X .NotIn i o (tNNotIn ty td) := by
  refine ⟨fun pins s σ H Q I h => ?_⟩
  refine thn (hi.run pins s σ H _ I h) fun iv s1 ⟨y, H1, I1, ry, q1⟩ => thn (ho.run pins s1 σ H1 _ I1 q1) fun u s2 ⟨x, H2, I2, rx, a, b, kvs, k, ex, ey, g, eb, q2⟩ => ?_
  subst ex ey
  obtain rfl : u = Value.ref a := rx
  obtain rfl : iv = Value.ref b := ry
  obtain ⟨hd, xs, rel, dd⟩ := dn_rd I2.hok g
  refine wpAny_notIn_heap (tupleKind_room_in1 hu) (keyN I2.hok eb) hd dd ?_
  have q := (rel.val k).isSome_eq
  rw [Option.isSome_map] at q
  rw [← q]
  exact ⟨.bl _, H2, I2.tok _, rfl, q2⟩
theorem pe_nget (hu : X.A.units + 1 < cLine) (ho : PE X o td) (hi : PE X i ty) (hs : NoSl i) : PE X (.Subscript o i pos) (tNGet td ty) := by
  refine ⟨fun pins s σ H Q I h => ?_⟩
  refine subD_of PySem.F.slot_dict_getitem.lookup hs (thn (ho.run pins s σ H _ I h) fun u s1 ⟨x, H1, I1, rx, q1⟩ => thn (hi.run pins s1 σ H1 _ I1 q1) fun iv s2 ⟨y, H2, I2, ry, a, b, kvs, k, v, ex, ey, g, eb, l, q2⟩ => ?_)
  subst ex ey
  obtain rfl : u = Value.ref a := rx
  obtain rfl : iv = Value.ref b := ry
  obtain ⟨hd, xs, rel, dd⟩ := dn_rd I2.hok g
  obtain ⟨w', hw, rw'⟩ := RelO.some_of (v := v) (o := (atKey xs k).map (·.2)) (by rw [← l]; exact rel.val k)
  obtain ⟨p, hp, hp2⟩ := Option.map_eq_some_iff.mp hw
  refine ⟨dd.typeIs, wpAny_getItem_heap (tupleKind_room_in1 hu) (keyN I2.hok eb) dd hp ?_⟩
  rw [hp2]
  exact ⟨v, H2, I2.tok _, rw', q2⟩
theorem ps_nput (hu : X.A.units + 1 < cLine) (ho : PE X o td) (hi : PE X i ty) (hv : PE X value tv) (hs : swapsWith value (some (.Subscript o i pos')) pos.line X.env = pure false) :
    PS X (.Assign [.Subscript o i pos'] value pos) (sNPut td ty tv) := by
  refine ⟨fun pins s σ H D I h => ?_⟩
  refine wpAny_Assign_Subscript (thn (hv.run pins s σ H _ I h) fun r s1 ⟨v, H1, I1, rv, q1⟩ => thn (ho.run pins s1 σ H1 _ I1 q1) fun u s2 ⟨x, H2, I2, rx, q2⟩ => thn (hi.run pins s2 σ H2 _ I2 q2) fun iv s3 ⟨y, H3, I3, ry, a, b, kvs, k, ex, ey, g, eb, l, hl, q3⟩ => ?_) hs
  subst ex ey
  obtain rfl : u = Value.ref a := rx
  obtain rfl : iv = Value.ref b := ry
  obtain ⟨hd, xs, rel, dd⟩ := dn_rd I3.hok g
  have hz : xs.length ≤ sizeLine := by rw [← Paired.length rel]; exact g.size
  have hnone : atKey xs k = none := by
    have z := (rel.val k).isSome_eq
    rw [l, Option.isSome_map] at z
    cases q : atKey xs k with
    | none => rfl
    | some p => rw [q] at z; exact nomatch z
  refine wpAny_setItem_heap (hsz := hz) (tupleKind_room_in1 hu) (keyN I3.hok eb) dd fun h' dd' hs => ?_
  rw [storedH_new hnone] at dd'
  obtain ⟨q, es, ep, hq, h2, h3, h4, _, h5⟩ := dd'
  refine ⟨σ, _, d_write I3 (by rw [g.at']; exact True.intro) hs ⟨q, hq⟩ (dn_ok ⟨hd, _, q, es, ep, rel.snoc (q := (k, b, r)) ⟨rfl, rfl, rv⟩, hq, h2, h3, h4, h5⟩), q3⟩
end
end FW
namespace FW
open PySem PySem.Spec PyProof.Rows L2
/-! ### x == y, x != y of two instances of a class with its own __eq__ -/
section
variable {M : Model} {prog : Program} {w : World} {A : Around} {E : Value → Shared → Prop} {s : Shared} {K : PySem.W.Frag} {x y C f : Addr} {ox oy : Obj} {od oe : Option Obj}
theorem ifBound_objNe {args : List Value} {Q : Option Value → Shared → Prop} (X : K.In s.heap) (I : PySem.W.InstAt s.heap x ox C od) (hs : PySem.W.findIn K (.ref C) "__ne__" = some (some (.builtin "object.__ne__")))
    (h : wpAny M A (call (.builtin "object.__ne__") (.ref x :: args)) (fun v => Q (some v)) E s) : wpAny M A (callSpecialIfBound? (.ref x) "__ne__" args) Q E s := by
  simp only [callSpecialIfBound?, bindSpecialIfBound?]
  refine wpAny_holding (wpAny_bind (wpAny_bind (wpAny_bind (I.type.here ((PySem.W.looks_findIn X hs).here ?_)))))
  refine wpAny_bind (wpAny_askSetting (wpAny_ite ?_))
  have fin : wpAny M A (call (.builtin "object.__ne__") ([.ref x] ++ args) >>= fun v => pure (some v)) Q E s := wpAny_bind (wpAny_mono h (fun v s' h' => wpAny_pure h') fun _ _ h' => h')
  split
  · exact wpAny_bind (wpAny_of_eq (F.cmp_object.ne.bind _) (wpAny_pure (by exact fin)))
  · exact wpAny_tryCatch (wpAny_bind (wpAny_of_eq (F.cmp_object.ne.bind _) (wpAny_pure (by exact fin))))
theorem entry_objNe {Q : Fin → Shared → Prop} (hu : A.units < cLine) (X : K.In s.heap) (I : PySem.W.InstAt s.heap x ox C od) (hs : PySem.W.findIn K (.ref C) "__eq__" = some (some (.ref f))) (hf : PySem.W.isFn K (.ref f) = true)
    (hcall : wpAny (model prog w) A (call (.ref f) [.ref x, .ref y]) (fun v s' => ∃ b, v = .bool b ∧ Q (.done (.ret (.bool (!b)))) s') E s) :
    wpAny (model prog w) A (Builtin.«object.__ne__» ⟨[.ref x, .ref y], []⟩) Q E s := by
  obtain ⟨hp, g, d, t, os⟩ := s
  unfold Builtin.«object.__ne__»
  repeat (first
    | with_reducible refine wpAny_cRoomFor hu ?_
    | (refine wpAny_bind (m := callSpecialIfBound? (.ref x) (Str.ofString "__eq__") [.ref y])
        (PySem.W.ifBound_K X I hs hf (wpAny_mono hcall (fun r s' hr => by
          obtain ⟨b, rfl, hq⟩ := hr
          repeat (first | exact hq | exact wpAny_pure hq | exact wpAny_truthy_bool hq | (refine wpAny_bind (m := truthy (.bool _)) (wpAny_truthy_bool ?_)) | wp_step)) fun _ _ e => e)))
    | wp_step)
theorem rcNe {Q : Value → Shared → Prop} (hu : A.units + 1 < cLine) (X : K.In s.heap) (I : PySem.W.InstAt s.heap x ox C od) (J : PySem.W.InstAt s.heap y oy C oe) (hm : PySem.W.mroIn K C (.type "object") = some true)
    (hn : PySem.W.findIn K (.ref C) "__ne__" = some (some (.builtin "object.__ne__"))) (hs : PySem.W.findIn K (.ref C) "__eq__" = some (some (.ref f))) (hf : PySem.W.isFn K (.ref f) = true)
    (hcall : wpAny (model prog w) A.in1 (call (.ref f) [.ref x, .ref y]) (fun v s' => ∃ b, v = .bool b ∧ Q (.bool (!b)) s') E s) :
    wpAny (model prog w) A (richCompare .NotEq (.ref x) (.ref y)) Q E s := by
  have one : wpAny (model prog w) A (tryCompare (.ref x) "__ne__" (.ref y)) (fun r s' => ∃ v, r = some v ∧ Q v s') E s := by
    unfold tryCompare
    refine wpAny_bind (ifBound_objNe X I hn (wpAny_call (codeAny_call_builtin F.cmp_object.ne.plain F.cmpEntry_ne (PySem.W.check_slot F.cmpKind_ne F.cmpSplit_ne (I.type.andThen (PySem.W.looks_mroIn X hm)) (F.cmpArgs_ne _ _)
      (entry_objNe (A := A.in1) hu X I hs hf (wpAny_mono hcall (fun v s' hv => ?_) fun _ _ e => e))))))
    obtain ⟨b, rfl, hq⟩ := hv
    exact ⟨b, rfl, wpAny_pure ⟨_, rfl, hq⟩⟩
  unfold richCompare
  simp only [oneThing_ref]
  refine wpAny_holding (wpAny_bind (wpAny_cRoomFor (Nat.lt_of_succ_lt hu) ?_))
  rw [cmpInfo_NotEq]
  dsimp only
  refine wpAny_bind (I.type.here (wpAny_bind (J.type.here ?_)))
  rw [show (Value.ref C != Value.ref C) = false from by simp]
  simp only [Bool.false_eq_true, if_false]
  refine wpAny_bind (wpAny_pure ?_)
  simp only [Bool.false_eq_true, if_false]
  refine wpAny_bind (wpAny_mono one (fun r s' z => ?_) fun _ _ e => e)
  obtain ⟨v, rfl, hq⟩ := z
  exact wpAny_pure hq
end
/-- what the head tells of a class with its own __eq__ and no __ne__ -/
structure OwnE (K : PySem.W.Frag) (C : Addr) : Prop where
  mro : PySem.W.mroIn K C (.type "object") = some true
  ne : PySem.W.findIn K (.ref C) "__ne__" = some (some (.builtin "object.__ne__"))
def ownEB (K : PySem.W.Frag) (x : Str) : Bool := decide (PySem.W.mroIn K (He.ga K x) (.type "object") = some true) && He.eqO (PySem.W.findIn K (.ref (He.ga K x)) "__ne__") (some (some (.builtin "object.__ne__")))
theorem ownEB_ok {K : PySem.W.Frag} {x : Str} (h : ownEB K x = true) : OwnE K (He.ga K x) := by
  obtain ⟨h1, h2⟩ := He.ba h
  exact ⟨of_decide_eq_true h1, He.eqO_ok h2⟩
def rEqO (C : Addr) (sp : Sp) : R2 := fun x y H Q => ∃ a b dx dy fs gs, x = .ref a ∧ y = .ref b ∧ H a = some (.ins C dx fs) ∧ H b = some (.ins C dy gs) ∧ sp [x, y] H (fun v H' => ∃ k, v = .bl k ∧ Q (.bl k) H') E0
def rNeO (C : Addr) (sp : Sp) : R2 := fun x y H Q => ∃ a b dx dy fs gs, x = .ref a ∧ y = .ref b ∧ H a = some (.ins C dx fs) ∧ H b = some (.ins C dy gs) ∧ sp [x, y] H (fun v H' => ∃ k, v = .bl k ∧ Q (.bl (!k)) H') E0
section
variable {X : Cx} {C : Addr} {k j : Nat} {sp : Sp}
theorem run_eqO {pins : List (Addr × Obj)} {σ : L2.St} {H : Hp} {s : Shared} {A : Around} {a b : Addr} {f : Addr} {fd : FuncData} {ps : List Str} {Q : VK} {R : Value → Shared → Prop} (F : FnOk X.prog X.w X.K X.mg X.base CX0 k f fd ps sp) (hr : Room k A) (hfr : A.frames = X.A.frames) (hb : Binds X.K fd ps []) (I : Inv X pins σ H s)
    (h : sp [.ref a, .ref b] H Q E0) (hq : ∀ v H' u s', Inv X pins σ H' s' → RelV v u → Q v H' → R u s') : wpAny (model X.prog X.w) A (call (.ref f) [.ref a, .ref b]) R X.xe s := by
  have e0 : Env0 X.prog X.w X.K X.mg X.base A X.stack s H := by
    have e := I.env0
    exact ⟨by rw [hfr]; exact e.frames, e.mod, e.bs, e.bsz, e.funs, e.frf, e.hok, e.bare⟩
  have hl := F.len _ _ _ _ h
  have r2 : Vals [V.ref a, V.ref b] [Value.ref a, Value.ref b] := .cons rfl (.cons rfl .nil)
  refine wpAny_call (codeAny_mono (F.run A X.stack s H ⟨[.ref a, .ref b], []⟩ [.ref a, .ref b] [.ref a, .ref b] _ E0 hr e0 (by
    have := hb s [.ref a, .ref b] I.kIn (by simpa using hl)
    simpa using this) r2 h) fun r s' hz => ?_)
  cases r with
  | error e => exact (show False from hz).elim
  | ok fl =>
    cases fl with
    | ret w =>
      obtain ⟨z, H', I', rz, ez⟩ := I.after hz
      exact hq z H' w s' I' rz ez
    | next => exact False.elim hz
    | brk => exact False.elim hz
    | cont => exact False.elim hz
theorem op_eqO (c : Mt X.prog X.w X.K X.mg X.base CX0 k C "__eq__" sp []) (hr : Room j X.A) (hk : k ≤ j) : OpR X (compareOp .Eq) (rEqO C sp) := by
  intro pins s σ H x y v u Q I rx ry h
  obtain ⟨a, b, dx, dy, fs, gs, rfl, rfl, ha, hb', hsp⟩ := h
  cases rx
  cases ry
  obtain ⟨f, fd, ps, ds, hc, hm, F, bd, d⟩ := c.ex
  cases d
  obtain ⟨mA, J, _⟩ := ins_get I.hok ha
  obtain ⟨mB, J', _⟩ := ins_get I.hok hb'
  obtain ⟨od, J, _⟩ := J.look
  obtain ⟨od', J', _⟩ := J'.look
  obtain ⟨m, hF⟩ := I.fr
  show wpAny (model X.prog X.w) X.A (richCompare .Eq (.ref a) (.ref b)) (EP X pins σ Q) X.xe s
  refine PySem.W.cmp_K (op := .Eq) (tb := .ref C) (hr.mono hk).units0 hF I.ok.mod.kin J J'.type (by simp [PySem.W.notFirst]) hm.at_ hm.fn ?_
  refine run_eqO F (hr.mono hk) rfl bd I hsp fun v H' u s' I' rv q => ?_
  obtain ⟨kk, rfl, q⟩ := q
  cases rv
  exact ⟨.bl kk, H', I', rfl, q⟩
theorem op_neO (o : OwnE X.K C) (c : Mt X.prog X.w X.K X.mg X.base CX0 k C "__eq__" sp []) (hr : Room j X.A) (hk : k + 1 ≤ j) : OpR X (compareOp .NotEq) (rNeO C sp) := by
  intro pins s σ H x y v u Q I rx ry h
  obtain ⟨a, b, dx, dy, fs, gs, rfl, rfl, ha, hb', hsp⟩ := h
  cases rx
  cases ry
  obtain ⟨f, fd, ps, ds, hc, hm, F, bd, d⟩ := c.ex
  cases d
  obtain ⟨mA, J, _⟩ := ins_get I.hok ha
  obtain ⟨mB, J', _⟩ := ins_get I.hok hb'
  obtain ⟨od, J, _⟩ := J.look
  obtain ⟨od', J', _⟩ := J'.look
  show wpAny (model X.prog X.w) X.A (richCompare .NotEq (.ref a) (.ref b)) (EP X pins σ Q) X.xe s
  have hr' := hr.mono hk
  refine rcNe (by have := hr'.un; omega) I.kIn J J' o.mro o.ne hm.at_ hm.fn ?_
  refine run_eqO F hr'.in1 rfl bd I hsp fun v H' u s' I' rv q => ?_
  obtain ⟨kk, rfl, q⟩ := q
  cases rv
  exact ⟨kk, rfl, .bl (!kk), H', I', rfl, q⟩
end
/-- t.index(x) of a tuple of texts -/
def rTIdx (K : PySem.W.Frag) : V → List V → Hp → VK → Prop := fun x xs H Q => ∃ p, ∃ ys : List Str, ∃ z j, x = .ref p ∧ xs = [.str z] ∧ SqT K H p (ys.map V.str) ∧ ys[j]? = some z ∧ (∀ m, m < j → ys[m]? ≠ some z) ∧ Q (.int (j : Nat)) H
/-- a tuple of the written part -/
def TupK (K : PySem.W.Frag) (a : Addr) : Prop := ∃ o, K.lookup a = some o ∧ o.cls = .type "tuple" ∧ o.dict = none
def tupKB (K : PySem.W.Frag) (x : Str) : Bool := match K.lookup (He.ga K x) with
  | some o => decide (o.cls = .type "tuple") && o.dict.isNone
  | none => false
theorem tupKB_ok {K : PySem.W.Frag} {x : Str} (h : tupKB K x = true) : TupK K (He.ga K x) := by
  unfold tupKB at h
  split at h
  · rename_i o ho
    obtain ⟨h1, h2⟩ := He.ba h
    exact ⟨o, ho, of_decide_eq_true h1, by simpa using h2⟩
  · cases h
theorem mtTIdx {X : Cx} : MtR X "tuple.index" (rTIdx X.K) := mt_tup_index
end FW
namespace FWL
open PySem PySem.Spec PyProof.Rows L2 FW
/-! ### average loops of any parts: made or refused; parts, == -/
abbrev clsL (K : PySem.W.Frag) : Value := .ref (He.ga K "BadLoop")
abbrev clsF (K : PySem.W.Frag) : Value := .ref (He.ga K "BadField")
/-- seven parts as a loop -/
theorem wrong_ok {k a c d s t m : V} (h : wrongP k a c d s t m = .non) : ∃ l : Lp, l.Ok ∧ [k, a, c, d, s, t, m] = l.V := by
  unfold wrongP at h
  by_cases h1 : (!isInt k || !inV k [.int 2, .int 3, .int 4]) = true
  · rw [if_pos h1] at h; cases h
  rw [if_neg h1] at h
  by_cases h2 : (!isInt a || !(decide (1 ≤ iv a) && decide (iv a ≤ 5))) = true
  · rw [if_pos h2] at h; cases h
  rw [if_neg h2] at h
  by_cases h3 : (!fromI c 1 || (decide (iv a < iv c * (iv k - 1)) || decide (6 < iv a + iv c))) = true
  · rw [if_pos h3] at h; cases h
  rw [if_neg h3] at h
  by_cases h4 : (!isInt d || !(decide (-iv a ≤ iv d) && decide (iv d ≤ iv a + iv c))) = true
  · rw [if_pos h4] at h; cases h
  rw [if_neg h4] at h
  by_cases h5 : (!wordOf s stopsV) = true
  · rw [if_pos h5] at h; cases h
  rw [if_neg h5] at h
  by_cases h6 : (!wordOf t toldsV || (inV s looksV && !decide (t = .str "old"))) = true
  · rw [if_pos h6] at h; cases h
  rw [if_neg h6] at h
  by_cases h7 : wordOf m mendsV = true
  · have isI : ∀ {v : V}, isInt v = true → ∃ i, v = .int i := fun {v} q => by cases v <;> first | (cases q; done) | exact ⟨_, rfl⟩
    have isS : ∀ {v : V}, isStr v = true → ∃ i, v = .str i := fun {v} q => by cases v <;> first | (cases q; done) | exact ⟨_, rfl⟩
    simp only [Bool.or_eq_true, Bool.not_eq_true', Bool.and_eq_true, decide_eq_true_eq, decide_eq_false_iff_not, not_or, Bool.not_eq_false, fromI, wordOf, not_and, Bool.and_eq_false_iff, Classical.not_not] at h1 h2 h3 h4 h5 h6 h7
    obtain ⟨k, rfl⟩ := isI h1.1
    obtain ⟨a, rfl⟩ := isI h2.1
    obtain ⟨c, rfl⟩ := isI h3.1.1
    obtain ⟨d, rfl⟩ := isI h4.1
    obtain ⟨s, rfl⟩ := isS h5.1
    obtain ⟨t, rfl⟩ := isS h6.1.1
    obtain ⟨m, rfl⟩ := isS h7.1
    have mI : inV (.int k) [.int 2, .int 3, .int 4] = true := h1.2
    have hk : k = 2 ∨ k = 3 ∨ k = 4 := by
      have : (decide (2 = k) || (decide (3 = k) || (decide (4 = k) || false))) = true := mI
      simp at this
      omega
    have c1 : 1 ≤ c := h3.1.2
    have ca : c * (k - 1) ≤ a := by have := h3.2.1; show c * (k - 1) ≤ a; have e : iv (.int a) = a := rfl; have e2 : iv (.int c) = c := rfl; have e3 : iv (.int k) = k := rfl; rw [e, e2, e3] at this; omega
    have ac : a + c ≤ 6 := by have := h3.2.2; have e : iv (.int a) = a := rfl; have e2 : iv (.int c) = c := rfl; rw [e, e2] at this; omega
    have c3 : c ≤ 3 := by
      rcases hk with rfl | rfl | rfl <;> omega
    have hS : V.str s ∈ stopsV := by have := h5.2; rw [inV_str _ strs_stops] at this; exact of_decide_eq_true this
    have hT : V.str t ∈ toldsV := by have := h6.1.2; rw [inV_str _ strs_tolds] at this; exact of_decide_eq_true this
    have hM : V.str m ∈ mendsV := by have := h7.2; rw [inV_str _ strs_mends] at this; exact of_decide_eq_true this
    refine ⟨⟨k, a, c, d, s, t, m⟩, ⟨hk, h2.2.1, h2.2.2, c1, c3, ca, ac, h4.2.1, h4.2.2, hS, hT, fun z => ?_, hM⟩, rfl⟩
    have := h6.2
    rw [inV_str _ strs_looks] at this
    have q := this (decide_eq_true z)
    exact V.str.inj q
  · rw [if_neg h7] at h; cases h

/-- an instance's class -/
structure InsK (K : PySem.W.Frag) (C : Addr) : Prop where
  cls : PySem.W.findIn K (.ref C) "__class__" = some (some (.builtin "object.__class__"))
  get : PySem.W.specialIn K (.builtin "object.__class__") "__get__" = some (some (.builtin "getset_descriptor.__get__"))
  tk : PySem.W.takesIn K (.builtin "object.__class__") = some true
  mro : PySem.W.mroIn K C (.type "object") = some true
def insKB (K : PySem.W.Frag) (x : Str) : Bool := He.eqO (PySem.W.findIn K (.ref (He.ga K x)) "__class__") (some (some (.builtin "object.__class__"))) && (He.eqO (PySem.W.specialIn K (.builtin "object.__class__") "__get__") (some (some (.builtin "getset_descriptor.__get__"))) &&
  (decide (PySem.W.takesIn K (.builtin "object.__class__") = some true) && decide (PySem.W.mroIn K (He.ga K x) (.type "object") = some true)))
theorem insKB_ok {K : PySem.W.Frag} {x : Str} (h : insKB K x = true) : InsK K (He.ga K x) := by
  obtain ⟨h1, h2⟩ := He.ba h
  obtain ⟨h3, h4⟩ := He.ba h2
  obtain ⟨h5, h6⟩ := He.ba h4
  exact ⟨He.eqO_ok h1, He.eqO_ok h3, of_decide_eq_true h5, of_decide_eq_true h6⟩
theorem kitSelf {K : PySem.W.Frag} {C : Addr} : PySem.W.kitOne K (.ref C) (.ref C) = some true := by
  unfold PySem.W.kitOne
  rw [if_pos (beq_self_eq_true _)]
theorem e_isiO {K : PySem.W.Frag} {H : Hp} {Q : VK} {a C dx : Addr} {fs : List (Str × V)} (k : Q (.bl true) H) (h : H a = some (.ins C dx fs)) (c : Cls K C) (i : InsK K C) : rIsi K [.ref a, .ref C] H Q :=
  ⟨_, _, _, _, true, rfl, .own C, .base (.ins h c i.cls i.get i.tk i.mro), kitSelf, k⟩
def sp_Average_parts (K : PySem.W.Frag) : Sp := fun vs H Q _ => ∃ (p : Addr) (l : Lp), vs = [.ref p] ∧ IsLp K H p l ∧ ∀ t, H t = none → Q (.ref t) (upd H t (.tup l.V))
def rd_Average_parts (K : PySem.W.Frag) : TS := tRet (tTup (tCons (tFld K (tVar 0) "k") (tCons (tFld K (tVar 0) "a") (tCons (tFld K (tVar 0) "c") (tCons (tFld K (tVar 0) "d") (tCons (tFld K (tVar 0) "stop") (tCons (tFld K (tVar 0) "told") (tCons (tFld K (tVar 0) "mend") (tNil)))))))))
theorem pure_Average_parts (K : PySem.W.Frag) (A : AvK K) (vs : List V) (H : Hp) (Q : VK) (E : XK) (h : sp_Average_parts K vs H Q E) : rd_Average_parts K { nx := fun _ H' => Q .non H', rt := Q } (start ["self"] vs) H := by
  obtain ⟨p, l, rfl, hp, q⟩ := h
  unfold rd_Average_parts
  walk_at "rd"
  refine e_fL ?_ A hp A.n_k rfl
  walk_at "rd"
  refine e_fL ?_ A hp A.n_a rfl
  walk_at "rd"
  refine e_fL ?_ A hp A.n_c rfl
  walk_at "rd"
  refine e_fL ?_ A hp A.n_d rfl
  walk_at "rd"
  refine e_fL ?_ A hp A.n_stop rfl
  walk_at "rd"
  refine e_fL ?_ A hp A.n_told rfl
  walk_at "rd"
  refine e_fL ?_ A hp A.n_mend rfl
  walk_at "rd"
  exact ⟨by show 7 ≤ sizeLine; decide, fun t ht => q t ht⟩
def Lp.D (l : Lp) : PyData := .tuple [.int l.k, .int l.a, .int l.c, .int l.d, .str l.stop, .str l.told, .str l.mend]
theorem Lp.dp {K : PySem.W.Frag} {H : Hp} {t : Addr} {l : Lp} (h : SqT K H t l.V) : Dp K H (.ref t) l.D :=
  .tup h (.cons (.int _) (.cons (.int _) (.cons (.int _) (.cons (.int _) (.cons (.str _) (.cons (.str _) (.cons (.str _) .nil)))))))
theorem strs_ok {s : Str} {xs : List V} {P : Str → Prop} (h : V.str s ∈ xs) (hx : ∀ z, V.str z ∈ xs → P z) : P s := hx s h
theorem Lp.Ok.sh {l : Lp} (o : l.Ok) : SeqAt.shaped l.D = true := by
  obtain ⟨k, a, c, d, s, t, m⟩ := l
  have hs := o.hs; have ht := o.ht; have hm := o.hm
  simp only [stopsV, toldsV, mendsV, List.mem_cons, List.not_mem_nil, or_false, V.str.injEq] at hs ht hm
  rcases hs with rfl | rfl | rfl | rfl | rfl | rfl | rfl <;> rcases ht with rfl | rfl | rfl | rfl <;> rcases hm with rfl | rfl | rfl | rfl <;> kernel_rfl
theorem Lp.eqv {l m : Lp} : PyData.eqv l.D m.D = decide (l.V = m.V) := by
  unfold Lp.D
  simp only [PyData.eqv, PyData.eqvAll, Lp.V, List.cons.injEq, V.int.injEq, V.str.injEq, and_true]
  by_cases h1 : l.k = m.k <;> by_cases h2 : l.a = m.a <;> by_cases h3 : l.c = m.c <;> by_cases h4 : l.d = m.d <;> by_cases h5 : l.stop = m.stop <;> by_cases h6 : l.told = m.told <;> by_cases h7 : l.mend = m.mend <;> simp [h1, h2, h3, h4, h5, h6, h7]
def sp_Average_eq (K : PySem.W.Frag) : Sp := fun vs H Q _ => ∃ (p r : Addr) (l m : Lp), vs = [.ref p, .ref r] ∧ IsLp K H p l ∧ IsLp K H r m ∧ l.Ok ∧ m.Ok ∧ ∀ H', Ext H H' → Q (.bl (decide (l.V = m.V))) H'
def rd_Average_eq (K : PySem.W.Frag) : TS := tSeq (tIfS (tNot (tB (tCB (rIsi K) (tCons (tVar 1) (tCons (tC (.ref (He.ga K "Average"))) (tNil)))))) (tNever) (tNext)) (tRet (tOp (rEqD K) (tMeth (He.ga K "Average") "parts" (sp_Average_parts K) [] E0 (tVar 0) tNil) (tMeth (He.ga K "Average") "parts" (sp_Average_parts K) [] E0 (tVar 1) tNil)))
theorem pure_Average_eq (K : PySem.W.Frag) (A : AvK K) (B : InsK K (He.ga K "Average")) (vs : List V) (H : Hp) (Q : VK) (E : XK) (h : sp_Average_eq K vs H Q E) : rd_Average_eq K { nx := fun _ H' => Q .non H', rt := Q } (start ["self", "other"] vs) H := by
  obtain ⟨p, r, l, m, rfl, hp, hr, o, o', q⟩ := h
  obtain ⟨dr, hr'⟩ := id hr
  obtain ⟨dp, hp'⟩ := id hp
  unfold rd_Average_eq
  walk_at "rd"
  refine e_isiO ?_ hr' A.cls B
  walk_at "rd"
  refine ⟨p, dp, _, rfl, hp', rfl, ?_⟩
  walk_at "rd"
  refine ⟨p, l, rfl, hp, fun t1 h1 => ?_⟩
  have e1 : Ext H (upd H t1 (.tup l.V)) := Ext.new h1
  walk_at "rd"
  refine ⟨r, dr, _, rfl, e1 _ _ hr', rfl, ?_⟩
  walk_at "rd"
  refine ⟨r, m, rfl, hr.ext e1, fun t2 h2 => ?_⟩
  have e2 : Ext (upd H t1 (.tup l.V)) (upd (upd H t1 (.tup l.V)) t2 (.tup m.V)) := Ext.new h2
  refine e_eqD (d := l.D) (e := m.D) ?_ (Lp.dp (SqT.of (e2 _ _ upd_same))) (Lp.dp (SqT.of upd_same)) o.sh o'.sh
  rw [Lp.eqv]
  exact q _ (e1.tr e2)
def sp_Average_initX (K : PySem.W.Frag) : Sp := fun vs H Q E => ∃ (x dx : Addr) (k a c d s t m : V), vs = [.ref x, k, a, c, d, s, t, m] ∧ (∀ v ∈ [k, a, c, d, s, t, m], ∃ n, WT K H v n) ∧ (iv c).natAbs < 2 ^ 900 ∧ H x = some (.ins (He.ga K "Average") dx []) ∧
  (∀ l : Lp, l.Ok → [k, a, c, d, s, t, m] = l.V → ∀ H', ExtB x H H' → H' x = some (.ins (He.ga K "Average") dx l.F) → Q .non H') ∧
  (wrongP k a c d s t m ≠ .non → ∀ H' e, Ext H H' → H' e = none → E (clsL K) (some e) (upd H' e (.xd [("word", wrongP k a c d s t m)])))
def rd_Average_initX (K : PySem.W.Frag) (E : XK) : TS := tSeq (tAsg (tCall (sp_wrong_part K) [] E0 (tCons (tVar 1) (tCons (tVar 2) (tCons (tVar 3) (tCons (tVar 4) (tCons (tVar 5) (tCons (tVar 6) (tCons (tVar 7) (tNil))))))))) (gName 8)) (tSeq (tIfS (tTest (tOp FW.rNotN (tVar 8) (tC .non))) (FW.tRaiseE (He.ga K "BadLoop") "word" (fun cls d _ H => E cls d H) (tCons (tVar 8) (tNil))) (tNext)) (tSeq (sFld K (tVar 0) (tVar 1) "k") (tSeq (sFld K (tVar 0) (tVar 2) "a") (tSeq (sFld K (tVar 0) (tVar 3) "c") (tSeq (sFld K (tVar 0) (tVar 4) "d") (tSeq (sFld K (tVar 0) (tVar 5) "stop") (tSeq (sFld K (tVar 0) (tVar 6) "told") (sFld K (tVar 0) (tVar 7) "mend"))))))))
theorem pure_Average_initX (K : PySem.W.Frag) (A : AvK K) (vs : List V) (H : Hp) (Q : VK) (E : XK) (h : sp_Average_initX K vs H Q E) : rd_Average_initX K E { nx := fun _ H' => Q .non H', rt := Q } (start ["self", "k", "a", "c", "d", "stop", "told", "mend", "wrong"] vs) H := by
  obtain ⟨x, dx, k, a, c, d, s, t, m, rfl, hw, hc, hx, q, qE⟩ := h
  unfold rd_Average_initX
  walk_at "rd"
  refine ⟨_, _, _, _, _, _, _, rfl, hw, hc, fun H1 e1 => ?_⟩
  by_cases hn : wrongP k a c d s t m = .non
  · obtain ⟨l, o, el⟩ := wrong_ok hn
    obtain ⟨k', a', c', d', s', t', m'⟩ := l
    have el' : [k, a, c, d, s, t, m] = [V.int k', V.int a', V.int c', V.int d', V.str s', V.str t', V.str m'] := el
    injection el' with z1 el'; injection el' with z2 el'; injection el' with z3 el'; injection el' with z4 el'; injection el' with z5 el'; injection el' with z6 el'; injection el' with z7 el'
    subst z1 z2 z3 z4 z5 z6 z7
    rw [hn]
    walk_at "rd"
    refine e_iteN (fun h => absurd rfl h) (fun _ => ?_)
    walk_at "rd"
    refine e_sF ?_ (e1 _ _ hx) A.cls A.n_k (by decide)
    walk_at "rd"
    refine e_sF ?_ upd_same A.cls A.n_a (by show 1 < 1000; decide)
    walk_at "rd"
    refine e_sF ?_ upd_same A.cls A.n_c (by show 2 < 1000; decide)
    walk_at "rd"
    refine e_sF ?_ upd_same A.cls A.n_d (by show 3 < 1000; decide)
    walk_at "rd"
    refine e_sF ?_ upd_same A.cls A.n_stop (by show 4 < 1000; decide)
    walk_at "rd"
    refine e_sF ?_ upd_same A.cls A.n_told (by show 5 < 1000; decide)
    walk_at "rd"
    refine e_sF ?_ upd_same A.cls A.n_mend (by show 6 < 1000; decide)
    refine q _ o el _ ?_ upd_same
    intro a o' ne h
    rw [upd_ne ne, upd_ne ne, upd_ne ne, upd_ne ne, upd_ne ne, upd_ne ne, upd_ne ne]
    exact e1 _ _ h
  · walk_at "rd"
    refine e_iteN (fun _ => ?_) (fun h => absurd h hn)
    unfold tRaiseE tMkE
    walk_at "rd"
    exact ⟨_, rfl, fun e he => qE hn H1 e e1 he⟩
def sp_l_loopX (K : PySem.W.Frag) : Sp := fun vs H Q E => ∃ (p : Addr) (k a c d s t m : V), vs = [.ref p] ∧ SqT K H p [k, a, c, d, s, t, m] ∧ (∀ v ∈ [k, a, c, d, s, t, m], ∃ n, WT K H v n) ∧ (iv c).natAbs < 2 ^ 900 ∧
  (∀ l : Lp, l.Ok → [k, a, c, d, s, t, m] = l.V → ∀ x H', H x = none → Ext H H' → IsLp K H' x l → Q (.ref x) H') ∧
  (wrongP k a c d s t m ≠ .non → ∀ H' e, Ext H H' → H' e = none → E (clsL K) (some e) (upd H' e (.xd [("word", wrongP k a c d s t m)])))
def rd_l_loopX (K : PySem.W.Frag) (E : XK) : TS := tRet (tMake (He.ga K "Average") (sp_Average_initX K) [] E (tCons (tOp (rIxT K) (tVar 0) (tC (.int 0))) (tCons (tOp (rIxT K) (tVar 0) (tC (.int 1))) (tCons (tOp (rIxT K) (tVar 0) (tC (.int 2))) (tCons (tOp (rIxT K) (tVar 0) (tC (.int 3))) (tCons (tOp (rIxT K) (tVar 0) (tC (.int 4))) (tCons (tOp (rIxT K) (tVar 0) (tC (.int 5))) (tCons (tOp (rIxT K) (tVar 0) (tC (.int 6))) (tNil)))))))))
theorem make_av {K : PySem.W.Frag} {H : Hp} {Q : VK} {E : XK} {k a c d s t m : V} (hw : ∀ v ∈ [k, a, c, d, s, t, m], ∃ n, WT K H v n) (hc : (iv c).natAbs < 2 ^ 900)
    (q : ∀ l : Lp, l.Ok → [k, a, c, d, s, t, m] = l.V → ∀ x H', H x = none → Ext H H' → IsLp K H' x l → Q (.ref x) H')
    (qE : wrongP k a c d s t m ≠ .non → ∀ H' e, Ext H H' → H' e = none → E (clsL K) (some e) (upd H' e (.xd [("word", wrongP k a c d s t m)]))) (x dx : Addr) (hx : H x = none) (hdx : H dx = none) (hne : dx ≠ x) :
    sp_Average_initX K (.ref x :: ([k, a, c, d, s, t, m] ++ [])) (upd (upd H dx (.own x)) x (.ins (He.ga K "Average") dx [])) (fun v H2 => v = .non ∧ Q (.ref x) H2) E := by
  have e3 : Ext H (upd (upd H dx (.own x)) x (.ins (He.ga K "Average") dx [])) := (Ext.new hdx).tr (Ext.new (by rw [upd_ne hne.symm]; exact hx))
  refine ⟨x, dx, k, a, c, d, s, t, m, rfl, fun v hv => ?_, hc, upd_same, fun l o el H4 e4 h4 => ⟨rfl, q l o el x H4 hx (fun b ob z => e4 _ _ (ne_of_none z hx) (e3 _ _ z)) ⟨dx, h4⟩⟩, fun hn H' e e' he => qE hn H' e (e3.tr e') he⟩
  obtain ⟨n, z⟩ := hw v hv
  exact ⟨n, z.ext e3⟩
theorem pure_l_loopX (K : PySem.W.Frag) (A : AvK K) (vs : List V) (H : Hp) (Q : VK) (E : XK) (h : sp_l_loopX K vs H Q E) : rd_l_loopX K E { nx := fun _ H' => Q .non H', rt := Q } (start ["_law_parts_here"] vs) H := by
  obtain ⟨p, k, a, c, d, s, t, m, rfl, hp, hw, hc, q, qE⟩ := h
  unfold rd_l_loopX
  walk_at "rd"
  refine e_ixT ?_ hp rfl
  walk_at "rd"
  refine e_ixT ?_ hp rfl
  walk_at "rd"
  refine e_ixT ?_ hp rfl
  walk_at "rd"
  refine e_ixT ?_ hp rfl
  walk_at "rd"
  refine e_ixT ?_ hp rfl
  walk_at "rd"
  refine e_ixT ?_ hp rfl
  walk_at "rd"
  refine e_ixT ?_ hp rfl
  walk_at "rd"
  exact make_av hw hc q qE
theorem e_slA {K : PySem.W.Frag} {H : Hp} {Q : VK} {a : Addr} {xs : List V} {lo hi : Option Int} (q : ∀ p, H p = none → Q (.ref p) (upd H p (.tup (cutV xs lo hi)))) (h : SqT K H a xs) (hn : ¬ (HT.sIx xs.length 0 lo = 0 ∧ HT.sIx xs.length xs.length hi = xs.length)) : rSlA K (.ref a) lo hi H Q :=
  ⟨a, xs, rfl, h, fun z => absurd z hn, fun _ => q⟩
end FWL
namespace FWL
open PySem PySem.Spec PyProof.Rows L2 FW
/-! ### what a round asks -/
def Lp.near (l : Lp) : Int := if l.stop = "near1" then 1 else if l.stop = "near2" then 2 else 0
def Lp.looks (l : Lp) (n x : Int) : Bool := if l.stop = "under" then decide (x ^ l.k.toNat ≤ n) else decide (l.stop = "held") && (decide (x ^ l.k.toNat ≤ n) && decide (n < (x + 1) ^ l.k.toNat))
def absI (i : Int) : Int := if i < 0 then -i else i
def Lp.ends (l : Lp) (x y : Int) (b : Option Int) : Bool := if l.stop = "notless" then decide (x ≤ y) else if l.stop = "near1" ∨ l.stop = "near2" then decide (absI (x - y) ≤ l.near) else
  decide (l.stop = "equal" ∨ l.stop = "back") && (decide (y = x) || (decide (l.stop = "back") && decide (some y = b)))
def Lp.chosen (l : Lp) (x y : Int) : Int := if l.told = "old" then x else if l.told = "new" then y else if l.told = "less" then min x y else max x y
def Lp.mended (l : Lp) (n t : Int) : Int := if (l.mend = "down" ∨ l.mend = "both") ∧ n < t ^ l.k.toNat then t - 1 else if (l.mend = "up" ∨ l.mend = "both") ∧ (t + 1) ^ l.k.toNat ≤ n then t + 1 else t
def nearsK : List (L2.Key × V) := [(.inr "near1", .int 1), (.inr "near2", .int 2)]
theorem near_val (s : Str) : ((valV nearsK (.inr s)).getD (.int 0)) = .int (if s = "near1" then 1 else if s = "near2" then 2 else 0) := by
  by_cases h1 : s = "near1"
  · subst h1; rfl
  · by_cases h2 : s = "near2"
    · subst h2; rfl
    · rw [if_neg h1, if_neg h2]
      unfold nearsK
      rw [valV_neg (by intro z; exact h1 (Sum.inr.inj z).symm), valV_neg (by intro z; exact h2 (Sum.inr.inj z).symm)]
      rfl
def sp_Average_nearness (K : PySem.W.Frag) : Sp := fun vs H Q _ => ∃ (p : Addr) (l : Lp), vs = [.ref p] ∧ IsLp K H p l ∧ ∀ H', Ext H H' → Q (.int l.near) H'
def rd_Average_nearness (K : PySem.W.Frag) : TS := tRet (tDGet2 (tDisp [(tC (.str "near1"), tC (.int 1)), (tC (.str "near2"), tC (.int 2))]) (tFld K (tVar 0) "stop") (tC (.int 0)))
theorem e_get2 {td ty tx : TE} {σ : L2.St} {H : Hp} {Q : VK} (k : td σ H fun x H1 => ∃ a, x = .ref a ∧ IsD H1 a ∧ ty σ H1 fun y H2 => tx σ H2 fun z H3 => ∃ o, DGet H3 a y o ∧ Q (o.getD z) H3) : tDGet2 td ty tx σ H Q := k
theorem e_get {td ty : TE} {σ : L2.St} {H : Hp} {Q : VK} (k : td σ H fun x H1 => ty σ H1 fun y H2 => ∃ a v, x = .ref a ∧ DGet H2 a y (some v) ∧ Q v H2) : tDGet td ty σ H Q := k
theorem pure_Average_nearness (K : PySem.W.Frag) (A : AvK K) (vs : List V) (H : Hp) (Q : VK) (E : XK) (h : sp_Average_nearness K vs H Q E) : rd_Average_nearness K { nx := fun _ H' => Q .non H', rt := Q } (start ["self"] vs) H := by
  obtain ⟨p, l, rfl, ⟨dx, hp⟩, q⟩ := h
  unfold rd_Average_nearness
  walk_at "rd"
  refine e_get2 fun d hd => ?_
  unfold tPairs tPairs tPairs
  walk_at "rd"
  refine ⟨upd_same, nearsK, rfl, by decide, _, rfl, .inl ⟨_, .inl upd_same⟩, ?_⟩
  rw [upd_upd]
  have hp' : (upd H d (.dK (mergeK [] nearsK))) p = some (.ins (He.ga K "Average") dx l.F) := (Ext.new hd) _ _ hp
  walk_at "rd"
  refine ⟨p, _, dx, _, _, rfl, hp', A.cls, A.n_stop, rfl, ?_⟩
  walk_at "rd"
  refine ⟨_, .inl ⟨_, .inr l.stop, .inl upd_same, rfl, rfl⟩, ?_⟩
  have e : mergeK [] nearsK = nearsK := rfl
  rw [e, near_val]
  exact q _ (Ext.new hd)

def toldsK (x y : Int) : List (L2.Key × V) := [(.inr "old", .int x), (.inr "new", .int y), (.inr "less", .int (if y < x then y else x)), (.inr "more", .int (if x < y then y else x))]
theorem told_val {s : Str} (h : V.str s ∈ toldsV) (x y : Int) : valV (toldsK x y) (.inr s) = some (.int (if s = "old" then x else if s = "new" then y else if s = "less" then min x y else max x y)) := by
  simp only [toldsV, List.mem_cons, V.str.injEq, List.not_mem_nil, or_false] at h
  rcases h with rfl | rfl | rfl | rfl
  · rfl
  · rfl
  · show some (V.int (if y < x then y else x)) = some (V.int (min x y))
    congr 2; split <;> omega
  · show some (V.int (if x < y then y else x)) = some (V.int (max x y))
    congr 2; split <;> omega
def sp_Average_chosen (K : PySem.W.Frag) : Sp := fun vs H Q _ => ∃ (p : Addr) (l : Lp) (x y : Int), vs = [.ref p, .int x, .int y] ∧ IsLp K H p l ∧ l.Ok ∧ ∀ H', Ext H H' → Q (.int (l.chosen x y)) H'
def rd_Average_chosen (K : PySem.W.Frag) : TS := tRet (tDGet (tDisp [(tC (.str "old"), tVar 1), (tC (.str "new"), tVar 2), (tC (.str "less"), tCB FW.rMin2 (tCons (tVar 1) (tCons (tVar 2) (tNil)))), (tC (.str "more"), tCB FW.rMax2 (tCons (tVar 1) (tCons (tVar 2) (tNil))))]) (tFld K (tVar 0) "told"))
theorem pure_Average_chosen (K : PySem.W.Frag) (A : AvK K) (vs : List V) (H : Hp) (Q : VK) (E : XK) (h : sp_Average_chosen K vs H Q E) : rd_Average_chosen K { nx := fun _ H' => Q .non H', rt := Q } (start ["self", "x", "y"] vs) H := by
  obtain ⟨p, l, x, y, rfl, ⟨dx, hp⟩, o, q⟩ := h
  unfold rd_Average_chosen
  walk_at "rd"
  refine e_get fun d hd => ?_
  unfold tPairs tPairs tPairs tPairs tPairs
  walk_at "rd"
  refine ⟨upd_same, toldsK x y, rfl, by show 4 ≤ 15; decide, ?_⟩
  rw [upd_upd]
  have hp' : (upd H d (.dK (mergeK [] (toldsK x y)))) p = some (.ins (He.ga K "Average") dx l.F) := (Ext.new hd) _ _ hp
  walk_at "rd"
  refine ⟨p, _, dx, _, _, rfl, hp', A.cls, A.n_told, rfl, ?_⟩
  refine ⟨_, _, rfl, .inl ⟨_, .inr l.told, .inl upd_same, rfl, ?_⟩, q _ (Ext.new hd)⟩
  have e : mergeK [] (toldsK x y) = toldsK x y := rfl
  rw [e, told_val o.ht]
  rfl
theorem inV2 (s a b : Str) : inV (.str s) [.str a, .str b] = decide (s = a ∨ s = b) := by
  unfold inV
  simp only [List.any_cons, List.any_nil, eqV_str, Bool.or_false, Bool.decide_or]
  rw [show decide (a = s) = decide (s = a) from decide_eq_decide.mpr eq_comm, show decide (b = s) = decide (s = b) from decide_eq_decide.mpr eq_comm]
theorem decS (a b : Str) : decide (V.str a = V.str b) = decide (a = b) := decide_eq_decide.mpr ⟨fun z => by injection z, fun z => by rw [z]⟩
theorem decI (a b : Int) : decide (V.int a = V.int b) = decide (a = b) := decide_eq_decide.mpr ⟨fun z => by injection z, fun z => by rw [z]⟩
theorem Lp.Ok.k4 {l : Lp} (o : l.Ok) : 0 ≤ l.k ∧ l.k.toNat ≤ 4 := by have := o.hk; omega
theorem pw_ok {K : PySem.W.Frag} {l : Lp} (o : l.Ok) {x : Int} (hx : Sz 2002 x) {H : Hp} {Q : VK} {E : XK} (q : Q (.int (x ^ l.k.toNat)) H) : sp_power K [.int x, .int l.k] H Q E := by
  obtain ⟨k0, k4⟩ := o.k4
  refine ⟨x, l.k, 2002, rfl, k0, hx, by decide, ?_, q⟩
  have : (l.k.toNat + 1) * 2002 ≤ 5 * 2002 := Nat.mul_le_mul_right _ (by omega)
  omega
theorem Sz.inc {x : Int} {b : Nat} (h : Sz b x) (hx : 0 ≤ x) : Sz (b + 1) (x + 1) := by
  have h : x.natAbs < 2 ^ b := h
  show (x + 1).natAbs < 2 ^ (b + 1)
  rw [Nat.pow_succ]
  omega
def sp_Average_looks (K : PySem.W.Frag) : Sp := fun vs H Q _ => ∃ (p : Addr) (l : Lp) (n x : Int), vs = [.ref p, .int n, .int x] ∧ IsLp K H p l ∧ l.Ok ∧ 0 ≤ x ∧ Sz 2000 x ∧ Q (.bl (l.looks n x)) H
def rd_Average_looks (K : PySem.W.Frag) : TS := tSeq (tIfS (tTest (tOp rEq (tFld K (tVar 0) "stop") (tC (.str "under")))) (tRet (tOp FW.rLe (tCall (sp_power K) [] E0 (tCons (tVar 2) (tCons (tFld K (tVar 0) "k") (tNil)))) (tVar 1))) (tNext)) (tRet (tAndV (tOp rEq (tFld K (tVar 0) "stop") (tC (.str "held"))) (tChain FW.rLe FW.rLt (tCall (sp_power K) [] E0 (tCons (tVar 2) (tCons (tFld K (tVar 0) "k") (tNil)))) (tVar 1) (tCall (sp_power K) [] E0 (tCons (tOp FW.rAdd (tVar 2) (tC (.int 1))) (tCons (tFld K (tVar 0) "k") (tNil)))))))
theorem pure_Average_looks (K : PySem.W.Frag) (A : AvK K) (vs : List V) (H : Hp) (Q : VK) (E : XK) (h : sp_Average_looks K vs H Q E) : rd_Average_looks K { nx := fun _ H' => Q .non H', rt := Q } (start ["self", "n", "x"] vs) H := by
  obtain ⟨p, l, n, x, rfl, ⟨dx, hp⟩, o, x0, xs, q⟩ := h
  unfold Lp.looks at q
  unfold rd_Average_looks
  walk_at "rd"
  refine ⟨p, _, dx, _, _, rfl, hp, A.cls, A.n_stop, rfl, ?_⟩
  walk_at "rd"
  rw [decS]
  refine e_ite (fun h1 => ?_) (fun h1 => ?_)
  · rw [if_pos h1] at q
    walk_at "rd"
    refine ⟨p, _, dx, _, _, rfl, hp, A.cls, A.n_k, rfl, ?_⟩
    walk_at "rd"
    refine pw_ok o (xs.mono (by decide)) ?_
    walk_at "rd"
    exact q
  · rw [if_neg h1] at q
    walk_at "rd"
    refine ⟨p, _, dx, _, _, rfl, hp, A.cls, A.n_stop, rfl, ?_⟩
    walk_at "rd"
    rw [decS]
    by_cases h2 : l.stop = "held"
    · rw [decide_eq_true h2] at q ⊢
      walk_at "rd"
      refine ⟨p, _, dx, _, _, rfl, hp, A.cls, A.n_k, rfl, ?_⟩
      walk_at "rd"
      refine pw_ok o (xs.mono (by decide)) ?_
      walk_at "rd"
      by_cases h3 : x ^ l.k.toNat ≤ n
      · rw [decide_eq_true h3] at q ⊢
        rw [if_pos rfl]
        walk_at "rd"
        refine ⟨p, _, dx, _, _, rfl, hp, A.cls, A.n_k, rfl, ?_⟩
        walk_at "rd"
        refine pw_ok o (Sz.mono (xs.inc x0) (by decide)) ?_
        walk_at "rd"
        exact q
      · rw [decide_eq_false h3] at q ⊢
        rw [if_neg (by decide)]
        exact q
    · rw [decide_eq_false h2] at q ⊢
      walk_at "rd"
      exact q
def sp_Average_ends (K : PySem.W.Frag) : Sp := fun vs H Q _ => ∃ (p : Addr) (l : Lp) (x y : Int) (b : Option Int), vs = [.ref p, .int x, .int y, nkV b] ∧ IsLp K H p l ∧ l.Ok ∧ ∀ H', Ext H H' → Q (.bl (l.ends x y b)) H'
def rd_Average_ends (K : PySem.W.Frag) : TS := tSeq (tIfS (tTest (tOp rEq (tFld K (tVar 0) "stop") (tC (.str "notless")))) (tRet (tOp FW.rGe (tVar 2) (tVar 1))) (tNext)) (tSeq (tIfS (tTest (tOp (rIn K false) (tFld K (tVar 0) "stop") (tTup (tCons (tC (.str "near1")) (tCons (tC (.str "near2")) (tNil)))))) (tRet (tOp FW.rLe (tCB FW.rAbs (tCons (tOp FW.rSub (tVar 1) (tVar 2)) (tNil))) (tMeth (He.ga K "Average") "nearness" (sp_Average_nearness K) [] E0 (tVar 0) tNil))) (tNext)) (tRet (tAndV (tOp (rIn K false) (tFld K (tVar 0) "stop") (tTup (tCons (tC (.str "equal")) (tCons (tC (.str "back")) (tNil))))) (tOrV (tOp rEq (tVar 2) (tVar 1)) (tAndV (tOp rEq (tFld K (tVar 0) "stop") (tC (.str "back"))) (tOp rEq (tVar 2) (tVar 3)))))))
theorem decN (y : Int) (b : Option Int) : decide (V.int y = nkV b) = decide (some y = b) := by
  cases b with
  | none => rw [decide_eq_false (fun z => nomatch z), decide_eq_false (fun z => nomatch z)]
  | some i => exact decide_eq_decide.mpr ⟨fun z => by injection z with z; rw [z], fun z => by injection z with z; rw [z]; rfl⟩
theorem e_eqN {y : Int} {b : Option Int} {H : Hp} {Q : VK} (k : Q (.bl (decide (some y = b))) H) : rEq (.int y) (nkV b) H Q := by
  refine e_eq (by rw [decN]; exact k) ?_
  cases b <;> rfl
theorem pure_Average_ends (K : PySem.W.Frag) (A : AvK K) (vs : List V) (H : Hp) (Q : VK) (E : XK) (h : sp_Average_ends K vs H Q E) : rd_Average_ends K { nx := fun _ H' => Q .non H', rt := Q } (start ["self", "x", "y", "before"] vs) H := by
  obtain ⟨p, l, x, y, b, rfl, hL, o, q⟩ := h
  obtain ⟨dx, hp⟩ := id hL
  unfold Lp.ends at q
  unfold rd_Average_ends
  walk_at "rd"
  refine ⟨p, _, dx, _, _, rfl, hp, A.cls, A.n_stop, rfl, ?_⟩
  walk_at "rd"
  rw [decS]
  refine e_ite (fun h1 => ?_) (fun h1 => ?_)
  · simp only [if_pos h1] at q
    walk_at "rd"
    exact q H Ext.rfl'
  · simp only [if_neg h1] at q
    walk_at "rd"
    refine ⟨p, _, dx, _, _, rfl, hp, A.cls, A.n_stop, rfl, ?_⟩
    walk_at "rd"
    refine ⟨by show 2 ≤ sizeLine; decide, fun t ht => ?_⟩
    have e1 : Ext H (upd H t (.tup [V.str "near1", V.str "near2"])) := Ext.new ht
    refine e_in ?_ (.inr (SqT.of upd_same)) rfl rfl
    generalize upd H t (.tup [V.str "near1", V.str "near2"]) = H1 at *
    have hp1 := e1 _ _ hp
    rw [if_neg (by decide), inV2]
    walk_at "rd"
    refine e_ite (fun h2 => ?_) (fun h2 => ?_)
    · simp only [if_pos h2] at q
      walk_at "rd"
      refine ⟨p, dx, _, rfl, hp1, rfl, ?_⟩
      refine ⟨p, l, rfl, ⟨dx, hp1⟩, fun H2 e2 => ?_⟩
      walk_at "rd"
      exact q H2 (e1.tr e2)
    · simp only [if_neg h2] at q
      walk_at "rd"
      refine ⟨p, _, dx, _, _, rfl, hp1, A.cls, A.n_stop, rfl, ?_⟩
      walk_at "rd"
      refine ⟨by show 2 ≤ sizeLine; decide, fun t2 ht2 => ?_⟩
      have e2 : Ext H1 (upd H1 t2 (.tup [V.str "equal", V.str "back"])) := Ext.new ht2
      refine e_in ?_ (.inr (SqT.of upd_same)) rfl rfl
      generalize upd H1 t2 (.tup [V.str "equal", V.str "back"]) = H2 at *
      have hp2 := e2 _ _ hp1
      rw [if_neg (by decide), inV2]
      by_cases h3 : l.stop = "equal" ∨ l.stop = "back"
      · rw [decide_eq_true h3] at q ⊢
        walk_at "rd"
        rw [decI]
        by_cases h4 : y = x
        · rw [decide_eq_true h4] at q ⊢
          walk_at "rd"
          exact q H2 (e1.tr e2)
        · rw [decide_eq_false h4] at q ⊢
          walk_at "rd"
          refine ⟨p, _, dx, _, _, rfl, hp2, A.cls, A.n_stop, rfl, ?_⟩
          walk_at "rd"
          rw [decS]
          by_cases h5 : l.stop = "back"
          · rw [decide_eq_true h5] at q ⊢
            walk_at "rd"
            refine e_eqN ?_
            exact q H2 (e1.tr e2)
          · rw [decide_eq_false h5] at q ⊢
            walk_at "rd"
            exact q H2 (e1.tr e2)
      · rw [decide_eq_false h3] at q ⊢
        walk_at "rd"
        exact q H2 (e1.tr e2)
def sp_Average_mended (K : PySem.W.Frag) : Sp := fun vs H Q _ => ∃ (p : Addr) (l : Lp) (n t : Int), vs = [.ref p, .int n, .int t] ∧ IsLp K H p l ∧ l.Ok ∧ 0 ≤ t ∧ Sz 2000 t ∧ ∀ H', Ext H H' → Q (.int (l.mended n t)) H'
def rd_Average_mended (K : PySem.W.Frag) : TS := tSeq (tIfS (tAnd (tTest (tOp (rIn K false) (tFld K (tVar 0) "mend") (tTup (tCons (tC (.str "down")) (tCons (tC (.str "both")) (tNil)))))) (tTest (tOp FW.rGt (tCall (sp_power K) [] E0 (tCons (tVar 2) (tCons (tFld K (tVar 0) "k") (tNil)))) (tVar 1)))) (tRet (tOp FW.rSub (tVar 2) (tC (.int 1)))) (tNext)) (tSeq (tIfS (tAnd (tTest (tOp (rIn K false) (tFld K (tVar 0) "mend") (tTup (tCons (tC (.str "up")) (tCons (tC (.str "both")) (tNil)))))) (tTest (tOp FW.rLe (tCall (sp_power K) [] E0 (tCons (tOp FW.rAdd (tVar 2) (tC (.int 1))) (tCons (tFld K (tVar 0) "k") (tNil)))) (tVar 1)))) (tRet (tOp FW.rAdd (tVar 2) (tC (.int 1)))) (tNext)) (tRet (tVar 2)))
theorem pure_Average_mended (K : PySem.W.Frag) (A : AvK K) (vs : List V) (H : Hp) (Q : VK) (E : XK) (h : sp_Average_mended K vs H Q E) : rd_Average_mended K { nx := fun _ H' => Q .non H', rt := Q } (start ["self", "n", "t"] vs) H := by
  obtain ⟨p, l, n, x, rfl, hL, o, x0, xs, q⟩ := h
  obtain ⟨dx, hp⟩ := id hL
  unfold Lp.mended at q
  unfold rd_Average_mended
  have second : ¬ ((l.mend = "down" ∨ l.mend = "both") ∧ n < x ^ l.k.toNat) → ∀ H1, Ext H H1 → (tSeq (tIfS (tAnd (tTest (tOp (rIn K false) (tFld K (tVar 0) "mend") (tTup (tCons (tC (.str "up")) (tCons (tC (.str "both")) (tNil)))))) (tTest (tOp FW.rLe (tCall (sp_power K) [] E0 (tCons (tOp FW.rAdd (tVar 2) (tC (.int 1))) (tCons (tFld K (tVar 0) "k") (tNil)))) (tVar 1)))) (tRet (tOp FW.rAdd (tVar 2) (tC (.int 1)))) (tNext)) (tRet (tVar 2))) { nx := fun _ H' => Q .non H', rt := Q } (start ["self", "n", "t"] [.ref p, .int n, .int x]) H1 := by
    intro hno H1 e1
    simp only [if_neg hno] at q
    have hp1 := e1 _ _ hp
    walk_at "rd"
    refine ⟨p, _, dx, _, _, rfl, hp1, A.cls, A.n_mend, rfl, ?_⟩
    walk_at "rd"
    refine ⟨by show 2 ≤ sizeLine; decide, fun t2 ht2 => ?_⟩
    have e2 : Ext H1 (upd H1 t2 (.tup [V.str "up", V.str "both"])) := Ext.new ht2
    refine e_in ?_ (.inr (SqT.of upd_same)) rfl rfl
    generalize upd H1 t2 (.tup [V.str "up", V.str "both"]) = H2 at *
    have hp2 := e2 _ _ hp1
    rw [if_neg (by decide), inV2]
    walk_at "rd"
    refine e_ite (fun h1 => ?_) (fun h1 => ?_)
    · walk_at "rd"
      refine ⟨p, _, dx, _, _, rfl, hp2, A.cls, A.n_k, rfl, ?_⟩
      walk_at "rd"
      refine pw_ok o (Sz.mono (xs.inc x0) (by decide)) ?_
      walk_at "rd"
      refine e_ite (fun h2 => ?_) (fun h2 => ?_)
      · simp only [if_pos (And.intro h1 h2)] at q
        walk_at "rd"
        exact q H2 (e1.tr e2)
      · simp only [if_neg (fun z : (l.mend = "up" ∨ l.mend = "both") ∧ (x + 1) ^ l.k.toNat ≤ n => h2 z.2)] at q
        walk_at "rd"
        exact q H2 (e1.tr e2)
    · simp only [if_neg (fun z : (l.mend = "up" ∨ l.mend = "both") ∧ (x + 1) ^ l.k.toNat ≤ n => h1 z.1)] at q
      walk_at "rd"
      exact q H2 (e1.tr e2)
  with_reducible refine s_seq ?_
  walk_at "rd"
  refine ⟨p, _, dx, _, _, rfl, hp, A.cls, A.n_mend, rfl, ?_⟩
  walk_at "rd"
  refine ⟨by show 2 ≤ sizeLine; decide, fun t2 ht2 => ?_⟩
  have e2 : Ext H (upd H t2 (.tup [V.str "down", V.str "both"])) := Ext.new ht2
  refine e_in ?_ (.inr (SqT.of upd_same)) rfl rfl
  generalize upd H t2 (.tup [V.str "down", V.str "both"]) = H2 at *
  have hp2 := e2 _ _ hp
  rw [if_neg (by decide), inV2]
  walk_at "re"
  refine e_ite (fun h1 => ?_) (fun h1 => ?_)
  · walk_at "re"
    refine ⟨p, _, dx, _, _, rfl, hp2, A.cls, A.n_k, rfl, ?_⟩
    walk_at "re"
    refine pw_ok o (xs.mono (by decide)) ?_
    walk_at "re"
    refine e_ite (fun h2 => ?_) (fun h2 => ?_)
    · simp only [if_pos (And.intro h1 h2)] at q
      walk_at "rd"
      exact q H2 e2
    · with_reducible refine s_next ?_
      exact second (fun z => h2 z.2) H2 e2
  · walk_at "re"
    with_reducible refine s_next ?_
    exact second (fun z => h1 z.1) H2 e2
end FWL
namespace FWL
open PySem PySem.Spec PyProof.Rows L2 FW
/-! ### runs -/
structure Res where
  gs : List Int
  fin : Str
  told : Option Int
  ring : List Int
def prv (l : Lp) (n x : Int) : Nat → Option Int
  | 0 => none
  | j + 1 => some (itr l n x j)
def keyA (l : Lp) (n x : Int) (j : Nat) : List NK := [if l.stop = "back" then prv l n x j else none, some (itr l n x j)]
def gsA (l : Lp) (n x : Int) (i : Nat) : List Int := (List.range i).map (itr l n x)
/-- an earlier round with the key of round i -/
def seenA (l : Lp) (n x : Int) (i : Nat) : Option Nat := (List.range i).find? fun j => decide (keyA l n x j = keyA l n x i)
def crs (l : Lp) (n x : Int) (i : Nat) : Option Res :=
  match seenA l n x i with
  | some j => some ⟨gsA l n x i, "swings", none, (gsA l n x i).drop j⟩
  | none =>
    if l.looks n (itr l n x i) = true then some ⟨gsA l n x (i + 1), "told", some (l.mended n (itr l n x i)), []⟩
    else if itr l n x i = 0 then some ⟨gsA l n x (i + 1), "nought", none, []⟩
    else if l.ends (itr l n x i) (itr l n x (i + 1)) (prv l n x i) = true then some ⟨gsA l n x (i + 1), "told", some (l.mended n (l.chosen (itr l n x i) (itr l n x (i + 1)))), []⟩
    else none
def Crs (l : Lp) (n x : Int) (r : Res) : Prop := ∃ i, (∀ j, j < i → crs l n x j = none) ∧ crs l n x i = some r
theorem Crs.uniq {l : Lp} {n x : Int} {r s : Res} (h : Crs l n x r) (h' : Crs l n x s) : r = s := by
  obtain ⟨i, hi, e⟩ := h
  obtain ⟨j, hj, e'⟩ := h'
  rcases Nat.lt_trichotomy i j with z | z | z
  · rw [hj i z] at e; cases e
  · subst z; rw [e] at e'; cases e'; rfl
  · rw [hi j z] at e'; cases e'
theorem seen_none {l : Lp} {n x : Int} {i : Nat} (h : seenA l n x i = none) {j : Nat} (hj : j < i) : keyA l n x j ≠ keyA l n x i := by
  have := List.find?_eq_none.mp h j (List.mem_range.mpr hj)
  intro z
  rw [decide_eq_true z] at this
  exact this rfl
theorem seen_some {l : Lp} {n x : Int} {i j : Nat} (h : seenA l n x i = some j) : j < i ∧ keyA l n x j = keyA l n x i := by
  have h1 := List.find?_some h
  have h2 := List.mem_of_find?_eq_some h
  exact ⟨List.mem_range.mp h2, of_decide_eq_true h1⟩
/-- what is known while a run goes on -/
theorem crs_none {l : Lp} {n x : Int} {i : Nat} (h : crs l n x i = none) : seenA l n x i = none ∧ l.looks n (itr l n x i) = false ∧ itr l n x i ≠ 0 ∧ l.ends (itr l n x i) (itr l n x (i + 1)) (prv l n x i) = false := by
  unfold crs at h
  cases hs : seenA l n x i with
  | some j => rw [hs] at h; cases h
  | none =>
    rw [hs] at h
    dsimp only at h
    cases h1 : l.looks n (itr l n x i) with
    | true => rw [h1, if_pos rfl] at h; cases h
    | false =>
      rw [h1, if_neg (by decide)] at h
      by_cases h2 : itr l n x i = 0
      · rw [if_pos h2] at h; cases h
      · rw [if_neg h2] at h
        cases h3 : l.ends (itr l n x i) (itr l n x (i + 1)) (prv l n x i) with
        | true => rw [h3, if_pos rfl] at h; cases h
        | false => exact ⟨rfl, rfl, h2, rfl⟩
theorem itr_nonneg {l : Lp} (o : l.Ok) {n x : Int} (hn : 0 ≤ n) (hx : 0 ≤ x) : ∀ j, (∀ i, i < j → itr l n x i ≠ 0) → 0 ≤ itr l n x j
  | 0, _ => hx
  | j + 1, h => by
    have h0 := itr_nonneg o hn hx j fun i hi => h i (by omega)
    have h1 := h j (by omega)
    exact led_nonneg o hn (by omega)
/-- a run does not go on for ever -/
theorem crs_bound {l : Lp} (o : l.Ok) {n r x : Int} (R : RootOf l.k n r) (hx : 0 ≤ x) (hn : n < 2 ^ 1000) (hxs : x < 2 ^ 1000) {i : Nat} (h : ∀ j, j < i → crs l n x j = none) : i ≤ 30000 := by
  rcases Nat.lt_or_ge 30000 i with z | z
  · exfalso
    have n0 : 0 ≤ n := Int.le_trans (Int.pow_nonneg R.r0) R.lo
    have nz : ∀ j, j < i → itr l n x j ≠ 0 := fun j hj => (crs_none (h j hj)).2.2.1
    have pos : ∀ j, j < i → 1 ≤ itr l n x j := fun j hj => by
      have := itr_nonneg o n0 hx j fun k hk => nz k (by omega)
      have := nz j hj
      omega
    obtain ⟨p, q, hpq, hq, e⟩ := same_two o R hx hn hxs fun j hj => pos j (by omega)
    have hs := (crs_none (h (q + 1) (by omega))).1
    refine seen_none hs (j := p + 1) (by omega) ?_
    unfold keyA
    rw [itr_eq e]
    show [if l.stop = "back" then some (itr l n x p) else none, _] = [if l.stop = "back" then some (itr l n x q) else none, _]
    rw [e]
  · exact z
theorem itr_size {l : Lp} (o : l.Ok) {n r x : Int} (R : RootOf l.k n r) (hx : 0 ≤ x) (hn : n < 2 ^ 1000) (hxs : x < 2 ^ 1000) {i : Nat} (h : ∀ j, j < i → itr l n x j ≠ 0) : 0 ≤ itr l n x i ∧ Sz 1001 (itr l n x i) := by
  have n0 : 0 ≤ n := Int.le_trans (Int.pow_nonneg R.r0) R.lo
  have h0 := itr_nonneg o n0 hx i h
  have pos : ∀ j, j < i → 1 ≤ itr l n x j := fun j hj => by
    have := itr_nonneg o n0 hx j fun k hk => h k (by omega)
    have := h j hj
    omega
  have hM : itr l n x i ≤ 2 ^ 1000 + 10 := itr_most o R (by omega) (by omega) i pos
  refine ⟨h0, ?_⟩
  show (itr l n x i).natAbs < 2 ^ 1001
  omega
/-! ### the dict of places -/
theorem valN_range (f : Nat → List NK) (k : List NK) : ∀ (i : Nat) (kvs : List KvN), kvs.map (fun e => (e.1, e.2.2)) = (List.range i).map (fun j => (f j, V.int (j : Int))) → valN kvs k = ((List.range i).find? fun j => decide (f j = k)).map fun (j : Nat) => V.int (j : Int) := by
  intro i kvs h
  have h1 : valN kvs k = ((kvs.map (fun e => (e.1, e.2.2))).find? fun e => decide (e.1 = k)).map (·.2) := by
    unfold valN
    rw [List.find?_map, Option.map_map]
    rfl
  rw [h1, h, List.find?_map, Option.map_map]
  rfl
/-! ### the class Run -/
structure RnK (K : PySem.W.Frag) : Prop where
  cls : Cls K (He.ga K "Run")
  n_guesses : NoAttr K (He.ga K "Run") "guesses"
  n_end : NoAttr K (He.ga K "Run") "end"
  n_told : NoAttr K (He.ga K "Run") "told"
  n_ring : NoAttr K (He.ga K "Run") "ring"
def sp_Run_init (K : PySem.W.Frag) : Sp := fun vs H Q _ => ∃ (x dx : Addr) (v1 v2 v3 v4 : V), vs = [.ref x, v1, v2, v3, v4] ∧ H x = some (.ins (He.ga K "Run") dx []) ∧
  ∀ H', ExtB x H H' → H' x = some (.ins (He.ga K "Run") dx [("guesses", v1), ("end", v2), ("told", v3), ("ring", v4)]) → Q .non H'
def rd_Run_init (K : PySem.W.Frag) : TS := tSeq (sFld K (tVar 0) (tVar 1) "guesses") (tSeq (sFld K (tVar 0) (tVar 2) "end") (tSeq (sFld K (tVar 0) (tVar 3) "told") (sFld K (tVar 0) (tVar 4) "ring")))
theorem pure_Run_init (K : PySem.W.Frag) (A : RnK K) (vs : List V) (H : Hp) (Q : VK) (E : XK) (h : sp_Run_init K vs H Q E) : rd_Run_init K { nx := fun _ H' => Q .non H', rt := Q } (start ["self", "guesses", "end", "told", "ring"] vs) H := by
  obtain ⟨x, dx, v1, v2, v3, v4, rfl, hx, q⟩ := h
  unfold rd_Run_init
  walk_at "rd"
  refine e_sF ?_ hx A.cls A.n_guesses (by decide)
  walk_at "rd"
  refine e_sF ?_ upd_same A.cls A.n_end (by show 1 < 1000; decide)
  walk_at "rd"
  refine e_sF ?_ upd_same A.cls A.n_told (by show 2 < 1000; decide)
  walk_at "rd"
  refine e_sF ?_ upd_same A.cls A.n_ring (by show 3 < 1000; decide)
  refine q _ ?_ upd_same
  rw [upd_upd, upd_upd, upd_upd]
  exact ExtB.upd
def IsRn (K : PySem.W.Frag) (H : Hp) (x : Addr) (r : Res) : Prop := ∃ (dx g q : Addr), H x = some (.ins (He.ga K "Run") dx [("guesses", .ref g), ("end", .str r.fin), ("told", nkV r.told), ("ring", .ref q)]) ∧ H g = some (.tup (r.gs.map V.int)) ∧ H q = some (.tup (r.ring.map V.int))
theorem IsRn.ext {K : PySem.W.Frag} {H H' : Hp} {x : Addr} {r : Res} (e : Ext H H') : IsRn K H x r → IsRn K H' x r
  | ⟨dx, g, q, h1, h2, h3⟩ => ⟨dx, g, q, e _ _ h1, e _ _ h2, e _ _ h3⟩
/-- a run object is made -/
theorem make_rn {K : PySem.W.Frag} {H : Hp} {Q : VK} {g q : Addr} {r : Res} (hg : H g = some (.tup (r.gs.map V.int))) (hq : H q = some (.tup (r.ring.map V.int))) (k : ∀ x H', H x = none → Ext H H' → IsRn K H' x r → Q (.ref x) H') :
    ∀ x dx, H x = none → H dx = none → dx ≠ x → sp_Run_init K (.ref x :: ([V.ref g, V.str r.fin, nkV r.told, V.ref q] ++ [])) (upd (upd H dx (.own x)) x (.ins (He.ga K "Run") dx [])) (fun v H2 => v = .non ∧ Q (.ref x) H2) E0 := by
  intro x dx hx hdx hne
  have e3 : Ext H (upd (upd H dx (.own x)) x (.ins (He.ga K "Run") dx [])) := (Ext.new hdx).tr (Ext.new (by rw [upd_ne hne.symm]; exact hx))
  refine ⟨x, dx, _, _, _, _, rfl, upd_same, fun H4 e4 h4 => ⟨rfl, ?_⟩⟩
  have e5 : Ext H H4 := fun b ob q => e4 _ _ (ne_of_none q hx) (e3 _ _ q)
  exact k x H4 hx e5 ⟨dx, g, q, h4, e5 _ _ hg, e5 _ _ hq⟩
theorem _root_.FW.IsDN.ext {H H' : Hp} {a : Addr} {kvs : List KvN} (e : Ext H H') (h : IsDN H a kvs) : IsDN H' a kvs := ⟨e _ _ h.at', fun x hx => e _ _ (h.keys x hx), h.size⟩
theorem at_new {H H' : Hp} {g : Addr} {o : HO} (e : Ext H H') (hg : H g = none) : Ext H (upd H' g o) := fun b ob q => by
  rw [upd_ne (ne_of_none q hg)]
  exact e _ _ q
theorem cut_from (xs : List V) (j : Nat) (h : j ≤ xs.length) : cutV xs (some (j : Int)) none = xs.drop j := by
  unfold cutV
  rw [HT.sIx_nat, HT.sIx_none, Nat.min_eq_left h, List.take_of_length_le (by rw [List.length_drop]; omega)]
theorem _root_.FW.IsDN.put {H : Hp} {a b : Addr} {kvs : List KvN} {k : List NK} {v : V} (h : IsDN H a kvs) (hb : H b = some (.tup (k.map nkV))) (hl : kvs.length < sizeLine) : IsDN (upd H a (dN a (kvs ++ [(k, b, v)]))) a (kvs ++ [(k, b, v)]) := by
  have ne : ∀ c ys, H c = some (.tup ys) → c ≠ a := fun c ys hc => ne_of hc h.at' (fun z => nomatch z)
  refine ⟨upd_same, fun x hx => ?_, by rw [List.length_append, List.length_singleton]; omega⟩
  rcases List.mem_append.mp hx with hx | hx
  · rw [upd_ne (ne _ _ (h.keys x hx))]; exact h.keys x hx
  · rw [List.mem_singleton.mp hx]
    show (upd H a _) b = _
    rw [upd_ne (ne _ _ hb)]; exact hb
theorem _root_.FW.IsDN.upd {H : Hp} {a g : Addr} {kvs : List KvN} {xs : List V} {o : HO} (h : IsDN H a kvs) (hg : H g = some (.lst xs)) : IsDN (upd H g o) a kvs :=
  ⟨by rw [upd_ne (ne_of h.at' hg (fun z => nomatch z))]; exact h.at', fun x hx => by rw [upd_ne (ne_of (h.keys x hx) hg (fun z => nomatch z))]; exact h.keys x hx, h.size⟩
theorem n_big {n : Int} (n0 : 0 ≤ n) (hn : n < 2 ^ 1000) : n.natAbs < 2 ^ 2000 := by
  have h : n.natAbs < 2 ^ 1000 := by omega
  exact Nat.lt_of_lt_of_le h (Nat.pow_le_pow_right (by decide) (by decide))
theorem chosen_or (l : Lp) (x y : Int) : l.chosen x y = x ∨ l.chosen x y = y := by
  unfold Lp.chosen
  split
  · exact .inl rfl
  · split
    · exact .inr rfl
    · split
      · omega
      · omega
theorem place_p {K : PySem.W.Frag} (A : AvK K) {σ : L2.St} {H : Hp} {Q : VK} {p dx : Addr} {l : Lp} {n x : Int} {i : Nat} (h0 : σ[0]? = some (some (.ref p))) (h5 : σ[5]? = some (some (nkV (prv l n x i)))) (h6 : σ[6]? = some (some (.int (itr l n x i))))
    (hp : H p = some (.ins (He.ga K "Average") dx l.F)) (k : ∀ t, H t = none → Q (.ref t) (upd H t (.tup ((keyA l n x i).map nkV)))) : (tTup (tCons (tIf (tTest (tOp rEq (tFld K (tVar 0) "stop") (tC (.str "back")))) (tVar 5) (tC .non)) (tCons (tVar 6) (tNil)))) σ H Q := by
  refine e_tup (e_cons (e_ifx (e_test (e_op (e_fldk (e_var ⟨p, _, dx, _, _, rfl, hp, A.cls, A.n_stop, rfl, ?_⟩ h0))))))
  refine e_c (e_eq ?_ rfl)
  rw [decS]
  refine e_bl ?_
  refine e_ite (fun h => ?_) (fun h => ?_)
  · refine e_var (e_cons (e_var (e_nil ⟨by show 2 ≤ sizeLine; decide, ?_⟩) h6)) h5
    have e : (keyA l n x i).map nkV = [nkV (prv l n x i), .int (itr l n x i)] := by unfold keyA; rw [if_pos h]; rfl
    rw [← e]
    exact k
  · refine e_c (e_cons (e_var (e_nil ⟨by show 2 ≤ sizeLine; decide, ?_⟩) h6))
    have e : (keyA l n x i).map nkV = [.non, .int (itr l n x i)] := by unfold keyA; rw [if_neg h]; rfl
    rw [← e]
    exact k
theorem gsA_succ (l : Lp) (n x : Int) (i : Nat) : gsA l n x (i + 1) = gsA l n x i ++ [itr l n x i] := by
  unfold gsA; rw [List.range_succ, List.map_append]; rfl
theorem gsA_len (l : Lp) (n x : Int) (i : Nat) : (gsA l n x i).length = i := by unfold gsA; rw [List.length_map, List.length_range]
def sp_course_of (K : PySem.W.Frag) : Sp := fun vs H Q _ => ∃ (p : Addr) (l : Lp) (n x r : Int), vs = [.ref p, .int n, .int x] ∧ IsLp K H p l ∧ l.Ok ∧ RootOf l.k n r ∧ 0 ≤ x ∧ n < 2 ^ 1000 ∧ x < 2 ^ 1000 ∧ ∀ res y H', Crs l n x res → H y = none → Ext H H' → IsRn K H' y res → Q (.ref y) H'
def rd_course_of_L1 (K : PySem.W.Frag) : TS := tSeq (tAsg (tTup (tCons (tIf (tTest (tOp rEq (tFld K (tVar 0) "stop") (tC (.str "back")))) (tVar 5) (tC .non)) (tCons (tVar 6) (tNil)))) (gName 7)) (tSeq (tIfS (tB (FW.tNIn (tVar 7) (tVar 4))) (tRet (tMake (He.ga K "Run") (sp_Run_init K) [] E0 (tCons (tCB (FW.rTupS K) (tCons (tVar 3) (tNil))) (tCons (tC (.str "swings")) (tCons (tC .non) (tCons (tCB (FW.rTupS K) (tCons (tSl (rSlL K) (tVar 3) (tPart (FW.tNGet (tVar 4) (tVar 7))) (tNoPart)) (tNil))) (tNil))))))) (tNext)) (tSeq (FW.sNPut (tVar 4) (tVar 7) (tCB (Evl.rLenS K) (tCons (tVar 3) (tNil)))) (tSeq (tDrop (tBM K "list" rAppend (tVar 3) (tCons (tVar 6) (tNil)))) (tSeq (tIfS (tB (tMeth (He.ga K "Average") "looks" (sp_Average_looks K) [] E0 (tVar 0) (tCons (tVar 1) (tCons (tVar 6) (tNil))))) (tRet (tMake (He.ga K "Run") (sp_Run_init K) [] E0 (tCons (tCB (FW.rTupS K) (tCons (tVar 3) (tNil))) (tCons (tC (.str "told")) (tCons (tMeth (He.ga K "Average") "mended" (sp_Average_mended K) [] E0 (tVar 0) (tCons (tVar 1) (tCons (tVar 6) (tNil)))) (tCons (tTup (tNil)) (tNil))))))) (tNext)) (tSeq (tIfS (tTest (tOp rEq (tVar 6) (tC (.int 0)))) (tRet (tMake (He.ga K "Run") (sp_Run_init K) [] E0 (tCons (tCB (FW.rTupS K) (tCons (tVar 3) (tNil))) (tCons (tC (.str "nought")) (tCons (tC .non) (tCons (tTup (tNil)) (tNil))))))) (tNext)) (tSeq (tAsg (tMeth (He.ga K "Average") "led" (sp_Average_led K) [] E0 (tVar 0) (tCons (tVar 1) (tCons (tVar 6) (tNil)))) (gName 8)) (tSeq (tIfS (tB (tMeth (He.ga K "Average") "ends" (sp_Average_ends K) [] E0 (tVar 0) (tCons (tVar 6) (tCons (tVar 8) (tCons (tVar 5) (tNil)))))) (tRet (tMake (He.ga K "Run") (sp_Run_init K) [] E0 (tCons (tCB (FW.rTupS K) (tCons (tVar 3) (tNil))) (tCons (tC (.str "told")) (tCons (tMeth (He.ga K "Average") "mended" (sp_Average_mended K) [] E0 (tVar 0) (tCons (tVar 1) (tCons (tMeth (He.ga K "Average") "chosen" (sp_Average_chosen K) [] E0 (tVar 0) (tCons (tVar 6) (tCons (tVar 8) (tNil)))) (tNil)))) (tCons (tTup (tNil)) (tNil))))))) (tNext)) (tPar 5 6 (tCons (tVar 6) (tCons (tVar 8) (tNil)))))))))))
def rd_course_of (K : PySem.W.Frag) : TS := tSeq (tPar 3 4 (tCons (tLst (tNil)) (tCons (FW.tNNew) (tNil)))) (tSeq (tPar 5 6 (tCons (tC .non) (tCons (tVar 2) (tNil)))) (tWhile (tB (tC (.bl true))) (rd_course_of_L1 K)))
/-- the dict of places behind i rounds -/
def Plc (l : Lp) (n x : Int) (i : Nat) (kvs : List KvN) : Prop := kvs.map (fun e => (e.1, e.2.2)) = (List.range i).map (fun j => (keyA l n x j, V.int (j : Int)))
theorem Plc.val {l : Lp} {n x : Int} {i : Nat} {kvs : List KvN} (h : Plc l n x i kvs) : valN kvs (keyA l n x i) = (seenA l n x i).map fun (j : Nat) => V.int (j : Int) := valN_range _ _ i kvs h
theorem Plc.len {l : Lp} {n x : Int} {i : Nat} {kvs : List KvN} (h : Plc l n x i kvs) : kvs.length = i := by
  have := congrArg List.length h
  rw [List.length_map, List.length_map, List.length_range] at this
  exact this
theorem Plc.snoc {l : Lp} {n x : Int} {i : Nat} {kvs : List KvN} {t : Addr} (h : Plc l n x i kvs) : Plc l n x (i + 1) (kvs ++ [(keyA l n x i, t, .int (i : Int))]) := by
  unfold Plc at *
  rw [List.range_succ, List.map_append, List.map_append, h]
  rfl
theorem course_L1 {K : PySem.W.Frag} (A : AvK K) {H H' : Hp} {D : Ends} {p g d : Addr} {l : Lp} {n x r : Int} {i : Nat} {kvs : List KvN} {v7 v8 : Option V} (hL : IsLp K H p l) (o : l.Ok) (R : RootOf l.k n r) (x0 : 0 ≤ x) (hn : n < 2 ^ 1000) (hx : x < 2 ^ 1000)
    (hgo : ∀ j, j < i → crs l n x j = none) (hg0 : H g = none) (hd0 : H d = none) (e : Ext H H') (hg : H' g = some (.lst ((gsA l n x i).map V.int))) (hd : IsDN H' d kvs) (hpl : Plc l n x i kvs)
    (q : ∀ res y H2, crs l n x i = some res → H y = none → Ext H H2 → IsRn K H2 y res → D.rt (.ref y) H2)
    (k : ∀ H2 kvs' w7 w8, crs l n x i = none → Ext H H2 → H2 g = some (.lst ((gsA l n x (i + 1)).map V.int)) → IsDN H2 d kvs' → Plc l n x (i + 1) kvs' → D.nx [some (.ref p), some (.int n), some (.int x), some (.ref g), some (.ref d), some (nkV (prv l n x (i + 1))), some (.int (itr l n x (i + 1))), w7, w8] H2) :
    rd_course_of_L1 K D [some (.ref p), some (.int n), some (.int x), some (.ref g), some (.ref d), some (nkV (prv l n x i)), some (.int (itr l n x i)), v7, v8] H' := by
  obtain ⟨dx, hp⟩ := id hL
  have hi := crs_bound o R x0 hn hx hgo
  obtain ⟨y0, ys⟩ := itr_size o R x0 hn hx fun j hj => (crs_none (hgo j hj)).2.2.1
  unfold rd_course_of_L1
  with_reducible refine s_seq ?_
  with_reducible refine s_asg ?_
  refine place_p A rfl rfl rfl (e _ _ hp) fun t ht => ?_
  have e1 : Ext H' (upd H' t (.tup ((keyA l n x i).map nkV))) := Ext.new ht
  have h1t : (upd H' t (.tup ((keyA l n x i).map nkV))) t = some (.tup ((keyA l n x i).map nkV)) := upd_same
  generalize upd H' t (.tup ((keyA l n x i).map nkV)) = H1 at *
  have eH1 : Ext H H1 := e.tr e1
  have hg1 := e1 _ _ hg
  have hd1 := hd.ext e1
  walk_at "rd"
  unfold tNIn
  walk_at "rd"
  refine ⟨d, t, kvs, keyA l n x i, rfl, rfl, hd1, h1t, ?_⟩
  rw [hpl.val]
  walk_at "rd"
  cases hs : seenA l n x i with
  | some j =>
    obtain ⟨hji, _⟩ := seen_some hs
    have hres : crs l n x i = some ⟨gsA l n x i, "swings", none, (gsA l n x i).drop j⟩ := by unfold crs; rw [hs]
    show if true = true then _ else _
    walk_at "rd"
    refine e_tupL (fun t1 ht1 => ?_) (SqL.of hg1)
    have e2 : Ext H1 (upd H1 t1 (.tup ((gsA l n x i).map V.int))) := Ext.new ht1
    have h2t : (upd H1 t1 (.tup ((gsA l n x i).map V.int))) t1 = some (.tup ((gsA l n x i).map V.int)) := upd_same
    generalize upd H1 t1 (.tup ((gsA l n x i).map V.int)) = H2 at *
    walk_at "rd"
    refine e_sl ?_
    walk_at "rd"
    refine e_part ?_
    unfold tNGet
    walk_at "rd"
    refine ⟨d, t, kvs, keyA l n x i, .int (j : Int), rfl, rfl, hd1.ext e2, e2 _ _ h1t, by rw [hpl.val, hs]; rfl, ?_⟩
    refine e_part' (e_noP (e_slL (fun t2 ht2 => ?_) (SqL.of (e2 _ _ hg1))))
    rw [cut_from _ _ (by rw [List.length_map, gsA_len]; omega), ← List.map_drop]
    have e3 : Ext H2 (upd H2 t2 (.lst (((gsA l n x i).drop j).map V.int))) := Ext.new ht2
    have h3t : (upd H2 t2 (.lst (((gsA l n x i).drop j).map V.int))) t2 = some (.lst (((gsA l n x i).drop j).map V.int)) := upd_same
    generalize upd H2 t2 (.lst (((gsA l n x i).drop j).map V.int)) = H3 at *
    walk_at "rd"
    refine e_tupL (fun t3 ht3 => ?_) (SqL.of h3t)
    have e4 : Ext H3 (upd H3 t3 (.tup (((gsA l n x i).drop j).map V.int))) := Ext.new ht3
    have h4t : (upd H3 t3 (.tup (((gsA l n x i).drop j).map V.int))) t3 = some (.tup (((gsA l n x i).drop j).map V.int)) := upd_same
    generalize upd H3 t3 (.tup (((gsA l n x i).drop j).map V.int)) = H4 at *
    walk_at "rd"
    have e14 := e2.tr (e3.tr e4)
    exact make_rn (r := ⟨gsA l n x i, "swings", none, (gsA l n x i).drop j⟩) (e4 _ _ (e3 _ _ h2t)) h4t fun y H5 hy e5 hr => q _ y H5 hres ((eH1.tr e14).non hy) ((eH1.tr e14).tr e5) hr
  | none =>
    show if false = true then _ else _
    walk_at "rd"
    unfold sNPut
    walk_at "rd"
    refine e_len ?_ (.inl (SqL.of hg1))
    walk_at "rd"
    rw [List.length_map, gsA_len]
    refine ⟨d, t, kvs, keyA l n x i, rfl, rfl, hd1, h1t, by rw [hpl.val, hs]; rfl, by rw [hpl.len]; show i < 2 ^ 24; omega, ?_⟩
    have hdg : g ≠ d := ne_of hg1 hd1.at' (fun z => nomatch z)
    have eH2 : Ext H (upd H1 d (dN d (kvs ++ [(keyA l n x i, t, .int (i : Int))]))) := at_new eH1 hd0
    have hd2 : IsDN (upd H1 d (dN d (kvs ++ [(keyA l n x i, t, .int (i : Int))]))) d (kvs ++ [(keyA l n x i, t, .int (i : Int))]) := hd1.put h1t (by rw [hpl.len]; show i < 2 ^ 24; omega)
    have hg2 : (upd H1 d (dN d (kvs ++ [(keyA l n x i, t, .int (i : Int))]))) g = some (.lst ((gsA l n x i).map V.int)) := by rw [upd_ne hdg]; exact hg1
    generalize upd H1 d (dN d (kvs ++ [(keyA l n x i, t, .int (i : Int))])) = H2 at *
    walk_at "rd"
    refine ⟨.inl ⟨rfl, _, SqL.of hg2⟩, ?_⟩
    walk_at "rd"
    refine ⟨g, _, _, rfl, rfl, hg2, by rw [List.length_map, gsA_len]; show i < 2 ^ 24; omega, ?_⟩
    have eg : (gsA l n x i).map V.int ++ [V.int (itr l n x i)] = (gsA l n x (i + 1)).map V.int := by rw [gsA_succ, List.map_append]; rfl
    rw [eg]
    have eH3 : Ext H (upd H2 g (.lst ((gsA l n x (i + 1)).map V.int))) := at_new eH2 hg0
    have hd3 : IsDN (upd H2 g (.lst ((gsA l n x (i + 1)).map V.int))) d (kvs ++ [(keyA l n x i, t, .int (i : Int))]) := hd2.upd hg2
    have hg3 : (upd H2 g (.lst ((gsA l n x (i + 1)).map V.int))) g = some (.lst ((gsA l n x (i + 1)).map V.int)) := upd_same
    generalize upd H2 g (.lst ((gsA l n x (i + 1)).map V.int)) = H3 at *
    have hp3 := eH3 _ _ hp
    clear hg1 hd1 h1t e1 eH1 hg2 hd2 eH2 ht
    walk_at "rd"
    refine ⟨p, dx, _, rfl, hp3, rfl, ?_⟩
    walk_at "rd"
    refine ⟨p, l, n, itr l n x i, rfl, ⟨dx, hp3⟩, o, y0, ys.mono (by decide), ?_⟩
    walk_at "rd"
    cases hlk : l.looks n (itr l n x i) with
    | true =>
      have hres : crs l n x i = some ⟨gsA l n x (i + 1), "told", some (l.mended n (itr l n x i)), []⟩ := by unfold crs; rw [hs]; dsimp only; rw [hlk, if_pos rfl]
      walk_at "rd"
      refine e_tupL (fun t1 ht1 => ?_) (SqL.of hg3)
      have e2 : Ext H3 (upd H3 t1 (.tup ((gsA l n x (i + 1)).map V.int))) := Ext.new ht1
      have h2t : (upd H3 t1 (.tup ((gsA l n x (i + 1)).map V.int))) t1 = some (.tup ((gsA l n x (i + 1)).map V.int)) := upd_same
      generalize upd H3 t1 (.tup ((gsA l n x (i + 1)).map V.int)) = H4 at *
      walk_at "rd"
      refine ⟨p, dx, _, rfl, e2 _ _ hp3, rfl, ?_⟩
      walk_at "rd"
      refine ⟨p, l, n, itr l n x i, rfl, ⟨dx, e2 _ _ hp3⟩, o, y0, ys.mono (by decide), fun H5 e5 => ?_⟩
      walk_at "rd"
      refine ⟨by show 0 ≤ sizeLine; decide, fun t2 ht2 => ?_⟩
      have e6 : Ext H5 (upd H5 t2 (.tup [])) := Ext.new ht2
      have h6t : (upd H5 t2 (.tup [])) t2 = some (.tup []) := upd_same
      generalize upd H5 t2 (.tup []) = H6 at *
      walk_at "rd"
      have e36 := e2.tr (e5.tr e6)
      exact make_rn (r := ⟨gsA l n x (i + 1), "told", some (l.mended n (itr l n x i)), []⟩) (e6 _ _ (e5 _ _ h2t)) h6t fun y H7 hy e7 hr => q _ y H7 hres ((eH3.tr e36).non hy) ((eH3.tr e36).tr e7) hr
    | false =>
      walk_at "rd"
      rw [decI]
      refine e_ite (fun hz => ?_) (fun hz => ?_)
      · have hres : crs l n x i = some ⟨gsA l n x (i + 1), "nought", none, []⟩ := by unfold crs; rw [hs]; dsimp only; rw [hlk, if_neg (by decide), if_pos hz]
        walk_at "rd"
        refine e_tupL (fun t1 ht1 => ?_) (SqL.of hg3)
        have e2 : Ext H3 (upd H3 t1 (.tup ((gsA l n x (i + 1)).map V.int))) := Ext.new ht1
        have h2t : (upd H3 t1 (.tup ((gsA l n x (i + 1)).map V.int))) t1 = some (.tup ((gsA l n x (i + 1)).map V.int)) := upd_same
        generalize upd H3 t1 (.tup ((gsA l n x (i + 1)).map V.int)) = H4 at *
        walk_at "rd"
        refine ⟨by show 0 ≤ sizeLine; decide, fun t2 ht2 => ?_⟩
        have e6 : Ext H4 (upd H4 t2 (.tup [])) := Ext.new ht2
        have h6t : (upd H4 t2 (.tup [])) t2 = some (.tup []) := upd_same
        generalize upd H4 t2 (.tup []) = H6 at *
        walk_at "rd"
        have e36 := e2.tr e6
        exact make_rn (r := ⟨gsA l n x (i + 1), "nought", none, []⟩) (e6 _ _ h2t) h6t fun y H7 hy e7 hr => q _ y H7 hres ((eH3.tr e36).non hy) ((eH3.tr e36).tr e7) hr
      · have n0 : 0 ≤ n := Int.le_trans (Int.pow_nonneg R.r0) R.lo
        obtain ⟨z0, zs⟩ := itr_size (i := i + 1) o R x0 hn hx fun j hj => by
          rcases Nat.lt_or_ge j i with z | z
          · exact (crs_none (hgo j z)).2.2.1
          · have : j = i := by omega
            subst this; exact hz
        walk_at "rd"
        refine ⟨p, dx, _, rfl, hp3, rfl, ?_⟩
        walk_at "rd"
        refine ⟨p, l, n, itr l n x i, rfl, ⟨dx, hp3⟩, o, by omega, n0, n_big n0 hn, Sz.mono ys (by decide), ?_⟩
        walk_at "rd"
        refine ⟨p, dx, _, rfl, hp3, rfl, ?_⟩
        walk_at "rd"
        refine ⟨p, l, itr l n x i, l.led n (itr l n x i), prv l n x i, rfl, ⟨dx, hp3⟩, o, fun H4 e4 => ?_⟩
        walk_at "rd"
        have hg4 := e4 _ _ hg3
        have hp4 := e4 _ _ hp3
        cases hen : l.ends (itr l n x i) (l.led n (itr l n x i)) (prv l n x i) with
        | true =>
          have hres : crs l n x i = some ⟨gsA l n x (i + 1), "told", some (l.mended n (l.chosen (itr l n x i) (itr l n x (i + 1)))), []⟩ := by
            unfold crs; rw [hs]; dsimp only; rw [hlk, if_neg (by decide), if_neg hz, if_pos]
            exact hen
          walk_at "rd"
          refine e_tupL (fun t1 ht1 => ?_) (SqL.of hg4)
          have e2 : Ext H4 (upd H4 t1 (.tup ((gsA l n x (i + 1)).map V.int))) := Ext.new ht1
          have h2t : (upd H4 t1 (.tup ((gsA l n x (i + 1)).map V.int))) t1 = some (.tup ((gsA l n x (i + 1)).map V.int)) := upd_same
          generalize upd H4 t1 (.tup ((gsA l n x (i + 1)).map V.int)) = H5 at *
          walk_at "rd"
          refine ⟨p, dx, _, rfl, e2 _ _ hp4, rfl, ?_⟩
          walk_at "rd"
          refine ⟨p, dx, _, rfl, e2 _ _ hp4, rfl, ?_⟩
          walk_at "rd"
          refine ⟨p, l, itr l n x i, l.led n (itr l n x i), rfl, ⟨dx, e2 _ _ hp4⟩, o, fun H6 e6 => ?_⟩
          walk_at "rd"
          have hch : 0 ≤ l.chosen (itr l n x i) (itr l n x (i + 1)) ∧ Sz 2000 (l.chosen (itr l n x i) (itr l n x (i + 1))) := by
            rcases chosen_or l (itr l n x i) (itr l n x (i + 1)) with z | z <;> rw [z]
            · exact ⟨y0, ys.mono (by decide)⟩
            · exact ⟨z0, zs.mono (by decide)⟩
          refine ⟨p, l, n, l.chosen (itr l n x i) (itr l n x (i + 1)), rfl, ⟨dx, e6 _ _ (e2 _ _ hp4)⟩, o, hch.1, hch.2, fun H7 e7 => ?_⟩
          walk_at "rd"
          refine ⟨by show 0 ≤ sizeLine; decide, fun t2 ht2 => ?_⟩
          have e8 : Ext H7 (upd H7 t2 (.tup [])) := Ext.new ht2
          have h8t : (upd H7 t2 (.tup [])) t2 = some (.tup []) := upd_same
          generalize upd H7 t2 (.tup []) = H8 at *
          walk_at "rd"
          have e38 := e4.tr (e2.tr (e6.tr (e7.tr e8)))
          exact make_rn (r := ⟨gsA l n x (i + 1), "told", some (l.mended n (l.chosen (itr l n x i) (itr l n x (i + 1)))), []⟩) (e8 _ _ (e7 _ _ (e6 _ _ h2t))) h8t fun y H9 hy e9 hr => q _ y H9 hres ((eH3.tr e38).non hy) ((eH3.tr e38).tr e9) hr
        | false =>
          have hres : crs l n x i = none := by
            unfold crs; rw [hs]; dsimp only; rw [hlk, if_neg (by decide), if_neg hz, if_neg]
            show ¬ l.ends (itr l n x i) (l.led n (itr l n x i)) (prv l n x i) = true
            rw [hen]; decide
          walk_at "rd"
          exact k H4 _ _ _ hres (eH3.tr e4) hg4 (hd3.ext e4) hpl.snoc
theorem pure_course_of (K : PySem.W.Frag) (A : AvK K) (B : RnK K) (vs : List V) (H : Hp) (Q : VK) (E : XK) (h : sp_course_of K vs H Q E) : rd_course_of K { nx := fun _ H' => Q .non H', rt := Q } (start ["loop", "n", "start", "guesses", "places", "before", "x", "place", "y"] vs) H := by
  obtain ⟨p, l, n, x, r, rfl, hL, o, R, x0, hn, hx, q⟩ := h
  unfold rd_course_of
  walk_at "rd"
  refine ⟨by show 0 ≤ sizeLine; decide, fun g hg => ?_⟩
  have e1 : Ext H (upd H g (.lst [])) := Ext.new hg
  have h1 : (upd H g (.lst [])) g = some (.lst []) := upd_same
  generalize upd H g (.lst []) = H1 at *
  walk_at "rd"
  intro d hd
  have e2 : Ext H1 (upd H1 d (dN d [])) := Ext.new hd
  have h2 : (upd H1 d (dN d [])) d = some (dN d []) := upd_same
  generalize upd H1 d (dN d []) = H2 at *
  walk_at "rd"
  refine s_while (fun m σ H' => ∃ i kvs w7 w8, m = 40000 - i ∧ (∀ j, j < i → crs l n x j = none) ∧ Ext H H' ∧ H' g = some (.lst ((gsA l n x i).map V.int)) ∧ IsDN H' d kvs ∧ Plc l n x i kvs ∧ σ = [some (.ref p), some (.int n), some (.int x), some (.ref g), some (.ref d), some (nkV (prv l n x i)), some (.int (itr l n x i)), w7, w8]) _
    ⟨0, [], _, _, rfl, fun j hj => absurd hj (by omega), e1.tr e2, e2 _ _ h1, ⟨h2, (fun _ hx => nomatch hx), by show 0 ≤ sizeLine; decide⟩, rfl, rfl⟩ ?_
  rintro m σ H' ⟨i, kvs, w7, w8, rfl, hgo, e, hg', hd', hpl, rfl⟩
  have hi := crs_bound o R x0 hn hx hgo
  walk_at "rd"
  refine ⟨fun σ' H'' => ∃ kvs w7 w8, crs l n x i = none ∧ Ext H H'' ∧ H'' g = some (.lst ((gsA l n x (i + 1)).map V.int)) ∧ IsDN H'' d kvs ∧ Plc l n x (i + 1) kvs ∧ σ' = [some (.ref p), some (.int n), some (.int x), some (.ref g), some (.ref d), some (nkV (prv l n x (i + 1))), some (.int (itr l n x (i + 1))), w7, w8], fun σ' H'' h => ?_, ?_⟩
  · obtain ⟨kvs', u7, u8, a1, a2, a3, a4, a5, a6⟩ := h
    refine ⟨40000 - (i + 1), by omega, i + 1, kvs', u7, u8, rfl, fun j hj => ?_, a2, a3, a4, a5, a6⟩
    rcases Nat.lt_or_ge j i with z | z
    · exact hgo j z
    · have : j = i := by omega
      subst this; exact a1
  · refine course_L1 A hL o R x0 hn hx hgo hg (e1.non hd) e hg' hd' hpl (fun res y H2 a1 a2 a3 a4 => ?_) (fun H2 kvs' u7 u8 a1 a2 a3 a4 a5 => ⟨kvs', u7, u8, a1, a2, a3, a4, a5, rfl⟩)
    exact q res y H2 ⟨i, hgo, a1⟩ a2 a3 a4
end FWL
namespace FWL
open PySem PySem.Spec PyProof.Rows L2 FW
/-! ### what runs come to, from any state -/
def oc (r : Res) : L2.Key := if r.fin = "told" then .inl (r.told.getD 0) else .inr r.fin
def endA (l : Lp) (n : Int) (b : Option Int) (x : Int) : Option L2.Key :=
  if l.looks n x = true then some (.inl (l.mended n x)) else if x = 0 then some (.inr "nought")
  else if l.ends x (l.led n x) b = true then some (.inl (l.mended n (l.chosen x (l.led n x)))) else none
def prvS (l : Lp) (n : Int) (b : Option Int) (x : Int) : Nat → Option Int
  | 0 => b
  | j + 1 => some (itr l n x j)
def endS (l : Lp) (n : Int) (b : Option Int) (x : Int) (j : Nat) : Option L2.Key := endA l n (prvS l n b x j) (itr l n x j)
def OcS (l : Lp) (n : Int) (b : Option Int) (x : Int) (o : L2.Key) : Prop :=
  (∃ i, (∀ j, j < i → endS l n b x j = none) ∧ endS l n b x i = some o) ∨ (o = .inr "swings" ∧ ∀ i, endS l n b x i = none)
theorem OcS.uniq {l : Lp} {n x : Int} {b : Option Int} {o o' : L2.Key} (h : OcS l n b x o) (h' : OcS l n b x o') : o = o' := by
  rcases h with ⟨i, hi, e⟩ | ⟨e, hi⟩ <;> rcases h' with ⟨j, hj, e'⟩ | ⟨e', hj⟩
  · rcases Nat.lt_trichotomy i j with z | z | z
    · rw [hj i z] at e; cases e
    · subst z; rw [e] at e'; cases e'; rfl
    · rw [hi j z] at e'; cases e'
  · rw [hj i] at e; cases e
  · rw [hi j] at e'; cases e'
  · rw [e, e']
theorem endS_succ (l : Lp) (n : Int) (b : Option Int) (x : Int) (j : Nat) : endS l n b x (j + 1) = endS l n (some x) (l.led n x) j := by
  have e : ∀ i, itr l n x (i + 1) = itr l n (l.led n x) i := fun i => by rw [Nat.add_comm, itr_add]; rfl
  unfold endS
  rw [e j]
  congr 1
  cases j with
  | zero => rfl
  | succ j => show some (itr l n x (j + 1)) = some (itr l n (l.led n x) j); rw [e j]
theorem ocS_next {l : Lp} {n x : Int} {b : Option Int} {o : L2.Key} (h : endA l n b x = none) : OcS l n b x o ↔ OcS l n (some x) (l.led n x) o := by
  have h0 : endS l n b x 0 = none := h
  constructor
  · rintro (⟨i, hi, e⟩ | ⟨e, hi⟩)
    · cases i with
      | zero => rw [h0] at e; cases e
      | succ i => exact .inl ⟨i, fun j hj => by rw [← endS_succ l n b]; exact hi (j + 1) (by omega), by rw [← endS_succ l n b]; exact e⟩
    · exact .inr ⟨e, fun i => by rw [← endS_succ l n b]; exact hi (i + 1)⟩
  · rintro (⟨i, hi, e⟩ | ⟨e, hi⟩)
    · refine .inl ⟨i + 1, fun j hj => ?_, by rw [endS_succ]; exact e⟩
      cases j with
      | zero => exact h0
      | succ j => rw [endS_succ]; exact hi j (by omega)
    · refine .inr ⟨e, fun i => ?_⟩
      cases i with
      | zero => exact h0
      | succ i => rw [endS_succ]; exact hi i
theorem ocS_eq {l : Lp} {n x : Int} {b b' : Option Int} {o : L2.Key} (h : endA l n b x = endA l n b' x) (z : OcS l n b x o) : OcS l n b' x o := by
  have e : ∀ i, endS l n b x i = endS l n b' x i := fun i => by
    cases i with
    | zero => exact h
    | succ i => rw [endS_succ, endS_succ]
  rcases z with ⟨i, hi, z⟩ | ⟨z, hi⟩
  · exact .inl ⟨i, fun j hj => by rw [← e j]; exact hi j hj, by rw [← e i]; exact z⟩
  · exact .inr ⟨z, fun i => by rw [← e i]; exact hi i⟩
theorem endA_nb {l : Lp} (h : l.stop ≠ "back") (n : Int) (b b' : Option Int) (x : Int) : endA l n b x = endA l n b' x := by
  unfold endA Lp.ends
  rw [decide_eq_false h, Bool.false_and, Bool.false_and]
theorem prv_S (l : Lp) (n x : Int) (j : Nat) : prv l n x j = prvS l n none x j := by cases j <;> rfl
/-- the same round -/
theorem endS_key {l : Lp} {n x : Int} {i j : Nat} (h : keyA l n x i = keyA l n x j) : endS l n none x i = endS l n none x j ∧ itr l n x i = itr l n x j := by
  unfold keyA at h
  injection h with h1 h2
  injection h2 with h2
  have h2 : itr l n x i = itr l n x j := Option.some.inj h2
  refine ⟨?_, h2⟩
  unfold endS
  rw [h2, ← prv_S, ← prv_S]
  by_cases hb : l.stop = "back"
  · rw [if_pos hb, if_pos hb] at h1; rw [h1]
  · exact endA_nb hb ..
theorem endS_per {l : Lp} {n x : Int} {i j : Nat} (h : keyA l n x j = keyA l n x i) : ∀ t, endS l n none x (j + t) = endS l n none x (i + t)
  | 0 => (endS_key h).1
  | t + 1 => by
    have e : ∀ t, itr l n x (j + t) = itr l n x (i + t) := fun t => by rw [itr_add, itr_add, (endS_key h).2]
    show endA l n (some (itr l n x (j + t))) (itr l n x (j + (t + 1))) = endA l n (some (itr l n x (i + t))) (itr l n x (i + (t + 1)))
    rw [e t, e (t + 1)]
theorem crs_end {l : Lp} {n x : Int} {i : Nat} (h : crs l n x i = none) : endS l n none x i = none := by
  obtain ⟨_, h1, h2, h3⟩ := crs_none h
  unfold endS endA
  rw [h1, if_neg (by decide), if_neg h2, ← prv_S]
  have h3' : l.ends (itr l n x i) (l.led n (itr l n x i)) (prv l n x i) = false := h3
  rw [h3', if_neg (by decide)]
theorem ocS_of_crs {l : Lp} {n x : Int} {res : Res} (h : Crs l n x res) : OcS l n none x (oc res) := by
  obtain ⟨i, hi, e⟩ := h
  unfold crs at e
  cases hs : seenA l n x i with
  | some j =>
    rw [hs] at e
    cases e
    refine .inr ⟨rfl, fun m => ?_⟩
    obtain ⟨hj, hk⟩ := seen_some hs
    have go : ∀ m, endS l n none x m = none := by
      intro m
      induction m using Nat.strongRecOn with
      | ind m ih =>
        rcases Nat.lt_or_ge m i with z | z
        · exact crs_end (hi m z)
        · have := endS_per hk (m - i)
          rw [show i + (m - i) = m by omega] at this
          rw [← this]
          exact ih _ (by omega)
    exact go m
  | none =>
    rw [hs] at e
    dsimp only at e
    refine .inl ⟨i, fun j hj => crs_end (hi j hj), ?_⟩
    unfold endS endA
    by_cases h1 : l.looks n (itr l n x i) = true
    · rw [if_pos h1] at e ⊢; cases e; rfl
    · rw [if_neg h1] at e ⊢
      by_cases h2 : itr l n x i = 0
      · rw [if_pos h2] at e ⊢; cases e; rfl
      · rw [if_neg h2] at e ⊢
        by_cases h3 : l.ends (itr l n x i) (itr l n x (i + 1)) (prv l n x i) = true
        · rw [if_pos h3] at e
          cases e
          rw [← prv_S]
          have h3' : l.ends (itr l n x i) (l.led n (itr l n x i)) (prv l n x i) = true := h3
          rw [if_pos h3']
          rfl
        · rw [if_neg h3] at e; cases e
theorem crs_ex {l : Lp} (o : l.Ok) {n r x : Int} (R : RootOf l.k n r) (hx : 0 ≤ x) (hn : n < 2 ^ 1000) (hxs : x < 2 ^ 1000) : ∃ res, Crs l n x res := by
  have : ∃ i, crs l n x i ≠ none := by
    refine Classical.byContradiction fun z => ?_
    have z' : ∀ i, crs l n x i = none := fun i => Classical.byContradiction fun y => z ⟨i, y⟩
    have := crs_bound o R hx hn hxs (i := 30001) fun j _ => z' j
    omega
  obtain ⟨i, hi⟩ := this
  induction i using Nat.strongRecOn with
  | ind i ih =>
    by_cases h : ∃ j, j < i ∧ crs l n x j ≠ none
    · obtain ⟨j, hj, h⟩ := h
      exact ih j hj h
    · cases e : crs l n x i with
      | none => exact absurd e hi
      | some res => exact ⟨res, i, fun j hj => Classical.byContradiction fun y => h ⟨j, hj, y⟩, e⟩
/-! ### far starts -/
theorem quot_anti {n x z : Int} (hn : 0 ≤ n) (hx : 1 ≤ x) (h : x ≤ z) (j : Nat) : n / z ^ j ≤ n / x ^ j := by
  have p1 := pow_pos' hx j
  have p2 := pow_pos' (show 1 ≤ z by omega) j
  rw [Int.le_ediv_iff_mul_le (by omega)]
  have h1 : n / z ^ j * x ^ j ≤ n / z ^ j * z ^ j := Int.mul_le_mul_of_nonneg_left (pow_mono (by omega) h j) (Int.ediv_nonneg hn (by omega))
  exact Int.le_trans h1 (Int.ediv_mul_le _ (by omega))
theorem led_fall {l : Lp} (o : l.Ok) {n x z : Int} (hn : 0 ≤ n) (hx : 1 ≤ x) (h : x ≤ z) : l.led n z - l.led n x ≤ z - x := by
  have a1 := o.a1; have c1 := o.c1
  have q := quot_anti hn hx h (l.k - 1).toNat
  unfold Lp.led
  generalize n / z ^ (l.k - 1).toNat = q2 at *
  generalize n / x ^ (l.k - 1).toNat = q1 at *
  have e : (l.a * x + l.c * q1 + l.d + (l.a + l.c) * (z - x)) / (l.a + l.c) = (l.a * x + l.c * q1 + l.d) / (l.a + l.c) + (z - x) := Int.add_mul_ediv_left _ _ (by omega)
  have h1 : l.c * q2 ≤ l.c * q1 := Int.mul_le_mul_of_nonneg_left q (by omega)
  have h2 : 0 ≤ l.c * (z - x) := Int.mul_nonneg (by omega) (by omega)
  have h3 : l.a * z + l.c * q2 + l.d ≤ l.a * x + l.c * q1 + l.d + (l.a + l.c) * (z - x) := by
    have e1 : (l.a + l.c) * (z - x) = l.a * z - l.a * x + l.c * (z - x) := by grind
    omega
  have h4 := Int.ediv_le_ediv (show 0 < l.a + l.c by omega) h3
  omega
theorem above_pow {l : Lp} (o : l.Ok) {n r x : Int} (R : RootOf l.k n r) (hx : r + 1 ≤ x) : n < x ^ l.k.toNat := Int.lt_of_lt_of_le R.hi (pow_mono (by have := R.r0; omega) hx _)
theorem led_monoZ {l : Lp} (o : l.Ok) {n r x z : Int} (R : RootOf l.k n r) (hx : r + 1 ≤ x) (h : x ≤ z) : l.led n x ≤ l.led n z := by
  have n0 : 0 ≤ n := Int.le_trans (Int.pow_nonneg R.r0) R.lo
  have := led_mono o n0 (x := x) (by have := R.r0; omega) (above_pow o R hx) (z - x).toNat
  rw [show x + ((z - x).toNat : Int) = z by omega] at this
  exact this
theorem near_cases (l : Lp) : l.near = 0 ∨ l.near = 1 ∨ l.near = 2 := by unfold Lp.near; split <;> (try split) <;> omega
theorem endA_far {l : Lp} (o : l.Ok) {n r x : Int} (R : RootOf l.k n r) (hx : r + 1 ≤ x) (hf : l.led n x < x - l.near) {b : Option Int} (hb : ∀ b', b = some b' → x < b') : endA l n b x = none := by
  have hp := above_pow o R hx
  have hn := near_cases l
  have r0 := R.r0
  have hl : l.looks n x = false := by
    unfold Lp.looks
    rw [decide_eq_false (show ¬ x ^ l.k.toNat ≤ n by omega), Bool.false_and, Bool.and_false]
    split <;> rfl
  have he : l.ends x (l.led n x) b = false := by
    unfold Lp.ends
    rw [decide_eq_false (show ¬ x ≤ l.led n x by omega), decide_eq_false (show ¬ l.led n x = x by omega)]
    split
    · rfl
    · split
      · refine decide_eq_false ?_
        unfold absI
        split <;> omega
      · rw [decide_eq_false (show ¬ some (l.led n x) = b from fun z => by have := hb _ z.symm; omega), Bool.and_false, Bool.or_false, Bool.and_false]
  unfold endA
  rw [hl, he, if_neg (by decide), if_neg (by omega), if_neg (by decide)]
/-- a step from above to one below the root: the step from there leads no further up than the root -/
theorem back_low {l : Lp} (o : l.Ok) {n r x : Int} (R : RootOf l.k n r) (hr : 2 ≤ r) (hx : r + 2 ≤ x) (h : l.led n x ≤ r - 1) : l.led n (r - 1) ≤ r := by
  have h2 : l.led n (r + 2) ≤ r - 1 := Int.le_trans (led_monoZ o R (by omega) hx) h
  obtain ⟨n0, lo, hi⟩ := R
  have a1 := o.a1; have c1 := o.c1; have ca := o.ca; have d0 := o.d0
  unfold Lp.led at h2 ⊢
  have main : ∀ (j : Nat) (t : Int), l.k = j + 1 → (t = 2 ∧ j = 1 ∨ t = 5 ∧ j = 2 ∨ t = 7 ∧ j = 3) → (r - j) * (r + 2) ^ j ≤ (r + t) * (r - 1) ^ j → (l.a * (r - 1) + l.c * (n / (r - 1) ^ (l.k - 1).toNat) + l.d) / (l.a + l.c) ≤ r := by
    intro j t hj ht hle
    have ej : (l.k - 1).toNat = j := by omega
    have ek : l.k.toNat = j + 1 := by omega
    rw [ej] at h2 ⊢
    rw [ek] at lo
    have p1 := pow_pos' (show 1 ≤ r + 2 by omega) j
    have p2 := pow_pos' (show 1 ≤ r - 1 by omega) j
    have ql := q_lo (j := j) (show 0 ≤ r by omega) lo (show 1 ≤ r + 2 by omega)
    have key : n / (r + 2) ^ j < r - j → n / (r - 1) ^ j < r + t := fun hs => by
      rw [Int.ediv_lt_iff_lt_mul (by omega)] at hs ⊢
      exact Int.lt_of_lt_of_le hs hle
    generalize n / (r + 2) ^ j = qa at *
    generalize n / (r - 1) ^ j = qb at *
    have s1 : l.a * (r + 2) + l.c * qa + l.d < r * (l.a + l.c) := (Int.ediv_lt_iff_lt_mul (by omega)).mp (by omega)
    have e1 : l.a * (r + 2) = l.a * r + 2 * l.a := by grind
    have e2 : r * (l.a + l.c) = l.a * r + l.c * r := by grind
    have e3 : l.c * (l.k - 1) = l.c * j := by rw [hj]; congr 1; omega
    have s2 : l.c * (qa + j) < l.c * r := by
      have : l.c * (qa + j) = l.c * qa + l.c * j := by grind
      omega
    have s3 : qa + j < r := Int.lt_of_mul_lt_mul_left s2 (by omega)
    have kk := key (by omega)
    have e4 : ((j : Int) + 1) * r - j * (r + 2) = r - 2 * j := by grind
    rw [e4] at ql
    have s4 : l.c * (r - 2 * j) ≤ l.c * qa := Int.mul_le_mul_of_nonneg_left ql (by omega)
    have e5 : l.c * (r - 2 * j) = l.c * r - 2 * (l.c * j) := by grind
    have s5 : l.c * qb ≤ l.c * (r + t - 1) := Int.mul_le_mul_of_nonneg_left (by omega) (by omega)
    have e6 : l.c * (r + t - 1) = l.c * r + l.c * (t - 1) := by grind
    have e7 : l.a * (r - 1) = l.a * r - l.a := by grind
    have s6 : (l.a * (r - 1) + l.c * qb + l.d) / (l.a + l.c) < r + 1 := by
      rw [Int.ediv_lt_iff_lt_mul (by omega)]
      have e8 : (r + 1) * (l.a + l.c) = l.a * r + l.c * r + l.a + l.c := by grind
      rcases ht with ⟨rfl, rfl⟩ | ⟨rfl, rfl⟩ | ⟨rfl, rfl⟩
      · have z1 : l.c * ((1 : Nat) : Int) = l.c * 1 := rfl
        have z2 : l.c * ((2 : Int) - 1) = l.c * 1 := rfl
        omega
      · have z1 : l.c * ((2 : Nat) : Int) = l.c * 2 := rfl
        have z2 : l.c * ((5 : Int) - 1) = l.c * 4 := rfl
        omega
      · have z1 : l.c * ((3 : Nat) : Int) = l.c * 3 := rfl
        have z2 : l.c * ((7 : Int) - 1) = l.c * 6 := rfl
        omega
    omega
  obtain ⟨u, rfl⟩ : ∃ u : Nat, r = (u : Int) + 2 := ⟨(r - 2).toNat, by omega⟩
  have u0 : (0 : Int) ≤ u := by omega
  have u2 : (0 : Int) ≤ (u : Int) * u := Int.mul_nonneg u0 u0
  have f1 : ((u : Int) + 2 - 1) * (u + 2 + 2) ^ 1 ≤ (u + 2 + 2) * (u + 2 - 1) ^ 1 := by
    have e : ((u : Int) + 2 + 2) * (u + 2 - 1) ^ 1 = ((u : Int) + 2 - 1) * (u + 2 + 2) ^ 1 := by grind
    omega
  have f2 : ((u : Int) + 2 - 2) * (u + 2 + 2) ^ 2 ≤ (u + 2 + 5) * (u + 2 - 1) ^ 2 := by
    have e : ((u : Int) + 2 + 5) * (u + 2 - 1) ^ 2 = ((u : Int) + 2 - 2) * (u + 2 + 2) ^ 2 + (u * u - u + 7) := by grind
    have : (u : Int) ≤ u * u + 1 := by
      rcases Int.lt_or_le (u : Int) 1 with z | z
      · omega
      · have := Int.mul_le_mul_of_nonneg_left z u0; omega
    omega
  have f3 : ((u : Int) + 2 - 3) * (u + 2 + 2) ^ 3 ≤ (u + 2 + 7) * (u + 2 - 1) ^ 3 := by
    have e : ((u : Int) + 2 + 7) * (u + 2 - 1) ^ 3 = ((u : Int) + 2 - 3) * (u + 2 + 2) ^ 3 + (u * u * u - 6 * (u * u) + 12 * u + 73) := by grind
    have h3 : 0 ≤ (u : Int) * ((u - 3) * (u - 3)) := Int.mul_nonneg u0 (by
      rcases Int.lt_or_le (u : Int) 3 with z | z
      · exact Int.mul_nonneg_of_nonpos_of_nonpos (by omega) (by omega)
      · exact Int.mul_nonneg (by omega) (by omega))
    have e2 : (u : Int) * ((u - 3) * (u - 3)) = u * u * u - 6 * (u * u) + 9 * u := by grind
    omega
  rcases o.hk with hk | hk | hk
  · exact main 1 2 (by omega) (.inl ⟨rfl, rfl⟩) f1
  · exact main 2 5 (by omega) (.inr (.inl ⟨rfl, rfl⟩)) f2
  · exact main 3 7 (by omega) (.inr (.inr ⟨rfl, rfl⟩)) f3
/-- starts up to one that falls, and what comes of them in one step: all others come to the same -/
structure Near (l : Lp) (n r last h : Int) : Prop where
  r1 : r + 1 ≤ last
  fall : l.led n (last + 1) < last + 1 - l.near
  lh : last ≤ h
  cl : l.stop = "back" → ∀ z, max 1 r ≤ z → z ≤ last → l.led n z ≤ h ∨ l.led n z = z
theorem Near.falls {l : Lp} (o : l.Ok) {n r last h x : Int} (R : RootOf l.k n r) (N : Near l n r last h) (hx : last + 1 ≤ x) : l.led n x < x - l.near := by
  have n0 : 0 ≤ n := Int.le_trans (Int.pow_nonneg R.r0) R.lo
  have h1 := N.r1; have h2 := N.fall; have r0 := R.r0
  have := led_fall o n0 (x := last + 1) (z := x) (by omega) hx
  omega
theorem Near.far {l : Lp} (o : l.Ok) {n r last h : Int} (R : RootOf l.k n r) (N : Near l n r last h) : ∀ (m : Nat) (x : Int) (b : Option Int), x.toNat = m → last + 1 ≤ x → (∀ b', b = some b' → x < b') → ∃ w, max 1 r ≤ w ∧ w ≤ h + 1 ∧ ∀ k, OcS l n b x k → OcS l n none w k := by
  intro m
  induction m using Nat.strongRecOn with
  | ind m ih =>
    intro x b hm hx hb
    have n0 : 0 ≤ n := Int.le_trans (Int.pow_nonneg R.r0) R.lo
    have r0 := R.r0; have r1 := N.r1; have lh := N.lh
    have nn := near_cases l
    have f := N.falls o R hx
    have ex := endA_far o R (x := x) (by omega) f hb
    rcases Int.lt_or_le (h + 1) x with z | z
    · have hy0 : 0 ≤ l.led n x := led_nonneg o n0 (by omega)
      have hlo : r - 1 ≤ l.led n x := led_lo1 o R (by omega) (by omega)
      rcases Int.lt_or_le last (l.led n x) with y | y
      · obtain ⟨w, w1, w2, w3⟩ := ih _ (by omega) (l.led n x) (some x) rfl (by omega) (fun b' e => by cases e; omega)
        exact ⟨w, w1, w2, fun k hk => w3 k ((ocS_next ex).mp hk)⟩
      · rcases Int.lt_or_le (l.led n x) (max 1 r) with u | u
        · refine ⟨h + 1, by omega, Int.le_refl _, fun k hk => ?_⟩
          have f2 := N.falls o R (x := h + 1) (by omega)
          have ex2 := endA_far o R (x := h + 1) (b := none) (by omega) f2 (fun b' e => nomatch e)
          have m1 : l.led n (h + 1) ≤ l.led n x := led_monoZ o R (by omega) (by omega)
          have m2 : r - 1 ≤ l.led n (h + 1) := led_lo1 o R (by omega) (by omega)
          have m3 : 0 ≤ l.led n (h + 1) := led_nonneg o n0 (by omega)
          have e : l.led n (h + 1) = l.led n x := by omega
          refine (ocS_next ex2).mpr ?_
          rw [e]
          refine ocS_eq ?_ ((ocS_next ex).mp hk)
          by_cases hbk : l.stop = "back"
          · have e0 : ∀ b, l.looks n b = false := fun b => by unfold Lp.looks; rw [hbk]; rfl
            unfold endA
            simp only [e0, Bool.false_eq_true, if_false]
            by_cases hz : l.led n x = 0
            · rw [if_pos hz, if_pos hz]
            · rw [if_neg hz, if_neg hz]
              have ey : l.led n x = r - 1 := by omega
              have bl := back_low o R (x := x) (by omega) (by omega) (by omega)
              have ee : l.ends (l.led n x) (l.led n (l.led n x)) (some x) = l.ends (l.led n x) (l.led n (l.led n x)) (some (h + 1)) := by
                unfold Lp.ends
                rw [ey, decide_eq_false (show ¬ some (l.led n (r - 1)) = some x from fun z => by have := Option.some.inj z; omega), decide_eq_false (show ¬ some (l.led n (r - 1)) = some (h + 1) from fun z => by have := Option.some.inj z; omega)]
              rw [ee]
          · exact endA_nb hbk ..
        · refine ⟨l.led n x, u, by omega, fun k hk => ocS_eq ?_ ((ocS_next ex).mp hk)⟩
          by_cases hbk : l.stop = "back"
          · have hc := N.cl hbk (l.led n x) u y
            have ee : l.ends (l.led n x) (l.led n (l.led n x)) (some x) = l.ends (l.led n x) (l.led n (l.led n x)) none := by
              unfold Lp.ends
              rcases hc with hc | hc
              · rw [decide_eq_false (show ¬ some (l.led n (l.led n x)) = some x from fun z => by have := Option.some.inj z; omega), decide_eq_false (show ¬ some (l.led n (l.led n x)) = none from fun z => nomatch z)]
              · rw [decide_eq_true hc, Bool.true_or, Bool.true_or]
            unfold endA
            rw [ee]
          · exact endA_nb hbk ..
    · exact ⟨x, by omega, z, fun k hk => ocS_eq (by rw [ex, endA_far o R (x := x) (b := none) (by omega) f (fun b' e => nomatch e)]) hk⟩
theorem Near.all {l : Lp} (o : l.Ok) {n r last h : Int} (R : RootOf l.k n r) (N : Near l n r last h) {x : Int} (hx : max 1 r ≤ x) : ∃ w, max 1 r ≤ w ∧ w ≤ h + 1 ∧ ∀ k, OcS l n none x k → OcS l n none w k := by
  rcases Int.lt_or_le last x with z | z
  · exact N.far o R _ x none rfl (by omega) (fun b' e => nomatch e)
  · exact ⟨x, hx, by have := N.lh; omega, fun k hk => hk⟩
end FWL
/-! sorted(set(list of ints)), max(dict with int keys) -/
namespace FW
open PySem PySem.Spec PyProof.Rows L2
section
variable {P : Program} {w : World} {A : Around} {E : Value → Shared → Prop} {s : Shared}
theorem nz1 {a b : Nat} (h : a < b) : a ≠ b + 1 := by omega
theorem nz2 {a : Nat} : a ≠ a + 1 := by omega
theorem nz3 {a b : Nat} (h : a < b) : b ≠ a := by omega
theorem nodup_le : ∀ {l L : List Int}, l.Nodup → (∀ k, k ∈ l → k ∈ L) → l.length ≤ L.length
  | [], _, _, _ => Nat.zero_le _
  | a :: t, L, nd, h => by
    have ha := h a List.mem_cons_self
    have hn := List.nodup_cons.mp nd
    have ih := nodup_le (l := t) (L := L.erase a) hn.2 (fun k hk => (List.mem_erase_of_ne (show k ≠ a from fun z => hn.1 (by rw [← z]; exact hk))).mpr (h k (List.mem_cons_of_mem _ hk)))
    rw [List.length_erase_of_mem ha] at ih
    have := List.length_pos_of_mem ha
    rw [List.length_cons]; omega
abbrev nso (w : World) : Obj := { cls := .type "set", dict := none, data := .set #[] 0 (.fresh 0 0 (!w.params.followText "set-order")) }
theorem set_of_list {l : Addr} {items : Array Value} (ns : List Int) {Q : Value → Shared → Prop} (hh : A.handled = none) (hl : s.heap.IsList l items) (hit : IntsAre items.toList ns) (hb : ns.length + 1 < scanBound)
    (fin : ∀ (h' : Heap) (tk c : Nat), SetR w h' s.heap.objs.size (fun j => decide (j ∈ ns)) c → (∀ b o, s.heap.get? b = some o → h'.get? b = some o) → Q (.ref s.heap.objs.size) { s with heap := h', toks := tk }) :
    wpAny (model P w) A (call (.type "set") [.ref l]) Q E s := by
  have hsz : items.size = ns.length := (Array.length_toList (xs := items)).symm.trans (IntsAre.length hit)
  obtain ⟨c0, tl, hmro⟩ := F.called_set.mro
  have hmade := F.called_set.made; have hsub := F.called_set.sub
  refine wpAny_call (codeAny_of_tree ?_); show wpAny _ _ (callAny (.type "set") _) _ _ _
  refine wpAny_pure ⟨Code.quiet_builtin _ (by decide +kernel), codeAny_builtin F.entry_type_call ?_⟩; rw [Around.under_plain (weight_type_call_type "set" [.ref l] []) rfl]
  have h1 := F.called_set.notType; have h2 := F.called_set.canCreate; have hct := F.typeCall_set_1 (.ref l)
  repeat (any_goals (first | wp_step | assumption))
  refine codeAny_mono (code_set_led1 (.ref l) (E := E) (Q₁ := fun obj s₁ => obj = .ref s.heap.objs.size ∧ s₁ = { s with heap := s.heap.push (nso w) }) ⟨rfl, rfl⟩) fun r s₁ hr => ?_
  rcases r with e | fl
  · exact hr
  cases fl with
  | ret obj =>
    obtain ⟨rfl, rfl⟩ := hr
    have hS : (s.heap.push (nso w)).get? s.heap.objs.size = some (nso w) := Heap.get?_push_size _ rfl
    have hT : Shared.TypeIs { s with heap := s.heap.push (nso w) } (.ref s.heap.objs.size) "set" := ⟨_, hS, rfl⟩
    have hli := F.called_set.init.lookup; have hbi := F.called_set.init.bind (.ref s.heap.objs.size)
    repeat (any_goals (first | wp_step | assumption))
    refine codeAny_mono (codeAny_call_builtin (R := wants (fun r s₂ => r = .none ∧ ∃ h' tk c, s₂ = { s with heap := h', toks := tk } ∧ SetR w h' s.heap.objs.size (fun j => decide (j ∈ ns)) c ∧ (∀ b o, s.heap.get? b = some o → h'.get? b = some o)) E) F.called_set.init.plain F.entry_set_init (check_set_init_1 hT ?_)) fun r₂ s₂ hr₂ => ?_
    · obtain ⟨⟨ocls, odict, odata, oslots⟩, hol, hcl, nl, hdl⟩ := hl
      simp only at hcl hdl; subst hcl; subst hdl
      have hol' : (s.heap.push (nso w)).get? l = some { cls := .type "list", dict := odict, data := .seq items nl, slots := oslots } := Heap.get?_push_of_some _ hol
      have hsls := F.sub_list_set; have hslf := F.sub_list_frozenset
      have hne : (Value.type "list" == Value.type "dict") = false := rfl
      have hl1 : (s.heap.push (nso w)).IsList l items := ⟨_, hol', rfl, nl, rfl⟩
      unfold Builtin.«set.__init__» noKeywords Builtin.Frozenset.updateFrom; generalize hPI : pyIter = PI
      wp_walk
      subst hPI
      refine wpAny_pyIter_list hl1 (wpAny_bind (wpAny_runValue ?_))
      have hlS : l < s.heap.objs.size := Heap.lt_size hol
      have hz1 : (s.heap.push (nso w)).objs.size = s.heap.objs.size + 1 := Heap.size_push ..
      have hneI : l ≠ (s.heap.push (nso w)).objs.size := by rw [hz1]; exact nz1 hlS
      have hSf : s.heap.objs.size ∉ [(s.heap.push (nso w)).objs.size, l] := by
        rw [hz1]; intro z
        rcases List.mem_cons.mp z with z | z
        · exact nz2 z
        · exact nz3 hlS (List.mem_singleton.mp z)
      have hval : ∀ (i : Nat) (v : Value), items[i]? = some v → ∃ k t, ns[i]? = some k ∧ v = .int k t := fun i v hv => by
        have hi : i < ns.length := hsz ▸ (Array.getElem?_eq_some_iff.mp hv).1
        obtain ⟨t, e⟩ := IntsAre.int_at hit i v (by rw [Array.getElem?_toList]; exact hv)
        refine ⟨ns[i], t, List.getElem?_eq_getElem hi, e.trans ?_⟩
        rw [List.getD_eq_getElem?_getD, List.getElem?_eq_getElem hi]; rfl
      refine set_update_ints ((Walks.list (show A.in1.in1.in1.handled = none by simp [hh]) _ l hneI items).toS) s.heap.objs.size hSf ns hsz hb hval (items.size - 0) 0 _ (by omega) (Nat.zero_le _) ⟨⟨_, Heap.get?_push_size _ rfl, rfl, rfl⟩, (hl1.push _)⟩ ⟨0, Nat.le_refl 0, setR_new_at (Heap.get?_push_of_some _ hS)⟩ ?_
      intro s' c' hm hc' hS'
      obtain ⟨h', g2, d', tk', os'⟩ := s'
      obtain rfl : g2 = s.gens := hm.gens
      obtain rfl : d' = s.drawn := hm.drawn
      obtain rfl : os' = s.os := hm.os
      show wpAny _ _ _ _ _ _
      refine wpAny_pure ?_; show wpAny _ _ (ret Value.none) _ _ _
      refine wpAny_pure ⟨rfl, h', tk', c', rfl, hS', fun b o e => ?_⟩
      have hb0 : b < s.heap.objs.size := Heap.lt_size e
      refine hm.heap b o (fun z => ?_) (Heap.get?_push_of_some _ (Heap.get?_push_of_some _ e))
      rcases List.mem_cons.mp z with z | z
      · exact nz3 hb0 z.symm
      · exact nz1 hb0 ((List.mem_singleton.mp z).trans hz1)
    · rcases r₂ with e | fl₂
      · exact hr₂
      cases fl₂ with
      | ret r =>
        obtain ⟨rfl, h', tk, c', rfl, hS', hk'⟩ := hr₂
        repeat (any_goals (first | wp_step | assumption))
        exact fin _ _ _ hS' hk'
      | _ => exact hr₂.elim
  | _ => exact hr.elim
theorem setR_few {h : Heap} {a : Addr} {S : Int → Bool} {c : Nat} (R : SetR w h a S c) {L : List Int} (hL : ∀ k, S k = true → k ∈ L) : c ≤ L.length := by
  obtain ⟨o, es, ep, t, ho, hex, hd, g, nd, hm, hb, hf, hn, hr, hl⟩ := R
  have h1 : (es.toList.map keyOf).length = c := by rw [List.length_map, Array.length_toList, hn]
  rw [← h1]
  exact nodup_le nd (fun k hk => hL k ((hm k).mpr hk))
end
section
variable {X : Cx}
/-- sorted(set(xs)) -/
def tSortSet (K : PySem.W.Frag) (ta : TE) : TE := fun σ H Q => ta σ H fun x H1 => ∃ (l : Addr) (ns L : List Int), x = .ref l ∧ SqL K H1 l (ns.map V.int) ∧ ns.length < 4000 ∧ L.length < 64 ∧ (∀ k, k ∈ ns → k ∈ L) ∧
  ∀ (ms : List Int) (p : Addr), ms.Pairwise (· < ·) → (∀ k, k ∈ ms ↔ k ∈ ns) → H1 p = none → Q (.ref p) (upd H1 p (.lst (ms.map V.int)))
theorem boot_sorted' : bootBuiltins "sorted" = some (.builtin "sorted") := by decide +kernel
theorem pe_sortSet {a : Expr} {ta : TE} {p p2 q pos : Pos} (hc : X.calm = true) (hg : Gl X "sorted") (hm : X.mg "sorted" = none) (hg2 : Gl X "set") (hm2 : X.mg "set" = none) (ha : PE X a ta)
    (na : starEach [a] X.env = (false, eval a X.env) :: starEach [] X.env := by rfl) : PE X (.Call (.Name "sorted" p) [.Call (.Name "set" p2) [a] [] q] [] pos) (tSortSet X.K ta) := by
  refine ⟨fun pins s σ H Q I h => Call_ (ld_blt I hg hm boot_sorted' (callWith_builtin1 (args_cons (Call_ (ld_blt I hg2 hm2 boot_set (callWith_type1 (args_cons (thn (ha.run pins s σ H _ I h) fun v s1 ⟨x, H1, I1, r1, q1⟩ => args_nil ?_) na) na rfl))) rfl) rfl rfl))⟩
  obtain ⟨l, ns, L, rfl, hq, hl, hL, hk, q1⟩ := q1
  cases r1
  obtain ⟨its, r, pl, hz⟩ := I1.list hq
  refine set_of_list ns (I1.ok.hd hc) pl.isList (by simpa using ints_of_vals r) (by unfold scanBound; omega) fun h' tk c R hkeep => args_nil ?_
  have I2 : Inv X pins σ H1 { s1 with heap := h', toks := tk } := I1.kept hkeep
  have hc64 : c < 64 := Nat.lt_of_le_of_lt (setR_few R fun k z => hk k (of_decide_eq_true z)) hL
  refine sorted_set R (I2.ok.hd hc) hc64 fun s' p out c' ms k g o hp hg hi hs hm hl => ?_
  have hlen : (ms.map V.int).length ≤ sizeLine := by rw [List.length_map, hl, sizeLine_eq]; omega
  have hn : H1 p = none := I2.hok.fresh hp
  have J : Inv X pins σ (upd H1 p (.lst (ms.map V.int))) { ({ s1 with heap := h', toks := tk } : Shared) with heap := s'.heap, gens := s'.gens, drawn := s'.drawn, toks := s'.toks } :=
    I2.call (ch := []) (Un.laid k hp hn) (I2.hok.laid k hp ⟨hlen, out.toList, c', vals_of_ints hi, hg⟩) (by rw [g]; exact I2.bare) (fun _ z => nomatch z)
  have e : s' = { ({ s1 with heap := h', toks := tk } : Shared) with heap := s'.heap, gens := s'.gens, drawn := s'.drawn, toks := s'.toks } := by cases s'; cases o; rfl
  rw [e]
  exact ⟨.ref p, _, J, rfl, q1 ms p hs (fun k => (hm k).trans decide_eq_true_iff) hn⟩
/-- max(d) of a dict whose keys are ints -/
def rMaxDK : List V → Hp → VK → Prop := fun xs H Q => ∃ (a : Addr) (kvs : List (Key × V)) (ks : List Int), xs = [.ref a] ∧ Rd H a (.dK kvs) ∧ kvs.map (·.1) = ks.map Sum.inl ∧ 0 < ks.length ∧ ∀ m, m ∈ ks → (∀ y, y ∈ ks → y ≤ m) → Q (.int m) H
theorem cr_maxDK (hcalm : X.calm = true) : CallR X (.builtin "max") rMaxDK := by
  intro pins s σ H xs us Q I r q
  obtain ⟨a, kvs, ks, rfl, hd, hks, hne, q⟩ := q
  rw [Vals.ref1 r]
  obtain ⟨z, lo, vs, rel, dd⟩ := dk_rd I.hok hd
  obtain ⟨ep, hat⟩ := dd.dictAt
  have hkeys : vs.map (·.1) = ks.map Sum.inl := rel.keys.symm.trans hks
  have hl : vs.length = ks.length := by simpa using congrArg List.length hkeys
  have src := PySem.W.kdl_dict (prog := X.prog) (w := X.w) (knd := mixKind X.prog X.w) (kvs := vs) (ep := ep) lo
  obtain ⟨oI, St, hit, W, st⟩ := src.iter X.A.in1 s (I.ok.hd hcalm) hat
  have hval : ∀ i v, (∃ k x, vs[i]? = some (k, x) ∧ (mixKind X.prog X.w).is k v = true) → ∃ t, v = .int (ks.getD i 0) t := fun i v ⟨k, x, e1, e2⟩ => by
    have e3 : (vs.map (·.1))[i]? = some k := by rw [List.getElem?_map, e1]; rfl
    rw [hkeys, List.getElem?_map] at e3
    cases e4 : ks[i]? with
    | none => rw [e4] at e3; cases e3
    | some y =>
      rw [e4] at e3
      obtain rfl : Sum.inl y = k := Option.some.inj e3
      rw [List.getD_eq_getElem?_getD, e4]
      rcases keyIs_shape (show keyIs (Sum.inl y) v = true from e2) with ⟨i', t, ek, ev⟩ | ⟨z, t, ek, ev⟩
      · cases ek; exact ⟨t, ev⟩
      · cases ek
  have ha : a < s.heap.objs.size := hat.lt_size
  refine call_max_walk (hit _ _ ⟨_, _, _, _, _, _, _, rfl, W, st, fun b hb => ?_, by omega, CmpOf.ints_gt (fun i => ks.getD i 0) hval, fun v h' tk hv hk => ?_⟩)
  · show b < (s.heap.push oI).objs.size
    rw [Heap.size_push]
    rcases List.mem_cons.mp hb with z | z
    · rw [z]; exact Nat.lt_succ_self _
    · rw [List.mem_singleton.mp z]; exact Nat.lt_succ_of_lt ha
  · obtain ⟨t, rfl⟩ := hval _ _ hv
    obtain ⟨m1, m2⟩ := argBest_gt (fun i => ks.getD i 0) (vs.length - 1)
    have m1 : argBest (fun i j => decide (ks.getD i 0 > ks.getD j 0)) (vs.length - 1) ≤ vs.length - 1 := m1
    have m2 : ∀ j, j ≤ vs.length - 1 → ks.getD j 0 ≤ ks.getD (argBest (fun i j => decide (ks.getD i 0 > ks.getD j 0)) (vs.length - 1)) 0 := m2
    have hk2 : ∀ b o, s.heap.get? b = some o → h'.get? b = some o := fun b o e => hk b o (fun z => nz3 (Heap.lt_size e) (List.mem_singleton.mp z).symm) (Heap.get?_push_of_some _ e)
    refine ⟨.int _, H, I.kept (t' := tk) hk2, ⟨t, rfl⟩, q _ (PySem.getD_mem (by omega)) fun y hy => ?_⟩
    obtain ⟨j, hj, rfl⟩ := List.mem_iff_getElem.mp hy
    have z := m2 j (by omega)
    rw [List.getD_eq_getElem?_getD, List.getElem?_eq_getElem hj] at z
    exact z
end
end FW
/-! list(range(a, b)), a and b of any size -/
namespace FW
open PySem PySem.Spec PyProof.Rows L2
section
variable {prog : Program} {w : World} {A : Around} {E : Value → Shared → Prop} {s : Shared}
abbrev lrI (a n c : Int) : Obj := { cls := .type "longrange_iterator", data := .fields #[rawInt a, rawInt n, rawInt c] }
abbrev emL (c : Nat) : Obj := { cls := .type "list", data := .seq #[] c }
theorem extend_long {R : Result → Shared → Prop} {r : Addr} {a b c : Int} {t u v : Tok} {n : Nat} (hh : A.handled = none) (hr : IsRange s.heap r a b c t u v) (big : Builtin.Range.small a b c = false)
    (hn : Builtin.Range.rangeSize a b c = n) (hlen : n ≤ 2 ^ 24) (S : Addr) (res : Value) (c₀ : Nat) (hS : s.heap.get? S = some (emL c₀))
    (fin : ∀ h' tk acc' c', (∀ b o, b ≠ S → s.heap.get? b = some o → h'.get? b = some o) → h'.get? S = some { cls := .type "list", dict := none, data := .seq acc' c', slots := #[] } → ItemsOf (fun i v => ∃ t, v = .int (a + i * c) t) acc' n → R (.ok (.ret res)) { s with heap := h', toks := tk }) :
    wpAny (model prog w) A.in1 (Builtin.List.listExtendWith (.ref S) (.ref r) res) (fun fin s' => match fin with | .done f => R (.ok f) s' | .again c' => c'.quiet = true ∧ codeAny (model prog w) A c' R s') (fun e s' => R (.error e) s') s := by
  have hSr : S ≠ r := fun e => by rw [e, hr] at hS; simp at hS
  have hSI : S ≠ s.heap.objs.size := Nat.ne_of_lt (Heap.lt_size hS)
  have W := (Walks.longrange (prog := prog) (w := w) (A := A.in1) hh s.heap.objs.size a c n).toS
  have key : ∀ (h : Heap) (c₁ tk : Nat), IsLongIter h s.heap.objs.size (a + ((0 : Nat) : Int) * c) ((n : Int) - ((0 : Nat) : Int)) c → (∀ b o, b ≠ S → s.heap.get? b = some o → h.get? b = some o) → h.get? S = some (emL c₁) → codeAny (model prog w) A (.builtin "list.extend.loop" ⟨[.ref S, .ref s.heap.objs.size, res], []⟩) R { s with heap := h, toks := tk } := by
    intro h c₁ tk hit hk hS₁
    refine codeAny_extend_loopS W (by rw [sizeLine_eq]; omega) S (fun hm => hSI (List.mem_singleton.mp hm)) res n 0 _ #[] c₁ rfl (Nat.zero_le _) hit hS₁ (ItemsOf.nil _) fun s' acc' c' hm hS' hacc => ?_
    rw [Moved.eq_with hm]
    refine fin s'.heap s'.toks acc' c' (fun b o hb e => hm.heap b o (fun hmem => (List.mem_cons.mp hmem).elim hb fun z => ?_) (hk b o hb e)) hS' hacc
    have := Heap.lt_size e
    rw [List.mem_singleton.mp z] at this
    exact Nat.lt_irrefl _ this
  unfold Builtin.List.listExtendWith
  refine wpAny_bind (wpAny_typeOf (T := "range") ⟨_, hr, rfl⟩ ?_)
  have h1 : Builtin.List.listSameRef (.ref S) (.ref r) = false := by simp [Builtin.List.listSameRef, hSr]
  simp only [h1, show (Value.type "range" == Value.type "list") = false from rfl, show (Value.type "range" == Value.type "tuple") = false from rfl, Bool.or_false, Bool.false_eq_true, if_false]
  refine wpAny_bind (wpAny_pyIter_longrange hr big (wpAny_bind (wpAny_holding (wpAny_hint_range (n := n) (Heap.get?_push_of_some _ hr) hn hlen ?_))))
  have hit₁ : IsLongIter (s.heap.push (lrI a (Builtin.Range.rangeSize a b c) c)) s.heap.objs.size (a + ((0 : Nat) : Int) * c) ((n : Int) - ((0 : Nat) : Int)) c := by
    show IsLongIter _ _ _ _ _
    rw [hn]; simpa using Heap.get?_push_size _ rfl
  have hS₁ := Heap.get?_push_of_some (lrI a (Builtin.Range.rangeSize a b c) c) hS
  refine wpAny_ite_split (fun _ => wpAny_bind (wpAny_rule (wpAny_bind ?_))) (fun _ => wpAny_pure ⟨plainId_quiet F.plain_extend_loop _, key _ c₀ _ hit₁ (fun b o _ e => Heap.get?_push_of_some _ e) hS₁⟩)
  show wpAny _ _ (updateSeq S (·.push .none) >>= fun _ => updateSeq S (·.pop)) _ _ _
  refine wpAny_bind (wpAny_updateSeq hS₁ rfl ?_)
  have hS₂ := Heap.get?_update_self (Obj.mapSeq (·.push Value.none)) hS₁ rfl
  refine wpAny_updateSeq (hz := by seq_fits) hS₂ rfl ?_
  exact wpAny_pure ⟨plainId_quiet F.plain_extend_loop _, key _ _ _ ((Heap.get?_update_other _ _ hSI).trans ((Heap.get?_update_other _ _ hSI).trans hit₁)) (fun b o hb e => (Heap.get?_update_other _ _ (Ne.symm hb)).trans ((Heap.get?_update_other _ _ (Ne.symm hb)).trans (Heap.get?_push_of_some _ e))) (Heap.get?_update_self (Obj.mapSeq (·.pop)) hS₂ rfl)⟩
theorem list_long {Q : Value → Shared → Prop} {r : Addr} {a b c : Int} {t u v : Tok} {n : Nat} (hh : A.handled = none) (hr : IsRange s.heap r a b c t u v) (big : Builtin.Range.small a b c = false) (hn : Builtin.Range.rangeSize a b c = n) (hlen : n ≤ 2 ^ 24)
    (fin : ∀ h' tk acc' c', (∀ b o, s.heap.get? b = some o → h'.get? b = some o) → h'.get? s.heap.objs.size = some { cls := .type "list", dict := none, data := .seq acc' c', slots := #[] } → ItemsOf (fun i v => ∃ t, v = .int (a + i * c) t) acc' n → Q (.ref s.heap.objs.size) { s with heap := h', toks := tk }) :
    wpAny (model prog w) A (call (.type "list") [.ref r]) Q E s := by
  refine callType_codes (Q₁ := fun obj s₁ => obj = .ref s.heap.objs.size ∧ s₁ = { s with heap := s.heap.push (emL 0) }) F.called_list (F.typeCall_list_1 _) F.entry_list_init (code_list_new _ ⟨rfl, rfl⟩) fun obj s₁ h₁ => ?_
  obtain ⟨rfl, rfl⟩ := h₁
  have hS : (s.heap.push (emL 0)).get? s.heap.objs.size = some (emL 0) := Heap.get?_push_size _ rfl
  have hr1 := Heap.get?_push_of_some (emL 0) hr
  refine ⟨⟨_, hS, rfl⟩, F.args_list_init_2 _ _, ?_⟩
  show wpAny _ _ (do let old ← Builtin.List.listItems (.ref s.heap.objs.size); Builtin.List.listUpdate (.ref s.heap.objs.size) (fun _ => #[]); letGo old.toList.reverse; Builtin.List.listExtendWith (.ref s.heap.objs.size) (.ref r) .none) _ _ _
  refine wpAny_bind ?_
  unfold Builtin.List.listItems
  refine wpAny_bind (wpAny_seqItems hS rfl (wpAny_pure ?_))
  show wpAny _ _ (updateSeq s.heap.objs.size (fun _ => #[]) >>= fun _ => letGo (#[] : Array Value).toList.reverse >>= fun _ => Builtin.List.listExtendWith (.ref s.heap.objs.size) (.ref r) .none) _ _ _
  refine wpAny_bind (wpAny_updateSeq hS rfl (wpAny_bind (wpAny_letGo ?_)))
  have hS₂ := Heap.get?_update_self (Obj.mapSeq (fun _ => (#[] : Array Value))) hS rfl
  have ne0 : ∀ {b : Addr} {o : Obj}, s.heap.get? b = some o → b ≠ s.heap.objs.size := fun e => Nat.ne_of_lt (Heap.lt_size e)
  refine extend_long (A := A.in1) hh ((Heap.get?_update_other _ _ (Ne.symm (ne0 hr))).trans hr1) big hn hlen _ .none _ hS₂ fun h' tk acc' c' hk hS' hacc => ⟨rfl, fin h' tk acc' c' (fun b o e => hk b o (ne0 e) ((Heap.get?_update_other _ _ (Ne.symm (ne0 e))).trans (Heap.get?_push_of_some _ e))) hS' hacc⟩
end
section
variable {X : Cx} {e : Expr} {te : L2.St → Hp → (Int → Int → Hp → Prop) → Prop}
def tLstRgB (te : L2.St → Hp → (Int → Int → Hp → Prop) → Prop) : TE := fun σ H Q => te σ H fun a b H1 => (b - a).toNat ≤ 2 ^ 24 ∧ ∀ q, H1 q = none → Q (.ref q) (upd H1 q (.lst (rgV a b)))
theorem pe_listRgB {p pos : Pos} (hc : X.calm = true) (hg : Gl X "list") (hm : X.mg "list" = none) (he : PRg X e te) (na : starEach [e] X.env = (false, eval e X.env) :: starEach [] X.env := by rfl) : PE X (.Call (.Name "list" p) [e] [] pos) (tLstRgB te) := by
  refine ⟨fun pins s σ H Q I h => Call_ (ld_blt I hg hm boot_list (callWith_type1 (args_cons (thn (he pins s σ H _ I h) fun x s1 ⟨r, a, b, t, u, v, H1, ex, hr, I1, b5, q⟩ => args_nil ?_) na) na))⟩
  subst ex
  have last : ∀ h' tk acc c', (∀ b o, s1.heap.get? b = some o → h'.get? b = some o) → h'.get? s1.heap.objs.size = some { cls := .type "list", dict := none, data := .seq acc c', slots := #[] } → ItemsOf (fun i v => ∃ t, v = .int (a + i * 1) t) acc (b - a).toNat → EP X pins σ Q (.ref s1.heap.objs.size) { s1 with heap := h', toks := tk } := fun h' tk acc c' hk e' hi => by
    refine ⟨.ref s1.heap.objs.size, upd H1 s1.heap.objs.size (.lst (rgV a b)), I1.laid hk (Nat.le_refl _) (show ObjOk X.prog X.w _ _ _ (.lst (rgV a b)) from ⟨?_, acc.toList, c', vals_rg hi, ?_⟩), rfl, q _ (I1.hok.fresh (Nat.le_refl _))⟩
    · rw [rgV_length, sizeLine_eq]; exact b5
    · rw [Array.toArray_toList]; exact e'
  cases sm : Builtin.Range.small a b 1 with
  | true => exact call_list_range (n := (b - a).toNat) (I1.ok.hd hc) hr sm (rangeSize_nat a b) b5 last
  | false => exact list_long (n := (b - a).toNat) (I1.ok.hd hc) hr sm (rangeSize_nat a b) b5 last
end
end FW
namespace FWL
open PySem PySem.Spec PyProof.Rows L2 FW
/-! ### outcomes of all starts -/
theorem led_root {l : Lp} (o : l.Ok) {n r : Int} (R : RootOf l.k n r) (r1 : 1 ≤ r) : l.led n r ≤ r + 8 := by
  obtain ⟨r0, lo, hi⟩ := R
  have hc := o.cases
  have d0 := o.d0; have d1 := o.d1
  have key : ∀ j : Nat, (j = 1 ∨ j = 2 ∨ j = 3) → l.k = j + 1 → n / r ^ (l.k - 1).toNat ≤ r + 14 := by
    intro j hj hk
    have e1 : (l.k - 1).toNat = j := by omega
    have e2 : l.k.toNat = j + 1 := by omega
    rw [e2] at hi
    rw [e1]
    have hp := pow_pos' r1 j
    have : n / r ^ j < r + 15 := by
      rw [Int.ediv_lt_iff_lt_mul (by omega)]
      refine Int.lt_of_lt_of_le hi ?_
      obtain ⟨t, rfl⟩ : ∃ t : Nat, r = (t : Int) + 1 := ⟨(r - 1).toNat, by omega⟩
      have t0 : (0 : Int) ≤ t := by omega
      have t2 : (0 : Int) ≤ (t : Int) * t := Int.mul_nonneg t0 t0
      have t3 : (0 : Int) ≤ (t : Int) * t * t := Int.mul_nonneg t2 t0
      rcases hj with rfl | rfl | rfl
      · have e : ((t : Int) + 1 + 15) * ((t : Int) + 1) ^ 1 = ((t : Int) + 1 + 1) ^ (1 + 1) + (13 * t + 12) := by grind
        rw [e]; omega
      · have e : ((t : Int) + 1 + 15) * ((t : Int) + 1) ^ 2 = ((t : Int) + 1 + 1) ^ (2 + 1) + (12 * (t * t) + 21 * t + 8) := by grind
        rw [e]; omega
      · have e : ((t : Int) + 1 + 15) * ((t : Int) + 1) ^ 3 = ((t : Int) + 1 + 1) ^ (3 + 1) + (11 * (t * t * t) + 27 * (t * t) + 17 * t) := by grind
        rw [e]; omega
    omega
  have q : n / r ^ (l.k - 1).toNat ≤ r + 14 := by
    rcases o.hk with hk | hk | hk
    · exact key 1 (by omega) (by omega)
    · exact key 2 (by omega) (by omega)
    · exact key 3 (by omega) (by omega)
  clear key o
  unfold Lp.led
  revert q
  generalize n / r ^ (l.k - 1).toNat = qq
  intro q
  obtain ⟨k, a, c, d, st, td, md⟩ := l
  dsimp only at *
  simp only [List.mem_cons, Prod.mk.injEq, List.not_mem_nil, or_false] at hc
  rcases hc with ⟨rfl, rfl, rfl⟩ | ⟨rfl, rfl, rfl⟩ | ⟨rfl, rfl, rfl⟩ | ⟨rfl, rfl, rfl⟩ | ⟨rfl, rfl, rfl⟩ | ⟨rfl, rfl, rfl⟩ | ⟨rfl, rfl, rfl⟩ | ⟨rfl, rfl, rfl⟩ | ⟨rfl, rfl, rfl⟩ | ⟨rfl, rfl, rfl⟩ | ⟨rfl, rfl, rfl⟩ | ⟨rfl, rfl, rfl⟩ | ⟨rfl, rfl, rfl⟩ | ⟨rfl, rfl, rfl⟩ | ⟨rfl, rfl, rfl⟩ | ⟨rfl, rfl, rfl⟩ | ⟨rfl, rfl, rfl⟩
  all_goals omega
theorem nearR {l : Lp} (o : l.Ok) {n r : Int} (R : RootOf l.k n r) : Near l n r (r + 19) (r + 19) := by
  have nn := near_cases l
  refine ⟨by omega, ?_, Int.le_refl _, fun _ z z1 z2 => .inl ?_⟩
  · have := led_up o R (x := r + 19 + 1) (by omega); omega
  · rcases Int.lt_or_le r z with h | h
    · have := led_up o R (x := z) (by omega); omega
    · have e : z = r := by omega
      rw [e]
      have := led_root o R (by omega); omega
/-- a window that steps do not leave -/
def Win2 (r x : Int) : Prop := r - 6 ≤ x ∧ x ≤ r + 2100
theorem led_win2 {l : Lp} (o : l.Ok) {n r x : Int} (R : RootOf l.k n r) (hx : 1 ≤ x) (h : Win2 r x) : Win2 r (l.led n x) := by
  obtain ⟨w1, w2⟩ := h
  have lw := (led_win o R hx (show Win r x from ⟨w1, by omega⟩)).1
  refine ⟨lw, ?_⟩
  rcases Int.lt_or_le r x with h | h
  · have := led_up o R (x := x) (by omega); omega
  · obtain ⟨q, e, q1, q0, q2, q3, qn⟩ := led_q o R hx
    have q3 := q3 w1
    rw [e]
    have hc := o.cases
    have d0 := o.d0; have d1 := o.d1
    clear e o R lw
    obtain ⟨k, a, c, d, st, td, md⟩ := l
    dsimp only at *
    simp only [List.mem_cons, Prod.mk.injEq, List.not_mem_nil, or_false] at hc
    rcases hc with ⟨rfl, rfl, rfl⟩ | ⟨rfl, rfl, rfl⟩ | ⟨rfl, rfl, rfl⟩ | ⟨rfl, rfl, rfl⟩ | ⟨rfl, rfl, rfl⟩ | ⟨rfl, rfl, rfl⟩ | ⟨rfl, rfl, rfl⟩ | ⟨rfl, rfl, rfl⟩ | ⟨rfl, rfl, rfl⟩ | ⟨rfl, rfl, rfl⟩ | ⟨rfl, rfl, rfl⟩ | ⟨rfl, rfl, rfl⟩ | ⟨rfl, rfl, rfl⟩ | ⟨rfl, rfl, rfl⟩ | ⟨rfl, rfl, rfl⟩ | ⟨rfl, rfl, rfl⟩ | ⟨rfl, rfl, rfl⟩
    all_goals omega
/-- what all starts come to -/
def Alo (l : Lp) (n r : Int) (k : L2.Key) : Prop := ∃ x, max 1 r ≤ x ∧ OcS l n none x k
theorem Alo.near {l : Lp} (o : l.Ok) {n r last h : Int} (R : RootOf l.k n r) (N : Near l n r last h) {k : L2.Key} (z : Alo l n r k) : ∃ w, max 1 r ≤ w ∧ w ≤ h + 1 ∧ OcS l n none w k := by
  obtain ⟨x, hx, hk⟩ := z
  obtain ⟨w, w1, w2, w3⟩ := N.all o R hx
  exact ⟨w, w1, w2, w3 k hk⟩
/-! ### numbers ascending, then the words -/
def OrdP (P : L2.Key → Prop) (ks : List L2.Key) : Prop := ∃ (ns : List Int) (b1 b2 : Bool), ns.Pairwise (· < ·) ∧ (∀ i, i ∈ ns ↔ P (.inl i)) ∧ (b1 = true ↔ P (.inr "nought")) ∧ (b2 = true ↔ P (.inr "swings")) ∧
  ks = ns.map Sum.inl ++ ((if b1 then [.inr "nought"] else []) ++ (if b2 then [.inr "swings"] else []))
theorem asc_uniq : ∀ {xs ys : List Int}, xs.Pairwise (· < ·) → ys.Pairwise (· < ·) → (∀ i, i ∈ xs ↔ i ∈ ys) → xs = ys
  | [], [], _, _, _ => rfl
  | [], y :: ys, _, _, h => absurd ((h y).mpr List.mem_cons_self) (by intro z; cases z)
  | x :: xs, [], _, _, h => absurd ((h x).mp List.mem_cons_self) (by intro z; cases z)
  | x :: xs, y :: ys, hx, hy, h => by
    have hx' := List.pairwise_cons.mp hx; have hy' := List.pairwise_cons.mp hy
    have e : x = y := by
      rcases List.mem_cons.mp ((h x).mp List.mem_cons_self) with z | z
      · exact z
      · rcases List.mem_cons.mp ((h y).mpr List.mem_cons_self) with u | u
        · exact u.symm
        · have := hy'.1 x z; have := hx'.1 y u; omega
    subst e
    refine congrArg _ (asc_uniq hx'.2 hy'.2 fun i => ⟨fun hi => ?_, fun hi => ?_⟩)
    · rcases List.mem_cons.mp ((h i).mp (List.mem_cons_of_mem _ hi)) with z | z
      · have := hx'.1 i hi; omega
      · exact z
    · rcases List.mem_cons.mp ((h i).mpr (List.mem_cons_of_mem _ hi)) with z | z
      · have := hy'.1 i hi; omega
      · exact z
theorem OrdP.uniq {P P' : L2.Key → Prop} {ks ks' : List L2.Key} (h : OrdP P ks) (h' : OrdP P' ks') (e : ∀ k, P k ↔ P' k) : ks = ks' := by
  obtain ⟨ns, b1, b2, h1, h2, h3, h4, rfl⟩ := h
  obtain ⟨ms, c1, c2, g1, g2, g3, g4, rfl⟩ := h'
  obtain rfl := asc_uniq h1 g1 fun i => (h2 i).trans ((e _).trans (g2 i).symm)
  have e1 : b1 = c1 := Bool.eq_iff_iff.mpr (h3.trans ((e _).trans g3.symm))
  have e2 : b2 = c2 := Bool.eq_iff_iff.mpr (h4.trans ((e _).trans g4.symm))
  rw [e1, e2]
theorem OrdP.congr {P P' : L2.Key → Prop} {ks : List L2.Key} (h : OrdP P ks) (e : ∀ k, P k ↔ P' k) : OrdP P' ks := by
  obtain ⟨ns, b1, b2, h1, h2, h3, h4, rfl⟩ := h
  exact ⟨ns, b1, b2, h1, fun i => (h2 i).trans (e _), h3.trans (e _), h4.trans (e _), rfl⟩
theorem OrdP.mem {P : L2.Key → Prop} {ks : List L2.Key} (h : OrdP P ks) {k : L2.Key} (hk : ∀ s, k = .inr s → s = "nought" ∨ s = "swings") : k ∈ ks ↔ P k := by
  obtain ⟨ns, b1, b2, h1, h2, h3, h4, rfl⟩ := h
  have m1 : ∀ k : L2.Key, k ∈ (if b1 = true then ([.inr "nought"] : List L2.Key) else []) ↔ b1 = true ∧ k = .inr "nought" := fun k => by cases b1 <;> simp
  have m2 : ∀ k : L2.Key, k ∈ (if b2 = true then ([.inr "swings"] : List L2.Key) else []) ↔ b2 = true ∧ k = .inr "swings" := fun k => by cases b2 <;> simp
  rw [List.mem_append, List.mem_append, m1, m2]
  cases k with
  | inl i =>
    rw [← h2]
    constructor
    · rintro (z | ⟨_, z⟩ | ⟨_, z⟩)
      · obtain ⟨j, hj, e⟩ := List.mem_map.mp z; cases e; exact hj
      · cases z
      · cases z
    · intro z; exact .inl (List.mem_map.mpr ⟨i, z, rfl⟩)
  | inr s =>
    constructor
    · rintro (z | ⟨z1, z⟩ | ⟨z1, z⟩)
      · obtain ⟨j, hj, e⟩ := List.mem_map.mp z; cases e
      · rw [z]; exact h3.mp z1
      · rw [z]; exact h4.mp z1
    · intro z
      rcases hk s rfl with rfl | rfl
      · exact .inr (.inl ⟨h3.mpr z, rfl⟩)
      · exact .inr (.inr ⟨h4.mpr z, rfl⟩)
theorem OrdP.only {P : L2.Key → Prop} {ks : List L2.Key} (h : OrdP P ks) {k : L2.Key} (z : k ∈ ks) : P k := by
  obtain ⟨ns, b1, b2, h1, h2, h3, h4, rfl⟩ := h
  rcases List.mem_append.mp z with z | z
  · obtain ⟨j, hj, e⟩ := List.mem_map.mp z; rw [← e]; exact (h2 j).mp hj
  · rcases List.mem_append.mp z with z | z
    · cases b1
      · cases z
      · rw [List.mem_singleton.mp z]; exact h3.mp rfl
    · cases b2
      · cases z
      · rw [List.mem_singleton.mp z]; exact h4.mp rfl
/-- words that a run can end with -/
theorem OcS.word {l : Lp} {n x : Int} {b : Option Int} {k : L2.Key} (h : OcS l n b x k) : ∀ s, k = .inr s → s = "nought" ∨ s = "swings" := by
  intro s e
  rcases h with ⟨i, _, h⟩ | ⟨h, _⟩
  · unfold endS endA at h
    subst e
    split at h
    · cases h
    · split at h
      · cases h; exact .inl rfl
      · split at h <;> cases h
  · rw [e] at h; cases h; exact .inr rfl
/-! ### a range of ints -/
def rgZ (a b : Int) : List Int := (List.range (b - a).toNat).map fun i => a + (i : Nat)
theorem rgZ_V (a b : Int) : rgV a b = (rgZ a b).map V.int := by unfold rgV rgZ; rw [List.map_map]; rfl
theorem mem_rgZ {a b x : Int} : x ∈ rgZ a b ↔ a ≤ x ∧ x < b := by
  unfold rgZ
  rw [List.mem_map]
  constructor
  · rintro ⟨i, hi, rfl⟩
    have := List.mem_range.mp hi; omega
  · rintro ⟨h1, h2⟩
    exact ⟨(x - a).toNat, List.mem_range.mpr (by omega), by omega⟩
theorem rgZ_len (a b : Int) : (rgZ a b).length = (b - a).toNat := by unfold rgZ; rw [List.length_map, List.length_range]
open Classical in
/-- few numbers are told -/
theorem few_told {l : Lp} (o : l.Ok) {n r : Int} (R : RootOf l.k n r) : ∃ L : List Int, L.length < 64 ∧ ∀ i, Alo l n r (.inl i) → i ∈ L := by
  refine ⟨(rgZ (max 1 r) (r + 21)).map fun w => if h : ∃ i, OcS l n none w (.inl i) then Classical.choose h else 0, ?_, fun i hi => ?_⟩
  · rw [List.length_map, rgZ_len]; have := R.r0; omega
  · obtain ⟨w, w1, w2, w3⟩ := hi.near o R (nearR o R)
    refine List.mem_map.mpr ⟨w, mem_rgZ.mpr ⟨w1, by omega⟩, ?_⟩
    have hx : ∃ i, OcS l n none w (.inl i) := ⟨i, w3⟩
    rw [dif_pos hx]
    have := Classical.choose_spec hx
    have e := this.uniq w3
    exact Sum.inl.inj e
theorem win_few {r : Int} {ks : List Int} (nd : ks.Nodup) (h : ∀ x, x ∈ ks → Win2 r x) : ks.length ≤ 2108 := by
  have := FW.nodup_le (L := rgZ (r - 6) (r + 2101)) nd fun k hk => mem_rgZ.mpr (by have := h k hk; unfold Win2 at this; omega)
  rw [rgZ_len] at this
  omega
end FWL
namespace FWL
open PySem PySem.Spec PyProof.Rows L2 FW
/-! ### walking with less to say -/
section
variable {K : PySem.W.Frag} {σ : L2.St} {H : Hp} {Q : VK} {R : VK} {D : Ends} {v : V} {i j : Int} {a C dx : Addr} {f : Str} {xs : List V} {fs : List (Str × L2.V)}
theorem al_tup (h : xs.length ≤ sizeLine) (k : ∀ p H1, H p = none → Ext H H1 → H1 p = some (.tup xs) → R (.ref p) H1) : xs.length ≤ sizeLine ∧ ∀ p, H p = none → R (.ref p) (upd H p (.tup xs)) := ⟨h, fun p hp => k p _ hp (Ext.new hp) upd_same⟩
theorem al_lst (h : xs.length ≤ sizeLine) (k : ∀ p H1, H p = none → Ext H H1 → H1 p = some (.lst xs) → R (.ref p) H1) : xs.length ≤ sizeLine ∧ ∀ p, H p = none → R (.ref p) (upd H p (.lst xs)) := ⟨h, fun p hp => k p _ hp (Ext.new hp) upd_same⟩
theorem ha_fld {R : V → Prop} (h : H a = some (.ins C dx fs)) (c : Cls K C) (n : NoAttr K C f) (l : fs.lookup f = some v) (k : R v) : ∃ a' C dx fs v, V.ref a = .ref a' ∧ H a' = some (.ins C dx fs) ∧ Cls K C ∧ NoAttr K C f ∧ fs.lookup f = some v ∧ R v := ⟨a, C, dx, fs, v, rfl, h, c, n, l, k⟩
theorem ha_ixL (h : H a = some (.lst xs)) (ha : atI xs i = some v) (k : Q v H) : rIxL K (.ref a) (.int i) H Q := e_ixL k (SqL.of h) ha
theorem ha_ixT (h : H a = some (.tup xs)) (ha : atI xs i = some v) (k : Q v H) : rIxT K (.ref a) (.int i) H Q := e_ixT k (SqT.of h) ha
theorem ha_tupL (h : H a = some (.lst xs)) (k : ∀ p H1, H p = none → Ext H H1 → H1 p = some (.tup xs) → Q (.ref p) H1) : FW.rTupS K [.ref a] H Q := e_tupL (fun p hp => k p _ hp (Ext.new hp) upd_same) (SqL.of h)
theorem ha_eqI (k : Q (.bl (decide (i = j))) H) : rEq (.int i) (.int j) H Q := ⟨rfl, by
  have e : decide (V.int i = V.int j) = decide (i = j) := decide_eq_decide.mpr ⟨fun z => by injection z, fun z => by rw [z]⟩
  show Q (.bl (decide (V.int i = V.int j))) H
  rw [e]; exact k⟩
theorem ha_neI (k : Q (.bl (!decide (i = j))) H) : rNe (.int i) (.int j) H Q := ⟨rfl, by
  have e : decide (V.int i = V.int j) = decide (i = j) := decide_eq_decide.mpr ⟨fun z => by injection z, fun z => by rw [z]⟩
  show Q (.bl (!decide (V.int i = V.int j))) H
  rw [e]; exact k⟩
theorem ha_eqS {s t : Str} (k : Q (.bl (decide (s = t))) H) : rEq (.str s) (.str t) H Q := ⟨rfl, by
  have e : decide (V.str s = V.str t) = decide (s = t) := decide_eq_decide.mpr ⟨fun z => by injection z, fun z => by rw [z]⟩
  show Q (.bl (decide (V.str s = V.str t))) H
  rw [e]; exact k⟩
theorem ha_neS {s t : Str} (k : Q (.bl (!decide (s = t))) H) : rNe (.str s) (.str t) H Q := ⟨rfl, by
  have e : decide (V.str s = V.str t) = decide (s = t) := decide_eq_decide.mpr ⟨fun z => by injection z, fun z => by rw [z]⟩
  show Q (.bl (!decide (V.str s = V.str t))) H
  rw [e]; exact k⟩
theorem ha_intD {p : Prop} [Decidable p] (k : Q (.int (if p then 1 else 0)) H) : rInt1 [.bl (decide p)] H Q := .inr ⟨_, rfl, by
  have e : (if decide p = true then (1 : Int) else 0) = if p then 1 else 0 := by
    by_cases h : p
    · rw [if_pos h, if_pos (decide_eq_true h)]
    · rw [if_neg h, if_neg (fun z => h (of_decide_eq_true z))]
  show Q (.int (if decide p = true then 1 else 0)) H
  rw [e]; exact k⟩
theorem ha_app {ys : List V} (h : H a = some (.lst ys)) (z : ys.length < sizeLine) (k : Q .non (upd H a (.lst (ys ++ [v])))) : rAppend (.ref a) [v] H Q := ⟨a, ys, v, rfl, rfl, h, z, k⟩
end
theorem al_of {H G : Hp} {p : Addr} {o : HO} (hp : H p = none) (e : upd H p o = G) : Ext H G ∧ G p = some o := by subst e; exact ⟨Ext.new hp, upd_same⟩
theorem ha_tyL {K : PySem.W.Frag} {H : Hp} {a : Addr} {xs : List V} {P : Prop} (h : H a = some (.lst xs)) (k : P) : tyV K "list" (.ref a) H ∧ P := ⟨.inl ⟨rfl, _, SqL.of h⟩, k⟩
/-! ### rows and picks -/
def strsOf (vs : List V) : List Str := vs.filterMap fun v => match v with | .str s => some s | _ => none
def intsOf (vs : List V) : List Int := vs.filterMap fun v => match v with | .int i => some i | _ => none
section
variable {K : PySem.W.Frag} {H : Hp} {Q : VK} {a : Addr} {i j : Int} {vs : List V}
theorem ha_row {xs : List Int} {n : Nat} (h : H a = some (.lst (xs.map V.int))) (hr : Row xs n) (h0 : 0 ≤ i) (h1 : i < n) (k : ∀ x, 0 ≤ x → x < 1000 → Q (.int x) H) : rIxL K (.ref a) (.int i) H Q := by
  obtain ⟨x, x0, x1, hx⟩ := row_at hr h0 h1
  exact e_ixL (k x x0 x1) (SqL.of h) hx
theorem ha_pick (h : H a = some (.lst vs)) (h0 : 0 ≤ i) (h1 : i < (vs.length : Int)) (k : ∀ v ∈ vs, Q v H) : rIxL K (.ref a) (.int i) H Q := by
  obtain ⟨v, hv, hat⟩ := list_at h0 h1
  exact e_ixL (k v hv) (SqL.of h) hat
theorem ha_pickS (h : H a = some (.lst vs)) (e : vs = (strsOf vs).map V.str) (h0 : 0 ≤ i) (h1 : i < (vs.length : Int)) (k : ∀ w, w ∈ strsOf vs → Q (.str w) H) : rIxL K (.ref a) (.int i) H Q := by
  refine ha_pick h h0 h1 fun v hv => ?_
  rw [e] at hv
  obtain ⟨w, hw, rfl⟩ := List.mem_map.mp hv
  exact k w hw
theorem ha_pickI (h : H a = some (.lst vs)) (e : vs = (intsOf vs).map V.int) (h0 : 0 ≤ i) (h1 : i < (vs.length : Int)) (k : ∀ w, w ∈ intsOf vs → Q (.int w) H) : rIxL K (.ref a) (.int i) H Q := by
  refine ha_pick h h0 h1 fun v hv => ?_
  rw [e] at hv
  obtain ⟨w, hw, rfl⟩ := List.mem_map.mp hv
  exact k w hw
theorem ha_cat {xs ys : List V} {b : Addr} (h : H a = some (.lst xs)) (h' : H b = some (.lst ys)) (hz : xs.length + ys.length ≤ sizeLine) (k : ∀ p G, H p = none → Ext H G → G p = some (.lst (xs ++ ys)) → Q (.ref p) G) : rCat (.ref a) (.ref b) H Q := e_cat (fun p hp => k p _ hp (Ext.new hp) upd_same) h h' hz
theorem ha_len {xs : List V} (h : H a = some (.lst xs)) (k : Q (.int xs.length) H) : Evl.rLenS K [.ref a] H Q := e_len k (.inl (SqL.of h))
theorem ha_lenT {xs : List V} (h : H a = some (.tup xs)) (k : Q (.int xs.length) H) : Evl.rLenS K [.ref a] H Q := e_len k (.inr (SqT.of h))
theorem ha_gT {gs : TGs} {R : L2.St → Hp → Prop} {σ : L2.St} {n : Nat} {xs : List V} (h : H a = some (.tup xs)) (hl : xs.length = n) (k : gs xs σ H R) : gTup K n gs (.ref a) σ H R := g_tup k (SqT.of h) hl
theorem ha_gL {gs : TGs} {R : L2.St → Hp → Prop} {σ : L2.St} {n : Nat} {xs : List V} (h : H a = some (.lst xs)) (hl : xs.length = n) (k : gs xs σ H R) : gLst K n gs (.ref a) σ H R := ⟨a, xs, rfl, SqL.of h, hl, k⟩
/-- a made object: its __init__'s promise -/
theorem ha_make {C : Addr} {sp : Sp} {ws : List V} {R : Addr → Hp → Prop} {E : XK} (k : ∀ x dx G, H x = none → Ext H G → G x = some (.ins C dx []) → sp (.ref x :: ws) G (fun v H2 => v = .non ∧ R x H2) E) :
    ∀ x dx, H x = none → H dx = none → dx ≠ x → sp (.ref x :: ws) (upd (upd H dx (.own x)) x (.ins C dx [])) (fun v H2 => v = .non ∧ R x H2) E := fun x dx hx hdx hne =>
  k x dx _ hx ((Ext.new hdx).tr (Ext.new (by rw [upd_ne hne.symm]; exact hx))) upd_same
/-- what is new to H is kept apart -/
theorem ext_B {G G' : Hp} {x : Addr} (e : Ext H G) (hx : H x = none) (b : ExtB x G G') : Ext H G' := fun p o h => b p o (ne_of_none h hx) (e p o h)
end
theorem ha_mod {H : Hp} {Q : VK} {i j : Int} (h : 0 < j) (k : ∀ m : Int, 0 ≤ m → m < j → m = i % j → Q (.int m) H) : FW.rMod (.int i) (.int j) H Q := e_I (k _ (Int.emod_nonneg _ (by omega)) (Int.emod_lt_of_pos _ h) rfl) h
theorem ha_lenN {K : PySem.W.Frag} {H : Hp} {Q : VK} {a : Addr} {xs : List V} {n : Nat} (h : H a = some (.lst xs)) (e : xs.length = n) (k : Q (.int n) H) : Evl.rLenS K [.ref a] H Q := by subst e; exact ha_len h k
theorem mk_of {H G : Hp} {x dx C : Addr} (hx : H x = none) (hd : H dx = none) (hne : dx ≠ x) (e : upd (upd H dx (.own x)) x (.ins C dx []) = G) : Ext H G ∧ G x = some (.ins C dx []) := by
  subst e
  exact ⟨(Ext.new hd).tr (Ext.new (by rw [upd_ne hne.symm]; exact hx)), upd_same⟩
theorem ha_mt {H : Hp} {p C dx : Addr} {fs : List (Str × L2.V)} {m : Str} {T : Prop} (h : H p = some (.ins C dx fs)) (l : fs.lookup m = none) (k : T) : ∃ a dx fs, V.ref p = .ref a ∧ H a = some (.ins C dx fs) ∧ fs.lookup m = none ∧ T := ⟨p, dx, fs, rfl, h, l, k⟩
theorem ap_of {H G : Hp} {a : Addr} {xs ys : List V} (h : H a = some (.lst xs)) (e : upd H a (.lst ys) = G) : G a = some (.lst ys) ∧ (∀ b C dx fs, H b = some (.ins C dx fs) → G b = some (.ins C dx fs)) ∧ (∀ b zs, H b = some (.tup zs) → G b = some (.tup zs)) ∧ ExtB a H G := by
  subst e
  exact ⟨upd_same, fun b C dx fs q => by rw [upd_ne (ne_of q h (fun z => nomatch z))]; exact q, fun b zs q => by rw [upd_ne (ne_of q h (fun z => nomatch z))]; exact q, ExtB.upd⟩
end FWL
local macro_rules | `(tactic| walk_at "rh") => `(tactic| first | assumption | solve_by_elim (maxDepth := 40))
local macro_rules | `(tactic| walk_at "rE") => `(tactic| (intro xa xo xh; solve_by_elim (maxDepth := 60)))
local macro_rules | `(tactic| walk_at "rc") => `(tactic| assumption)
local macro_rules | `(tactic| walk_at "rq") => `(tactic| first | decide | omega | exact L2.wide_div (b := 10) (by decide) (by decide) (by decide) (by decide) | (constructor <;> omega))
set_option hygiene false in
local macro_rules | `(tactic| walk_at "rn") => `(tactic| (intro nt nz; generalize hG : L2.upd _ nt _ = nH; obtain ⟨ne, nh⟩ := FWL.al_of nz hG; clear hG))
set_option hygiene false in
local macro_rules | `(tactic| walk_at "rz1") => `(tactic| first
  | ((with_reducible refine FWL.ha_mod (by walk_at "rq") ?_); intro md md0 md1 mdh)
  | (with_reducible first | refine FWL.ha_eqI ?_ | refine FWL.ha_eqS ?_ | refine FWL.ha_neI ?_ | refine FWL.ha_neS ?_ | refine FWL.ha_intD ?_ | refine FW.e_I ?_ (by walk_at "rq"))
  | walk_at "re1"
  | (refine ⟨Nat.le_of_ble_eq_true rfl, ?_⟩; walk_at "rn")
  | ((with_reducible apply FWL.ha_fld); (next => walk_at "rh"); (next => walk_at "rc"); (next => walk_at "rc"); (next => rfl))
  | ((with_reducible apply FWL.ha_mt); (next => walk_at "rh"); (next => rfl))
  | ((with_reducible apply FWL.ha_ixL); (next => walk_at "rh"); (next => rfl))
  | ((with_reducible apply FWL.ha_ixT); (next => walk_at "rh"); (next => rfl))
  | ((with_reducible refine FWL.ha_row (by walk_at "rh") (by assumption) (by omega) (by omega) ?_); intro xr xr0 xr1)
  | (with_reducible refine FWL.ha_pickI (by walk_at "rh") (by with_unfolding_all rfl) (by omega) (by (simp only [List.length_cons, List.length_nil]; omega)) ?_; intro w hw; simp only [FWL.strsOf, FWL.intsOf, List.filterMap_cons, List.filterMap_nil, List.mem_cons, List.not_mem_nil, or_false] at hw)
  | (with_reducible refine FWL.ha_pickS (by walk_at "rh") (by with_unfolding_all rfl) (by omega) (by (simp only [List.length_cons, List.length_nil]; omega)) ?_; intro w hw; simp only [FWL.strsOf, FWL.intsOf, List.filterMap_cons, List.filterMap_nil, List.mem_cons, List.not_mem_nil, or_false] at hw)
  | ((with_reducible refine FWL.ha_pick (by walk_at "rh") (by omega) (by (simp only [List.length_cons, List.length_nil]; omega)) ?_); intro pv hpv; simp only [List.mem_cons, List.not_mem_nil, or_false] at hpv)
  | ((with_reducible refine FWL.ha_cat (by walk_at "rh") (by walk_at "rh") (Nat.le_of_ble_eq_true (by with_unfolding_all rfl)) ?_); intro nt nH nz ne nh; try simp only [List.cons_append, List.nil_append] at nh)
  | ((with_reducible refine FWL.ha_tupL (by walk_at "rh") ?_); intro nt nH nz ne nh)
  | ((with_reducible refine FWL.e_max1 ?_ (by walk_at "rh")); intro mx hmx mx1 mx2)
  | ((with_reducible refine FWL.e_min1 ?_ (by walk_at "rh")); intro mn hmn mn1 mn2)
  | ((with_reducible apply FWL.ha_lenN); (next => walk_at "rh"); (next => (simp only [List.length_cons, List.length_nil, List.length_append, Nat.reduceAdd]; rfl)))
  | (with_reducible refine FWL.ha_len (by walk_at "rh") ?_)
  | (with_reducible refine FWL.ha_gT (by walk_at "rh") (by with_unfolding_all rfl) ?_)
  | (with_reducible refine FWL.ha_gL (by walk_at "rh") (by with_unfolding_all rfl) ?_)
  | (with_reducible refine FWL.ha_tyL (by walk_at "rh") ?_)
  | (intro nt nd nz nzd nne; generalize hG : L2.upd (L2.upd _ nd _) nt _ = nH; obtain ⟨ne, nh⟩ := FWL.mk_of nz nzd nne hG; clear hG nzd nne))
local macro_rules | `(tactic| walk_at "ry") => `(tactic| repeat (walk_at "rz1"))
local macro_rules | `(tactic| walk_at "rx") => `(tactic| repeat (first | walk_at "rz1" | walk_at "rs1"))
namespace FWL
open PySem PySem.Spec PyProof.Rows L2 FW
/-! ### outcomes told: the walk -/
def sp_outcome (K : PySem.W.Frag) : Sp := fun vs H Q _ => ∃ (p : Addr) (l : Lp) (n x r : Int), vs = [.ref p, .int n, .int x] ∧ IsLp K H p l ∧ l.Ok ∧ RootOf l.k n r ∧ 0 ≤ x ∧ n < 2 ^ 1000 ∧ x < 2 ^ 1000 ∧ ∀ k H', Ext H H' → OcS l n none x k → Q (kV k) H'
def rd_outcome (K : PySem.W.Frag) : TS := tSeq (tAsg (tCall (sp_course_of K) [] E0 (tCons (tVar 0) (tCons (tVar 1) (tCons (tVar 2) (tNil))))) (gName 3)) (tRet (tIf (tTest (tOp rEq (tFld K (tVar 3) "end") (tC (.str "told")))) (tFld K (tVar 3) "told") (tFld K (tVar 3) "end")))
theorem told_some {l : Lp} {n x : Int} {res : Res} (h : Crs l n x res) (e : res.fin = "told") : ∃ i, res.told = some i := by
  obtain ⟨i, _, h⟩ := h
  unfold crs at h
  split at h
  · cases h; exact absurd e (show ¬ ("swings" : Str) = "told" by decide)
  · split at h
    · cases h; exact ⟨_, rfl⟩
    · split at h
      · cases h; exact absurd e (show ¬ ("nought" : Str) = "told" by decide)
      · split at h
        · cases h; exact ⟨_, rfl⟩
        · cases h
theorem pure_outcome (K : PySem.W.Frag) (A : AvK K) (B : RnK K) (vs : List V) (H : Hp) (Q : VK) (E : XK) (h : sp_outcome K vs H Q E) : rd_outcome K { nx := fun _ H' => Q .non H', rt := Q } (start ["loop", "n", "start", "run"] vs) H := by
  obtain ⟨p, l, n, x, r, rfl, hL, o, R, x0, hn, hx, q⟩ := h
  have B' := B; cases B'
  unfold rd_outcome
  walk_at "rx"
  refine ⟨p, l, n, x, r, rfl, hL, o, R, x0, hn, hx, fun res y H' hc hy e hr => ?_⟩
  obtain ⟨dx, g, rg, h1, h2, h3⟩ := hr
  have fin := fun z => q (oc res) H' e z
  walk_at "rx"
  have hO := ocS_of_crs hc
  refine e_ite (fun z => ?_) (fun z => ?_)
  · walk_at "rx"
    obtain ⟨i, hi⟩ := told_some hc z
    have e1 : nkV res.told = kV (oc res) := by unfold oc; rw [if_pos z, hi]; rfl
    rw [e1]
    exact fin hO
  · walk_at "rx"
    have e1 : V.str res.fin = kV (oc res) := by unfold oc; rw [if_neg z]; rfl
    rw [e1]
    exact fin hO
def Lp.top (l : Lp) : Int := 1 + max 0 (l.d + l.near * (l.a + l.c)) / (l.c * l.k)
def sp_top_gap (K : PySem.W.Frag) : Sp := fun vs H Q _ => ∃ (p : Addr) (l : Lp), vs = [.ref p] ∧ IsLp K H p l ∧ l.Ok ∧ ∀ H', Ext H H' → Q (.int l.top) H'
def rd_top_gap (K : PySem.W.Frag) : TS := tSeq (tAsg (tOp FW.rAdd (tFld K (tVar 0) "d") (tOp FW.rMul (tMeth (He.ga K "Average") "nearness" (sp_Average_nearness K) [] E0 (tVar 0) tNil) (tOp FW.rAdd (tFld K (tVar 0) "a") (tFld K (tVar 0) "c")))) (gName 1)) (tRet (tOp FW.rAdd (tC (.int 1)) (tOp FW.rDiv (tCB FW.rMax2 (tCons (tC (.int 0)) (tCons (tVar 1) (tNil)))) (tOp FW.rMul (tFld K (tVar 0) "c") (tFld K (tVar 0) "k")))))
theorem pure_top_gap (K : PySem.W.Frag) (A : AvK K) (vs : List V) (H : Hp) (Q : VK) (E : XK) (h : sp_top_gap K vs H Q E) : rd_top_gap K { nx := fun _ H' => Q .non H', rt := Q } (start ["loop", "reach"] vs) H := by
  obtain ⟨p, l, rfl, hL, o, q⟩ := h
  obtain ⟨dx, hp⟩ := id hL
  have A' := A; cases A'
  have nn := near_cases l
  have a1 := o.a1; have a5 := o.a5; have c1 := o.c1; have c3 := o.c3; have ac := o.ac; have d0 := o.d0; have d1 := o.d1; have hk := o.hk
  have ck : 0 < l.c * l.k ∧ l.c * l.k ≤ 12 := by rcases hk with h | h | h <;> rw [h] <;> omega
  unfold rd_top_gap
  walk_at "rx"
  refine ⟨p, l, rfl, hL, fun H1 e1 => ?_⟩
  have fin := q H1 e1
  walk_at "rx"
  · have e : (1 + (if l.d + l.near * (l.a + l.c) > 0 then l.d + l.near * (l.a + l.c) else 0) / (l.c * l.k)) = l.top := by
      unfold Lp.top
      congr 2
      split <;> omega
    rw [e]
    exact fin
  · exact wide_div (b := 10) ck.1 (by show _ < 1024; omega) (by decide) (by decide)
  · exact wide_mul (a := 10) (b := 10) (by show _ < 1024; omega) (by show _ < 1024; omega) (by decide) (by decide) (by decide)
  · exact wide_mul (a := 10) (b := 10) (by show _ < 1024; omega) (by show _ < 1024; omega) (by decide) (by decide) (by decide)
theorem top_bound {l : Lp} (o : l.Ok) : 1 ≤ l.top ∧ l.top ≤ 19 := by
  have nn := near_cases l
  have hc := o.cases
  have d0 := o.d0; have d1 := o.d1
  unfold Lp.top
  revert nn
  generalize l.near = e
  intro nn
  clear o
  obtain ⟨k, a, c, d, st, td, md⟩ := l
  dsimp only at *
  simp only [List.mem_cons, Prod.mk.injEq, List.not_mem_nil, or_false] at hc
  rcases nn with rfl | rfl | rfl <;> rcases hc with ⟨rfl, rfl, rfl⟩ | ⟨rfl, rfl, rfl⟩ | ⟨rfl, rfl, rfl⟩ | ⟨rfl, rfl, rfl⟩ | ⟨rfl, rfl, rfl⟩ | ⟨rfl, rfl, rfl⟩ | ⟨rfl, rfl, rfl⟩ | ⟨rfl, rfl, rfl⟩ | ⟨rfl, rfl, rfl⟩ | ⟨rfl, rfl, rfl⟩ | ⟨rfl, rfl, rfl⟩ | ⟨rfl, rfl, rfl⟩ | ⟨rfl, rfl, rfl⟩ | ⟨rfl, rfl, rfl⟩ | ⟨rfl, rfl, rfl⟩ | ⟨rfl, rfl, rfl⟩ | ⟨rfl, rfl, rfl⟩
  all_goals omega
def sp_fall_gap (K : PySem.W.Frag) : Sp := fun vs H Q _ => ∃ (p : Addr) (l : Lp) (n r : Int), vs = [.ref p, .int n, .int r] ∧ IsLp K H p l ∧ l.Ok ∧ RootOf l.k n r ∧ n < 2 ^ 1000 ∧ r < 2 ^ 1000 ∧ ∀ g H', Ext H H' → 1 ≤ g → g ≤ 19 → l.led n (r + g + 1) < r + g + 1 - l.near → Q (.int g) H'
def rd_fall_gap_L1 (K : PySem.W.Frag) : TS := tAug 3 (tC (.int 1)) FW.iAdd
def rd_fall_gap (K : PySem.W.Frag) : TS := tSeq (tAsg (tCall (sp_top_gap K) [] E0 (tCons (tVar 0) (tNil))) (gName 3)) (tSeq (tWhile (tTest (tOp FW.rGe (tMeth (He.ga K "Average") "led" (sp_Average_led K) [] E0 (tVar 0) (tCons (tVar 1) (tCons (tOp FW.rAdd (tOp FW.rAdd (tVar 2) (tVar 3)) (tC (.int 1))) (tNil)))) (tOp FW.rSub (tOp FW.rAdd (tOp FW.rAdd (tVar 2) (tVar 3)) (tC (.int 1))) (tMeth (He.ga K "Average") "nearness" (sp_Average_nearness K) [] E0 (tVar 0) tNil)))) (rd_fall_gap_L1 K)) (tRet (tVar 3)))
theorem big_abs {x : Int} (h0 : 0 ≤ x) (h : x < 2 ^ 1000 + 5000) : x.natAbs < 2 ^ 2000 := by
  have h1 : x.natAbs < 2 ^ 1000 + 5000 := by omega
  exact Nat.lt_of_lt_of_le h1 (by decide)
theorem pure_fall_gap (K : PySem.W.Frag) (A : AvK K) (vs : List V) (H : Hp) (Q : VK) (E : XK) (h : sp_fall_gap K vs H Q E) : rd_fall_gap K { nx := fun _ H' => Q .non H', rt := Q } (start ["loop", "n", "floor", "gap"] vs) H := by
  obtain ⟨p, l, n, r, rfl, hL, o, R, hn, hr, q⟩ := h
  have n0 : 0 ≤ n := Int.le_trans (Int.pow_nonneg R.r0) R.lo
  have r0 := R.r0
  have tb := top_bound o
  unfold rd_fall_gap
  walk_at "rx"
  refine ⟨p, l, rfl, hL, o, fun H1 e1 => ?_⟩
  walk_at "rx"
  refine s_while (fun m σ H' => ∃ g : Int, m = (19 - g).toNat ∧ 1 ≤ g ∧ g ≤ 19 ∧ Ext H H' ∧ σ = [some (.ref p), some (.int n), some (.int r), some (.int g)]) (19 - l.top).toNat ⟨l.top, rfl, tb.1, tb.2, e1, rfl⟩ ?_
  rintro m σ H' ⟨g, rfl, g1, g2, e, rfl⟩
  have hL' := hL.ext e
  obtain ⟨dx, hp⟩ := id hL'
  walk_at "rx"
  refine ⟨p, l, n, r + g + 1, rfl, hL', o, by omega, n0, big_abs n0 (by omega), big_abs (by omega) (by omega), ?_⟩
  walk_at "rx"
  refine ⟨p, l, rfl, hL', fun H2 e2 => ?_⟩
  walk_at "rx"
  refine e_ite (fun z => ?_) (fun z => ?_)
  · have g3 : g < 19 := by
      rcases Int.lt_or_le g 19 with u | u
      · exact u
      · have := (nearR o R).fall
        have e19 : g = 19 := by omega
        rw [e19] at z
        omega
    refine ⟨fun σ' H'' => H'' = H2 ∧ σ' = [some (.ref p), some (.int n), some (.int r), some (.int (g + 1))], fun σ' H'' hh => ?_, ?_⟩
    · obtain ⟨rfl, rfl⟩ := hh
      exact ⟨(19 - (g + 1)).toNat, by omega, g + 1, rfl, by omega, by omega, e.tr e2, rfl⟩
    · unfold rd_fall_gap_L1
      walk_at "rx"
      exact ⟨rfl, rfl⟩
  · walk_at "rx"
    exact q g _ (e.tr e2) g1 g2 (by omega)
end FWL
namespace FWL
open PySem PySem.Spec PyProof.Rows L2 FW
/-! ### comprehensions whose items are made by calls -/
section
variable {K : PySem.W.Frag} {H : Hp} {σ : L2.St} {Q : VK} {a : Addr} {xs : List V} {n : Nat} {tt : TT} {te : TE} {P : V → V → Prop} {p : V → Bool}
def LcI (D : Addr) (P : V → V → Prop) (zs : List V) (H : Hp) (H' : Hp) : Prop := Ext H H' ∧ ∃ acc, H' D = some (.lst acc) ∧ Paired P zs acc
theorem lcx_step {D : Addr} {i : Nat} {x : V} {H' : Hp} (hD : H D = none) (hl : xs.length ≤ 1000000) (hx : xs[i]? = some x) (hw : ∀ v : V, wipe ((wipe σ [n]).set n (some v)) [n] = wipe σ [n])
    (ht : ∀ x ∈ xs, ∀ (H' : Hp) (R : Bool → Hp → Prop), Ext H H' → (∀ H'', Ext H' H'' → R (p x) H'') → tt ((wipe σ [n]).set n (some x)) H' R)
    (he : ∀ x ∈ xs, p x = true → ∀ (H' : Hp) (R : VK), Ext H H' → (∀ v H'', Ext H' H'' → P x v → R v H'') → te ((wipe σ [n]).set n (some x)) H' R)
    (h : LcI D P ((xs.take i).filter p) H H') :
    gName n x (wipe σ [n]) H' fun σ2 H2 => wipe σ2 [n] = wipe σ [n] ∧ tt σ2 H2 fun b H3 =>
      if b = true then te σ2 H3 fun y H4 => ∃ acc, H4 D = some (.lst acc) ∧ acc.length < sizeLine ∧ LcI D P ((xs.take (i + 1)).filter p) H (upd H4 D (.lst (acc ++ [y]))) else LcI D P ((xs.take (i + 1)).filter p) H H3 := by
  obtain ⟨e, acc, hacc, hp⟩ := h
  have hi := (List.getElem?_eq_some_iff.mp hx).1
  have hm : x ∈ xs := List.mem_of_getElem? hx
  have et : xs.take (i + 1) = xs.take i ++ [x] := by rw [List.take_add_one, hx]; rfl
  refine g_name ⟨hw _, ht x hm _ _ e fun H2 e2 => ?_⟩
  cases hpx : p x with
  | true =>
    rw [if_pos rfl]
    refine he x hm hpx _ _ (e.tr e2) fun v H4 e4 hv => ⟨acc, e4 _ _ (e2 _ _ hacc), ?_, ((e.tr e2).tr e4).upds hD, _, upd_same, ?_⟩
    · have h1 := hp.length
      have h2 := List.length_filter_le p (xs.take i)
      rw [List.length_take] at h2
      show _ < 2 ^ 24
      omega
    · rw [et, List.filter_append, List.filter_cons_of_pos hpx, List.filter_nil]
      exact Paired.snoc hp hv
  | false =>
    rw [if_neg (by decide)]
    refine ⟨e.tr e2, acc, e2 _ _ hacc, ?_⟩
    rw [et, List.filter_append, List.filter_cons_of_neg (by rw [hpx]; decide), List.filter_nil, List.append_nil]
    exact hp
theorem lcLX (h : SqL K H a xs) (hl : xs.length ≤ 1000000) (hw : ∀ v : V, wipe ((wipe σ [n]).set n (some v)) [n] = wipe σ [n])
    (ht : ∀ x ∈ xs, ∀ (H' : Hp) (R : Bool → Hp → Prop), Ext H H' → (∀ H'', Ext H' H'' → R (p x) H'') → tt ((wipe σ [n]).set n (some x)) H' R)
    (he : ∀ x ∈ xs, p x = true → ∀ (H' : Hp) (R : VK), Ext H H' → (∀ v H'', Ext H' H'' → P x v → R v H'') → te ((wipe σ [n]).set n (some x)) H' R)
    (q : ∀ D G ys, H D = none → Ext H G → G D = some (.lst ys) → Paired P (xs.filter p) ys → Q (.ref D) G) : LcK (gName n) tt te [n] σ Q (Itl K a) H := by
  intro D hD
  refine lc_list (K := K) (a := a) (xs := xs) (fun i H' => LcI D P ((xs.take i).filter p) H H') ⟨Ext.new hD, [], upd_same, .nil⟩ (fun i H' _ h' => h'.1.sqL h) ?_ ?_
  · rintro i x H' hx h'
    exact lcx_step hD hl hx hw ht he h'
  · rintro H' ⟨e, acc, hacc, hp⟩
    rw [List.take_of_length_le (Nat.le_refl _)] at hp
    exact q D H' acc hD e hacc hp
theorem lcTX (h : SqT K H a xs) (hl : xs.length ≤ 1000000) (hw : ∀ v : V, wipe ((wipe σ [n]).set n (some v)) [n] = wipe σ [n])
    (ht : ∀ x ∈ xs, ∀ (H' : Hp) (R : Bool → Hp → Prop), Ext H H' → (∀ H'', Ext H' H'' → R (p x) H'') → tt ((wipe σ [n]).set n (some x)) H' R)
    (he : ∀ x ∈ xs, p x = true → ∀ (H' : Hp) (R : VK), Ext H H' → (∀ v H'', Ext H' H'' → P x v → R v H'') → te ((wipe σ [n]).set n (some x)) H' R)
    (q : ∀ D G ys, H D = none → Ext H G → G D = some (.lst ys) → Paired P (xs.filter p) ys → Q (.ref D) G) : LcK (gName n) tt te [n] σ Q (Itt K a) H := by
  intro D hD
  refine lc_tup (K := K) (a := a) (xs := xs) (fun i H' => LcI D P ((xs.take i).filter p) H H') ⟨Ext.new hD, [], upd_same, .nil⟩ (fun i H' _ h' => h'.1.sqT h) ?_ ?_
  · rintro i x H' hx h'
    exact lcx_step hD hl hx hw ht he h'
  · rintro H' ⟨e, acc, hacc, hp⟩
    rw [List.take_of_length_le (Nat.le_refl _)] at hp
    exact q D H' acc hD e hacc hp
end
theorem paired_eq {α : Type} : ∀ {xs ys : List α}, Paired (fun x v => v = x) xs ys → ys = xs
  | _, _, .nil => rfl
  | _, _, .cons h t => by rw [h, paired_eq t]
theorem paired_all {α β : Type} {F : α → β → Prop} : ∀ {xs : List α} {ys : List β}, Paired F xs ys → (∀ y, y ∈ ys → ∃ x, x ∈ xs ∧ F x y) ∧ ∀ x, x ∈ xs → ∃ y, y ∈ ys ∧ F x y
  | _, _, .nil => ⟨(fun _ h => nomatch h), (fun _ h => nomatch h)⟩
  | _, _, .cons (a := a) (b := b) h t => by
    obtain ⟨h1, h2⟩ := paired_all t
    refine ⟨fun y hy => ?_, fun x hx => ?_⟩
    · rcases List.mem_cons.mp hy with rfl | hy
      · exact ⟨_, List.mem_cons_self, h⟩
      · obtain ⟨x, hx, hf⟩ := h1 y hy; exact ⟨x, List.mem_cons_of_mem _ hx, hf⟩
    · rcases List.mem_cons.mp hx with rfl | hx
      · exact ⟨_, List.mem_cons_self, h⟩
      · obtain ⟨y, hy, hf⟩ := h2 x hx; exact ⟨y, List.mem_cons_of_mem _ hy, hf⟩
theorem paired_keys {F : V → L2.Key → Prop} : ∀ {xs ys : List V}, Paired (fun x v => ∃ k, v = kV k ∧ F x k) xs ys → ∃ ks : List L2.Key, ys = ks.map kV ∧ Paired F xs ks
  | _, _, .nil => ⟨[], rfl, Paired.nil⟩
  | _, _, .cons h t => by
    obtain ⟨k, rfl, hk⟩ := h
    obtain ⟨ks, rfl, ht⟩ := paired_keys t
    exact ⟨k :: ks, rfl, Paired.cons hk ht⟩
theorem filter_yes {α : Type} (xs : List α) : xs.filter (fun _ => true) = xs := by rw [List.filter_eq_self]; intro _ _; rfl
theorem yes_ext {σ : L2.St} {H' : Hp} {R : Bool → Hp → Prop} (h : ∀ H'', Ext H' H'' → R true H'') : tYes σ H' R := h _ Ext.rfl'
end FWL
namespace FWL
open PySem PySem.Spec PyProof.Rows L2 FW
/-! ### the highest guess -/
section
variable {σ : L2.St} {H : Hp} {Q : VK}
theorem e_sortSet {K : PySem.W.Frag} {ta : TE} (k : ta σ H fun x H1 => ∃ (l : Addr) (ns L : List Int), x = .ref l ∧ SqL K H1 l (ns.map V.int) ∧ ns.length < 4000 ∧ L.length < 64 ∧ (∀ k, k ∈ ns → k ∈ L) ∧
    ∀ (ms : List Int) (p : Addr), ms.Pairwise (· < ·) → (∀ k, k ∈ ms ↔ k ∈ ns) → H1 p = none → Q (.ref p) (upd H1 p (.lst (ms.map V.int)))) : FW.tSortSet K ta σ H Q := k
theorem e_lstRgB {te : L2.St → Hp → (Int → Int → Hp → Prop) → Prop} (k : te σ H fun a b H1 => (b - a).toNat ≤ 2 ^ 24 ∧ ∀ q, H1 q = none → Q (.ref q) (upd H1 q (.lst (rgV a b)))) : FW.tLstRgB te σ H Q := k
theorem e_rg2 {ta tb : TE} {R : Int → Int → Hp → Prop} (k : ta σ H fun x H1 => tb σ H1 fun y H2 => ∃ i j, x = .int i ∧ y = .int j ∧ R i j H2) : tRg2 ta tb σ H R := k
theorem e_rg2' {R : Int → Int → Prop} {i j : Int} (k : R i j) : ∃ i' j', V.int i = .int i' ∧ V.int j = .int j' ∧ R i' j' := ⟨i, j, rfl, rfl, k⟩
end
def seenK (ks : List Int) : List (L2.Key × V) := ks.map fun k => (.inl k, V.bl true)
theorem seenV (ks : List Int) (x : Int) : (valV (seenK ks) (.inl x)).isSome = decide (x ∈ ks) := by
  rw [← valV_any]
  unfold seenK
  rw [List.any_map]
  apply Bool.eq_iff_iff.mpr
  rw [List.any_eq_true, decide_eq_true_iff]
  constructor
  · rintro ⟨k, hk, e⟩
    have e : (Sum.inl k : L2.Key) = .inl x := of_decide_eq_true e
    cases e
    exact hk
  · intro h
    exact ⟨x, h, decide_eq_true rfl⟩
theorem seen_put {ks : List Int} {x : Int} (h : x ∉ ks) : putK (seenK ks) (.inl x) (V.bl true) = seenK (ks ++ [x]) := by
  have hn : valV (seenK ks) (.inl x) = none := by
    have := seenV ks x
    rw [decide_eq_false h] at this
    exact Option.isSome_eq_false_iff.mp this |> Option.isNone_iff_eq_none.mp
  rw [putK_new _ hn]
  unfold seenK
  rw [List.map_append]
  rfl
theorem seen_keys (ks : List Int) : (seenK ks).map (·.1) = ks.map Sum.inl := by unfold seenK; rw [List.map_map]; rfl
structure HiI (l : Lp) (n r : Int) (zs ks ws : List Int) : Prop where
  nd : ks.Nodup
  win : ∀ x, x ∈ ks ∨ x ∈ ws → 0 ≤ x ∧ Win2 r x
  st : ∀ z, z ∈ zs → z ∈ ks ∨ z ∈ ws
  nx : ∀ x, x ∈ ks → 1 ≤ x → l.led n x ∈ ks ∨ l.led n x ∈ ws
  few : ws.length ≤ zs.length
theorem HiI.old {l : Lp} {n r x : Int} {zs ks us : List Int} (h : HiI l n r zs ks (us ++ [x])) (hx : x ∈ ks) : HiI l n r zs ks us := by
  have m : ∀ z, z ∈ us ++ [x] → z ∈ ks ∨ z ∈ us := fun z hz => by
    rcases List.mem_append.mp hz with hz | hz
    · exact .inr hz
    · rw [List.mem_singleton.mp hz]; exact .inl hx
  refine ⟨h.nd, fun z hz => h.win z (hz.elim .inl fun u => .inr (List.mem_append_left _ u)), fun z hz => (h.st z hz).elim .inl (m z), fun z hz z1 => (h.nx z hz z1).elim .inl (m _), ?_⟩
  have := h.few
  rw [List.length_append, List.length_singleton] at this
  omega
theorem HiI.put {l : Lp} {n r x : Int} {zs ks us vs : List Int} (h : HiI l n r zs ks (us ++ [x])) (hx : x ∉ ks) (hv : ∀ y, y ∈ vs → 0 ≤ y ∧ Win2 r y) (h1 : 1 ≤ x → l.led n x ∈ vs) (hl : vs.length ≤ 1) : HiI l n r zs (ks ++ [x]) (us ++ vs) := by
  have m : ∀ z, z ∈ us ++ [x] → z ∈ ks ++ [x] ∨ z ∈ us ++ vs := fun z hz => by
    rcases List.mem_append.mp hz with hz | hz
    · exact .inr (List.mem_append_left _ hz)
    · exact .inl (List.mem_append_right _ hz)
  refine ⟨?_, fun z hz => ?_, fun z hz => (h.st z hz).elim (fun u => .inl (List.mem_append_left _ u)) (m z), fun z hz z1 => ?_, ?_⟩
  · rw [List.nodup_append]
    refine ⟨h.nd, by simp, fun a ha b hb e => hx ?_⟩
    rw [← List.mem_singleton.mp hb, ← e]; exact ha
  · rcases hz with hz | hz
    · rcases List.mem_append.mp hz with hz | hz
      · exact h.win z (.inl hz)
      · exact h.win z (.inr (List.mem_append_right _ hz))
    · rcases List.mem_append.mp hz with hz | hz
      · exact h.win z (.inr (List.mem_append_left _ hz))
      · exact hv z hz
  · rcases List.mem_append.mp hz with hz | hz
    · exact (h.nx z hz z1).elim (fun u => .inl (List.mem_append_left _ u)) (m _)
    · rw [List.mem_singleton.mp hz] at z1 ⊢
      exact .inr (List.mem_append_right _ (h1 z1))
  · have := h.few
    rw [List.length_append, List.length_singleton] at this
    rw [List.length_append]
    omega
def sp_highest (K : PySem.W.Frag) : Sp := fun vs H Q _ => ∃ (p a : Addr) (l : Lp) (n r : Int) (zs : List Int), vs = [.ref p, .int n, .ref a] ∧ IsLp K H p l ∧ l.Ok ∧ RootOf l.k n r ∧ n < 2 ^ 1000 ∧ r < 2 ^ 1000 ∧ H a = some (.lst (zs.map V.int)) ∧ zs ≠ [] ∧ zs.length < 1000 ∧ (∀ z, z ∈ zs → 1 ≤ z ∧ Win2 r z) ∧
  ∀ h H', Ext H H' → (∀ z, z ∈ zs → z ≤ h ∧ l.led n z ≤ h) → h ≤ r + 2100 → Q (.int h) H'
def rd_highest_L1 (K : PySem.W.Frag) : TS := tSeq (tAsg (tBM0 K "list" rPop (tVar 3)) (gName 5)) (tIfS (tB (tDNotIn (tVar 5) (tVar 4))) (tSeq (sDPut (tVar 4) (tVar 5) (tC (.bl true))) (tIfS (tTest (tOp FW.rGt (tVar 5) (tC (.int 0)))) (tDrop (tBM K "list" rAppend (tVar 3) (tCons (tMeth (He.ga K "Average") "led" (sp_Average_led K) [] E0 (tVar 0) (tCons (tVar 1) (tCons (tVar 5) (tNil)))) (tNil)))) (tNext))) (tNext))
def rd_highest (K : PySem.W.Frag) : TS := tSeq (tPar 3 4 (tCons (tCB (Evl.rListS K) (tCons (tVar 2) (tNil))) (tCons (tDNewK) (tNil)))) (tSeq (tWhile (FW.tTru K (tVar 3)) (rd_highest_L1 K)) (tRet (tCB FW.rMaxDK (tCons (tVar 4) (tNil)))))
def HiW (H : Hp) (p a w d : Addr) (l : Lp) (n r : Int) (zs : List Int) (m : Nat) (σ : L2.St) (H' : Hp) : Prop := ∃ (ks ws : List Int) (u : Option V), m = 2 * (2200 - ks.length) + ws.length ∧ HiI l n r zs ks ws ∧ Ext H H' ∧ H' w = some (.lst (ws.map V.int)) ∧ H' d = some (.dK (seenK ks)) ∧ σ = [some (.ref p), some (.int n), some (.ref a), some (.ref w), some (.ref d), u]
theorem pop_at (us : List Int) (x : Int) : ((us ++ [x]).map V.int)[((us ++ [x]).map V.int).length - 1]? = some (V.int x) := by simp
theorem pop_rest (us : List Int) (x : Int) : ((us ++ [x]).map V.int).dropLast = us.map V.int := by rw [List.map_append]; simp
theorem pure_highest (K : PySem.W.Frag) (A : AvK K) (vs : List V) (H : Hp) (Q : VK) (E : XK) (h : sp_highest K vs H Q E) : rd_highest K { nx := fun _ H' => Q .non H', rt := Q } (start ["loop", "n", "starts", "waiting", "seen", "x"] vs) H := by
  obtain ⟨p, a, l, n, r, zs, rfl, hL, o, R, hn, hr, ha, zne, zl, zw, q⟩ := h
  have n0 : 0 ≤ n := Int.le_trans (Int.pow_nonneg R.r0) R.lo
  have r0 := R.r0
  have sz : sizeLine = 2 ^ 24 := sizeLine_eq
  unfold rd_highest
  walk_at "rd"
  refine e_listS (fun w hw => ?_) (.inl (SqL.of ha))
  walk_at "rd"
  intro d hd
  walk_at "rd"
  have hwd : w ≠ d := by rintro rfl; rw [upd_same] at hd; cases hd
  have hd0 : H d = none := by rw [← hd, upd_ne hwd.symm]
  refine s_while (HiW H p a w d l n r zs) (2 * (2200 - 0) + zs.length) ⟨[], zs, none, rfl, ⟨List.nodup_nil, fun x hx => ?_, fun z hz => .inr hz, (fun x hx => nomatch hx), Nat.le_refl _⟩, (Ext.new hw).tr (Ext.new hd), by rw [upd_ne hwd, upd_same], upd_same, rfl⟩ ?_
  · have := zw x (hx.elim (fun z => nomatch z) id)
    exact ⟨by omega, this.2⟩
  rintro m σ H' ⟨ks, ws, u, rfl, I, e, hw', hd', rfl⟩
  have kl : ks.length ≤ 2108 := win_few I.nd fun x hx => (I.win x (.inl hx)).2
  refine ⟨_, rfl, !(ws.map V.int).isEmpty, .inl ⟨_, SqL.of hw', rfl⟩, ?_⟩
  rcases List.eq_nil_or_concat ws with rfl | ⟨us, x, e0⟩
  · rw [List.map_nil, List.isEmpty_nil]
    walk_at "rd"
    have hz : ∀ z, z ∈ zs → z ∈ ks := fun z hz => (I.st z hz).elim id (fun y => nomatch y)
    refine ⟨d, seenK ks, ks, rfl, .inl hd', seen_keys ks, ?_, fun m hm hmx => ?_⟩
    · cases zs with
      | nil => exact absurd rfl zne
      | cons z zs => exact List.length_pos_of_mem (hz z List.mem_cons_self)
    · refine q m H' e (fun z h => ⟨hmx z (hz z h), ?_⟩) ?_
      · have := I.nx z (hz z h) (zw z h).1
        exact hmx _ (this.elim id (fun y => nomatch y))
      · have := (I.win m (.inl hm)).2.2; omega
  · rw [List.concat_eq_append] at e0
    subst e0
    have hne : (!((us ++ [x]).map V.int).isEmpty) = true := by rw [List.map_append]; simp
    rw [hne]
    have wx := I.win x (.inr (List.mem_append_right _ List.mem_cons_self))
    refine ⟨fun σ' H'' => ∃ m', m' < 2 * (2200 - ks.length) + (us ++ [x]).length ∧ HiW H p a w d l n r zs m' σ' H'', fun _ _ h => h, ?_⟩
    unfold rd_highest_L1
    walk_at "rx"
    refine ⟨w, _, _, rfl, rfl, hw', pop_at us x, ?_⟩
    rw [pop_rest]
    have hwd' : w ≠ d := ne_of hw' hd' (fun z => nomatch z)
    have e1 : Ext H (upd H' w (.lst (us.map V.int))) := e.upds hw
    have hw1 : upd H' w (.lst (us.map V.int)) w = some (.lst (us.map V.int)) := upd_same
    have hd1 : upd H' w (.lst (us.map V.int)) d = some (.dK (seenK ks)) := by rw [upd_ne hwd'.symm]; exact hd'
    generalize upd H' w (.lst (us.map V.int)) = G at e1 hw1 hd1 ⊢
    walk_at "rx"
    refine ⟨_, rfl, _, rfl, d, _, rfl, DGet.k (k := .inl x) hd1, _, rfl, ?_⟩
    rw [seenV]
    by_cases hx : x ∈ ks
    · rw [decide_eq_true hx]
      walk_at "rx"
      exact ⟨_, by rw [List.length_append, List.length_singleton]; exact Nat.lt_succ_self _, ks, us, _, rfl, I.old hx, e1, hw1, hd1, rfl⟩
    · rw [decide_eq_false hx]
      walk_at "rx"
      refine ⟨_, rfl, _, rfl, d, _, rfl, DPut.k (k := .inl x) hd1 (by unfold seenK; rw [List.length_map]; omega), ?_⟩
      rw [seen_put hx]
      have e2 : Ext H (upd G d (.dK (seenK (ks ++ [x])))) := e1.upds hd0
      have hw2 : upd G d (.dK (seenK (ks ++ [x]))) w = some (.lst (us.map V.int)) := by rw [upd_ne hwd']; exact hw1
      have hd2 : upd G d (.dK (seenK (ks ++ [x]))) d = some (.dK (seenK (ks ++ [x]))) := upd_same
      generalize upd G d (.dK (seenK (ks ++ [x]))) = G2 at e2 hw2 hd2 ⊢
      have kx : (ks ++ [x]).length = ks.length + 1 := by rw [List.length_append, List.length_singleton]
      have ux : (us ++ [x]).length = us.length + 1 := by rw [List.length_append, List.length_singleton]
      walk_at "rx"
      refine e_ite (fun z => ?_) (fun z => ?_)
      · walk_at "rx"
        have hL2 := hL.ext e2
        obtain ⟨dx, hp⟩ := id hL2
        walk_at "rx"
        refine ⟨p, l, n, x, rfl, hL2, o, by omega, n0, big_abs n0 (by omega), big_abs (by omega) (by have := wx.2.2; omega), ?_⟩
        walk_at "rx"
        have fw := I.few
        refine ⟨w, _, _, rfl, rfl, hw2, by rw [List.length_map]; omega, ?_⟩
        have wl : 0 ≤ l.led n x ∧ Win2 r (l.led n x) := ⟨led_nonneg o n0 (by omega), led_win2 o R (by omega) wx.2⟩
        refine ⟨2 * (2200 - (ks ++ [x]).length) + (us ++ [l.led n x]).length, ?_, ks ++ [x], us ++ [l.led n x], _, rfl, I.put hx (fun y hy => by rw [List.mem_singleton.mp hy]; exact wl) (fun _ => List.mem_cons_self) (Nat.le_refl _), e2.upds hw, by rw [upd_same, List.map_append]; rfl, by rw [upd_ne hwd'.symm]; exact hd2, rfl⟩
        · rw [kx, ux, List.length_append, List.length_singleton]; omega
      · walk_at "rx"
        refine ⟨2 * (2200 - (ks ++ [x]).length) + (us ++ []).length, ?_, ks ++ [x], us ++ [], _, rfl, I.put hx (fun y hy => nomatch hy) (fun y => absurd y (by omega)) (Nat.zero_le _), e2, by rw [List.append_nil]; exact hw2, hd2, rfl⟩
        rw [kx, ux, List.append_nil]; omega
/-! ### starts -/
def sp_starts_for (K : PySem.W.Frag) : Sp := fun vs H Q _ => ∃ (p : Addr) (l : Lp) (n r : Int), vs = [.ref p, .int n, .int r] ∧ IsLp K H p l ∧ l.Ok ∧ RootOf l.k n r ∧ n < 2 ^ 900 ∧ r < 2 ^ 900 ∧
  ∀ L last h H', Ext H H' → H' L = some (.lst ((rgZ (max 1 r) (h + 2)).map V.int)) → Near l n r last h → h ≤ r + 2100 → Q (.ref L) H'
def rd_starts_for (K : PySem.W.Frag) : TS := tSeq (tPar 3 4 (tCons (tCB FW.rMax2 (tCons (tC (.int 1)) (tCons (tVar 2) (tNil)))) (tCons (tOp FW.rAdd (tVar 2) (tCall (sp_fall_gap K) [] E0 (tCons (tVar 0) (tCons (tVar 1) (tCons (tVar 2) (tNil)))))) (tNil)))) (tRet (FW.tLstRgB (tRg2 (tVar 3) (tOp FW.rAdd (tCall (sp_highest K) [] E0 (tCons (tVar 0) (tCons (tVar 1) (tCons (FW.tLstRgB (tRg2 (tVar 3) (tOp FW.rAdd (tVar 4) (tC (.int 1))))) (tNil))))) (tC (.int 2))))))
theorem p900 {x : Int} (h : x < 2 ^ 900) : x + 5000 < 2 ^ 1000 := by
  have : (2 : Int) ^ 900 + 5000 < 2 ^ 1000 := by decide
  omega
theorem pure_starts_for (K : PySem.W.Frag) (A : AvK K) (vs : List V) (H : Hp) (Q : VK) (E : XK) (h : sp_starts_for K vs H Q E) : rd_starts_for K { nx := fun _ H' => Q .non H', rt := Q } (start ["loop", "n", "floor", "first", "last"] vs) H := by
  obtain ⟨p, l, n, r, rfl, hL, o, R, hn, hr, q⟩ := h
  have n0 : 0 ≤ n := Int.le_trans (Int.pow_nonneg R.r0) R.lo
  have r0 := R.r0
  have n1 := p900 hn
  have r1 := p900 hr
  unfold rd_starts_for
  walk_at "rd"
  have em : (if r > 1 then r else 1) = max 1 r := by split <;> omega
  rw [em]
  refine ⟨p, l, n, r, rfl, hL, o, R, by omega, by omega, fun g H1 e1 g1 g2 gf => ?_⟩
  walk_at "rd"
  refine e_lstRgB (e_rg2 ?_)
  walk_at "rd"
  refine e_lstRgB (e_rg2 ?_)
  walk_at "rd"
  refine e_rg2' ⟨by omega, fun b hb => ?_⟩
  walk_at "rd"
  rw [rgZ_V]
  generalize hG : upd H1 b _ = G
  obtain ⟨e2, hG⟩ := al_of hb hG
  have e3 := e1.tr e2
  refine ⟨p, b, l, n, r, rgZ (max 1 r) (r + g + 1), rfl, hL.ext e3, o, R, by omega, by omega, hG, ?_, ?_, ?_, fun h H' e4 hz hh => ?_⟩
  · intro z
    have : max 1 r ∈ rgZ (max 1 r) (r + g + 1) := mem_rgZ.mpr (by omega)
    rw [z] at this; cases this
  · rw [rgZ_len]; omega
  · intro z hz
    have := mem_rgZ.mp hz
    unfold Win2
    omega
  · walk_at "rd"
    have hz1 : r + g ≤ h := (hz (r + g) (mem_rgZ.mpr (by omega))).1
    refine e_rg2' ⟨by omega, fun L hL => ?_⟩
    rw [rgZ_V]
    generalize hG2 : upd H' L _ = G2
    obtain ⟨e5, hG2⟩ := al_of hL hG2
    refine q L (r + g) h G2 ((e3.tr e4).tr e5) hG2 ⟨by omega, by omega, hz1, fun _ z z1 z2 => .inl (hz z (mem_rgZ.mpr (by omega))).2⟩ hh
end FWL
namespace FWL
open PySem PySem.Spec PyProof.Rows L2 FW
/-! ### the law's own run -/
def sp_l_near (K : PySem.W.Frag) : Sp := fun vs H Q _ => ∃ (t : Addr) (l : Lp), vs = [.ref t] ∧ H t = some (.tup l.V) ∧ ∀ H', Ext H H' → Q (.int l.near) H'
def rd_l_near (K : PySem.W.Frag) : TS := tRet (tDGet2 (tDisp [(tC (.str "near1"), tC (.int 1)), (tC (.str "near2"), tC (.int 2))]) (tOp (rIxT K) (tVar 0) (tC (.int 4))) (tC (.int 0)))
theorem pure_l_near (K : PySem.W.Frag) (vs : List V) (H : Hp) (Q : VK) (E : XK) (h : sp_l_near K vs H Q E) : rd_l_near K { nx := fun _ H' => Q .non H', rt := Q } (start ["_law_parts_here"] vs) H := by
  obtain ⟨t, l, rfl, ht, q⟩ := h
  unfold rd_l_near
  walk_at "rd"
  refine e_get2 fun d hd => ?_
  unfold tPairs tPairs tPairs
  walk_at "rd"
  refine ⟨upd_same, nearsK, rfl, by decide, _, rfl, .inl ⟨_, .inl upd_same⟩, ?_⟩
  rw [upd_upd]
  have ht' : (upd H d (.dK (mergeK [] nearsK))) t = some (.tup l.V) := (Ext.new hd) _ _ ht
  walk_at "rd"
  refine e_ixT ?_ (SqT.of ht') rfl
  walk_at "rd"
  refine ⟨_, .inl ⟨_, .inr l.stop, .inl upd_same, rfl, rfl⟩, ?_⟩
  have e : mergeK [] nearsK = nearsK := rfl
  rw [e, near_val]
  exact q _ (Ext.new hd)
def sp_l_chosen (K : PySem.W.Frag) : Sp := fun vs H Q _ => ∃ (t : Addr) (l : Lp) (x y : Int), vs = [.ref t, .int x, .int y] ∧ H t = some (.tup l.V) ∧ Q (.int (l.chosen x y)) H
def rd_l_chosen (K : PySem.W.Frag) : TS := tSeq (tIfS (tTest (tOp rEq (tOp (rIxT K) (tVar 0) (tC (.int 5))) (tC (.str "old")))) (tRet (tVar 1)) (tNext)) (tSeq (tIfS (tTest (tOp rEq (tOp (rIxT K) (tVar 0) (tC (.int 5))) (tC (.str "new")))) (tRet (tVar 2)) (tNext)) (tRet (tIf (tTest (tOp rEq (tOp (rIxT K) (tVar 0) (tC (.int 5))) (tC (.str "less")))) (tCB FW.rMin2 (tCons (tVar 1) (tCons (tVar 2) (tNil)))) (tCB FW.rMax2 (tCons (tVar 1) (tCons (tVar 2) (tNil)))))))
theorem min_if (x y : Int) : (if y < x then y else x) = min x y := by split <;> omega
theorem max_if (x y : Int) : (if x < y then y else x) = max x y := by split <;> omega
theorem pure_l_chosen (K : PySem.W.Frag) (vs : List V) (H : Hp) (Q : VK) (E : XK) (h : sp_l_chosen K vs H Q E) : rd_l_chosen K { nx := fun _ H' => Q .non H', rt := Q } (start ["_law_parts_here", "_law_x", "_law_y"] vs) H := by
  obtain ⟨t, l, x, y, rfl, ht, q⟩ := h
  unfold Lp.chosen at q
  unfold rd_l_chosen
  walk_at "rd"
  refine e_ixT ?_ (SqT.of ht) rfl
  walk_at "rd"
  rw [decS]
  refine e_ite (fun h1 => ?_) (fun h1 => ?_)
  · rw [if_pos h1] at q
    walk_at "rd"
    exact q
  rw [if_neg h1] at q
  walk_at "rd"
  refine e_ixT ?_ (SqT.of ht) rfl
  walk_at "rd"
  rw [decS]
  refine e_ite (fun h2 => ?_) (fun h2 => ?_)
  · rw [if_pos h2] at q
    walk_at "rd"
    exact q
  rw [if_neg h2] at q
  walk_at "rd"
  refine e_ixT ?_ (SqT.of ht) rfl
  walk_at "rd"
  rw [decS]
  refine e_ite (fun h3 => ?_) (fun h3 => ?_)
  · rw [if_pos h3] at q
    walk_at "rd"
    rw [min_if]; exact q
  · rw [if_neg h3] at q
    walk_at "rd"
    rw [max_if]; exact q
def sp_l_mended (K : PySem.W.Frag) : Sp := fun vs H Q _ => ∃ (t : Addr) (l : Lp) (n x : Int), vs = [.ref t, .int n, .int x] ∧ H t = some (.tup l.V) ∧ l.Ok ∧ 0 ≤ x ∧ Sz 2000 x ∧ ∀ H', Ext H H' → Q (.int (l.mended n x)) H'
def rd_l_mended (K : PySem.W.Frag) : TS := tSeq (tIfS (tAnd (tTest (tOp (rIn K false) (tOp (rIxT K) (tVar 0) (tC (.int 6))) (tTup (tCons (tC (.str "down")) (tCons (tC (.str "both")) (tNil)))))) (tTest (tOp FW.rGt (tCall (sp_l_power K) [] E0 (tCons (tVar 2) (tCons (tOp (rIxT K) (tVar 0) (tC (.int 0))) (tNil)))) (tVar 1)))) (tRet (tOp FW.rSub (tVar 2) (tC (.int 1)))) (tNext)) (tSeq (tIfS (tAnd (tTest (tOp (rIn K false) (tOp (rIxT K) (tVar 0) (tC (.int 6))) (tTup (tCons (tC (.str "up")) (tCons (tC (.str "both")) (tNil)))))) (tTest (tOp FW.rLe (tCall (sp_l_power K) [] E0 (tCons (tOp FW.rAdd (tVar 2) (tC (.int 1))) (tCons (tOp (rIxT K) (tVar 0) (tC (.int 0))) (tNil)))) (tVar 1)))) (tRet (tOp FW.rAdd (tVar 2) (tC (.int 1)))) (tNext)) (tRet (tVar 2)))
theorem pure_l_mended (K : PySem.W.Frag) (vs : List V) (H : Hp) (Q : VK) (E : XK) (h : sp_l_mended K vs H Q E) : rd_l_mended K { nx := fun _ H' => Q .non H', rt := Q } (start ["_law_parts_here", "_law_n", "_law_t"] vs) H := by
  obtain ⟨t, l, n, x, rfl, ht, o, x0, xs, q⟩ := h
  unfold Lp.mended at q
  unfold rd_l_mended
  have second : ¬ ((l.mend = "down" ∨ l.mend = "both") ∧ n < x ^ l.k.toNat) → ∀ H1, Ext H H1 → (tSeq (tIfS (tAnd (tTest (tOp (rIn K false) (tOp (rIxT K) (tVar 0) (tC (.int 6))) (tTup (tCons (tC (.str "up")) (tCons (tC (.str "both")) (tNil)))))) (tTest (tOp FW.rLe (tCall (sp_l_power K) [] E0 (tCons (tOp FW.rAdd (tVar 2) (tC (.int 1))) (tCons (tOp (rIxT K) (tVar 0) (tC (.int 0))) (tNil)))) (tVar 1)))) (tRet (tOp FW.rAdd (tVar 2) (tC (.int 1)))) (tNext)) (tRet (tVar 2))) { nx := fun _ H' => Q .non H', rt := Q } (start ["_law_parts_here", "_law_n", "_law_t"] [.ref t, .int n, .int x]) H1 := by
    intro hno H1 e1
    simp only [if_neg hno] at q
    have ht1 := e1 _ _ ht
    walk_at "rd"
    refine e_ixT ?_ (SqT.of ht1) rfl
    walk_at "rd"
    refine ⟨by show 2 ≤ sizeLine; decide, fun t2 ht2 => ?_⟩
    have e2 : Ext H1 (upd H1 t2 (.tup [V.str "up", V.str "both"])) := Ext.new ht2
    refine e_in ?_ (.inr (SqT.of upd_same)) rfl rfl
    generalize upd H1 t2 (.tup [V.str "up", V.str "both"]) = H2 at *
    have hp2 := e2 _ _ ht1
    rw [if_neg (by decide), inV2]
    walk_at "rd"
    refine e_ite (fun h1 => ?_) (fun h1 => ?_)
    · walk_at "rd"
      refine e_ixT ?_ (SqT.of hp2) rfl
      walk_at "rd"
      refine pw_ok o (Sz.mono (xs.inc x0) (by decide)) ?_
      walk_at "rd"
      refine e_ite (fun h2 => ?_) (fun h2 => ?_)
      · simp only [if_pos (And.intro h1 h2)] at q
        walk_at "rd"
        exact q H2 (e1.tr e2)
      · simp only [if_neg (fun z : (l.mend = "up" ∨ l.mend = "both") ∧ (x + 1) ^ l.k.toNat ≤ n => h2 z.2)] at q
        walk_at "rd"
        exact q H2 (e1.tr e2)
    · simp only [if_neg (fun z : (l.mend = "up" ∨ l.mend = "both") ∧ (x + 1) ^ l.k.toNat ≤ n => h1 z.1)] at q
      walk_at "rd"
      exact q H2 (e1.tr e2)
  with_reducible refine s_seq ?_
  walk_at "rd"
  refine e_ixT ?_ (SqT.of ht) rfl
  walk_at "rd"
  refine ⟨by show 2 ≤ sizeLine; decide, fun t2 ht2 => ?_⟩
  have e2 : Ext H (upd H t2 (.tup [V.str "down", V.str "both"])) := Ext.new ht2
  refine e_in ?_ (.inr (SqT.of upd_same)) rfl rfl
  generalize upd H t2 (.tup [V.str "down", V.str "both"]) = H2 at *
  have hp2 := e2 _ _ ht
  rw [if_neg (by decide), inV2]
  walk_at "re"
  refine e_ite (fun h1 => ?_) (fun h1 => ?_)
  · walk_at "re"
    refine e_ixT ?_ (SqT.of hp2) rfl
    walk_at "re"
    refine pw_ok o (xs.mono (by decide)) ?_
    walk_at "re"
    refine e_ite (fun h2 => ?_) (fun h2 => ?_)
    · simp only [if_pos (And.intro h1 h2)] at q
      walk_at "rd"
      exact q H2 e2
    · with_reducible refine s_next ?_
      exact second (fun z => h2 z.2) H2 e2
  · walk_at "re"
    with_reducible refine s_next ?_
    exact second (fun z => h1 z.1) H2 e2
theorem Lp.Ok.stops {l : Lp} (o : l.Ok) : l.stop = "notless" ∨ l.stop = "equal" ∨ l.stop = "near1" ∨ l.stop = "near2" ∨ l.stop = "back" ∨ l.stop = "under" ∨ l.stop = "held" := by
  have h := o.hs
  simp only [stopsV, List.mem_cons, V.str.injEq, List.not_mem_nil, or_false] at h
  exact h
theorem ne_notless_equal : ((Str.ofString "notless" : Str) = Str.ofString "equal") = False := eq_false (by decide)
theorem ne_notless_near1 : ((Str.ofString "notless" : Str) = Str.ofString "near1") = False := eq_false (by decide)
theorem ne_notless_near2 : ((Str.ofString "notless" : Str) = Str.ofString "near2") = False := eq_false (by decide)
theorem ne_notless_back : ((Str.ofString "notless" : Str) = Str.ofString "back") = False := eq_false (by decide)
theorem ne_notless_under : ((Str.ofString "notless" : Str) = Str.ofString "under") = False := eq_false (by decide)
theorem ne_notless_held : ((Str.ofString "notless" : Str) = Str.ofString "held") = False := eq_false (by decide)
theorem ne_equal_notless : ((Str.ofString "equal" : Str) = Str.ofString "notless") = False := eq_false (by decide)
theorem ne_equal_near1 : ((Str.ofString "equal" : Str) = Str.ofString "near1") = False := eq_false (by decide)
theorem ne_equal_near2 : ((Str.ofString "equal" : Str) = Str.ofString "near2") = False := eq_false (by decide)
theorem ne_equal_back : ((Str.ofString "equal" : Str) = Str.ofString "back") = False := eq_false (by decide)
theorem ne_equal_under : ((Str.ofString "equal" : Str) = Str.ofString "under") = False := eq_false (by decide)
theorem ne_equal_held : ((Str.ofString "equal" : Str) = Str.ofString "held") = False := eq_false (by decide)
theorem ne_near1_notless : ((Str.ofString "near1" : Str) = Str.ofString "notless") = False := eq_false (by decide)
theorem ne_near1_equal : ((Str.ofString "near1" : Str) = Str.ofString "equal") = False := eq_false (by decide)
theorem ne_near1_near2 : ((Str.ofString "near1" : Str) = Str.ofString "near2") = False := eq_false (by decide)
theorem ne_near1_back : ((Str.ofString "near1" : Str) = Str.ofString "back") = False := eq_false (by decide)
theorem ne_near1_under : ((Str.ofString "near1" : Str) = Str.ofString "under") = False := eq_false (by decide)
theorem ne_near1_held : ((Str.ofString "near1" : Str) = Str.ofString "held") = False := eq_false (by decide)
theorem ne_near2_notless : ((Str.ofString "near2" : Str) = Str.ofString "notless") = False := eq_false (by decide)
theorem ne_near2_equal : ((Str.ofString "near2" : Str) = Str.ofString "equal") = False := eq_false (by decide)
theorem ne_near2_near1 : ((Str.ofString "near2" : Str) = Str.ofString "near1") = False := eq_false (by decide)
theorem ne_near2_back : ((Str.ofString "near2" : Str) = Str.ofString "back") = False := eq_false (by decide)
theorem ne_near2_under : ((Str.ofString "near2" : Str) = Str.ofString "under") = False := eq_false (by decide)
theorem ne_near2_held : ((Str.ofString "near2" : Str) = Str.ofString "held") = False := eq_false (by decide)
theorem ne_back_notless : ((Str.ofString "back" : Str) = Str.ofString "notless") = False := eq_false (by decide)
theorem ne_back_equal : ((Str.ofString "back" : Str) = Str.ofString "equal") = False := eq_false (by decide)
theorem ne_back_near1 : ((Str.ofString "back" : Str) = Str.ofString "near1") = False := eq_false (by decide)
theorem ne_back_near2 : ((Str.ofString "back" : Str) = Str.ofString "near2") = False := eq_false (by decide)
theorem ne_back_under : ((Str.ofString "back" : Str) = Str.ofString "under") = False := eq_false (by decide)
theorem ne_back_held : ((Str.ofString "back" : Str) = Str.ofString "held") = False := eq_false (by decide)
theorem ne_under_notless : ((Str.ofString "under" : Str) = Str.ofString "notless") = False := eq_false (by decide)
theorem ne_under_equal : ((Str.ofString "under" : Str) = Str.ofString "equal") = False := eq_false (by decide)
theorem ne_under_near1 : ((Str.ofString "under" : Str) = Str.ofString "near1") = False := eq_false (by decide)
theorem ne_under_near2 : ((Str.ofString "under" : Str) = Str.ofString "near2") = False := eq_false (by decide)
theorem ne_under_back : ((Str.ofString "under" : Str) = Str.ofString "back") = False := eq_false (by decide)
theorem ne_under_held : ((Str.ofString "under" : Str) = Str.ofString "held") = False := eq_false (by decide)
theorem ne_held_notless : ((Str.ofString "held" : Str) = Str.ofString "notless") = False := eq_false (by decide)
theorem ne_held_equal : ((Str.ofString "held" : Str) = Str.ofString "equal") = False := eq_false (by decide)
theorem ne_held_near1 : ((Str.ofString "held" : Str) = Str.ofString "near1") = False := eq_false (by decide)
theorem ne_held_near2 : ((Str.ofString "held" : Str) = Str.ofString "near2") = False := eq_false (by decide)
theorem ne_held_back : ((Str.ofString "held" : Str) = Str.ofString "back") = False := eq_false (by decide)
theorem ne_held_under : ((Str.ofString "held" : Str) = Str.ofString "under") = False := eq_false (by decide)
theorem absI_swap (x y : Int) : absI (y - x) = absI (x - y) := by
  unfold absI; split <;> split <;> omega
theorem ends_or {l : Lp} (o : l.Ok) (x y : Int) (b : Option Int) (h1 : ¬ l.stop = "notless") (h2 : ¬ (l.stop = "under" ∨ l.stop = "held")) : (decide (absI (y - x) ≤ l.near) || (decide (l.stop = "back") && decide (some y = b))) = l.ends x y b := by
  have hs := o.stops
  unfold Lp.ends Lp.near
  rw [if_neg h1, absI_swap]
  have ez : decide (absI (x - y) ≤ 0) = decide (y = x) := decide_eq_decide.mpr (by unfold absI; split <;> omega)
  rcases hs with h | h | h | h | h | h | h
  · exact absurd h h1
  · rw [h]; simp [ez, ne_notless_equal, ne_notless_near1, ne_notless_near2, ne_notless_back, ne_notless_under, ne_notless_held, ne_equal_notless, ne_equal_near1, ne_equal_near2, ne_equal_back, ne_equal_under, ne_equal_held, ne_near1_notless, ne_near1_equal, ne_near1_near2, ne_near1_back, ne_near1_under, ne_near1_held, ne_near2_notless, ne_near2_equal, ne_near2_near1, ne_near2_back, ne_near2_under, ne_near2_held, ne_back_notless, ne_back_equal, ne_back_near1, ne_back_near2, ne_back_under, ne_back_held, ne_under_notless, ne_under_equal, ne_under_near1, ne_under_near2, ne_under_back, ne_under_held, ne_held_notless, ne_held_equal, ne_held_near1, ne_held_near2, ne_held_back, ne_held_under]
  · rw [h]; simp [ne_notless_equal, ne_notless_near1, ne_notless_near2, ne_notless_back, ne_notless_under, ne_notless_held, ne_equal_notless, ne_equal_near1, ne_equal_near2, ne_equal_back, ne_equal_under, ne_equal_held, ne_near1_notless, ne_near1_equal, ne_near1_near2, ne_near1_back, ne_near1_under, ne_near1_held, ne_near2_notless, ne_near2_equal, ne_near2_near1, ne_near2_back, ne_near2_under, ne_near2_held, ne_back_notless, ne_back_equal, ne_back_near1, ne_back_near2, ne_back_under, ne_back_held, ne_under_notless, ne_under_equal, ne_under_near1, ne_under_near2, ne_under_back, ne_under_held, ne_held_notless, ne_held_equal, ne_held_near1, ne_held_near2, ne_held_back, ne_held_under]
  · rw [h]; simp [ne_notless_equal, ne_notless_near1, ne_notless_near2, ne_notless_back, ne_notless_under, ne_notless_held, ne_equal_notless, ne_equal_near1, ne_equal_near2, ne_equal_back, ne_equal_under, ne_equal_held, ne_near1_notless, ne_near1_equal, ne_near1_near2, ne_near1_back, ne_near1_under, ne_near1_held, ne_near2_notless, ne_near2_equal, ne_near2_near1, ne_near2_back, ne_near2_under, ne_near2_held, ne_back_notless, ne_back_equal, ne_back_near1, ne_back_near2, ne_back_under, ne_back_held, ne_under_notless, ne_under_equal, ne_under_near1, ne_under_near2, ne_under_back, ne_under_held, ne_held_notless, ne_held_equal, ne_held_near1, ne_held_near2, ne_held_back, ne_held_under]
  · rw [h]; simp [ez, ne_notless_equal, ne_notless_near1, ne_notless_near2, ne_notless_back, ne_notless_under, ne_notless_held, ne_equal_notless, ne_equal_near1, ne_equal_near2, ne_equal_back, ne_equal_under, ne_equal_held, ne_near1_notless, ne_near1_equal, ne_near1_near2, ne_near1_back, ne_near1_under, ne_near1_held, ne_near2_notless, ne_near2_equal, ne_near2_near1, ne_near2_back, ne_near2_under, ne_near2_held, ne_back_notless, ne_back_equal, ne_back_near1, ne_back_near2, ne_back_under, ne_back_held, ne_under_notless, ne_under_equal, ne_under_near1, ne_under_near2, ne_under_back, ne_under_held, ne_held_notless, ne_held_equal, ne_held_near1, ne_held_near2, ne_held_back, ne_held_under]
  · exact absurd (.inl h) h2
  · exact absurd (.inr h) h2
theorem ends_no {l : Lp} (x y : Int) (b : Option Int) (h2 : l.stop = "under" ∨ l.stop = "held") : l.ends x y b = false := by
  unfold Lp.ends
  rcases h2 with h | h <;> rw [h] <;> simp [ne_notless_equal, ne_notless_near1, ne_notless_near2, ne_notless_back, ne_notless_under, ne_notless_held, ne_equal_notless, ne_equal_near1, ne_equal_near2, ne_equal_back, ne_equal_under, ne_equal_held, ne_near1_notless, ne_near1_equal, ne_near1_near2, ne_near1_back, ne_near1_under, ne_near1_held, ne_near2_notless, ne_near2_equal, ne_near2_near1, ne_near2_back, ne_near2_under, ne_near2_held, ne_back_notless, ne_back_equal, ne_back_near1, ne_back_near2, ne_back_under, ne_back_held, ne_under_notless, ne_under_equal, ne_under_near1, ne_under_near2, ne_under_back, ne_under_held, ne_held_notless, ne_held_equal, ne_held_near1, ne_held_near2, ne_held_back, ne_held_under]
def sp_l_stops (K : PySem.W.Frag) : Sp := fun vs H Q _ => ∃ (t : Addr) (l : Lp) (n x y : Int) (b : Option Int), vs = [.ref t, .int n, .int x, .int y, nkV b] ∧ H t = some (.tup l.V) ∧ l.Ok ∧ ∀ H', Ext H H' → Q (.bl (l.ends x y b)) H'
def rd_l_stops (K : PySem.W.Frag) : TS := tSeq (tIfS (tTest (tOp rEq (tOp (rIxT K) (tVar 0) (tC (.int 4))) (tC (.str "notless")))) (tRet (tOp FW.rGe (tVar 3) (tVar 2))) (tNext)) (tSeq (tIfS (tTest (tOp (rIn K false) (tOp (rIxT K) (tVar 0) (tC (.int 4))) (tTup (tCons (tC (.str "under")) (tCons (tC (.str "held")) (tNil)))))) (tRet (tC (.bl false))) (tNext)) (tRet (tOrV (tOp FW.rLe (tCB FW.rAbs (tCons (tOp FW.rSub (tVar 3) (tVar 2)) (tNil))) (tCall (sp_l_near K) [] E0 (tCons (tVar 0) (tNil)))) (tAndV (tOp rEq (tOp (rIxT K) (tVar 0) (tC (.int 4))) (tC (.str "back"))) (tOp rEq (tVar 3) (tVar 4))))))
theorem pure_l_stops (K : PySem.W.Frag) (vs : List V) (H : Hp) (Q : VK) (E : XK) (h : sp_l_stops K vs H Q E) : rd_l_stops K { nx := fun _ H' => Q .non H', rt := Q } (start ["_law_parts_here", "_law_n", "_law_x", "_law_y", "_law_before"] vs) H := by
  obtain ⟨t, l, n, x, y, b, rfl, ht, o, q⟩ := h
  unfold rd_l_stops
  walk_at "rd"
  refine e_ixT ?_ (SqT.of ht) rfl
  walk_at "rd"
  rw [decS]
  refine e_ite (fun h1 => ?_) (fun h1 => ?_)
  · walk_at "rd"
    have := q H Ext.rfl'
    unfold Lp.ends at this
    rw [if_pos h1] at this
    exact this
  walk_at "rd"
  refine e_ixT ?_ (SqT.of ht) rfl
  walk_at "rd"
  refine ⟨by show 2 ≤ sizeLine; decide, fun t2 ht2 => ?_⟩
  have e2 : Ext H (upd H t2 (.tup [V.str "under", V.str "held"])) := Ext.new ht2
  refine e_in ?_ (.inr (SqT.of upd_same)) rfl rfl
  generalize upd H t2 (.tup [V.str "under", V.str "held"]) = H2 at *
  have hp2 := e2 _ _ ht
  rw [if_neg (by decide), inV2]
  walk_at "rd"
  refine e_ite (fun h2 => ?_) (fun h2 => ?_)
  · walk_at "rd"
    have := q H2 e2
    rw [ends_no x y b h2] at this
    exact this
  · walk_at "rd"
    refine ⟨t, l, rfl, hp2, fun H3 e3 => ?_⟩
    walk_at "rd"
    have hq := q H3 (e2.tr e3)
    rw [← ends_or o x y b h1 h2] at hq
    have hp3 := e3 _ _ hp2
    refine e_ite (fun h3 => ?_) (fun h3 => ?_)
    · rw [decide_eq_true (show absI (y - x) ≤ l.near from h3)] at hq
      exact hq
    · rw [decide_eq_false (show ¬ absI (y - x) ≤ l.near from h3)] at hq
      walk_at "rd"
      refine e_ixT ?_ (SqT.of hp3) rfl
      walk_at "rd"
      rw [decS]
      by_cases h5 : l.stop = "back"
      · rw [decide_eq_true h5] at hq ⊢
        walk_at "rd"
        refine e_eqN ?_
        exact hq
      · rw [decide_eq_false h5] at hq ⊢
        walk_at "rd"
        exact hq
def sp_l_course (K : PySem.W.Frag) : Sp := fun vs H Q _ => ∃ (t : Addr) (l : Lp) (n x r : Int), vs = [.ref t, .int n, .int x] ∧ H t = some (.tup l.V) ∧ l.Ok ∧ RootOf l.k n r ∧ 0 ≤ x ∧ n < 2 ^ 1000 ∧ x < 2 ^ 1000 ∧
  ∀ res c g q H', Crs l n x res → H c = none → Ext H H' → H' c = some (.tup [.ref g, .str res.fin, nkV res.told, .ref q]) → H' g = some (.lst (res.gs.map V.int)) → H' q = some (.lst (res.ring.map V.int)) → Q (.ref c) H'
def rd_l_course_L1 (K : PySem.W.Frag) : TS := tSeq (FW.sNPut (tVar 4) (tTup (tCons (tIf (tTest (tOp rEq (tOp (rIxT K) (tVar 0) (tC (.int 4))) (tC (.str "back")))) (tVar 5) (tC .non)) (tCons (tVar 6) (tNil)))) (tCB (Evl.rLenS K) (tCons (tVar 3) (tNil)))) (tSeq (tDrop (tBM K "list" rAppend (tVar 3) (tCons (tVar 6) (tNil)))) (tSeq (tAsg (tAndV (tOp (rIn K false) (tOp (rIxT K) (tVar 0) (tC (.int 4))) (tTup (tCons (tC (.str "under")) (tCons (tC (.str "held")) (tNil))))) (tOp FW.rLe (tCall (sp_l_power K) [] E0 (tCons (tVar 6) (tCons (tOp (rIxT K) (tVar 0) (tC (.int 0))) (tNil)))) (tVar 1))) (gName 7)) (tSeq (tIfS (tAnd (tB (tVar 7)) (tOr (tTest (tOp rEq (tOp (rIxT K) (tVar 0) (tC (.int 4))) (tC (.str "under")))) (tTest (tOp FW.rLt (tVar 1) (tCall (sp_l_power K) [] E0 (tCons (tOp FW.rAdd (tVar 6) (tC (.int 1))) (tCons (tOp (rIxT K) (tVar 0) (tC (.int 0))) (tNil)))))))) (tRet (tTup (tCons (tVar 3) (tCons (tC (.str "told")) (tCons (tCall (sp_l_mended K) [] E0 (tCons (tVar 0) (tCons (tVar 1) (tCons (tVar 6) (tNil))))) (tCons (tLst (tNil)) (tNil))))))) (tNext)) (tSeq (tIfS (tTest (tOp rEq (tVar 6) (tC (.int 0)))) (tRet (tTup (tCons (tVar 3) (tCons (tC (.str "nought")) (tCons (tC .non) (tCons (tLst (tNil)) (tNil))))))) (tNext)) (tSeq (tAsg (tCall (sp_l_led K) [] E0 (tCons (tVar 0) (tCons (tVar 1) (tCons (tVar 6) (tNil))))) (gName 8)) (tSeq (tIfS (tB (tCall (sp_l_stops K) [] E0 (tCons (tVar 0) (tCons (tVar 1) (tCons (tVar 6) (tCons (tVar 8) (tCons (tVar 5) (tNil)))))))) (tSeq (tAsg (tCall (sp_l_chosen K) [] E0 (tCons (tVar 0) (tCons (tVar 6) (tCons (tVar 8) (tNil))))) (gName 9)) (tRet (tTup (tCons (tVar 3) (tCons (tC (.str "told")) (tCons (tCall (sp_l_mended K) [] E0 (tCons (tVar 0) (tCons (tVar 1) (tCons (tVar 9) (tNil))))) (tCons (tLst (tNil)) (tNil)))))))) (tNext)) (tPar 5 6 (tCons (tVar 6) (tCons (tVar 8) (tNil))))))))))
def rd_l_course (K : PySem.W.Frag) : TS := tSeq (tAsg (tTup (tCons (tLst (tNil)) (tCons (FW.tNNew) (tCons (tC .non) (tCons (tVar 2) (tNil)))))) (gTup K 4 (gCons (gName 3) (gCons (gName 4) (gCons (gName 5) (gCons (gName 6) (gNil))))))) (tSeq (tWhile (tB (FW.tNNotIn (tTup (tCons (tIf (tTest (tOp rEq (tOp (rIxT K) (tVar 0) (tC (.int 4))) (tC (.str "back")))) (tVar 5) (tC .non)) (tCons (tVar 6) (tNil)))) (tVar 4))) (rd_l_course_L1 K)) (tSeq (tAsg (FW.tNGet (tVar 4) (tTup (tCons (tIf (tTest (tOp rEq (tOp (rIxT K) (tVar 0) (tC (.int 4))) (tC (.str "back")))) (tVar 5) (tC .non)) (tCons (tVar 6) (tNil))))) (gName 10)) (tRet (tTup (tCons (tVar 3) (tCons (tC (.str "swings")) (tCons (tC .non) (tCons (tSl (rSlL K) (tVar 3) (tPart (tVar 10)) (tNoPart)) (tNil)))))))))
theorem place_l {K : PySem.W.Frag} {σ : L2.St} {H : Hp} {Q : VK} {t : Addr} {l : Lp} {n x : Int} {i : Nat} (h0 : σ[0]? = some (some (.ref t))) (h5 : σ[5]? = some (some (nkV (prv l n x i)))) (h6 : σ[6]? = some (some (.int (itr l n x i))))
    (ht : H t = some (.tup l.V)) (k : ∀ c, H c = none → Q (.ref c) (upd H c (.tup ((keyA l n x i).map nkV)))) : (tTup (tCons (tIf (tTest (tOp rEq (tOp (rIxT K) (tVar 0) (tC (.int 4))) (tC (.str "back")))) (tVar 5) (tC .non)) (tCons (tVar 6) (tNil)))) σ H Q := by
  refine e_tup (e_cons (e_ifx (e_test (e_op (e_op (e_var (e_c (e_ixT ?_ (SqT.of ht) rfl)) h0))))))
  refine e_c (e_eq ?_ rfl)
  rw [decS]
  refine e_bl ?_
  refine e_ite (fun h => ?_) (fun h => ?_)
  · refine e_var (e_cons (e_var (e_nil ⟨by show 2 ≤ sizeLine; decide, ?_⟩) h6)) h5
    have e : (keyA l n x i).map nkV = [nkV (prv l n x i), .int (itr l n x i)] := by unfold keyA; rw [if_pos h]; rfl
    rw [← e]
    exact k
  · refine e_c (e_cons (e_var (e_nil ⟨by show 2 ≤ sizeLine; decide, ?_⟩) h6))
    have e : (keyA l n x i).map nkV = [.non, .int (itr l n x i)] := by unfold keyA; rw [if_neg h]; rfl
    rw [← e]
    exact k
/-- the look of a round, as the law has it -/
theorem looks_law (l : Lp) (n x : Int) : ((decide (l.stop = "under" ∨ l.stop = "held") && decide (x ^ l.k.toNat ≤ n)) && (decide (l.stop = "under") || decide (n < (x + 1) ^ l.k.toNat))) = l.looks n x := by
  unfold Lp.looks
  by_cases h1 : l.stop = "under"
  · rw [if_pos h1, decide_eq_true (Or.inl h1), decide_eq_true h1]; simp
  · rw [if_neg h1, decide_eq_false h1]
    by_cases h2 : l.stop = "held"
    · rw [decide_eq_true (Or.inr h2), decide_eq_true h2]; simp
    · rw [decide_eq_false (fun z => z.elim h1 h2), decide_eq_false h2]; simp
def cRet (K : PySem.W.Frag) (j : Nat) : TS := tRet (tTup (tCons (tVar 3) (tCons (tC (.str "told")) (tCons (tCall (sp_l_mended K) [] E0 (tCons (tVar 0) (tCons (tVar 1) (tCons (tVar j) (tNil))))) (tCons (tLst (tNil)) (tNil))))))
def cRest (K : PySem.W.Frag) : TS := tSeq (tIfS (tTest (tOp rEq (tVar 6) (tC (.int 0)))) (tRet (tTup (tCons (tVar 3) (tCons (tC (.str "nought")) (tCons (tC .non) (tCons (tLst (tNil)) (tNil))))))) (tNext)) (tSeq (tAsg (tCall (sp_l_led K) [] E0 (tCons (tVar 0) (tCons (tVar 1) (tCons (tVar 6) (tNil))))) (gName 8)) (tSeq (tIfS (tB (tCall (sp_l_stops K) [] E0 (tCons (tVar 0) (tCons (tVar 1) (tCons (tVar 6) (tCons (tVar 8) (tCons (tVar 5) (tNil)))))))) (tSeq (tAsg (tCall (sp_l_chosen K) [] E0 (tCons (tVar 0) (tCons (tVar 6) (tCons (tVar 8) (tNil))))) (gName 9)) (cRet K 9)) (tNext)) (tPar 5 6 (tCons (tVar 6) (tCons (tVar 8) (tNil))))))
def cLook (K : PySem.W.Frag) : TS := tSeq (tIfS (tAnd (tB (tVar 7)) (tOr (tTest (tOp rEq (tOp (rIxT K) (tVar 0) (tC (.int 4))) (tC (.str "under")))) (tTest (tOp FW.rLt (tVar 1) (tCall (sp_l_power K) [] E0 (tCons (tOp FW.rAdd (tVar 6) (tC (.int 1))) (tCons (tOp (rIxT K) (tVar 0) (tC (.int 0))) (tNil)))))))) (cRet K 6) (tNext)) (cRest K)
theorem cRet_ok {K : PySem.W.Frag} {j : Nat} {σ : L2.St} {H : Hp} {D : Ends} {t g : Addr} {l : Lp} {n v : Int} {xs : List V} (h0 : σ[0]? = some (some (.ref t))) (h1 : σ[1]? = some (some (.int n))) (h3 : σ[3]? = some (some (.ref g))) (hj : σ[j]? = some (some (.int v)))
    (hT : H t = some (.tup l.V)) (o : l.Ok) (v0 : 0 ≤ v) (vs : Sz 2000 v) (hg : H g = some (.lst xs)) (q : ∀ c q H2, H c = none → Ext H H2 → H2 c = some (.tup [.ref g, .str "told", .int (l.mended n v), .ref q]) → H2 q = some (.lst []) → D.rt (.ref c) H2) : cRet K j D σ H := by
  unfold cRet
  refine s_ret (e_tup (e_cons (e_var (e_cons (e_c (e_cons (e_call (e_cons (e_var (e_cons (e_var (e_cons (e_var (e_nil ?_) hj)) h1)) h0))))) ) h3)))
  refine ⟨t, l, n, v, rfl, hT, o, v0, vs, fun H1 e1 => ?_⟩
  refine e_cons (e_lst (e_nil ?_))
  refine ⟨by show 0 ≤ sizeLine; decide, fun a ha => ?_⟩
  have e2 : Ext H1 (upd H1 a (.lst [])) := Ext.new ha
  have h2 : (upd H1 a (.lst [])) a = some (.lst []) := upd_same
  generalize upd H1 a (.lst []) = H2 at *
  refine e_nil ⟨by show 4 ≤ sizeLine; decide, fun c hc => ?_⟩
  have e3 : Ext H2 (upd H2 c (.tup [V.ref g, V.str "told", V.int (l.mended n v), V.ref a])) := Ext.new hc
  exact q c a _ ((e1.tr e2).non hc) ((e1.tr e2).tr e3) upd_same (e3 _ _ h2)
theorem cRest_ok {K : PySem.W.Frag} {H H' : Hp} {D : Ends} {t g d : Addr} {l : Lp} {n x r : Int} {i : Nat} {kvs : List KvN} {v7 v8 v9 v10 : Option V} (hT : H t = some (.tup l.V)) (o : l.Ok) (R : RootOf l.k n r) (x0 : 0 ≤ x) (hn : n < 2 ^ 1000) (hx : x < 2 ^ 1000)
    (hgo : ∀ j, j < i → crs l n x j = none) (hs : seenA l n x i = none) (hlk : l.looks n (itr l n x i) = false) (e : Ext H H') (hg : H' g = some (.lst ((gsA l n x (i + 1)).map V.int))) (hd : IsDN H' d kvs) (hpl : Plc l n x (i + 1) kvs)
    (q : ∀ res c q H2, crs l n x i = some res → H c = none → Ext H H2 → H2 c = some (.tup [.ref g, .str res.fin, nkV res.told, .ref q]) → H2 g = some (.lst (res.gs.map V.int)) → H2 q = some (.lst (res.ring.map V.int)) → D.rt (.ref c) H2)
    (k : ∀ H2 kvs' w7 w8 w9 w10, crs l n x i = none → Ext H H2 → H2 g = some (.lst ((gsA l n x (i + 1)).map V.int)) → IsDN H2 d kvs' → Plc l n x (i + 1) kvs' → D.nx [some (.ref t), some (.int n), some (.int x), some (.ref g), some (.ref d), some (nkV (prv l n x (i + 1))), some (.int (itr l n x (i + 1))), w7, w8, w9, w10] H2) :
    cRest K D [some (.ref t), some (.int n), some (.int x), some (.ref g), some (.ref d), some (nkV (prv l n x i)), some (.int (itr l n x i)), v7, v8, v9, v10] H' := by
  obtain ⟨y0, ys⟩ := itr_size o R x0 hn hx fun j hj => (crs_none (hgo j hj)).2.2.1
  have hT' := e _ _ hT
  unfold cRest
  walk_at "rd"
  rw [decI]
  refine e_ite (fun hz => ?_) (fun hz => ?_)
  · have hres : crs l n x i = some ⟨gsA l n x (i + 1), "nought", none, []⟩ := by unfold crs; rw [hs]; dsimp only; rw [hlk, if_neg (by decide), if_pos hz]
    walk_at "rd"
    refine ⟨by show 0 ≤ sizeLine; decide, fun a ha => ?_⟩
    have e2 : Ext H' (upd H' a (.lst [])) := Ext.new ha
    have h2 : (upd H' a (.lst [])) a = some (.lst []) := upd_same
    generalize upd H' a (.lst []) = H2 at *
    walk_at "rd"
    refine ⟨by show 4 ≤ sizeLine; decide, fun c hc => ?_⟩
    have e3 : Ext H2 (upd H2 c (.tup [V.ref g, V.str "nought", V.non, V.ref a])) := Ext.new hc
    exact q _ c a _ hres ((e.tr e2).non hc) (e.tr (e2.tr e3)) upd_same (e3 _ _ (e2 _ _ hg)) (e3 _ _ h2)
  · have n0 : 0 ≤ n := Int.le_trans (Int.pow_nonneg R.r0) R.lo
    obtain ⟨z0, zs⟩ := itr_size (i := i + 1) o R x0 hn hx fun j hj => by
      rcases Nat.lt_or_ge j i with z | z
      · exact (crs_none (hgo j z)).2.2.1
      · have : j = i := by omega
        subst this; exact hz
    walk_at "rd"
    refine ⟨t, l, n, itr l n x i, rfl, hT', o, by omega, n0, n_big n0 hn, Sz.mono ys (by decide), ?_⟩
    walk_at "rd"
    refine ⟨t, l, n, itr l n x i, l.led n (itr l n x i), prv l n x i, rfl, hT', o, fun H4 e4 => ?_⟩
    walk_at "rd"
    have hg4 := e4 _ _ hg
    have hT4 := e4 _ _ hT'
    cases hen : l.ends (itr l n x i) (l.led n (itr l n x i)) (prv l n x i) with
    | true =>
      have hres : crs l n x i = some ⟨gsA l n x (i + 1), "told", some (l.mended n (l.chosen (itr l n x i) (itr l n x (i + 1)))), []⟩ := by
        unfold crs; rw [hs]; dsimp only; rw [hlk, if_neg (by decide), if_neg hz, if_pos]
        exact hen
      have hch : 0 ≤ l.chosen (itr l n x i) (itr l n x (i + 1)) ∧ Sz 2000 (l.chosen (itr l n x i) (itr l n x (i + 1))) := by
        rcases chosen_or l (itr l n x i) (itr l n x (i + 1)) with z | z <;> rw [z]
        · exact ⟨y0, ys.mono (by decide)⟩
        · exact ⟨z0, zs.mono (by decide)⟩
      walk_at "rd"
      refine ⟨t, l, itr l n x i, l.led n (itr l n x i), rfl, hT4, ?_⟩
      walk_at "re"
      exact cRet_ok (v := l.chosen (itr l n x i) (itr l n x (i + 1))) rfl rfl rfl rfl hT4 o hch.1 hch.2 hg4 fun c a H5 hc e5 h5 h6 => q _ c a H5 hres ((e.tr e4).non hc) (e.tr (e4.tr e5)) h5 (e5 _ _ hg4) h6
    | false =>
      have hres : crs l n x i = none := by
        unfold crs; rw [hs]; dsimp only; rw [hlk, if_neg (by decide), if_neg hz, if_neg]
        show ¬ l.ends (itr l n x i) (l.led n (itr l n x i)) (prv l n x i) = true
        rw [hen]; decide
      walk_at "rd"
      exact k H4 _ _ _ _ _ hres (e.tr e4) hg4 (hd.ext e4) hpl
theorem l_course_L1 {K : PySem.W.Frag} {H H' : Hp} {D : Ends} {t g d : Addr} {l : Lp} {n x r : Int} {i : Nat} {kvs : List KvN} {v7 v8 v9 v10 : Option V} (hT : H t = some (.tup l.V)) (o : l.Ok) (R : RootOf l.k n r) (x0 : 0 ≤ x) (hn : n < 2 ^ 1000) (hx : x < 2 ^ 1000)
    (hgo : ∀ j, j < i → crs l n x j = none) (hs : seenA l n x i = none) (hg0 : H g = none) (hd0 : H d = none) (e : Ext H H') (hg : H' g = some (.lst ((gsA l n x i).map V.int))) (hd : IsDN H' d kvs) (hpl : Plc l n x i kvs)
    (q : ∀ res c q H2, crs l n x i = some res → H c = none → Ext H H2 → H2 c = some (.tup [.ref g, .str res.fin, nkV res.told, .ref q]) → H2 g = some (.lst (res.gs.map V.int)) → H2 q = some (.lst (res.ring.map V.int)) → D.rt (.ref c) H2)
    (k : ∀ H2 kvs' w7 w8 w9 w10, crs l n x i = none → Ext H H2 → H2 g = some (.lst ((gsA l n x (i + 1)).map V.int)) → IsDN H2 d kvs' → Plc l n x (i + 1) kvs' → D.nx [some (.ref t), some (.int n), some (.int x), some (.ref g), some (.ref d), some (nkV (prv l n x (i + 1))), some (.int (itr l n x (i + 1))), w7, w8, w9, w10] H2) :
    rd_l_course_L1 K D [some (.ref t), some (.int n), some (.int x), some (.ref g), some (.ref d), some (nkV (prv l n x i)), some (.int (itr l n x i)), v7, v8, v9, v10] H' := by
  have hi := crs_bound o R x0 hn hx hgo
  obtain ⟨y0, ys⟩ := itr_size o R x0 hn hx fun j hj => (crs_none (hgo j hj)).2.2.1
  unfold rd_l_course_L1
  with_reducible refine s_seq ?_
  unfold sNPut
  walk_at "re"
  refine e_len ?_ (.inl (SqL.of hg))
  refine e_var ?_ rfl
  rw [List.length_map, gsA_len]
  refine place_l rfl rfl rfl (e _ _ hT) fun c hc => ?_
  have e1 : Ext H' (upd H' c (.tup ((keyA l n x i).map nkV))) := Ext.new hc
  have h1t : (upd H' c (.tup ((keyA l n x i).map nkV))) c = some (.tup ((keyA l n x i).map nkV)) := upd_same
  generalize upd H' c (.tup ((keyA l n x i).map nkV)) = H1 at *
  have eH1 : Ext H H1 := e.tr e1
  have hg1 := e1 _ _ hg
  have hd1 := hd.ext e1
  refine ⟨d, c, kvs, keyA l n x i, rfl, rfl, hd1, h1t, by rw [hpl.val, hs]; rfl, by rw [hpl.len]; show i < 2 ^ 24; omega, ?_⟩
  have hdg : g ≠ d := ne_of hg1 hd1.at' (fun z => nomatch z)
  have eH2 : Ext H (upd H1 d (dN d (kvs ++ [(keyA l n x i, c, .int (i : Int))]))) := at_new eH1 hd0
  have hd2 : IsDN (upd H1 d (dN d (kvs ++ [(keyA l n x i, c, .int (i : Int))]))) d (kvs ++ [(keyA l n x i, c, .int (i : Int))]) := hd1.put h1t (by rw [hpl.len]; show i < 2 ^ 24; omega)
  have hg2 : (upd H1 d (dN d (kvs ++ [(keyA l n x i, c, .int (i : Int))]))) g = some (.lst ((gsA l n x i).map V.int)) := by rw [upd_ne hdg]; exact hg1
  generalize upd H1 d (dN d (kvs ++ [(keyA l n x i, c, .int (i : Int))])) = H2 at *
  walk_at "rd"
  refine ⟨.inl ⟨rfl, _, SqL.of hg2⟩, ?_⟩
  walk_at "rd"
  refine ⟨g, _, _, rfl, rfl, hg2, by rw [List.length_map, gsA_len]; show i < 2 ^ 24; omega, ?_⟩
  have eg : (gsA l n x i).map V.int ++ [V.int (itr l n x i)] = (gsA l n x (i + 1)).map V.int := by rw [gsA_succ, List.map_append]; rfl
  rw [eg]
  have eH3 : Ext H (upd H2 g (.lst ((gsA l n x (i + 1)).map V.int))) := at_new eH2 hg0
  have hd3 : IsDN (upd H2 g (.lst ((gsA l n x (i + 1)).map V.int))) d (kvs ++ [(keyA l n x i, c, .int (i : Int))]) := hd2.upd hg2
  have hg3 : (upd H2 g (.lst ((gsA l n x (i + 1)).map V.int))) g = some (.lst ((gsA l n x (i + 1)).map V.int)) := upd_same
  generalize upd H2 g (.lst ((gsA l n x (i + 1)).map V.int)) = H3 at *
  have hT3 := eH3 _ _ hT
  clear hg1 hd1 h1t e1 eH1 hg2 hd2 eH2 hc
  walk_at "rd"
  refine e_ixT ?_ (SqT.of hT3) rfl
  walk_at "rd"
  refine ⟨by show 2 ≤ sizeLine; decide, fun t2 ht2 => ?_⟩
  have e4 : Ext H3 (upd H3 t2 (.tup [V.str "under", V.str "held"])) := Ext.new ht2
  refine e_in ?_ (.inr (SqT.of upd_same)) rfl rfl
  generalize upd H3 t2 (.tup [V.str "under", V.str "held"]) = H4 at *
  have eH4 := eH3.tr e4
  have hT4 := e4 _ _ hT3
  have hg4 := e4 _ _ hg3
  have hd4 := hd3.ext e4
  rw [if_neg (by decide), inV2]
  clear hg3 hd3 hT3 e4 eH3 ht2
  -- behind the look
  have tail : ∀ b, (decide (l.stop = "under" ∨ l.stop = "held") && decide (itr l n x i ^ l.k.toNat ≤ n)) = b → cLook K D [some (.ref t), some (.int n), some (.int x), some (.ref g), some (.ref d), some (nkV (prv l n x i)), some (.int (itr l n x i)), some (.bl b), v8, v9, v10] H4 := by
    intro b hb
    have hlk := looks_law l n (itr l n x i)
    rw [hb] at hlk
    have rest : l.looks n (itr l n x i) = false → cRest K D [some (.ref t), some (.int n), some (.int x), some (.ref g), some (.ref d), some (nkV (prv l n x i)), some (.int (itr l n x i)), some (.bl b), v8, v9, v10] H4 := fun h => cRest_ok hT o R x0 hn hx hgo hs h eH4 hg4 hd4 hpl.snoc q k
    have yes : l.looks n (itr l n x i) = true → ∀ D' : Ends, D'.rt = D.rt → cRet K 6 D' [some (.ref t), some (.int n), some (.int x), some (.ref g), some (.ref d), some (nkV (prv l n x i)), some (.int (itr l n x i)), some (.bl b), v8, v9, v10] H4 := fun h D' hD => by
      have hres : crs l n x i = some ⟨gsA l n x (i + 1), "told", some (l.mended n (itr l n x i)), []⟩ := by unfold crs; rw [hs]; dsimp only; rw [h, if_pos rfl]
      refine cRet_ok rfl rfl rfl rfl hT4 o y0 (ys.mono (by decide)) hg4 fun c a H5 hc e5 h5 h6 => ?_
      rw [hD]
      exact q _ c a H5 hres (eH4.non hc) (eH4.tr e5) h5 (e5 _ _ hg4) h6
    unfold cLook
    with_reducible refine s_seq ?_
    cases b with
    | false =>
      rw [Bool.false_and] at hlk
      walk_at "re"
      with_reducible refine s_if ?_
      walk_at "re"
      with_reducible refine s_next ?_
      exact rest hlk.symm
    | true =>
      rw [Bool.true_and] at hlk
      with_reducible refine s_if ?_
      walk_at "re"
      refine e_ixT ?_ (SqT.of hT4) rfl
      walk_at "re"
      rw [decS]
      refine e_ite (fun h1 => ?_) (fun h1 => ?_)
      · rw [decide_eq_true h1, Bool.true_or] at hlk
        exact yes hlk.symm _ rfl
      · rw [decide_eq_false h1, Bool.false_or] at hlk
        walk_at "re"
        refine e_ixT ?_ (SqT.of hT4) rfl
        walk_at "re"
        refine pw_ok o (Sz.mono (ys.inc y0) (by decide)) ?_
        walk_at "re"
        refine e_ite (fun h2 => ?_) (fun h2 => ?_)
        · rw [decide_eq_true h2] at hlk
          exact yes hlk.symm _ rfl
        · rw [decide_eq_false h2] at hlk
          with_reducible refine s_next ?_
          exact rest hlk.symm
  by_cases h1 : l.stop = "under" ∨ l.stop = "held"
  · rw [decide_eq_true h1] at tail ⊢
    walk_at "re"
    refine e_ixT ?_ (SqT.of hT4) rfl
    walk_at "re"
    refine pw_ok o (ys.mono (by decide)) ?_
    walk_at "re"
    exact tail _ (Bool.true_and _)
  · rw [decide_eq_false h1] at tail ⊢
    walk_at "re"
    exact tail _ (Bool.false_and _)
theorem pure_l_course (K : PySem.W.Frag) (vs : List V) (H : Hp) (Q : VK) (E : XK) (h : sp_l_course K vs H Q E) : rd_l_course K { nx := fun _ H' => Q .non H', rt := Q } (start ["_law_parts_here", "_law_n", "_law_start", "_law_guesses", "_law_places", "_law_before", "_law_x", "_law_passed", "_law_y", "_law_t", "_law_at"] vs) H := by
  obtain ⟨t, l, n, x, r, rfl, hT, o, R, x0, hn, hx, q⟩ := h
  unfold rd_l_course
  walk_at "rd"
  refine ⟨by show 0 ≤ sizeLine; decide, fun g hg => ?_⟩
  have e1 : Ext H (upd H g (.lst [])) := Ext.new hg
  have h1 : (upd H g (.lst [])) g = some (.lst []) := upd_same
  generalize upd H g (.lst []) = H1 at *
  walk_at "rd"
  intro d hd
  have e2 : Ext H1 (upd H1 d (dN d [])) := Ext.new hd
  have h2 : (upd H1 d (dN d [])) d = some (dN d []) := upd_same
  generalize upd H1 d (dN d []) = H2 at *
  walk_at "rd"
  refine ⟨by show 4 ≤ sizeLine; decide, fun t4 ht4 => ?_⟩
  refine g_tup ?_ (SqT.of upd_same) rfl
  have e3 : Ext H2 (upd H2 t4 (.tup [V.ref g, V.ref d, V.non, V.int x])) := Ext.new ht4
  generalize upd H2 t4 (.tup [V.ref g, V.ref d, V.non, V.int x]) = H3 at *
  walk_at "rd"
  have hd0 := e1.non hd
  refine s_while (fun m σ H' => ∃ i kvs w7 w8 w9 w10, m = 40000 - i ∧ (∀ j, j < i → crs l n x j = none) ∧ Ext H H' ∧ H' g = some (.lst ((gsA l n x i).map V.int)) ∧ IsDN H' d kvs ∧ Plc l n x i kvs ∧ σ = [some (.ref t), some (.int n), some (.int x), some (.ref g), some (.ref d), some (nkV (prv l n x i)), some (.int (itr l n x i)), w7, w8, w9, w10]) _
    ⟨0, [], _, _, _, _, rfl, fun j hj => absurd hj (by omega), e1.tr (e2.tr e3), e3 _ _ (e2 _ _ h1), ⟨e3 _ _ h2, (fun _ hx => nomatch hx), by show 0 ≤ sizeLine; decide⟩, rfl, rfl⟩ ?_
  rintro m σ H' ⟨i, kvs, w7, w8, w9, w10, rfl, hgo, e, hg', hd', hpl, rfl⟩
  have hi := crs_bound o R x0 hn hx hgo
  refine e_tB ?_
  unfold tNNotIn
  refine place_l rfl rfl rfl (e _ _ hT) fun c hc => ?_
  have e4 : Ext H' (upd H' c (.tup ((keyA l n x i).map nkV))) := Ext.new hc
  have h4 : (upd H' c (.tup ((keyA l n x i).map nkV))) c = some (.tup ((keyA l n x i).map nkV)) := upd_same
  generalize upd H' c (.tup ((keyA l n x i).map nkV)) = H4 at *
  have hg4 := e4 _ _ hg'
  have hd4 := hd'.ext e4
  have eH4 := e.tr e4
  walk_at "re"
  refine ⟨d, c, kvs, keyA l n x i, rfl, rfl, hd4, h4, ?_⟩
  rw [hpl.val]
  refine e_bl ?_
  cases hs : seenA l n x i with
  | none =>
    show if true = true then _ else _
    rw [if_pos rfl]
    refine ⟨fun σ' H'' => ∃ kvs w7 w8 w9 w10, crs l n x i = none ∧ Ext H H'' ∧ H'' g = some (.lst ((gsA l n x (i + 1)).map V.int)) ∧ IsDN H'' d kvs ∧ Plc l n x (i + 1) kvs ∧ σ' = [some (.ref t), some (.int n), some (.int x), some (.ref g), some (.ref d), some (nkV (prv l n x (i + 1))), some (.int (itr l n x (i + 1))), w7, w8, w9, w10], fun σ' H'' h => ?_, ?_⟩
    · obtain ⟨kvs', u7, u8, u9, u10, a1, a2, a3, a4, a5, a6⟩ := h
      refine ⟨40000 - (i + 1), by omega, i + 1, kvs', u7, u8, u9, u10, rfl, fun j hj => ?_, a2, a3, a4, a5, a6⟩
      rcases Nat.lt_or_ge j i with z | z
      · exact hgo j z
      · have : j = i := by omega
        subst this; exact a1
    · exact l_course_L1 hT o R x0 hn hx hgo hs hg hd0 eH4 hg4 hd4 hpl (fun res c' a H5 a1 a2 a3 a4 a5 a6 => q res c' g a H5 ⟨i, hgo, a1⟩ a2 a3 a4 a5 a6) (fun H5 kvs' u7 u8 u9 u10 a1 a2 a3 a4 a5 => ⟨kvs', u7, u8, u9, u10, a1, a2, a3, a4, a5, rfl⟩)
  | some j =>
    obtain ⟨hji, _⟩ := seen_some hs
    have hres : crs l n x i = some ⟨gsA l n x i, "swings", none, (gsA l n x i).drop j⟩ := by unfold crs; rw [hs]
    show if false = true then _ else _
    rw [if_neg (by decide)]
    walk_at "rd"
    unfold tNGet
    refine e_var ?_ rfl
    refine place_l rfl rfl rfl (eH4 _ _ hT) fun c5 hc5 => ?_
    have e5 : Ext H4 (upd H4 c5 (.tup ((keyA l n x i).map nkV))) := Ext.new hc5
    have h5 : (upd H4 c5 (.tup ((keyA l n x i).map nkV))) c5 = some (.tup ((keyA l n x i).map nkV)) := upd_same
    generalize upd H4 c5 (.tup ((keyA l n x i).map nkV)) = H5 at *
    refine ⟨d, c5, kvs, keyA l n x i, .int (j : Int), rfl, rfl, hd4.ext e5, h5, by rw [hpl.val, hs]; rfl, ?_⟩
    walk_at "rd"
    refine e_sl ?_
    walk_at "rd"
    refine e_part ?_
    walk_at "rd"
    refine e_part' (e_noP (e_slL (fun t6 ht6 => ?_) (SqL.of (e5 _ _ hg4))))
    rw [cut_from _ _ (by rw [List.length_map, gsA_len]; omega), ← List.map_drop]
    have e6 : Ext H5 (upd H5 t6 (.lst (((gsA l n x i).drop j).map V.int))) := Ext.new ht6
    have h6 : (upd H5 t6 (.lst (((gsA l n x i).drop j).map V.int))) t6 = some (.lst (((gsA l n x i).drop j).map V.int)) := upd_same
    generalize upd H5 t6 (.lst (((gsA l n x i).drop j).map V.int)) = H6 at *
    walk_at "rd"
    refine ⟨by show 4 ≤ sizeLine; decide, fun c7 hc7 => ?_⟩
    have e7 : Ext H6 (upd H6 c7 (.tup [V.ref g, V.str "swings", V.non, V.ref t6])) := Ext.new hc7
    exact q ⟨gsA l n x i, "swings", none, (gsA l n x i).drop j⟩ c7 g t6 _ ⟨i, hgo, hres⟩ ((eH4.tr (e5.tr e6)).non hc7) (eH4.tr (e5.tr (e6.tr e7))) upd_same (e7 _ _ (e6 _ _ (e5 _ _ hg4))) (e7 _ _ h6)
end FWL
namespace FWL
open PySem PySem.Spec PyProof.Rows L2 FW
/-! ### outcomes in their order -/
def numsK (ks : List L2.Key) : List Int := ks.filterMap fun k => match k with | .inl i => some i | .inr _ => none
theorem mem_numsK {ks : List L2.Key} {i : Int} : i ∈ numsK ks ↔ .inl i ∈ ks := by
  unfold numsK
  rw [List.mem_filterMap]
  constructor
  · rintro ⟨k, hk, e⟩
    cases k with
    | inl j => obtain rfl : j = i := Option.some.inj e; exact hk
    | inr s => cases e
  · intro h; exact ⟨_, h, rfl⟩
theorem filter_isInt : ∀ ks : List L2.Key, (ks.map kV).filter isInt = (numsK ks).map V.int
  | [] => rfl
  | .inl i :: ks => by
    show ((V.int i) :: ks.map kV).filter isInt = V.int i :: (numsK ks).map V.int
    rw [List.filter_cons_of_pos rfl, filter_isInt ks]
  | .inr s :: ks => by
    show ((V.str s) :: ks.map kV).filter isInt = (numsK ks).map V.int
    rw [List.filter_cons_of_neg (by show ¬ (false = true); decide), filter_isInt ks]
theorem flat_kV (k : L2.Key) : flatV (kV k) = true := by cases k <;> rfl
theorem all_flatK (ks : List L2.Key) : (ks.map kV).all flatV = true := by
  rw [List.all_eq_true]
  intro v hv
  obtain ⟨k, _, rfl⟩ := List.mem_map.mp hv
  exact flat_kV k
theorem eqV_kV (j k : L2.Key) : eqV (kV j) (kV k) = decide (j = k) := by
  cases j <;> cases k
  · rename_i a b
    show (a == b) = _
    apply Bool.eq_iff_iff.mpr
    rw [decide_eq_true_iff, beq_iff_eq]
    exact ⟨fun h => by rw [h], fun h => Sum.inl.inj h⟩
  · rfl
  · rfl
  · rename_i a b
    show (a == b) = _
    apply Bool.eq_iff_iff.mpr
    rw [decide_eq_true_iff, beq_iff_eq]
    exact ⟨fun h => by rw [h], fun h => Sum.inr.inj h⟩
def hasK (k : L2.Key) (ks : List L2.Key) : Bool := ks.any fun j => decide (j = k)
theorem hasK_iff {k : L2.Key} {ks : List L2.Key} : hasK k ks = true ↔ k ∈ ks := by
  unfold hasK
  rw [List.any_eq_true]
  exact ⟨fun ⟨j, hj, e⟩ => by rw [← of_decide_eq_true e]; exact hj, fun h => ⟨k, h, decide_eq_true rfl⟩⟩
theorem inV_kV (k : L2.Key) (ks : List L2.Key) : inV (kV k) (ks.map kV) = hasK k ks := by
  apply Bool.eq_iff_iff.mpr
  rw [hasK_iff]
  unfold inV
  rw [List.any_eq_true]
  constructor
  · rintro ⟨v, hv, e⟩
    obtain ⟨j, hj, rfl⟩ := List.mem_map.mp hv
    rw [eqV_kV] at e
    rw [← of_decide_eq_true e]; exact hj
  · intro h
    exact ⟨_, List.mem_map.mpr ⟨k, h, rfl⟩, by rw [eqV_kV]; exact decide_eq_true rfl⟩
def rd_ord (K : PySem.W.Frag) (tt : TT) : TS := tSeq (tAsg (FW.tSortSet K (tLc (iList K (tVar 0)) (gName 2) tt (tVar 2) [2])) (gName 1)) (tRet (tCB (FW.rTupS K) (tCons (tOp rCat (tVar 1) (tLc (iTup K (tTup (tCons (tC (.str "nought")) (tCons (tC (.str "swings")) (tNil))))) (gName 3) (tTest (tOp (rIn K false) (tVar 3) (tVar 0))) (tVar 3) [3])) (tNil))))
def OrdSp (K : PySem.W.Frag) : Sp := fun vs H Q _ => ∃ (a : Addr) (ks : List L2.Key) (L : List Int), vs = [.ref a] ∧ H a = some (.lst (ks.map kV)) ∧ ks.length < 4000 ∧ L.length < 64 ∧ (∀ i, .inl i ∈ ks → i ∈ L) ∧
  ∀ t os H', Ext H H' → H' t = some (.tup (os.map kV)) → OrdP (· ∈ ks) os → os.length < 100 → Q (.ref t) H'
theorem filter2 {α : Type} (p : α → Bool) (a b : α) : [a, b].filter p = (if p a then [a] else []) ++ (if p b then [b] else []) := by
  cases ha : p a <;> cases hb : p b <;> simp [ha, hb]
theorem pure_ord (K : PySem.W.Frag) (tt : TT) (ht : ∀ (k : L2.Key) (σ : L2.St) (H' : Hp) (R : Bool → Hp → Prop), σ[2]? = some (some (kV k)) → (∀ H'', Ext H' H'' → R (isInt (kV k)) H'') → tt σ H' R)
    (vs : List V) (H : Hp) (Q : VK) (E : XK) (h : OrdSp K vs H Q E) (N : List Str) (hN : start N vs = vs.map some ++ [none, none, none]) : rd_ord K tt { nx := fun _ H' => Q .non H', rt := Q } (start N vs) H := by
  obtain ⟨a, ks, L, rfl, ha, kl, Ll, hL, q⟩ := h
  rw [hN]
  show rd_ord K tt _ [some (.ref a), none, none, none] H
  unfold rd_ord
  refine FW.s_seq (FW.s_asg (e_sortSet (FW.e_lc ?_)))
  walk_at "rd"
  refine i_list' _ ?_ (SqL.of ha)
  refine lcLX (P := fun x v => v = x) (p := isInt) (SqL.of ha) (by rw [List.length_map]; omega) (fun v => rfl) (fun x hx H' R e k => ?_) (fun x hx px H' R e k => ?_) fun D G ys hD e hG hp => ?_
  · obtain ⟨j, _, rfl⟩ := List.mem_map.mp hx
    exact ht j _ _ _ rfl k
  · refine FW.e_var ?_ rfl
    exact k _ _ Ext.rfl' rfl
  have e1 := paired_eq hp
  rw [filter_isInt] at e1
  subst e1
  refine ⟨D, numsK ks, L, rfl, SqL.of hG, ?_, Ll, fun k hk => hL k (mem_numsK.mp hk), fun ms p asc mm hp' => ?_⟩
  · have := List.length_filterMap_le (fun k : L2.Key => match k with | .inl i => some i | .inr _ => none) ks
    exact Nat.lt_of_le_of_lt this kl
  generalize hG2 : upd G p _ = G2
  obtain ⟨e2, hG2⟩ := al_of hp' hG2
  have ml : ms.length < 64 := by
    have nd : ms.Nodup := asc.imp (fun h e => by omega)
    have := FW.nodup_le (L := L) nd fun k hk => hL k (mem_numsK.mp ((mm k).mp hk))
    omega
  walk_at "rx"
  refine i_tup' _ ?_ (SqT.of nh)
  have e3 := (e.tr e2).tr ne
  refine lcTX (P := fun x v => v = x) (p := fun x => inV x (ks.map kV)) (SqT.of nh) (by decide) (fun v => rfl) (fun x hx H' R e' k => ?_) (fun x hx px H' R e' k => ?_) fun D2 G4 ys hD2 e4 hG4 hp4 => ?_
  · have fx : flatV x = true := by
      rcases List.mem_cons.mp hx with rfl | hx
      · rfl
      · rw [List.mem_singleton.mp hx]; rfl
    refine FW.e_test ?_
    walk_at "re"
    refine e_in ?_ (.inl (SqL.of ((e3.tr e') _ _ ha))) fx (all_flatK ks)
    walk_at "re"
    exact k _ Ext.rfl'
  · refine FW.e_var ?_ rfl
    exact k _ _ Ext.rfl' rfl
  have e5 := paired_eq hp4
  subst e5
  have hp1 := e4 _ _ (ne _ _ hG2)
  refine e_cat (fun c hc => ?_) hp1 hG4 ?_
  · generalize hG5 : upd G4 c _ = G5
    obtain ⟨e6, hG5⟩ := al_of hc hG5
    walk_at "rx"
    have w1 : inV (.str "nought") (ks.map kV) = hasK (.inr "nought") ks := inV_kV (.inr "nought") ks
    have w2 : inV (.str "swings") (ks.map kV) = hasK (.inr "swings") ks := inV_kV (.inr "swings") ks
    have key : ms.map V.int ++ [V.str "nought", V.str "swings"].filter (fun x => inV x (ks.map kV)) = (ms.map Sum.inl ++ ((if hasK (.inr "nought") ks then [(Sum.inr "nought" : L2.Key)] else []) ++ (if hasK (.inr "swings") ks then [(Sum.inr "swings" : L2.Key)] else []))).map kV := by
      rw [filter2, w1, w2, List.map_append, List.map_append, List.map_map]
      congr 1
      congr 1 <;> split <;> rfl
    rw [key] at nh
    refine q _ _ _ ((((e3.tr e4).tr e6)).tr ne) nh ⟨ms, _, _, asc, fun i => (mm i).trans mem_numsK, hasK_iff, hasK_iff, rfl⟩ ?_
    rw [List.length_append, List.length_append, List.length_map]
    split <;> split <;> simp <;> omega
  · rw [List.length_map]
    have := List.length_filter_le (fun x => inV x (ks.map kV)) [V.str "nought", V.str "swings"]
    have : [V.str "nought", V.str "swings"].length = 2 := rfl
    have := sizeLine_eq
    omega
abbrev sp_ordered := OrdSp
def rd_ordered (K : PySem.W.Frag) : TS := tSeq (tAsg (FW.tSortSet K (tLc (iList K (tVar 0)) (gName 2) (tB (tCall (sp_is_whole K) [] E0 (tCons (tVar 2) (tNil)))) (tVar 2) [2])) (gName 1)) (tRet (tCB (FW.rTupS K) (tCons (tOp rCat (tVar 1) (tLc (iTup K (tTup (tCons (tC (.str "nought")) (tCons (tC (.str "swings")) (tNil))))) (gName 3) (tTest (tOp (rIn K false) (tVar 3) (tVar 0))) (tVar 3) [3])) (tNil))))
theorem pure_ordered (K : PySem.W.Frag) (vs : List V) (H : Hp) (Q : VK) (E : XK) (h : sp_ordered K vs H Q E) : rd_ordered K { nx := fun _ H' => Q .non H', rt := Q } (start ["outcomes", "told", "thing", "word"] vs) H := by
  refine pure_ord K (tB (tCall (sp_is_whole K) [] E0 (tCons (tVar 2) (tNil)))) (fun k σ H' R hk q => ?_) vs H Q E h _ ?_
  · walk_at "re"
    refine FW.e_var ?_ hk
    walk_at "re"
    cases k with
    | inl i => exact ⟨_, _, rfl, WT.i i, _, rfl, q _ Ext.rfl'⟩
    | inr s => exact ⟨_, _, rfl, WT.s s, _, rfl, q _ Ext.rfl'⟩
  · obtain ⟨a, ks, L, rfl, _⟩ := h; rfl
abbrev sp_l_ordered := OrdSp
def rd_l_ordered (K : PySem.W.Frag) : TS := tSeq (tAsg (FW.tSortSet K (tLc (iList K (tVar 0)) (gName 2) (tB (tCB (rIsi K) (tCons (tVar 2) (tCons (tC (.ty "int")) (tNil))))) (tVar 2) [2])) (gName 1)) (tRet (tCB (FW.rTupS K) (tCons (tOp rCat (tVar 1) (tLc (iTup K (tTup (tCons (tC (.str "nought")) (tCons (tC (.str "swings")) (tNil))))) (gName 3) (tTest (tOp (rIn K false) (tVar 3) (tVar 0))) (tVar 3) [3])) (tNil))))
theorem pure_l_ordered (K : PySem.W.Frag) (vs : List V) (H : Hp) (Q : VK) (E : XK) (h : sp_l_ordered K vs H Q E) : rd_l_ordered K { nx := fun _ H' => Q .non H', rt := Q } (start ["_law_outcomes", "_law_told", "_law_one", "_law_word"] vs) H := by
  refine pure_ord K (tB (tCB (rIsi K) (tCons (tVar 2) (tCons (tC (.ty "int")) (tNil))))) (fun k σ H' R hk q => ?_) vs H Q E h _ ?_
  · refine FW.e_tB (FW.e_cb (FW.e_cons (FW.e_var ?_ hk)))
    walk_at "re"
    cases k with
    | inl i => exact e_isi ⟨_, rfl, q _ Ext.rfl'⟩ (WT.i i) (show kitB "int" "int" = some true by decide +kernel)
    | inr s => exact e_isi ⟨_, rfl, q _ Ext.rfl'⟩ (WT.s s) (show kitB "str" "int" = some false by decide +kernel)
  · obtain ⟨a, ks, L, rfl, _⟩ := h; rfl
/-! ### tells -/
def sp_tellsX (K : PySem.W.Frag) : Sp := fun vs H Q E => ∃ (p : Addr) (l : Lp) (v : V) (nn : String), vs = [.ref p, v] ∧ IsLp K H p l ∧ l.Ok ∧ WT K H v nn ∧
  (∀ n, v = .int n → 0 ≤ n → n < 2 ^ 900 ∧ ∀ r t os H', RootOf l.k n r → Ext H H' → H' t = some (.tup (os.map kV)) → OrdP (Alo l n r) os → os.length < 100 → Q (.ref t) H') ∧
  (fromI v 0 = false → ∀ d, H d = none → E (clsN K) (some d) (upd H d (.xd [("value", v)])))
def rd_tellsX (K : PySem.W.Frag) (E : XK) : TS := tSeq (tDrop (tCall (sp_check_numberX K) [] E (tCons (tVar 1) (tNil)))) (tSeq (tAsg (tCall (sp_whole_root K) [] E0 (tCons (tVar 1) (tCons (tFld K (tVar 0) "k") (tNil)))) (gName 2)) (tRet (tCall (sp_ordered K) [] E0 (tCons (tLc (iList K (tCall (sp_starts_for K) [] E0 (tCons (tVar 0) (tCons (tVar 1) (tCons (tVar 2) (tNil)))))) (gName 3) (tYes) (tCall (sp_outcome K) [] E0 (tCons (tVar 0) (tCons (tVar 1) (tCons (tVar 3) (tNil))))) [3]) (tNil)))))
theorem root_le2 {k n r : Int} (R : RootOf k n r) (hk : k = 2 ∨ k = 3 ∨ k = 4) : r ≤ n := by
  have r0 := R.r0
  refine Int.le_trans ?_ R.lo
  obtain ⟨j, hj⟩ : ∃ j : Nat, k.toNat = j + 2 := ⟨(k - 2).toNat, by omega⟩
  rw [hj]
  rcases Int.lt_or_le 0 r with h | h
  · have h1 := pow_pos' (show 1 ≤ r by omega) (j + 1)
    have h2 : r ^ (j + 2) = r ^ (j + 1) * r := Int.pow_succ ..
    have h3 : 1 * r ≤ r ^ (j + 1) * r := Int.mul_le_mul_of_nonneg_right (by omega) r0
    omega
  · have e : r = 0 := by omega
    rw [e]; exact Int.pow_nonneg (Int.le_refl _)
theorem sz_of {n : Int} (h0 : 0 ≤ n) (h : n < 2 ^ 900) : Sz 2000 n := by
  have h1 := p900 h
  exact big_abs h0 (by omega)
theorem pure_tellsX (K : PySem.W.Frag) (A : AvK K) (vs : List V) (H : Hp) (Q : VK) (E : XK) (h : sp_tellsX K vs H Q E) : rd_tellsX K E { nx := fun _ H' => Q .non H', rt := Q } (start ["loop", "n", "floor", "start"] vs) H := by
  obtain ⟨p, l, v, nn, rfl, hL, o, hv, q1, q2⟩ := h
  obtain ⟨dx, hp⟩ := id hL
  have A' := A; cases A'
  unfold rd_tellsX
  walk_at "rd"
  refine ⟨v, nn, rfl, hv, fun hb => ?_, q2⟩
  obtain ⟨n, rfl, n0⟩ := fromI_of hb
  obtain ⟨hn, q⟩ := q1 n rfl n0
  have hk := o.hk
  have n1 := p900 hn
  walk_at "rx"
  refine ⟨n, l.k, rfl, n0, by omega, by omega, sz_of n0 hn, fun r H1 r0 rlo rhi e1 => ?_⟩
  have R : RootOf l.k n r := ⟨r0, rlo, rhi⟩
  have rn := root_le2 R hk
  walk_at "rx"
  refine ⟨p, l, n, r, rfl, hL.ext e1, o, R, hn, by omega, fun L last hh H2 e2 hL2 N hr => ?_⟩
  have e12 := e1.tr e2
  refine i_list' _ ?_ (SqL.of hL2)
  refine lcLX (P := fun x v => ∃ k, v = kV k ∧ ∃ i, x = .int i ∧ OcS l n none i k) (p := fun _ => true) (SqL.of hL2) (by rw [List.length_map, rgZ_len]; omega) (fun v => rfl) (fun x hx H' R e k => yes_ext k) (fun x hx px H' R e k => ?_) fun D G ys hD e hG hp => ?_
  · obtain ⟨i, hi, rfl⟩ := List.mem_map.mp hx
    have hi := mem_rgZ.mp hi
    walk_at "rx"
    refine ⟨p, l, n, i, r, rfl, hL.ext (e12.tr e), o, ‹RootOf l.k n r›, by omega, by omega, by omega, fun kk H' e' hk => ?_⟩
    exact k _ _ e' ⟨kk, rfl, i, rfl, hk⟩
  rw [filter_yes] at hp
  obtain ⟨ks, rfl, hks⟩ := paired_keys hp
  obtain ⟨a1, a2⟩ := paired_all hks
  have kl : ks.length < 4000 := by
    have := hks.length
    rw [List.length_map, rgZ_len] at this
    omega
  have al : ∀ k, k ∈ ks ↔ Alo l n r k := fun k => by
    constructor
    · intro hk
      obtain ⟨x, hx, i, rfl, ho⟩ := a1 k hk
      obtain ⟨j, hj, e⟩ := List.mem_map.mp hx
      cases e
      have := mem_rgZ.mp hj
      exact ⟨i, this.1, ho⟩
    · intro hk
      obtain ⟨w, w1, w2, w3⟩ := hk.near o R N
      obtain ⟨k', hk', i, e, ho⟩ := a2 (.int w) (List.mem_map.mpr ⟨w, mem_rgZ.mpr ⟨w1, by omega⟩, rfl⟩)
      cases e
      rw [w3.uniq ho]; exact hk'
  obtain ⟨L0, l0, hl0⟩ := few_told o R
  walk_at "rx"
  refine ⟨D, ks, L0, rfl, hG, kl, l0, fun i hi => hl0 i ((al _).mp hi), fun t os H' e' ht hos hl => ?_⟩
  walk_at "rx"
  exact q r t os H' R ((e12.tr e).tr e') ht (hos.congr al) hl
/-! ### the law's outcomes -/
def sp_l_outcome (K : PySem.W.Frag) : Sp := fun vs H Q _ => ∃ (t : Addr) (l : Lp) (n x r : Int), vs = [.ref t, .int n, .int x] ∧ H t = some (.tup l.V) ∧ l.Ok ∧ RootOf l.k n r ∧ 0 ≤ x ∧ n < 2 ^ 1000 ∧ x < 2 ^ 1000 ∧ ∀ k H', Ext H H' → OcS l n none x k → Q (kV k) H'
def rd_l_outcome (K : PySem.W.Frag) : TS := tSeq (tAsg (tCall (sp_l_course K) [] E0 (tCons (tVar 0) (tCons (tVar 1) (tCons (tVar 2) (tNil))))) (gName 3)) (tRet (tIf (tTest (tOp rEq (tOp (rIxT K) (tVar 3) (tC (.int 1))) (tC (.str "told")))) (tOp (rIxT K) (tVar 3) (tC (.int 2))) (tOp (rIxT K) (tVar 3) (tC (.int 1)))))
theorem pure_l_outcome (K : PySem.W.Frag) (vs : List V) (H : Hp) (Q : VK) (E : XK) (h : sp_l_outcome K vs H Q E) : rd_l_outcome K { nx := fun _ H' => Q .non H', rt := Q } (start ["_law_parts_here", "_law_n", "_law_start", "_law_run"] vs) H := by
  obtain ⟨t, l, n, x, r, rfl, ht, o, R, x0, hn, hx, q⟩ := h
  unfold rd_l_outcome
  walk_at "rx"
  refine ⟨t, l, n, x, r, rfl, ht, o, R, x0, hn, hx, fun res c g u H' hc _ e h1 h2 h3 => ?_⟩
  have fin := fun z => q (oc res) H' e z
  walk_at "rx"
  have hO := ocS_of_crs hc
  refine e_ite (fun z => ?_) (fun z => ?_)
  · walk_at "rx"
    obtain ⟨i, hi⟩ := told_some hc z
    have e1 : nkV res.told = kV (oc res) := by unfold oc; rw [if_pos z, hi]; rfl
    rw [e1]
    exact fin hO
  · walk_at "rx"
    have e1 : V.str res.fin = kV (oc res) := by unfold oc; rw [if_neg z]; rfl
    rw [e1]
    exact fin hO
end FWL
namespace FWL
open PySem PySem.Spec PyProof.Rows L2 FW
/-! ### what tells tells: for the laws -/
theorem RootOf.same {k n r r' : Int} (R : RootOf k n r) (R' : RootOf k n r') : r = r' := by
  obtain ⟨r0, lo, hi⟩ := R
  obtain ⟨r0', lo', hi'⟩ := R'
  rcases Int.lt_trichotomy r r' with h | h | h
  · have := pow_mono (show 0 ≤ r + 1 by omega) (show r + 1 ≤ r' by omega) k.toNat; omega
  · exact h
  · have := pow_mono (show 0 ≤ r' + 1 by omega) (show r' + 1 ≤ r by omega) k.toNat; omega
theorem tells_at {K : PySem.W.Frag} {p : Addr} {l : Lp} {n r : Int} {H : Hp} {Q : VK} {E : XK} (hL : IsLp K H p l) (o : l.Ok) (R : RootOf l.k n r) (hn : n < 2 ^ 900)
    (k : ∀ t os H', Ext H H' → H' t = some (.tup (os.map kV)) → OrdP (Alo l n r) os → os.length < 100 → Q (.ref t) H') : sp_tellsX K [.ref p, .int n] H Q E :=
  ⟨p, l, .int n, _, rfl, hL, o, WT.i n, fun n' e _ => by cases e; exact ⟨hn, fun r' t os H' R' e h ho hl => by rw [R'.same R] at ho; exact k t os H' e h ho hl⟩,
    fun h => by have n0 : 0 ≤ n := Int.le_trans (Int.pow_nonneg R.r0) R.lo
                rw [fromI_int n0] at h; cases h⟩
def kD : L2.Key → PyData
  | .inl i => .int i
  | .inr s => .str s
theorem dpK {K : PySem.W.Frag} {H : Hp} : ∀ ks : List L2.Key, DpAll K H (ks.map kV) (ks.map kD)
  | [] => .nil
  | .inl n :: ks => .cons (.int n) (dpK ks)
  | .inr s :: ks => .cons (.str s) (dpK ks)
def KsOk (ks : List L2.Key) : Prop := ∀ s : Str, .inr s ∈ ks → s = "nought" ∨ s = "swings"
theorem layK : ∀ ks : List L2.Key, KsOk ks → PyData.canLayAll0 (ks.map kD) = true
  | [], _ => rfl
  | .inl n :: ks, h => by rw [List.map_cons, PyData.canLayAll0, layK ks fun s hs => h s (List.mem_cons_of_mem _ hs)]; rfl
  | .inr s :: ks, h => by
    rw [List.map_cons, PyData.canLayAll0, layK ks fun s hs => h s (List.mem_cons_of_mem _ hs)]
    rcases h s List.mem_cons_self with rfl | rfl <;> kernel_rfl
theorem depK : ∀ ks : List L2.Key, PyData.depthAll (ks.map kD) = 0
  | [] => rfl
  | .inl n :: ks => by rw [List.map_cons, PyData.depthAll, depK ks]; rfl
  | .inr n :: ks => by rw [List.map_cons, PyData.depthAll, depK ks]; rfl
theorem shK {ks : List L2.Key} (h : KsOk ks) : SeqAt.shaped (.tuple (ks.map kD)) = true := by
  unfold SeqAt.shaped
  rw [PyData.canLay0, layK ks h, PyData.depth, depK]; rfl
theorem OrdP.ok {P : L2.Key → Prop} {ks : List L2.Key} (h : OrdP P ks) : KsOk ks := by
  obtain ⟨ns, b1, b2, h1, h2, h3, h4, rfl⟩ := h
  intro s hs
  rcases List.mem_append.mp hs with z | z
  · obtain ⟨j, hj, e⟩ := List.mem_map.mp z; cases e
  · rcases List.mem_append.mp z with z | z
    · cases b1
      · cases z
      · exact .inl (Sum.inr.inj (List.mem_singleton.mp z))
    · cases b2
      · cases z
      · exact .inr (Sum.inr.inj (List.mem_singleton.mp z))
theorem e_neK {K : PySem.W.Frag} {H : Hp} {Q : VK} {t u : Addr} {ks : List L2.Key} (o : KsOk ks) (ht : H t = some (.tup (ks.map kV))) (hu : H u = some (.tup (ks.map kV))) (q : Q (.bl false) H) : rNeD K (.ref t) (.ref u) H Q := by
  refine e_neD (d := .tuple (ks.map kD)) (e := .tuple (ks.map kD)) ?_ (.tup (SqT.of ht) (dpK ks)) (.tup (SqT.of hu) (dpK ks)) (shK o) (shK o)
  rw [SeqAt.eqv_refl _ (SeqAt.canLay_of_shaped (shK o))]; exact q
/-- outcomes of starts that are enough, ordered, are what tells tells -/
theorem alo_of {l : Lp} (o : l.Ok) {n r m : Int} (R : RootOf l.k n r) {xs : List V} {ks : List L2.Key} (hx : xs = (rgZ (max 1 r) m).map V.int) (hm : r + 21 ≤ m) (hp : Paired (fun x k => ∃ i, x = .int i ∧ OcS l n none i k) xs ks) (k : L2.Key) : k ∈ ks ↔ Alo l n r k := by
  obtain ⟨a1, a2⟩ := paired_all hp
  constructor
  · intro hk
    obtain ⟨x, hx', i, rfl, ho⟩ := a1 k hk
    rw [hx] at hx'
    obtain ⟨j, hj, e⟩ := List.mem_map.mp hx'
    cases e
    have := mem_rgZ.mp hj
    exact ⟨i, this.1, ho⟩
  · intro hk
    obtain ⟨w, w1, w2, w3⟩ := hk.near o R (nearR o R)
    obtain ⟨k', hk', i, e, ho⟩ := a2 (.int w) (by rw [hx]; exact List.mem_map.mpr ⟨w, mem_rgZ.mpr ⟨w1, by omega⟩, rfl⟩)
    cases e
    rw [w3.uniq ho]; exact hk'
theorem e_inF {K : PySem.W.Frag} {H : Hp} {Q : VK} {a : Addr} {xs : List V} {x : V} {b : Bool} (h : SqL K H a xs ∨ SqT K H a xs) (hx : flatV x = true) (ha : xs.all flatV = true) (hb : inV x xs = b) (k : Q (.bl b) H) : rIn K false x (.ref a) H Q := e_in (by rw [hb]; exact k) h hx ha
theorem e_ninF {K : PySem.W.Frag} {H : Hp} {Q : VK} {a : Addr} {xs : List V} {x : V} {b : Bool} (h : SqL K H a xs ∨ SqT K H a xs) (hx : flatV x = true) (ha : xs.all flatV = true) (hb : inV x xs = b) (k : Q (.bl (!b)) H) : rIn K true x (.ref a) H Q := e_in (by rw [hb]; exact k) h hx ha
end FWL
namespace FWL
open PySem PySem.Spec PyProof.Rows L2 FW
/-! ### tables: polynomials, exactly -/
section
variable {K : PySem.W.Frag} {H : Hp} {Q : VK} {E : XK} {a b : Addr} {ns ms : List Int} {m n p q : Nat}
theorem lessP (hA : SqA K H a (ns.map V.int)) (hB : SqT K H b (ms.map V.int)) (h1 : ns.length ≤ 100) (h2 : ms.length ≤ 100) (k : ∀ t H', H t = none → Ext H H' → H' t = some (.tup ((pLess ns ms).map V.int)) → Q (.ref t) H') : sp_poly_less K [.ref a, .ref b] H Q E :=
  ⟨a, b, ns, ms, rfl, hA, hB, h1, h2, fun t cs H' ht e h hv hl => by
    rw [pv_uniq (ds := pLess ns ms) (fun r => by rw [hv, pv_less]) hl (trm_last _)] at h
    exact k t H' ht e h⟩
theorem sumP (hA : SqA K H a (ns.map V.int)) (hB : SqA K H b (ms.map V.int)) (h1 : ns.length ≤ 100) (h2 : ms.length ≤ 100) (k : ∀ t H', H t = none → Ext H H' → H' t = some (.tup ((pAdd ns ms).map V.int)) → Q (.ref t) H') : sp_poly_sum K [.ref a, .ref b] H Q E :=
  ⟨a, b, ns, ms, rfl, hA, hB, h1, h2, fun t cs H' ht e h hv hl _ _ => by
    rw [pv_uniq (ds := pAdd ns ms) (fun r => by rw [hv, pv_add]) hl (trm_last _)] at h
    exact k t H' ht e h⟩
theorem mulP (hA : SqA K H a (ns.map V.int)) (hB : SqA K H b (ms.map V.int)) (h1 : PZ m p ns) (h2 : PZ n q ms) (hm : m ≤ 8) (hn : n ≤ 8) (hp : p + q ≤ 1000) (k : ∀ t H', H t = none → Ext H H' → H' t = some (.tup ((pMul ns ms).map V.int)) → PZ (m + n) (p + q + 7) (pMul ns ms) → Q (.ref t) H') : sp_poly_product K [.ref a, .ref b] H Q E :=
  ⟨a, b, ns, ms, p, q, rfl, hA, hB, by have := h1.1; omega, by have := h2.1; omega, h1.2, h2.2, by omega, fun t cs H' ht e h hv hl hc hlen => by
    rw [pv_uniq (ds := pMul ns ms) (fun r => by rw [hv, pv_mul]) hl (trm_last _)] at h hc hlen
    refine k t H' ht e h ⟨by have := h1.1; have := h2.1; omega, fun c hcm => ?_⟩
    have h3 := hc c hcm
    have h4 : ns.length * ms.length ≤ 8 * 8 := Nat.mul_le_mul (by have := h1.1; omega) (by have := h2.1; omega)
    have h5 : ns.length * ms.length * 2 ^ (p + q) ≤ 64 * 2 ^ (p + q) := Nat.mul_le_mul_right _ h4
    have h6 : (2 : Nat) ^ (p + q + 7) = 128 * 2 ^ (p + q) := by rw [Nat.pow_add]; omega
    have h7 : 0 < (2 : Nat) ^ (p + q) := Nat.pow_pos (by decide)
    show c.natAbs < 2 ^ (p + q + 7)
    omega⟩
end
theorem PZ.len {m b : Nat} {cs : List Int} (h : PZ m b cs) (hm : m ≤ 100) : cs.length ≤ 100 := Nat.le_trans h.1 hm
theorem pz1 {b : Nat} {c : Int} (h : Sz b c) (hb : 1 ≤ b) : PZ 2 b [c, 1] := ⟨Nat.le_refl _, fun x hx => by
  simp only [List.mem_cons, List.not_mem_nil, or_false] at hx
  rcases hx with rfl | rfl
  · exact h
  · exact Sz.mono (show Sz 1 1 from by decide) hb⟩
def sp_poly_power (K : PySem.W.Frag) : Sp := fun vs H Q _ => ∃ (a : Addr) (p : List Int) (k : Int) (b : Nat), vs = [.ref a, .int k] ∧ H a = some (.tup (p.map V.int)) ∧ PZ 2 b p ∧ b ≤ 100 ∧ 0 ≤ k ∧ k ≤ 4 ∧
  ∀ t H', Ext H H' → H' t = some (.tup ((pPow p k.toNat).map V.int)) → PZ (2 * k.toNat + 1) (k.toNat * (b + 7) + 1) (pPow p k.toNat) → Q (.ref t) H'
def rd_poly_power_L1 (K : PySem.W.Frag) : TS := tAsg (tCall (sp_poly_product K) [] E0 (tCons (tVar 2) (tCons (tVar 0) (tNil)))) (gName 2)
def rd_poly_power (K : PySem.W.Frag) : TS := tSeq (tAsg (tTup (tCons (tC (.int 1)) (tNil))) (gName 2)) (tSeq (tFor (iRng1 (tCons (tVar 1) (tNil))) (gName 3) (rd_poly_power_L1 K)) (tRet (tVar 2)))
theorem pure_poly_power (K : PySem.W.Frag) (vs : List V) (H : Hp) (Q : VK) (E : XK) (h : sp_poly_power K vs H Q E) : rd_poly_power K { nx := fun _ H' => Q .non H', rt := Q } (start ["poly", "k", "found", "turn"] vs) H := by
  obtain ⟨a, p, k, b, rfl, ha, hp, hb, k0, k4, q⟩ := h
  unfold rd_poly_power
  walk_at "rx"
  rotate_left
  · constructor <;> omega
  refine for_range (lo := 0) (n := k.toNat) (fun i σ H' => Ext H H' ∧ ∃ (t : Addr) (u : Option V), H' t = some (.tup ((pPow p i).map V.int)) ∧ PZ (2 * i + 1) (i * (b + 7) + 1) (pPow p i) ∧ σ = [some (.ref a), some (.int k), some (.ref t), u]) ⟨ne, nt, _, nh, ⟨Nat.le_refl _, fun c hc => by rw [List.mem_singleton.mp hc, Nat.zero_mul]; show (1 : Nat) < 2 ^ (0 + 1); decide⟩, rfl⟩ ?_ ?_
  · rintro i σ H' hi ⟨e, t, u, ht, hz, rfl⟩
    refine g_name ?_
    unfold rd_poly_power_L1
    walk_at "rx"
    have i1 : i * (b + 7) ≤ 3 * 107 := Nat.mul_le_mul (by omega) (by omega)
    refine mulP (.inr (SqT.of ht)) (.inr (SqT.of (e _ _ ha))) hz hp (by omega) (by omega) (by omega) fun t2 H2 _ e2 h2 z2 => ?_
    refine ⟨e.tr e2, t2, _, h2, z2.mono (by omega) ?_, rfl⟩
    rw [Nat.succ_mul]; omega
  · rintro σ H' ⟨e, t, u, ht, hz, rfl⟩
    walk_at "rx"
    exact q t H' e ht hz
def endP (k : Int) : List Int := pLess (pPow [1, 1] k.toNat) (pPow [0, 1] k.toNat)
def restP (k i j : Int) : List Int := pLess (pMul (pPow [i, 1] (k - 1).toNat) [j - (k - 1) * i, 1]) (pPow [0, 1] k.toNat)
def sp_end_poly (K : PySem.W.Frag) : Sp := fun vs H Q _ => ∃ k : Int, vs = [.int k] ∧ 2 ≤ k ∧ k ≤ 4 ∧ ∀ t H', H t = none → Ext H H' → H' t = some (.tup ((endP k).map V.int)) → PZ 9 40 (endP k) → Q (.ref t) H'
def rd_end_poly (K : PySem.W.Frag) : TS := tRet (tCall (sp_poly_less K) [] E0 (tCons (tCall (sp_poly_power K) [] E0 (tCons (tTup (tCons (tC (.int 1)) (tCons (tC (.int 1)) (tNil)))) (tCons (tVar 0) (tNil)))) (tCons (tCall (sp_poly_power K) [] E0 (tCons (tTup (tCons (tC (.int 0)) (tCons (tC (.int 1)) (tNil)))) (tCons (tVar 0) (tNil)))) (tNil))))
theorem pure_end_poly (K : PySem.W.Frag) (vs : List V) (H : Hp) (Q : VK) (E : XK) (h : sp_end_poly K vs H Q E) : rd_end_poly K { nx := fun _ H' => Q .non H', rt := Q } (start ["k"] vs) H := by
  obtain ⟨k, rfl, k2, k4, q⟩ := h
  unfold rd_end_poly
  walk_at "rx"
  refine ⟨nt, [1, 1], k, 1, rfl, nh, pz1 (by decide) (by decide), by decide, by omega, k4, fun t1 H1 e1 h1 z1 => ?_⟩
  have e01 := ne.tr e1
  clear ne nh
  walk_at "rx"
  refine ⟨nt, [0, 1], k, 1, rfl, nh, pz1 (by decide) (by decide), by decide, by omega, k4, fun t2 H2 e2 h2 z2 => ?_⟩
  have e12 := ne.tr e2
  walk_at "rx"
  have kk : k.toNat * (1 + 7) ≤ 32 := by omega
  refine lessP (.inr (SqT.of (e12 _ _ h1))) (SqT.of h2) (z1.len (by omega)) (z2.len (by omega)) fun t H' ht e h => ?_
  walk_at "rx"
  refine q t H' (e01.non (e12.non ht)) ((e01.tr e12).tr e) h ((z1.less z2).mono (by omega) (by omega))
def sp_rest_poly (K : PySem.W.Frag) : Sp := fun vs H Q _ => ∃ k i j : Int, vs = [.int k, .int i, .int j] ∧ 2 ≤ k ∧ k ≤ 4 ∧ -60 ≤ i ∧ i ≤ 60 ∧ -100 ≤ j ∧ j ≤ 100 ∧ ∀ t H', H t = none → Ext H H' → H' t = some (.tup ((restP k i j).map V.int)) → PZ 9 80 (restP k i j) → Q (.ref t) H'
def rd_rest_poly (K : PySem.W.Frag) : TS := tRet (tCall (sp_poly_less K) [] E0 (tCons (tCall (sp_poly_product K) [] E0 (tCons (tCall (sp_poly_power K) [] E0 (tCons (tTup (tCons (tVar 1) (tCons (tC (.int 1)) (tNil)))) (tCons (tOp FW.rSub (tVar 0) (tC (.int 1))) (tNil)))) (tCons (tTup (tCons (tOp FW.rSub (tVar 2) (tOp FW.rMul (tOp FW.rSub (tVar 0) (tC (.int 1))) (tVar 1))) (tCons (tC (.int 1)) (tNil)))) (tNil)))) (tCons (tCall (sp_poly_power K) [] E0 (tCons (tTup (tCons (tC (.int 0)) (tCons (tC (.int 1)) (tNil)))) (tCons (tVar 0) (tNil)))) (tNil))))
theorem pure_rest_poly (K : PySem.W.Frag) (vs : List V) (H : Hp) (Q : VK) (E : XK) (h : sp_rest_poly K vs H Q E) : rd_rest_poly K { nx := fun _ H' => Q .non H', rt := Q } (start ["k", "i", "j"] vs) H := by
  obtain ⟨k, i, j, rfl, k2, k4, i1, i2, j1, j2, q⟩ := h
  unfold rd_rest_poly
  have m1 : -240 ≤ (k - 1) * i ∧ (k - 1) * i ≤ 240 := by
    have : k = 2 ∨ k = 3 ∨ k = 4 := by omega
    rcases this with rfl | rfl | rfl <;> omega
  walk_at "rx"
  refine ⟨nt, [i, 1], k - 1, 6, rfl, nh, pz1 (by show i.natAbs < 64; omega) (by decide), by decide, by omega, by omega, fun t1 H1 e1 h1 z1 => ?_⟩
  have e01 := ne.tr e1
  clear ne nh
  walk_at "rx"
  rotate_left
  · exact wide_mul (a := 10) (b := 10) (by show _ < 1024; omega) (by show _ < 1024; omega) (by decide) (by decide) (by decide)
  have z2 : PZ 2 10 [j - (k - 1) * i, 1] := pz1 (by show _ < 1024; omega) (by decide)
  have h1' := ne _ _ h1
  have kk : (k - 1).toNat * (6 + 7) ≤ 39 := by omega
  have nh' : nH nt = some (.tup ([j - (k - 1) * i, 1].map V.int)) := nh
  refine mulP (.inr (SqT.of h1')) (.inr (SqT.of nh')) z1 z2 (by omega) (by omega) (by omega) fun t3 H3 _ e3 h3 z3 => ?_
  have e03 := (e01.tr ne).tr e3
  clear ne nh
  walk_at "rx"
  refine ⟨nt, [0, 1], k, 1, rfl, nh, pz1 (by decide) (by decide), by decide, by omega, k4, fun t4 H4 e4 h4 z4 => ?_⟩
  have e34 := ne.tr e4
  walk_at "rx"
  have kk2 : k.toNat * (1 + 7) ≤ 32 := by omega
  refine lessP (.inr (SqT.of (e34 _ _ h3))) (SqT.of h4) (z3.len (by omega)) (z4.len (by omega)) fun t H' ht e h => ?_
  walk_at "rx"
  refine q t H' (e03.non (e34.non ht)) ((e03.tr e34).tr e) h (((z3.mono (Nat.le_refl _) (by omega : _ ≤ 79)).less (z4.mono (Nat.le_refl _) (by omega : _ ≤ 79))).mono (by omega) (by omega))
/-! ### the window -/
def Lp.sl (l : Lp) : Int := l.a - l.c * (l.k - 1)
def Lp.ll (l : Lp) (i : Int) : Int := (l.sl * i + l.d) / (l.a + l.c)
theorem Lp.Ok.sl0 {l : Lp} (o : l.Ok) : 0 ≤ l.sl ∧ l.sl ≤ 4 ∧ l.sl + l.c * l.k = l.a + l.c := by
  have hc := o.cases
  clear o
  unfold Lp.sl
  obtain ⟨k, a, c, d, st, td, md⟩ := l
  dsimp only at *
  simp only [List.mem_cons, Prod.mk.injEq, List.not_mem_nil, or_false] at hc
  rcases hc with ⟨rfl, rfl, rfl⟩ | ⟨rfl, rfl, rfl⟩ | ⟨rfl, rfl, rfl⟩ | ⟨rfl, rfl, rfl⟩ | ⟨rfl, rfl, rfl⟩ | ⟨rfl, rfl, rfl⟩ | ⟨rfl, rfl, rfl⟩ | ⟨rfl, rfl, rfl⟩ | ⟨rfl, rfl, rfl⟩ | ⟨rfl, rfl, rfl⟩ | ⟨rfl, rfl, rfl⟩ | ⟨rfl, rfl, rfl⟩ | ⟨rfl, rfl, rfl⟩ | ⟨rfl, rfl, rfl⟩ | ⟨rfl, rfl, rfl⟩ | ⟨rfl, rfl, rfl⟩ | ⟨rfl, rfl, rfl⟩
  all_goals omega
def sp_slant (K : PySem.W.Frag) : Sp := fun vs H Q _ => ∃ (p : Addr) (l : Lp), vs = [.ref p] ∧ IsLp K H p l ∧ l.Ok ∧ Q (.int l.sl) H
def rd_slant (K : PySem.W.Frag) : TS := tRet (tOp FW.rSub (tFld K (tVar 0) "a") (tOp FW.rMul (tFld K (tVar 0) "c") (tOp FW.rSub (tFld K (tVar 0) "k") (tC (.int 1)))))
theorem pure_slant (K : PySem.W.Frag) (A : AvK K) (vs : List V) (H : Hp) (Q : VK) (E : XK) (h : sp_slant K vs H Q E) : rd_slant K { nx := fun _ H' => Q .non H', rt := Q } (start ["loop"] vs) H := by
  obtain ⟨p, l, rfl, hL, o, q⟩ := h
  obtain ⟨dx, hp⟩ := id hL
  have A' := A; cases A'
  have c1 := o.c1; have c3 := o.c3; have hk := o.hk
  unfold rd_slant
  walk_at "rx"
  · exact q
  · exact wide_mul (a := 10) (b := 10) (by show _ < 1024; omega) (by show _ < 1024; omega) (by decide) (by decide) (by decide)
def sp_least_led (K : PySem.W.Frag) : Sp := fun vs H Q _ => ∃ (p : Addr) (l : Lp) (i : Int), vs = [.ref p, .int i] ∧ IsLp K H p l ∧ l.Ok ∧ -100 ≤ i ∧ i ≤ 100 ∧ Q (.int (l.ll i)) H
def rd_least_led (K : PySem.W.Frag) : TS := tRet (tOp FW.rDiv (tOp FW.rAdd (tOp FW.rMul (tCall (sp_slant K) [] E0 (tCons (tVar 0) (tNil))) (tVar 1)) (tFld K (tVar 0) "d")) (tOp FW.rAdd (tFld K (tVar 0) "a") (tFld K (tVar 0) "c")))
theorem pure_least_led (K : PySem.W.Frag) (A : AvK K) (vs : List V) (H : Hp) (Q : VK) (E : XK) (h : sp_least_led K vs H Q E) : rd_least_led K { nx := fun _ H' => Q .non H', rt := Q } (start ["loop", "i"] vs) H := by
  obtain ⟨p, l, i, rfl, hL, o, i1, i2, q⟩ := h
  obtain ⟨dx, hp⟩ := id hL
  have A' := A; cases A'
  have a1 := o.a1; have c1 := o.c1; have ac := o.ac
  have s0 := o.sl0
  unfold rd_least_led
  walk_at "rx"
  refine ⟨p, l, rfl, hL, o, ?_⟩
  walk_at "rx"
  · exact q
  · exact wide_div (b := 10) (by omega) (by show _ < 1024; omega) (by decide) (by decide)
  · exact wide_mul (a := 10) (b := 10) (by show _ < 1024; omega) (by show _ < 1024; omega) (by decide) (by decide) (by decide)
/-- the lowest gap: as the program goes -/
def Lp.lowF (l : Lp) : Nat → Int → Int
  | 0, x => x
  | n + 1, x => if l.ll x < x then l.lowF n (l.ll x) else x
def Lp.low (l : Lp) : Int := l.lowF 10 0
theorem Lp.Ok.ll_low {l : Lp} (o : l.Ok) {i : Int} (h : -6 ≤ i) (h' : i ≤ 0) : -6 ≤ l.ll i := by
  have hc := o.cases
  have d0 := o.d0
  clear o
  unfold Lp.ll Lp.sl
  obtain ⟨k, a, c, d, st, td, md⟩ := l
  dsimp only at *
  simp only [List.mem_cons, Prod.mk.injEq, List.not_mem_nil, or_false] at hc
  rcases hc with ⟨rfl, rfl, rfl⟩ | ⟨rfl, rfl, rfl⟩ | ⟨rfl, rfl, rfl⟩ | ⟨rfl, rfl, rfl⟩ | ⟨rfl, rfl, rfl⟩ | ⟨rfl, rfl, rfl⟩ | ⟨rfl, rfl, rfl⟩ | ⟨rfl, rfl, rfl⟩ | ⟨rfl, rfl, rfl⟩ | ⟨rfl, rfl, rfl⟩ | ⟨rfl, rfl, rfl⟩ | ⟨rfl, rfl, rfl⟩ | ⟨rfl, rfl, rfl⟩ | ⟨rfl, rfl, rfl⟩ | ⟨rfl, rfl, rfl⟩ | ⟨rfl, rfl, rfl⟩ | ⟨rfl, rfl, rfl⟩
  all_goals omega
theorem Lp.lowF_spec {l : Lp} (o : l.Ok) : ∀ (n : Nat) (x : Int), -6 ≤ x → x ≤ 0 → x + 7 ≤ n → -6 ≤ l.lowF n x ∧ l.lowF n x ≤ x ∧ ¬ l.ll (l.lowF n x) < l.lowF n x
  | 0, x, h1, h2, h3 => by omega
  | n + 1, x, h1, h2, h3 => by
    unfold Lp.lowF
    by_cases h : l.ll x < x
    · rw [if_pos h]
      have := o.ll_low h1 h2
      obtain ⟨g1, g2, g3⟩ := Lp.lowF_spec o n (l.ll x) this (by omega) (by omega)
      exact ⟨g1, by omega, g3⟩
    · rw [if_neg h]
      exact ⟨h1, Int.le_refl _, h⟩
theorem Lp.Ok.low0 {l : Lp} (o : l.Ok) : -6 ≤ l.low ∧ l.low ≤ 0 ∧ ¬ l.ll l.low < l.low := Lp.lowF_spec o 10 0 (by decide) (by decide) (by decide)
theorem Lp.lowF_more {l : Lp} : ∀ (n : Nat) (x : Int), ¬ l.ll (l.lowF n x) < l.lowF n x → ∀ m, l.lowF (n + m) x = l.lowF n x
  | 0, x, h, m => by
    have h : ¬ l.ll x < x := h
    cases m with
    | zero => rfl
    | succ m => show l.lowF (0 + (m + 1)) x = x; rw [Nat.zero_add]; unfold Lp.lowF; rw [if_neg h]
  | n + 1, x, h, m => by
    rw [show n + 1 + m = (n + m) + 1 by omega]
    unfold Lp.lowF at h ⊢
    by_cases hx : l.ll x < x
    · rw [if_pos hx] at h ⊢
      rw [if_pos hx]
      exact Lp.lowF_more n (l.ll x) h m
    · rw [if_neg hx, if_neg hx]
def sp_low_gap (K : PySem.W.Frag) : Sp := fun vs H Q _ => ∃ (p : Addr) (l : Lp), vs = [.ref p] ∧ IsLp K H p l ∧ l.Ok ∧ Q (.int l.low) H
def rd_low_gap_L1 (K : PySem.W.Frag) : TS := tPar 1 2 (tCons (tVar 2) (tCons (tCall (sp_least_led K) [] E0 (tCons (tVar 0) (tCons (tVar 2) (tNil)))) (tNil)))
def rd_low_gap (K : PySem.W.Frag) : TS := tSeq (tPar 1 2 (tCons (tC (.int 0)) (tCons (tCall (sp_least_led K) [] E0 (tCons (tVar 0) (tCons (tC (.int 0)) (tNil)))) (tNil)))) (tSeq (tWhile (tTest (tOp FW.rLt (tVar 2) (tVar 1))) (rd_low_gap_L1 K)) (tRet (tVar 1)))
theorem pure_low_gap (K : PySem.W.Frag) (vs : List V) (H : Hp) (Q : VK) (E : XK) (h : sp_low_gap K vs H Q E) : rd_low_gap K { nx := fun _ H' => Q .non H', rt := Q } (start ["loop", "found", "lower"] vs) H := by
  obtain ⟨p, l, rfl, hL, o, q⟩ := h
  unfold rd_low_gap
  walk_at "rx"
  refine ⟨p, l, 0, rfl, hL, o, by decide, by decide, ?_⟩
  walk_at "rx"
  refine s_while (fun m σ H' => ∃ x : Int, m = (x + 6).toNat ∧ -6 ≤ x ∧ x ≤ 0 ∧ H' = H ∧ l.lowF (x + 7).toNat x = l.low ∧ σ = [some (.ref p), some (.int x), some (.int (l.ll x))]) 6 ⟨0, rfl, by decide, by decide, rfl, ?_, rfl⟩ ?_
  · have := Lp.lowF_spec o 7 0 (by decide) (by decide) (by decide)
    exact (Lp.lowF_more 7 0 this.2.2 3).symm
  rintro m σ H' ⟨x, rfl, x1, x2, rfl, hx, rfl⟩
  walk_at "rx"
  refine e_ite (fun z => ?_) (fun z => ?_)
  · have := o.ll_low x1 x2
    refine ⟨fun σ' H'' => H'' = H' ∧ σ' = [some (.ref p), some (.int (l.ll x)), some (.int (l.ll (l.ll x)))], fun σ' H'' hh => ?_, ?_⟩
    · obtain ⟨rfl, rfl⟩ := hh
      refine ⟨(l.ll x + 6).toNat, by omega, l.ll x, rfl, this, by omega, rfl, ?_, rfl⟩
      have sp := Lp.lowF_spec o (l.ll x + 7).toNat (l.ll x) this (by omega) (by omega)
      have e1 := Lp.lowF_more _ _ sp.2.2 ((x + 6).toNat - (l.ll x + 7).toNat)
      rw [show (l.ll x + 7).toNat + ((x + 6).toNat - (l.ll x + 7).toNat) = (x + 6).toNat by omega] at e1
      rw [← e1, ← hx, show (x + 7).toNat = (x + 6).toNat + 1 by omega]
      show _ = if l.ll x < x then l.lowF (x + 6).toNat (l.ll x) else x
      rw [if_pos z]
    · unfold rd_low_gap_L1
      walk_at "rx"
      refine ⟨p, l, l.ll x, rfl, hL, o, by omega, by omega, ?_⟩
      walk_at "rx"
      exact ⟨rfl, rfl⟩
  · walk_at "rx"
    rw [← hx, show (x + 7).toNat = (x + 6).toNat + 1 by omega] at q
    unfold Lp.lowF at q
    rw [if_neg z] at q
    exact q
end FWL
namespace FWL
open PySem PySem.Spec PyProof.Rows L2 FW
/-! ### the cuts of a gap -/
def Lp.needed (l : Lp) (i g : Int) : Int := -((l.d + l.sl * i - g * (l.a + l.c)) / l.c)
def Lp.most (l : Lp) (i : Int) : Int := if i = 1 then l.k - 1 else l.k
def Lp.rowF (l : Lp) (i : Int) : Nat → Int → List Int
  | 0, _ => []
  | n + 1, g => if l.needed i g ≤ l.most i then l.needed i g :: l.rowF i n (g + 1) else []
/-- by how much the quotient must be above its least, for the gaps that can be reached, in order -/
def Lp.rowJ (l : Lp) (i : Int) : List Int := l.rowF i 8 (l.ll i + 1)
def Lp.rowC (l : Lp) (i : Int) : List (List Int) := (l.rowJ i).map (restP l.k i)
theorem need_le {l : Lp} (o : l.Ok) {i g j : Int} : l.needed i g ≤ j ↔ g * (l.a + l.c) ≤ l.d + l.sl * i + l.c * j := by
  have c1 := o.c1
  unfold Lp.needed
  have e := Int.emod_add_mul_ediv (l.d + l.sl * i - g * (l.a + l.c)) l.c
  have m0 := Int.emod_nonneg (l.d + l.sl * i - g * (l.a + l.c)) (show l.c ≠ 0 by omega)
  have m1 := Int.emod_lt_of_pos (l.d + l.sl * i - g * (l.a + l.c)) (show 0 < l.c by omega)
  generalize (l.d + l.sl * i - g * (l.a + l.c)) / l.c = t at *
  generalize (l.d + l.sl * i - g * (l.a + l.c)) % l.c = u at *
  constructor
  · intro h
    have h1 : l.c * (-t) ≤ l.c * j := Int.mul_le_mul_of_nonneg_left h (by omega)
    have h2 : l.c * (-t) = -(l.c * t) := by grind
    omega
  · intro h
    refine Int.not_lt.mp fun z => ?_
    have h1 : l.c * (j + 1) ≤ l.c * (-t) := Int.mul_le_mul_of_nonneg_left (by omega) (by omega)
    have h2 : l.c * (-t) = -(l.c * t) := by grind
    have h3 : l.c * (j + 1) = l.c * j + l.c := by grind
    omega
theorem need_succ {l : Lp} (o : l.Ok) (i g : Int) : l.needed i g + 1 ≤ l.needed i (g + 1) := by
  have c1 := o.c1; have a1 := o.a1
  refine Int.not_lt.mp fun z => ?_
  have h1 := (need_le o (i := i) (g := g + 1) (j := l.needed i g)).mp (by omega)
  have h2 : ¬ l.needed i g ≤ l.needed i g - 1 := by omega
  rw [need_le o] at h2
  have e1 : (g + 1) * (l.a + l.c) = g * (l.a + l.c) + (l.a + l.c) := by grind
  have e2 : l.c * (l.needed i g - 1) = l.c * l.needed i g - l.c := by grind
  omega
theorem need_one {l : Lp} (o : l.Ok) (i : Int) : 1 ≤ l.needed i (l.ll i + 1) := by
  have c1 := o.c1; have a1 := o.a1
  refine Int.not_lt.mp fun z => ?_
  have h1 := (need_le o (i := i) (g := l.ll i + 1) (j := 0)).mp (by omega)
  rw [Int.mul_zero, Int.add_zero] at h1
  have h2 : (l.ll i + 1) ≤ (l.d + l.sl * i) / (l.a + l.c) := (Int.le_ediv_iff_mul_le (by omega)).mpr h1
  have e : l.d + l.sl * i = l.sl * i + l.d := by omega
  rw [e] at h2
  unfold Lp.ll at h2
  omega
theorem most4 {l : Lp} (o : l.Ok) (i : Int) : l.most i ≤ 4 := by
  have hk := o.hk
  unfold Lp.most
  split <;> omega
theorem row_pos {l : Lp} (o : l.Ok) {i : Int} : ∀ (n : Nat) (g : Int), 1 ≤ l.needed i g → ∀ j, j ∈ l.rowF i n g → 1 ≤ j ∧ j ≤ l.most i
  | 0, _, _, _, h => by cases h
  | n + 1, g, h1, j, h => by
    unfold Lp.rowF at h
    by_cases hm : l.needed i g ≤ l.most i
    · rw [if_pos hm] at h
      rcases List.mem_cons.mp h with rfl | h
      · exact ⟨h1, hm⟩
      · exact row_pos o n (g + 1) (by have := need_succ o i g; omega) j h
    · rw [if_neg hm] at h; cases h
theorem row_len {l : Lp} (o : l.Ok) {i : Int} : ∀ (n : Nat) (g : Int), 1 ≤ l.needed i g → ((l.rowF i n g).length : Int) ≤ max 0 (5 - l.needed i g)
  | 0, _, _ => by show (0 : Int) ≤ _; omega
  | n + 1, g, h1 => by
    have m4 := most4 o i
    have s := need_succ o i g
    unfold Lp.rowF
    by_cases hm : l.needed i g ≤ l.most i
    · rw [if_pos hm]
      have := row_len o (i := i) n (g + 1) (by omega)
      rw [List.length_cons]
      omega
    · rw [if_neg hm]; show (0 : Int) ≤ _; omega
theorem rowJ_len {l : Lp} (o : l.Ok) (i : Int) : (l.rowJ i).length ≤ 4 := by
  have := row_len o (i := i) 8 (l.ll i + 1) (need_one o i)
  have := need_one o i
  unfold Lp.rowJ
  omega
theorem ll_bound {l : Lp} (o : l.Ok) {i : Int} (h1 : -40 ≤ i) (h2 : i ≤ 40) : -60 ≤ l.ll i ∧ l.ll i ≤ 60 := by
  have hc := o.cases
  have d0 := o.d0; have d1 := o.d1
  clear o
  unfold Lp.ll Lp.sl
  obtain ⟨k, a, c, d, st, td, md⟩ := l
  dsimp only at *
  simp only [List.mem_cons, Prod.mk.injEq, List.not_mem_nil, or_false] at hc
  rcases hc with ⟨rfl, rfl, rfl⟩ | ⟨rfl, rfl, rfl⟩ | ⟨rfl, rfl, rfl⟩ | ⟨rfl, rfl, rfl⟩ | ⟨rfl, rfl, rfl⟩ | ⟨rfl, rfl, rfl⟩ | ⟨rfl, rfl, rfl⟩ | ⟨rfl, rfl, rfl⟩ | ⟨rfl, rfl, rfl⟩ | ⟨rfl, rfl, rfl⟩ | ⟨rfl, rfl, rfl⟩ | ⟨rfl, rfl, rfl⟩ | ⟨rfl, rfl, rfl⟩ | ⟨rfl, rfl, rfl⟩ | ⟨rfl, rfl, rfl⟩ | ⟨rfl, rfl, rfl⟩ | ⟨rfl, rfl, rfl⟩
  all_goals omega
def sp_needed (K : PySem.W.Frag) : Sp := fun vs H Q _ => ∃ (p : Addr) (l : Lp) (i g : Int), vs = [.ref p, .int i, .int g] ∧ IsLp K H p l ∧ l.Ok ∧ -1000 ≤ i ∧ i ≤ 1000 ∧ -1000 ≤ g ∧ g ≤ 1000 ∧ Q (.int (l.needed i g)) H
def rd_needed (K : PySem.W.Frag) : TS := tRet (tUn FW.rNeg (tOp FW.rDiv (tOp FW.rSub (tOp FW.rAdd (tFld K (tVar 0) "d") (tOp FW.rMul (tCall (sp_slant K) [] E0 (tCons (tVar 0) (tNil))) (tVar 1))) (tOp FW.rMul (tVar 2) (tOp FW.rAdd (tFld K (tVar 0) "a") (tFld K (tVar 0) "c")))) (tFld K (tVar 0) "c")))
theorem pure_needed (K : PySem.W.Frag) (A : AvK K) (vs : List V) (H : Hp) (Q : VK) (E : XK) (h : sp_needed K vs H Q E) : rd_needed K { nx := fun _ H' => Q .non H', rt := Q } (start ["loop", "i", "gap"] vs) H := by
  obtain ⟨p, l, i, g, rfl, hL, o, i1, i2, g1, g2, q⟩ := h
  obtain ⟨dx, hp⟩ := id hL
  have A' := A; cases A'
  have a1 := o.a1; have c1 := o.c1; have ac := o.ac; have c3 := o.c3
  have s0 := o.sl0
  unfold rd_needed
  walk_at "rx"
  refine ⟨p, l, rfl, hL, o, ?_⟩
  walk_at "rx"
  · exact q
  · exact wide_div (b := 10) (by omega) (by show _ < 1024; omega) (by decide) (by decide)
  · exact wide_mul (a := 10) (b := 10) (by show _ < 1024; omega) (by show _ < 1024; omega) (by decide) (by decide) (by decide)
  · exact wide_mul (a := 10) (b := 10) (by show _ < 1024; omega) (by show _ < 1024; omega) (by decide) (by decide) (by decide)
/-- values that are tuples of these coefficients -/
def Pls (H : Hp) (xs : List V) (ps : List (List Int)) : Prop := Paired (fun v cs => ∃ a, v = .ref a ∧ H a = some (.tup (cs.map V.int))) xs ps
theorem Pls.ext {H H' : Hp} {xs : List V} {ps : List (List Int)} (h : Pls H xs ps) (e : Ext H H') : Pls H' xs ps := Paired.mapP h fun _ _ ⟨a, h1, h2⟩ => ⟨a, h1, e _ _ h2⟩
theorem Pls.len {H : Hp} {xs : List V} {ps : List (List Int)} (h : Pls H xs ps) : xs.length = ps.length := Paired.length h
def sp_row_cuts (K : PySem.W.Frag) : Sp := fun vs H Q _ => ∃ (p : Addr) (l : Lp) (i : Int), vs = [.ref p, .int i] ∧ IsLp K H p l ∧ l.Ok ∧ -40 ≤ i ∧ i ≤ 40 ∧
  ∀ t xs H', H t = none → Ext H H' → H' t = some (.lst xs) → Pls H' xs (l.rowC i) → Q (.ref t) H'
def rd_row_cuts_L1 (K : PySem.W.Frag) : TS := tSeq (tDrop (tBM K "list" rAppend (tVar 3) (tCons (tCall (sp_rest_poly K) [] E0 (tCons (tFld K (tVar 0) "k") (tCons (tVar 1) (tCons (tCall (sp_needed K) [] E0 (tCons (tVar 0) (tCons (tVar 1) (tCons (tVar 4) (tNil))))) (tNil))))) (tNil)))) (tAug 4 (tC (.int 1)) FW.iAdd)
def rd_row_cuts (K : PySem.W.Frag) : TS := tSeq (tAsg (tIf (tTest (tOp rEq (tVar 1) (tC (.int 1)))) (tOp FW.rSub (tFld K (tVar 0) "k") (tC (.int 1))) (tFld K (tVar 0) "k")) (gName 2)) (tSeq (tPar 3 4 (tCons (tLst (tNil)) (tCons (tOp FW.rAdd (tCall (sp_least_led K) [] E0 (tCons (tVar 0) (tCons (tVar 1) (tNil)))) (tC (.int 1))) (tNil)))) (tSeq (tWhile (tTest (tOp FW.rLe (tCall (sp_needed K) [] E0 (tCons (tVar 0) (tCons (tVar 1) (tCons (tVar 4) (tNil))))) (tVar 2))) (rd_row_cuts_L1 K)) (tRet (tVar 3))))
theorem pure_row_cuts (K : PySem.W.Frag) (A : AvK K) (vs : List V) (H : Hp) (Q : VK) (E : XK) (h : sp_row_cuts K vs H Q E) : rd_row_cuts K { nx := fun _ H' => Q .non H', rt := Q } (start ["loop", "i", "most", "found", "gap"] vs) H := by
  obtain ⟨p, l, i, rfl, hL, o, i1, i2, q⟩ := h
  obtain ⟨dx, hp⟩ := id hL
  have A' := A; cases A'
  have hk := o.hk
  have lb := ll_bound o i1 i2
  have n1 := need_one o i
  have m4 := most4 o i
  have sz := sizeLine_eq
  have key : ∀ R : VK, R (.int (l.most i)) H → tIf (tTest (tOp rEq (tVar 1) (tC (.int 1)))) (tOp FW.rSub (tFld K (tVar 0) "k") (tC (.int 1))) (tFld K (tVar 0) "k") (start ["loop", "i", "most", "found", "gap"] [.ref p, .int i]) H R := fun R h => by
    unfold Lp.most at h
    walk_at "ry"
    refine e_ite (fun hi => ?_) (fun hi => ?_)
    · rw [if_pos hi] at h
      walk_at "ry"
      exact h
    · rw [if_neg hi] at h
      walk_at "ry"
      exact h
  unfold rd_row_cuts
  with_reducible refine s_seq ?_
  with_reducible refine s_asg ?_
  refine key _ ?_
  walk_at "rx"
  have hF0 := nz
  refine ⟨p, l, i, rfl, hL.ext ne, o, by omega, by omega, ?_⟩
  walk_at "rx"
  refine s_while (fun m σ H' => ∃ (n : Nat) (g : Int) (js : List Int) (xs : List V), m = (5 - l.needed i g).toNat ∧ l.rowJ i = js ++ l.rowF i n g ∧ n + js.length = 8 ∧ g = l.ll i + 1 + js.length ∧ 1 + (js.length : Int) ≤ l.needed i g ∧ js.length ≤ 4 ∧
      Ext H H' ∧ H' nt = some (.lst xs) ∧ Pls H' xs (js.map (restP l.k i)) ∧ σ = [some (.ref p), some (.int i), some (.int (l.most i)), some (.ref nt), some (.int g)]) (5 - l.needed i (l.ll i + 1)).toNat
    ⟨8, l.ll i + 1, [], [], rfl, rfl, rfl, by simp, by show 1 + (0 : Int) ≤ _; omega, by decide, ne, nh, .nil, rfl⟩ ?_
  rintro m σ H' ⟨n, g, js, xs, rfl, hJ, hn, hg, hnd, jl, e, hF, hP, rfl⟩
  have hL' := hL.ext e
  walk_at "rx"
  refine ⟨p, l, i, g, rfl, hL', o, by omega, by omega, by omega, by omega, ?_⟩
  walk_at "rx"
  obtain ⟨dx', hp'⟩ := id hL'
  refine e_ite (fun z => ?_) (fun z => ?_)
  · obtain ⟨n', rfl⟩ : ∃ n', n = n' + 1 := ⟨n - 1, by omega⟩
    have ns := need_succ o i g
    refine ⟨fun σ' H'' => ∃ xs', Ext H H'' ∧ H'' nt = some (.lst xs') ∧ Pls H'' xs' ((js ++ [l.needed i g]).map (restP l.k i)) ∧ σ' = [some (.ref p), some (.int i), some (.int (l.most i)), some (.ref nt), some (.int (g + 1))], fun σ' H'' hh => ?_, ?_⟩
    · obtain ⟨xs', e', hF', hP', rfl⟩ := hh
      refine ⟨(5 - l.needed i (g + 1)).toNat, by omega, n', g + 1, js ++ [l.needed i g], xs', rfl, ?_, by rw [List.length_append, List.length_singleton]; omega, by rw [List.length_append, List.length_singleton]; omega, by rw [List.length_append, List.length_singleton]; omega, by rw [List.length_append, List.length_singleton]; omega, e', hF', hP', rfl⟩
      rw [hJ, List.append_assoc]
      congr 1
      show l.rowF i (n' + 1) g = l.needed i g :: l.rowF i n' (g + 1)
      conv => lhs; unfold Lp.rowF
      rw [if_pos z]
    · unfold rd_row_cuts_L1
      walk_at "rx"
      refine ⟨p, l, i, g, rfl, hL', o, by omega, by omega, by omega, by omega, ?_⟩
      walk_at "rx"
      refine ⟨l.k, i, l.needed i g, rfl, by omega, by omega, by omega, by omega, by omega, by omega, fun t H2 ht e2 h2 _ => ?_⟩
      walk_at "rx"
      have xl := hP.len
      rw [List.length_map] at xl
      refine ⟨nt, _, _, rfl, rfl, e2 _ _ hF, by omega, ?_⟩
      walk_at "rx"
      refine ⟨_, (e.tr e2).upds hF0, upd_same, ?_, rfl⟩
      have e3 : ∀ b u, H' b = some u → b ≠ nt → upd H2 nt (.lst (xs ++ [.ref t])) b = some u := fun b u h hb => by rw [upd_ne hb]; exact e2 _ _ h
      have tn : t ≠ nt := fun z => by rw [z, hF] at ht; cases ht
      rw [List.map_append]
      refine Paired.snoc (Paired.mapP hP fun v cs ⟨a, h1, h2⟩ => ⟨a, h1, e3 _ _ h2 (ne_of h2 hF (fun z => nomatch z))⟩) ⟨t, rfl, by rw [upd_ne tn]; exact h2⟩
  · walk_at "rx"
    have e0 : l.rowF i n g = [] := by
      cases n with
      | zero => rfl
      | succ n => unfold Lp.rowF; rw [if_neg z]
    rw [e0, List.append_nil] at hJ
    refine q nt xs H' hF0 e hF ?_
    unfold Lp.rowC
    rw [hJ]; exact hP
end FWL
/-! a tuple times 1 is itself -/
namespace FWK
open PySem PySem.Spec PyProof.Rows L2
theorem tup_mul1 (l : Addr) (items : Array Value) (n : Nat) (dd : Option Addr) (sl : Array (Option Value)) (u : Tok) : Meets (Builtin.«tuple.__mul__» ⟨[.ref l, .int 1 u], []⟩) (fun _ R s => s.heap.get? l = some { cls := .type "tuple", dict := dd, data := .seq items n, slots := sl } ∧ R (.ok (.ret (Value.ref l))) s) :=
  .of_wp fun prog w A R s h => by
    obtain ⟨hp, g, d, tk, os⟩ := s
    obtain ⟨hl, h⟩ := h
    have f1 := AutoSeq1.idx_int
    have c0 : (decide ((1 : Int) < -(2 ^ 63)) || decide ((1 : Int) ≥ 2 ^ 63)) = false := by decide
    have c1 : (items.isEmpty || (1 : Int) == 1) = true := by simp
    wp_walk using wpAny_loadPart' hl
    repeat (first
      | (refine wpAny_ite_false (decide_eq_false (by rw [c0]; exact Bool.false_ne_true)) ?_; wp_walk using wpAny_loadPart' hl)
      | (refine wpAny_ite_true (decide_eq_true c1) ?_; wp_walk using wpAny_loadPart' hl))
    exact ⟨_, rfl, h⟩
def rRepT1 (K : PySem.W.Frag) : R2 := fun x y H Q => ∃ l xs, x = .ref l ∧ y = .int 1 ∧ SqT K H l xs ∧ Q (.ref l) H
theorem op_repT1 {X : Cx} : OpR X (binaryOp .Mult) (rRepT1 X.K) := by
  intro pins s σ H x y v u Q I rx ry h
  obtain ⟨l, xs, rfl, rfl, hT, q⟩ := h
  cases rx
  obtain ⟨t, rfl⟩ := ry
  obtain ⟨its, r, ⟨⟨cls, dd, data, sl⟩, ho, hc, n, hd⟩, hs⟩ := I.tuple hT
  simp only at hc hd
  subst hc hd
  refine wpAny_binaryOp_repeat_ref (T := "tuple") (U := "int") (by decide) ⟨_, ho, rfl⟩ (fun s' => typeIs_int s' 1 t) noFill_tuple_mul F.fills_int_mul F.slot_int_rmul repeat_tuple F.slot_int_index.lookup
    (call_meets F.slot_int_rmul (typeIs_int s 1 t) F.entry_int_rmul (F.args_int_rmul_2 _ _) (int_rmul_tuple 1 t l its.toArray n dd sl)
      ⟨ho, rfl, ⟨_, ho, rfl⟩, call_meets F.slot_tuple_mul ⟨_, ho, rfl⟩ F.entry_tuple_mul (F.args_tuple_mul_2 _ _) (tup_mul1 l its.toArray n dd sl t) ⟨ho, ?_⟩⟩)
  exact ⟨.ref l, H, I, rfl, q⟩
end FWK
/-! sorted(xs, key=f) where f's calls make new lists: the machine's part -/
namespace FWK
open PySem PySem.W PySem.Calls PyProof.Rows
/-- all but the two stand -/
def But2 (a c : Addr) (h h' : Heap) : Prop := ∀ b o, b ≠ a → b ≠ c → h.get? b = some o → h'.get? b = some o
section
variable {prog : Program} {w : World} {A : Around} {E : Value → Shared → Prop} {s : Shared} {a c : Addr} {vs out : List Value} {ks : Array Value} {n m : Nat} {P : PySem.Fin → Shared → Prop} {f : Value}
theorem tail2 {st : SortSt} (hc : s.heap.get? c = some (seqObj "list" ks n)) (ha : s.heap.get? a = some (seqObj "list" #[] m)) (ne : c ≠ a) (z1 : ks.size ≤ sizeLine) (z2 : out.length ≤ sizeLine)
    (nf : failedOf st = none) (eo : (arrOf st).map (·.2) = out.toArray)
    (k : ∀ h' tk q, But2 a c s.heap h' → h'.get? a = some (seqObj "list" out.toArray q) → P (.done (.ret .none)) { s with heap := h', toks := tk }) : wpAny (model prog w) A (ksk_tail a false m (.ref c) st) P E s := by
  have b1 := Heap.SameBut.update s.heap c (Obj.mapSeq fun _ => (#[] : Array Value))
  generalize hg : s.heap.update c (Obj.mapSeq fun _ => (#[] : Array Value)) = g at b1
  have ha1 : g.get? a = some (seqObj "list" #[] m) := (b1.2 a ne.symm).trans ha
  have b2 := Heap.SameBut.update g a (Obj.mapSeq fun _ => out.toArray)
  obtain ⟨q, hq⟩ : ∃ q, (g.update a (Obj.mapSeq fun _ => out.toArray)).get? a = some (seqObj "list" out.toArray q) := ⟨_, get?_update_seq ha1 fun _ => out.toArray⟩
  have z3 : out.toArray.size ≤ sizeLine + 1 := by rw [List.size_toArray]; omega
  unfold ksk_tail
  try dsimp only
  rw [if_neg (show ¬ (false = true) by decide), eo]
  refine wpAny_bind (listUpdate_at (n := n) hc rfl ?_ z1 (Nat.zero_le _))
  rw [hg]
  refine wpAny_bind (wpAny_letGo ?_)
  refine wpAny_bind (seqEpoch_at (n := m) ha1 rfl ?_)
  refine wpAny_bind (listUpdate_at (n := m) ha1 rfl ?_ (Nat.zero_le _) z3)
  rw [nf]
  simp only [bne_self_eq_false, Bool.false_eq_true, if_false]
  exact wpAny_pure (k _ _ q (fun b o h1 h2 e => (b2.2 b h1).trans ((b1.2 b h2).trans e)) hq)
theorem end2 {κ : PyProof.Rows.KeyKind} (hc : s.heap.get? c = some (seqObj "list" ks n)) (ha : s.heap.get? a = some (seqObj "list" #[] m)) (ne : c ≠ a) (S : SortsAt prog w A s κ ks.toList) (zk : ks.size = vs.length) (zz : vs.length ≤ sizeLine)
    (k : ∀ h' tk q, But2 a c s.heap h' → h'.get? a = some (seqObj "list" (sortVals κ false ks.toList vs).toArray q) → P (.done (.ret .none)) { s with heap := h', toks := tk }) : wpAny (model prog w) A (ksk_end a false vs.toArray m (.ref c) ks) P E s := by
  obtain ⟨kd, g1, g2⟩ := S.kind
  have zl : ks.toList.length = vs.length := Array.length_toList.trans zk
  have KZ : PyProof.Rows.KeysOf κ (ks.zip vs.toArray) := keysOf_zip S.keys
  have zo : (sortVals κ false ks.toList vs).length = vs.length := sortVals_length false zl
  have zs : (ks.zip vs.toArray).size = vs.length := by rw [Array.size_zip, zk, List.size_toArray, Nat.min_self]
  have got : ∀ u : SortSt, (arrOf u).Perm (ks.zip vs.toArray) → SortedToK κ (arrOf u) (ks.zip vs.toArray).size → Stable κ (arrOf u) (ks.zip vs.toArray) → (arrOf u).map (·.2) = (sortVals κ false ks.toList vs).toArray := by
    intro u p1 p2 p3
    have e := congrArg List.toArray (sort_out (rev := false) (keys := ks) (items := vs.toArray) (xs := arrOf u) (κ := κ) KZ p1 p2 p3)
    rw [Array.toArray_toList] at e
    exact e
  unfold ksk_end
  try dsimp only
  rw [if_neg (show ¬ (false = true) by decide)]
  by_cases few : vs.toArray.size < 2
  · rw [if_pos few, if_pos few]
    refine wpAny_bind (wpAny_pure ?_)
    rw [StateT.run_pure]
    refine wpAny_bind (wpAny_pure ?_)
    try dsimp only
    refine tail2 (st := SortSt.mk' general' (ks.zip vs.toArray) #[] 7 none) hc ha ne (by omega) (by omega) rfl (got _ (Array.Perm.refl _) (fun i j hij hj => ?_) (Stable.refl _)) k
    rw [zs] at hj
    rw [List.size_toArray] at few
    obtain rfl : i = j := by omega
    exact KeyOrd.kle_refl _
  · rw [if_neg few, if_neg few]
    rw [List.size_toArray] at few
    refine wpAny_bind (g2 (by omega) _ ?_)
    refine wpAny_bind (wpAny_mono (H.wpS_sortRunsSt (κ := κ) (kd := kd) (a₀ := ks.zip vs.toArray) (st := SortSt.mk' kd (ks.zip vs.toArray) #[] 7 none)
      (Q := fun _ u => failedOf u = none ∧ (arrOf u).map (·.2) = (sortVals κ false ks.toList vs).toArray)
      g1 KZ ⟨Array.Perm.refl _, rfl, rfl⟩ rfl (Stable.refl _) (by omega) fun u a1 a2 a3 a4 => ⟨a2, got u a1 a3 a4⟩) ?_ fun _ _ e => e)
    rintro ⟨⟨⟩, u⟩ t ⟨rfl, h1, h2⟩
    try dsimp only at h2 ⊢
    exact tail2 hc ha ne (by omega) (by omega) h1 h2 k
/-- the keys are made one behind the other -/
theorem keys_made (G : Nat → List Value → Shared → Prop) (zz : vs.length ≤ sizeLine) (h0 : G 0 [] s) (hl : ∀ j us t, G j us t → us.length = j)
    (turn : ∀ (j : Nat) (x : Value) (us : List Value) (t : Shared), vs[j]? = some x → G j us t → wpAny (model prog w) A (call f [x])
      (fun v t2 => (∃ q, t2.heap.get? c = some (seqObj "list" us.toArray q)) ∧ G (j + 1) (us ++ [v]) { t2 with heap := t2.heap.update c (Obj.mapSeq (·.push v)) }) (fun _ _ => False) t)
    (fin : ∀ us t, G vs.length us t → (∃ q, t.heap.get? c = some (seqObj "list" us.toArray q)) ∧ wpAny (model prog w) A (ksk_end a false vs.toArray m (.ref c) us.toArray) P E t) :
    wpAny (model prog w) A (ksk_rest a f false vs.toArray m (.ref c)) P E s := by
  unfold ksk_rest
  refine wpAny_bind (wpAny_rule ?_)
  rw [List.forIn_toArray]
  refine wpAny_bind (ksk_fold (fun i t => ∃ us, G i us t) vs 0 s ⟨[], h0⟩ ?_ ?_)
  · rintro j x t hx ⟨us, hg⟩
    rw [Nat.zero_add] at hg ⊢
    have hj : j < vs.length := (List.getElem?_eq_some_iff.mp hx).1
    have hu := hl _ _ _ hg
    refine wpAny_bind (wpAny_attempt (wpAny_mono (turn j x us t hx hg) (fun v t2 he => ?_) fun _ _ hF => hF.elim))
    obtain ⟨⟨q, hq⟩, he⟩ := he
    try dsimp only
    refine wpAny_bind (listUpdate_at (n := q) hq rfl ?_ (by rw [List.size_toArray]; omega) (by rw [Array.size_push, List.size_toArray]; omega))
    exact wpAny_pure ⟨rfl, _, he⟩
  · rintro t ⟨us, hg⟩
    rw [Nat.zero_add] at hg
    obtain ⟨⟨q, hq⟩, h⟩ := fin us t hg
    have hu := hl _ _ _ hg
    try dsimp only
    refine wpAny_bind (listItems_at (n := q) hq rfl ?_)
    exact h
/-- list.sort of a list at a -/
theorem tree2 (ha : s.heap.get? a = some (seqObj "list" vs.toArray n)) (zz : vs.length ≤ sizeLine)
    (k : ∀ (c m : Nat) (g : Heap) (tk : Nat), c ≠ a → s.heap.objs.size ≤ c → (∀ b o, b ≠ a → s.heap.get? b = some o → g.get? b = some o) → g.get? c = some (seqObj "list" #[] 0) → g.get? a = some (seqObj "list" #[] m) →
      wpAny (model prog w) A (ksk_rest a f false vs.toArray m (.ref c)) P E { s with heap := g, toks := tk }) : wpAny (model prog w) A (ksk_tree a f false) P E s := by
  have al : a < s.heap.objs.size := Heap.lt_size ha
  have b1 := Heap.SameBut.update s.heap a (Obj.mapSeq fun _ => (#[] : Array Value))
  obtain ⟨m, hm⟩ : ∃ m, (s.heap.update a (Obj.mapSeq fun _ => (#[] : Array Value))).get? a = some (seqObj "list" #[] m) := ⟨_, get?_update_seq ha fun _ => #[]⟩
  have hsz : (s.heap.update a (Obj.mapSeq fun _ => (#[] : Array Value))).objs.size = s.heap.objs.size := Heap.size_update ..
  unfold ksk_tree
  refine wpAny_bind (listItems_at (n := n) ha rfl ?_)
  refine wpAny_bind (listUpdate_at (n := n) ha rfl ?_ (by rw [List.size_toArray]; exact zz) (Nat.zero_le _))
  generalize s.heap.update a (Obj.mapSeq fun _ => (#[] : Array Value)) = g at b1 hm hsz
  refine wpAny_bind (seqEpoch_at (n := m) hm rfl ?_)
  refine wpAny_bind (wpAny_newTuple ?_ (by show vs.length ≤ _; exact zz))
  refine wpAny_bind (wpAny_newList ?_ (Nat.zero_le _))
  refine wpAny_holding ?_
  have hp : (g.push (seqObj "tuple" vs.toArray 0)).objs.size = s.heap.objs.size + 1 := by rw [size_push', hsz]
  refine k _ m ((g.push (seqObj "tuple" vs.toArray 0)).push (seqObj "list" #[] 0)) _ ?_ ?_ (fun b o hb e => ?_) (Heap.get?_push_size _ rfl) ?_
  · exact fun e => absurd al (by rw [← e, hp]; exact Nat.not_lt.mpr (Nat.le_succ _))
  · rw [hp]; exact Nat.le_succ _
  · exact Heap.get?_push_of_some _ (Heap.get?_push_of_some _ ((b1.2 b hb).trans e))
  · exact Heap.get?_push_of_some _ (Heap.get?_push_of_some _ hm)
end
end FWK
namespace FWN
open PySem PySem.Spec PyProof.Rows L2 FW
/-! ### several clauses «except X as n» -/
/-- an exception that a try of X has caught; s: the state in which the clauses are asked -/
structure Cau (X : Cx) (pins : List (Addr × Obj)) (a : Addr) (B : Heap) (sI : Shared) (σ : L2.St) (H : Hp) (cls : Value) (d : Option Addr) (s : Shared) : Prop where
  hs : X.stack = X.env :: X.outer
  hf : X.env.frame = some X.env.locals
  inv : Inv X pins σ H sI
  nb : ∀ b o, sI.heap.get? b = some o → b ∉ frs X.stack → B.get? b = some o
  up : sI.heap.UpToSlots s.heap
  fly : HandSPX.FlyingZ B (X.env :: X.outer) a (L2N.Zn cls d) s.heap
  na : H a = none
  os : s.os = sI.os
  ag : AllBare s.gens
section
variable {X : Cx} {pins : List (Addr × Obj)} {a : Addr} {B : Heap} {sI s : Shared} {σ : L2.St} {H : Hp} {cls : Value} {d : Option Addr}
theorem Cau.now (c : Cau X pins a B sI σ H cls d s) : Inv X pins σ H s := c.inv.landed c.nb c.fly.1 c.up c.os c.ag
theorem Cau.on (c : Cau X pins a B sI σ H cls d s) {g : Heap} (f : HandSPX.FlyingZ B (X.env :: X.outer) a (L2N.Zn cls d) g) (u : s.heap.UpToSlots g) : Cau X pins a B sI σ H cls d { s with heap := g } :=
  ⟨c.hs, c.hf, c.inv, c.nb, c.up.trans u, f, c.na, c.os, c.ag⟩
theorem Cau.apart (c : Cau X pins a B sI σ H cls d s) : a ≠ X.env.locals ∧ a ∉ X.fs := by
  have no : a ∉ frs (X.env :: X.outer) := fun m => by
    obtain ⟨ox, vx, hx, _, dx⟩ := c.fly.there
    obtain ⟨_, ox', hx', nx⟩ := c.fly.2.2.1.mem m
    rw [hx] at hx'
    cases hx'
    exact nx _ dx
  have m0 : X.env.locals ∈ frs (X.env :: X.outer) := List.mem_filterMap.mpr ⟨X.env, List.mem_cons_self, c.hf⟩
  refine ⟨fun z => no (by rw [z]; exact m0), fun m => no ?_⟩
  obtain ⟨en, me, q⟩ := List.mem_filterMap.mp m
  exact List.mem_filterMap.mpr ⟨en, List.mem_cons_of_mem _ me, q⟩
theorem Cau.hold (c : Cau X pins a B sI σ H cls d s) : ∃ oe, L2N.Zn cls d oe ∧ (∃ vs, oe.data = .fields vs) ∧ s.heap.get? a = some oe ∧ Inv (X.suite a ((a, oe) :: (X.pn ++ pins))) [] σ H s := by
  obtain ⟨oe, vs, he, hz, hd⟩ := c.fly.there
  exact ⟨oe, hz, ⟨vs, hd⟩, he, c.now.suite he hd c.na c.apart.1 c.apart.2⟩
inductive Hds (X : Cx) : List ExceptHandler → List Cl → Prop
  | nil : Hds X [] []
  | cons {x n : Str} {k : Cl} {b₀ : Stmt} {suite : List Stmt} {np pos' : Pos} {hds : List ExceptHandler} {l : List Cl} (hN : X.N.Nodup) (hi : X.N[k.i]? = some n) (hln : X.env.kindOf n = some .local) (hc : Names X x k.c)
      (hsu : ∀ (a : Addr) (oe : Obj) (cls : Value) (d : Option Addr) (pn : List (Addr × Obj)), L2N.Zn cls d oe → (∃ vs, oe.data = .fields vs) → PSs (X.suite a ((a, oe) :: pn)) (b₀ :: suite) (k.ts a cls d)) (r : Hds X hds l) :
      Hds X (.ExceptHandler (some (.Name x np)) (some n) (b₀ :: suite) pos' :: hds) (k :: l)
/-- no clause takes it: it goes on -/
theorem Cau.pass (c : Cau X pins a B sI σ H cls d s) {Wout : WX} {Q : Flow → Shared → Prop} (tk : L2N.Takes X Wout) (w : Wout cls d σ H) : wpAny (model X.prog X.w) X.A (handleBy (.ref a) X.env []) Q X.xe s := by
  refine wpAny_handleBy_nil ?_
  have up0 : wpAny (model X.prog X.w) X.A (setFlight (.ref a) X.env.frame) (fun _ s4 => wpAny (model X.prog X.w) X.A (throw (.ref a) : Sem Flow) Q X.xe s4) X.xe s := by
    rw [c.hf]
    refine HandSPX.setFlight_upZ c.fly fun g gh gu => wpAny_throw (tk _ _ ?_)
    exact ⟨a, B, sI, pins, σ, H, cls, d, rfl, c.inv, c.nb, c.up.trans gu, .inr (.inr (by rw [c.hs]; exact gh)), c.na, c.os, c.ag, w⟩
  obtain ⟨_, _, _, oe, vs, Tb, oT, us, he, _, hd, h1, _⟩ := c.fly
  unfold PySem.passOn
  refine wpAny_bind (wpAny_field he hd h1 ?_)
  rw [if_neg (by simp)]
  first
    | exact wpAny_bind (wpAny_pure (wpAny_bind up0))
    | exact wpAny_bind up0
/-- the clauses, one behind the other -/
theorem Cau.ask {D : Ends} {Wout : WX} (tk : L2N.Takes X Wout) : ∀ {hds : List ExceptHandler} {l : List Cl}, Hds X hds l → Cau X pins a B sI σ H cls d s → wCls X.K Wout D l cls d σ H →
    wpAny (model X.prog X.w) X.A (handleBy (.ref a) X.env hds) (SP X pins D) X.xe s := by
  intro hds l hk c
  induction hk with
  | nil => exact fun w => c.pass tk w
  | @cons x n k b₀ suite np pos' hds' l' hN hi hln hc hsu _ ih =>
    rintro ⟨b, hb, yes, no⟩
    obtain ⟨oe, hz, hfl, he, S⟩ := c.hold
    refine wpAny_handleBy_cons (codeAny_handlers_test ?_) (by intro q; cases q)
    have lt : PySem.W.Looks (model X.prog X.w) s.heap (typeOf (.ref a)) cls := fun _ _ _ _ kp q => wpAny_typeOf_ref (kp _ _ he) (by rw [hz.1]; exact q)
    have lm := PySem.W.exm_one (M := model X.prog X.w) c.now.kIn lt hb
    have name : ∀ {Q : Value → Shared → Prop} {E : Value → Shared → Prop}, Q k.c s → wpAny (model X.prog X.w) (X.A.mark (some (.ref a))) (eval (.Name x np) X.env) Q E s := fun {Q E} q => by
      rcases hc with ⟨hg, hdb, hm | ⟨hm, hv, hnn⟩⟩
      · exact ld_glob (X := X.suite a ((a, oe) :: (X.pn ++ pins))) S hg hm q hdb
      · exact ld_blt (X := X.suite a ((a, oe) :: (X.pn ++ pins))) S hg hm hv q hnn hdb
    refine name (lm.here ?_)
    cases b with
    | false =>
      show wpAny _ X.A (handleBy (.ref a) X.env hds') _ _ _
      exact ih (no rfl)
    | true =>
      refine codeAny_handlers_suite_as (HandSPX.lands_againZ c.fly fun g gf gu => ?_)
      have c' := c.on gf gu
      obtain ⟨o2, z2, f2, e2, S2⟩ := c'.hold
      refine store_ok (X := X.suite a ((a, o2) :: (X.pn ++ pins))) (v := .ref a) S2 hN hi (.inl hln) rfl (fun s5 S5 => ?_) (.inr hln)
      refine wpAny_mono ((hsu a o2 cls d (X.pn ++ pins) z2 f2).run [] s5 _ H _ S5 (yes rfl a c.na)) (fun fl s6 hsp => ?_) (fun _ _ z => False.elim z)
      have leave : ∀ {τ : L2.St} {G : Hp} {Q : Shared → Prop}, Inv (X.suite a ((a, o2) :: (X.pn ++ pins))) [] τ G s6 → (∀ s7, Inv X pins (τ.set k.i none) G s7 → Q s7) →
          wpAny (model X.prog X.w) X.A (do bindName X.env n .none; unbindBehindTheSuite X.env n pos') (fun _ s7 => Q s7) X.xe s6 := fun {τ G Q} S6 hq => gone_ok (S6.unsuite c.inv.ok) hN hi hln hq
      cases fl with
      | ret u =>
        obtain ⟨v6, τ, G, S6, r6, q6⟩ := hsp
        exact leave S6 fun s7 J7 => ⟨_, _, _, J7, r6, q6⟩
      | next =>
        obtain ⟨τ, G, S6, q6⟩ := hsp
        exact leave S6 fun s7 J7 => ⟨_, _, J7, q6⟩
      | brk =>
        obtain ⟨τ, G, S6, q6⟩ := hsp
        exact leave S6 fun s7 J7 => ⟨_, _, J7, q6⟩
      | cont =>
        obtain ⟨τ, G, S6, q6⟩ := hsp
        exact leave S6 fun s7 J7 => ⟨_, _, J7, q6⟩
end
section
variable {X : Cx} {body : List Stmt} {h₀ : ExceptHandler} {hds : List ExceptHandler} {l : List Cl} {pos : Pos} {tb : WX → TS} {Wout : WX}
/-- try: body except X1 as n1: .. except X2 as n2: .. -/
theorem ps_tryA (hs : X.stack = X.env :: X.outer) (hf : X.env.frame = some X.env.locals) (tk : L2N.Takes X Wout)
    (hb : ∀ (W : WX) (pn : List (Addr × Obj)) (xe : Value → Shared → Prop), L2N.Takes (X.tr pn xe) W → PassesOwn (model X.prog X.w) X.A X.env xe → PSs (X.tr pn xe) body (tb W))
    (hh : Hds X (h₀ :: hds) l) : PS X (.Try body (h₀ :: hds) [] [] pos) (tTryA X.K tb l Wout) := by
  refine ⟨fun pins s σ H D I h => wpAny_Try_except ?_⟩
  have fr : X.A.frames = some (X.env :: X.outer) := by rw [I.ok.frames, hs]
  have run := (hb (wCls X.K Wout D l) (X.pn ++ pins) (fun e s₁ => wpAny (model X.prog X.w) X.A (noteFrame e X.env) (fun _ s₂ => wpAny (model X.prog X.w) X.A (setFlight e none)
    (fun _ s₃ => wpAny (model X.prog X.w) X.A (handleBy e X.env (h₀ :: hds)) (SP X pins D) X.xe s₃) X.xe s₂) X.xe s₁) ?_ PassesOwn.looking).run [] s σ H D (I.toTry _) h
  · refine wpAny_mono run (fun fl s1 hsp => ?_) (fun _ _ he => he)
    cases fl with
    | ret u =>
      obtain ⟨v, τ, G, J, r, q⟩ := hsp
      exact ⟨v, τ, G, J.ofTry I.ok, r, q⟩
    | next =>
      obtain ⟨τ, G, J, q⟩ := hsp
      exact wpAny_execs_nil ⟨τ, G, J.ofTry I.ok, q⟩
    | brk =>
      obtain ⟨τ, G, J, q⟩ := hsp
      exact ⟨τ, G, J.ofTry I.ok, q⟩
    | cont =>
      obtain ⟨τ, G, J, q⟩ := hsp
      exact ⟨τ, G, J.ofTry I.ok, q⟩
  · rintro u s1 ⟨a, B, sI, ps, τ, G, cls, d, rfl, J, nb, up, sky, na, os, ag, w⟩
    have sky' : Sky B (X.env :: X.outer) a (L2N.Zn cls d) X.env.locals s1.heap := by rw [← hs]; exact sky
    show wpAny (model X.prog X.w) X.A (noteFrame (.ref a) X.env) _ _ _
    refine L2N.Sky.land L2N.Zn.steady fr hf sky' fun g gf gu => ?_
    exact Cau.ask (s := { s1 with heap := g }) tk hh ⟨hs, hf, J.ofTry I.ok, nb, up.trans gu, gf, na, os, ag⟩ w
/-- no exception leaves: a def that may raise, called where E0 is wanted -/
theorem passNo {P : Program} {w : World} {X : Cx} : Passes (L2N.CX P w) X E0 := fun _ _ _ _ _ _ _ ⟨_, _, _, _, _, _, _, _, _, _, _, _, z⟩ => z.elim
theorem takesNo {X : Cx} : L2N.Takes X (fun _ _ _ _ => False) := fun _ _ ⟨_, _, _, _, _, _, _, _, _, _, _, _, _, _, _, _, z⟩ => z.elim
end
/-! ### calls of defs that may raise -/
section
variable {X : Cx} {k j : Nat} {C : Addr} {x m : Str} {sp : Sp} {dvs : List V} {p pos apos : Pos} {e o : Expr} {es : List Expr} {ta : TE} {t : TA} {E : XK} {W : WX}
abbrev CXX (X : Cx) : CXT := L2N.CX X.prog X.w
/-- where nothing is raised -/
theorem pe_fN (c : Fn X.prog X.w X.K X.mg X.base (CXX X) k x sp dvs) (hr : Room j X.A) (hk : k ≤ j) (hg : Gl X x) (ha : PA X (e :: es) t)
    (hdb : (x == ("__debug__" : Str)) = false := by decide) (he : starEach (e :: es) X.env = (false, eval e X.env) :: starEach es X.env := by rfl) (hpl : (backTo pos (starEach es X.env)).any (·.1) = false := by rfl) :
    PE X (.Call (.Name x p) (e :: es) [] pos) (tCall sp dvs E0 t) := by
  obtain ⟨f, fd, ps, ds, F, hm, kp, b, d⟩ := c.ex
  exact pe_call F (hr.mono hk) hg hm kp b d passNo ha hdb he hpl
theorem pe_fX (tk : L2N.Takes X (fun cls d _ H => E cls d H)) (c : Fn X.prog X.w X.K X.mg X.base (CXX X) k x sp dvs) (hr : Room j X.A) (hk : k ≤ j) (hg : Gl X x) (ha : PA X (e :: es) t)
    (hdb : (x == ("__debug__" : Str)) = false := by decide) (he : starEach (e :: es) X.env = (false, eval e X.env) :: starEach es X.env := by rfl) (hpl : (backTo pos (starEach es X.env)).any (·.1) = false := by rfl) :
    PE X (.Call (.Name x p) (e :: es) [] pos) (tCall sp dvs E t) := by
  obtain ⟨f, fd, ps, ds, F, hm, kp, b, d⟩ := c.ex
  exact pe_call F (hr.mono hk) hg hm kp b d (L2N.passes_call tk fun _ _ _ _ h => h) ha hdb he hpl
theorem pe_fS (tk : L2N.Takes X W) (c : Fn X.prog X.w X.K X.mg X.base (CXX X) k x sp []) (hr : Room j X.A) (hk : k ≤ j) (hg : Gl X x) (ha : PA X (e :: es) t)
    (hdb : (x == ("__debug__" : Str)) = false := by decide) (he : starEach (e :: es) X.env = (false, eval e X.env) :: starEach es X.env := by rfl) (hpl : (backTo pos (starEach es X.env)).any (·.1) = false := by rfl) :
    PE X (.Call (.Name x p) (e :: es) [] pos) (tCallS sp (WE W) t) := by
  obtain ⟨f, fd, ps, ds, F, hm, kp, b, d⟩ := c.ex
  cases d
  exact pe_callS F (hr.mono hk) hg hm kp b (fun σ => L2N.passAt tk σ) ha hdb he hpl
theorem pe_mN (c : Mkr X.prog X.w X.K X.mg X.base (CXX X) k x C sp dvs) (hr : Room j X.A) (hk : k + 1 ≤ j) (hg : Gl X x) (ha : PA X (e :: es) t)
    (hdb : (x == ("__debug__" : Str)) = false := by decide) (he : starEach (e :: es) X.env = (false, eval e X.env) :: starEach es X.env := by rfl) (hpl : (backTo pos (starEach es X.env)).any (·.1) = false := by rfl) :
    PE X (.Call (.Name x p) (e :: es) [] pos) (tMake C sp dvs E0 t) := by
  obtain ⟨f, fd, ps, ds, M, F, hm, b, d⟩ := c.ex
  exact pe_make M F (hr.mono hk) hg hm b d passNo ha hdb he hpl
theorem pe_mX (tk : L2N.Takes X (fun cls d _ H => E cls d H)) (c : Mkr X.prog X.w X.K X.mg X.base (CXX X) k x C sp dvs) (hr : Room j X.A) (hk : k + 1 ≤ j) (hg : Gl X x) (ha : PA X (e :: es) t)
    (hdb : (x == ("__debug__" : Str)) = false := by decide) (he : starEach (e :: es) X.env = (false, eval e X.env) :: starEach es X.env := by rfl) (hpl : (backTo pos (starEach es X.env)).any (·.1) = false := by rfl) :
    PE X (.Call (.Name x p) (e :: es) [] pos) (tMake C sp dvs E t) := by
  obtain ⟨f, fd, ps, ds, M, F, hm, b, d⟩ := c.ex
  exact pe_make M F (hr.mono hk) hg hm b d (L2N.passes_call tk fun _ _ _ _ h => h) ha hdb he hpl
theorem pe_oN {pl : Sem Bool} (c : Mt X.prog X.w X.K X.mg X.base (CXX X) k C m sp dvs) (hr : Room j X.A) (hk : k ≤ j) (he : PE X o ta) (ha : PA X (e :: es) t)
    (hst : starEach (e :: es) X.env = (false, eval e X.env) :: starEach es X.env := by rfl) (hpl : (backTo pos (starEach es X.env)).any (·.1) = false := by rfl) (ht : MTree X o m apos pos (e :: es) pl := by rfl) :
    PE X (.Call (.Attribute o m apos) (e :: es) [] pos) (tMeth C m sp dvs E0 ta t) := by
  obtain ⟨f, fd, ps, ds, hc, hm, F, b, d⟩ := c.ex
  exact pe_meth (pl := pl) he hc hm F (hr.mono hk) b d passNo ha hst hpl ht
theorem pe_oX {pl : Sem Bool} (tk : L2N.Takes X (fun cls d _ H => E cls d H)) (c : Mt X.prog X.w X.K X.mg X.base (CXX X) k C m sp dvs) (hr : Room j X.A) (hk : k ≤ j) (he : PE X o ta) (ha : PA X (e :: es) t)
    (hst : starEach (e :: es) X.env = (false, eval e X.env) :: starEach es X.env := by rfl) (hpl : (backTo pos (starEach es X.env)).any (·.1) = false := by rfl) (ht : MTree X o m apos pos (e :: es) pl := by rfl) :
    PE X (.Call (.Attribute o m apos) (e :: es) [] pos) (tMeth C m sp dvs E ta t) := by
  obtain ⟨f, fd, ps, ds, hc, hm, F, b, d⟩ := c.ex
  exact pe_meth (pl := pl) he hc hm F (hr.mono hk) b d (L2N.passes_call tk fun _ _ _ _ h => h) ha hst hpl ht
theorem pe_oS {pl : Sem Bool} (tk : L2N.Takes X W) (c : Mt X.prog X.w X.K X.mg X.base (CXX X) k C m sp []) (hr : Room j X.A) (hk : k ≤ j) (he : PE X o ta) (ha : PA X (e :: es) t)
    (hst : starEach (e :: es) X.env = (false, eval e X.env) :: starEach es X.env := by rfl) (hpl : (backTo pos (starEach es X.env)).any (·.1) = false := by rfl) (ht : MTree X o m apos pos (e :: es) pl := by rfl) :
    PE X (.Call (.Attribute o m apos) (e :: es) [] pos) (tMethW C m sp W ta t) := by
  obtain ⟨f, fd, ps, ds, hc, hm, F, b, d⟩ := c.ex
  cases d
  refine ⟨fun pins s σ H Q I h => PySem.W.methodCall_KW (pl := pl) (thn (he.run pins s σ H _ I h) ?_) ht⟩
  rintro u s1 ⟨x, H1, I1, rx, a, dx, fs, rfl, ea, l, q⟩
  obtain rfl : u = Value.ref a := rx
  refine getmeth_ok I1 ea hc hm l (PySem.W.callWith_K (first := [.ref a]) (h₀ := X.base) I.ok.mod.kin hm.kp (thn (ha.run pos pins s1 σ H1 _ I1 q) ?_) hst hpl)
  rintro us s2 ⟨vs, H2, I2, r, q2⟩
  exact ⟨I2.kIn, run_fnS (us := .ref a :: us) (vs := .ref a :: vs) F (hr.mono hk) b (L2N.passAt tk σ) I2 (.cons rfl r) q2⟩
end
section
variable {P : Program} {w : World} {K : PySem.W.Frag} {mg : Str → Option Value} {base : Heap}
abbrev CXP (P : Program) (w : World) : CXT := L2N.CX P w
theorem Fn.mkX {x : Str} {params : Arguments} {body : List Stmt} {scope : Scope} {f : Addr} {N ps : List Str} {k : Nat} {sp : Sp}
    (F : ∃ fd, FunD K x x params body scope [] [] f fd) (g : mg x = some (.ref f)) (S : FnScope N ps scope)
    (hb : ∀ (kV doc pm : Value) (an : Option Addr) (cdv ct : Value) (us : List Value), us.length = ps.length → bindArgs (PySem.W.fnOf x x params body scope .none kV doc pm an cdv ct) ⟨us, []⟩ = pure (ps.zip us))
    (len : ∀ vs H Q E, sp vs H Q E → vs.length = ps.length)
    (hbody : ∀ (cdv : Value) (A : Around) (outer : List Env) (s : Shared) (H : Hp) (vs : List V) (Q : VK) (E : XK), Room k (A.deeper (envOfC x scope s.heap.objs.size f cdv)) → sp vs H Q E →
      ∃ t, PSs (cxOf (CXP P w) P w K mg base N x scope f cdv A outer s H E) body t ∧ t { nx := fun _ H' => Q .non H', rt := Q } (start N vs) H) : Fn P w K mg base (CXP P w) (k + 1) x sp [] := by
  obtain ⟨fd, F⟩ := F
  exact ⟨f, fd, ps, [], F.ok S len hbody, g, F.kp, F.bindsN hb, .nil⟩
theorem Mt.mkX {m qual : Str} {C : Addr} {params : Arguments} {body : List Stmt} {scope : Scope} {f : Addr} {N ps : List Str} {k : Nat} {sp : Sp}
    (c : Cls K C) (me : Meth K C m f) (F : ∃ fd, FunD K m qual params body scope [] [] f fd) (S : FnScope N ps scope)
    (hb : ∀ (kV doc pm : Value) (an : Option Addr) (cdv ct : Value) (us : List Value), us.length = ps.length → bindArgs (PySem.W.fnOf m qual params body scope .none kV doc pm an cdv ct) ⟨us, []⟩ = pure (ps.zip us))
    (len : ∀ vs H Q E, sp vs H Q E → vs.length = ps.length)
    (hbody : ∀ (cdv : Value) (A : Around) (outer : List Env) (s : Shared) (H : Hp) (vs : List V) (Q : VK) (E : XK), Room k (A.deeper (envOfC qual scope s.heap.objs.size f cdv)) → sp vs H Q E →
      ∃ t, PSs (cxOf (CXP P w) P w K mg base N qual scope f cdv A outer s H E) body t ∧ t { nx := fun _ H' => Q .non H', rt := Q } (start N vs) H) : Mt P w K mg base (CXP P w) (k + 1) C m sp [] := by
  obtain ⟨fd, F⟩ := F
  exact ⟨f, fd, ps, [], c, me, F.ok S len hbody, F.bindsN hb, .nil⟩
theorem Mkr.mkX {x qual : Str} {C : Addr} {params : Arguments} {body : List Stmt} {scope : Scope} {f : Addr} {N ps : List Str} {k : Nat} {sp : Sp} {dvs : List V}
    (n j : Nat) (M : Mk K C f) (g : mg x = some (.ref C)) (F : ∃ fd, FunD K "__init__" qual params body scope dvs [] f fd) (S : FnScope N ps scope) (hd : dvs ≠ []) (hn : n + (dvs.length - j) = ps.length)
    (hb : ∀ (T : Addr) (kV doc pm : Value) (an : Option Addr) (cdv ct : Value) (us its : List Value), us.length = n → its.length = dvs.length →
      ∃ k, bindArgs (PySem.W.fnOf "__init__" qual params body scope (.ref T) kV doc pm an cdv ct) ⟨us, []⟩ = seqItems? (.ref T) >>= k ∧ k (some its.toArray) = pure (ps.zip (us ++ its.drop j)))
    (len : ∀ vs H Q E, sp vs H Q E → vs.length = ps.length)
    (hbody : ∀ (cdv : Value) (A : Around) (outer : List Env) (s : Shared) (H : Hp) (vs : List V) (Q : VK) (E : XK), Room k (A.deeper (envOfC qual scope s.heap.objs.size f cdv)) → sp vs H Q E →
      ∃ t, PSs (cxOf (CXP P w) P w K mg base N qual scope f cdv A outer s H E) body t ∧ t { nx := fun _ H' => Q .non H', rt := Q } (start N vs) H) : Mkr P w K mg base (CXP P w) (k + 1) x C sp (dvs.drop j) := by
  obtain ⟨fd, F⟩ := F
  obtain ⟨ds, hv, hbn⟩ := F.binds1 (ps := ps) n j hd hn hb
  exact ⟨f, fd, ps, ds, M, F.ok S len hbody, g, hbn, hv⟩
theorem Mkr.mkX0 {x qual : Str} {C : Addr} {params : Arguments} {body : List Stmt} {scope : Scope} {f : Addr} {N ps : List Str} {k : Nat} {sp : Sp}
    (M : Mk K C f) (g : mg x = some (.ref C)) (F : ∃ fd, FunD K "__init__" qual params body scope [] [] f fd) (S : FnScope N ps scope)
    (hb : ∀ (kV doc pm : Value) (an : Option Addr) (cdv ct : Value) (us : List Value), us.length = ps.length → bindArgs (PySem.W.fnOf "__init__" qual params body scope .none kV doc pm an cdv ct) ⟨us, []⟩ = pure (ps.zip us))
    (len : ∀ vs H Q E, sp vs H Q E → vs.length = ps.length)
    (hbody : ∀ (cdv : Value) (A : Around) (outer : List Env) (s : Shared) (H : Hp) (vs : List V) (Q : VK) (E : XK), Room k (A.deeper (envOfC qual scope s.heap.objs.size f cdv)) → sp vs H Q E →
      ∃ t, PSs (cxOf (CXP P w) P w K mg base N qual scope f cdv A outer s H E) body t ∧ t { nx := fun _ H' => Q .non H', rt := Q } (start N vs) H) : Mkr P w K mg base (CXP P w) (k + 1) x C sp [] := by
  obtain ⟨fd, F⟩ := F
  exact ⟨f, fd, ps, [], M, F.ok S len hbody, g, F.bindsN hb, .nil⟩
end
end FWN
namespace FWN
open PySem PySem.Spec PyProof.Rows L2 FW
section
variable {X : Cx} {C fI : Addr} {f x : Str}
theorem pmk_err {a : Expr} {ta : TA} {p pos : Pos} {k : Nat} (T : PySem.ErrX.ErrC X.prog X.K C fI f) (hf : ErrF f) (gC : X.mg x = some (.ref C)) (hr : Room k X.A) (ha : PA X [a] ta) (hg : Gl X x) (hdb : (x == ("__debug__" : Str)) = false := by decide)
    (he : starEach (a :: []) X.env = (false, eval a X.env) :: starEach [] X.env := by rfl) (hpl : (backTo pos (starEach [] X.env)).any (·.1) = false := by rfl) :
    L2N.PMk X (.Call (.Name x p) [a] [] pos) (tMkE C f ta) := by
  intro pins s σ H Q I h
  refine wpAny_Call_Name_kw (ld_glob I hg gC ?_ hdb)
  refine PySem.W.callWith_K (h₀ := X.base) I.ok.mod.kin T.kC (thn (ha.run pos pins s σ H _ I h) fun us s1 hh => ?_) he hpl
  obtain ⟨vs, H1, I1, r1, v, ev, q1⟩ := hh
  subst ev
  refine ⟨I1.kIn, ?_⟩
  cases r1 with
  | cons rv rn =>
    rename_i v' us'
    cases rn
    show wpAny _ _ (call (.ref C) [v']) _ _ _
    have hlim := I1.nolimit
    have hG := I1.mod.glob.keeps I1.bk
    obtain ⟨mb, hb1, hb2⟩ := I1.mod.blt
    have hB := hb1.keeps I1.bk
    obtain ⟨hp, g, dr, tk, os⟩ := s1
    refine wpAny_call (PySem.ErrX.err_made T hf I1.kIn hlim hG hB hb2 (by have := hr.dp; omega) fun h' tk' e d M => ?_)
    show L2N.MkP X pins σ Q (.ref e) ⟨h', g, dr, tk', os⟩
    obtain ⟨oe, fv, hoe, hc, hd, hdat, h1, h2⟩ := M.obj
    have hns := M.ns
    obtain ⟨G', g1, g2⟩ := restrict h' fun b => decide (b ≠ e)
    have gk : ∀ b, b ≠ e → G'.get? b = h'.get? b := fun b hb => g1 b (decide_eq_true hb)
    have ge : G'.get? e = none := g2 e (by simp)
    have old : ∀ b o, hp.get? b = some o → G'.get? b = some o := fun b o q => (gk b (Nat.ne_of_lt (Nat.lt_of_lt_of_le (Heap.lt_size q) M.new))).trans (M.keep b o q)
    have ob : ObjOk X.prog X.w (upd H1 d (.xd [(f, v)])) G' d (.xd [(f, v)]) :=
      ⟨_, hns.at (fun o q => (gk d M.dne).trans q), fun f => relO_err rv f⟩
    have J : Inv X pins σ (upd H1 d (.xd [(f, v)])) ⟨G', g, dr, tk', os⟩ := I1.laid (t' := tk') old M.dbig ob
    refine ⟨e, oe, fv, ⟨G', g, dr, tk', os⟩, _, .ref C, some d, rfl, J, fun b o q => ?_, ge, hoe, ⟨hc, hd, fun vs q => by rw [hdat] at q; cases q; exact h2⟩, hdat, h1, ?_, rfl, I1.bare, raises_own T.exC T.tyC, q1 d (I1.hok.fresh M.dbig)⟩
    · by_cases hb : b = e
      · have q' : G'.get? b = some o := q
        rw [hb, ge] at q'; cases q'
      · exact (gk b hb).symm.trans q
    · rw [upd_ne (Ne.symm M.dne)]
      exact I1.hok.fresh M.new
theorem ps_raiseE {a : Expr} {ta : TA} {W : WX} {p pos pos2 : Pos} {k : Nat} (hc : X.calm = true) (T : PySem.ErrX.ErrC X.prog X.K C fI f) (hf : ErrF f) (gC : X.mg x = some (.ref C)) (hr : Room k X.A) (tk : L2N.Takes X W) (ha : PA X [a] ta) (hg : Gl X x) (hdb : (x == ("__debug__" : Str)) = false := by decide)
    (he : starEach (a :: []) X.env = (false, eval a X.env) :: starEach [] X.env := by rfl) (hpl : (backTo pos (starEach [] X.env)).any (·.1) = false := by rfl) :
    PS X (.Raise (some (.Call (.Name x p) [a] [] pos)) none pos2) (tRaiseE C f W ta) := L2N.ps_raise hc tk (pmk_err T hf gC hr ha hg hdb he hpl)
end
end FWN
namespace FWN
open PySem PySem.Spec PyProof.Rows L2 FW LamX
/-! ### lambdas without parameters; what is raised has no context -/
theorem inv_xe {X : Cx} {g : Value → Shared → Prop} {pins : List (Addr × Obj)} {σ : L2.St} {H : Hp} {s : Shared} (I : Inv X pins σ H s) : Inv { X with xe := g } pins σ H s :=
  ⟨⟨I.ok.mod, I.ok.kind, I.ok.glob, I.ok.blt, I.ok.above, I.ok.inj, I.ok.has, I.ok.cab, I.ok.hd, I.ok.frames, I.ok.stk, I.ok.exf, I.ok.bs, I.ok.bsz, I.ok.noex, I.ok.exfs, I.ok.funs, I.ok.frf⟩, I.os, I.bare, I.base, I.loc, I.cell, I.free, I.freeC, I.pin, I.hok, I.len⟩
def lamCxN (X : Cx) (A : Around) (outer : List Env) (s : Shared) (H : Hp) (E : XK) (scope : Scope) (f c' : Addr) : Cx :=
  { lamCx X A outer s H E scope f c' with xe := fun e s' => wpAny (model X.prog X.w) (A.deeper (lamEnv X scope s.heap.objs.size f c')) (leaving (lamEnv X scope s.heap.objs.size f c') e) (fun _ s2 => L2N.CX X.prog X.w outer H s E e s2) (fun e2 s2 => L2N.CX X.prog X.w outer H s E e2 s2) s' }
/-- the def's context in which the lambda is called -/
abbrev defCx (X : Cx) (Ng : List Str) (qg : Str) (sg : Scope) (g : Addr) (cdg : Value) (s : Shared) (H : Hp) (pn : List (Addr × Obj)) (xe : Value → Shared → Prop) : Cx := (cxOf CX0 X.prog X.w X.K X.mg X.base Ng qg sg g cdg X.A X.stack s H E0).tr pn xe
section
variable {X : Cx} {pins : List (Addr × Obj)} {σ : L2.St} {H : Hp} {s : Shared}
theorem pe_actN {Ng : List Str} {qg : Str} {sg : Scope} {g f c' : Addr} {cdg pm ctv : Value} {params : Arguments} {body : Expr} {scope : Scope} {k i : Nat} {a : Str} {pn : List (Addr × Obj)} {xe : Value → Shared → Prop} {W : WX} {E : XK} {tb : TE} {p1 p2 : Pos}
    (I : Inv X pins σ H s) (L : LamS X.env.scope scope) (hf : s.heap.get? f = some (PySem.W.kla_obj "<lambda>" (X.env.qual ++ "<lambda>") params body scope (cloFrom X.env.cells scope.names []) pm c' ctv)) (hfn : H f = none) (hfr : f ∉ frs X.stack)
    (hbind : bindArgs (PySem.W.kla_fn "<lambda>" (X.env.qual ++ "<lambda>") params body scope (cloFrom X.env.cells scope.names []) pm (.ref c') ctv) ⟨[], []⟩ = pure [])
    (tk : L2N.Takes (defCx X Ng qg sg g cdg s H pn xe) W) (hW : ∀ cls d σ' H', E cls d H' → W cls d σ' H') (hr : Room (k + 1) (X.A.deeper (envOfC qg sg s.heap.objs.size g cdg)))
    (hbody : ∀ (A : Around) (outer : List Env) (s : Shared) (H : Hp), Room k (A.deeper (lamEnv X scope s.heap.objs.size f c')) → PE (lamCxN X A outer s H E scope f c') body tb)
    (hN : Ng[i]? = some a) (hv : Vis sg a) (hd : (a == ("__debug__" : Str)) = false) (hcd : (a == ("__classdict__" : Str)) = false) :
    PE (defCx X Ng qg sg g cdg s H pn xe) (.Call (.Name a p1) [] [] p2) (fun σZ HZ Q => σZ[i]? = some (some (.ref f)) ∧ HZ c' = some (CodeO c' (X.env.qual ++ "<lambda>")) ∧ tb σ HZ Q) := by
  refine ⟨?_⟩
  rintro pinsZ sZ σZ HZ Q IZ ⟨es, ec, et⟩
  refine wpAny_Call_Name_kw (thn ((pe_var (pos := p1) (i := i) hN hv hd hcd).run pinsZ sZ σZ HZ (fun v H1 => v = .ref f ∧ H1 = HZ) IZ ⟨.ref f, es, rfl, rfl⟩) ?_)
  rintro u s1 ⟨v, H1, I1, r1, rfl, rfl⟩
  obtain rfl : u = Value.ref f := r1
  have keptF := I1.base.keep f _ hf hfn hfr (fun z => nomatch (show f ∈ ([] : List Addr) from z))
  refine PySem.W.callWith_F0 ⟨_, _, _, _, keptF⟩ (wpAny_call ?_)
  obtain ⟨⟨oc, vs, t, hoc, hdc, hvc⟩, _, _⟩ := I1.hok c' _ ec
  have ran : codeAny (model X.prog X.w) (X.A.deeper (envOfC qg sg s.heap.objs.size g cdg)) (.call (.ref f) ⟨[], []⟩) (CR (L2N.CX X.prog X.w) (envOfC qg sg s.heap.objs.size g cdg :: X.stack) X.prog X.w H1 s1 Q E) s1 := by
    refine PySem.W.kla_callFunE hr.depth keptF rfl L.co L.gen rfl ⟨c', oc, vs, t, rfl, hoc, hdc, hvc⟩ ?_
    rw [hbind]
    refine wpAny_pure (wpAny_newFunctionEnv (fun y hy => (L.own y hy).2) (fun y hy => absurd hy (by simp)) (fun h₁ hns hsb => ⟨I1.nolimit.fresh _ hsb, ?_⟩) L.kind)
    show codeAny _ _ (.expr body (lamEnv X scope s1.heap.objs.size f c')) _ _
    have J0 := lam_start2 (E := E) (f := f) (c' := c') (tk := s1.toks + ([] : List (Str × Value)).length) I L I1.env0 hr.hd I1.base hns (fun b o e => hsb.extBut b o (Nat.ne_of_lt (Heap.lt_size e)) (Heap.get?_push_of_some _ e))
    refine PySem.W.kla_codeExpr (wpAny_mono ((hbody _ _ s1 H1 (hr.deeper _)).run [] _ _ H1 Q (inv_xe J0) et) ?_ fun e s' hq => hq)
    rintro v s' ⟨w', H', J', rv, q⟩
    exact ⟨w', H', J'.os, J'.bare, J'.base, J'.hok, rv, q⟩
  have pass := L2N.passes_call tk hW
  refine codeAny_mono ran fun r s' hq => ?_
  match r, hq with
  | .error e, hq => exact pass pinsZ σZ H1 s1 e s' I1 hq
  | .ok (.ret u), hq => exact I1.after hq
  | .ok .next, hq => exact False.elim hq
  | .ok .brk, hq => exact False.elim hq
  | .ok .cont, hq => exact False.elim hq
/-- the def that calls what it got -/
def GivesToN (X : Cx) (Ng : List Str) (x : Str) (sg : Scope) (g : Addr) (cdg : Value) (bg : List Stmt) (a : Str) (q : Str) (TT : (XK → Hp → VK → Prop) → Hp → VK → Prop) : Prop :=
  ∀ (f c' : Addr) (s : Shared) (H : Hp) (Q : VK) (tl : XK → Hp → VK → Prop) (j : Nat), Room j (X.A.deeper (envOfC x sg s.heap.objs.size g cdg)) →
    (∀ (W : WX) (pn : List (Addr × Obj)) (xe : Value → Shared → Prop) (E : XK) (p1 p2 : Pos), L2N.Takes (defCx X Ng x sg g cdg s H pn xe) W → (∀ cls d σ' H', E cls d H' → W cls d σ' H') →
      PE (defCx X Ng x sg g cdg s H pn xe) (.Call (.Name a p1) [] [] p2) (fun σZ HZ Q => σZ[0]? = some (some (.ref f)) ∧ HZ c' = some (CodeO c' q) ∧ tl E HZ Q)) →
    H c' = some (CodeO c' q) → TT tl H Q → 8 ≤ j →
    ∃ t, PSs (cxOf CX0 X.prog X.w X.K X.mg X.base Ng x sg g cdg X.A X.stack s H E0).nox bg t ∧ t { nx := fun _ H' => Q .non H', rt := Q } (L2.start Ng [.ref f]) H
end
section
variable {X : Cx}
/-- x(lambda: body): the def x by its data -/
theorem pe_lamN {T : List (Addr × Str)} {TT : (XK → Hp → VK → Prop) → Hp → VK → Prop} {x a : Str} {g c P : Addr} {k j : Nat} {pg : Arguments} {bg : List Stmt} {sg : Scope} {Ng : List Str}
    {params : Arguments} {body : Expr} {scope : Scope} {t : XK → TE} {p lpos pos : Pos} (F : ∃ fd, FunD X.K x x pg bg sg [] [] g fd) (hm : X.mg x = some (.ref g)) (hg : Gl X x)
    (hb : ∀ (kV doc pm : Value) (an : Option Addr) (cdv ct : Value) (us : List Value), us.length = [a].length → bindArgs (PySem.W.fnOf x x pg bg sg .none kV doc pm an cdv ct) ⟨us, []⟩ = pure ([a].zip us)) (Sg : FnScope Ng [a] sg) (hNg : Ng[0]? = some a) (hva : Vis sg a)
    (hG : ∀ cdv, GivesToN X Ng x sg g cdv bg a (X.env.qual ++ "<lambda>") TT)
    (TB : TabB X.base X.mg c P) (hcode : X.env.code = .ref c) (hmT : (P, X.env.qual ++ "<lambda>") ∈ T) (hu : ∀ p ∈ T, p.1 = P → p.2 = X.env.qual ++ "<lambda>") (hr : Room j X.A) (hk : k + 2 ≤ j) (hk8 : 10 ≤ j) (L : LamS X.env.scope scope) (hdef : defaultsOf params X.env = ([], []))
    (hbind : ∀ (q : Str) (cl : List (Str × Addr)) (pm cv ctv : Value), bindArgs (PySem.W.kla_fn "<lambda>" q params body scope cl pm cv ctv) ⟨[], []⟩ = pure [])
    (hbody : ∀ (A : Around) (outer : List Env) (s : Shared) (H : Hp) (E : XK) (f c' : Addr), Room k (A.deeper (lamEnv X scope s.heap.objs.size f c')) → PE (lamCxN X A outer s H E scope f c') body (t E))
    (hdb : (x == ("__debug__" : Str)) = false := by decide) (hd : (a == ("__debug__" : Str)) = false := by decide) (hcd : (a == ("__classdict__" : Str)) = false := by decide) :
    PE X (.Call (.Name x p) [.Lambda params body scope lpos] [] pos) (LamX.tLam T TT t) := by
  obtain ⟨fd, F⟩ := F
  have bnd := F.bindsN (ps := [a]) hb
  obtain ⟨oc, od, dV, kV, doc, pm, an, cdv, ct, osl, rfl, lk, hcd', _, _⟩ := F.ex
  refine ⟨?_⟩
  rintro pins s σ H Q I ⟨hT, h⟩
  refine wpAny_Call_Name_kw (ld_glob I hg hm (PySem.W.callWith_K (h₀ := X.base) I.ok.mod.kin F.kp ?_ (by rfl) (by rfl)) hdb)
  show wpAny _ _ (spliced ((false, eval (.Lambda params body scope lpos) X.env) :: backTo pos (starEach [] X.env))) _ _ s
  refine Calls.spliced_cons (lam_make2 I TB hcode hmT hu hT hdef (L.has I.ok) fun f c' pm' ctv H1 s' I1 eN T1 hf hfn hfr hco => Calls.spliced_nil ⟨I1.kIn, wpAny_call ?_⟩)
  have ran : codeAny (model X.prog X.w) X.A (.call (.ref g) ⟨[.ref f], []⟩) (CR CX0 X.stack X.prog X.w H1 s' Q E0) s' := by
    obtain ⟨j', rfl⟩ : ∃ j', j = j' + 1 := ⟨j - 1, by omega⟩
    refine run_ofS (N := Ng) (ps := [a]) (us := [.ref f]) (vs := [.ref f]) lk hcd' Sg hr I1.env0 (bnd s' [.ref f] I1.kIn rfl) (.cons rfl .nil) rfl fun hr' => ?_
    obtain ⟨t', ht', hq'⟩ := hG cdv f c' s' H1 Q (fun E H' Q' => t E σ H' Q') j' hr' (fun W pn xe E p1 p2 tk hW => pe_actN (k := k) (i := 0) I1 L hf hfn hfr (hbind _ _ _ _ _) tk hW (hr'.mono (by omega)) (fun A outer s H hr2 => hbody A outer s H E f c' hr2) hNg hva hd hcd) hco (h H1 eN T1) (by omega)
    exact ⟨t', ht'.nox, hq'⟩
  refine codeAny_mono ran fun r s2 hq => ?_
  match r, hq with
  | .error e, hq => exact (show False from hq).elim
  | .ok (.ret u), hq => exact I1.after hq
  | .ok .next, hq => exact False.elim hq
  | .ok .brk, hq => exact False.elim hq
  | .ok .cont, hq => exact False.elim hq
end
theorem takes_len {X : Cx} {W : WX} {n : Nat} (h : X.N.length = n) (t : L2N.Takes X W) : L2N.Takes X (wLen n W) := fun u s' ⟨a, B, sI, pins, σ, H, cls, d, e, I, nb, up, sky, na, os, ag, w⟩ =>
  t u s' ⟨a, B, sI, pins, σ, H, cls, d, e, I, nb, up, sky, na, os, ag, w (I.len.trans h)⟩
end FWN
namespace FWP
open PySem PySem.Spec PyProof.Rows L2 FW LamX
/-! ### lambdas with one parameter, handed to a method -/
/-- the names of a lambda with the parameter x -/
structure LamP (sc scope : Scope) (x : Str) : Prop where
  fk : scope.kind = .function
  noco : scope.isCoroutine = false
  nogen : scope.isGenerator = false
  par : scope.names.lookup x = some .local
  own : ∀ y ∈ scope.names, y.2 = .local → y.1 = x
  nocell : ∀ y ∈ scope.names, y.2 ≠ .cell
  capt : ∀ y ∈ scope.names, y.2 = .free → sc.names.lookup y.1 = some .cell ∨ sc.names.lookup y.1 = some .free
theorem LamP.cells {X : Cx} {scope : Scope} {x : Str} (L : LamP X.env.scope scope x) (ok : X.Ok) (y : Str × NameKind) (hy : y ∈ scope.names) (e : y.2 = .free) : ∃ c, X.env.cells.lookup y.1 = some c :=
  ok.has _ (L.capt y hy e)
def lamPB (sc scope : Scope) (x : Str) : Bool :=
  decide (scope.kind = .function) && (!scope.isCoroutine && (!scope.isGenerator && (decide (scope.names.lookup x = some .local) && scope.names.all fun y => (!decide (y.2 = .local) || decide (y.1 = x)) && (!decide (y.2 = .cell) && (!decide (y.2 = .free) || (decide (sc.names.lookup y.1 = some .cell) || decide (sc.names.lookup y.1 = some .free)))))))
theorem lamP_by {sc scope : Scope} {x : Str} (h : lamPB sc scope x = true) : LamP sc scope x := by
  unfold lamPB at h
  simp only [Bool.and_eq_true, Bool.or_eq_true, Bool.not_eq_true', decide_eq_true_eq, decide_eq_false_iff_not, List.all_eq_true] at h
  obtain ⟨h1, h2, h3, h4, h5⟩ := h
  exact ⟨h1, h2, h3, h4, fun y hy e => ((h5 y hy).1).resolve_left (fun z => z e), fun y hy => (h5 y hy).2.1, fun y hy e => ((h5 y hy).2.2).resolve_left (fun z => z e)⟩
/-- the context of the body: the maker's names, and x behind them -/
def cxP (X : Cx) (A : Around) (outer : List Env) (s : Shared) (H : Hp) (scope : Scope) (x : Str) (f c' : Addr) : Cx := { lamCx X A outer s H E0 scope f c' with N := X.N ++ [x] }
section
variable {X : Cx} {pins : List (Addr × Obj)} {σ : L2.St} {H HZ : Hp} {s s1 : Shared}
theorem startP {A : Around} {outer : List Env} {scope : Scope} {x : Str} {f c' : Addr} {v : V} {u : Value} {h2 : Heap} {tk : Nat} (I : Inv X pins σ H s) (L : LamP X.env.scope scope x) (hx : x ∉ X.N) (e0 : Env0 X.prog X.w X.K X.mg X.base A outer s1 HZ) (hd : A.handled = none)
    (un : Un (frs X.stack) [] H HZ s.heap s1.heap) (hns : h2.Ns s1.heap.objs.size fun y => ([(x, u)] : List (Str × Value)).reverse.lookup y) (rv : RelV v u) (kp : ∀ b o, s1.heap.get? b = some o → h2.get? b = some o) :
    Inv (cxP X A outer s1 HZ scope x f c') [] (σ ++ [some v]) HZ { s1 with heap := h2, toks := tk } := by
  have clo : ∀ {y c}, (cloFrom X.env.cells scope.names []).lookup y = some c → X.env.cells.lookup y = some c := fun {y c} e => by
    rcases cloFrom_mem (PySem.mem_of_lookup e) with z | ⟨z1, z2⟩
    · cases z
    · obtain ⟨c1, hc⟩ := L.cells I.ok _ z1 rfl
      have hc' : X.env.cells.lookup y = some c1 := hc
      have : c = c1 := by rw [z2, hc'] <;> rfl
      rw [this]; exact hc'
  have has : ∀ {y}, scope.names.lookup y = some .free → ∃ c, (cloFrom X.env.cells scope.names []).lookup y = some c := fun {y} hl =>
    mem_lookup (cloFrom_has (cells := X.env.cells) (acc := []) (show (y, NameKind.free) ∈ scope.names from PySem.mem_of_lookup hl))
  have cellK : ∀ {c : Addr} {v : Option Value}, H c = none → s.heap.IsCell c v → h2.IsCell c v := fun {c v} n ⟨o, ho, hd⟩ => by
    obtain ⟨sl, z⟩ := un.any ho n (by simp)
    exact ⟨_, kp _ _ z, hd⟩
  have noA : ∀ b : Addr, b ∉ (cxP X A outer s1 HZ scope x f c').ex := fun b z => absurd (show b ∈ ([] : List Addr) from z) (by simp)
  constructor
  · exact ⟨e0.mod, L.fk, rfl, rfl, Nat.le_refl _, fun y z c e1 e2 => I.ok.inj y z c (clo e1) (clo e2), (fun y hy => (show scope.names.lookup y = some .cell ∨ scope.names.lookup y = some .free from hy).elim (fun z => absurd rfl (L.nocell _ (PySem.mem_of_lookup z))) has), fun y c z _ => (nomatch (show false = true from z)), fun _ => hd, Around.frames_deeper e0.frames, .inr ⟨rfl, rfl⟩, fun b z => absurd z (noA b), e0.bs, e0.bsz, fun b _ _ => noA b, fun b z => absurd z (noA b), e0.funs, e0.frf⟩
  · rfl
  · exact e0.bare
  · exact Un.kept kp
  · refine ⟨_, hns, fun i y w h1 h2 h3 => ?_⟩
    have h1 : (X.N ++ [x])[i]? = some y := h1
    have h3 : Vis scope y := h3
    have hlen := I.len
    rcases Nat.lt_or_ge i X.N.length with hi | hi
    · rw [List.getElem?_append_left hi] at h1
      rw [List.getElem?_append_left (by omega)] at h2
      rcases h3 with z | z | z
      · have : y = x := L.own _ (PySem.mem_of_lookup z) rfl
        rw [this] at h1
        exact absurd (List.mem_of_getElem? h1) hx
      · exact absurd rfl (L.nocell _ (PySem.mem_of_lookup z))
      · obtain ⟨m, hn, hl⟩ := I.loc
        have cp := L.capt _ (PySem.mem_of_lookup z) rfl
        obtain ⟨w', r, q⟩ := hl i y w h1 h2 (cp.elim (fun k => .inr (.inl k)) (fun k => .inr (.inr k)))
        obtain ⟨c2, hc2⟩ := has z
        have hc1 := clo hc2
        refine ⟨w', r, .inr ⟨.inr z, c2, hc2, ?_⟩⟩
        rcases q with ⟨k', _⟩ | ⟨_, c3, e', zz⟩
        · have k' : X.env.scope.names.lookup y = some .local := k'
          rcases cp with k2 | k2 <;> rw [show X.env.scope.names.lookup y = _ from k2] at k' <;> cases k'
        · rw [hc1] at e'
          cases e'
          exact cellK (I.freeC y _ hc1) zz
    · have hi' : i = X.N.length := by
        have := (List.getElem?_eq_some_iff.mp h1).1
        rw [List.length_append] at this
        simp at this; omega
      rw [hi', List.getElem?_append_right (Nat.le_refl _), Nat.sub_self] at h1
      rw [hi', ← hlen, List.getElem?_append_right (Nat.le_refl _), Nat.sub_self] at h2
      cases h1
      cases h2
      exact ⟨u, rv, .inl ⟨L.par, by show ([(x, u)] : List (Str × Value)).reverse.lookup x = some u; simp⟩⟩
  · intro y c e
    obtain ⟨w', z⟩ := I.cell y c (clo e)
    exact ⟨w', cellK (I.freeC y c (clo e)) z⟩
  · exact e0.hok.fresh (Nat.le_refl _)
  · intro y c e
    obtain ⟨v, o, ho, hd⟩ := I.cell y c (clo e)
    exact un.free c o ho (I.freeC y c (clo e)) (by simp)
  · exact fun p hp => absurd (show p ∈ ([] : List (Addr × Obj)) ++ [] from hp) (by simp)
  · exact e0.hok.kept kp
  · show (σ ++ [some v]).length = (X.N ++ [x]).length
    rw [List.length_append, List.length_append, I.len]; rfl
/-- a(e) in the def that got the lambda -/
theorem pe_actP {Ng : List Str} {qg : Str} {sg : Scope} {g f c' : Addr} {cdg pm ctv : Value} {params : Arguments} {body e : Expr} {scope : Scope} {x a : Str} {k i : Nat} {pn : List (Addr × Obj)} {xe : Value → Shared → Prop} {tb te : TE} {p1 p2 : Pos}
    (I : Inv X pins σ H s) (L : LamP X.env.scope scope x) (hxN : x ∉ X.N) (hf : s.heap.get? f = some (PySem.W.kla_obj "<lambda>" (X.env.qual ++ "<lambda>") params body scope (cloFrom X.env.cells scope.names []) pm c' ctv)) (hfn : H f = none) (hfr : f ∉ frs X.stack)
    (hbind : ∀ u : Value, bindArgs (PySem.W.kla_fn "<lambda>" (X.env.qual ++ "<lambda>") params body scope (cloFrom X.env.cells scope.names []) pm (.ref c') ctv) ⟨[u], []⟩ = pure [(x, u)])
    (hr : Room (k + 1) (X.A.deeper (envOfC qg sg s.heap.objs.size g cdg)))
    (hbody : ∀ (A : Around) (outer : List Env) (s : Shared) (H : Hp), Room k (A.deeper (lamEnv X scope s.heap.objs.size f c')) → PE (cxP X A outer s H scope x f c') body tb)
    (hN : Ng[i]? = some a) (hv : Vis sg a) (hd : (a == ("__debug__" : Str)) = false) (hcd : (a == ("__classdict__" : Str)) = false)
    (he : PE (FWN.defCx X Ng qg sg g cdg s H pn xe) e te) (hst : starEach [e] (FWN.defCx X Ng qg sg g cdg s H pn xe).env = (false, eval e (FWN.defCx X Ng qg sg g cdg s H pn xe).env) :: starEach [] (FWN.defCx X Ng qg sg g cdg s H pn xe).env) :
    PE (FWN.defCx X Ng qg sg g cdg s H pn xe) (.Call (.Name a p1) [e] [] p2) (fun σZ HZ Q => σZ[i]? = some (some (.ref f)) ∧ te σZ HZ fun v H1 => H1 c' = some (CodeO c' (X.env.qual ++ "<lambda>")) ∧ tb (σ ++ [some v]) H1 Q) := by
  refine ⟨?_⟩
  rintro pinsZ sZ σZ HZ Q IZ ⟨es, et⟩
  refine wpAny_Call_Name_kw (thn ((pe_var (pos := p1) (i := i) hN hv hd hcd).run pinsZ sZ σZ HZ (fun v H1 => v = .ref f ∧ H1 = HZ) IZ ⟨.ref f, es, rfl, rfl⟩) ?_)
  rintro u0 sY ⟨v0, HY, IY, r0, rfl, rfl⟩
  obtain rfl : u0 = Value.ref f := r0
  have keptY := IY.base.keep f _ hf hfn hfr (fun z => nomatch (show f ∈ ([] : List Addr) from z))
  refine PySem.W.callWith_F ⟨_, _, _, _, keptY⟩ ?_ hst (by rfl)
  rw [hst]
  show wpAny _ _ (spliced ((false, eval e (FWN.defCx X Ng qg sg g cdg s H pn xe).env) :: backTo p2 (starEach [] (FWN.defCx X Ng qg sg g cdg s H pn xe).env))) _ _ sY
  refine Calls.spliced_cons (thn (he.run pinsZ sY σZ HY _ IY et) ?_)
  rintro u s1 ⟨v, H1, I1, rv, ec, et⟩
  have keptF := I1.base.keep f _ hf hfn hfr (fun z => nomatch (show f ∈ ([] : List Addr) from z))
  refine Calls.spliced_nil ⟨⟨_, _, _, _, keptF⟩, wpAny_call ?_⟩
  obtain ⟨⟨oc, ws, t, hoc, hdc, hvc⟩, _, _⟩ := I1.hok c' _ ec
  have ran : codeAny (model X.prog X.w) (X.A.deeper (envOfC qg sg s.heap.objs.size g cdg)) (.call (.ref f) ⟨[u], []⟩) (CR (L2.CX X.prog X.w) (envOfC qg sg s.heap.objs.size g cdg :: X.stack) X.prog X.w H1 s1 Q E0) s1 := by
    refine PySem.W.kla_callFunE hr.depth keptF rfl L.noco L.nogen rfl ⟨c', oc, ws, t, rfl, hoc, hdc, hvc⟩ ?_
    rw [hbind]
    refine wpAny_pure (wpAny_newFunctionEnv (fun y hy => L.nocell y hy) (fun y hy => by rw [List.mem_singleton.mp hy]; exact L.par) (fun h2 hns hsb => ⟨I1.nolimit.fresh _ hsb, ?_⟩) L.fk)
    show codeAny _ _ (.expr body (lamEnv X scope s1.heap.objs.size f c')) _ _
    have J0 := startP (f := f) (c' := c') (tk := s1.toks + ([(x, u)] : List (Str × Value)).length) I L hxN I1.env0 hr.hd I1.base hns rv (fun b o e => hsb.extBut b o (Nat.ne_of_lt (Heap.lt_size e)) (Heap.get?_push_of_some _ e))
    refine PySem.W.kla_codeExpr (wpAny_mono ((hbody _ _ s1 H1 (hr.deeper _)).run [] _ _ H1 Q J0 et) ?_ fun e s' hq => ?_)
    · rintro v s' ⟨w', H', J', rv, q⟩
      exact ⟨w', H', J'.os, J'.bare, J'.base, J'.hok, rv, q⟩
    · exact hq
  have pass : Passes (L2.CX X.prog X.w) (FWN.defCx X Ng qg sg g cdg s H pn xe) E0 := passes_call LamX.takes0 fun _ _ _ _ z => z
  refine codeAny_mono ran fun r s' hq => ?_
  match r, hq with
  | .error e, hq => exact pass pinsZ σZ H1 s1 e s' I1 hq
  | .ok (.ret u), hq => exact I1.after hq
  | .ok .next, hq => exact False.elim hq
  | .ok .brk, hq => exact False.elim hq
  | .ok .cont, hq => exact False.elim hq
/-- the method that calls what it got last: TT tells what it makes of the lambda's reading -/
def GivesP (X : Cx) (Ng : List Str) (qg : Str) (sg : Scope) (g : Addr) (cdg : Value) (bg : List Stmt) (a : Str) (i : Nat) (q : Str) (TT : (V → Hp → VK → Prop) → List V → Hp → VK → Prop) : Prop :=
  ∀ (f c' : Addr) (s : Shared) (H : Hp) (vs : List V) (Q : VK) (tl : V → Hp → VK → Prop) (j : Nat), Room j (X.A.deeper (envOfC qg sg s.heap.objs.size g cdg)) →
    (∀ (pn : List (Addr × Obj)) (xe : Value → Shared → Prop) (e : Expr) (te : TE) (p1 p2 : Pos), PE (FWN.defCx X Ng qg sg g cdg s H pn xe) e te →
      starEach [e] (FWN.defCx X Ng qg sg g cdg s H pn xe).env = (false, eval e (FWN.defCx X Ng qg sg g cdg s H pn xe).env) :: starEach [] (FWN.defCx X Ng qg sg g cdg s H pn xe).env →
      PE (FWN.defCx X Ng qg sg g cdg s H pn xe) (.Call (.Name a p1) [e] [] p2) (fun σZ HZ Q => σZ[i]? = some (some (.ref f)) ∧ te σZ HZ fun v H1 => H1 c' = some (CodeO c' q) ∧ tl v H1 Q)) →
    H c' = some (CodeO c' q) → TT tl vs H Q → 8 ≤ j →
    ∃ t, PSs (cxOf CX0 X.prog X.w X.K X.mg X.base Ng qg sg g cdg X.A X.stack s H E0).nox bg t ∧ t { nx := fun _ H' => Q .non H', rt := Q } (L2.start Ng (vs ++ [.ref f])) H
/-- o.m(e1, e2, lambda x: b) -/
def tLamP (T : List (Addr × Str)) (TT : (V → Hp → VK → Prop) → List V → Hp → VK → Prop) (C : Addr) (m : Str) (ta t1 t2 tb : TE) : TE := fun σ H Q =>
  ta σ H fun ov H1 => ∃ p dx fs, ov = .ref p ∧ H1 p = some (.ins C dx fs) ∧ fs.lookup m = none ∧ t1 σ H1 fun v1 H2 => t2 σ H2 fun v2 H3 => Tabs T H3 ∧ ∀ H4, ExtN H3 H4 → Tabs T H4 → TT (fun v H' Q' => tb (σ ++ [some v]) H' Q') [.ref p, v1, v2] H4 Q
theorem pe_lamP {T : List (Addr × Str)} {TT : (V → Hp → VK → Prop) → List V → Hp → VK → Prop} {m x a qg : Str} {C g c P : Addr} {k j : Nat} {pg : Arguments} {bg : List Stmt} {sg : Scope} {Ng ps : List Str}
    {params : Arguments} {o e1 e2 body : Expr} {scope : Scope} {ta t1 t2 tb : TE} {apos lpos pos : Pos} {pl : Sem Bool} (ho : PE X o ta) (h1 : PE X e1 t1) (h2 : PE X e2 t2) (cl : Cls X.K C) (me : Meth X.K C m g) (F : ∃ fd, FunD X.K m qg pg bg sg [] [] g fd)
    (hb : ∀ (kV doc pm : Value) (an : Option Addr) (cdv ct : Value) (us : List Value), us.length = ps.length → bindArgs (PySem.W.fnOf m qg pg bg sg .none kV doc pm an cdv ct) ⟨us, []⟩ = pure (ps.zip us)) (Sg : FnScope Ng ps sg) (hps : ps.length = 4) (hNg : Ng[3]? = some a) (hva : Vis sg a)
    (hG : ∀ cdv, GivesP X Ng qg sg g cdv bg a 3 (X.env.qual ++ "<lambda>") TT)
    (TB : TabB X.base X.mg c P) (hcode : X.env.code = .ref c) (hmT : (P, X.env.qual ++ "<lambda>") ∈ T) (hu : ∀ p ∈ T, p.1 = P → p.2 = X.env.qual ++ "<lambda>") (hr : Room j X.A) (hk : k + 2 ≤ j) (hk8 : 10 ≤ j) (L : LamP X.env.scope scope x) (hxN : x ∉ X.N) (hdef : defaultsOf params X.env = ([], []))
    (hbind : ∀ (q : Str) (cl : List (Str × Addr)) (pm cv ctv u : Value), bindArgs (PySem.W.kla_fn "<lambda>" q params body scope cl pm cv ctv) ⟨[u], []⟩ = pure [(x, u)])
    (hbody : ∀ (A : Around) (outer : List Env) (s : Shared) (H : Hp) (f c' : Addr), Room k (A.deeper (lamEnv X scope s.heap.objs.size f c')) → PE (cxP X A outer s H scope x f c') body tb)
    (hd : (a == ("__debug__" : Str)) = false := by decide) (hcd : (a == ("__classdict__" : Str)) = false := by decide)
    (hst : starEach [e1, e2, .Lambda params body scope lpos] X.env = (false, eval e1 X.env) :: (false, eval e2 X.env) :: (false, eval (.Lambda params body scope lpos) X.env) :: starEach [] X.env := by rfl)
    (hst1 : starEach [e1, e2, .Lambda params body scope lpos] X.env = (false, eval e1 X.env) :: starEach [e2, .Lambda params body scope lpos] X.env := by rfl) (hpl : (backTo pos (starEach [e2, .Lambda params body scope lpos] X.env)).any (·.1) = false := by rfl)
    (ht : eval (.Call (.Attribute o m apos) [e1, e2, .Lambda params body scope lpos] [] pos) X.env = (do
      let ov ← eval o X.env
      standAt apos.atName
      let (f, first) ← holding [ov] (getMethod ov m pl)
      callWith pos f first (backTo pos (starEach [e1, e2, .Lambda params body scope lpos] X.env)) (backToKw pos (keywordEach [] X.env))) := by rfl) :
    PE X (.Call (.Attribute o m apos) [e1, e2, .Lambda params body scope lpos] [] pos) (tLamP T TT C m ta t1 t2 tb) := by
  obtain ⟨fd, F⟩ := F
  have bnd := F.bindsN (ps := ps) hb
  obtain ⟨oc, od, dV, kV, doc, pm, an, cdv, ct, osl, rfl, lk, hcd', _, _⟩ := F.ex
  refine ⟨?_⟩
  intro pins s σ H Q I h
  refine PySem.W.methodCall_KW (pl := pl) (thn (ho.run pins s σ H _ I h) ?_) ht
  rintro u0 s0 ⟨v0, H0, I0, r0, p, dx, fs, rfl, hp, hl, q0⟩
  obtain rfl : u0 = Value.ref p := r0
  refine getmeth_ok I0 hp cl me hl ?_
  refine PySem.W.callWith_K (first := [.ref p]) (h₀ := X.base) I.ok.mod.kin me.kp ?_ hst1 hpl
  rw [hst]
  show wpAny _ _ (spliced ((false, eval e1 X.env) :: (false, eval e2 X.env) :: (false, eval (.Lambda params body scope lpos) X.env) :: backTo pos (starEach [] X.env))) _ _ s0
  refine Calls.spliced_cons (thn (h1.run pins s0 σ H0 _ I0 q0) ?_)
  rintro u1 s1 ⟨v1, H1, I1, r1, q1⟩
  refine Calls.spliced_cons (thn (h2.run pins s1 σ H1 _ I1 q1) ?_)
  rintro u2 s2 ⟨v2, H2, I2, r2, hT, q2⟩
  refine Calls.spliced_cons (lam_make2 I2 TB hcode hmT hu hT hdef (fun y hy e => L.cells I.ok y hy e) fun f c' pm' ctv H3 s3 I3 eN T3 hf hfn hfr hco => Calls.spliced_nil ⟨I3.kIn, wpAny_call ?_⟩)
  have ran : codeAny (model X.prog X.w) X.A (.call (.ref g) ⟨[.ref p, u1, u2, .ref f], []⟩) (CR CX0 X.stack X.prog X.w H3 s3 Q E0) s3 := by
    obtain ⟨j', rfl⟩ : ∃ j', j = j' + 1 := ⟨j - 1, by omega⟩
    refine run_ofS (N := Ng) (ps := ps) (us := [.ref p, u1, u2, .ref f]) (vs := [.ref p, v1, v2, .ref f]) lk hcd' Sg hr I3.env0 (bnd s3 [.ref p, u1, u2, .ref f] I3.kIn (by rw [hps]; rfl)) (.cons rfl (.cons r1 (.cons r2 (.cons rfl .nil)))) (by rw [hps]; rfl) fun hr' => ?_
    obtain ⟨t', ht', hq'⟩ := hG cdv f c' s3 H3 [.ref p, v1, v2] Q (fun v H' Q' => tb (σ ++ [some v]) H' Q') j' hr' (fun pn xe e te p1 p2 he hs => pe_actP (k := k) (i := 3) I3 L hxN hf hfn hfr (hbind _ _ _ _ _) (hr'.mono (by omega)) (fun A outer s H hr2 => hbody A outer s H f c' hr2) hNg hva hd hcd he hs) hco (q2 H3 eN T3) (by omega)
    exact ⟨t', ht'.nox, hq'⟩
  refine codeAny_mono ran fun r s4 hq => ?_
  match r, hq with
  | .error e, hq => exact (show False from hq).elim
  | .ok (.ret u), hq => exact I3.after hq
  | .ok .next, hq => exact False.elim hq
  | .ok .brk, hq => exact False.elim hq
  | .ok .cont, hq => exact False.elim hq
end
/-- a(e), a the lambda at f in slot i -/
def tAskP (f c : Addr) (q : Str) (tl : V → Hp → VK → Prop) (i : Nat) (te : TE) : TE := fun σ H Q => σ[i]? = some (some (.ref f)) ∧ te σ H fun v H1 => H1 c = some (CodeO c q) ∧ tl v H1 Q
/-- a method that makes lambdas -/
theorem Mt.mkXC {P : Program} {w : World} {K : PySem.W.Frag} {mg : Str → Option Value} {base : Heap} {CX : CXT} {m qual : Str} {C : Addr} {params : Arguments} {body : List Stmt} {scope : Scope} {p : He.Defn} {N ps : List Str} {k : Nat} {sp : Sp}
    (c : Cls K C) (me : Meth K C m (He.fAd K p)) (F : ∃ fd, FunD K m qual params body scope [] [] (He.fAd K p) fd) (S : FnScope N ps scope)
    (hb : ∀ (kV doc pm : Value) (an : Option Addr) (cdv ct : Value) (us : List Value), us.length = ps.length → bindArgs (PySem.W.fnOf m qual params body scope .none kV doc pm an cdv ct) ⟨us, []⟩ = pure (ps.zip us))
    (len : ∀ vs H Q E, sp vs H Q E → vs.length = ps.length)
    (hbody : ∀ (A : Around) (outer : List Env) (s : Shared) (H : Hp) (vs : List V) (Q : VK) (E : XK), Room k (A.deeper (envOfC qual scope s.heap.objs.size (He.fAd K p) (.ref (He.codeOf K p)))) → sp vs H Q E →
      ∃ t, PSs (cxOf CX P w K mg base N qual scope (He.fAd K p) (.ref (He.codeOf K p)) A outer s H E) body t ∧ t { nx := fun _ H' => Q .non H', rt := Q } (start N vs) H) : FW.Mt P w K mg base CX (k + 1) C m sp [] := by
  obtain ⟨fd, F⟩ := F
  exact ⟨He.fAd K p, fd, ps, [], c, me, funD_okC F S len hbody, F.bindsN hb, .nil⟩
end FWP
namespace FWN
open PySem PySem.Spec PyProof.Rows L2 FW
/-! ### a method without arguments that may raise, where it does not; a method that makes lambdas and raises nothing -/
theorem pe_oN0 {X : Cx} {k j : Nat} {C : Addr} {m : Str} {sp : Sp} {dvs : List V} {pos apos : Pos} {o : Expr} {ta : TE} {pl : Sem Bool} (c : Mt X.prog X.w X.K X.mg X.base (CXX X) k C m sp dvs) (hr : Room j X.A) (hk : k ≤ j) (he : PE X o ta)
    (ht : eval (.Call (.Attribute o m apos) [] [] pos) X.env = (do
      let ov ← eval o X.env
      standAt apos.atName
      let (f, first) ← holding [ov] (getMethod ov m pl)
      callWith pos f first (backTo pos (starEach [] X.env)) (backToKw pos (keywordEach [] X.env))) := by rfl) :
    PE X (.Call (.Attribute o m apos) [] [] pos) (tMeth C m sp dvs E0 ta tNil) := by
  obtain ⟨f, fd, ps, ds, hc, hm, F, b, d⟩ := c.ex
  exact pe_meth0 (pl := pl) he hc hm F (hr.mono hk) b d passNo ht
end FWN
namespace FWP
open PySem PySem.Spec PyProof.Rows L2 FW LamX
theorem Mt.mk0C {P : Program} {w : World} {K : PySem.W.Frag} {mg : Str → Option Value} {base : Heap} {m qual : Str} {C : Addr} {params : Arguments} {body : List Stmt} {scope : Scope} {p : He.Defn} {N ps : List Str} {k : Nat} {sp : Sp}
    (c : Cls K C) (me : Meth K C m (He.fAd K p)) (F : ∃ fd, FunD K m qual params body scope [] [] (He.fAd K p) fd) (S : FnScope N ps scope)
    (hb : ∀ (kV doc pm : Value) (an : Option Addr) (cdv ct : Value) (us : List Value), us.length = ps.length → bindArgs (PySem.W.fnOf m qual params body scope .none kV doc pm an cdv ct) ⟨us, []⟩ = pure (ps.zip us))
    (len : ∀ vs H Q E, sp vs H Q E → vs.length = ps.length)
    (hbody : ∀ (A : Around) (outer : List Env) (s : Shared) (H : Hp) (vs : List V) (Q : VK) (E : XK), Room k (A.deeper (envOfC qual scope s.heap.objs.size (He.fAd K p) (.ref (He.codeOf K p)))) → sp vs H Q E →
      ∃ t, PSs (cxOf CX0 P w K mg base N qual scope (He.fAd K p) (.ref (He.codeOf K p)) A outer s H E).nox body t ∧ t { nx := fun _ H' => Q .non H', rt := Q } (start N vs) H) : FW.Mt P w K mg base CX0 (k + 1) C m sp [] := by
  obtain ⟨fd, F⟩ := F
  refine ⟨He.fAd K p, fd, ps, [], c, me, funD_okC F S len fun A outer s H vs Q E hr h => ?_, F.bindsN hb, .nil⟩
  obtain ⟨t, h1, h2⟩ := hbody A outer s H vs Q E hr h
  exact ⟨t, h1.nox, h2⟩
end FWP
/-! sorted(xs, key=lambda x: e): the layer's part -/
namespace FWK
open PySem PySem.Spec PySem.W PySem.Calls PyProof.Rows L2 FW LamX FWP
section
variable {X : Cx} {pins : List (Addr × Obj)} {σ : L2.St} {H HJ : Hp} {s : Shared}
/-- f(x), f the lambda, while a built-in runs -/
theorem call_lam {A : Around} {f c' : Addr} {pm ctv : Value} {params : Arguments} {body : Expr} {scope : Scope} {x : Str} {k : Nat} {tb : TE} {v : V} {u : Value} {Q : VK} {R : Value → Shared → Prop}
    (I : Inv X pins σ H s) (L : LamP X.env.scope scope x) (hxN : x ∉ X.N) (hr : Room (k + 1) A) (hfr : A.frames = X.A.frames) (hf : s.heap.get? f = some (PySem.W.kla_obj "<lambda>" (X.env.qual ++ "<lambda>") params body scope (cloFrom X.env.cells scope.names []) pm c' ctv))
    (hc' : H c' = some (CodeO c' (X.env.qual ++ "<lambda>")))
    (hbind : ∀ u : Value, bindArgs (PySem.W.kla_fn "<lambda>" (X.env.qual ++ "<lambda>") params body scope (cloFrom X.env.cells scope.names []) pm (.ref c') ctv) ⟨[u], []⟩ = pure [(x, u)])
    (hbody : ∀ (A : Around) (outer : List Env) (s : Shared) (H : Hp), Room k (A.deeper (lamEnv X scope s.heap.objs.size f c')) → PE (cxP X A outer s H scope x f c') body tb)
    (rv : RelV v u) (ht : tb (σ ++ [some v]) H Q) (hq : ∀ w H' u' s', Inv X pins σ H' s' → (∀ b o, s.heap.get? b = some o → H b = none → b ∉ frs X.stack → s'.heap.get? b = some o ∧ H' b = none) → RelV w u' → Q w H' → R u' s') : wpAny (model X.prog X.w) A (call (.ref f) [u]) R (fun _ _ => False) s := by
  have e0 : Env0 X.prog X.w X.K X.mg X.base A X.stack s H := by
    have e := I.env0
    exact ⟨by rw [hfr]; exact e.frames, e.mod, e.bs, e.bsz, e.funs, e.frf, e.hok, e.bare⟩
  refine wpAny_call ?_
  obtain ⟨⟨oc, ws, t, hoc, hdc, hvc⟩, _, _⟩ := I.hok c' _ hc'
  have ran : codeAny (model X.prog X.w) A (.call (.ref f) ⟨[u], []⟩) (CR (L2.CX X.prog X.w) X.stack X.prog X.w H s Q E0) s := by
    refine PySem.W.kla_callFunE hr.depth hf rfl L.noco L.nogen rfl ⟨c', oc, ws, t, rfl, hoc, hdc, hvc⟩ ?_
    rw [hbind]
    refine wpAny_pure (wpAny_newFunctionEnv (fun y hy => L.nocell y hy) (fun y hy => by rw [List.mem_singleton.mp hy]; exact L.par) (fun h2 hns hsb => ⟨I.nolimit.fresh _ hsb, ?_⟩) L.fk)
    show codeAny _ _ (.expr body (lamEnv X scope s.heap.objs.size f c')) _ _
    have J0 := startP (f := f) (c' := c') (tk := s.toks + ([(x, u)] : List (Str × Value)).length) I L hxN e0 hr.hd Un.refl hns rv (fun b o e => hsb.extBut b o (Nat.ne_of_lt (Heap.lt_size e)) (Heap.get?_push_of_some _ e))
    refine PySem.W.kla_codeExpr (wpAny_mono ((hbody _ _ s H (hr.deeper _)).run [] _ _ H Q J0 ht) ?_ fun e s' hq => ?_)
    · rintro v s' ⟨w', H', J', rv, q⟩
      exact ⟨w', H', J'.os, J'.bare, J'.base, J'.hok, rv, q⟩
    · exact hq
  refine codeAny_mono ran fun r s' hz => ?_
  match r, hz with
  | .error e, hz => 
    obtain ⟨_, _, _, _, _, _, _, _, _, _, _, _, z⟩ := hz
    exact z
  | .ok (.ret u), hz =>
    obtain ⟨w, H', os, bare, un, hok, rw', q⟩ := hz
    obtain ⟨g1, g2, g3, g4, g5⟩ := s'
    obtain rfl : g5 = s.os := os
    have I' := I.call (g' := g2) (h' := g1) (t' := g4) (d' := g3) (ch := []) un hok bare (fun b y => absurd y (by simp))
    exact hq w H' u _ I' (fun b o e1 e2 e3 => ⟨un.keep b o e1 e2 e3 (by simp), un.free b o e1 e2 (by simp)⟩) rw' q
  | .ok .next, hz => exact False.elim hz
  | .ok .brk, hz => exact False.elim hz
  | .ok .cont, hz => exact False.elim hz
/-- the keys' values, as they were made -/
def KeysAt (K : PySem.W.Frag) (H : Hp) (us : List Value) (ds : List PyData) : Prop := EachIs (fun u d => ∃ w, RelV w u ∧ Dp K H w d) us ds
theorem KeysAt.ext {K : PySem.W.Frag} {H H' : Hp} {us : List Value} {ds : List PyData} (h : KeysAt K H us ds) (e : FW.Ext H H') : KeysAt K H' us ds := h.mono fun _ d ⟨w, r, q⟩ => ⟨w, r, FWL.Dp.ext e d w q⟩
/-- an object that is there is tracked -/
theorem track {a : Addr} {o : HO} (I : Inv X pins σ H s) (fp : FpOk X pins H a) (hs : X.s_0.heap.objs.size ≤ a) (ok : ObjOk X.prog X.w (upd H a o) s.heap a o) : Inv X pins σ (upd H a o) s := by
  obtain ⟨f1, f2, f3, f4, f5, f6⟩ := fp
  have ne : ∀ {b : Addr} {u : HO}, H b = some u → b ≠ a := fun {b u} e z => by rw [z, f1] at e; cases e
  have up : ∀ {b : Addr} {u : HO}, H b = some u → upd H a o b = some u := fun {b u} e => by rw [upd_ne (ne e)]; exact e
  have non : ∀ {b : Addr}, b ≠ a → H b = none → upd H a o b = none := fun {b} h e => by rw [upd_ne h]; exact e
  refine ⟨I.ok, I.os, I.bare, ⟨I.base.keep, I.base.slot, fun b u e n x => non (fun z => ?_) (I.base.free b u e n x), I.base.there, fun b xs e => up (I.base.tups b xs e), fun b u v e => up (I.base.frzs b u v e), fun b ps e => ?_⟩, I.loc, I.cell,
    non f2.symm I.free, fun x c e => non (f5 x c e) (I.freeC x c e), fun p hp => ?_, fun b u e => ?_, I.len⟩
  · have := Heap.lt_size e
    rw [z] at this
    exact absurd this (Nat.not_lt.mpr hs)
  · obtain ⟨more, h⟩ := I.base.tbls b ps e
    exact ⟨more, up h⟩
  · obtain ⟨h1, h2, h3⟩ := I.pin p hp
    exact ⟨h1, non (f6 p hp) h2, h3⟩
  · by_cases hb : b = a
    · rw [hb, upd_same] at e
      cases e
      rw [hb]; exact ok
    · rw [upd_ne hb] at e
      exact (I.hok b u e).stay (fun _ _ _ q => q) (fun _ q => up q) fun _ _ q => up q
def tSortKey (T : List (Addr × Str)) (K : PySem.W.Frag) (ta tb : TE) : TE := fun σ H Q => ta σ H fun v H1 => ∃ (l : Addr) (xs : List V) (kd : V → PyData), v = .ref l ∧ SqL K H1 l xs ∧ xs.length ≤ 1000 ∧
  AllAlike (xs.map kd) ∧ Sortable (xs.map kd) ∧ (∀ x, x ∈ xs → (kd x).depth ≤ 8) ∧ Tabs T H1 ∧ ∀ H2, ExtN H1 H2 → Tabs T H2 →
    (∀ x, x ∈ xs → ∀ H3, FW.Ext H2 H3 → tb (σ ++ [some x]) H3 fun w H4 => FW.Ext H3 H4 ∧ Dp K H4 w (kd x)) ∧
    ∀ p H3, FW.Ext H2 H3 → H2 p = none → H3 p = some (.lst (xs.mergeSort (dataLe false kd))) → Q (.ref p) H3
theorem each_vals {xs : List V} {us : List Value} (h : Vals xs us) : EachIs (fun u x => RelV x u) us xs := by
  induction h with
  | nil => exact EachIs.nil
  | cons h t ih => exact EachIs.cons h ih
theorem vals_each : ∀ {us : List Value} {xs : List V}, EachIs (fun u x => RelV x u) us xs → Vals xs us
  | _, _, .nil => .nil
  | _, _, .cons h t => .cons h (vals_each t)
theorem vals_get : ∀ {xs : List V} {us : List Value} {n : Nat} {u : Value}, Vals xs us → us[n]? = some u → ∃ y, xs[n]? = some y ∧ RelV y u
  | _, _, n, u, .nil, h => by simp at h
  | _, _, 0, u, .cons r t, h => by
    simp at h
    exact ⟨_, rfl, by rw [← h]; exact r⟩
  | x :: xs, v :: us, n + 1, u, .cons r t, h => by
    rw [List.getElem?_cons_succ] at h ⊢
    exact vals_get t h
theorem fresh_frs (I : Inv X pins σ H s) {b : Addr} (h : s.heap.objs.size ≤ b) : b ∉ frs X.stack := fun z => by
  rcases List.mem_cons.mp (I.stkSub _ z) with e | e
  · have h1 := I.lt
    rw [← e] at h1
    exact Nat.lt_irrefl _ (Nat.lt_of_lt_of_le h1 h)
  · exact I.nofs h e
theorem pe_sortKey {T : List (Addr × Str)} {x : Str} {c P : Addr} {k j : Nat} {params : Arguments} {e body : Expr} {scope : Scope} {ta tb : TE} {p lpos kpos pos : Pos} (hcalm : X.calm = true) (hg : Gl X "sorted") (hmS : X.mg "sorted" = none) (he : PE X e ta)
    (TB : TabB X.base X.mg c P) (hcode : X.env.code = .ref c) (hmT : (P, X.env.qual ++ "<lambda>") ∈ T) (hu : ∀ p ∈ T, p.1 = P → p.2 = X.env.qual ++ "<lambda>") (hr : Room j X.A) (hk : k + 4 ≤ j) (L : LamP X.env.scope scope x) (hxN : x ∉ X.N) (hdef : defaultsOf params X.env = ([], []))
    (hbind : ∀ (q : Str) (cl : List (Str × Addr)) (pm cv ctv u : Value), bindArgs (PySem.W.kla_fn "<lambda>" q params body scope cl pm cv ctv) ⟨[u], []⟩ = pure [(x, u)])
    (hbody : ∀ (A : Around) (outer : List Env) (s : Shared) (H : Hp) (f c' : Addr), Room k (A.deeper (lamEnv X scope s.heap.objs.size f c')) → PE (cxP X A outer s H scope x f c') body tb)
    (hst : backTo pos (starEach [e] X.env) = (false, eval e X.env) :: backTo pos (starEach [] X.env) := by rfl) (hpl : (backTo pos (starEach [e] X.env)).any (·.1) = false := by rfl)
    (hall : (backToKw pos (keywordEach [⟨some "key", .Lambda params body scope lpos, kpos⟩] X.env)).all (·.1.isSome) = true := by rfl) (hnone : (backToKw pos (keywordEach [⟨some "key", .Lambda params body scope lpos, kpos⟩] X.env)).any (·.1.isNone) = false := by rfl) :
    PE X (.Call (.Name "sorted" p) [e] [⟨some "key", .Lambda params body scope lpos, kpos⟩] pos) (tSortKey T X.K ta tb) := by
  refine ⟨fun pins s σ H Q I h => ?_⟩
  refine wpAny_Call_Name_kw (ld_blt I hg hmS (show bootBuiltins "sorted" = some (.builtin "sorted") by decide +kernel) ?_)
  refine PyProof.Rows.callWith_kw ?_ hst hpl hall hnone
  rw [hst]
  refine Calls.spliced_cons (thn (he.run pins s σ H _ I h) ?_)
  rintro u1 s1 ⟨v1, H1, I1, r1, l, xs, kd, rfl, hl, xl, al, srt, dep, hT, q⟩
  obtain rfl : u1 = Value.ref l := r1
  refine Calls.spliced_nil ?_
  show wpAny _ _ (evalAll ((do let v ← eval (.Lambda params body scope lpos) X.env; standAt pos; pure v) :: [])) _ _ s1
  refine wpAny_evalAll_cons (wpAny_bind (lam_make2 I1 TB hcode hmT hu hT hdef (fun y hy e => L.cells I.ok y hy e) fun f c' pm ctv H2 s2 I2 eN T2 hf hfn hfr hco => wpAny_bind (wpAny_standAt (wpAny_pure (wpAny_evalAll_nil ?_)))))
  show wpAny (model X.prog X.w) X.A (call (.builtin "sorted") [.ref l] [(Str.ofString "key", .ref f)]) (EP X pins σ Q) X.xe s2
  obtain ⟨qb, q⟩ := q H2 eN T2
  have hl2 : SqL X.K H2 l xs := FW.extN_sqL eN hl
  obtain ⟨its, rv, pl, hz⟩ := I2.list hl2
  have il : its.length = xs.length := rv.length.symm
  have a0 : s2.heap.objs.size ≤ s2.heap.objs.size + 1 := Nat.le_succ _
  have fl : f < s2.heap.objs.size := Heap.lt_size hf
  refine sorted_of_sort pl.isList (by omega) (ksk_s1 _ _) (fun _ => ksk_l1 _ _) fun E' => ?_
  rw [ksk_t1]
  refine tree2 (s := { s2 with heap := copyHeap s2.heap its }) (copyHeap_at s2.heap its) (by omega) fun cc m g tk hca hcs hkeep hcc haa => ?_
  have ac : s2.heap.objs.size + 1 < (copyHeap s2.heap its).objs.size := Heap.lt_size (copyHeap_at s2.heap its)
  have cs : s2.heap.objs.size ≤ cc := Nat.le_trans (Nat.le_of_lt (Nat.lt_of_succ_lt ac)) hcs
  have ca : s2.heap.objs.size + 1 ≠ cc := fun z => hca z.symm
  have old : ∀ b u, s2.heap.get? b = some u → g.get? b = some u := fun b u e => hkeep b u (Nat.ne_of_lt (Nat.lt_succ_of_lt (Heap.lt_size e))) (copyHeap_old e)
  have fa : s2.heap.objs.size + 1 ≠ f := fun z => absurd fl (by rw [← z]; exact Nat.not_lt.mpr a0)
  have fc : cc ≠ f := fun z => absurd fl (by rw [← z]; exact Nat.not_lt.mpr cs)
  have xsc : cc ∉ frs X.stack := fresh_frs I2 cs
  have xsa : s2.heap.objs.size + 1 ∉ frs X.stack := fresh_frs I2 a0
  have room := ((hr.mono (show k + 3 ≤ j by omega)).in1).in1
  refine keys_made (fun n us t => us.length = n ∧ ∃ Hj qn, Inv X pins σ Hj t ∧ FW.Ext H2 Hj ∧ KeysAt X.K Hj us ((xs.map kd).take n) ∧ t.heap.get? cc = some (seqObj "list" us.toArray qn) ∧ t.heap.get? (s2.heap.objs.size + 1) = some (seqObj "list" #[] m) ∧
      t.heap.get? f = some (PySem.W.kla_obj "<lambda>" (X.env.qual ++ "<lambda>") params body scope (cloFrom X.env.cells scope.names []) pm c' ctv) ∧ Hj cc = none ∧ Hj (s2.heap.objs.size + 1) = none ∧ Hj f = none)
    (by omega) ⟨rfl, H2, 0, I2.kept old, FW.Ext.rfl', by rw [List.take_zero]; exact EachIs.nil, hcc, haa, old _ _ hf, I2.hok.fresh cs, I2.hok.fresh a0, hfn⟩ (fun _ _ _ h => h.1) ?_ ?_
  · rintro n u us t hx ⟨hlen, Hj, qn, J, e, ka, k1, k2, k3, n1, n2, n3⟩
    obtain ⟨y, hy, ry⟩ := vals_get rv hx
    refine call_lam J L hxN room rfl k3 (e _ _ hco) (hbind _ _ _ _ _) (fun A outer s H hr' => hbody A outer s H f c' hr') ry (qb y (List.mem_of_getElem? hy) Hj e) fun w H' u' t2 J' kp rw' q' => ?_
    obtain ⟨e', dw⟩ := q'
    have c2 := kp cc _ k1 n1 xsc
    have a2 := kp _ _ k2 n2 xsa
    have f2 := kp f _ k3 n3 hfr
    have b1 := Heap.SameBut.update t2.heap cc (Obj.mapSeq (·.push u'))
    obtain ⟨q2, hq2⟩ : ∃ q2, (t2.heap.update cc (Obj.mapSeq (·.push u'))).get? cc = some (seqObj "list" (us.toArray.push u') q2) := ⟨_, get?_update_seq c2.1 (·.push u')⟩
    have ek : (xs.map kd).take (n + 1) = (xs.map kd).take n ++ [kd y] := by rw [List.take_add_one, List.getElem?_map, hy]; rfl
    have ea : (us ++ [u']).toArray = us.toArray.push u' := by simp
    refine ⟨⟨qn, c2.1⟩, by rw [List.length_append, hlen]; rfl, H', q2, J'.turnedL (ch := [cc]) (fun b o hb q => (b1.2 b (fun z => hb (by rw [z]; exact List.mem_cons_self))).trans q) (fun b hb => by rw [List.mem_singleton.mp hb]; exact I2.fpOk cs c2.2), e.tr e', ?_, by rw [ea]; exact hq2, (b1.2 _ ca).trans a2.1, (b1.2 _ fc.symm).trans f2.1, c2.2, a2.2, f2.2⟩
    rw [ek]
    exact each_snoc ⟨w, rw', dw⟩ (ka.ext e')
  · rintro us t ⟨hlen, Hj, qn, J, e, ka, k1, k2, k3, n1, n2, n3⟩
    have et : (xs.map kd).take its.length = xs.map kd := List.take_of_length_le (by rw [List.length_map]; omega)
    rw [et] at ka
    have er : EachIs (fun v d => ∃ as, Reads t.heap v d as) us (xs.map kd) := ka.mono fun v d ⟨w, r, dq⟩ => Dp.reads J d w v dq r
    have S := SortsAt.data (prog := X.prog) (w := X.w) (A := X.A.in1.in1) (s := t) er al srt (fun d hd => by
      obtain ⟨x, hx, rfl⟩ := List.mem_map.mp hd
      have := dep x hx
      have := room.un
      omega)
    refine ⟨⟨qn, k1⟩, end2 (κ := dataKind t.heap (xs.map kd)) k1 k2 hca (by rw [List.toList_toArray]; exact S) (by rw [List.size_toArray]; exact hlen) (by omega) fun h' tk' qq b2 hh => ⟨rfl, ?_⟩⟩
    rw [List.toList_toArray] at hh
    have ho : KeyedOut false (xs.map kd) its (sortVals (dataKind t.heap (xs.map kd)) false us its) := ⟨t.heap, us, al, rfl, er⟩
    have hv := vals_each (keyedOut_each kd ho (each_vals rv))
    have J2 : Inv X pins σ Hj { t with heap := h', toks := tk' } := J.turnedL (ch := [s2.heap.objs.size + 1, cc]) (fun b o hb q => b2 b o (fun z => hb (by rw [z]; exact List.mem_cons_self)) (fun z => hb (by rw [z]; exact List.mem_cons_of_mem _ List.mem_cons_self)) q) (fun b hb => by
      rcases List.mem_cons.mp hb with z | z
      · rw [z]; exact I2.fpOk a0 n2
      · rw [List.mem_singleton.mp z]; exact I2.fpOk cs n1)
    have J3 := track (o := .lst (xs.mergeSort (dataLe false kd))) J2 (I2.fpOk a0 n2) (Nat.le_trans I2.sz a0) ⟨by rw [List.length_mergeSort, sizeLine_eq]; omega, _, qq, hv, hh⟩
    exact ⟨.ref _, _, J3, rfl, q _ _ (e.upds (I2.hok.fresh a0)) (I2.hok.fresh a0) upd_same⟩
end
end FWK
namespace FWL
open PySem PySem.Spec PyProof.Rows L2 FW
/-! ### the polynomials of rests, written out -/
def restE (k i j : Int) : List Int :=
  if k = 2 then [i * (j - i), j] else if k = 3 then [i * i * (j - 2 * i), 2 * i * j - 3 * (i * i), j] else [i * i * i * (j - 3 * i), 3 * (i * i) * j - 8 * (i * i * i), 3 * i * j - 6 * (i * i), j]
theorem pv_one (i r : Int) : pvl [i, 1] r = r + i := by simp [pvl]; omega
theorem pv_x (r : Int) : pvl [0, 1] r = r := by simp [pvl]
theorem restP_pv (k i j r : Int) : pvl (restP k i j) r = (r + i) ^ (k - 1).toNat * (r + (j - (k - 1) * i)) - r ^ k.toNat := by
  unfold restP
  rw [pv_less, pv_mul, pv_pow, pv_pow, pv_one, pv_one, pv_x]
theorem restP_eq {k i j : Int} (hk : k = 2 ∨ k = 3 ∨ k = 4) (hj : 1 ≤ j) : restP k i j = restE k i j := by
  refine pv_uniq (fun r => ?_) (by unfold restP pLess; exact trm_last _) ?_
  · rw [restP_pv]
    unfold restE
    rcases hk with rfl | rfl | rfl
    · rw [if_pos rfl]
      show (r + i) ^ 1 * (r + (j - (2 - 1) * i)) - r ^ 2 = i * (j - i) + r * (j + r * 0)
      grind
    · rw [if_neg (by decide), if_pos rfl]
      show (r + i) ^ 2 * (r + (j - (3 - 1) * i)) - r ^ 3 = i * i * (j - 2 * i) + r * (2 * i * j - 3 * (i * i) + r * (j + r * 0))
      grind
    · rw [if_neg (by decide), if_neg (by decide)]
      show (r + i) ^ 3 * (r + (j - (4 - 1) * i)) - r ^ 4 = i * i * i * (j - 3 * i) + r * (3 * (i * i) * j - 8 * (i * i * i) + r * (3 * i * j - 6 * (i * i) + r * (j + r * 0)))
      grind
  · unfold restE
    rcases hk with rfl | rfl | rfl
    · rw [if_pos rfl]; show some j ≠ some 0; intro z; have := Option.some.inj z; omega
    · rw [if_neg (by decide), if_pos rfl]; show some j ≠ some 0; intro z; have := Option.some.inj z; omega
    · rw [if_neg (by decide), if_neg (by decide)]; show some j ≠ some 0; intro z; have := Option.some.inj z; omega
theorem restE_len {k i j : Int} (hk : k = 2 ∨ k = 3 ∨ k = 4) : (restE k i j).length = k.toNat := by
  unfold restE
  rcases hk with rfl | rfl | rfl <;> rfl
def keyL (cs : List Int) : List Int := 0 :: cs.reverse
def sp_in_the_end (K : PySem.W.Frag) : Sp := fun vs H Q _ => ∃ (a : Addr) (cs : List Int) (k : Int), vs = [.int k, .ref a] ∧ H a = some (.tup (cs.map V.int)) ∧ (cs.length : Int) = k ∧ 1 ≤ k ∧ k ≤ 100 ∧
  ∀ t H', Ext H H' → H' t = some (.lst ((keyL cs).map V.int)) → Q (.ref t) H'
def rd_in_the_end (K : PySem.W.Frag) : TS := tRet (tRevL K (tCB (Evl.rListS K) (tCons (tOp (rCatA K) (tVar 1) (tOp (FWK.rRepT1 K) (tTup (tCons (tC (.int 0)) (tNil))) (tOp FW.rSub (tOp FW.rAdd (tVar 0) (tC (.int 1))) (tCB (Evl.rLenS K) (tCons (tVar 1) (tNil)))))) (tNil))))
theorem pure_in_the_end (K : PySem.W.Frag) (vs : List V) (H : Hp) (Q : VK) (E : XK) (h : sp_in_the_end K vs H Q E) : rd_in_the_end K { nx := fun _ H' => Q .non H', rt := Q } (start ["k", "poly"] vs) H := by
  obtain ⟨a, cs, k, rfl, ha, hl, k1, k2, q⟩ := h
  have sz := sizeLine_eq
  unfold rd_in_the_end
  with_reducible refine s_ret ?_
  refine (show ∀ {te : TE} {σ : L2.St} {H : Hp} {Q : VK}, (te σ H fun x H1 => ∃ a xs, x = .ref a ∧ SqL K H1 a xs ∧ ∀ p, H1 p = none → Q (.ref p) (upd H1 p (.lst xs.reverse))) → tRevL K te σ H Q from fun h => h) ?_
  walk_at "ry"
  have ha' := ne _ _ ha
  refine e_len ?_ (.inr (SqT.of ha'))
  walk_at "ry"
  rw [List.length_map, hl]
  have e1 : k + 1 - k = 1 := by omega
  rw [e1]
  refine ⟨nt, _, rfl, rfl, SqT.of nh, ?_⟩
  refine ⟨a, nt, _, _, rfl, rfl, SqT.of ha', SqT.of nh, by rw [List.length_map]; show cs.length + 1 ≤ _; omega, fun z => ?_, (fun _ z => nomatch z), fun _ _ p hp => ?_⟩
  · have : (cs.map V.int).length = 0 := by rw [z]; rfl
    rw [List.length_map] at this; omega
  generalize hG : upd nH p _ = G
  obtain ⟨e2, hG⟩ := al_of hp hG
  walk_at "ry"
  refine e_listS (fun t ht => ?_) (.inr (SqT.of hG))
  generalize hG2 : upd G t _ = G2
  obtain ⟨e3, hG2⟩ := al_of ht hG2
  refine ⟨t, _, rfl, SqL.of hG2, fun u hu => ?_⟩
  generalize hG3 : upd G2 u _ = G3
  obtain ⟨e4, hG3⟩ := al_of hu hG3
  refine q u G3 (((ne.tr e2).tr e3).tr e4) ?_
  rw [hG3]
  congr 2
  unfold keyL
  rw [List.reverse_append, List.map_cons, List.map_reverse]
  rfl
/-! ### all cuts -/
/-- the program's list of cuts ahead of the sorting: of the gaps from lo on -/
def Lp.accC (l : Lp) (lo : Int) : Nat → List (List Int)
  | 0 => []
  | n + 1 => l.accC lo n ++ (l.rowC (lo + (n : Nat))).filter fun p => !(l.accC lo n).any fun z => decide (z = p)
theorem row_ok {l : Lp} (o : l.Ok) {i : Int} {p : List Int} (h : p ∈ l.rowC i) : ∃ j, j ∈ l.rowJ i ∧ 1 ≤ j ∧ j ≤ l.most i ∧ p = restE l.k i j := by
  obtain ⟨j, hj, rfl⟩ := List.mem_map.mp h
  obtain ⟨j1, j2⟩ := row_pos o 8 (l.ll i + 1) (need_one o i) j hj
  exact ⟨j, hj, j1, j2, restP_eq o.hk j1⟩
theorem acc_len {l : Lp} (o : l.Ok) (lo : Int) : ∀ n, (l.accC lo n).length ≤ 4 * n
  | 0 => Nat.le_refl _
  | n + 1 => by
    have h1 := acc_len o lo n
    have h2 := List.length_filter_le (fun p => !(l.accC lo n).any fun z => decide (z = p)) (l.rowC (lo + (n : Nat)))
    have h3 : (l.rowC (lo + (n : Nat))).length = (l.rowJ (lo + (n : Nat))).length := by unfold Lp.rowC; rw [List.length_map]
    have h4 := rowJ_len o (lo + (n : Nat))
    unfold Lp.accC
    rw [List.length_append]
    omega
theorem acc_mem {l : Lp} {lo : Int} {p : List Int} : ∀ {n : Nat}, p ∈ l.accC lo n ↔ ∃ m : Nat, m < n ∧ p ∈ l.rowC (lo + (m : Nat))
  | 0 => ⟨(fun h => nomatch h), fun ⟨_, h, _⟩ => by omega⟩
  | n + 1 => by
    unfold Lp.accC
    rw [List.mem_append, List.mem_filter]
    constructor
    · rintro (h | ⟨h, _⟩)
      · obtain ⟨m, hm, h⟩ := (acc_mem (n := n)).mp h; exact ⟨m, by omega, h⟩
      · exact ⟨n, by omega, h⟩
    · rintro ⟨m, hm, h⟩
      by_cases e : m < n
      · exact .inl ((acc_mem (n := n)).mpr ⟨m, e, h⟩)
      · obtain rfl : m = n := by omega
        cases hb : (l.accC lo m).any fun z => decide (z = p) with
        | true =>
          rw [List.any_eq_true] at hb
          obtain ⟨z, hz, e⟩ := hb
          rw [← of_decide_eq_true e]; exact .inl hz
        | false => exact .inr ⟨h, rfl⟩
theorem acc_nodup {l : Lp} (hrow : ∀ i, (l.rowC i).Nodup) (lo : Int) : ∀ n, (l.accC lo n).Nodup
  | 0 => List.nodup_nil
  | n + 1 => by
    unfold Lp.accC
    rw [List.nodup_append]
    refine ⟨acc_nodup hrow lo n, (hrow _).filter _, fun a ha b hb e => ?_⟩
    have := (List.mem_filter.mp hb).2
    rw [Bool.not_eq_true', List.any_eq_false] at this
    exact this a ha (decide_eq_true e)
end FWL
namespace FWL
open PySem PySem.Spec PyProof.Rows L2 FW
/-! ### heaps that keep all but tables -/
section
variable {H H' : Hp} {a C dx : Addr} {xs : List V} {fs : List (Str × L2.V)}
theorem nx_lst (e : LamX.ExtN H H') (h : H a = some (.lst xs)) : H' a = some (.lst xs) := e _ _ h (fun _ z => nomatch z)
theorem nx_tup (e : LamX.ExtN H H') (h : H a = some (.tup xs)) : H' a = some (.tup xs) := e _ _ h (fun _ z => nomatch z)
theorem nx_ins (e : LamX.ExtN H H') (h : H a = some (.ins C dx fs)) : H' a = some (.ins C dx fs) := e _ _ h (fun _ z => nomatch z)
theorem nx_of (e : Ext H H') : LamX.ExtN H H' := LamX.ExtN.of e
end
theorem nx_all {H H' : Hp} (e : LamX.ExtN H H') : (∀ a xs, H a = some (.lst xs) → H' a = some (.lst xs)) ∧ (∀ a xs, H a = some (.tup xs) → H' a = some (.tup xs)) ∧ (∀ a C dx fs, H a = some (.ins C dx fs) → H' a = some (.ins C dx fs)) :=
  ⟨fun _ _ h => nx_lst e h, fun _ _ h => nx_tup e h, fun _ _ _ _ h => nx_ins e h⟩
theorem tabs_lst {T : List (Addr × Str)} {H G : Hp} {a : Addr} {xs ys : List V} (t : LamX.Tabs T H) (h : H a = some (.lst xs)) (e : upd H a (.lst ys) = G) : LamX.Tabs T G := fun p hp => by
  subst e
  obtain ⟨ps, h1, h2, h3⟩ := t p hp
  refine ⟨ps, by rw [upd_ne (ne_of h1 h (fun z => nomatch z))]; exact h1, h2, fun pos cv hc => ?_⟩
  obtain ⟨c, e1, e2⟩ := h3 pos cv hc
  exact ⟨c, e1, by rw [upd_ne (ne_of e2 h (fun z => nomatch z))]; exact e2⟩
end FWL
local macro_rules | `(tactic| walk_at "rN") => `(tactic| (intro xa xo xh xn; solve_by_elim (maxDepth := 60)))
namespace FWL
open PySem PySem.Spec PyProof.Rows L2 FW
/-! ### the list of cuts, sorted -/
def tabs (K : PySem.W.Frag) : List (Addr × Str) := [((He.cT K ("all_cuts", none)).2, (("all_cuts" : Str) ++ ".<locals>.") ++ "<lambda>")]
theorem tabs_of {K : PySem.W.Frag} {H : Hp} (h : ∀ p ∈ ([("all_cuts", none)] : List He.Defn).map (He.cT K), H p.2 = some (.tbl #[])) : LamX.Tabs (tabs K) H := fun p hp => by
  rw [List.mem_singleton.mp hp]
  exact LamX.TabS.nil (h _ (List.mem_map.mpr ⟨_, List.mem_singleton.mpr rfl, rfl⟩))
def insP (p : List Int) : List (List Int) → List (List Int)
  | [] => [p]
  | q :: qs => if keyL p ≤ keyL q then p :: q :: qs else q :: insP p qs
def sortP : List (List Int) → List (List Int)
  | [] => []
  | p :: ps => insP p (sortP ps)
theorem insP_perm (p : List Int) : ∀ qs, (insP p qs).Perm (p :: qs)
  | [] => List.Perm.refl _
  | q :: qs => by
    unfold insP
    split
    · exact List.Perm.refl _
    · exact ((insP_perm p qs).cons q).trans (List.Perm.swap p q qs)
theorem sortP_perm : ∀ ps, (sortP ps).Perm ps
  | [] => List.Perm.refl _
  | p :: ps => (insP_perm p (sortP ps)).trans ((sortP_perm ps).cons p)
theorem insP_pw {p : List Int} : ∀ {qs : List (List Int)}, qs.Pairwise (fun a b => keyL a ≤ keyL b) → (insP p qs).Pairwise (fun a b => keyL a ≤ keyL b)
  | [], _ => List.pairwise_singleton _ _
  | q :: qs, h => by
    have h' := List.pairwise_cons.mp h
    unfold insP
    by_cases hp : keyL p ≤ keyL q
    · rw [if_pos hp]
      refine List.pairwise_cons.mpr ⟨fun a ha => ?_, h⟩
      rcases List.mem_cons.mp ha with rfl | ha
      · exact hp
      · exact List.le_trans hp (h'.1 a ha)
    · rw [if_neg hp]
      refine List.pairwise_cons.mpr ⟨fun a ha => ?_, insP_pw h'.2⟩
      rcases List.mem_cons.mp ((insP_perm p qs).mem_iff.mp ha) with rfl | ha
      · exact (List.le_total _ _).resolve_right hp
      · exact h'.1 a ha
theorem sortP_pw : ∀ ps, (sortP ps).Pairwise (fun a b => keyL a ≤ keyL b)
  | [] => List.Pairwise.nil
  | p :: ps => insP_pw (sortP_pw ps)
theorem keyL_inj {a b : List Int} (h : keyL a = keyL b) : a = b := by
  unfold keyL at h
  injection h with _ h
  exact List.reverse_inj.mp h
theorem sortP_uniq {ps qs : List (List Int)} (hp : qs.Perm ps) (hs : qs.Pairwise (fun a b => keyL a ≤ keyL b)) : qs = sortP ps :=
  List.Perm.eq_of_pairwise (fun a b _ _ h1 h2 => keyL_inj (List.le_antisymm h1 h2)) hs (sortP_pw ps) (hp.trans (sortP_perm ps).symm)
/-- the coefficients at a value -/
def polyAt (H : Hp) : V → List Int
  | .ref a => match H a with
    | some (.tup vs) => vs.map iv
    | _ => []
  | _ => []
theorem map_iv (cs : List Int) : (cs.map V.int).map iv = cs := by rw [List.map_map]; exact List.map_id'' (fun _ => rfl) cs
theorem polyAt_eq {H : Hp} {a : Addr} {cs : List Int} (h : H a = some (.tup (cs.map V.int))) : polyAt H (.ref a) = cs := by
  unfold polyAt
  simp only [h]
  exact map_iv cs
theorem Pls.at {H : Hp} : ∀ {xs : List V} {ps : List (List Int)}, Pls H xs ps → ps = xs.map (polyAt H) ∧ ∀ x, x ∈ xs → ∃ a, x = .ref a ∧ H a = some (.tup ((polyAt H x).map V.int))
  | _, _, .nil => ⟨rfl, fun _ h => nomatch h⟩
  | x :: xs, p :: ps, .cons h t => by
    obtain ⟨a, rfl, ha⟩ := h
    obtain ⟨e1, e2⟩ := Pls.at t
    have e := polyAt_eq ha
    refine ⟨by rw [List.map_cons, e, ← e1], fun x hx => ?_⟩
    rcases List.mem_cons.mp hx with rfl | hx
    · exact ⟨a, rfl, by rw [e]; exact ha⟩
    · exact e2 x hx
theorem Pls.of {H : Hp} : ∀ {xs : List V}, (∀ x, x ∈ xs → ∃ a, x = .ref a ∧ H a = some (.tup ((polyAt H x).map V.int))) → Pls H xs (xs.map (polyAt H))
  | [], _ => .nil
  | x :: xs, h => .cons (h x List.mem_cons_self) (Pls.of fun y hy => h y (List.mem_cons_of_mem _ hy))
theorem polyAt_ext {H H' : Hp} {x : V} (e : Ext H H') (h : ∃ a, x = .ref a ∧ H a = some (.tup ((polyAt H x).map V.int))) : polyAt H' x = polyAt H x := by
  obtain ⟨a, rfl, ha⟩ := h
  exact polyAt_eq (e _ _ ha)
theorem Pls.sorted {H : Hp} {xs : List V} {ps : List (List Int)} (h : Pls H xs ps) : Pls H (xs.mergeSort fun p q => decide (keyL (polyAt H p) ≤ keyL (polyAt H q))) (sortP ps) := by
  obtain ⟨e1, e2⟩ := h.at
  have pm := List.mergeSort_perm xs fun p q => decide (keyL (polyAt H p) ≤ keyL (polyAt H q))
  have pw := List.pairwise_mergeSort (le := fun p q : V => decide (keyL (polyAt H p) ≤ keyL (polyAt H q))) (fun a b c h1 h2 => decide_eq_true (List.le_trans (of_decide_eq_true h1) (of_decide_eq_true h2))) (fun a b => by
    rw [Bool.or_eq_true, decide_eq_true_iff, decide_eq_true_iff]; exact List.le_total _ _) xs
  have hu : (xs.mergeSort fun p q => decide (keyL (polyAt H p) ≤ keyL (polyAt H q))).map (polyAt H) = sortP ps := sortP_uniq (by rw [e1]; exact pm.map _) (List.pairwise_map.mpr (pw.imp fun h => of_decide_eq_true h))
  rw [← hu]
  exact Pls.of fun x hx => e2 x (pm.mem_iff.mp hx)
theorem Pls.filter {H : Hp} {p : V → Bool} {q : List Int → Bool} (hpq : ∀ x, p x = q (polyAt H x)) : ∀ {xs : List V} {ps : List (List Int)}, Pls H xs ps → Pls H (xs.filter p) (ps.filter q)
  | _, _, .nil => .nil
  | x :: xs, c :: ps, .cons h t => by
    have ih := Pls.filter hpq t
    obtain ⟨a, rfl, ha⟩ := id h
    have e : p (.ref a) = q c := by rw [hpq, polyAt_eq ha]
    cases hq : q c with
    | true => rw [List.filter_cons_of_pos (by rw [e, hq]), List.filter_cons_of_pos hq]; exact .cons h ih
    | false => rw [List.filter_cons_of_neg (by rw [e, hq]; decide), List.filter_cons_of_neg (by rw [hq]; decide)]; exact ih
theorem Pls.append {H : Hp} : ∀ {xs ys : List V} {ps qs : List (List Int)}, Pls H xs ps → Pls H ys qs → Pls H (xs ++ ys) (ps ++ qs)
  | _, _, _, _, .nil, h => h
  | _, _, _, _, .cons h t, h' => .cons h (Pls.append t h')
/-! polynomials as data -/
def tupD (cs : List Int) : PyData := .tuple (cs.map PyData.int)
theorem dpTup {K : PySem.W.Frag} {H : Hp} {a : Addr} {cs : List Int} (h : H a = some (.tup (cs.map V.int))) : Dp K H (.ref a) (tupD cs) := .tup (SqT.of h) (dpI cs)
theorem dpPls {K : PySem.W.Frag} {H : Hp} : ∀ {xs : List V} {ps : List (List Int)}, Pls H xs ps → DpAll K H xs (ps.map tupD)
  | _, _, .nil => .nil
  | _, _, .cons h t => by
    obtain ⟨a, rfl, ha⟩ := h
    exact .cons (dpTup ha) (dpPls t)
theorem layP : ∀ ps : List (List Int), PyData.canLayAll0 (ps.map tupD) = true
  | [] => rfl
  | p :: ps => by
    rw [List.map_cons, PyData.canLayAll0, layP ps]
    show ((PyData.tuple (p.map PyData.int)).canLay0 && true) = true
    rw [PyData.canLay0, layI]; rfl
theorem depP : ∀ ps : List (List Int), PyData.depthAll (ps.map tupD) ≤ 1
  | [] => Nat.zero_le _
  | p :: ps => by
    rw [List.map_cons, PyData.depthAll]
    have := depP ps
    have h : (tupD p).depth = 1 := by show (PyData.tuple (p.map PyData.int)).depth = 1; rw [PyData.depth, depI]
    rw [h]; omega
theorem shPL (ps : List (List Int)) : SeqAt.shaped (.list (ps.map tupD)) = true := by
  unfold SeqAt.shaped
  rw [PyData.canLay0, layP, PyData.depth, Bool.true_and]
  have := depP ps
  exact decide_eq_true (by omega)
theorem shPT (ps : List (List Int)) : SeqAt.shaped (.tuple (ps.map tupD)) = true := by
  unfold SeqAt.shaped
  rw [PyData.canLay0, layP, PyData.depth, Bool.true_and]
  have := depP ps
  exact decide_eq_true (by omega)
theorem eqv_tupD (a b : List Int) : PyData.eqv (tupD a) (tupD b) = decide (a = b) := by
  show PyData.eqv (.tuple (a.map PyData.int)) (.tuple (b.map PyData.int)) = _
  rw [PyData.eqv, eqvI]
theorem any_tupD (ps : List (List Int)) (p : List Int) : (ps.map tupD).any (fun z => PyData.eqv z (tupD p)) = ps.any fun z => decide (z = p) := by
  rw [List.any_map]
  congr 1
  funext z
  exact eqv_tupD z p
def Lp.cuts (l : Lp) (lo hi : Int) : List (List Int) := sortP (l.accC lo (hi + 1 - lo).toNat)
theorem cuts_len {l : Lp} (o : l.Ok) (lo hi : Int) : (l.cuts lo hi).length ≤ 4 * (hi + 1 - lo).toNat := by
  unfold Lp.cuts
  rw [(sortP_perm _).length_eq]
  exact acc_len o lo _
def sp_all_cuts (K : PySem.W.Frag) : Sp := fun vs H Q _ => ∃ (p : Addr) (l : Lp) (lo hi : Int), vs = [.ref p, .int lo, .int hi] ∧ IsLp K H p l ∧ l.Ok ∧ LamX.Tabs (tabs K) H ∧ -10 ≤ lo ∧ lo ≤ 0 ∧ 0 ≤ hi ∧ hi ≤ 30 ∧
  ∀ t xs H', LamX.ExtN H H' → LamX.Tabs (tabs K) H' → H' t = some (.lst xs) → Pls H' xs (l.cuts lo hi) → Q (.ref t) H'
def rd_all_cuts_L1 (K : PySem.W.Frag) : TS := tDrop (tBM K "list" rExtend (tVar 3) (tCons (tLc (iList K (tCall (sp_row_cuts K) [] E0 (tCons (tVar 0) (tCons (tVar 4) (tNil))))) (gName 5) (tTest (tOp (rNotInD K) (tVar 5) (tVar 3))) (tVar 5) [5]) (tNil)))
def rd_all_cuts (K : PySem.W.Frag) : TS := tSeq (tAsg (tLst (tNil)) (gName 3)) (tSeq (tFor (iRng2 (tCons (tVar 1) (tCons (tOp FW.rAdd (tVar 2) (tC (.int 1))) (tNil)))) (gName 4) (rd_all_cuts_L1 K)) (tRet (FWK.tSortKey (FWL.tabs K) K (tVar 3) (tCall (sp_in_the_end K) [] E0 (tCons (tFld K (tVar 0) "k") (tCons (tVar 6) (tNil)))))))
theorem pure_all_cuts (K : PySem.W.Frag) (A : AvK K) (vs : List V) (H : Hp) (Q : VK) (E : XK) (h : sp_all_cuts K vs H Q E) : rd_all_cuts K { nx := fun _ H' => Q .non H', rt := Q } (start ["loop", "low", "high", "found", "i", "poly"] vs) H := by
  obtain ⟨p, l, lo, hi, rfl, hL, o, T, lo1, lo2, hi1, hi2, q⟩ := h
  have A' := A; cases A'
  have hk := o.hk
  have sz := sizeLine_eq
  unfold rd_all_cuts
  walk_at "rx"
  rotate_left
  · refine ⟨by omega, by omega, by omega, by omega⟩
  have hF0 := nz
  refine for_range (lo := lo) (n := (hi + 1 - lo).toNat) (fun n σ H' => Ext H H' ∧ ∃ (xs : List V) (u : Option V), H' nt = some (.lst xs) ∧ Pls H' xs (l.accC lo n) ∧ σ = [some (.ref p), some (.int lo), some (.int hi), some (.ref nt), u, none]) ⟨ne, [], none, nh, .nil, rfl⟩ ?_ ?_
  · rintro n σ H' hn ⟨e, xs, u, hF, hP, rfl⟩
    refine g_name ?_
    unfold rd_all_cuts_L1
    walk_at "rx"
    refine ⟨p, l, lo + (n : Nat), rfl, hL.ext e, o, by omega, by omega, fun t ys H2 ht e2 h2 hP2 => ?_⟩
    walk_at "rx"
    refine i_list' _ ?_ (SqL.of h2)
    have y4 : ys.length ≤ 4 := by
      rw [hP2.len]
      unfold Lp.rowC
      rw [List.length_map]
      exact rowJ_len o _
    have hP' := hP.ext e2
    refine lcLX (P := fun x v => v = x) (p := fun x => !(l.accC lo n).any fun z => decide (z = polyAt H2 x)) (SqL.of h2) (by omega) (fun v => rfl) (fun x hx H3 R e3 k => ?_) (fun x hx px H3 R e3 k => ?_) fun D G zs hD eG hG hp => ?_
    · obtain ⟨a, rfl, ha⟩ := hP2.at.2 x hx
      walk_at "re"
      refine ⟨tupD (polyAt H2 (.ref a)), (l.accC lo n).map tupD, dpTup (e3 _ _ ha), .lst (SqL.of ((e2.tr e3) _ _ hF)) (dpPls (hP'.ext e3)), shT _, shPL _, ?_⟩
      rw [any_tupD]
      walk_at "re"
      exact k _ Ext.rfl'
    · refine FW.e_var ?_ rfl
      exact k _ _ Ext.rfl' rfl
    have e0 := paired_eq hp
    subst e0
    have hPf : Pls H2 (ys.filter fun x => !(l.accC lo n).any fun z => decide (z = polyAt H2 x)) ((l.rowC (lo + (n : Nat))).filter fun p => !(l.accC lo n).any fun z => decide (z = p)) := Pls.filter (q := fun p => !(l.accC lo n).any fun z => decide (z = p)) (fun x => rfl) hP2
    have xl := hP.len
    have al := acc_len o lo n
    have fl := List.length_filter_le (fun x => !(l.accC lo n).any fun z => decide (z = polyAt H2 x)) ys
    walk_at "rx"
    refine ⟨nt, D, xs, _, rfl, rfl, eG _ _ (e2 _ _ hF), hG, by omega, ?_⟩
    have e4 := (e.tr e2).tr eG
    refine ⟨e4.upds hF0, _, _, upd_same, ?_, rfl⟩
    have hFG := eG _ _ (e2 _ _ hF)
    have up : ∀ b vs, G b = some (.tup vs) → upd G nt (.lst (xs ++ ys.filter fun x => !(l.accC lo n).any fun z => decide (z = polyAt H2 x))) b = some (.tup vs) := fun b vs h => by
      rw [upd_ne (ne_of h hFG (fun z => nomatch z))]; exact h
    have hA := (hP'.ext eG).append (hPf.ext eG)
    exact Paired.mapP hA fun v cs ⟨a, h1, h2⟩ => ⟨a, h1, up _ _ h2⟩
  · rintro σ H' ⟨e, xs, u, hF, hP, rfl⟩
    have hL' := hL.ext e
    have xl := hP.len
    have al := acc_len o lo (hi + 1 - lo).toNat
    have hat := hP.at
    walk_at "rd"
    refine (show ∀ {ta tb : TE} {σ : L2.St} {H : Hp} {Q : VK}, (ta σ H fun v H1 => ∃ (l : Addr) (xs : List V) (kd : V → PyData), v = .ref l ∧ SqL K H1 l xs ∧ xs.length ≤ 1000 ∧
        PySem.W.AllAlike (xs.map kd) ∧ PySem.W.Sortable (xs.map kd) ∧ (∀ x, x ∈ xs → (kd x).depth ≤ 8) ∧ LamX.Tabs (tabs K) H1 ∧ ∀ H2, LamX.ExtN H1 H2 → LamX.Tabs (tabs K) H2 →
          (∀ x, x ∈ xs → ∀ H3, Ext H2 H3 → tb (σ ++ [some x]) H3 fun w H4 => Ext H3 H4 ∧ Dp K H4 w (kd x)) ∧
          ∀ p H3, Ext H2 H3 → H2 p = none → H3 p = some (.lst (xs.mergeSort (PySem.W.dataLe false kd))) → Q (.ref p) H3) → FWK.tSortKey (tabs K) K ta tb σ H Q from fun h => h) ?_
    walk_at "rd"
    refine ⟨nt, xs, fun v => .list ((keyL (polyAt H' v)).map PyData.int), rfl, SqL.of hF, by omega, PySem.W.AllAlike.of fun a b => PySem.W.alike_ints _ _, PySem.W.Sortable.others fun b => ⟨(fun z => nomatch z), fun _ z => nomatch z⟩, fun x hx => ?_, T.ext e, fun H2 eN T2 => ⟨fun x hx H3 e3 => ?_, fun t H3 e3 ht h3 => ?_⟩⟩
    · show (PyData.list ((keyL (polyAt H' x)).map PyData.int)).depth ≤ 8
      rw [PyData.depth, depI]; decide
    · obtain ⟨a, rfl, ha⟩ := hat.2 x hx
      obtain ⟨dx, hp⟩ := hL'
      have hp3 := e3 _ _ (nx_ins eN hp)
      have ha3 := e3 _ _ (nx_tup eN ha)
      have hmem : polyAt H' (.ref a) ∈ l.accC lo (hi + 1 - lo).toNat := by rw [hat.1]; exact List.mem_map.mpr ⟨_, hx, rfl⟩
      obtain ⟨m, _, hr⟩ := acc_mem.mp hmem
      obtain ⟨j, _, _, _, er⟩ := row_ok o hr
      have hlen : (((polyAt H' (.ref a)).length : Nat) : Int) = l.k := by rw [er, restE_len hk]; omega
      walk_at "ry"
      refine ⟨a, polyAt H' (.ref a), l.k, rfl, ha3, hlen, by omega, by omega, fun t H4 e4 h4 => ⟨e4, .lst (SqL.of h4) (dpI _)⟩⟩
    · rw [PySem.W.dataLe_rows] at h3
      have eN2 := eN.trans (LamX.ExtN.of e3)
      have hS := hP.sorted
      have hP3 : Pls H3 (xs.mergeSort fun p q => decide (keyL (polyAt H' p) ≤ keyL (polyAt H' q))) (sortP (l.accC lo (hi + 1 - lo).toNat)) := Paired.mapP hS fun v cs ⟨a, h1, h2⟩ => ⟨a, h1, nx_tup eN2 h2⟩
      exact q t _ H3 ((LamX.ExtN.of e).trans eN2) (T2.ext e3) h3 hP3
end FWL
namespace FWL
open PySem PySem.Spec PyProof.Rows L2 FW
/-! ### bounds -/
theorem mulL_sz {p q : Nat} {b : List Int} (hb : ∀ c, c ∈ b → Sz q c) : ∀ {a : List Int}, (∀ c, c ∈ a → Sz p c) → ∀ x, x ∈ mulL a b → Sz (p + q + a.length) x
  | [], _, x, h => by cases h
  | c :: cs, ha, x, h => by
    unfold mulL at h
    have h1 : ∀ y, y ∈ scaL c b → Sz (p + q + cs.length) y := fun y hy => by
      obtain ⟨d, hd, rfl⟩ := List.mem_map.mp hy
      have h2 := ha c List.mem_cons_self
      have h3 := hb d hd
      have h4 : (c * d).natAbs < 2 ^ (p + q) := by
        rw [Int.natAbs_mul, Nat.pow_add]
        exact Nat.mul_lt_mul'' h2 h3
      exact Nat.lt_of_lt_of_le h4 (Nat.pow_le_pow_right (by decide) (by omega))
    have h2 : ∀ y, y ∈ (0 :: mulL cs b) → Sz (p + q + cs.length) y := fun y hy => by
      rcases List.mem_cons.mp hy with rfl | hy
      · exact Nat.pow_pos (by decide)
      · exact mulL_sz hb (fun d hd => ha d (List.mem_cons_of_mem _ hd)) y hy
    have := addL_sz h1 h2 x h
    rw [List.length_cons]
    exact this
theorem mulL_len : ∀ (a b : List Int), (mulL a b).length ≤ a.length + b.length
  | [], b => Nat.zero_le _
  | c :: cs, b => by
    have := mulL_len cs b
    unfold mulL
    rw [addL_len]
    unfold scaL
    rw [List.length_map, List.length_cons, List.length_cons]
    omega
theorem PZ.mul {m n p q : Nat} {a b : List Int} (h1 : PZ m p a) (h2 : PZ n q b) : PZ (m + n) (p + q + m) (pMul a b) := by
  refine ⟨?_, fun c hc => Sz.mono (mulL_sz h2.2 h1.2 c (trm_mem hc)) (by have := h1.1; omega)⟩
  have := trm_len (mulL a b)
  have := mulL_len a b
  have := h1.1; have := h2.1
  unfold pMul; omega
theorem PZ.one : PZ 1 1 [1] := ⟨Nat.le_refl _, fun c hc => by rw [List.mem_singleton.mp hc]; show (1 : Nat) < 2 ^ 1; decide⟩
theorem pz_pow {b : Nat} {i : Int} (h : Sz b i) (hb : 1 ≤ b) (hb2 : b ≤ 10) : ∀ k : Nat, k ≤ 4 → PZ (2 * k + 1) (20 * k + 1) (pPow [i, 1] k)
  | 0, _ => PZ.one
  | k + 1, hk => ((pz_pow h hb hb2 k (by omega)).mul (pz1 h hb)).mono (by omega) (by omega)
theorem pz_endP {k : Int} (h1 : 2 ≤ k) (h2 : k ≤ 4) : PZ 9 90 (endP k) := by
  have a := pz_pow (b := 1) (i := 1) (by decide) (by decide) (by decide) k.toNat (by omega)
  have b := pz_pow (b := 1) (i := 0) (by decide) (by decide) (by decide) k.toNat (by omega)
  exact (a.less b).mono (by omega) (by omega)
theorem pz_restP {k i j : Int} (h1 : 2 ≤ k) (h2 : k ≤ 4) (i1 : -60 ≤ i) (i2 : i ≤ 60) (j1 : -100 ≤ j) (j2 : j ≤ 100) : PZ 9 95 (restP k i j) := by
  have m1 : -240 ≤ (k - 1) * i ∧ (k - 1) * i ≤ 240 := by
    have : k = 2 ∨ k = 3 ∨ k = 4 := by omega
    rcases this with rfl | rfl | rfl <;> omega
  have a := pz_pow (b := 6) (i := i) (by show i.natAbs < 64; omega) (by decide) (by decide) (k - 1).toNat (by omega)
  have b := pz_pow (b := 1) (i := 0) (by decide) (by decide) (by decide) k.toNat (by omega)
  have c := pz1 (b := 10) (c := j - (k - 1) * i) (by show _ < 1024; omega) (by decide)
  exact (((a.mul c).mono (Nat.le_refl _) (by omega : _ ≤ 94)).less (b.mono (Nat.le_refl _) (by omega : _ ≤ 94))).mono (by omega) (by omega)
/-! ### above, fall_poly -/
def aboveP (a b : List Int) : List Int := pAdd (pLess a b) [1]
theorem pv_above (a b : List Int) (r : Int) : pvl (aboveP a b) r = pvl a r - pvl b r + 1 := by unfold aboveP; rw [pv_add, pv_less]; simp [pvl]
theorem pz_above {m n b : Nat} {p q : List Int} (h1 : PZ m b p) (h2 : PZ n b q) (hm : 1 ≤ m) (hb : 1 ≤ b) : PZ (max m n) (b + 2) (aboveP p q) :=
  ((h1.less h2).add (PZ.one.mono (Nat.le_refl _) (by omega))).mono (by omega) (Nat.le_refl _)
def sp_above (K : PySem.W.Frag) : Sp := fun vs H Q _ => ∃ (a b : Addr) (ns ms : List Int), vs = [.ref a, .ref b] ∧ SqA K H a (ns.map V.int) ∧ SqT K H b (ms.map V.int) ∧ ns.length ≤ 99 ∧ ms.length ≤ 99 ∧ ∀ t H', H t = none → Ext H H' → H' t = some (.tup ((aboveP ns ms).map V.int)) → Q (.ref t) H'
def rd_above (K : PySem.W.Frag) : TS := tRet (tCall (sp_poly_sum K) [] E0 (tCons (tCall (sp_poly_less K) [] E0 (tCons (tVar 0) (tCons (tVar 1) (tNil)))) (tCons (tTup (tCons (tC (.int 1)) (tNil))) (tNil))))
theorem pure_above (K : PySem.W.Frag) (vs : List V) (H : Hp) (Q : VK) (E : XK) (h : sp_above K vs H Q E) : rd_above K { nx := fun _ H' => Q .non H', rt := Q } (start ["one", "other"] vs) H := by
  obtain ⟨a, b, ns, ms, rfl, ha, hb, h1, h2, q⟩ := h
  unfold rd_above
  walk_at "rx"
  refine lessP ha hb (by omega) (by omega) fun t1 H1 ht1 e1 g1 => ?_
  walk_at "rx"
  have l1 : (pLess ns ms).length ≤ 100 := by
    have := trm_len (addL ns (negL ms))
    rw [addL_len] at this
    unfold negL at this
    rw [List.length_map] at this
    unfold pLess negL
    omega
  have nh' : nH nt = some (.tup (([1] : List Int).map V.int)) := nh
  refine sumP (.inr (SqT.of (ne _ _ g1))) (.inr (SqT.of nh')) l1 (by decide) fun t H' ht e g => ?_
  walk_at "rx"
  exact q t H' ((e1.tr ne).non ht) ((e1.tr ne).tr e) g
def Lp.reach (l : Lp) : Int := (l.d + l.near * (l.a + l.c)) / l.c
def fallP (l : Lp) (g : Int) : List Int := pLess (pMul [g - l.reach, 1] (pPow [g, 1] (l.k - 1).toNat)) (pPow [1, 1] l.k.toNat)
theorem reach_b {l : Lp} (o : l.Ok) : -10 ≤ l.reach ∧ l.reach ≤ 40 := by
  have nn := near_cases l
  have hc := o.cases
  have d0 := o.d0; have d1 := o.d1
  unfold Lp.reach
  revert nn
  generalize l.near = e
  intro nn
  clear o
  obtain ⟨k, a, c, d, st, td, md⟩ := l
  dsimp only at *
  simp only [List.mem_cons, Prod.mk.injEq, List.not_mem_nil, or_false] at hc
  rcases nn with rfl | rfl | rfl <;> rcases hc with ⟨rfl, rfl, rfl⟩ | ⟨rfl, rfl, rfl⟩ | ⟨rfl, rfl, rfl⟩ | ⟨rfl, rfl, rfl⟩ | ⟨rfl, rfl, rfl⟩ | ⟨rfl, rfl, rfl⟩ | ⟨rfl, rfl, rfl⟩ | ⟨rfl, rfl, rfl⟩ | ⟨rfl, rfl, rfl⟩ | ⟨rfl, rfl, rfl⟩ | ⟨rfl, rfl, rfl⟩ | ⟨rfl, rfl, rfl⟩ | ⟨rfl, rfl, rfl⟩ | ⟨rfl, rfl, rfl⟩ | ⟨rfl, rfl, rfl⟩ | ⟨rfl, rfl, rfl⟩ | ⟨rfl, rfl, rfl⟩
  all_goals omega
theorem pz_fallP {l : Lp} (o : l.Ok) {g : Int} (g1 : -60 ≤ g) (g2 : g ≤ 60) : PZ 9 95 (fallP l g) := by
  have hk := o.hk
  have rb := reach_b o
  have a := pz_pow (b := 6) (i := g) (by show g.natAbs < 64; omega) (by decide) (by decide) (l.k - 1).toNat (by omega)
  have b := pz_pow (b := 1) (i := 1) (by decide) (by decide) (by decide) l.k.toNat (by omega)
  have c := pz1 (b := 10) (c := g - l.reach) (by show _ < 1024; omega) (by decide)
  exact (((c.mul a).mono (Nat.le_refl _) (by omega : _ ≤ 94)).less (b.mono (Nat.le_refl _) (by omega : _ ≤ 94))).mono (by omega) (by omega)
def sp_fall_poly (K : PySem.W.Frag) : Sp := fun vs H Q _ => ∃ (p : Addr) (l : Lp) (g : Int), vs = [.ref p, .int g] ∧ IsLp K H p l ∧ l.Ok ∧ -60 ≤ g ∧ g ≤ 60 ∧ ∀ t H', H t = none → Ext H H' → H' t = some (.tup ((fallP l g).map V.int)) → Q (.ref t) H'
def rd_fall_poly (K : PySem.W.Frag) : TS := tSeq (tAsg (tOp FW.rDiv (tOp FW.rAdd (tFld K (tVar 0) "d") (tOp FW.rMul (tMeth (He.ga K "Average") "nearness" (sp_Average_nearness K) [] E0 (tVar 0) tNil) (tOp FW.rAdd (tFld K (tVar 0) "a") (tFld K (tVar 0) "c")))) (tFld K (tVar 0) "c")) (gName 2)) (tSeq (tAsg (tCall (sp_poly_product K) [] E0 (tCons (tTup (tCons (tOp FW.rSub (tVar 1) (tVar 2)) (tCons (tC (.int 1)) (tNil)))) (tCons (tCall (sp_poly_power K) [] E0 (tCons (tTup (tCons (tVar 1) (tCons (tC (.int 1)) (tNil)))) (tCons (tOp FW.rSub (tFld K (tVar 0) "k") (tC (.int 1))) (tNil)))) (tNil)))) (gName 3)) (tRet (tCall (sp_poly_less K) [] E0 (tCons (tVar 3) (tCons (tCall (sp_poly_power K) [] E0 (tCons (tTup (tCons (tC (.int 1)) (tCons (tC (.int 1)) (tNil)))) (tCons (tFld K (tVar 0) "k") (tNil)))) (tNil))))))
theorem pure_fall_poly (K : PySem.W.Frag) (A : AvK K) (vs : List V) (H : Hp) (Q : VK) (E : XK) (h : sp_fall_poly K vs H Q E) : rd_fall_poly K { nx := fun _ H' => Q .non H', rt := Q } (start ["loop", "gap", "reach", "lesser"] vs) H := by
  obtain ⟨p, l, g, rfl, hL, o, g1, g2, q⟩ := h
  obtain ⟨dx, hp⟩ := id hL
  have A' := A; cases A'
  have hk := o.hk; have a1 := o.a1; have a5 := o.a5; have c1 := o.c1; have c3 := o.c3; have ac := o.ac; have d0 := o.d0; have d1 := o.d1
  have nn := near_cases l
  have rb := reach_b o
  unfold rd_fall_poly
  walk_at "rx"
  refine ⟨p, l, rfl, hL, fun H0 e0 => ?_⟩
  have hp0 := e0 _ _ hp
  clear hp
  walk_at "rx"
  rotate_left
  · exact wide_div (b := 10) (by omega) (by show _ < 1024; omega) (by decide) (by decide)
  · exact wide_mul (a := 10) (b := 10) (by show _ < 1024; omega) (by show _ < 1024; omega) (by decide) (by decide) (by decide)
  rename_i t0 z0 G0 f0 h0
  have h0' : G0 t0 = some (.tup (([g - l.reach, 1] : List Int).map V.int)) := h0
  refine ⟨nt, [g, 1], l.k - 1, 6, rfl, nh, pz1 (by show g.natAbs < 64; omega) (by decide), by decide, by omega, by omega, fun t1 H1 e1 h1 z1 => ?_⟩
  have e01 := ne.tr e1
  clear nh
  have zc : PZ 2 10 [g - l.reach, 1] := pz1 (by show _ < 1024; omega) (by decide)
  have kk : (l.k - 1).toNat * (6 + 7) ≤ 39 := by omega
  walk_at "rx"
  refine mulP (.inr (SqT.of (e01 _ _ h0'))) (.inr (SqT.of h1)) zc z1 (by omega) (by omega) (by omega) fun t2 H2 _ e2 h2 z2 => ?_
  have eA := (e0.tr f0).tr (e01.tr e2)
  have hp2 := (f0.tr (e01.tr e2)) _ _ hp0
  clear hp0 h0 h1 h0' f0 e01 e2 ne
  walk_at "rx"
  refine ⟨nt, [1, 1], l.k, 1, rfl, nh, pz1 (by decide) (by decide), by decide, by omega, by omega, fun t3 H3 e3 h3 z3 => ?_⟩
  have e23 := ne.tr e3
  walk_at "rx"
  have kk2 : l.k.toNat * (1 + 7) ≤ 32 := by omega
  refine lessP (.inr (SqT.of (e23 _ _ h2))) (SqT.of h3) (z2.len (by omega)) (z3.len (by omega)) fun t H' ht e h => ?_
  walk_at "rx"
  exact q t H' (eA.non (e23.non ht)) ((eA.tr e23).tr e) h
/-! ### conditions -/
def risingP (l : Lp) (cs : List (List Int)) : List (List Int) := [] :: (cs ++ [endP l.k])
def diffsP : List (List Int) → List (List Int)
  | p :: q :: ps => pLess q p :: diffsP (q :: ps)
  | _ => []
def notOne (lo hi : Int) : List Int := (rgZ lo (hi + 1)).filter fun i => !decide (i = 1)
def condP (l : Lp) (lo hi : Int) (cs : List (List Int)) : List (List Int) :=
  diffsP (risingP l cs) ++ (notOne lo hi).map (fun i => aboveP (restP l.k i (l.k + 1)) (endP l.k)) ++ [aboveP (fallP l (hi + 1)) []]
theorem diffs_at : ∀ {ps : List (List Int)} {t : Nat} {p q : List Int}, ps[t]? = some p → ps[t + 1]? = some q → (diffsP ps)[t]? = some (pLess q p)
  | p :: q :: ps, 0, _, _, h1, h2 => by cases h1; cases h2; rfl
  | p :: q :: ps, t + 1, a, b, h1, h2 => by
    show (diffsP (q :: ps))[t]? = _
    exact diffs_at (ps := q :: ps) h1 h2
  | [], _, _, _, h, _ => by simp at h
  | [p], 0, _, _, _, h => by simp at h
  | [p], t + 1, _, _, h, _ => by simp at h
theorem diffs_len : ∀ ps : List (List Int), (diffsP ps).length = ps.length - 1
  | [] => rfl
  | [_] => rfl
  | p :: q :: ps => by
    show (diffsP (q :: ps)).length + 1 = _
    rw [diffs_len (q :: ps)]
    simp
theorem diffs_take (ps : List (List Int)) (t : Nat) {p q : List Int} (h1 : ps[t]? = some p) (h2 : ps[t + 1]? = some q) : (diffsP ps).take (t + 1) = (diffsP ps).take t ++ [pLess q p] := by
  rw [List.take_add_one, diffs_at h1 h2]; rfl
theorem Pls.get {H : Hp} : ∀ {xs : List V} {ps : List (List Int)} {t : Nat} {p : List Int}, Pls H xs ps → ps[t]? = some p → ∃ a, xs[t]? = some (.ref a) ∧ H a = some (.tup (p.map V.int))
  | _, _, t, p, .nil, h => by simp at h
  | _, _, 0, p, .cons h _, e => by
    cases e
    obtain ⟨a, rfl, ha⟩ := h
    exact ⟨a, rfl, ha⟩
  | _, _, t + 1, p, .cons _ t', e => Pls.get (t := t) t' e
end FWL
namespace FWL
open PySem PySem.Spec PyProof.Rows L2 FW
theorem atI_of {xs : List V} {n : Nat} {j : Int} {v : V} (h : xs[n]? = some v) (e : j = n) : atI xs j = some v := by rw [e]; exact atI_nat h
theorem Pls.snoc {H : Hp} {xs : List V} {ps : List (List Int)} {a : Addr} {p : List Int} (h : Pls H xs ps) (ha : H a = some (.tup (p.map V.int))) : Pls H (xs ++ [.ref a]) (ps ++ [p]) := Paired.snoc h ⟨a, rfl, ha⟩
theorem Pls.upd {H : Hp} {b : Addr} {zs ws : List V} {xs : List V} {ps : List (List Int)} (h : Pls H xs ps) (hb : H b = some (.lst zs)) : Pls (upd H b (.lst ws)) xs ps := Paired.mapP h fun _ _ ⟨a, h1, h2⟩ => ⟨a, h1, by rw [upd_ne (ne_of h2 hb (fun z => nomatch z))]; exact h2⟩
theorem e_catX {H : Hp} {Q : VK} {a b : Addr} {xs ys : List V} (h : H a = some (.lst xs)) (h' : H b = some (.lst ys)) (hz : xs.length + ys.length ≤ 100000) (k : ∀ p G, H p = none → Ext H G → G p = some (.lst (xs ++ ys)) → Q (.ref p) G) : rCat (.ref a) (.ref b) H Q :=
  e_cat (fun p hp => k p _ hp (Ext.new hp) upd_same) h h' (by rw [sizeLine_eq]; omega)
theorem rgZ_succ (lo : Int) (n : Nat) : rgZ lo (lo + (n + 1 : Nat)) = rgZ lo (lo + (n : Nat)) ++ [lo + (n : Nat)] := by
  unfold rgZ
  rw [show (lo + ((n + 1 : Nat) : Int) - lo).toNat = n + 1 by omega, show (lo + (n : Nat) - lo).toNat = n by omega, List.range_succ, List.map_append]
  rfl
def sp_conditions (K : PySem.W.Frag) : Sp := fun vs H Q _ => ∃ (p a : Addr) (l : Lp) (lo hi : Int) (xs : List V) (cs : List (List Int)), vs = [.ref p, .int lo, .int hi, .ref a] ∧ IsLp K H p l ∧ l.Ok ∧ H a = some (.lst xs) ∧ Pls H xs cs ∧ (∀ c, c ∈ cs → c.length ≤ 90) ∧ cs.length ≤ 1000 ∧ -10 ≤ lo ∧ lo ≤ 0 ∧ 0 ≤ hi ∧ hi ≤ 30 ∧
  ∀ t ys H', Ext H H' → H' t = some (.lst ys) → Pls H' ys (condP l lo hi cs) → Q (.ref t) H'
def rd_conditions_L1 (K : PySem.W.Frag) : TS := tIfS (tTest (tOp rNe (tVar 7) (tC (.int 1)))) (tDrop (tBM K "list" rAppend (tVar 5) (tCons (tCall (sp_above K) [] E0 (tCons (tCall (sp_rest_poly K) [] E0 (tCons (tFld K (tVar 0) "k") (tCons (tVar 7) (tCons (tOp FW.rAdd (tFld K (tVar 0) "k") (tC (.int 1))) (tNil))))) (tCons (tCall (sp_end_poly K) [] E0 (tCons (tFld K (tVar 0) "k") (tNil))) (tNil)))) (tNil)))) (tNext)
def rd_conditions (K : PySem.W.Frag) : TS := tSeq (tAsg (tOp rCat (tOp rCat (tLst (tCons (tTup (tNil)) (tNil))) (tVar 3)) (tLst (tCons (tCall (sp_end_poly K) [] E0 (tCons (tFld K (tVar 0) "k") (tNil))) (tNil)))) (gName 4)) (tSeq (tAsg (tLc (iRng1 (tCons (tOp FW.rSub (tCB (Evl.rLenS K) (tCons (tVar 4) (tNil))) (tC (.int 1))) (tNil))) (gName 6) (tYes) (tCall (sp_poly_less K) [] E0 (tCons (tOp (rIxL K) (tVar 4) (tOp FW.rAdd (tVar 6) (tC (.int 1)))) (tCons (tOp (rIxL K) (tVar 4) (tVar 6)) (tNil)))) [6]) (gName 5)) (tSeq (tFor (iRng2 (tCons (tVar 1) (tCons (tOp FW.rAdd (tVar 2) (tC (.int 1))) (tNil)))) (gName 7) (rd_conditions_L1 K)) (tRet (tOp rCat (tVar 5) (tLst (tCons (tCall (sp_above K) [] E0 (tCons (tCall (sp_fall_poly K) [] E0 (tCons (tVar 0) (tCons (tOp FW.rAdd (tVar 2) (tC (.int 1))) (tNil)))) (tCons (tTup (tNil)) (tNil)))) (tNil)))))))
theorem pure_conditions (K : PySem.W.Frag) (A : AvK K) (vs : List V) (H : Hp) (Q : VK) (E : XK) (h : sp_conditions K vs H Q E) : rd_conditions K { nx := fun _ H' => Q .non H', rt := Q } (start ["loop", "low", "high", "cuts", "rising", "found", "t", "i"] vs) H := by
  obtain ⟨p, a, l, lo, hi, xs, cs, rfl, hL, o, ha, hP, hc, cl, lo1, lo2, hi1, hi2, q⟩ := h
  obtain ⟨dx, hp⟩ := id hL
  have A' := A; cases A'
  have hk := o.hk
  have xl := hP.len
  have pe := pz_endP (k := l.k) (by omega) (by omega)
  unfold rd_conditions
  walk_at "rx"
  rename_i t0 z0 G0 f0 h0
  have hE : nH t0 = some (.tup (([] : List Int).map V.int)) := ne _ _ h0
  have hP1 := (hP.ext f0).ext ne
  have ha1 := ne _ _ (f0 _ _ ha)
  have hp1 := ne _ _ (f0 _ _ hp)
  refine e_catX nh ha1 (by simp; omega) fun c1 G1 _ g1 hc1 => ?_
  have e1 := (f0.tr ne).tr g1
  have hp2 := g1 _ _ hp1
  have hPA : Pls G1 ([V.ref t0] ++ xs) ([] :: cs) := .cons ⟨t0, rfl, g1 _ _ hE⟩ (hP1.ext g1)
  clear hp hp1 ha ha1 nh ne h0 f0 hE hP1
  walk_at "rx"
  refine ⟨l.k, rfl, by omega, by omega, fun te H2 hte e2 h2 _ => ?_⟩
  have hc2 := e2 _ _ hc1
  walk_at "rx"
  have hc3 := ne _ _ hc2
  refine e_catX hc3 nh (by simp; omega) fun c4 G4 hc40 g4 hc4 => ?_
  have e4 : Ext H G4 := ((e1.tr e2).tr ne).tr g4
  have hPR : Pls G4 ([V.ref t0] ++ xs ++ [.ref te]) (risingP l cs) := by
    have := ((((hPA.ext e2).ext ne).ext g4)).snoc (a := te) (p := endP l.k) (g4 _ _ (ne _ _ h2))
    exact this
  have hL4 := hL.ext e4
  obtain ⟨dy, hp4⟩ := id hL4
  have rl : ∀ c, c ∈ risingP l cs → c.length ≤ 99 := fun c h => by
    rcases List.mem_cons.mp h with rfl | h
    · show (0 : Nat) ≤ 99; omega
    · rcases List.mem_append.mp h with h | h
      · have := hc c h; omega
      · rw [List.mem_singleton.mp h]; have := pe.1; omega
  have rlen : (risingP l cs).length = cs.length + 2 := by unfold risingP; simp
  have hlen := hPR.len
  generalize [V.ref t0] ++ xs ++ [V.ref te] = rs at hc4 hPR hlen
  clear hc1 hc2 hc3 nh h2 hPA hp2 e1 e2 g1 g4 ne
  walk_at "rx"
  rotate_left
  · rw [hlen, rlen]; constructor <;> omega
  intro D hD
  have et : ((rs.length : Int) - 1).toNat = cs.length + 1 := by rw [hlen, rlen]; omega
  rw [et]
  refine lc_range (fun n H' => Ext G4 H' ∧ ∃ ys, H' D = some (.lst ys) ∧ Pls H' ys ((diffsP (risingP l cs)).take n)) ⟨Ext.new hD, [], upd_same, by rw [List.take_zero]; exact .nil⟩ ?_ ?_
  · rintro n H' hn ⟨e, ys, hd, hy⟩
    refine g_name ⟨rfl, e_yes ?_⟩
    rw [if_pos rfl]
    obtain ⟨pa, hpa⟩ : ∃ x, (risingP l cs)[n]? = some x := ⟨_, List.getElem?_eq_getElem (by omega)⟩
    obtain ⟨pb, hpb⟩ : ∃ x, (risingP l cs)[n + 1]? = some x := ⟨_, List.getElem?_eq_getElem (by omega)⟩
    obtain ⟨aa, ga, ha⟩ := (hPR.ext e).get hpa
    obtain ⟨ab, gb, hb⟩ := (hPR.ext e).get hpb
    have hc5 := e _ _ hc4
    walk_at "re"
    refine e_ixL ?_ (SqL.of hc5) (atI_of gb (by omega))
    walk_at "re"
    refine e_ixL ?_ (SqL.of hc5) (atI_of ga (by omega))
    walk_at "re"
    refine lessP (.inr (SqT.of hb)) (SqT.of ha) (by have := rl pb (List.mem_of_getElem? hpb); omega) (by have := rl pa (List.mem_of_getElem? hpa); omega) fun t H5 ht e5 h5 => ?_
    have yl := hy.len
    rw [List.length_take] at yl
    refine ⟨ys, e5 _ _ hd, by rw [sizeLine_eq]; omega, (e.tr e5).upds hD, ys ++ [.ref t], upd_same, ?_⟩
    rw [diffs_take _ n hpa hpb]
    have hd5 := e5 _ _ hd
    exact ((hy.ext e5).snoc h5).upd hd5
  rintro H5 ⟨e5, ys, hd5, hy5⟩
  have dl : (diffsP (risingP l cs)).length = cs.length + 1 := by rw [diffs_len, rlen]; rfl
  rw [List.take_of_length_le (by omega)] at hy5
  have e05 := e4.tr e5
  have hD0 : H D = none := e4.non hD
  walk_at "rx"
  rotate_left
  · refine ⟨by omega, by omega, by omega, by omega⟩
  refine for_range (lo := lo) (n := (hi + 1 - lo).toNat) (fun n σ H' => Ext H H' ∧ ∃ (zs : List V) (u : Option V), H' D = some (.lst zs) ∧ Pls H' zs (diffsP (risingP l cs) ++ ((rgZ lo (lo + (n : Nat))).filter fun i => !decide (i = 1)).map fun i => aboveP (restP l.k i (l.k + 1)) (endP l.k)) ∧ σ = [some (.ref p), some (.int lo), some (.int hi), some (.ref a), some (.ref c4), some (.ref D), none, u]) ⟨e05, ys, none, hd5, ?_, rfl⟩ ?_ ?_
  · have : rgZ lo (lo + ((0 : Nat) : Int)) = [] := by
      have := rgZ_len lo (lo + ((0 : Nat) : Int))
      rw [show (lo + ((0 : Nat) : Int) - lo).toNat = 0 by omega] at this
      exact List.eq_nil_of_length_eq_zero this
    rw [this]
    simpa using hy5
  · rintro n σ H' hn ⟨e, zs, u, hd, hz, rfl⟩
    have hL' := hL.ext e
    obtain ⟨dz, hp'⟩ := id hL'
    refine g_name ?_
    unfold rd_conditions_L1
    walk_at "rx"
    refine e_iteN (fun h1 => ?_) (fun h1 => ?_)
    · walk_at "rx"
      refine ⟨l.k, lo + (n : Nat), l.k + 1, rfl, by omega, by omega, by omega, by omega, by omega, by omega, fun t6 H6 ht6 e6 h6 _ => ?_⟩
      have hp6 := e6 _ _ hp'
      clear hp'
      walk_at "rx"
      refine ⟨l.k, rfl, by omega, by omega, fun t7 H7 ht7 e7 h7 _ => ?_⟩
      walk_at "rx"
      have pr := pz_restP (k := l.k) (i := lo + (n : Nat)) (j := l.k + 1) (by omega) (by omega) (by omega) (by omega) (by omega) (by omega)
      refine ⟨t6, t7, _, _, rfl, .inr (SqT.of (e7 _ _ h6)), SqT.of h7, by have := pr.1; omega, by have := pe.1; omega, fun t8 H8 ht8 e8 h8 => ?_⟩
      walk_at "rx"
      have e68 := (e6.tr e7).tr e8
      have hd8 := e68 _ _ hd
      have zl := hz.len
      have nl : ((rgZ lo (lo + (n : Nat))).filter fun i => !decide (i = 1)).length ≤ 41 := by
        have := List.length_filter_le (fun i => !decide (i = 1)) (rgZ lo (lo + (n : Nat)))
        rw [rgZ_len] at this; omega
      rw [List.length_append, List.length_map, dl] at zl
      refine ⟨D, zs, _, rfl, rfl, hd8, by rw [sizeLine_eq]; omega, ?_⟩
      refine ⟨(e.tr e68).upds hD0, zs ++ [.ref t8], _, upd_same, ?_, rfl⟩
      rw [rgZ_succ, List.filter_append, List.filter_cons_of_pos (by rw [decide_eq_false h1]; rfl), List.filter_nil, List.map_append, ← List.append_assoc]
      exact ((hz.ext e68).snoc h8).upd hd8
    · walk_at "rx"
      refine ⟨e, zs, _, hd, ?_, rfl⟩
      rw [rgZ_succ, List.filter_append, List.filter_cons_of_neg (by rw [decide_eq_true h1]; decide), List.filter_nil, List.append_nil]
      exact hz
  · rintro σ H' ⟨e, zs, u, hd, hz, rfl⟩
    have hL' := hL.ext e
    have er : lo + (((hi + 1 - lo).toNat : Nat) : Int) = hi + 1 := by omega
    rw [er] at hz
    have zl := hz.len
    have nl : ((rgZ lo (hi + 1)).filter fun i => !decide (i = 1)).length ≤ 41 := by
      have := List.length_filter_le (fun i => !decide (i = 1)) (rgZ lo (hi + 1))
      rw [rgZ_len] at this; omega
    rw [List.length_append, List.length_map, dl] at zl
    walk_at "rx"
    refine ⟨p, l, hi + 1, rfl, hL', o, by omega, by omega, fun t6 H6 ht6 e6 h6 => ?_⟩
    walk_at "rx"
    have pf := pz_fallP o (g := hi + 1) (by omega) (by omega)
    have nh' : nH nt = some (.tup (([] : List Int).map V.int)) := nh
    refine ⟨t6, nt, _, _, rfl, .inr (SqT.of (ne _ _ h6)), SqT.of nh', by have := pf.1; omega, by decide, fun t7 H7 ht7 e7 h7 => ?_⟩
    have e67 := (e6.tr ne).tr e7
    clear nh nh' ne
    walk_at "rx"
    have hd7 := ne _ _ (e67 _ _ hd)
    refine e_catX hd7 nh (by simp; omega) fun c8 G8 _ g8 hc8 => ?_
    have eF := (e67.tr ne).tr g8
    refine q c8 _ G8 (e.tr eF) hc8 ?_
    exact (hz.ext eF).snoc (g8 _ _ (ne _ _ h7))
end FWL
namespace FWL
open PySem PySem.Spec PyProof.Rows L2 FW
/-! ### maps -/
theorem cutV_take (xs : List V) (m : Nat) : cutV xs none (some (m : Int)) = xs.take m := by
  unfold cutV
  rw [HT.sIx_none, HT.sIx_nat]
  rw [List.drop_zero, Nat.sub_zero]
  rcases Nat.le_total m xs.length with h | h
  · rw [Nat.min_eq_left h]
  · rw [Nat.min_eq_right h, List.take_of_length_le (Nat.le_refl _), List.take_of_length_le h]
theorem Pls.take {H : Hp} : ∀ {xs : List V} {ps : List (List Int)} (m : Nat), Pls H xs ps → Pls H (xs.take m) (ps.take m)
  | _, _, 0, _ => by rw [List.take_zero, List.take_zero]; exact .nil
  | _, _, m + 1, .nil => by rw [List.take_nil, List.take_nil]; exact .nil
  | _, _, m + 1, .cons h t => by rw [List.take_succ_cons, List.take_succ_cons]; exact .cons h (Pls.take m t)
/-- in how many cuts of a gap the rest has passed -/
def Lp.passed (l : Lp) (i : Int) (ps : List (List Int)) : Nat := ((l.rowC i).filter fun p => ps.any fun z => decide (z = p)).length
def mapP (l : Lp) (lo hi : Int) (ps : List (List Int)) : List Int := (rgZ lo (hi + 1)).map fun i => l.ll i + (l.passed i ps : Nat)
def mapsP (l : Lp) (lo hi : Int) (cs : List (List Int)) : List (List Int) := (List.range (cs.length + 1)).map fun t => mapP l lo hi (cs.take t)
def sp_maps_of (K : PySem.W.Frag) : Sp := fun vs H Q _ => ∃ (p a : Addr) (l : Lp) (lo hi : Int) (xs : List V) (cs : List (List Int)), vs = [.ref p, .int lo, .int hi, .ref a] ∧ IsLp K H p l ∧ l.Ok ∧ H a = some (.lst xs) ∧ Pls H xs cs ∧ cs.length ≤ 1000 ∧ -10 ≤ lo ∧ lo ≤ 0 ∧ 0 ≤ hi ∧ hi ≤ 30 ∧
  ∀ t ys H', Ext H H' → H' t = some (.lst ys) → Pls H' ys (mapsP l lo hi cs) → Q (.ref t) H'
def rd_maps_of_L1 (K : PySem.W.Frag) : TS := tDrop (tBM K "list" rAppend (tVar 7) (tCons (tOp FW.rAdd (tCall (sp_least_led K) [] E0 (tCons (tVar 0) (tCons (tVar 8) (tNil)))) (tCB (Evl.rLenS K) (tCons (tLc (iList K (tCall (sp_row_cuts K) [] E0 (tCons (tVar 0) (tCons (tVar 8) (tNil))))) (gName 9) (tTest (tOp (rInD K) (tVar 9) (tVar 6))) (tVar 9) [9]) (tNil)))) (tNil)))
def rd_maps_of_L2 (K : PySem.W.Frag) : TS := tSeq (tAsg (tSl (rSlL K) (tVar 3) (tNoPart) (tPart (tVar 5))) (gName 6)) (tSeq (tAsg (tLst (tNil)) (gName 7)) (tSeq (tFor (iRng2 (tCons (tVar 1) (tCons (tOp FW.rAdd (tVar 2) (tC (.int 1))) (tNil)))) (gName 8) (rd_maps_of_L1 K)) (tDrop (tBM K "list" rAppend (tVar 4) (tCons (tCB (FW.rTupS K) (tCons (tVar 7) (tNil))) (tNil))))))
def rd_maps_of (K : PySem.W.Frag) : TS := tSeq (tAsg (tLst (tNil)) (gName 4)) (tSeq (tFor (iRng1 (tCons (tOp FW.rAdd (tCB (Evl.rLenS K) (tCons (tVar 3) (tNil))) (tC (.int 1))) (tNil))) (gName 5) (rd_maps_of_L2 K)) (tRet (tVar 4)))
section
variable {K : PySem.W.Frag} {H : Hp} {p a B : Addr} {l : Lp} {lo hi : Int} {xs : List V} {cs : List (List Int)}
theorem maps_row (A : AvK K) {D : Ends} {n : Nat} {zs : List V} {fs : List (List Int)} {v6 v7 v8 : Option V} (hL : IsLp K H p l) (o : l.Ok) (ha : H a = some (.lst xs)) (hP : Pls H xs cs) (cl : cs.length ≤ 1000) (lo1 : -10 ≤ lo) (lo2 : lo ≤ 0) (hi1 : 0 ≤ hi) (hi2 : hi ≤ 30)
    (hB : H B = some (.lst zs)) (hz : Pls H zs fs) (zl : fs.length ≤ 2000) (hn : n ≤ cs.length)
    (k : ∀ H' t u6 u7 u8, (∀ b u, b ≠ B → H b = some u → H' b = some u) → H' B = some (.lst (zs ++ [.ref t])) → H' t = some (.tup ((mapP l lo hi (cs.take n)).map V.int)) → D.nx [some (.ref p), some (.int lo), some (.int hi), some (.ref a), some (.ref B), some (.int (0 + (n : Int))), u6, u7, u8, none] H') :
    rd_maps_of_L2 K D [some (.ref p), some (.int lo), some (.int hi), some (.ref a), some (.ref B), some (.int (0 + (n : Int))), v6, v7, v8, none] H := by
  have A' := A; cases A'
  have sz := sizeLine_eq
  have xl := hP.len
  unfold rd_maps_of_L2
  walk_at "rd"
  refine e_sl ?_
  walk_at "rd"
  refine e_noP (e_part ?_)
  walk_at "rd"
  refine e_part' ?_
  refine e_slL (fun b hb => ?_) (SqL.of ha)
  rw [show (0 + (n : Int)) = (n : Int) by omega, cutV_take]
  generalize hG : upd H b _ = G
  obtain ⟨e1, hb1⟩ := al_of hb hG
  clear hG
  walk_at "rx"
  rotate_left
  · refine ⟨by omega, by omega, by omega, by omega⟩
  have e2 := e1.tr ne
  have hR0 := nz
  have hPt : Pls nH (xs.take n) (cs.take n) := (hP.take n).ext e2
  have hbN := ne _ _ hb1
  refine for_range (lo := lo) (n := (hi + 1 - lo).toNat) (fun m σ H' => Ext G H' ∧ ∃ (u : Option V), H' nt = some (.lst (((rgZ lo (lo + (m : Nat))).map fun i => l.ll i + (l.passed i (cs.take n) : Nat)).map V.int)) ∧ σ = [some (.ref p), some (.int lo), some (.int hi), some (.ref a), some (.ref B), some (.int (n : Int)), some (.ref b), some (.ref nt), u, none]) ⟨ne, v8, ?_, ?_⟩ ?_ ?_
  · have : rgZ lo (lo + ((0 : Nat) : Int)) = [] := by
      have := rgZ_len lo (lo + ((0 : Nat) : Int))
      rw [show (lo + ((0 : Nat) : Int) - lo).toNat = 0 by omega] at this
      exact List.eq_nil_of_length_eq_zero this
    rw [this]; exact nh
  · rfl
  · rintro m σ H' hm ⟨e, u, hR, rfl⟩
    have e' := e1.tr e
    have hL' := hL.ext e'
    refine g_name ?_
    unfold rd_maps_of_L1
    walk_at "rx"
    refine ⟨p, l, lo + (m : Nat), rfl, hL', o, by omega, by omega, ?_⟩
    walk_at "rx"
    refine ⟨p, l, lo + (m : Nat), rfl, hL', o, by omega, by omega, fun t ys H2 ht e2 h2 hP2 => ?_⟩
    refine i_list' _ ?_ (SqL.of h2)
    have y4 : ys.length ≤ 4 := by
      rw [hP2.len]
      unfold Lp.rowC
      rw [List.length_map]
      exact rowJ_len o _
    have hb2 := e2 _ _ (e _ _ hb1)
    have hPt : Pls H2 (xs.take n) (cs.take n) := (hP.take n).ext (e'.tr e2)
    refine lcLX (P := fun x v => v = x) (p := fun x => (cs.take n).any fun z => decide (z = polyAt H2 x)) (SqL.of h2) (by omega) (fun v => rfl) (fun x hx H3 R e3 k => ?_) (fun x hx px H3 R e3 k => ?_) fun D' G3 zs' hD eG hG hp => ?_
    · obtain ⟨c, rfl, hc⟩ := hP2.at.2 x hx
      walk_at "re"
      refine ⟨tupD (polyAt H2 (.ref c)), (cs.take n).map tupD, dpTup (e3 _ _ hc), .lst (SqL.of (e3 _ _ hb2)) (dpPls (hPt.ext e3)), shT _, shPL _, ?_⟩
      rw [any_tupD]
      walk_at "re"
      exact k _ Ext.rfl'
    · refine FW.e_var ?_ rfl
      exact k _ _ Ext.rfl' rfl
    have e0 := paired_eq hp
    subst e0
    have hPf := Pls.filter (p := fun x => (cs.take n).any fun z => decide (z = polyAt H2 x)) (q := fun p => (cs.take n).any fun z => decide (z = p)) (fun x => rfl) hP2
    have fl : (ys.filter fun x => (cs.take n).any fun z => decide (z = polyAt H2 x)).length = l.passed (lo + (m : Nat)) (cs.take n) := hPf.len
    walk_at "re"
    refine e_len ?_ (.inl (SqL.of hG))
    rw [fl]
    walk_at "re"
    have hR3 := eG _ _ (e2 _ _ hR)
    refine ⟨nt, _, _, rfl, rfl, hR3, by rw [List.length_map, List.length_map, rgZ_len]; omega, ?_⟩
    refine ⟨((e.tr e2).tr eG).upds hR0, _, ?_, rfl⟩
    rw [upd_same, rgZ_succ, List.map_append, List.map_append]
    rfl
  · rintro σ H' ⟨e, u, hR, rfl⟩
    have er : lo + (((hi + 1 - lo).toNat : Nat) : Int) = hi + 1 := by omega
    rw [er] at hR
    have hR' : H' nt = some (.lst ((mapP l lo hi (cs.take n)).map V.int)) := hR
    walk_at "rx"
    rename_i t9 z9 H9 e9 h9
    have hBn := ne _ _ (e _ _ (e1 _ _ hB))
    have zl2 := hz.len
    refine ⟨B, zs, _, rfl, rfl, hBn, by omega, ?_⟩
    rw [show (0 + (n : Int)) = (n : Int) by omega] at k
    refine k _ nt _ _ _ (fun b' u' hb' h => ?_) upd_same ?_
    · rw [upd_ne hb']; exact ne _ _ (e _ _ (e1 _ _ h))
    · rw [upd_ne (ne_of nh hBn (fun z => nomatch z))]; exact nh
end
theorem pure_maps_of (K : PySem.W.Frag) (A : AvK K) (vs : List V) (H : Hp) (Q : VK) (E : XK) (h : sp_maps_of K vs H Q E) : rd_maps_of K { nx := fun _ H' => Q .non H', rt := Q } (start ["loop", "low", "high", "cuts", "found", "t", "passed", "row", "i", "poly"] vs) H := by
  obtain ⟨p, a, l, lo, hi, xs, cs, rfl, hL, o, ha, hP, cl, lo1, lo2, hi1, hi2, q⟩ := h
  have xl := hP.len
  unfold rd_maps_of
  walk_at "rx"
  rotate_left
  · rw [xl]; constructor <;> omega
  have hF0 := nz
  have et : ((xs.length : Int) + 1).toNat = cs.length + 1 := by rw [xl]; omega
  rw [et]
  refine for_range (lo := 0) (n := cs.length + 1) (fun n σ H' => Ext H H' ∧ ∃ (zs : List V) (u v w x : Option V), H' nt = some (.lst zs) ∧ Pls H' zs ((List.range n).map fun t => mapP l lo hi (cs.take t)) ∧ σ = [some (.ref p), some (.int lo), some (.int hi), some (.ref a), some (.ref nt), u, v, w, x, none]) ⟨ne, [], none, none, none, none, nh, .nil, rfl⟩ ?_ ?_
  · rintro n σ H' hn ⟨e, zs, u, v, w, x, hF, hz, rfl⟩
    refine g_name ?_
    refine maps_row A (hL.ext e) o (e _ _ ha) (hP.ext e) cl lo1 lo2 hi1 hi2 hF hz (by rw [List.length_map, List.length_range]; omega) (by omega) fun H2 t u6 u7 u8 kp h2 ht => ?_
    have e2 : Ext H H2 := fun b o' hb => kp b o' (ne_of_none hb hF0) (e b o' hb)
    refine ⟨e2, _, _, _, _, _, h2, ?_, rfl⟩
    rw [List.range_succ, List.map_append]
    have hz2 : Pls H2 zs ((List.range n).map fun t => mapP l lo hi (cs.take t)) := Paired.mapP hz fun y c ⟨b, h1, h3⟩ => ⟨b, h1, kp b _ (ne_of h3 hF (fun z => nomatch z)) h3⟩
    exact hz2.snoc ht
  · rintro σ H' ⟨e, zs, u, v, w, x, hF, hz, rfl⟩
    walk_at "rx"
    exact q nt zs H' e hF hz
/-! ### from where on a polynomial is above nought -/
def PosF (f : Int → Int) (least x : Int) : Prop := least ≤ x ∧ (∀ r, x ≤ r → 0 < f r) ∧ (x = least ∨ f (x - 1) ≤ 0)
theorem PosF.uniq {f : Int → Int} {least x y : Int} (h : PosF f least x) (h' : PosF f least y) : x = y := by
  obtain ⟨a1, a2, a3⟩ := h
  obtain ⟨b1, b2, b3⟩ := h'
  rcases Int.lt_trichotomy x y with z | z | z
  · have := a2 (y - 1) (by omega)
    rcases b3 with b3 | b3 <;> omega
  · exact z
  · have := b2 (x - 1) (by omega)
    rcases a3 with a3 | a3 <;> omega
def EvPos (f : Int → Int) : Prop := ∃ B : Int, ∀ r, B ≤ r → 0 < f r
def sp_positive_from (K : PySem.W.Frag) : Sp := fun vs H Q _ => ∃ (a : Addr) (ns : List Int) (least : Int), vs = [.ref a, .int least] ∧ H a = some (.tup (ns.map V.int)) ∧ PZ 20 100 ns ∧ ns.getLast? ≠ some 0 ∧ EvPos (pvl ns) ∧ Sz 200 least ∧
  ∀ x H', Ext H H' → PosF (pvl ns) least x → Sz 200 x → Q (.int x) H'
def rd_positive_from_L1 (K : PySem.W.Frag) : TS := tAug 2 (tC (.int 1)) FW.iSub
def rd_positive_from (K : PySem.W.Frag) : TS := tSeq (tAsg (tCB FW.rMax2 (tCons (tVar 1) (tCons (tCall (sp_settled K) [] E0 (tCons (tVar 0) (tNil))) (tNil)))) (gName 2)) (tSeq (tWhile (tAnd (tTest (tOp FW.rGt (tVar 2) (tVar 1))) (tTest (tOp FW.rGt (tCall (sp_poly_value K) [] E0 (tCons (tVar 0) (tCons (tOp FW.rSub (tVar 2) (tC (.int 1))) (tNil)))) (tC (.int 0))))) (rd_positive_from_L1 K)) (tRet (tVar 2)))
theorem pure_positive_from (K : PySem.W.Frag) (vs : List V) (H : Hp) (Q : VK) (E : XK) (h : sp_positive_from K vs H Q E) : rd_positive_from K { nx := fun _ H' => Q .non H', rt := Q } (start ["poly", "least", "found"] vs) H := by
  obtain ⟨a, ns, least, rfl, ha, hz, hl, ⟨B, hB⟩, hs, q⟩ := h
  have nn : ns ≠ [] := fun z => by have := hB B (Int.le_refl _); rw [z] at this; exact absurd this (by show ¬ (0 : Int) < 0; decide)
  unfold rd_positive_from
  walk_at "rx"
  refine ⟨a, ns, 100, rfl, SqT.of ha, nn, hl, hz.len (by decide), hz.2, by decide, by decide, fun s H1 e1 s2 ss hsg => ?_⟩
  have pos : ∀ r, s ≤ r → 0 < pvl ns r := by
    have h1 := hsg (max s B) (by omega)
    rw [sgn_pos (hB (max s B) (by omega))] at h1
    intro r hr
    have h2 := hsg r hr
    rw [← h1] at h2
    rcases Int.lt_trichotomy (pvl ns r) 0 with z | z | z
    · rw [sgn_neg z] at h2; cases h2
    · rw [z] at h2; cases h2
    · exact z
  walk_at "rx"
  have em : (if s > least then s else least) = max least s := by split <;> omega
  rw [em]
  have ss' : Sz 200 s := Sz.mono ss (by decide)
  have p200 : (0 : Nat) < 2 ^ 200 := by decide
  refine s_while (fun m σ H' => ∃ g : Int, m = (g - least).toNat ∧ least ≤ g ∧ g ≤ max least s ∧ (∀ r, g ≤ r → 0 < pvl ns r) ∧ Ext H H' ∧ σ = [some (.ref a), some (.int least), some (.int g)]) (max least s - least).toNat ⟨max least s, rfl, by omega, Int.le_refl _, fun r hr => pos r (by omega), e1, rfl⟩ ?_
  rintro m σ H' ⟨g, rfl, g1, g2, hg, e, rfl⟩
  have sg : Sz 200 g := by
    have h1 : least.natAbs < 2 ^ 200 := hs
    have h2 : s.natAbs < 2 ^ 200 := ss'
    show g.natAbs < 2 ^ 200
    omega
  have sg1 : Sz 201 (g - 1) := by
    have h1 : g.natAbs < 2 ^ 200 := sg
    have h3 : (2 : Nat) ^ 201 = 2 * 2 ^ 200 := by decide
    show (g - 1).natAbs < 2 ^ 201
    omega
  walk_at "rx"
  refine e_ite (fun z => ?_) (fun z => ?_)
  · walk_at "rx"
    refine ⟨a, ns, g - 1, 201, rfl, .inr (SqT.of (e _ _ ha)), fun c hc => Sz.mono (hz.2 c hc) (by decide), sg1, by have := hz.1; omega, fun H2 e2 => ?_⟩
    walk_at "rx"
    refine e_ite (fun y => ?_) (fun y => ?_)
    · refine ⟨fun σ' H'' => H'' = H2 ∧ σ' = [some (.ref a), some (.int least), some (.int (g - 1))], fun σ' H'' hh => ?_, ?_⟩
      · obtain ⟨rfl, rfl⟩ := hh
        refine ⟨(g - 1 - least).toNat, by omega, g - 1, rfl, by omega, by omega, fun r hr => ?_, e.tr e2, rfl⟩
        by_cases hr' : g ≤ r
        · exact hg r hr'
        · rw [show r = g - 1 by omega]; exact y
      · unfold rd_positive_from_L1
        walk_at "rx"
        exact ⟨rfl, rfl⟩
    · walk_at "rx"
      exact q g H2 (e.tr e2) ⟨g1, hg, .inr (by omega)⟩ sg
  · walk_at "rx"
    exact q g H' e ⟨g1, hg, .inl (by omega)⟩ sg
end FWL
namespace FWL
open PySem PySem.Spec PyProof.Rows L2 FW
/-! ### which polynomial is above another one in the end -/
def EvLt (p q : List Int) : Prop := EvPos fun r => pvl q r - pvl p r
theorem EvPos.up {f g : Int → Int} (h : EvPos f) (e : ∀ r, f r ≤ g r) : EvPos g := by
  obtain ⟨B, hB⟩ := h
  exact ⟨B, fun r hr => Int.lt_of_lt_of_le (hB r hr) (e r)⟩
theorem ev_cons {f : Int → Int} (c : Int) (h : EvPos f) : EvPos fun r => c + r * f r := by
  obtain ⟨B, hB⟩ := h
  refine ⟨max B (c.natAbs + 1), fun r hr => ?_⟩
  have h1 := hB r (by omega)
  have h2 : r * 1 ≤ r * f r := Int.mul_le_mul_of_nonneg_left (by omega) (by omega)
  show 0 < c + r * f r
  omega
theorem ev_lead : ∀ {cs : List Int} {c : Int}, cs.getLast? = some c → 0 < c → EvPos (pvl cs)
  | [], _, h, _ => by cases h
  | [d], c, h, hc => by
    obtain rfl : d = c := Option.some.inj h
    exact ⟨0, fun r _ => by show 0 < d + r * 0; omega⟩
  | d :: e :: cs, c, h, hc => by
    rw [List.getLast?_cons_cons] at h
    exact ev_cons d (ev_lead h hc)
/-- less from the top -/
def topLt : List Int → List Int → Prop
  | a :: p, b :: q => topLt p q ∨ (p = q ∧ a < b)
  | _, _ => False
theorem ev_top : ∀ {p q : List Int}, topLt p q → EvLt p q
  | a :: p, b :: q, h => by
    rcases h with h | ⟨rfl, h⟩
    · obtain ⟨B, hB⟩ := ev_cons (b - a) (ev_top h)
      refine ⟨B, fun r hr => ?_⟩
      have : 0 < b - a + r * (pvl q r - pvl p r) := hB r hr
      show 0 < (b + r * pvl q r) - (a + r * pvl p r)
      have e : r * (pvl q r - pvl p r) = r * pvl q r - r * pvl p r := Int.mul_sub ..
      omega
    · exact ⟨0, fun r _ => by show 0 < (b + r * pvl p r) - (a + r * pvl p r); omega⟩
  | [], _, h => h.elim
  | _ :: _, [], h => h.elim
theorem snoc_lt : ∀ {xs ys : List Int} {a b : Int}, xs.length = ys.length → (xs ++ [a]) < (ys ++ [b]) → xs < ys ∨ (xs = ys ∧ a < b)
  | [], [], a, b, _, h => by
    have h : [a] < [b] := h
    rw [List.cons_lt_cons_iff] at h
    rcases h with h | ⟨_, h⟩
    · exact .inr ⟨rfl, h⟩
    · exact absurd h (by simp)
  | x :: xs, y :: ys, a, b, hl, h => by
    have h0 : (x :: (xs ++ [a])) < (y :: (ys ++ [b])) := h
    rw [List.cons_lt_cons_iff] at h0
    rw [List.cons_lt_cons_iff]
    rcases h0 with h1 | ⟨e1, h1⟩
    · exact .inl (.inl h1)
    · rcases snoc_lt (xs := xs) (ys := ys) (by simpa using hl) h1 with h2 | ⟨e2, h2⟩
      · exact .inl (.inr ⟨e1, h2⟩)
      · exact .inr ⟨by rw [e1, e2], h2⟩
  | [], _ :: _, _, _, h, _ => by simp at h
  | _ :: _, [], _, _, h, _ => by simp at h
theorem top_of_rev : ∀ {p q : List Int}, p.length = q.length → p.reverse < q.reverse → topLt p q
  | [], [], _, h => absurd h (by simp)
  | a :: p, b :: q, hl, h => by
    rw [List.reverse_cons, List.reverse_cons] at h
    rcases snoc_lt (by simpa using hl) h with h | ⟨e, h⟩
    · exact .inl (top_of_rev (by simpa using hl) h)
    · exact .inr ⟨List.reverse_inj.mp e, h⟩
  | [], _ :: _, h, _ => by simp at h
  | _ :: _, [], h, _ => by simp at h
theorem ev_key {p q : List Int} (hl : p.length = q.length) (hk : keyL p ≤ keyL q) (hn : p ≠ q) : EvLt p q := by
  refine ev_top (top_of_rev hl ?_)
  have h1 : keyL p < keyL q := by
    rcases List.le_iff_lt_or_eq.mp hk with h | h
    · exact h
    · exact absurd (keyL_inj h) hn
  unfold keyL at h1
  rw [List.cons_lt_cons_iff] at h1
  rcases h1 with h1 | ⟨_, h1⟩
  · omega
  · exact h1
/-! the ends -/
def endE (k : Int) : List Int := if k = 2 then [1, 2] else if k = 3 then [1, 3, 3] else [1, 4, 6, 4]
theorem endP_pv (k r : Int) : pvl (endP k) r = (r + 1) ^ k.toNat - r ^ k.toNat := by
  unfold endP
  rw [pv_less, pv_pow, pv_pow, pv_one, pv_x]
theorem endP_eq {k : Int} (hk : k = 2 ∨ k = 3 ∨ k = 4) : endP k = endE k := by
  refine pv_uniq (fun r => ?_) (by unfold endP pLess; exact trm_last _) ?_
  · rw [endP_pv]
    unfold endE
    rcases hk with rfl | rfl | rfl
    · rw [if_pos rfl]; show (r + 1) ^ 2 - r ^ 2 = 1 + r * (2 + r * 0); grind
    · rw [if_neg (by decide), if_pos rfl]; show (r + 1) ^ 3 - r ^ 3 = 1 + r * (3 + r * (3 + r * 0)); grind
    · rw [if_neg (by decide), if_neg (by decide)]; show (r + 1) ^ 4 - r ^ 4 = 1 + r * (4 + r * (6 + r * (4 + r * 0))); grind
  · unfold endE
    rcases hk with rfl | rfl | rfl <;> decide
theorem sq_pos {i : Int} (h : i ≠ 1) : 1 ≤ (i - 1) * (i - 1) := by
  rcases Int.lt_or_gt_of_ne h with z | z
  · have := Int.mul_le_mul_of_nonneg_left (show (1 : Int) ≤ 1 - i by omega) (show (0 : Int) ≤ 1 - i by omega)
    have e : (1 - i) * (1 - i) = (i - 1) * (i - 1) := by grind
    omega
  · have := Int.mul_le_mul_of_nonneg_left (show (1 : Int) ≤ i - 1 by omega) (show (0 : Int) ≤ i - 1 by omega)
    omega
theorem rest_end {k i j : Int} (hk : k = 2 ∨ k = 3 ∨ k = 4) (hj : j < k ∨ (j = k ∧ i ≠ 1)) : EvLt (restE k i j) (endE k) := by
  refine ev_top ?_
  unfold restE endE
  rcases hk with rfl | rfl | rfl
  · rw [if_pos rfl, if_pos rfl]
    rcases hj with h | ⟨rfl, h⟩
    · exact .inl (.inr ⟨rfl, h⟩)
    · refine .inr ⟨rfl, ?_⟩
      have := sq_pos h
      have e : i * (2 - i) = 1 - (i - 1) * (i - 1) := by grind
      omega
  · rw [if_neg (by decide), if_pos rfl, if_neg (by decide), if_pos rfl]
    rcases hj with h | ⟨rfl, h⟩
    · exact .inl (.inl (.inr ⟨rfl, h⟩))
    · refine .inl (.inr ⟨rfl, ?_⟩)
      have := sq_pos h
      have e : 2 * i * 3 - 3 * (i * i) = 3 - 3 * ((i - 1) * (i - 1)) := by grind
      omega
  · rw [if_neg (by decide), if_neg (by decide), if_neg (by decide), if_neg (by decide)]
    rcases hj with h | ⟨rfl, h⟩
    · exact .inl (.inl (.inl (.inr ⟨rfl, h⟩)))
    · refine .inl (.inl (.inr ⟨rfl, ?_⟩))
      have := sq_pos h
      have e : 3 * i * 4 - 6 * (i * i) = 6 - 6 * ((i - 1) * (i - 1)) := by grind
      omega
theorem end_rest {k i : Int} (hk : k = 2 ∨ k = 3 ∨ k = 4) : EvLt (endE k) (restE k i (k + 1)) := by
  refine ev_top ?_
  unfold restE endE
  rcases hk with rfl | rfl | rfl
  · rw [if_pos rfl, if_pos rfl]; exact .inl (.inr ⟨rfl, by decide⟩)
  · rw [if_neg (by decide), if_pos rfl, if_neg (by decide), if_pos rfl]; exact .inl (.inl (.inr ⟨rfl, by decide⟩))
  · rw [if_neg (by decide), if_neg (by decide), if_neg (by decide), if_neg (by decide)]; exact .inl (.inl (.inl (.inr ⟨rfl, by decide⟩)))
theorem fallP_pv (l : Lp) (g r : Int) : pvl (fallP l g) r = (r + (g - l.reach)) * (r + g) ^ (l.k - 1).toNat - (r + 1) ^ l.k.toNat := by
  unfold fallP
  rw [pv_less, pv_mul, pv_pow, pv_pow, pv_one, pv_one, pv_one]
theorem top_reach {l : Lp} (o : l.Ok) : l.reach < l.k * l.top := by
  have nn := near_cases l
  have hc := o.cases
  have d0 := o.d0; have d1 := o.d1
  unfold Lp.reach Lp.top
  revert nn
  generalize l.near = e
  intro nn
  clear o
  obtain ⟨k, a, c, d, st, td, md⟩ := l
  dsimp only at *
  simp only [List.mem_cons, Prod.mk.injEq, List.not_mem_nil, or_false] at hc
  rcases nn with rfl | rfl | rfl <;> rcases hc with ⟨rfl, rfl, rfl⟩ | ⟨rfl, rfl, rfl⟩ | ⟨rfl, rfl, rfl⟩ | ⟨rfl, rfl, rfl⟩ | ⟨rfl, rfl, rfl⟩ | ⟨rfl, rfl, rfl⟩ | ⟨rfl, rfl, rfl⟩ | ⟨rfl, rfl, rfl⟩ | ⟨rfl, rfl, rfl⟩ | ⟨rfl, rfl, rfl⟩ | ⟨rfl, rfl, rfl⟩ | ⟨rfl, rfl, rfl⟩ | ⟨rfl, rfl, rfl⟩ | ⟨rfl, rfl, rfl⟩ | ⟨rfl, rfl, rfl⟩ | ⟨rfl, rfl, rfl⟩ | ⟨rfl, rfl, rfl⟩
  all_goals omega
theorem fall_ev {l : Lp} (hk : l.k = 2 ∨ l.k = 3 ∨ l.k = 4) {g : Int} (h : l.reach < l.k * (g - 1)) : EvPos (pvl (fallP l g)) := by
  have key : ∀ cs : List Int, ∀ c, (∀ r, pvl cs r = pvl (fallP l g) r) → cs.getLast? = some c → 0 < c → EvPos (pvl (fallP l g)) := fun cs c e hc h0 =>
    (ev_lead hc h0).up fun r => by rw [e r]; exact Int.le_refl _
  obtain ⟨u, hu⟩ : ∃ u, g - l.reach = u := ⟨_, rfl⟩
  rcases hk with hk | hk | hk
  · rw [hk] at h
    refine key [u * g - 1, u + g - 2] (u + g - 2) (fun r => ?_) rfl (by omega)
    rw [fallP_pv, hk, hu]
    show (u * g - 1) + r * ((u + g - 2) + r * 0) = (r + u) * (r + g) ^ 1 - (r + 1) ^ 2
    grind
  · rw [hk] at h
    refine key [u * (g * g) - 1, 2 * (u * g) + g * g - 3, u + 2 * g - 3] (u + 2 * g - 3) (fun r => ?_) rfl (by omega)
    rw [fallP_pv, hk, hu]
    show (u * (g * g) - 1) + r * ((2 * (u * g) + g * g - 3) + r * ((u + 2 * g - 3) + r * 0)) = (r + u) * (r + g) ^ 2 - (r + 1) ^ 3
    grind
  · rw [hk] at h
    refine key [u * (g * g * g) - 1, 3 * (u * (g * g)) + g * g * g - 4, 3 * (u * g) + 3 * (g * g) - 6, u + 3 * g - 4] (u + 3 * g - 4) (fun r => ?_) rfl (by omega)
    rw [fallP_pv, hk, hu]
    show (u * (g * g * g) - 1) + r * ((3 * (u * (g * g)) + g * g * g - 4) + r * ((3 * (u * g) + 3 * (g * g) - 6) + r * ((u + 3 * g - 4) + r * 0))) = (r + u) * (r + g) ^ 3 - (r + 1) ^ 4
    grind
/-! the cuts of a window -/
theorem rowF_asc {l : Lp} (o : l.Ok) {i : Int} : ∀ (n : Nat) (g : Int), (l.rowF i n g).Pairwise (· < ·) ∧ ∀ j, j ∈ l.rowF i n g → l.needed i g ≤ j
  | 0, _ => ⟨List.Pairwise.nil, fun _ h => nomatch h⟩
  | n + 1, g => by
    obtain ⟨h1, h2⟩ := rowF_asc o (i := i) n (g + 1)
    have s := need_succ o i g
    unfold Lp.rowF
    by_cases hm : l.needed i g ≤ l.most i
    · rw [if_pos hm]
      refine ⟨List.pairwise_cons.mpr ⟨fun j hj => by have := h2 j hj; omega, h1⟩, fun j hj => ?_⟩
      rcases List.mem_cons.mp hj with rfl | hj
      · exact Int.le_refl _
      · have := h2 j hj; omega
    · rw [if_neg hm]; exact ⟨List.Pairwise.nil, fun _ h => nomatch h⟩
theorem restE_last (k i j : Int) : (restE k i j).getLast? = some j := by
  unfold restE
  split
  · rfl
  · split <;> rfl
theorem row_nodup {l : Lp} (o : l.Ok) (i : Int) : (l.rowC i).Nodup := by
  have h := (rowF_asc o (i := i) 8 (l.ll i + 1)).1
  unfold Lp.rowC
  rw [List.nodup_iff_pairwise_ne, List.pairwise_map]
  have hp : ∀ j, j ∈ l.rowJ i → 1 ≤ j := fun j hj => (row_pos o 8 (l.ll i + 1) (need_one o i) j hj).1
  refine (List.Pairwise.imp_of_mem ?_ h)
  intro a b ha hb hlt e
  rw [restP_eq o.hk (hp a ha), restP_eq o.hk (hp b hb)] at e
  have := congrArg List.getLast? e
  rw [restE_last, restE_last] at this
  have := Option.some.inj this
  omega
theorem cut_form {l : Lp} (o : l.Ok) {lo hi : Int} {p : List Int} (h : p ∈ l.cuts lo hi) : ∃ i j, lo ≤ i ∧ i ≤ hi ∧ 1 ≤ j ∧ j ≤ l.most i ∧ p = restE l.k i j := by
  unfold Lp.cuts at h
  obtain ⟨m, hm, hr⟩ := acc_mem.mp ((sortP_perm _).mem_iff.mp h)
  obtain ⟨j, _, j1, j2, e⟩ := row_ok o hr
  exact ⟨lo + m, j, by omega, by omega, j1, j2, e⟩
theorem cuts_nodup {l : Lp} (o : l.Ok) (lo hi : Int) : (l.cuts lo hi).Nodup := (sortP_perm _).nodup_iff.mpr (acc_nodup (row_nodup o) lo _)
theorem cuts_pw {l : Lp} (o : l.Ok) (lo hi : Int) : (l.cuts lo hi).Pairwise EvLt := by
  have h1 := sortP_pw (l.accC lo (hi + 1 - lo).toNat)
  have h2 := List.nodup_iff_pairwise_ne.mp (cuts_nodup o lo hi)
  refine List.Pairwise.imp_of_mem ?_ (h1.and h2)
  intro a b ha hb h
  obtain ⟨i, j, _, _, _, _, ea⟩ := cut_form o (lo := lo) (hi := hi) ha
  obtain ⟨i', j', _, _, _, _, eb⟩ := cut_form o (lo := lo) (hi := hi) hb
  refine ev_key ?_ h.1 h.2
  rw [ea, eb, restE_len o.hk, restE_len o.hk]
theorem cut_end {l : Lp} (o : l.Ok) {i j : Int} (h : j ≤ l.most i) : EvLt (restE l.k i j) (endE l.k) := by
  refine rest_end o.hk ?_
  unfold Lp.most at h
  by_cases hi : i = 1
  · rw [if_pos hi] at h; exact .inl (by omega)
  · rw [if_neg hi] at h
    rcases Int.lt_or_eq_of_le h with z | z
    · exact .inl z
    · exact .inr ⟨z, hi⟩
theorem nil_lt {p : List Int} (h : EvPos (pvl p)) : EvLt [] p := h.up fun r => by show pvl p r ≤ pvl p r - 0; omega
theorem rising_pw {l : Lp} (o : l.Ok) (lo hi : Int) : (risingP l (l.cuts lo hi)).Pairwise EvLt := by
  have hk := o.hk
  unfold risingP
  rw [endP_eq hk]
  refine List.pairwise_cons.mpr ⟨fun p hp => ?_, ?_⟩
  · rcases List.mem_append.mp hp with hp | hp
    · obtain ⟨i, j, _, _, j1, _, rfl⟩ := cut_form o hp
      exact nil_lt (ev_lead (restE_last _ _ _) (by omega))
    · rw [List.mem_singleton.mp hp]
      have : (endE l.k).getLast? = some l.k := by
        unfold endE
        rcases hk with h | h | h <;> rw [h] <;> rfl
      exact nil_lt (ev_lead this (by omega))
  · rw [List.pairwise_append]
    refine ⟨cuts_pw o lo hi, List.pairwise_singleton _ _, fun p hp q hq => ?_⟩
    rw [List.mem_singleton.mp hq]
    obtain ⟨i, j, _, _, _, j2, rfl⟩ := cut_form o hp
    exact cut_end o j2
theorem diffs_ev : ∀ {ps : List (List Int)}, ps.Pairwise EvLt → ∀ c, c ∈ diffsP ps → ∃ p q, p ∈ ps ∧ q ∈ ps ∧ c = pLess q p ∧ EvPos (pvl c)
  | [], _, _, h => by cases h
  | [_], _, _, h => by cases h
  | p :: q :: ps, hp, c, h => by
    have hp' := List.pairwise_cons.mp hp
    rcases List.mem_cons.mp h with rfl | h
    · exact ⟨p, q, List.mem_cons_self, List.mem_cons_of_mem _ List.mem_cons_self, rfl, (hp'.1 q List.mem_cons_self).up fun r => by rw [pv_less]; exact Int.le_refl _⟩
    · obtain ⟨a, b, h1, h2, h3⟩ := diffs_ev hp'.2 c h
      exact ⟨a, b, List.mem_cons_of_mem _ h1, List.mem_cons_of_mem _ h2, h3⟩
/-- every condition is one in the end -/
theorem cond_ev {l : Lp} (o : l.Ok) {lo hi : Int} (lo1 : -10 ≤ lo) (hi1 : hi ≤ 30) (hh : l.top ≤ hi) {c : List Int} (h : c ∈ condP l lo hi (l.cuts lo hi)) : EvPos (pvl c) ∧ c.getLast? ≠ some 0 ∧ PZ 20 100 c := by
  have hk := o.hk
  have tb := top_bound o
  have pe := pz_endP (k := l.k) (by omega) (by omega)
  have m4 := most4 o
  unfold condP at h
  rcases List.mem_append.mp h with h | h
  · rcases List.mem_append.mp h with h | h
    · obtain ⟨p, q, hp, hq, rfl, he⟩ := diffs_ev (rising_pw o lo hi) c h
      have pz : ∀ p, p ∈ risingP l (l.cuts lo hi) → PZ 9 95 p := fun p hp => by
        unfold risingP at hp
        rcases List.mem_cons.mp hp with rfl | hp
        · exact ⟨Nat.zero_le _, fun c hc => nomatch hc⟩
        · rcases List.mem_append.mp hp with hp | hp
          · obtain ⟨i, j, i1, i2, j1, j2, rfl⟩ := cut_form o hp
            rw [← restP_eq hk j1]
            have := m4 i
            exact pz_restP (by omega) (by omega) (by omega) (by omega) (by omega) (by omega)
          · rw [List.mem_singleton.mp hp]; exact pe.mono (Nat.le_refl _) (by decide)
      exact ⟨he, by unfold pLess; exact trm_last _, ((pz q hq).less (pz p hp)).mono (by decide) (by decide)⟩
    · obtain ⟨i, hi', rfl⟩ := List.mem_map.mp h
      unfold notOne at hi'
      have hi2 := mem_rgZ.mp (List.mem_filter.mp hi').1
      refine ⟨?_, by unfold aboveP pAdd; exact trm_last _, ?_⟩
      · refine (end_rest (i := i) hk).up fun r => ?_
        rw [pv_above, endP_eq hk, restP_eq hk (by omega)]; omega
      · have pr := pz_restP (k := l.k) (i := i) (j := l.k + 1) (by omega) (by omega) (by omega) (by omega) (by omega) (by omega)
        exact (pz_above pr (pe.mono (Nat.le_refl _) (by decide : 90 ≤ 95)) (by decide) (by decide)).mono (by decide) (by decide)
  · rw [List.mem_singleton.mp h]
    refine ⟨?_, by unfold aboveP pAdd; exact trm_last _, ?_⟩
    · have tr := top_reach o
      have hm : l.k * l.top ≤ l.k * (hi + 1 - 1) := Int.mul_le_mul_of_nonneg_left (by omega) (by omega)
      refine (fall_ev hk (g := hi + 1) (by omega)).up fun r => ?_
      rw [pv_above]
      show pvl (fallP l (hi + 1)) r ≤ pvl (fallP l (hi + 1)) r - 0 + 1
      omega
    · have pf := pz_fallP o (g := hi + 1) (by omega) (by omega)
      exact (pz_above pf (⟨Nat.zero_le _, fun c hc => nomatch hc⟩ : PZ 9 95 []) (by decide) (by decide)).mono (by decide) (by decide)
end FWL
namespace FWL
open PySem PySem.Spec PyProof.Rows L2 FW
/-! ### the table -/
def FirstP (l : Lp) (lo hi : Int) (f : Int) : Prop := 1 - lo ≤ f ∧ (∀ c, c ∈ condP l lo hi (l.cuts lo hi) → ∀ r, f ≤ r → 0 < pvl c r) ∧ (f = 1 - lo ∨ ∃ c, c ∈ condP l lo hi (l.cuts lo hi) ∧ pvl c (f - 1) ≤ 0)
theorem FirstP.uniq {l : Lp} {lo hi x y : Int} (h : FirstP l lo hi x) (h' : FirstP l lo hi y) : x = y := by
  obtain ⟨a1, a2, a3⟩ := h
  obtain ⟨b1, b2, b3⟩ := h'
  rcases Int.lt_trichotomy x y with z | z | z
  · rcases b3 with b3 | ⟨c, hc, b3⟩
    · omega
    · have := a2 c hc (y - 1) (by omega); omega
  · exact z
  · rcases a3 with a3 | ⟨c, hc, a3⟩
    · omega
    · have := b2 c hc (x - 1) (by omega); omega
/-- a table, as it stands -/
structure TabAt (H : Hp) (t : Addr) (l : Lp) (f : Int) : Prop where
  ex : ∃ (tc tm : Addr) (xs ys : List V), H t = some (.tup [.int f, .int l.low, .int l.top, .ref tc, .ref tm]) ∧ H tc = some (.tup xs) ∧ Pls H xs (l.cuts l.low l.top) ∧ H tm = some (.tup ys) ∧ Pls H ys (mapsP l l.low l.top (l.cuts l.low l.top))
theorem TabAt.ext {H H' : Hp} {t : Addr} {l : Lp} {f : Int} (h : TabAt H t l f) (e : Ext H H') : TabAt H' t l f := by
  obtain ⟨tc, tm, xs, ys, h1, h2, h3, h4, h5⟩ := h.ex
  exact ⟨tc, tm, xs, ys, e _ _ h1, e _ _ h2, h3.ext e, e _ _ h4, h5.ext e⟩
theorem TabAt.extN {H H' : Hp} {t : Addr} {l : Lp} {f : Int} (h : TabAt H t l f) (e : LamX.ExtN H H') : TabAt H' t l f := by
  obtain ⟨tc, tm, xs, ys, h1, h2, h3, h4, h5⟩ := h.ex
  exact ⟨tc, tm, xs, ys, nx_tup e h1, nx_tup e h2, Paired.mapP h3 fun _ _ ⟨a, g1, g2⟩ => ⟨a, g1, nx_tup e g2⟩, nx_tup e h4, Paired.mapP h5 fun _ _ ⟨a, g1, g2⟩ => ⟨a, g1, nx_tup e g2⟩⟩
theorem IsLp.extN {K : PySem.W.Frag} {H H' : Hp} {p : Addr} {l : Lp} (h : IsLp K H p l) (e : LamX.ExtN H H') : IsLp K H' p l := by
  obtain ⟨dx, hp⟩ := h
  exact ⟨dx, nx_ins e hp⟩
def sp_table (K : PySem.W.Frag) : Sp := fun vs H Q _ => ∃ (p : Addr) (l : Lp), vs = [.ref p] ∧ IsLp K H p l ∧ l.Ok ∧ LamX.Tabs (tabs K) H ∧
  ∀ t f H', LamX.ExtN H H' → LamX.Tabs (tabs K) H' → FirstP l l.low l.top f → Sz 200 f → TabAt H' t l f → Q (.ref t) H'
def rd_table_L1 (K : PySem.W.Frag) : TS := tAsg (tCall (sp_positive_from K) [] E0 (tCons (tVar 5) (tCons (tVar 4) (tNil)))) (gName 4)
def rd_table (K : PySem.W.Frag) : TS := tSeq (tPar 1 2 (tCons (tCall (sp_low_gap K) [] E0 (tCons (tVar 0) (tNil))) (tCons (tCall (sp_top_gap K) [] E0 (tCons (tVar 0) (tNil))) (tNil)))) (tSeq (tAsg (tCall (sp_all_cuts K) [] E0 (tCons (tVar 0) (tCons (tVar 1) (tCons (tVar 2) (tNil))))) (gName 3)) (tSeq (tAsg (tOp FW.rSub (tC (.int 1)) (tVar 1)) (gName 4)) (tSeq (tFor (iList K (tCall (sp_conditions K) [] E0 (tCons (tVar 0) (tCons (tVar 1) (tCons (tVar 2) (tCons (tVar 3) (tNil))))))) (gName 5) (rd_table_L1 K)) (tRet (tTup (tCons (tVar 4) (tCons (tVar 1) (tCons (tVar 2) (tCons (tCB (FW.rTupS K) (tCons (tVar 3) (tNil))) (tCons (tCB (FW.rTupS K) (tCons (tCall (sp_maps_of K) [] E0 (tCons (tVar 0) (tCons (tVar 1) (tCons (tVar 2) (tCons (tVar 3) (tNil)))))) (tNil))) (tNil)))))))))))
theorem pure_table (K : PySem.W.Frag) (vs : List V) (H : Hp) (Q : VK) (E : XK) (h : sp_table K vs H Q E) : rd_table K { nx := fun _ H' => Q .non H', rt := Q } (start ["loop", "low", "high", "cuts", "first", "poly"] vs) H := by
  obtain ⟨p, l, rfl, hL, o, T, q⟩ := h
  have lb := o.low0
  have tb := top_bound o
  have cl := cuts_len o l.low l.top
  unfold rd_table
  walk_at "rx"
  refine ⟨p, l, rfl, hL, o, ?_⟩
  walk_at "rx"
  refine ⟨p, l, rfl, hL, o, fun H0 e0 => ?_⟩
  have hL0 := hL.ext e0
  have T0 := T.ext e0
  walk_at "rx"
  refine ⟨p, l, l.low, l.top, rfl, hL0, o, T0, by omega, by omega, by omega, by omega, fun a xs H1 eN T1 h1 hP1 => ?_⟩
  have hL1 := hL0.extN eN
  have eN1 := (LamX.ExtN.of e0).trans eN
  walk_at "rx"
  have hcl : ∀ c, c ∈ l.cuts l.low l.top → c.length ≤ 90 := fun c hc => by
    obtain ⟨i, j, _, _, _, _, rfl⟩ := cut_form o hc
    rw [restE_len o.hk]
    have := o.hk; omega
  refine ⟨p, a, l, l.low, l.top, xs, _, rfl, hL1, o, h1, hP1, hcl, by omega, by omega, by omega, by omega, by omega, fun b ys H2 e2 h2 hP2 => ?_⟩
  have h12 := e2 _ _ h1
  refine i_list' _ ?_ (SqL.of h2)
  have yl := hP2.len
  refine for_list (K := K) (a := b) (xs := ys) (fun n σ H' => Ext H2 H' ∧ ∃ (f : Int) (u : Option V), 1 - l.low ≤ f ∧ Sz 200 f ∧ (∀ c, c ∈ (condP l l.low l.top (l.cuts l.low l.top)).take n → ∀ r, f ≤ r → 0 < pvl c r) ∧ (f = 1 - l.low ∨ ∃ c, c ∈ condP l l.low l.top (l.cuts l.low l.top) ∧ pvl c (f - 1) ≤ 0) ∧ σ = [some (.ref p), some (.int l.low), some (.int l.top), some (.ref a), some (.int f), u])
    ⟨Ext.rfl', 1 - l.low, none, Int.le_refl _, ?_, (by rw [List.take_zero]; exact fun c h => nomatch h), .inl rfl, rfl⟩ (fun n σ H' _ h => SqL.of (h.1 _ _ h2)) ?_ ?_
  · have h3 : (7 : Nat) < 2 ^ 200 := by decide
    show (1 - l.low).natAbs < 2 ^ 200
    omega
  · rintro n x σ H' hx ⟨e, f, u, f1, fs, hc, hm, rfl⟩
    refine g_name ?_
    have hn := (List.getElem?_eq_some_iff.mp hx).1
    obtain ⟨c, hcn⟩ : ∃ c, (condP l l.low l.top (l.cuts l.low l.top))[n]? = some c := ⟨_, List.getElem?_eq_getElem (by omega)⟩
    obtain ⟨w, hw, hwc⟩ := (hP2.ext e).get hcn
    rw [hx] at hw
    cases hw
    obtain ⟨ev, lt, pz⟩ := cond_ev o (lo := l.low) (hi := l.top) (by omega) (by omega) (Int.le_refl _) (List.mem_of_getElem? hcn)
    unfold rd_table_L1
    walk_at "rx"
    refine ⟨w, c, f, rfl, hwc, pz, lt, ev, fs, fun g H3 e3 hg gs => ?_⟩
    walk_at "rx"
    obtain ⟨g1, g2, g3⟩ := hg
    refine ⟨e.tr e3, g, _, by omega, gs, fun d hd r hr => ?_, ?_, rfl⟩
    · rw [List.take_add_one, hcn] at hd
      rcases List.mem_append.mp hd with hd | hd
      · exact hc d hd r (by omega)
      · rw [List.mem_singleton.mp hd]; exact g2 r hr
    · rcases g3 with g3 | g3
      · rw [g3]; exact hm
      · exact .inr ⟨c, List.mem_of_getElem? hcn, g3⟩
  · rintro σ H' ⟨e, f, u, f1, fs, hc, hm, rfl⟩
    rw [yl, List.take_of_length_le (Nat.le_refl _)] at hc
    have hF : FirstP l l.low l.top f := ⟨f1, hc, hm⟩
    have h1' := e _ _ h12
    have e02 := e2.tr e
    have hL' := hL1.ext e02
    walk_at "rx"
    have lenC : (l.cuts l.low l.top).length ≤ 1000 := by omega
    refine ⟨p, a, l, l.low, l.top, xs, _, rfl, hL'.ext ne, o, ne _ _ h1', (hP1.ext e02).ext ne, lenC, by omega, by omega, by omega, by omega, fun b2 zs H3 e3 h3 hP3 => ?_⟩
    walk_at "rx"
    rename_i ta Ha za ea ha tb Hb zb eb hb
    have eA : Ext Ha Hb := e3.tr eb
    have ga : nH ta = some (.tup xs) := ne _ _ (eA _ _ ha)
    have gb : nH tb = some (.tup zs) := ne _ _ hb
    have e0n : Ext H1 nH := e02.tr (ea.tr (eA.tr ne))
    exact q nt f _ (eN1.trans (LamX.ExtN.of e0n)) (T1.ext e0n) hF fs ⟨⟨ta, tb, xs, zs, nh, ga, hP1.ext e0n, gb, hP3.ext (eb.tr ne)⟩⟩
end FWL
namespace FWL
open PySem PySem.Spec PyProof.Rows L2 FW
/-! ### from 300 on every condition is above nought -/
def lbd : List Int → Option Int
  | [] => some 0
  | c :: cs => match lbd cs with
    | some m => if 0 ≤ m then some (c + 300 * m) else none
    | none => none
theorem lbd_le : ∀ {cs : List Int} {m : Int}, lbd cs = some m → ∀ r, 300 ≤ r → m ≤ pvl cs r
  | [], m, h, r, hr => by cases h; exact Int.le_refl _
  | c :: cs, m, h, r, hr => by
    unfold lbd at h
    cases hc : lbd cs with
    | none => rw [hc] at h; cases h
    | some w =>
      rw [hc] at h
      dsimp only at h
      by_cases hw : 0 ≤ w
      · rw [if_pos hw] at h
        cases h
        have ih := lbd_le hc r hr
        have h1 : 300 * w ≤ r * w := Int.mul_le_mul_of_nonneg_right hr hw
        have h2 : r * w ≤ r * pvl cs r := Int.mul_le_mul_of_nonneg_left ih (by omega)
        show c + 300 * w ≤ c + r * pvl cs r
        omega
      · rw [if_neg hw] at h; cases h
def posL (cs : List Int) : Bool := match lbd cs with
  | some m => decide (0 < m)
  | none => false
theorem posL_pos {cs : List Int} (h : posL cs = true) (r : Int) (hr : 300 ≤ r) : 0 < pvl cs r := by
  unfold posL at h
  cases hc : lbd cs with
  | none => rw [hc] at h; cases h
  | some m =>
    rw [hc] at h
    have := lbd_le hc r hr
    have := of_decide_eq_true h
    omega
def posB (p q : List Int) : Bool := posL (addL q (negL p))
theorem posB_lt {p q : List Int} (h : posB p q = true) (r : Int) (hr : 300 ≤ r) : pvl p r < pvl q r := by
  have := posL_pos h r hr
  unfold negL at this
  rw [pv_addL, pv_neg] at this
  omega
def okPair (p q : List Int) : Bool := p == q || posB p q || posB q p
theorem ok_lt {p q : List Int} (h : okPair p q = true) (e : EvLt p q) (r : Int) (hr : 300 ≤ r) : pvl p r < pvl q r := by
  obtain ⟨B, hB⟩ := e
  have h1 := hB (max B 300) (by omega)
  dsimp only at h1
  unfold okPair at h
  rw [Bool.or_eq_true, Bool.or_eq_true] at h
  rcases h with (h | h) | h
  · rw [eq_of_beq h] at h1; omega
  · exact posB_lt h r hr
  · have := posB_lt h (max B 300) (by omega); omega
def univ (k hi : Int) : List (List Int) := [] :: endE k :: ((rgZ (-3) (hi + 1)).map fun i => (rgZ 1 (k + 1)).map fun j => restE k i j).flatten
theorem mem_univ {k hi i j : Int} (h1 : -3 ≤ i) (h2 : i ≤ hi) (h3 : 1 ≤ j) (h4 : j ≤ k) : restE k i j ∈ univ k hi :=
  List.mem_cons_of_mem _ (List.mem_cons_of_mem _ (List.mem_flatten.mpr ⟨_, List.mem_map_of_mem (mem_rgZ.mpr ⟨h1, by omega⟩), List.mem_map_of_mem (mem_rgZ.mpr ⟨h3, by omega⟩)⟩))
def uniB (k hi : Int) : Bool := (univ k hi).all fun p => (univ k hi).all fun q => okPair p q
theorem uni2 : uniB 2 10 = true := by decide +kernel
theorem uni3 : uniB 3 7 = true := by decide +kernel
theorem uni4 : uniB 4 5 = true := by decide +kernel
def hiOf (k : Int) : Int := if k = 2 then 10 else if k = 3 then 7 else 5
theorem uniK {k : Int} (hk : k = 2 ∨ k = 3 ∨ k = 4) {p q : List Int} (hp : p ∈ univ k (hiOf k)) (hq : q ∈ univ k (hiOf k)) : okPair p q = true := by
  have h : uniB k (hiOf k) = true := by
    rcases hk with rfl | rfl | rfl
    · exact uni2
    · exact uni3
    · exact uni4
  exact List.all_eq_true.mp (List.all_eq_true.mp h p hp) q hq
theorem top_hi {l : Lp} (o : l.Ok) : l.top ≤ hiOf l.k := by
  have nn := near_cases l
  have hc := o.cases
  have d0 := o.d0; have d1 := o.d1
  unfold Lp.top
  revert nn
  generalize l.near = e
  intro nn
  clear o
  obtain ⟨k, a, c, d, st, td, md⟩ := l
  dsimp only at *
  simp only [List.mem_cons, Prod.mk.injEq, List.not_mem_nil, or_false] at hc
  rcases nn with rfl | rfl | rfl <;> rcases hc with ⟨rfl, rfl, rfl⟩ | ⟨rfl, rfl, rfl⟩ | ⟨rfl, rfl, rfl⟩ | ⟨rfl, rfl, rfl⟩ | ⟨rfl, rfl, rfl⟩ | ⟨rfl, rfl, rfl⟩ | ⟨rfl, rfl, rfl⟩ | ⟨rfl, rfl, rfl⟩ | ⟨rfl, rfl, rfl⟩ | ⟨rfl, rfl, rfl⟩ | ⟨rfl, rfl, rfl⟩ | ⟨rfl, rfl, rfl⟩ | ⟨rfl, rfl, rfl⟩ | ⟨rfl, rfl, rfl⟩ | ⟨rfl, rfl, rfl⟩ | ⟨rfl, rfl, rfl⟩ | ⟨rfl, rfl, rfl⟩
  all_goals (unfold hiOf; simp only [Int.reduceEq, if_true, if_false, ite_true, ite_false]; omega)
def endB (k hi : Int) : Bool := (rgZ (-3) (hi + 1)).all fun i => i == 1 || posL (addL (addL (restE k i (k + 1)) (negL (endE k))) [1])
theorem endK {k i : Int} (hk : k = 2 ∨ k = 3 ∨ k = 4) (h1 : -3 ≤ i) (h2 : i ≤ hiOf k) (hi : i ≠ 1) (r : Int) (hr : 300 ≤ r) : 0 < pvl (restE k i (k + 1)) r - pvl (endE k) r + 1 := by
  have h : endB k (hiOf k) = true := by rcases hk with rfl | rfl | rfl <;> decide +kernel
  have h3 := List.all_eq_true.mp h i (mem_rgZ.mpr ⟨h1, by omega⟩)
  rcases (Bool.or_eq_true _ _).mp h3 with h3 | h3
  · exact absurd (eq_of_beq h3) hi
  · have := posL_pos h3 r hr
    unfold negL at this
    rw [pv_addL, pv_addL, pv_neg] at this
    simp [pvl] at this ⊢
    omega
def falB (k hi : Int) : Bool := (rgZ 2 (hi + 2)).all fun g => (rgZ (-10) (k * (g - 1))).all fun e => posL (addL (addL (mulL [g - e, 1] (pPow [g, 1] (k - 1).toNat)) (negL (pPow [1, 1] k.toNat))) [1])
theorem falK {k g e : Int} (hk : k = 2 ∨ k = 3 ∨ k = 4) (h1 : 2 ≤ g) (h2 : g ≤ hiOf k + 1) (h3 : -10 ≤ e) (h4 : e < k * (g - 1)) (r : Int) (hr : 300 ≤ r) : 0 < (r + (g - e)) * (r + g) ^ (k - 1).toNat - (r + 1) ^ k.toNat + 1 := by
  have h : falB k (hiOf k) = true := by rcases hk with rfl | rfl | rfl <;> decide +kernel
  have h5 := posL_pos (List.all_eq_true.mp (List.all_eq_true.mp h g (mem_rgZ.mpr ⟨h1, by omega⟩)) e (mem_rgZ.mpr ⟨h3, h4⟩)) r hr
  unfold negL at h5
  rw [pv_addL, pv_addL, pv_neg, pv_mulL, pv_pow, pv_pow, pv_one, pv_one, pv_one] at h5
  have : pvl [1] r = 1 := by simp [pvl]
  omega
theorem ll_low3 {l : Lp} (o : l.Ok) {i : Int} (h : -3 ≤ i) (h' : i ≤ 0) : -3 ≤ l.ll i := by
  have hc := o.cases
  have d0 := o.d0
  clear o
  unfold Lp.ll Lp.sl
  obtain ⟨k, a, c, d, st, td, md⟩ := l
  dsimp only at *
  simp only [List.mem_cons, Prod.mk.injEq, List.not_mem_nil, or_false] at hc
  rcases hc with ⟨rfl, rfl, rfl⟩ | ⟨rfl, rfl, rfl⟩ | ⟨rfl, rfl, rfl⟩ | ⟨rfl, rfl, rfl⟩ | ⟨rfl, rfl, rfl⟩ | ⟨rfl, rfl, rfl⟩ | ⟨rfl, rfl, rfl⟩ | ⟨rfl, rfl, rfl⟩ | ⟨rfl, rfl, rfl⟩ | ⟨rfl, rfl, rfl⟩ | ⟨rfl, rfl, rfl⟩ | ⟨rfl, rfl, rfl⟩ | ⟨rfl, rfl, rfl⟩ | ⟨rfl, rfl, rfl⟩ | ⟨rfl, rfl, rfl⟩ | ⟨rfl, rfl, rfl⟩ | ⟨rfl, rfl, rfl⟩
  all_goals omega
theorem lowF3 {l : Lp} (o : l.Ok) : ∀ (n : Nat) (x : Int), -3 ≤ x → x ≤ 0 → -3 ≤ l.lowF n x
  | 0, x, h, _ => h
  | n + 1, x, h, h' => by
    unfold Lp.lowF
    split
    · exact lowF3 o n _ (ll_low3 o h h') (by omega)
    · exact h
theorem low3 {l : Lp} (o : l.Ok) : -3 ≤ l.low := lowF3 o 10 0 (by decide) (by decide)
theorem cond_300 {l : Lp} (o : l.Ok) {c : List Int} (h : c ∈ condP l l.low l.top (l.cuts l.low l.top)) (r : Int) (hr : 300 ≤ r) : 0 < pvl c r := by
  have hk := o.hk
  have tb := top_bound o
  have lb := low3 o
  have th := top_hi o
  unfold condP at h
  rcases List.mem_append.mp h with h | h
  · rcases List.mem_append.mp h with h | h
    · obtain ⟨p, q, hp, hq, rfl, he⟩ := diffs_ev (rising_pw o l.low l.top) c h
      have pu : ∀ p, p ∈ risingP l (l.cuts l.low l.top) → p ∈ univ l.k (hiOf l.k) := fun p hp => by
        unfold risingP at hp
        rcases List.mem_cons.mp hp with rfl | hp
        · exact List.mem_cons_self
        · rcases List.mem_append.mp hp with hp | hp
          · obtain ⟨i, j, i1, i2, j1, j2, rfl⟩ := cut_form o hp
            refine mem_univ (by omega) (by omega) j1 ?_
            unfold Lp.most at j2
            split at j2 <;> omega
          · rw [List.mem_singleton.mp hp, endP_eq hk]; exact List.mem_cons_of_mem _ List.mem_cons_self
      have := ok_lt (uniK hk (pu p hp) (pu q hq)) (he.up fun r => by rw [pv_less]; exact Int.le_refl _) r hr
      rw [pv_less]; omega
    · obtain ⟨i, hi', rfl⟩ := List.mem_map.mp h
      unfold notOne at hi'
      obtain ⟨hi1, hi3⟩ := List.mem_filter.mp hi'
      have hi2 := mem_rgZ.mp hi1
      rw [pv_above, endP_eq hk, restP_eq hk (by omega)]
      refine endK hk (by omega) (by omega) (fun z => ?_) r hr
      rw [z] at hi3; exact absurd hi3 (by decide)
  · rw [List.mem_singleton.mp h, pv_above]
    have tr := top_reach o
    have rb := reach_b o
    have := falK hk (g := l.top + 1) (e := l.reach) (by omega) (by omega) rb.1 (by rw [show l.top + 1 - 1 = l.top by omega]; exact tr) r hr
    rw [fallP_pv]
    show 0 < _ - 0 + 1
    omega
theorem FirstP.le {l : Lp} (o : l.Ok) {f : Int} (h : FirstP l l.low l.top f) : f ≤ 300 := by
  have lb := o.low0
  rcases h.2.2 with z | ⟨c, hc, z⟩
  · omega
  · by_cases hf : f ≤ 300
    · exact hf
    · have := cond_300 o hc (f - 1) (by omega); omega
/-! ### above the window steps fall by enough -/
theorem fall_of {l : Lp} (o : l.Ok) {n x : Int} (hx : 1 ≤ x) (h : n < (x - l.reach) * x ^ (l.k - 1).toNat) : l.led n x < x - l.near := by
  have c1 := o.c1; have a1 := o.a1
  have hp : 0 < x ^ (l.k - 1).toNat := Int.pow_pos (by omega)
  have hq : n / x ^ (l.k - 1).toNat < x - l.reach := Int.ediv_lt_of_lt_mul hp h
  have hr : l.d + l.near * (l.a + l.c) < l.c * l.reach + l.c := by
    have := Int.lt_mul_ediv_self_add (x := l.d + l.near * (l.a + l.c)) (k := l.c) (by omega)
    exact this
  unfold Lp.led
  refine Int.ediv_lt_of_lt_mul (by omega) ?_
  have h1 : l.c * (n / x ^ (l.k - 1).toNat) ≤ l.c * (x - l.reach - 1) := Int.mul_le_mul_of_nonneg_left (by omega) (by omega)
  have e1 : l.c * (x - l.reach - 1) = l.c * x - l.c * l.reach - l.c := by grind
  have e2 : (x - l.near) * (l.a + l.c) = l.a * x + l.c * x - l.near * (l.a + l.c) := by grind
  omega
theorem first_fall {l : Lp} (o : l.Ok) {f r x : Int} (h : FirstP l l.low l.top f) (hr : f ≤ r) (hx : r + l.top + 1 ≤ x) : l.led ((r + 1) ^ l.k.toNat - 1) x < x - l.near := by
  have lb := o.low0
  have tb := top_bound o
  have f1 := h.1
  have h1 := h.2.1 (aboveP (fallP l (l.top + 1)) []) (by unfold condP; exact List.mem_append_right _ (List.mem_singleton.mpr rfl)) r hr
  rw [pv_above, fallP_pv] at h1
  have h1 : 0 < (r + (l.top + 1 - l.reach)) * (r + (l.top + 1)) ^ (l.k - 1).toNat - (r + 1) ^ l.k.toNat - 0 + 1 := h1
  have hp : 0 < (r + 1) ^ l.k.toNat := Int.pow_pos (by omega)
  have hg : 0 < (r + (l.top + 1)) ^ (l.k - 1).toNat := Int.pow_pos (by omega)
  have hs : 0 < r + (l.top + 1 - l.reach) := by
    refine Int.not_le.mp fun z => ?_
    have := Int.mul_nonpos_of_nonpos_of_nonneg z (Int.le_of_lt hg)
    omega
  refine fall_of o (by omega) ?_
  have hm : (r + (l.top + 1)) ^ (l.k - 1).toNat ≤ x ^ (l.k - 1).toNat := pow_mono (by omega) (by omega) _
  have h2 : (r + (l.top + 1 - l.reach)) * (r + (l.top + 1)) ^ (l.k - 1).toNat ≤ (x - l.reach) * x ^ (l.k - 1).toNat := Int.mul_le_mul (by omega) hm (Int.le_of_lt hg) (by omega)
  omega
/-! ### neighbouring maps are unlike -/
theorem nodup_ne {cs : List (List Int)} {s t : Nat} {c : List Int} (hn : cs.Nodup) (h : s < t) (h1 : cs[s]? = some c) (h2 : cs[t]? = some c) : False := by
  obtain ⟨a, ha⟩ := List.getElem?_eq_some_iff.mp h1
  obtain ⟨b, hb⟩ := List.getElem?_eq_some_iff.mp h2
  exact List.pairwise_iff_getElem.mp hn s t a b h (ha.trans hb.symm)
theorem take_any {cs : List (List Int)} {t : Nat} {c : List Int} (h : cs[t]? = some c) (p : List Int) : ((cs.take (t + 1)).any fun z => decide (z = p)) = (((cs.take t).any fun z => decide (z = p)) || decide (c = p)) := by
  rw [List.take_add_one, h, List.any_append]; simp
theorem filter_le {α : Type} {p q : α → Bool} (h : ∀ x, p x = true → q x = true) : ∀ xs : List α, (xs.filter p).length ≤ (xs.filter q).length
  | [] => Nat.le_refl _
  | x :: xs => by
    have ih := filter_le h xs
    rw [List.filter_cons, List.filter_cons]
    by_cases hp : p x = true
    · rw [if_pos hp, if_pos (h x hp), List.length_cons, List.length_cons]; omega
    · rw [if_neg hp]; split
      · rw [List.length_cons]; omega
      · exact ih
theorem filter_lt {α : Type} {p q : α → Bool} {c : α} (h : ∀ x, p x = true → q x = true) : ∀ {xs : List α}, c ∈ xs → p c = false → q c = true → (xs.filter p).length < (xs.filter q).length
  | x :: xs, hc, h1, h2 => by
    rw [List.filter_cons, List.filter_cons]
    rcases List.mem_cons.mp hc with rfl | hc
    · have := filter_le h xs
      rw [if_neg (by rw [h1]; exact Bool.false_ne_true), if_pos h2, List.length_cons]; omega
    · have ih := filter_lt h hc h1 h2
      by_cases hp : p x = true
      · rw [if_pos hp, if_pos (h x hp), List.length_cons, List.length_cons]; omega
      · rw [if_neg hp]; split
        · rw [List.length_cons]; omega
        · exact ih
theorem passed_more {l : Lp} {cs : List (List Int)} {t : Nat} {c : List Int} {i : Int} (h : cs[t]? = some c) (hn : cs.Nodup) (hc : c ∈ l.rowC i) : l.passed i (cs.take t) < l.passed i (cs.take (t + 1)) := by
  unfold Lp.passed
  have hnot : ((cs.take t).any fun z => decide (z = c)) = false := by
    rw [Bool.eq_false_iff]
    intro z
    obtain ⟨z, hz, e⟩ := List.any_eq_true.mp z
    have e := of_decide_eq_true e
    subst e
    obtain ⟨s, hs, es⟩ := List.mem_iff_getElem.mp hz
    rw [List.length_take] at hs
    rw [List.getElem_take] at es
    have ht := (List.getElem?_eq_some_iff.mp h).1
    exact nodup_ne hn (show s < t by omega) (by rw [List.getElem?_eq_getElem (by omega), es]) h
  refine filter_lt (c := c) (fun p hp => ?_) hc hnot ?_
  · rw [take_any h, hp]; rfl
  · rw [take_any h]; simp
theorem mapP_at {l : Lp} {lo hi i : Int} {ps : List (List Int)} (h1 : lo ≤ i) (h2 : i ≤ hi) : (mapP l lo hi ps)[(i - lo).toNat]? = some (l.ll i + (l.passed i ps : Nat)) := by
  unfold mapP rgZ
  rw [List.getElem?_map, List.getElem?_map, List.getElem?_range (by omega)]
  have e : lo + ((i - lo).toNat : Nat) = i := by omega
  show some (l.ll (lo + ((i - lo).toNat : Nat)) + (l.passed (lo + ((i - lo).toNat : Nat)) ps : Nat)) = _
  rw [e]
theorem maps_ne {l : Lp} (o : l.Ok) {lo hi : Int} {t : Nat} (ht : t < (l.cuts lo hi).length) : mapP l lo hi ((l.cuts lo hi).take t) ≠ mapP l lo hi ((l.cuts lo hi).take (t + 1)) := by
  intro e
  have hc : (l.cuts lo hi)[t]? = some ((l.cuts lo hi)[t]) := List.getElem?_eq_getElem ht
  have hm : (l.cuts lo hi)[t] ∈ l.cuts lo hi := List.getElem_mem ht
  unfold Lp.cuts at hm
  obtain ⟨m, hm, hr⟩ := acc_mem.mp ((sortP_perm _).mem_iff.mp hm)
  have h1 := mapP_at (l := l) (lo := lo) (hi := hi) (i := lo + (m : Nat)) (ps := (l.cuts lo hi).take t) (by omega) (by omega)
  have h2 := mapP_at (l := l) (lo := lo) (hi := hi) (i := lo + (m : Nat)) (ps := (l.cuts lo hi).take (t + 1)) (by omega) (by omega)
  rw [e, h2] at h1
  have := passed_more hc (cuts_nodup o lo hi) hr
  have := Option.some.inj h1
  omega
end FWL
namespace FWL
open PySem PySem.Spec PyProof.Rows L2 FW
/-! ### the law's polynomials -/
def sp_l_poly (K : PySem.W.Frag) : Sp := fun vs H Q _ => ∃ (p : Addr) (m : Int) (n : Nat), vs = [.ref p, .int 5, .int m] ∧ (1 ≤ m ∧ m ≤ 40) ∧ Strm H p n ∧ n + 10 < 1000000 ∧
  ∀ (t : Addr) (ns : List Int) (H' : Hp), H t = none → ExtB p H H' → Strm H' p (n + 7) → H' t = some (.tup (ns.map V.int)) → ns.length ≤ 6 → (∀ c ∈ ns, Sz 10 c) → Q (.ref t) H'
def rd_l_poly (K : PySem.W.Frag) : TS := tSeq (tAsg (tLc (iRng1 (tCons (tCall (sp_l_draw K) [] E0 (tCons (tVar 0) (tCons (tOp FW.rAdd (tVar 1) (tC (.int 1))) (tNil)))) (tNil))) (gName 4) (tYes) (tOp FW.rSub (tCall (sp_l_draw K) [] E0 (tCons (tVar 0) (tCons (tOp FW.rAdd (tOp FW.rMul (tC (.int 2)) (tVar 2)) (tC (.int 1))) (tNil)))) (tVar 2)) [4]) (gName 3)) (tRet (tCB (FW.rTupS K) (tCons (tOp rCat (tVar 3) (tOp rRep (tLst (tCons (tC (.int 0)) (tNil))) (tCB FW.rInt1 (tCons (tOp rEq (tCall (sp_l_draw K) [] E0 (tCons (tVar 0) (tCons (tC (.int 4)) (tNil)))) (tC (.int 0))) (tNil))))) (tNil))))
theorem ExtB.updF {p D : Addr} {H H' : Hp} {o : HO} (e : ExtB p H H') (h : H D = none) : ExtB p H (upd H' D o) := fun b u hb q => by
  rw [upd_ne (ne_of_none q h)]; exact e b u hb q
theorem Strm.updF {p D : Addr} {H : Hp} {n : Nat} {o : HO} (s : Strm H p n) (h : D ≠ p) : Strm (upd H D o) p n := by
  obtain ⟨a, b, c, h1, h2⟩ := s
  exact ⟨a, b, c, by rw [upd_ne h.symm]; exact h1, h2⟩
theorem rep_map (n : Nat) (c : Int) : (List.replicate n c).map V.int = List.replicate n (V.int c) := by rw [List.map_replicate]
theorem pure_l_poly (K : PySem.W.Frag) (vs : List V) (H : Hp) (Q : VK) (E : XK) (h : sp_l_poly K vs H Q E) : rd_l_poly K { nx := fun _ H' => Q .non H', rt := Q } (start ["_law_stream_here", "_law_many", "_law_most", "_law_found", "_law_k"] vs) H := by
  obtain ⟨p, m, n, rfl, hm, hS, hn, q⟩ := h
  unfold rd_l_poly
  walk_at "rd"
  refine ⟨p, 5 + 1, n, rfl, hS, by omega, by decide, by decide, fun d1 H1 d10 d11 e1 s1 => ?_⟩
  walk_at "rd"
  · intro D hD
    have hDp : D ≠ p := s1.ne hD
    have hDn : H D = none := FWL.ExtB.non e1 s1 hD
    refine lc_range (lo := 0) (n := d1.toNat) (fun i H' => i ≤ d1.toNat ∧ ExtB p H H' ∧ Strm H' p (n + 1 + i) ∧ ∃ ns : List Int, H' D = some (.lst (ns.map V.int)) ∧ ns.length = i ∧ ∀ c ∈ ns, Sz 10 c) ⟨Nat.zero_le _, e1.tr (ExtB.of (Ext.new hD)), s1.ext (Ext.new hD), [], upd_same, rfl, by simp⟩ ?_ ?_
    · rintro i H' hi ⟨hle, eB, sS, ns, hDD, hl, hc⟩
      walk_at "rd"
      refine ⟨rfl, ?_⟩
      walk_at "rd"
      · refine ⟨p, 2 * m + 1, n + 1 + i, rfl, sS, by omega, by omega, log2_small (by omega), fun d2 H2 d20 d21 e2 s2 => ?_⟩
        walk_at "rd"
        have hD2 := e2 _ _ hDp hDD
        refine ⟨_, hD2, ?_, by omega, FWL.ExtB.updF (eB.tr e2) hDn, s2.updF hDp, ns ++ [d2 - m], by rw [upd_same, List.map_append]; rfl, by simp [hl], ?_⟩
        · rw [List.length_map]; show _ < 2 ^ 24; omega
        · intro c hc'
          rcases List.mem_append.mp hc' with h | h
          · exact hc c h
          · rw [List.mem_singleton.mp h]; show (d2 - m).natAbs < 1024; omega
      · exact wide_mul (a := 10) (b := 10) (by decide) (by show m.natAbs < 1024; omega) (by decide) (by decide) (by decide)
    · rintro H2 ⟨hle, eB, sS, ns, hDD, hl, hc⟩
      walk_at "rd"
      refine ⟨by show 1 ≤ sizeLine; decide, fun p2 h2 => ?_⟩
      walk_at "rd"
      refine ⟨p, 4, n + 1 + d1.toNat, rfl, sS.ext (Ext.new h2), by omega, by decide, by decide, fun d3 H3 d30 d31 e3 s3 => ?_⟩
      walk_at "rd"
      have hp2 : p2 ≠ p := sS.ne h2
      have hd : decide (V.int d3 = V.int 0) = decide (d3 = 0) := decide_eq_decide.mpr ⟨fun z => by injection z, fun z => by rw [z]⟩
      rw [hd]
      obtain ⟨k, ek, hk⟩ : ∃ k : Int, (if decide (d3 = 0) = true then (1 : Int) else 0) = k ∧ (k = 0 ∨ k = 1) := ⟨_, rfl, by split <;> simp⟩
      rw [ek]
      refine e_rep (fun p4 h4 => ?_) (e3 _ _ hp2 upd_same) (by omega) (by omega)
      have hD3 : (upd H3 p4 (.lst (List.replicate k.toNat (V.int 0)))) D = some (.lst (ns.map V.int)) := (Ext.new h4) _ _ (e3 _ _ hDp ((Ext.new h2) _ _ hDD))
      refine e_cat (fun p5 h5 => ?_) hD3 upd_same (by rw [List.length_map, List.length_replicate]; show _ ≤ 2 ^ 24; omega)
      walk_at "rd"
      refine e_tupL (fun t6 h6 => ?_) (SqL.of upd_same)
      have e6 : ExtB p H _ := eB.tr ((ExtB.of (Ext.new h2)).tr (e3.tr (ExtB.of ((Ext.new h4).tr (Ext.new (o := .lst (ns.map V.int ++ List.replicate k.toNat (V.int 0))) h5)))))
      have s6 := (s3.ext (Ext.new (o := .lst (List.replicate k.toNat (V.int 0))) h4)).ext (Ext.new (o := .lst (ns.map V.int ++ List.replicate k.toNat (V.int 0))) h5)
      refine q t6 (ns ++ List.replicate k.toNat 0) _ (FWL.ExtB.non e6 s6 h6) (e6.tr (ExtB.of (Ext.new h6))) ((s6.ext (Ext.new h6)).mono (by omega)) ?_ ?_ ?_
      · rw [upd_same, List.map_append, rep_map]
      · rw [List.length_append, List.length_replicate]; omega
      · intro c hc'
        rcases List.mem_append.mp hc' with h | h
        · exact hc c h
        · rw [List.eq_of_mem_replicate h]; decide
  · omega
/-! the law's own value -/
def atS : List Int → Int → Nat → List Int
  | [], _, _ => []
  | c :: cs, r, k => c * r ^ k :: atS cs r (k + 1)
theorem atS_sum : ∀ (cs : List Int) (r : Int) (k : Nat), (atS cs r k).sum = r ^ k * pvl cs r
  | [], r, k => by simp [atS, pvl]
  | c :: cs, r, k => by simp only [atS, pvl, List.sum_cons, atS_sum cs r (k + 1), Int.pow_succ]; grind
theorem atS_len : ∀ (cs : List Int) (r : Int) (k : Nat), (atS cs r k).length = cs.length
  | [], r, k => rfl
  | c :: cs, r, k => by simp [atS, atS_len cs r (k + 1)]
theorem atS_at : ∀ (cs : List Int) (r : Int) (k i : Nat) (c : Int), cs[i]? = some c → (atS cs r k)[i]? = some (c * r ^ (k + i))
  | x :: cs, r, k, 0, c, h => by
    simp only [List.getElem?_cons_zero, Option.some.injEq] at h
    subst h; simp [atS]
  | x :: cs, r, k, i + 1, c, h => by
    have := atS_at cs r (k + 1) i c (by simpa using h)
    simp only [atS, List.getElem?_cons_succ, this]
    rw [show k + 1 + i = k + (i + 1) by omega]
  | [], r, k, i, c, h => by simp at h
def sp_l_at (K : PySem.W.Frag) : Sp := fun vs H Q _ => ∃ (a : Addr) (ns : List Int) (r : Int) (b : Nat), vs = [.ref a, .int r] ∧ SqT K H a (ns.map V.int) ∧ ns.length ≤ 100 ∧ (∀ c ∈ ns, Sz b c) ∧ Sz b r ∧ 0 < b ∧ (ns.length + 3) * (b + 1) ≤ 900000 ∧
  ∀ H', Ext H H' → Q (.int (pvl ns r)) H'
def rd_l_at (K : PySem.W.Frag) : TS := tRet (tCB (rSum K) (tCons (tLc (FW.iEnumT K (tCons (tVar 0) (tNil))) (gTup K 2 (gCons (gName 2) (gCons (gName 3) (gNil)))) (tYes) (tOp FW.rMul (tVar 3) (tCall (sp_l_power K) [] E0 (tCons (tVar 1) (tCons (tVar 2) (tNil))))) [2, 3]) (tNil)))
theorem pure_l_at (K : PySem.W.Frag) (vs : List V) (H : Hp) (Q : VK) (E : XK) (h : sp_l_at K vs H Q E) : rd_l_at K { nx := fun _ H' => Q .non H', rt := Q } (start ["_law_poly_here", "_law_r", "_law_k", "_law_x"] vs) H := by
  obtain ⟨a, ns, r, b, rfl, hA, hln, hc, hr, hb, hsz, q⟩ := h
  unfold rd_l_at
  walk_at "rd"
  refine i_enumT ?_
  walk_at "rd"
  refine ⟨a, _, rfl, hA, ?_⟩
  intro D hD
  have hk : ∀ H', (∀ c o, c ≠ D → H c = some o → H' c = some o) → Ext H H' := fun H' h c o e => h c o (ne_of_none e hD) e
  refine lc_it (FW.walk_enumT (K := K) (a := a) (xs := ns.map V.int)) (fun i H' => i ≤ ns.length ∧ Ext H H' ∧ H' D = some (.lst (((atS ns r 0).take i).map V.int))) ⟨Nat.zero_le _, Ext.new hD, upd_same⟩
    (fun i H' _ p => p.2.1.sqT hA) ?_ ?_
  · rintro i v H' H'' hi ⟨hle, e, hDD⟩ ⟨T, x, y, rfl, hT, rfl, hx, hy⟩
    cases hx
    obtain ⟨c, rfl, hci⟩ := map_at hy
    have hilt := (List.getElem?_eq_some_iff.mp hci).1
    have hcs := hc c (List.mem_of_getElem? hci)
    have h1 : (i + 2) * (b + 1) ≤ (ns.length + 3) * (b + 1) := Nat.mul_le_mul_right _ (by omega)
    have h2 : (i + 2) * (b + 1) = i * b + i + 2 * b + 2 := by grind
    have hps := hr.pow hb i
    refine g_tup ?_ (SqT.of upd_same) rfl
    have hTD : D ≠ T := ne_of_none hDD hT
    walk_at "rd"
    refine ⟨rfl, ?_⟩
    walk_at "rd"
    refine ⟨r, (i : Nat), b, rfl, by omega, hr, hb, ?_, ?_⟩
    · have : (i + 1) * b ≤ (i + 2) * (b + 1) := Nat.mul_le_mul (by omega) (by omega)
      rw [Int.toNat_natCast]
      omega
    walk_at "rd"
    · refine ⟨_, by rw [upd_ne hTD]; exact hDD, ?_, by omega, fun c o q => ?_, ?_⟩
      · rw [List.length_map, List.length_take]; show _ < 2 ^ 24; omega
      · rw [upd_ne (ne_of_none q hD)]; exact (Ext.new hT) _ _ (e _ _ q)
      · have := atS_at ns r 0 i c hci
        rw [Nat.zero_add] at this
        rw [upd_same, take_succ' this, List.map_append, Int.toNat_natCast]; rfl
    · rw [Int.toNat_natCast]
      exact wide_mul (a := b) (b := i * b + 1) hcs hps hb (by omega) (by omega)
  · rintro H' ⟨_, e, hDD⟩
    walk_at "rd"
    rw [List.take_of_length_le (by rw [atS_len, List.length_map]; exact Nat.le_refl _)] at hDD
    refine e_sum ?_ (SqL.of hDD)
    rw [atS_sum, Int.pow_zero, Int.one_mul]
    exact q _ e
/-! is it a polynomial -/
def sp_l_is_poly (K : PySem.W.Frag) : Sp := fun vs H Q _ => ∃ (a : Addr) (ns : List Int), vs = [.ref a] ∧ H a = some (.tup (ns.map V.int)) ∧ ns.getLast? ≠ some 0 ∧ ns.length ≤ 1000 ∧ ∀ H', Ext H H' → Q (.bl true) H'
def rd_l_is_poly (K : PySem.W.Frag) : TS := tRet (tAndV (tCB (rIsi K) (tCons (tVar 0) (tCons (tC (.ty "tuple")) (tNil)))) (tAndV (tCB (rAll K) (tCons (tLc (iTup K (tVar 0)) (gName 1) (tYes) (tCB (rIsi K) (tCons (tVar 1) (tCons (tC (.ty "int")) (tNil)))) [1]) (tNil))) (tOp (rNeD K) (tSl (rSlA K) (tVar 0) (tPart (tUn FW.rNeg (tC (.int 1)))) (tNoPart)) (tTup (tCons (tC (.int 0)) (tNil))))))
theorem kitBt : kitB "tuple" "tuple" = some true := by decide +kernel
theorem cut_last (ns : List Int) : cutV (ns.map V.int) (some (-1)) none = (match ns.getLast? with | none => [] | some c => [V.int c]) := by
  unfold cutV
  have e : HT.sIx (ns.map V.int).length 0 (some (-1)) = (ns.map V.int).length - 1 := by
    show (if (-1 : Int) < 0 then (-1 + ((ns.map V.int).length : Int)).toNat else min (-1 : Int).toNat (ns.map V.int).length) = _
    rw [if_pos (by decide)]; omega
  rw [e, HT.sIx_none, List.length_map]
  rcases List.eq_nil_or_concat ns with rfl | ⟨xs, x, rfl⟩
  · rfl
  · simp
theorem pure_l_is_poly (K : PySem.W.Frag) (vs : List V) (H : Hp) (Q : VK) (E : XK) (h : sp_l_is_poly K vs H Q E) : rd_l_is_poly K { nx := fun _ H' => Q .non H', rt := Q } (start ["_law_thing", "_law_x"] vs) H := by
  obtain ⟨a, ns, rfl, hA, hlast, hln, q⟩ := h
  unfold rd_l_is_poly
  walk_at "rd"
  refine e_isi ?_ (WT.tup hA) kitBt
  walk_at "rd"
  refine i_tup' _ ?_ (SqT.of hA)
  intro D hD
  refine lc_tup (K := K) (a := a) (xs := ns.map V.int) (fun i H' => i ≤ ns.length ∧ Ext H H' ∧ H' D = some (.lst ((List.replicate i true).map V.bl))) ⟨Nat.zero_le _, Ext.new hD, upd_same⟩
    (fun i H' _ p => p.2.1.sqT (SqT.of hA)) ?_ ?_
  · rintro i x H' hx ⟨hle, e, hDD⟩
    obtain ⟨c, rfl, hci⟩ := map_at hx
    have hilt := (List.getElem?_eq_some_iff.mp hci).1
    walk_at "rd"
    refine ⟨rfl, ?_⟩
    walk_at "rd"
    refine e_isi ?_ (WT.i c) (kitI (by decide))
    refine ⟨_, hDD, ?_, by omega, e.upds hD, ?_⟩
    · rw [List.length_map, List.length_replicate]; show _ < 2 ^ 24; omega
    · rw [upd_same, List.replicate_succ', List.map_append]; rfl
  · rintro H' ⟨_, e, hDD⟩
    walk_at "rd"
    refine e_all ?_ (SqL.of hDD)
    have hat : (List.replicate (ns.map V.int).length true).all id = true := by simp
    rw [hat]
    walk_at "rd"
    refine e_sl ?_
    walk_at "rd"
    refine e_part ?_
    walk_at "rd"
    refine e_part' ?_
    refine e_noP ?_
    have hA' := e _ _ hA
    have fin : ∀ (t : Addr) (ms : List Int) (H2 : Hp), Ext H H2 → H2 t = some (.tup (ms.map V.int)) → ms ≠ [0] → tTup (tCons (tC (.int 0)) (tNil)) (start ["_law_thing", "_law_x"] [V.ref a]) H2 fun y H3 => rNeD K (.ref t) y H3 Q := by
      intro t ms H2 e2 ht hms
      walk_at "rd"
      refine ⟨by show 1 ≤ sizeLine; decide, fun z hz => ?_⟩
      refine e_neD (d := .tuple (ms.map PyData.int)) (e := .tuple ([0].map PyData.int)) ?_ (.tup (SqT.of ((Ext.new hz) _ _ ht)) (dpI ms)) (.tup (SqT.of upd_same) (dpI [0])) (shT _) (shT _)
      have : PyData.eqv (.tuple (ms.map PyData.int)) (.tuple ([0].map PyData.int)) = false := by
        rw [PyData.eqv, eqvI]; exact decide_eq_false hms
      rw [this]
      exact q _ (e2.tr (Ext.new hz))
    refine ⟨a, _, rfl, SqT.of hA', fun hw => ?_, fun hw p hp => ?_⟩
    · refine fin a ns H' e hA' (fun z => hlast (by rw [z]; rfl))
    · refine fin p (match ns.getLast? with | none => [] | some c => [c]) _ (e.tr (Ext.new hp)) ?_ ?_
      · rw [upd_same, cut_last]; cases ns.getLast? <;> rfl
      · cases hg : ns.getLast? with
        | none => intro z; cases z
        | some c => intro z; injection z with z _; rw [z] at hg; exact hlast hg
end FWL
namespace FWK
open PySem PySem.Spec PyProof.Rows L2 FW
/-! len(set(t)) of a tuple of tuples of ints, each once -/
section
variable {P : Program} {w : World} {A : Around} {E : Value → Shared → Prop} {s : Shared}
abbrev nsT (w : World) : Obj := { cls := .type "set", dict := none, data := .set #[] 0 (.fresh 0 0 (!w.params.followText "set-order")) }
theorem kz1 {a b : Nat} (h : a < b) : a ≠ b + 1 := by omega
theorem kz2 {a : Nat} : a ≠ a + 1 := by omega
theorem kz3 {a b : Nat} (h : a < b) : b ≠ a := by omega
theorem none_at {b : Addr} (hb : s.heap.objs.size ≤ b) : s.heap.get? b = none := by
  cases q : s.heap.get? b with
  | none => rfl
  | some o => exact absurd (Nat.lt_of_lt_of_le (Heap.lt_size q) hb) (Nat.lt_irrefl _)
theorem set_of_tups {l : Addr} {items : Array Value} (ks : List (Addr × List Int)) {Q : Value → Shared → Prop} (hh : A.handled = none) (hl : s.heap.IsTuple l items) (hit : items.toList = ks.map fun p => .ref p.1)
    (hk : ∀ p, p ∈ ks → IsT P w s.heap p.2 p.1) (few : ks.length < 64) (hu : A.units + 3 < cLine)
    (fin : ∀ (h' : Heap) (tk : Nat) L es ep t, SetTR P w h' s.heap.objs.size L es ep t → Got ks ks.length L → (∀ b o, s.heap.get? b = some o → h'.get? b = some o) → Q (.ref s.heap.objs.size) { s with heap := h', toks := tk }) :
    wpAny (model P w) A (call (.type "set") [.ref l]) Q E s := by
  have hsz : items.size = ks.length := by rw [← Array.length_toList, hit, List.length_map]
  obtain ⟨c0, tl, hmro⟩ := F.called_set.mro
  have hmade := F.called_set.made; have hsub := F.called_set.sub
  refine wpAny_call (codeAny_of_tree ?_); show wpAny _ _ (callAny (.type "set") _) _ _ _
  refine wpAny_pure ⟨Code.quiet_builtin _ (by decide +kernel), codeAny_builtin F.entry_type_call ?_⟩; rw [Around.under_plain (weight_type_call_type "set" [.ref l] []) rfl]
  have h1 := F.called_set.notType; have h2 := F.called_set.canCreate; have hct := F.typeCall_set_1 (.ref l)
  repeat (any_goals (first | wp_step | assumption))
  refine codeAny_mono (code_set_led1 (.ref l) (E := E) (Q₁ := fun obj s₁ => obj = .ref s.heap.objs.size ∧ s₁ = { s with heap := s.heap.push (nsT w) }) ⟨rfl, rfl⟩) fun r s₁ hr => ?_
  rcases r with e | fl
  · exact hr
  cases fl with
  | ret obj =>
    obtain ⟨rfl, rfl⟩ := hr
    have hS : (s.heap.push (nsT w)).get? s.heap.objs.size = some (nsT w) := Heap.get?_push_size _ rfl
    have hT : Shared.TypeIs { s with heap := s.heap.push (nsT w) } (.ref s.heap.objs.size) "set" := ⟨_, hS, rfl⟩
    have hli := F.called_set.init.lookup; have hbi := F.called_set.init.bind (.ref s.heap.objs.size)
    repeat (any_goals (first | wp_step | assumption))
    refine codeAny_mono (codeAny_call_builtin (R := wants (fun r s₂ => r = .none ∧ ∃ h' tk L es ep t, s₂ = { s with heap := h', toks := tk } ∧ SetTR P w h' s.heap.objs.size L es ep t ∧ Got ks ks.length L ∧ (∀ b o, s.heap.get? b = some o → h'.get? b = some o)) E) F.called_set.init.plain F.entry_set_init (check_set_init_1 hT ?_)) fun r₂ s₂ hr₂ => ?_
    · obtain ⟨⟨ocls, odict, odata, oslots⟩, hol, hcl, nl, hdl⟩ := hl
      simp only at hcl hdl; subst hcl; subst hdl
      have hol' : (s.heap.push (nsT w)).get? l = some { cls := .type "tuple", dict := odict, data := .seq items nl, slots := oslots } := Heap.get?_push_of_some _ hol
      have hsls := F.sub_tuple_set; have hslf := F.sub_tuple_frozenset
      have hne : (Value.type "tuple" == Value.type "dict") = false := rfl
      have hl1 : (s.heap.push (nsT w)).IsTuple l items := ⟨_, hol', rfl, nl, rfl⟩
      unfold Builtin.«set.__init__» noKeywords Builtin.Frozenset.updateFrom; generalize hPI : pyIter = PI
      wp_walk
      subst hPI
      refine wpAny_pyIter_tuple hl1 (wpAny_bind (wpAny_runValue ?_))
      have hlS : l < s.heap.objs.size := Heap.lt_size hol
      have hz1 : (s.heap.push (nsT w)).objs.size = s.heap.objs.size + 1 := Heap.size_push ..
      have hneI : l ≠ (s.heap.push (nsT w)).objs.size := by rw [hz1]; exact kz1 hlS
      have hSf : s.heap.objs.size ∉ [(s.heap.push (nsT w)).objs.size, l] := by
        rw [hz1]; intro z
        rcases List.mem_cons.mp z with z | z
        · exact kz2 z
        · exact kz3 hlS (List.mem_singleton.mp z)
      have hval : ∀ (i : Nat) (v : Value), items[i]? = some v → ∃ p, ks[i]? = some p ∧ v = .ref p.1 := fun i v hv => by
        rw [← Array.getElem?_toList, hit, List.getElem?_map] at hv
        cases hq : ks[i]? with
        | none => rw [hq] at hv; cases hv
        | some p => rw [hq] at hv; cases hv; exact ⟨p, rfl, rfl⟩
      refine set_update_tups ((Walks.tuple (show A.in1.in1.in1.handled = none by simp [hh]) _ l hneI items).toS) s.heap.objs.size hSf ks hsz few hval s.heap hk (none_at (Nat.le_refl _)) (fun b hb => none_at (by rw [List.mem_singleton.mp hb, hz1]; omega)) hu (items.size - 0) 0 _ (by omega) (Nat.zero_le _)
        ⟨⟨_, Heap.get?_push_size _ rfl, rfl, rfl⟩, (hl1.push _)⟩ (fun b o e => Heap.get?_push_of_some _ (Heap.get?_push_of_some _ e)) ⟨[], #[], 0, _, setTR_fresh (Heap.get?_push_of_some _ hS), Got.zero ks⟩ ?_
      intro s' L es ep t hm hS' g' hkp
      obtain ⟨h', g2, d', tk', os'⟩ := s'
      obtain rfl : g2 = s.gens := hm.gens
      obtain rfl : d' = s.drawn := hm.drawn
      obtain rfl : os' = s.os := hm.os
      show wpAny _ _ _ _ _ _
      refine wpAny_pure ?_; show wpAny _ _ (ret Value.none) _ _ _
      rw [hsz] at g'
      exact wpAny_pure ⟨rfl, h', tk', L, es, ep, t, rfl, hS', g', hkp⟩
    · rcases r₂ with e | fl₂
      · exact hr₂
      cases fl₂ with
      | ret r =>
        obtain ⟨rfl, h', tk, L, es, ep, t, rfl, hS', g', hk'⟩ := hr₂
        repeat (any_goals (first | wp_step | assumption))
        exact fin _ _ _ _ _ _ hS' g' hk'
      | _ => exact hr₂.elim
  | _ => exact hr.elim
end
theorem nodup_leT : ∀ {l L : List (List Int)}, l.Nodup → (∀ k, k ∈ l → k ∈ L) → l.length ≤ L.length
  | [], _, _, _ => Nat.zero_le _
  | a :: t, L, nd, h => by
    have ha := h a List.mem_cons_self
    have hn := List.nodup_cons.mp nd
    have ih := nodup_leT (l := t) (L := L.erase a) hn.2 (fun k hk => (List.mem_erase_of_ne (show k ≠ a from fun z => hn.1 (by rw [← z]; exact hk))).mpr (h k (List.mem_cons_of_mem _ hk)))
    rw [List.length_erase_of_mem ha] at ih
    have := List.length_pos_of_mem ha
    rw [List.length_cons]; omega
section
variable {X : Cx}
/-- len(set(t)) -/
def tLenSetT (K : PySem.W.Frag) (ta : TE) : TE := fun σ H Q => ta σ H fun x H1 => ∃ (l : Addr) (ks : List (Addr × List Int)), x = .ref l ∧ SqT K H1 l (ks.map fun p => V.ref p.1) ∧ (∀ p, p ∈ ks → SqT K H1 p.1 (p.2.map V.int)) ∧ ks.length < 64 ∧ (ks.map (·.2)).Nodup ∧ Q (.int ks.length) H1
theorem pe_lenSetT {a : Expr} {ta : TE} {p p2 q pos : Pos} (hc : X.calm = true) (hu : X.A.units + 64 < cLine) (hg : Gl X "len") (hm : X.mg "len" = none) (hg2 : Gl X "set") (hm2 : X.mg "set" = none) (ha : PE X a ta)
    (na : starEach [a] X.env = (false, eval a X.env) :: starEach [] X.env := by rfl) : PE X (.Call (.Name "len" p) [.Call (.Name "set" p2) [a] [] q] [] pos) (tLenSetT X.K ta) := by
  refine ⟨fun pins s σ H Q I h => Call_ (ld_blt I hg hm PySem.boot_len (callWith_builtin1 (args_cons (Call_ (ld_blt I hg2 hm2 boot_set (callWith_type1 (args_cons (thn (ha.run pins s σ H _ I h) fun v s1 ⟨x, H1, I1, r1, q1⟩ => args_nil ?_) na) na rfl))) rfl) rfl rfl))⟩
  obtain ⟨l, ks, rfl, hq, hk, few, nd, q1⟩ := q1
  cases r1
  obtain ⟨its, rv, pl, hz⟩ := I1.tuple hq
  refine set_of_tups (P := X.prog) (w := X.w) ks (I1.ok.hd hc) pl (by simpa using refs_of_vals rv) (fun p hp => I1.isT (hk p hp)) few (by omega) fun h' tk L es ep t R g k => args_nil ?_
  have I2 : Inv X pins σ H1 { s1 with heap := h', toks := tk } := I1.kept k
  obtain ⟨o, ho, hex, hd⟩ := R.ob
  have le1 := nodup_leT nd (L := L.map (·.2)) fun k hk => by
    obtain ⟨p, hp, rfl⟩ := List.mem_map.mp hk
    exact g.all p (by rw [List.take_length]; exact hp)
  rw [List.length_map, List.length_map] at le1
  have hn : es.size = ks.length := by rw [SetTR.size (s := { s1 with heap := h', toks := tk }) R]; exact Nat.le_antisymm g.len le1
  exact call_len_set ho hex hd (SetTR.fits (s := { s1 with heap := h', toks := tk }) R) (by rw [hn]; omega) ⟨.int ks.length, H1, I2.tok _, ⟨_, by rw [hn]⟩, q1⟩
end
end FWK
namespace FWL
open PySem PySem.Spec PyProof.Rows L2 FW
/-! ### the law's own window -/
def sp_l_window (K : PySem.W.Frag) : Sp := fun vs H Q _ => ∃ (t : Addr) (l : Lp), vs = [.ref t] ∧ H t = some (.tup l.V) ∧ l.Ok ∧ ∀ a H', Ext H H' → H' a = some (.tup ([l.low, l.top].map V.int)) → Q (.ref a) H'
def rd_l_window_L1 (K : PySem.W.Frag) : TS := tPar 8 9 (tCons (tVar 9) (tCons (tOp FW.rDiv (tOp FW.rAdd (tOp FW.rMul (tOp FW.rSub (tVar 2) (tOp FW.rMul (tVar 3) (tOp FW.rSub (tVar 1) (tC (.int 1))))) (tVar 9)) (tVar 4)) (tOp FW.rAdd (tVar 2) (tVar 3))) (tNil)))
def rd_l_window (K : PySem.W.Frag) : TS := tSeq (tAsg (tVar 0) (gTup K 7 (gCons (gName 1) (gCons (gName 2) (gCons (gName 3) (gCons (gName 4) (gCons (gName 5) (gCons (gName 6) (gCons (gName 7) (gNil)))))))))) (tSeq (tPar 8 9 (tCons (tC (.int 0)) (tCons (tOp FW.rDiv (tVar 4) (tOp FW.rAdd (tVar 2) (tVar 3))) (tNil)))) (tSeq (tWhile (tTest (tOp FW.rLt (tVar 9) (tVar 8))) (rd_l_window_L1 K)) (tRet (tTup (tCons (tVar 8) (tCons (tOp FW.rAdd (tC (.int 1)) (tOp FW.rDiv (tCB FW.rMax2 (tCons (tC (.int 0)) (tCons (tOp FW.rAdd (tVar 4) (tOp FW.rMul (tCall (sp_l_near K) [] E0 (tCons (tVar 0) (tNil))) (tOp FW.rAdd (tVar 2) (tVar 3)))) (tNil)))) (tOp FW.rMul (tVar 3) (tVar 1)))) (tNil)))))))
theorem ll_zero (l : Lp) : l.ll 0 = l.d / (l.a + l.c) := by unfold Lp.ll; rw [Int.mul_zero, Int.zero_add]
theorem pure_l_window (K : PySem.W.Frag) (vs : List V) (H : Hp) (Q : VK) (E : XK) (h : sp_l_window K vs H Q E) : rd_l_window K { nx := fun _ H' => Q .non H', rt := Q } (start ["_law_parts_here", "_law_k", "_law_a", "_law_c", "_law_d", "_law_stop", "_law_told", "_law_mend", "_law_low", "_law_lower"] vs) H := by
  obtain ⟨t, l, rfl, hT, o, q⟩ := h
  have nn := near_cases l
  have a1 := o.a1; have a5 := o.a5; have c1 := o.c1; have c3 := o.c3; have ac := o.ac; have d0 := o.d0; have d1 := o.d1; have hk := o.hk
  have s0 := o.sl0
  have ck : 0 < l.c * l.k ∧ l.c * l.k ≤ 12 := by rcases hk with h | h | h <;> rw [h] <;> omega
  unfold rd_l_window
  walk_at "rx"
  rotate_left
  · exact wide_div (b := 10) (by omega) (by show _ < 1024; omega) (by decide) (by decide)
  refine s_while (fun m σ H' => ∃ x : Int, m = (x + 6).toNat ∧ -6 ≤ x ∧ x ≤ 0 ∧ H' = H ∧ l.lowF (x + 7).toNat x = l.low ∧ σ = [some (.ref t), some (.int l.k), some (.int l.a), some (.int l.c), some (.int l.d), some (.str l.stop), some (.str l.told), some (.str l.mend), some (.int x), some (.int (l.ll x))]) 6 ⟨0, rfl, by decide, by decide, rfl, ?_, by rw [ll_zero]; rfl⟩ ?_
  · have := Lp.lowF_spec o 7 0 (by decide) (by decide) (by decide)
    exact (Lp.lowF_more 7 0 this.2.2 3).symm
  rintro m σ H' ⟨x, rfl, x1, x2, rfl, hx, rfl⟩
  walk_at "rx"
  refine e_ite (fun z => ?_) (fun z => ?_)
  · have := o.ll_low x1 x2
    refine ⟨fun σ' H'' => H'' = H' ∧ σ' = [some (.ref t), some (.int l.k), some (.int l.a), some (.int l.c), some (.int l.d), some (.str l.stop), some (.str l.told), some (.str l.mend), some (.int (l.ll x)), some (.int (l.ll (l.ll x)))], fun σ' H'' hh => ?_, ?_⟩
    · obtain ⟨rfl, rfl⟩ := hh
      refine ⟨(l.ll x + 6).toNat, by omega, l.ll x, rfl, this, by omega, rfl, ?_, rfl⟩
      have sp := Lp.lowF_spec o (l.ll x + 7).toNat (l.ll x) this (by omega) (by omega)
      have e1 := Lp.lowF_more _ _ sp.2.2 ((x + 6).toNat - (l.ll x + 7).toNat)
      rw [show (l.ll x + 7).toNat + ((x + 6).toNat - (l.ll x + 7).toNat) = (x + 6).toNat by omega] at e1
      rw [← e1, ← hx, show (x + 7).toNat = (x + 6).toNat + 1 by omega]
      show _ = if l.ll x < x then l.lowF (x + 6).toNat (l.ll x) else x
      rw [if_pos z]
    · have hsl : l.a - l.c * (l.k - 1) = l.sl := rfl
      unfold rd_l_window_L1
      walk_at "rx"
      · exact ⟨rfl, rfl⟩
      all_goals (first | exact wide_div (b := 10) (by omega) (by show _ < 1024; omega) (by decide) (by decide) | exact wide_mul (a := 10) (b := 10) (by show _ < 1024; omega) (by show _ < 1024; omega) (by decide) (by decide) (by decide))
  · have hx' : x = l.low := by
      rw [← hx, show (x + 7).toNat = (x + 6).toNat + 1 by omega]
      unfold Lp.lowF
      rw [if_neg z]
    subst hx'
    walk_at "rx"
    refine ⟨t, l, rfl, hT, fun H1 e1 => ?_⟩
    have e : (1 + (if l.d + l.near * (l.a + l.c) > 0 then l.d + l.near * (l.a + l.c) else 0) / (l.c * l.k)) = l.top := by
      unfold Lp.top
      congr 2
      split <;> omega
    walk_at "rx"
    · rw [e] at nh
      exact q nt nH (e1.tr ne) nh
    · exact wide_div (b := 10) ck.1 (by show _ < 1024; omega) (by decide) (by decide)
    · exact wide_mul (a := 10) (b := 10) (by show _ < 1024; omega) (by show _ < 1024; omega) (by decide) (by decide) (by decide)
    · exact wide_mul (a := 10) (b := 10) (by show _ < 1024; omega) (by show _ < 1024; omega) (by decide) (by decide) (by decide)
/-! ### a drawn root -/
def sp_l_root_drawn (K : PySem.W.Frag) : Sp := fun vs H Q _ => ∃ (p : Addr) (f : Int) (n : Nat), vs = [.ref p, .int f] ∧ Strm H p n ∧ n + 2 < 1000000 ∧
  ∀ r H', f ≤ r → r < f + 10 ^ 41 → ExtB p H H' → Strm H' p (n + 2) → Q (.int r) H'
def rd_l_root_drawn (K : PySem.W.Frag) : TS := tSeq (tAsg (tCall (sp_l_pick K) [] E0 (tCons (tVar 0) (tCons (tLst (tCons (tC (.int 1)) (tCons (tC (.int 2)) (tCons (tC (.int 50)) (tCons (tOp FW.rPow (tC (.int 10)) (tC (.int 9))) (tCons (tOp FW.rPow (tC (.int 10)) (tC (.int 40))) (tNil))))))) (tNil)))) (gName 2)) (tRet (tOp FW.rAdd (tVar 1) (tCall (sp_l_draw K) [] E0 (tCons (tVar 0) (tCons (tVar 2) (tNil))))))
theorem pure_l_root_drawn (K : PySem.W.Frag) (vs : List V) (H : Hp) (Q : VK) (E : XK) (h : sp_l_root_drawn K vs H Q E) : rd_l_root_drawn K { nx := fun _ H' => Q .non H', rt := Q } (start ["_law_stream_here", "_law_first", "_law_most"] vs) H := by
  obtain ⟨p, f, n, rfl, hS, hn, q⟩ := h
  unfold rd_l_root_drawn
  walk_at "rx"
  rotate_left
  · exact ⟨by decide, by decide, by decide⟩
  · exact ⟨by decide, by decide, by decide⟩
  refine ⟨p, nt, _, n, rfl, hS.ext ne, by omega, hS.ne nz, nh, (fun z => nomatch z), (by show (5 : Nat) < 1000; decide), fun v H1 hv e1 s1 => ?_⟩
  have hv : v = .int 1 ∨ v = .int 2 ∨ v = .int 50 ∨ v = .int (10 ^ 9) ∨ v = .int (10 ^ 40) := by simpa using hv
  obtain ⟨m, rfl, m1, m2⟩ : ∃ m : Int, v = .int m ∧ 0 < m ∧ m < 10 ^ 41 := by
    rcases hv with rfl | rfl | rfl | rfl | rfl <;> exact ⟨_, rfl, by decide, by decide⟩
  walk_at "rx"
  have hlog : m.natAbs.log2 < 9000 := by
    have h1 : m.natAbs < 2 ^ 200 := by
      have h2 : (10 : Int) ^ 41 < 2 ^ 200 := by decide
      have h3 : ((2 : Int) ^ 200) = ((2 ^ 200 : Nat) : Int) := by norm_cast
      omega
    have := (Nat.log2_lt (n := m.natAbs) (k := 200) (by omega)).mpr h1
    omega
  refine ⟨p, m, n + 1, rfl, s1, by omega, m1, hlog, fun d H2 d0 d1 e2 s2 => ?_⟩
  walk_at "rx"
  exact q _ _ (by omega) (by omega) (((ExtB.of ne).tr e1).tr e2) s2
/-! ### the form -/
theorem pair_true {zs ys : List V} (h : Paired (fun _ v => v = V.bl true) zs ys) : ys = (List.replicate zs.length true).map V.bl := by
  induction h with
  | nil => rfl
  | cons h t ih => rw [h, ih, List.length_cons, List.replicate_succ]; rfl
theorem all_rep (n : Nat) : (List.replicate n true).all id = true := by simp
theorem maps_len {l : Lp} {lo hi : Int} {cs : List (List Int)} {p : List Int} (h : p ∈ mapsP l lo hi cs) : p.length = (hi + 1 - lo).toNat := by
  unfold mapsP at h
  obtain ⟨t, _, rfl⟩ := List.mem_map.mp h
  unfold mapP
  rw [List.length_map, rgZ_len]
def sp_l_has_form (K : PySem.W.Frag) : Sp := fun vs H Q _ => ∃ (t : Addr) (l : Lp) (f : Int), vs = [.ref t] ∧ TabAt H t l f ∧ l.Ok ∧ ∀ H', Ext H H' → Q (.bl true) H'
def rd_l_has_form (K : PySem.W.Frag) : TS := tSeq (tIfS (tOr (tNot (tB (tCB (rIsi K) (tCons (tVar 0) (tCons (tC (.ty "tuple")) (tNil)))))) (tOr (tTest (tOp rNe (tCB (Evl.rLenS K) (tCons (tVar 0) (tNil))) (tC (.int 5)))) (tNot (tB (tCB (rAll K) (tCons (tLc (iTup K (tSl (rSlA K) (tVar 0) (tNoPart) (tPart (tC (.int 3))))) (gName 1) (tYes) (tCB (rIsi K) (tCons (tVar 1) (tCons (tC (.ty "int")) (tNil)))) [1]) (tNil))))))) (tRet (tC (.bl false))) (tNext)) (tSeq (tPar 2 3 (tCons (tOp (rIxT K) (tVar 0) (tC (.int 3))) (tCons (tOp (rIxT K) (tVar 0) (tC (.int 4))) (tNil)))) (tSeq (tIfS (tOr (tNot (tB (tCB (rIsi K) (tCons (tVar 2) (tCons (tC (.ty "tuple")) (tNil)))))) (tOr (tNot (tB (tCB (rIsi K) (tCons (tVar 3) (tCons (tC (.ty "tuple")) (tNil)))))) (tTest (tOp rNe (tCB (Evl.rLenS K) (tCons (tVar 3) (tNil))) (tOp FW.rAdd (tCB (Evl.rLenS K) (tCons (tVar 2) (tNil))) (tC (.int 1))))))) (tRet (tC (.bl false))) (tNext)) (tSeq (tIfS (tNot (tB (tCB (rAll K) (tCons (tLc (iTup K (tVar 3)) (gName 4) (tYes) (tAndV (tCB (rIsi K) (tCons (tVar 4) (tCons (tC (.ty "tuple")) (tNil)))) (tOp rEq (tCB (Evl.rLenS K) (tCons (tVar 4) (tNil))) (tOp FW.rAdd (tOp FW.rSub (tOp (rIxT K) (tVar 0) (tC (.int 2))) (tOp (rIxT K) (tVar 0) (tC (.int 1)))) (tC (.int 1))))) [4]) (tNil))))) (tRet (tC (.bl false))) (tNext)) (tRet (tCB (rAll K) (tCons (tLc (iTup K (tVar 2)) (gName 5) (tYes) (tAndV (tCB (rIsi K) (tCons (tVar 5) (tCons (tC (.ty "tuple")) (tNil)))) (tAndV (tOp (rNeD K) (tVar 5) (tTup (tNil))) (tOp rNe (tOp (rIxT K) (tVar 5) (tUn FW.rNeg (tC (.int 1)))) (tC (.int 0))))) [5]) (tNil)))))))
theorem pure_l_has_form (K : PySem.W.Frag) (vs : List V) (H : Hp) (Q : VK) (E : XK) (h : sp_l_has_form K vs H Q E) : rd_l_has_form K { nx := fun _ H' => Q .non H', rt := Q } (start ["_law_thing", "_law_x", "_law_cuts", "_law_maps", "_law_row", "_law_cut"] vs) H := by
  obtain ⟨t, l, f, rfl, hT, o, q⟩ := h
  obtain ⟨tc, tm, xs, ys, h1, h2, h3, h4, h5⟩ := hT.ex
  have lb := low3 o
  have lb0 := o.low0
  have tb := top_bound o
  have cl := cuts_len o l.low l.top
  have xl := h3.len
  have yl := h5.len
  have ml : (mapsP l l.low l.top (l.cuts l.low l.top)).length = (l.cuts l.low l.top).length + 1 := by unfold mapsP; rw [List.length_map, List.length_range]
  unfold rd_l_has_form
  walk_at "rx"
  refine e_isi ?_ (WT.tup h1) kitBt
  walk_at "rx"
  refine e_len ?_ (.inr (SqT.of h1))
  walk_at "rx"
  rw [if_neg (by simp)]
  walk_at "rx"
  refine e_sl ?_
  walk_at "rx"
  refine e_noP (e_part ?_)
  walk_at "rx"
  refine e_part' ?_
  refine ⟨t, _, rfl, SqT.of h1, fun hw => absurd (show (3 : Nat) = 5 from hw.2) (by decide), fun hw p hp => ?_⟩
  generalize hG : upd H p _ = G
  obtain ⟨eG, hGp⟩ := al_of hp hG
  clear hG
  have hGp : G p = some (.tup [.int f, .int l.low, .int l.top]) := hGp
  walk_at "rx"
  refine i_tup' _ ?_ (SqT.of hGp)
  refine lcTX (P := fun _ v => v = .bl true) (p := fun _ => true) (SqT.of hGp) (by show (3 : Nat) ≤ 1000000; decide) (fun v => rfl) (fun x hx H' R e k => yes_ext k) (fun x hx px H'' R' e' kk => ?_) fun D6 H6 zs hD6 e6 hy6 hp6 => ?_
  · obtain ⟨c, rfl⟩ : ∃ c : Int, x = .int c := by
      have hx : x = .int f ∨ x = .int l.low ∨ x = .int l.top := by simpa using hx
      rcases hx with rfl | rfl | rfl <;> exact ⟨_, rfl⟩
    walk_at "rx"
    refine e_isi ?_ (WT.i c) (kitI (by decide))
    exact kk _ _ Ext.rfl' rfl
  rw [filter_yes] at hp6
  rw [pair_true hp6] at hy6
  walk_at "rx"
  refine e_all ?_ (SqL.of hy6)
  rw [all_rep]
  have eA := eG.tr e6
  have h1' := eA _ _ h1
  have h2' := eA _ _ h2
  have h4' := eA _ _ h4
  walk_at "rx"
  refine e_isi ?_ (WT.tup h2') kitBt
  walk_at "rx"
  refine e_isi ?_ (WT.tup h4') kitBt
  walk_at "rx"
  refine e_len ?_ (.inr (SqT.of h4'))
  walk_at "rx"
  refine e_len ?_ (.inr (SqT.of h2'))
  walk_at "rx"
  rw [if_neg (by rw [yl, ml, xl]; simp)]
  walk_at "rx"
  refine i_tup' _ ?_ (SqT.of h4')
  have h5' := h5.ext eA
  refine lcTX (P := fun _ v => v = .bl true) (p := fun _ => true) (SqT.of h4') (by omega) (fun v => rfl) (fun x hx H' R e k => yes_ext k) (fun x hx px H'' R' e' kk => ?_) fun D7 H7 zs7 hD7 e7 hy7 hp7 => ?_
  · obtain ⟨c, rfl, hc⟩ := h5'.at.2 x hx
    have hcm : polyAt H6 (.ref c) ∈ mapsP l l.low l.top (l.cuts l.low l.top) := by rw [h5'.at.1]; exact List.mem_map_of_mem hx
    have hcl := maps_len hcm
    have hc' := e' _ _ hc
    have h1'' := e' _ _ h1'
    walk_at "rx"
    refine e_isi ?_ (WT.tup hc') kitBt
    walk_at "rx"
    refine e_len ?_ (.inr (SqT.of hc'))
    walk_at "rx"
    have e9 : ((List.map V.int (polyAt H6 (V.ref c))).length : Int) = l.top - l.low + 1 := by rw [List.length_map, hcl]; omega
    rw [decide_eq_true e9]
    exact kk _ _ Ext.rfl' rfl
  rw [filter_yes] at hp7
  rw [pair_true hp7] at hy7
  walk_at "rx"
  refine e_all ?_ (SqL.of hy7)
  rw [all_rep]
  have eB := eA.tr e7
  have h1'' := eB _ _ h1
  have h2'' := eB _ _ h2
  have h3'' := h3.ext eB
  walk_at "rx"
  refine i_tup' _ ?_ (SqT.of h2'')
  refine lcTX (P := fun _ v => v = .bl true) (p := fun _ => true) (SqT.of h2'') (by omega) (fun v => rfl) (fun x hx H' R e k => yes_ext k) (fun x hx px H'' R' e' kk => ?_) fun D8 H8 zs8 hD8 e8 hy8 hp8 => ?_
  · obtain ⟨c, rfl, hc⟩ := h3''.at.2 x hx
    have hcm : polyAt H7 (.ref c) ∈ l.cuts l.low l.top := by rw [h3''.at.1]; exact List.mem_map_of_mem hx
    obtain ⟨i, j, i1, i2, j1, j2, he⟩ := cut_form o hcm
    have hc' := e' _ _ hc
    rw [he] at hc'
    walk_at "rx"
    refine e_isi ?_ (WT.tup hc') kitBt
    walk_at "rx"
    have hk := o.hk
    have rn : restE l.k i j ≠ [] := fun z => by
      have := restE_len (i := i) (j := j) hk
      rw [z] at this
      have : 0 = l.k.toNat := this
      omega
    refine e_neD (d := .tuple ((restE l.k i j).map PyData.int)) (e := .tuple (([] : List Int).map PyData.int)) ?_ (.tup (SqT.of (ne _ _ hc')) (dpI _)) (.tup (SqT.of nh) (dpI [])) (shT _) (shT _)
    rw [show PyData.eqv (.tuple ((restE l.k i j).map PyData.int)) (.tuple (([] : List Int).map PyData.int)) = false by
      rw [PyData.eqv, eqvI]; exact decide_eq_false rn]
    walk_at "rx"
    obtain ⟨zs, hz⟩ := List.getLast?_eq_some_iff.mp (restE_last l.k i j)
    refine e_ixT ?_ (SqT.of (ne _ _ hc')) (v := .int j) (by rw [hz, List.map_append]; exact atI_last _ _)
    walk_at "rx"
    rw [show (!decide (j = 0)) = true by rw [decide_eq_false (by omega)]; rfl]
    exact kk _ _ ne rfl
  rw [filter_yes] at hp8
  rw [pair_true hp8] at hy8
  walk_at "rx"
  refine e_all ?_ (SqL.of hy8)
  rw [all_rep]
  walk_at "rx"
  exact q _ (eB.tr e8)
end FWL
namespace FWL
open PySem PySem.Spec PyProof.Rows L2 FW
/-! ### k11: the law -/
def rd_law_L1 (K : PySem.W.Frag) : TS := tSeq (tAsg (tOp FW.rAdd (tVar 12) (tCB FW.rMax2 (tCons (tVar 14) (tCons (tOp FW.rAdd (tVar 7) (tC (.int 1))) (tNil))))) (gName 15)) (tIfS (tTest (tOp FW.rGe (tCall (sp_l_led K) [] E0 (tCons (tVar 3) (tCons (tVar 13) (tCons (tVar 15) (tNil))))) (tOp FW.rSub (tVar 15) (tCall (sp_l_near K) [] E0 (tCons (tVar 3) (tNil)))))) (tRet (tC (.bl false))) (tNext))
def rd_law_L2 (K : PySem.W.Frag) : TS := tSeq (tAsg (tCall (sp_l_root_drawn K) [] E0 (tCons (tVar 2) (tCons (tVar 5) (tNil)))) (gName 12)) (tSeq (tAsg (tOp FW.rSub (tCall (sp_l_power K) [] E0 (tCons (tOp FW.rAdd (tVar 12) (tC (.int 1))) (tCons (tOp (rIxT K) (tVar 3) (tC (.int 0))) (tNil)))) (tC (.int 1))) (gName 13)) (tFor (iList K (tLst (tCons (tOp FW.rAdd (tVar 7) (tC (.int 1))) (tCons (tOp FW.rAdd (tVar 7) (tC (.int 2))) (tCons (tOp FW.rAdd (tOp FW.rAdd (tVar 7) (tC (.int 3))) (tCall (sp_l_draw K) [] E0 (tCons (tVar 2) (tCons (tC (.int 40)) (tNil))))) (tCons (tVar 12) (tNil))))))) (gName 14) (rd_law_L1 K)))
theorem Pls.pairs {H : Hp} : ∀ {xs : List V} {ps : List (List Int)}, Pls H xs ps → ∃ ks : List (Addr × List Int), xs = ks.map (fun p => V.ref p.1) ∧ ps = ks.map (·.2) ∧ ∀ p, p ∈ ks → H p.1 = some (.tup (p.2.map V.int))
  | [], [], .nil => ⟨[], rfl, rfl, fun p h => nomatch h⟩
  | _ :: _, p :: _, .cons h t => by
    obtain ⟨a, rfl, ha⟩ := h
    obtain ⟨ks, h1, h2, h3⟩ := Pls.pairs t
    refine ⟨(a, p) :: ks, by rw [h1]; rfl, by rw [h2]; rfl, fun q hq => ?_⟩
    rcases List.mem_cons.mp hq with rfl | hq
    · exact ha
    · exact h3 q hq
theorem Strm.extN {H H' : Hp} {p : Addr} {n : Nat} (h : Strm H p n) (e : LamX.ExtN H H') : Strm H' p n := by
  obtain ⟨a, b, c, h1, h2⟩ := h
  exact ⟨a, b, c, nx_lst e h1, h2⟩
theorem int_lt_nat {x : Int} {b : Nat} (h0 : 0 ≤ x) (h : x < (2 : Int) ^ b) : x.natAbs < 2 ^ b := by
  have : ((2 : Int) ^ b) = ((2 ^ b : Nat) : Int) := by norm_cast
  omega
theorem root_sz {r f : Int} (h0 : 0 ≤ r) (hf : f ≤ 300) (h : r < f + 10 ^ 41) : r < 2 ^ 140 := by
  have : (10 : Int) ^ 41 + 300 < 2 ^ 140 := by decide
  omega
theorem n_sz {r : Int} {k : Nat} (h0 : 0 ≤ r) (h : r < 2 ^ 140) (hk : k ≤ 4) : 0 ≤ (r + 1) ^ k - 1 ∧ ((r + 1) ^ k - 1).natAbs < 2 ^ 2000 := by
  have h1 : 0 < (r + 1) ^ k := Int.pow_pos (by omega)
  have h2 : (r + 1) ^ k ≤ (2 ^ 140) ^ k := pow_mono (by omega) (by omega) k
  have h3 : ((2 : Int) ^ 140) ^ k ≤ 2 ^ 560 := by
    rcases (by omega : k = 0 ∨ k = 1 ∨ k = 2 ∨ k = 3 ∨ k = 4) with rfl | rfl | rfl | rfl | rfl <;> decide
  refine ⟨by omega, Nat.lt_of_lt_of_le (int_lt_nat (b := 560) (by omega) (by omega)) (Nat.pow_le_pow_right (by decide) (by decide))⟩
theorem law_L2 {K : PySem.W.Frag} {H : Hp} {D : Ends} {v0 v1 v4 v8 v9 v10 v11 v12 v13 v14 v15 : Option V} {p t : Addr} {l : Lp} {f : Int} {m : Nat} (o : l.Ok) (hT : H t = some (.tup l.V)) (hF : FirstP l l.low l.top f) (s : Strm H p m) (hm : m < 10000)
    (k : ∀ H', ExtB p H H' → Strm H' p (m + 3) → ∀ w12 w13 w14 w15 : Option V, D.nx [v0, v1, some (.ref p), some (.ref t), v4, some (.int f), some (.int l.low), some (.int l.top), v8, v9, v10, v11, w12, w13, w14, w15] H') :
    rd_law_L2 K D [v0, v1, some (.ref p), some (.ref t), v4, some (.int f), some (.int l.low), some (.int l.top), v8, v9, v10, v11, v12, v13, v14, v15] H := by
  have hk := o.hk
  have lb := o.low0
  have tb := top_bound o
  have nn := near_cases l
  have f1 := hF.1
  have f3 := hF.le o
  unfold rd_law_L2
  walk_at "rx"
  refine ⟨p, f, m, rfl, s, by omega, fun r H1 r0 r1 e1 s1 => ?_⟩
  have hT1 := e1 _ _ (s.neT hT) hT
  have rs := root_sz (by omega) f3 r1
  have hn := n_sz (k := l.k.toNat) (by omega) rs (by omega)
  walk_at "rx"
  refine ⟨r + 1, l.k, 141, rfl, by omega, int_lt_nat (by omega) (Int.lt_of_le_of_lt (by omega : r + 1 ≤ 2 ^ 140) (by decide)), by decide, by omega, ?_⟩
  walk_at "rx"
  refine ⟨p, 40, m + 2, rfl, s1, by omega, by decide, by decide, fun d H2 d0 d1 e2 s2 => ?_⟩
  have hT2 := e2 _ _ (s1.neT hT1) hT1
  walk_at "rx"
  refine i_list' _ ?_ (SqL.of nh)
  have hT3 := ne _ _ hT2
  have s3 := s2.ext ne
  refine for_list (K := K) (a := nt) (xs := [V.int (l.top + 1), V.int (l.top + 2), V.int (l.top + 3 + d), V.int r]) (fun n σ H' => Ext nH H' ∧ ∃ u w : Option V, σ = [v0, v1, some (.ref p), some (.ref t), v4, some (.int f), some (.int l.low), some (.int l.top), v8, v9, v10, v11, some (.int r), some (.int ((r + 1) ^ l.k.toNat - 1)), u, w])
    ⟨Ext.rfl', _, _, rfl⟩ (fun n σ H' _ h => SqL.of (h.1 _ _ nh)) ?_ ?_
  · rintro n x σ H' hx ⟨e, u, w, rfl⟩
    obtain ⟨i, rfl, i1⟩ : ∃ i : Int, x = .int i ∧ i < 2 ^ 141 := by
      have hx := List.mem_of_getElem? hx
      have hx : x = .int (l.top + 1) ∨ x = .int (l.top + 2) ∨ x = .int (l.top + 3 + d) ∨ x = .int r := by simpa using hx
      have : (1000 : Int) < 2 ^ 141 := by decide
      have : (2 : Int) ^ 140 < 2 ^ 141 := by decide
      rcases hx with rfl | rfl | rfl | rfl <;> exact ⟨_, rfl, by omega⟩
    refine g_name ?_
    unfold rd_law_L1
    walk_at "rx"
    generalize hw : (if l.top + 1 > i then l.top + 1 else i) = mx
    have mx1 : l.top + 1 ≤ mx := by rw [← hw]; split <;> omega
    have mx2 : mx < 2 ^ 141 := by
      have : (1000 : Int) < 2 ^ 141 := by decide
      rw [← hw]; split <;> omega
    have hT4 := e _ _ hT3
    have x2 : r + mx < 2 ^ 142 := by
      have : (2 : Int) ^ 140 + 2 ^ 141 ≤ 2 ^ 142 := by decide
      omega
    refine ⟨t, l, _, r + mx, rfl, hT4, o, by omega, hn.1, hn.2, Nat.lt_of_lt_of_le (int_lt_nat (b := 142) (by omega) x2) (Nat.pow_le_pow_right (by decide) (by decide)), ?_⟩
    walk_at "rx"
    refine ⟨t, l, rfl, hT4, fun H5 e5 => ?_⟩
    have hf := first_fall o hF r0 (x := r + mx) (by omega)
    walk_at "rx"
    refine e_ite (fun z => ?_) (fun z => ?_)
    · omega
    · walk_at "rx"
      exact ⟨e.tr e5, _, _, rfl⟩
  · rintro σ H' ⟨e, u, w, rfl⟩
    exact k _ (((e1.tr e2).tr (ExtB.of ne)).tr (ExtB.of e)) (s3.ext e) _ _ _ _
end FWL
namespace FWL
open PySem PySem.Spec PyProof.Rows L2 FW
theorem maps_at {l : Lp} {lo hi : Int} {cs : List (List Int)} {n : Nat} (h : n ≤ cs.length) : (mapsP l lo hi cs)[n]? = some (mapP l lo hi (cs.take n)) := by
  unfold mapsP
  rw [List.getElem?_map, List.getElem?_range (by omega)]; rfl
def rd_law_L3 (K : PySem.W.Frag) : TS := tSeq (tAsg (tCall (sp_l_stream K) [] E0 (tCons (tVar 0) (tCons (tVar 1) (tNil)))) (gName 2)) (tSeq (tAsg (tCall (sp_l_parts K) [] E0 (tCons (tVar 2) (tNil))) (gName 3)) (tSeq (tAsg (tCall (sp_table K) [] E0 (tCons (tCall (sp_l_loop K) [] E0 (tCons (tVar 3) (tNil))) (tNil))) (gName 4)) (tSeq (tIfS (tOr (tNot (tB (tCall (sp_l_has_form K) [] E0 (tCons (tVar 4) (tNil))))) (tTest (tOp (rNeD K) (tSl (rSlA K) (tVar 4) (tPart (tC (.int 1))) (tPart (tC (.int 3)))) (tCall (sp_l_window K) [] E0 (tCons (tVar 3) (tNil)))))) (tRet (tC (.bl false))) (tNext)) (tSeq (tAsg (tVar 4) (gTup K 5 (gCons (gName 5) (gCons (gName 6) (gCons (gName 7) (gCons (gName 8) (gCons (gName 9) (gNil)))))))) (tSeq (tIfS (tOr (tNot (tTest (tChain FW.rLe FW.rLe (tOp FW.rSub (tC (.int 1)) (tVar 6)) (tVar 5) (tC (.int 300))))) (tTest (tOp rNe (FWK.tLenSetT K (tVar 8)) (tCB (Evl.rLenS K) (tCons (tVar 8) (tNil)))))) (tRet (tC (.bl false))) (tNext)) (tSeq (tIfS (tTest (tOp (rNeD K) (tLc (iRng1 (tCons (tCB (Evl.rLenS K) (tCons (tVar 8) (tNil))) (tNil))) (gName 10) (tTest (tOp (rEqD K) (tOp (rIxT K) (tVar 9) (tVar 10)) (tOp (rIxT K) (tVar 9) (tOp FW.rAdd (tVar 10) (tC (.int 1)))))) (tVar 10) [10]) (tLst (tNil)))) (tRet (tC (.bl false))) (tNext)) (tFor (iRng1 (tCons (tC (.int 6)) (tNil))) (gName 11) (rd_law_L2 K))))))))
def rd_law (K : PySem.W.Frag) : TS := tSeq (tFor (iRng1 (tCons (tC (.int 5)) (tNil))) (gName 1) (rd_law_L3 K)) (tRet (tC (.bl true)))
theorem law_tail {K : PySem.W.Frag} {H6 : Hp} {D : Ends} {v0 v1 vT v10 v11 v12 v13 v14 v15 : Option V} {p t tc tm : Addr} {l : Lp} {f : Int} {xs ys : List V} (o : l.Ok) (hF : FirstP l l.low l.top f)
    (h2' : H6 tc = some (.tup xs)) (h3' : Pls H6 xs (l.cuts l.low l.top)) (h4' : H6 tm = some (.tup ys)) (h5' : Pls H6 ys (mapsP l l.low l.top (l.cuts l.low l.top))) (hT6 : H6 t = some (.tup l.V)) (s6 : Strm H6 p 7)
    (k : ∀ H' H'', Ext H6 H' → ExtB p H' H'' → Strm H' p 7 → ∀ w11 w12 w13 w14 w15 : Option V, D.nx [v0, v1, some (.ref p), some (.ref t), vT, some (.int f), some (.int l.low), some (.int l.top), some (.ref tc), some (.ref tm), v10, w11, w12, w13, w14, w15] H'') :
    (tSeq (tIfS (tOr (tNot (tTest (tChain FW.rLe FW.rLe (tOp FW.rSub (tC (.int 1)) (tVar 6)) (tVar 5) (tC (.int 300))))) (tTest (tOp rNe (FWK.tLenSetT K (tVar 8)) (tCB (Evl.rLenS K) (tCons (tVar 8) (tNil)))))) (tRet (tC (.bl false))) (tNext)) (tSeq (tIfS (tTest (tOp (rNeD K) (tLc (iRng1 (tCons (tCB (Evl.rLenS K) (tCons (tVar 8) (tNil))) (tNil))) (gName 10) (tTest (tOp (rEqD K) (tOp (rIxT K) (tVar 9) (tVar 10)) (tOp (rIxT K) (tVar 9) (tOp FW.rAdd (tVar 10) (tC (.int 1)))))) (tVar 10) [10]) (tLst (tNil)))) (tRet (tC (.bl false))) (tNext)) (tFor (iRng1 (tCons (tC (.int 6)) (tNil))) (gName 11) (rd_law_L2 K)))) D [v0, v1, some (.ref p), some (.ref t), vT, some (.int f), some (.int l.low), some (.int l.top), some (.ref tc), some (.ref tm), v10, v11, v12, v13, v14, v15] H6 := by
  have lb := low3 o
  have lb0 := o.low0
  have tb := top_bound o
  have th := top_hi o
  have hh : hiOf l.k ≤ 10 := by unfold hiOf; split <;> (try split) <;> decide
  have cl := cuts_len o l.low l.top
  have xl := h3'.len
  have yl := h5'.len
  have ml : (mapsP l l.low l.top (l.cuts l.low l.top)).length = (l.cuts l.low l.top).length + 1 := by unfold mapsP; rw [List.length_map, List.length_range]
  have f1 := hF.1
  have f3 := hF.le o
  obtain ⟨ks, hk1, hk2, hk3⟩ := h3'.pairs
  have kl : ks.length = xs.length := by rw [hk1, List.length_map]
  walk_at "rx"
  rw [if_pos (decide_eq_true f1)]
  walk_at "rx"
  rw [if_neg (by rw [decide_eq_true f3]; decide)]
  walk_at "rx"
  refine ⟨_, rfl, tc, ks, rfl, SqT.of (by rw [← hk1]; exact h2'), fun p hp => SqT.of (hk3 p hp), by omega, by rw [← hk2]; exact cuts_nodup o _ _, ?_⟩
  walk_at "rx"
  refine e_len ?_ (.inr (SqT.of h2'))
  walk_at "rx"
  rw [if_neg (by rw [kl]; simp)]
  walk_at "rx"
  refine e_len ?_ (.inr (SqT.of h2'))
  walk_at "rx"
  rotate_left
  · constructor <;> omega
  intro D0 hD
  refine lc_range (fun n H' => Ext H6 H' ∧ H' D0 = some (.lst [])) ⟨Ext.new hD, upd_same⟩ ?_ ?_
  · rintro n H' hn ⟨e, hd⟩
    have hn' : n < (l.cuts l.low l.top).length := by omega
    refine g_name ⟨rfl, ?_⟩
    obtain ⟨aa, ga, ha⟩ := (h5'.ext e).get (maps_at (l := l) (lo := l.low) (hi := l.top) (cs := l.cuts l.low l.top) (n := n) (by omega))
    obtain ⟨ab, gb, hb⟩ := (h5'.ext e).get (maps_at (l := l) (lo := l.low) (hi := l.top) (cs := l.cuts l.low l.top) (n := n + 1) (by omega))
    have h4e := e _ _ h4'
    walk_at "re"
    refine e_ixT ?_ (SqT.of h4e) (atI_of ga (by omega))
    walk_at "re"
    refine e_ixT ?_ (SqT.of h4e) (atI_of gb (by omega))
    refine e_eqD (d := .tuple ((mapP l l.low l.top ((l.cuts l.low l.top).take n)).map PyData.int)) (e := .tuple ((mapP l l.low l.top ((l.cuts l.low l.top).take (n + 1))).map PyData.int)) ?_ (.tup (SqT.of ha) (dpI _)) (.tup (SqT.of hb) (dpI _)) (shT _) (shT _)
    rw [show PyData.eqv (.tuple ((mapP l l.low l.top ((l.cuts l.low l.top).take n)).map PyData.int)) (.tuple ((mapP l l.low l.top ((l.cuts l.low l.top).take (n + 1))).map PyData.int)) = false by
      rw [PyData.eqv, eqvI]; exact decide_eq_false (maps_ne o hn')]
    walk_at "re"
    exact ⟨e, hd⟩
  · rintro H' ⟨e, hd⟩
    walk_at "rx"
    refine e_neD (d := .list []) (e := .list []) ?_ (.lst (SqL.of (ne _ _ hd)) .nil) (.lst (SqL.of nh) .nil) rfl rfl
    rw [show (!PyData.eqv (.list []) (.list [])) = false by kernel_rfl]
    have e9 := e.tr ne
    have hT9 := e9 _ _ hT6
    have s9 := s6.ext e9
    walk_at "rx"
    rotate_left
    · decide
    refine for_range (lo := 0) (n := 6) (fun i σ H' => ExtB p nH H' ∧ Strm H' p (7 + 3 * i) ∧ ∃ u w x y z : Option V, σ = [v0, v1, some (.ref p), some (.ref t), vT, some (.int f), some (.int l.low), some (.int l.top), some (.ref tc), some (.ref tm), v10, u, w, x, y, z]) ⟨fun _ _ _ q => q, s9, v11, v12, v13, v14, v15, rfl⟩ ?_ ?_
    · rintro i σ H' hi ⟨e, s, u, w, x, y, z, rfl⟩
      refine g_name ?_
      refine law_L2 (m := 7 + 3 * i) o (e _ _ (s9.neT hT9) hT9) hF s (by omega) fun H'' e' s' w12 w13 w14 w15 => ?_
      exact ⟨e.tr e', s', _, _, _, _, _, rfl⟩
    · rintro σ H' ⟨e, s, u, w, x, y, z, rfl⟩
      exact k nH H' e9 e s9 u w x y z
end FWL
namespace FWL
open PySem PySem.Spec PyProof.Rows L2 FW
theorem tabs_extB {T : List (Addr × Str)} {H G : Hp} {p : Addr} {n : Nat} (t : LamX.Tabs T H) (s : Strm H p n) (e : ExtB p H G) : LamX.Tabs T G := fun q hq => by
  obtain ⟨a, b, c, hp, _⟩ := s
  obtain ⟨ps, h1, h2, h3⟩ := t q hq
  refine ⟨ps, e _ _ (ne_of h1 hp (fun z => nomatch z)) h1, h2, fun pos cv hc => ?_⟩
  obtain ⟨d, e1, e2⟩ := h3 pos cv hc
  exact ⟨d, e1, e _ _ (ne_of e2 hp (fun z => nomatch z)) e2⟩
theorem law_L3 {K : PySem.W.Frag} {H : Hp} {D : Ends} {a : Addr} {ns : List Int} {tt : Int} {ws : List (Option V)} (hl : ws.length = 14) (ht0 : 0 ≤ tt) (ht1 : tt < 10) (hA : SqL K H a (ns.map V.int)) (hT : LamX.Tabs (tabs K) H)
    (k : ∀ H', LamX.ExtN H H' → LamX.Tabs (tabs K) H' → ∀ ws' : List (Option V), ws'.length = 14 → D.nx (some (.ref a) :: some (.int tt) :: ws') H') : rd_law_L3 K D (some (.ref a) :: some (.int tt) :: ws) H := by
  match ws, hl with
  | [v2, v3, v4, v5, v6, v7, v8, v9, v10, v11, v12, v13, v14, v15], _ =>
  unfold rd_law_L3
  generalize hTL : (tSeq (tIfS (tOr (tNot (tTest (tChain FW.rLe FW.rLe (tOp FW.rSub (tC (.int 1)) (tVar 6)) (tVar 5) (tC (.int 300))))) (tTest (tOp rNe (FWK.tLenSetT K (tVar 8)) (tCB (Evl.rLenS K) (tCons (tVar 8) (tNil)))))) (tRet (tC (.bl false))) (tNext)) (tSeq (tIfS (tTest (tOp (rNeD K) (tLc (iRng1 (tCons (tCB (Evl.rLenS K) (tCons (tVar 8) (tNil))) (tNil))) (gName 10) (tTest (tOp (rEqD K) (tOp (rIxT K) (tVar 9) (tVar 10)) (tOp (rIxT K) (tVar 9) (tOp FW.rAdd (tVar 10) (tC (.int 1)))))) (tVar 10) [10]) (tLst (tNil)))) (tRet (tC (.bl false))) (tNext)) (tFor (iRng1 (tCons (tC (.int 6)) (tNil))) (gName 11) (rd_law_L2 K)))) = TL
  walk_at "rx"
  refine ⟨a, ns, tt, rfl, hA, ht0, by omega, fun p H1 hp e1 s1 => ?_⟩
  walk_at "rx"
  refine ⟨p, 0, rfl, s1, by decide, fun t l H2 o ht e2 s2 hT2 => ?_⟩
  walk_at "rx"
  refine ⟨t, l, rfl, hT2, o, fun lp H3 hlp e3 hL3 => ?_⟩
  have s3 := s2.ext e3
  have hT3 := e3 _ _ hT2
  have eB3 : ExtB p H1 H3 := e2.tr (ExtB.of e3)
  have eH3 : Ext H H3 := fun b o hb => eB3 b o (ne_of_none hb hp) (e1 b o hb)
  refine ⟨lp, l, rfl, hL3, o, hT.ext eH3, fun T f H4 e4 T4 hF fs hTab => ?_⟩
  have s4 := s3.extN e4
  have hT4 := nx_tup e4 hT3
  walk_at "rx"
  refine ⟨T, l, f, rfl, hTab, o, fun H5 e5 => ?_⟩
  have hTab5 := hTab.ext e5
  have hT5 := e5 _ _ hT4
  have s5 := s4.ext e5
  have T5 := T4.ext e5
  obtain ⟨tc, tm, xs, ys, h1, h2, h3, h4, h5⟩ := hTab5.ex
  walk_at "rx"
  refine e_sl ?_
  walk_at "rx"
  refine e_part ?_
  walk_at "rx"
  refine e_part' ?_
  refine e_part ?_
  walk_at "rx"
  refine e_part' ?_
  refine ⟨T, _, rfl, SqT.of h1, fun hw => absurd (show (3 : Nat) = 5 from hw.2) (by decide), fun hw b hb => ?_⟩
  generalize hG : upd H5 b _ = G
  obtain ⟨eG, hGb⟩ := al_of hb hG
  clear hG
  have hGb : G b = some (.tup ([l.low, l.top].map V.int)) := hGb
  walk_at "rx"
  refine ⟨t, l, rfl, eG _ _ hT5, o, fun wa H6 e6 hw6 => ?_⟩
  refine e_neD (d := .tuple ([l.low, l.top].map PyData.int)) (e := .tuple ([l.low, l.top].map PyData.int)) ?_ (.tup (SqT.of (e6 _ _ hGb)) (dpI _)) (.tup (SqT.of hw6) (dpI _)) (shT _) (shT _)
  rw [show PyData.eqv (.tuple ([l.low, l.top].map PyData.int)) (.tuple ([l.low, l.top].map PyData.int)) = true by
    rw [PyData.eqv, eqvI]; exact decide_eq_true rfl]
  have e56 := eG.tr e6
  have h1' := e56 _ _ h1
  have h2' := e56 _ _ h2
  have h4' := e56 _ _ h4
  have h3' := h3.ext e56
  have h5' := h5.ext e56
  have hT6 := e56 _ _ hT5
  have s6 := s5.ext e56
  have T6 := T5.ext e56
  walk_at "rx"
  subst hTL
  refine law_tail o hF h2' h3' h4' h5' hT6 s6 fun H7 H8 e7 e8 s7 w11 w12 w13 w14 w15 => ?_
  have e57 := (e5.tr e56).tr e7
  refine k H8 (fun b u hb nt => e8 b u (ne_of_none hb hp) (e57 b u (e4 b u (eH3 b u hb) nt))) (tabs_extB (T4.ext e57) s7 e8) _ rfl
def sp_law (K : PySem.W.Frag) : Sp := fun vs H Q _ => ∃ (a : Addr) (ns : List Int), vs = [.ref a] ∧ LamX.Tabs (tabs K) H ∧ SqL K H a (ns.map V.int) ∧ ∀ H', Q (.bl true) H'
theorem pure_law (K : PySem.W.Frag) (vs : List V) (H : Hp) (Q : VK) (E : XK) (h : sp_law K vs H Q E) : rd_law K { nx := fun _ H' => Q .non H', rt := Q } (start ["_law_script", "_law_turn", "_law_stream_here", "_law_parts_here", "_law_found", "_law_first", "_law_low", "_law_high", "_law_cuts", "_law_maps", "_law_t", "_law_k", "_law_r", "_law_n", "_law_i", "_law_x"] vs) H := by
  obtain ⟨a, ns, rfl, hT, hA, q⟩ := h
  unfold rd_law
  walk_at "rx"
  · refine for_range (lo := 0) (n := 5) (fun i σ H' => LamX.ExtN H H' ∧ LamX.Tabs (tabs K) H' ∧ ∃ (u : Option V) (ws : List (Option V)), ws.length = 14 ∧ σ = some (.ref a) :: u :: ws) ⟨LamX.ExtN.refl H, hT, none, _, rfl, rfl⟩ ?_ ?_
    · rintro i σ H' hi ⟨e, hT', u, ws, hl, rfl⟩
      walk_at "re"
      refine law_L3 (tt := 0 + (i : Int)) hl (by omega) (by omega) (extN_sqL e hA) hT' ?_
      intro H'' e'' T'' ws' hl'
      exact ⟨e.trans e'', T'', _, _, hl', rfl⟩
    · rintro σ H' ⟨e, hT', u, ws, hl, rfl⟩
      walk_at "rx"
      exact q _
  · decide
end FWL
/-! sorted(xs, key=lambda x: e) where x is a name of the def's own as well -/
namespace FWK
open PySem PySem.Spec PySem.W PySem.Calls PyProof.Rows L2 FW LamX FWP
section
variable {X : Cx} {pins : List (Addr × Obj)} {σ : L2.St} {H HJ : Hp} {s : Shared}
/-- f(x), f the lambda, while a built-in runs -/
theorem startM {i0 : Nat} {A : Around} {outer : List Env} {scope : Scope} {x : Str} {f c' : Addr} {v : V} {u : Value} {h2 : Heap} {tk : Nat} (I : Inv X pins σ H s) (L : LamP X.env.scope scope x) (hx : ∀ n, X.N[n]? = some x → n = i0) (e0 : Env0 X.prog X.w X.K X.mg X.base A outer s1 HZ) (hd : A.handled = none)
    (un : Un (frs X.stack) [] H HZ s.heap s1.heap) (hns : h2.Ns s1.heap.objs.size fun y => ([(x, u)] : List (Str × Value)).reverse.lookup y) (rv : RelV v u) (kp : ∀ b o, s1.heap.get? b = some o → h2.get? b = some o) :
    Inv (cxP X A outer s1 HZ scope x f c') [] (σ.set i0 none ++ [some v]) HZ { s1 with heap := h2, toks := tk } := by
  have clo : ∀ {y c}, (cloFrom X.env.cells scope.names []).lookup y = some c → X.env.cells.lookup y = some c := fun {y c} e => by
    rcases cloFrom_mem (PySem.mem_of_lookup e) with z | ⟨z1, z2⟩
    · cases z
    · obtain ⟨c1, hc⟩ := L.cells I.ok _ z1 rfl
      have hc' : X.env.cells.lookup y = some c1 := hc
      have : c = c1 := by rw [z2, hc'] <;> rfl
      rw [this]; exact hc'
  have has : ∀ {y}, scope.names.lookup y = some .free → ∃ c, (cloFrom X.env.cells scope.names []).lookup y = some c := fun {y} hl =>
    mem_lookup (cloFrom_has (cells := X.env.cells) (acc := []) (show (y, NameKind.free) ∈ scope.names from PySem.mem_of_lookup hl))
  have cellK : ∀ {c : Addr} {v : Option Value}, H c = none → s.heap.IsCell c v → h2.IsCell c v := fun {c v} n ⟨o, ho, hd⟩ => by
    obtain ⟨sl, z⟩ := un.any ho n (by simp)
    exact ⟨_, kp _ _ z, hd⟩
  have noA : ∀ b : Addr, b ∉ (cxP X A outer s1 HZ scope x f c').ex := fun b z => absurd (show b ∈ ([] : List Addr) from z) (by simp)
  constructor
  · exact ⟨e0.mod, L.fk, rfl, rfl, Nat.le_refl _, fun y z c e1 e2 => I.ok.inj y z c (clo e1) (clo e2), (fun y hy => (show scope.names.lookup y = some .cell ∨ scope.names.lookup y = some .free from hy).elim (fun z => absurd rfl (L.nocell _ (PySem.mem_of_lookup z))) has), fun y c z _ => (nomatch (show false = true from z)), fun _ => hd, Around.frames_deeper e0.frames, .inr ⟨rfl, rfl⟩, fun b z => absurd z (noA b), e0.bs, e0.bsz, fun b _ _ => noA b, fun b z => absurd z (noA b), e0.funs, e0.frf⟩
  · rfl
  · exact e0.bare
  · exact Un.kept kp
  · refine ⟨_, hns, fun i y w h1 h2 h3 => ?_⟩
    have h1 : (X.N ++ [x])[i]? = some y := h1
    have h3 : Vis scope y := h3
    have hlen := I.len
    rcases Nat.lt_or_ge i X.N.length with hi | hi
    · rw [List.getElem?_append_left hi] at h1
      rw [List.getElem?_append_left (by rw [List.length_set]; omega)] at h2
      have hne : i ≠ i0 := fun z => by
        rw [z, List.getElem?_set_self' ] at h2
        cases q : σ[i0]? <;> rw [q] at h2 <;> cases h2
      rw [List.getElem?_set_ne (fun z => hne z.symm)] at h2
      rcases h3 with z | z | z
      · have : y = x := L.own _ (PySem.mem_of_lookup z) rfl
        rw [this] at h1
        exact absurd (hx i h1) hne
      · exact absurd rfl (L.nocell _ (PySem.mem_of_lookup z))
      · obtain ⟨m, hn, hl⟩ := I.loc
        have cp := L.capt _ (PySem.mem_of_lookup z) rfl
        obtain ⟨w', r, q⟩ := hl i y w h1 h2 (cp.elim (fun k => .inr (.inl k)) (fun k => .inr (.inr k)))
        obtain ⟨c2, hc2⟩ := has z
        have hc1 := clo hc2
        refine ⟨w', r, .inr ⟨.inr z, c2, hc2, ?_⟩⟩
        rcases q with ⟨k', _⟩ | ⟨_, c3, e', zz⟩
        · have k' : X.env.scope.names.lookup y = some .local := k'
          rcases cp with k2 | k2 <;> rw [show X.env.scope.names.lookup y = _ from k2] at k' <;> cases k'
        · rw [hc1] at e'
          cases e'
          exact cellK (I.freeC y _ hc1) zz
    · have hi' : i = X.N.length := by
        have := (List.getElem?_eq_some_iff.mp h1).1
        rw [List.length_append] at this
        simp at this; omega
      rw [hi', List.getElem?_append_right (Nat.le_refl _), Nat.sub_self] at h1
      rw [hi', ← hlen, List.getElem?_append_right (by rw [List.length_set]; omega), List.length_set, Nat.sub_self] at h2
      cases h1
      cases h2
      exact ⟨u, rv, .inl ⟨L.par, by show ([(x, u)] : List (Str × Value)).reverse.lookup x = some u; simp⟩⟩
  · intro y c e
    obtain ⟨w', z⟩ := I.cell y c (clo e)
    exact ⟨w', cellK (I.freeC y c (clo e)) z⟩
  · exact e0.hok.fresh (Nat.le_refl _)
  · intro y c e
    obtain ⟨v, o, ho, hd⟩ := I.cell y c (clo e)
    exact un.free c o ho (I.freeC y c (clo e)) (by simp)
  · exact fun p hp => absurd (show p ∈ ([] : List (Addr × Obj)) ++ [] from hp) (by simp)
  · exact e0.hok.kept kp
  · show (σ.set i0 none ++ [some v]).length = (X.N ++ [x]).length
    rw [List.length_append, List.length_append, List.length_set, I.len]; rfl
theorem call_lamM {i0 : Nat} {A : Around} {f c' : Addr} {pm ctv : Value} {params : Arguments} {body : Expr} {scope : Scope} {x : Str} {k : Nat} {tb : TE} {v : V} {u : Value} {Q : VK} {R : Value → Shared → Prop}
    (I : Inv X pins σ H s) (L : LamP X.env.scope scope x) (hx : ∀ n, X.N[n]? = some x → n = i0) (mask : ∀ (σ : L2.St) (v : V) (H : Hp) (Q : VK), tb (σ ++ [some v]) H Q → tb (σ.set i0 none ++ [some v]) H Q) (hr : Room (k + 1) A) (hfr : A.frames = X.A.frames) (hf : s.heap.get? f = some (PySem.W.kla_obj "<lambda>" (X.env.qual ++ "<lambda>") params body scope (cloFrom X.env.cells scope.names []) pm c' ctv))
    (hc' : H c' = some (CodeO c' (X.env.qual ++ "<lambda>")))
    (hbind : ∀ u : Value, bindArgs (PySem.W.kla_fn "<lambda>" (X.env.qual ++ "<lambda>") params body scope (cloFrom X.env.cells scope.names []) pm (.ref c') ctv) ⟨[u], []⟩ = pure [(x, u)])
    (hbody : ∀ (A : Around) (outer : List Env) (s : Shared) (H : Hp), Room k (A.deeper (lamEnv X scope s.heap.objs.size f c')) → PE (cxP X A outer s H scope x f c') body tb)
    (rv : RelV v u) (ht : tb (σ ++ [some v]) H Q) (hq : ∀ w H' u' s', Inv X pins σ H' s' → (∀ b o, s.heap.get? b = some o → H b = none → b ∉ frs X.stack → s'.heap.get? b = some o ∧ H' b = none) → RelV w u' → Q w H' → R u' s') : wpAny (model X.prog X.w) A (call (.ref f) [u]) R (fun _ _ => False) s := by
  have e0 : Env0 X.prog X.w X.K X.mg X.base A X.stack s H := by
    have e := I.env0
    exact ⟨by rw [hfr]; exact e.frames, e.mod, e.bs, e.bsz, e.funs, e.frf, e.hok, e.bare⟩
  refine wpAny_call ?_
  obtain ⟨⟨oc, ws, t, hoc, hdc, hvc⟩, _, _⟩ := I.hok c' _ hc'
  have ran : codeAny (model X.prog X.w) A (.call (.ref f) ⟨[u], []⟩) (CR (L2.CX X.prog X.w) X.stack X.prog X.w H s Q E0) s := by
    refine PySem.W.kla_callFunE hr.depth hf rfl L.noco L.nogen rfl ⟨c', oc, ws, t, rfl, hoc, hdc, hvc⟩ ?_
    rw [hbind]
    refine wpAny_pure (wpAny_newFunctionEnv (fun y hy => L.nocell y hy) (fun y hy => by rw [List.mem_singleton.mp hy]; exact L.par) (fun h2 hns hsb => ⟨I.nolimit.fresh _ hsb, ?_⟩) L.fk)
    show codeAny _ _ (.expr body (lamEnv X scope s.heap.objs.size f c')) _ _
    have J0 := startM (f := f) (c' := c') (tk := s.toks + ([(x, u)] : List (Str × Value)).length) I L hx e0 hr.hd Un.refl hns rv (fun b o e => hsb.extBut b o (Nat.ne_of_lt (Heap.lt_size e)) (Heap.get?_push_of_some _ e))
    refine PySem.W.kla_codeExpr (wpAny_mono ((hbody _ _ s H (hr.deeper _)).run [] _ _ H Q J0 (mask _ _ _ _ ht)) ?_ fun e s' hq => ?_)
    · rintro v s' ⟨w', H', J', rv, q⟩
      exact ⟨w', H', J'.os, J'.bare, J'.base, J'.hok, rv, q⟩
    · exact hq
  refine codeAny_mono ran fun r s' hz => ?_
  match r, hz with
  | .error e, hz => 
    obtain ⟨_, _, _, _, _, _, _, _, _, _, _, _, z⟩ := hz
    exact z
  | .ok (.ret u), hz =>
    obtain ⟨w, H', os, bare, un, hok, rw', q⟩ := hz
    obtain ⟨g1, g2, g3, g4, g5⟩ := s'
    obtain rfl : g5 = s.os := os
    have I' := I.call (g' := g2) (h' := g1) (t' := g4) (d' := g3) (ch := []) un hok bare (fun b y => absurd y (by simp))
    exact hq w H' u _ I' (fun b o e1 e2 e3 => ⟨un.keep b o e1 e2 e3 (by simp), un.free b o e1 e2 (by simp)⟩) rw' q
  | .ok .next, hz => exact False.elim hz
  | .ok .brk, hz => exact False.elim hz
  | .ok .cont, hz => exact False.elim hz
theorem mask_at (σ : L2.St) (o : Option V) {i j : Nat} (h : j ≠ i) : (σ.set i none ++ [o])[j]? = (σ ++ [o])[j]? := by
  rcases Nat.lt_or_ge j σ.length with q | q
  · rw [List.getElem?_append_left (by rw [List.length_set]; exact q), List.getElem?_append_left q, List.getElem?_set_ne (fun z => h z.symm)]
  · rw [List.getElem?_append_right (by rw [List.length_set]; exact q), List.getElem?_append_right q, List.length_set]
theorem _root_.FW.u65 {j : Nat} {A : Around} (hr : Room j A) : A.units + 65 < cLine := by have := hr.un; omega
theorem only_at {N : List Str} {x : Str} {i : Nat} (h : ((List.range N.length).all fun n => !decide (N[n]? = some x) || n == i) = true) : ∀ n, N[n]? = some x → n = i := fun n hn => by
  have hl := (List.getElem?_eq_some_iff.mp hn).1
  have := List.all_eq_true.mp h n (List.mem_range.mpr hl)
  rw [decide_eq_true hn] at this
  simpa using this
theorem pe_sortKeyM {i0 : Nat} {T : List (Addr × Str)} {x : Str} {c P : Addr} {k j : Nat} {params : Arguments} {e body : Expr} {scope : Scope} {ta tb : TE} {p lpos kpos pos : Pos} (hcalm : X.calm = true) (hg : Gl X "sorted") (hmS : X.mg "sorted" = none) (he : PE X e ta)
    (TB : TabB X.base X.mg c P) (hcode : X.env.code = .ref c) (hmT : (P, X.env.qual ++ "<lambda>") ∈ T) (hu : ∀ p ∈ T, p.1 = P → p.2 = X.env.qual ++ "<lambda>") (hr : Room j X.A) (hk : k + 4 ≤ j) (L : LamP X.env.scope scope x) (hx0 : ∀ n, X.N[n]? = some x → n = i0) (mask : ∀ (σ : L2.St) (v : V) (H : Hp) (Q : VK), tb (σ ++ [some v]) H Q → tb (σ.set i0 none ++ [some v]) H Q) (hdef : defaultsOf params X.env = ([], []))
    (hbind : ∀ (q : Str) (cl : List (Str × Addr)) (pm cv ctv u : Value), bindArgs (PySem.W.kla_fn "<lambda>" q params body scope cl pm cv ctv) ⟨[u], []⟩ = pure [(x, u)])
    (hbody : ∀ (A : Around) (outer : List Env) (s : Shared) (H : Hp) (f c' : Addr), Room k (A.deeper (lamEnv X scope s.heap.objs.size f c')) → PE (cxP X A outer s H scope x f c') body tb)
    (hst : backTo pos (starEach [e] X.env) = (false, eval e X.env) :: backTo pos (starEach [] X.env) := by rfl) (hpl : (backTo pos (starEach [e] X.env)).any (·.1) = false := by rfl)
    (hall : (backToKw pos (keywordEach [⟨some "key", .Lambda params body scope lpos, kpos⟩] X.env)).all (·.1.isSome) = true := by rfl) (hnone : (backToKw pos (keywordEach [⟨some "key", .Lambda params body scope lpos, kpos⟩] X.env)).any (·.1.isNone) = false := by rfl) :
    PE X (.Call (.Name "sorted" p) [e] [⟨some "key", .Lambda params body scope lpos, kpos⟩] pos) (tSortKey T X.K ta tb) := by
  refine ⟨fun pins s σ H Q I h => ?_⟩
  refine wpAny_Call_Name_kw (ld_blt I hg hmS (show bootBuiltins "sorted" = some (.builtin "sorted") by decide +kernel) ?_)
  refine PyProof.Rows.callWith_kw ?_ hst hpl hall hnone
  rw [hst]
  refine Calls.spliced_cons (thn (he.run pins s σ H _ I h) ?_)
  rintro u1 s1 ⟨v1, H1, I1, r1, l, xs, kd, rfl, hl, xl, al, srt, dep, hT, q⟩
  obtain rfl : u1 = Value.ref l := r1
  refine Calls.spliced_nil ?_
  show wpAny _ _ (evalAll ((do let v ← eval (.Lambda params body scope lpos) X.env; standAt pos; pure v) :: [])) _ _ s1
  refine wpAny_evalAll_cons (wpAny_bind (lam_make2 I1 TB hcode hmT hu hT hdef (fun y hy e => L.cells I.ok y hy e) fun f c' pm ctv H2 s2 I2 eN T2 hf hfn hfr hco => wpAny_bind (wpAny_standAt (wpAny_pure (wpAny_evalAll_nil ?_)))))
  show wpAny (model X.prog X.w) X.A (call (.builtin "sorted") [.ref l] [(Str.ofString "key", .ref f)]) (EP X pins σ Q) X.xe s2
  obtain ⟨qb, q⟩ := q H2 eN T2
  have hl2 : SqL X.K H2 l xs := FW.extN_sqL eN hl
  obtain ⟨its, rv, pl, hz⟩ := I2.list hl2
  have il : its.length = xs.length := rv.length.symm
  have a0 : s2.heap.objs.size ≤ s2.heap.objs.size + 1 := Nat.le_succ _
  have fl : f < s2.heap.objs.size := Heap.lt_size hf
  refine sorted_of_sort pl.isList (by omega) (ksk_s1 _ _) (fun _ => ksk_l1 _ _) fun E' => ?_
  rw [ksk_t1]
  refine tree2 (s := { s2 with heap := copyHeap s2.heap its }) (copyHeap_at s2.heap its) (by omega) fun cc m g tk hca hcs hkeep hcc haa => ?_
  have ac : s2.heap.objs.size + 1 < (copyHeap s2.heap its).objs.size := Heap.lt_size (copyHeap_at s2.heap its)
  have cs : s2.heap.objs.size ≤ cc := Nat.le_trans (Nat.le_of_lt (Nat.lt_of_succ_lt ac)) hcs
  have ca : s2.heap.objs.size + 1 ≠ cc := fun z => hca z.symm
  have old : ∀ b u, s2.heap.get? b = some u → g.get? b = some u := fun b u e => hkeep b u (Nat.ne_of_lt (Nat.lt_succ_of_lt (Heap.lt_size e))) (copyHeap_old e)
  have fa : s2.heap.objs.size + 1 ≠ f := fun z => absurd fl (by rw [← z]; exact Nat.not_lt.mpr a0)
  have fc : cc ≠ f := fun z => absurd fl (by rw [← z]; exact Nat.not_lt.mpr cs)
  have xsc : cc ∉ frs X.stack := fresh_frs I2 cs
  have xsa : s2.heap.objs.size + 1 ∉ frs X.stack := fresh_frs I2 a0
  have room := ((hr.mono (show k + 3 ≤ j by omega)).in1).in1
  refine keys_made (fun n us t => us.length = n ∧ ∃ Hj qn, Inv X pins σ Hj t ∧ FW.Ext H2 Hj ∧ KeysAt X.K Hj us ((xs.map kd).take n) ∧ t.heap.get? cc = some (seqObj "list" us.toArray qn) ∧ t.heap.get? (s2.heap.objs.size + 1) = some (seqObj "list" #[] m) ∧
      t.heap.get? f = some (PySem.W.kla_obj "<lambda>" (X.env.qual ++ "<lambda>") params body scope (cloFrom X.env.cells scope.names []) pm c' ctv) ∧ Hj cc = none ∧ Hj (s2.heap.objs.size + 1) = none ∧ Hj f = none)
    (by omega) ⟨rfl, H2, 0, I2.kept old, FW.Ext.rfl', by rw [List.take_zero]; exact EachIs.nil, hcc, haa, old _ _ hf, I2.hok.fresh cs, I2.hok.fresh a0, hfn⟩ (fun _ _ _ h => h.1) ?_ ?_
  · rintro n u us t hx ⟨hlen, Hj, qn, J, e, ka, k1, k2, k3, n1, n2, n3⟩
    obtain ⟨y, hy, ry⟩ := vals_get rv hx
    refine call_lamM J L hx0 mask room rfl k3 (e _ _ hco) (hbind _ _ _ _ _) (fun A outer s H hr' => hbody A outer s H f c' hr') ry (qb y (List.mem_of_getElem? hy) Hj e) fun w H' u' t2 J' kp rw' q' => ?_
    obtain ⟨e', dw⟩ := q'
    have c2 := kp cc _ k1 n1 xsc
    have a2 := kp _ _ k2 n2 xsa
    have f2 := kp f _ k3 n3 hfr
    have b1 := Heap.SameBut.update t2.heap cc (Obj.mapSeq (·.push u'))
    obtain ⟨q2, hq2⟩ : ∃ q2, (t2.heap.update cc (Obj.mapSeq (·.push u'))).get? cc = some (seqObj "list" (us.toArray.push u') q2) := ⟨_, get?_update_seq c2.1 (·.push u')⟩
    have ek : (xs.map kd).take (n + 1) = (xs.map kd).take n ++ [kd y] := by rw [List.take_add_one, List.getElem?_map, hy]; rfl
    have ea : (us ++ [u']).toArray = us.toArray.push u' := by simp
    refine ⟨⟨qn, c2.1⟩, by rw [List.length_append, hlen]; rfl, H', q2, J'.turnedL (ch := [cc]) (fun b o hb q => (b1.2 b (fun z => hb (by rw [z]; exact List.mem_cons_self))).trans q) (fun b hb => by rw [List.mem_singleton.mp hb]; exact I2.fpOk cs c2.2), e.tr e', ?_, by rw [ea]; exact hq2, (b1.2 _ ca).trans a2.1, (b1.2 _ fc.symm).trans f2.1, c2.2, a2.2, f2.2⟩
    rw [ek]
    exact each_snoc ⟨w, rw', dw⟩ (ka.ext e')
  · rintro us t ⟨hlen, Hj, qn, J, e, ka, k1, k2, k3, n1, n2, n3⟩
    have et : (xs.map kd).take its.length = xs.map kd := List.take_of_length_le (by rw [List.length_map]; omega)
    rw [et] at ka
    have er : EachIs (fun v d => ∃ as, Reads t.heap v d as) us (xs.map kd) := ka.mono fun v d ⟨w, r, dq⟩ => Dp.reads J d w v dq r
    have S := SortsAt.data (prog := X.prog) (w := X.w) (A := X.A.in1.in1) (s := t) er al srt (fun d hd => by
      obtain ⟨x, hx, rfl⟩ := List.mem_map.mp hd
      have := dep x hx
      have := room.un
      omega)
    refine ⟨⟨qn, k1⟩, end2 (κ := dataKind t.heap (xs.map kd)) k1 k2 hca (by rw [List.toList_toArray]; exact S) (by rw [List.size_toArray]; exact hlen) (by omega) fun h' tk' qq b2 hh => ⟨rfl, ?_⟩⟩
    rw [List.toList_toArray] at hh
    have ho : KeyedOut false (xs.map kd) its (sortVals (dataKind t.heap (xs.map kd)) false us its) := ⟨t.heap, us, al, rfl, er⟩
    have hv := vals_each (keyedOut_each kd ho (each_vals rv))
    have J2 : Inv X pins σ Hj { t with heap := h', toks := tk' } := J.turnedL (ch := [s2.heap.objs.size + 1, cc]) (fun b o hb q => b2 b o (fun z => hb (by rw [z]; exact List.mem_cons_self)) (fun z => hb (by rw [z]; exact List.mem_cons_of_mem _ List.mem_cons_self)) q) (fun b hb => by
      rcases List.mem_cons.mp hb with z | z
      · rw [z]; exact I2.fpOk a0 n2
      · rw [List.mem_singleton.mp z]; exact I2.fpOk cs n1)
    have J3 := track (o := .lst (xs.mergeSort (dataLe false kd))) J2 (I2.fpOk a0 n2) (Nat.le_trans I2.sz a0) ⟨by rw [List.length_mergeSort, sizeLine_eq]; omega, _, qq, hv, hh⟩
    exact ⟨.ref _, _, J3, rfl, q _ _ (e.upds (I2.hok.fresh a0)) (I2.hok.fresh a0) upd_same⟩
end
end FWK
namespace FWL
open PySem PySem.Spec PyProof.Rows L2 FW
local macro_rules | `(tactic| walk_at "ln") => `(tactic| (intro vs H Q E h; repeat (obtain ⟨x', h⟩ := h; first | (rw [x']; rfl) | skip)))
structure Tx (K : PySem.W.Frag) (mg : Str → Option Value) (base : Heap) : Prop where
  n_abs : mg "abs" = none
  n_all : mg "all" = none
  n_bool : mg "bool" = none
  n_enumerate : mg "enumerate" = none
  n_int : mg "int" = none
  n_isinstance : mg "isinstance" = none
  n_len : mg "len" = none
  n_list : mg "list" = none
  n_max : mg "max" = none
  n_range : mg "range" = none
  n_set : mg "set" = none
  n_sorted : mg "sorted" = none
  n_str : mg "str" = none
  n_tuple : mg "tuple" = none
  n_zip : mg "zip" = none
  g_LOOKS : mg "LOOKS" = some (.ref (He.ga K "LOOKS"))
  g_MENDS : mg "MENDS" = some (.ref (He.ga K "MENDS"))
  g_STOPS : mg "STOPS" = some (.ref (He.ga K "STOPS"))
  g_TOLDS : mg "TOLDS" = some (.ref (He.ga K "TOLDS"))
  g_is_whole : mg "is_whole" = some (.ref (He.ga K "is_whole"))
  g_is_whole_from : mg "is_whole_from" = some (.ref (He.ga K "is_whole_from"))
  g_power : mg "power" = some (.ref (He.ga K "power"))
  g_trimmed : mg "trimmed" = some (.ref (He.ga K "trimmed"))
  g_poly_value : mg "poly_value" = some (.ref (He.ga K "poly_value"))
  g_poly_sum : mg "poly_sum" = some (.ref (He.ga K "poly_sum"))
  g_poly_product : mg "poly_product" = some (.ref (He.ga K "poly_product"))
  g_poly_less : mg "poly_less" = some (.ref (He.ga K "poly_less"))
  g_poly_power : mg "poly_power" = some (.ref (He.ga K "poly_power"))
  g_settled : mg "settled" = some (.ref (He.ga K "settled"))
  g_positive_from : mg "positive_from" = some (.ref (He.ga K "positive_from"))
  g_is_word_of : mg "is_word_of" = some (.ref (He.ga K "is_word_of"))
  g_wrong_part : mg "wrong_part" = some (.ref (He.ga K "wrong_part"))
  g_top_gap : mg "top_gap" = some (.ref (He.ga K "top_gap"))
  g_low_gap : mg "low_gap" = some (.ref (He.ga K "low_gap"))
  g_least_led : mg "least_led" = some (.ref (He.ga K "least_led"))
  g_slant : mg "slant" = some (.ref (He.ga K "slant"))
  g_end_poly : mg "end_poly" = some (.ref (He.ga K "end_poly"))
  g_rest_poly : mg "rest_poly" = some (.ref (He.ga K "rest_poly"))
  g_needed : mg "needed" = some (.ref (He.ga K "needed"))
  g_row_cuts : mg "row_cuts" = some (.ref (He.ga K "row_cuts"))
  g_in_the_end : mg "in_the_end" = some (.ref (He.ga K "in_the_end"))
  g_all_cuts : mg "all_cuts" = some (.ref (He.ga K "all_cuts"))
  g_fall_poly : mg "fall_poly" = some (.ref (He.ga K "fall_poly"))
  g_above : mg "above" = some (.ref (He.ga K "above"))
  g_conditions : mg "conditions" = some (.ref (He.ga K "conditions"))
  g_maps_of : mg "maps_of" = some (.ref (He.ga K "maps_of"))
  g_table : mg "table" = some (.ref (He.ga K "table"))
  g__law_stream : mg "_law_stream" = some (.ref (He.ga K "_law_stream"))
  g__law_draw : mg "_law_draw" = some (.ref (He.ga K "_law_draw"))
  g__law_pick : mg "_law_pick" = some (.ref (He.ga K "_law_pick"))
  g__law_power : mg "_law_power" = some (.ref (He.ga K "_law_power"))
  g__law_weights : mg "_law_weights" = some (.ref (He.ga K "_law_weights"))
  g__law_parts : mg "_law_parts" = some (.ref (He.ga K "_law_parts"))
  g__law_loop : mg "_law_loop" = some (.ref (He.ga K "_law_loop"))
  g__law_led : mg "_law_led" = some (.ref (He.ga K "_law_led"))
  g__law_near : mg "_law_near" = some (.ref (He.ga K "_law_near"))
  g__law_window : mg "_law_window" = some (.ref (He.ga K "_law_window"))
  g__law_root_drawn : mg "_law_root_drawn" = some (.ref (He.ga K "_law_root_drawn"))
  g__law_has_form : mg "_law_has_form" = some (.ref (He.ga K "_law_has_form"))
  g_law : mg "law" = some (.ref (He.ga K "law"))
  g_Average : mg "Average" = some (.ref (He.ga K "Average"))
  d_is_whole : ∃ fd, FunD K "is_whole" "is_whole" (defArgs st_is_whole) (defBody st_is_whole) (defScope st_is_whole) [] [] (He.ga K "is_whole") fd
  d_is_whole_from : ∃ fd, FunD K "is_whole_from" "is_whole_from" (defArgs st_is_whole_from) (defBody st_is_whole_from) (defScope st_is_whole_from) [] [] (He.ga K "is_whole_from") fd
  d_power : ∃ fd, FunD K "power" "power" (defArgs st_power) (defBody st_power) (defScope st_power) [] [] (He.ga K "power") fd
  d_trimmed : ∃ fd, FunD K "trimmed" "trimmed" (defArgs st_trimmed) (defBody st_trimmed) (defScope st_trimmed) [] [] (He.ga K "trimmed") fd
  d_poly_value : ∃ fd, FunD K "poly_value" "poly_value" (defArgs st_poly_value) (defBody st_poly_value) (defScope st_poly_value) [] [] (He.ga K "poly_value") fd
  d_poly_sum : ∃ fd, FunD K "poly_sum" "poly_sum" (defArgs st_poly_sum) (defBody st_poly_sum) (defScope st_poly_sum) [] [] (He.ga K "poly_sum") fd
  d_poly_product : ∃ fd, FunD K "poly_product" "poly_product" (defArgs st_poly_product) (defBody st_poly_product) (defScope st_poly_product) [] [] (He.ga K "poly_product") fd
  d_poly_less : ∃ fd, FunD K "poly_less" "poly_less" (defArgs st_poly_less) (defBody st_poly_less) (defScope st_poly_less) [] [] (He.ga K "poly_less") fd
  d_poly_power : ∃ fd, FunD K "poly_power" "poly_power" (defArgs st_poly_power) (defBody st_poly_power) (defScope st_poly_power) [] [] (He.ga K "poly_power") fd
  d_settled : ∃ fd, FunD K "settled" "settled" (defArgs st_settled) (defBody st_settled) (defScope st_settled) [] [] (He.ga K "settled") fd
  d_positive_from : ∃ fd, FunD K "positive_from" "positive_from" (defArgs st_positive_from) (defBody st_positive_from) (defScope st_positive_from) [] [] (He.ga K "positive_from") fd
  d_is_word_of : ∃ fd, FunD K "is_word_of" "is_word_of" (defArgs st_is_word_of) (defBody st_is_word_of) (defScope st_is_word_of) [] [] (He.ga K "is_word_of") fd
  d_wrong_part : ∃ fd, FunD K "wrong_part" "wrong_part" (defArgs st_wrong_part) (defBody st_wrong_part) (defScope st_wrong_part) [] [] (He.ga K "wrong_part") fd
  d_Average_init : ∃ fd, FunD K "__init__" "Average.__init__" (defArgs st_Average_init) (defBody st_Average_init) (defScope st_Average_init) [.str "old", .str "none"] [] (He.ma K (He.ga K "Average") "__init__") fd
  d_Average_led : ∃ fd, FunD K "led" "Average.led" (defArgs st_Average_led) (defBody st_Average_led) (defScope st_Average_led) [] [] (He.ma K (He.ga K "Average") "led") fd
  d_Average_nearness : ∃ fd, FunD K "nearness" "Average.nearness" (defArgs st_Average_nearness) (defBody st_Average_nearness) (defScope st_Average_nearness) [] [] (He.ma K (He.ga K "Average") "nearness") fd
  d_top_gap : ∃ fd, FunD K "top_gap" "top_gap" (defArgs st_top_gap) (defBody st_top_gap) (defScope st_top_gap) [] [] (He.ga K "top_gap") fd
  d_low_gap : ∃ fd, FunD K "low_gap" "low_gap" (defArgs st_low_gap) (defBody st_low_gap) (defScope st_low_gap) [] [] (He.ga K "low_gap") fd
  d_least_led : ∃ fd, FunD K "least_led" "least_led" (defArgs st_least_led) (defBody st_least_led) (defScope st_least_led) [] [] (He.ga K "least_led") fd
  d_slant : ∃ fd, FunD K "slant" "slant" (defArgs st_slant) (defBody st_slant) (defScope st_slant) [] [] (He.ga K "slant") fd
  d_end_poly : ∃ fd, FunD K "end_poly" "end_poly" (defArgs st_end_poly) (defBody st_end_poly) (defScope st_end_poly) [] [] (He.ga K "end_poly") fd
  d_rest_poly : ∃ fd, FunD K "rest_poly" "rest_poly" (defArgs st_rest_poly) (defBody st_rest_poly) (defScope st_rest_poly) [] [] (He.ga K "rest_poly") fd
  d_needed : ∃ fd, FunD K "needed" "needed" (defArgs st_needed) (defBody st_needed) (defScope st_needed) [] [] (He.ga K "needed") fd
  d_row_cuts : ∃ fd, FunD K "row_cuts" "row_cuts" (defArgs st_row_cuts) (defBody st_row_cuts) (defScope st_row_cuts) [] [] (He.ga K "row_cuts") fd
  d_in_the_end : ∃ fd, FunD K "in_the_end" "in_the_end" (defArgs st_in_the_end) (defBody st_in_the_end) (defScope st_in_the_end) [] [] (He.ga K "in_the_end") fd
  d_all_cuts : ∃ fd, FunD K "all_cuts" "all_cuts" (defArgs st_all_cuts) (defBody st_all_cuts) (defScope st_all_cuts) [] [] (He.ga K "all_cuts") fd
  d_fall_poly : ∃ fd, FunD K "fall_poly" "fall_poly" (defArgs st_fall_poly) (defBody st_fall_poly) (defScope st_fall_poly) [] [] (He.ga K "fall_poly") fd
  d_above : ∃ fd, FunD K "above" "above" (defArgs st_above) (defBody st_above) (defScope st_above) [] [] (He.ga K "above") fd
  d_conditions : ∃ fd, FunD K "conditions" "conditions" (defArgs st_conditions) (defBody st_conditions) (defScope st_conditions) [] [] (He.ga K "conditions") fd
  d_maps_of : ∃ fd, FunD K "maps_of" "maps_of" (defArgs st_maps_of) (defBody st_maps_of) (defScope st_maps_of) [] [] (He.ga K "maps_of") fd
  d_table : ∃ fd, FunD K "table" "table" (defArgs st_table) (defBody st_table) (defScope st_table) [] [] (He.ga K "table") fd
  d_l_stream : ∃ fd, FunD K "_law_stream" "_law_stream" (defArgs st_l_stream) (defBody st_l_stream) (defScope st_l_stream) [] [] (He.ga K "_law_stream") fd
  d_l_draw : ∃ fd, FunD K "_law_draw" "_law_draw" (defArgs st_l_draw) (defBody st_l_draw) (defScope st_l_draw) [] [] (He.ga K "_law_draw") fd
  d_l_pick : ∃ fd, FunD K "_law_pick" "_law_pick" (defArgs st_l_pick) (defBody st_l_pick) (defScope st_l_pick) [] [] (He.ga K "_law_pick") fd
  d_l_power : ∃ fd, FunD K "_law_power" "_law_power" (defArgs st_l_power) (defBody st_l_power) (defScope st_l_power) [] [] (He.ga K "_law_power") fd
  d_l_weights : ∃ fd, FunD K "_law_weights" "_law_weights" (defArgs st_l_weights) (defBody st_l_weights) (defScope st_l_weights) [] [] (He.ga K "_law_weights") fd
  d_l_parts : ∃ fd, FunD K "_law_parts" "_law_parts" (defArgs st_l_parts) (defBody st_l_parts) (defScope st_l_parts) [] [] (He.ga K "_law_parts") fd
  d_l_loop : ∃ fd, FunD K "_law_loop" "_law_loop" (defArgs st_l_loop) (defBody st_l_loop) (defScope st_l_loop) [] [] (He.ga K "_law_loop") fd
  d_l_led : ∃ fd, FunD K "_law_led" "_law_led" (defArgs st_l_led) (defBody st_l_led) (defScope st_l_led) [] [] (He.ga K "_law_led") fd
  d_l_near : ∃ fd, FunD K "_law_near" "_law_near" (defArgs st_l_near) (defBody st_l_near) (defScope st_l_near) [] [] (He.ga K "_law_near") fd
  d_l_window : ∃ fd, FunD K "_law_window" "_law_window" (defArgs st_l_window) (defBody st_l_window) (defScope st_l_window) [] [] (He.ga K "_law_window") fd
  d_l_root_drawn : ∃ fd, FunD K "_law_root_drawn" "_law_root_drawn" (defArgs st_l_root_drawn) (defBody st_l_root_drawn) (defScope st_l_root_drawn) [] [] (He.ga K "_law_root_drawn") fd
  d_l_has_form : ∃ fd, FunD K "_law_has_form" "_law_has_form" (defArgs st_l_has_form) (defBody st_l_has_form) (defScope st_l_has_form) [] [] (He.ga K "_law_has_form") fd
  d_law : ∃ fd, FunD K "law" "law" (defArgs st_law) (defBody st_law) (defScope st_law) [] [] (He.ga K "law") fd
  c_Average : Cls K (He.ga K "Average")
  k_Average : Mk K (He.ga K "Average") (He.ma K (He.ga K "Average") "__init__")
  m_Average_led : Meth K (He.ga K "Average") "led" (He.ma K (He.ga K "Average") "led")
  m_Average_nearness : Meth K (He.ga K "Average") "nearness" (He.ma K (He.ga K "Average") "nearness")
  a_Average_k : NoAttr K (He.ga K "Average") "k"
  a_Average_a : NoAttr K (He.ga K "Average") "a"
  a_Average_c : NoAttr K (He.ga K "Average") "c"
  a_Average_d : NoAttr K (He.ga K "Average") "d"
  a_Average_stop : NoAttr K (He.ga K "Average") "stop"
  a_Average_told : NoAttr K (He.ga K "Average") "told"
  a_Average_mend : NoAttr K (He.ga K "Average") "mend"
  t_STOPS : ∀ H, SqT K H (He.ga K "STOPS") [.str "notless", .str "equal", .str "near1", .str "near2", .str "back", .str "under", .str "held"]
  t_TOLDS : ∀ H, SqT K H (He.ga K "TOLDS") [.str "old", .str "new", .str "less", .str "more"]
  t_MENDS : ∀ H, SqT K H (He.ga K "MENDS") [.str "none", .str "down", .str "up", .str "both"]
  t_LOOKS : ∀ H, SqT K H (He.ga K "LOOKS") [.str "under", .str "held"]
  tb_all_cuts : LamX.TabB base mg (He.cT K ("all_cuts", none)).1 (He.cT K ("all_cuts", none)).2
theorem Tx.av {K : PySem.W.Frag} {mg : Str → Option Value} {base : Heap} (T : Tx K mg base) : AvK K := ⟨T.c_Average, T.a_Average_k, T.a_Average_a, T.a_Average_c, T.a_Average_d, T.a_Average_stop, T.a_Average_told, T.a_Average_mend, T.t_STOPS, T.t_TOLDS, T.t_MENDS, T.t_LOOKS⟩
abbrev PP : Program := PySem.Challenge.pw_floorward_k11_windows_of_tables
theorem hu_all_cuts {K : PySem.W.Frag} {mg : Str → Option Value} {base : Heap} (T : Tx K mg base) : ∀ p ∈ tabs K, p.1 = (He.cT K ("all_cuts", none)).2 → p.2 = (("all_cuts" : Str) ++ ".<locals>.") ++ "<lambda>" := fun p hp _ => by rw [List.mem_singleton.mp hp]
section
variable {w : World} {K : PySem.W.Frag} {mg : Str → Option Value} {base : Heap}
theorem dv_is_whole {f : Addr} {cdv : Value} {A : Around} {outer : List Env} {s : Shared} {H : Hp} {E : XK} (T : Tx K mg base) (hr : Room 0 (A.deeper (envOfC "is_whole" (defScope st_is_whole) s.heap.objs.size f cdv))) : PSs (cxOf CX0 PP w K mg base N_is_whole "is_whole" (defScope st_is_whole) f cdv A outer s H E).nox (defBody st_is_whole) (rd_is_whole K) := by
  exact pss_one (ps_ret (pe_and (pe_callB call_isi (by rfl) T.n_isinstance (by decide +kernel) (pa_cons (pv 0) (pa_cons (pe_bltn (by rfl) T.n_int (by decide +kernel) rfl) (pa_nil)))) (pe_one (pe_not (pe_callB call_isi (by rfl) T.n_isinstance (by decide +kernel) (pa_cons (pv 0) (pa_cons (pe_bltn (by rfl) T.n_bool (by decide +kernel) rfl) (pa_nil))))))))
theorem ok_is_whole (T : Tx K mg base) : Fn PP w K mg base CX0 1 "is_whole" (sp_is_whole K) [] :=
  Fn.mk0 T.d_is_whole T.g_is_whole sc_is_whole (fun _ _ _ _ _ _ us hl => match us, hl with | [_], _ => rfl) (by walk_at "ln") (fun cdv A outer s H vs Q E hr h => ⟨rd_is_whole K, dv_is_whole T hr, pure_is_whole K vs H Q E h⟩)
theorem dv_power {f : Addr} {cdv : Value} {A : Around} {outer : List Env} {s : Shared} {H : Hp} {E : XK} (T : Tx K mg base) (hr : Room 0 (A.deeper (envOfC "power" (defScope st_power) s.heap.objs.size f cdv))) : PSs (cxOf CX0 PP w K mg base N_power "power" (defScope st_power) f cdv A outer s H E).nox (defBody st_power) (rd_power K) := by
  exact pss_cons (ps_set (i := 2) sc_power.nd rfl (Or.inl rfl) (pe_int)) (pss_cons (ps_for PassesOwn.never rfl (pi_range1 (by rfl) T.n_range (pa_cons (pv 1) (pa_nil))) (pg_name (i := 3) sc_power.nd rfl (Or.inl rfl)) (pss_one (ps_aug (i := 2) sc_power.nd rfl (Or.inl rfl) (pv 0) FW.ipMul))) (pss_one (ps_ret (pv 2))))
theorem ok_power (T : Tx K mg base) : Fn PP w K mg base CX0 1 "power" (sp_power K) [] :=
  Fn.mk0 T.d_power T.g_power sc_power (fun _ _ _ _ _ _ us hl => match us, hl with | [_, _], _ => rfl) (by walk_at "ln") (fun cdv A outer s H vs Q E hr h => ⟨rd_power K, dv_power T hr, pure_power K vs H Q E h⟩)
theorem dv_trimmed {f : Addr} {cdv : Value} {A : Around} {outer : List Env} {s : Shared} {H : Hp} {E : XK} (T : Tx K mg base) (hr : Room 0 (A.deeper (envOfC "trimmed" (defScope st_trimmed) s.heap.objs.size f cdv))) : PSs (cxOf CX0 PP w K mg base N_trimmed "trimmed" (defScope st_trimmed) f cdv A outer s H E).nox (defBody st_trimmed) (rd_trimmed K) := by
  exact pss_cons (ps_set (i := 1) sc_trimmed.nd rfl (Or.inl rfl) (pe_callB call_len_seq (by rfl) T.n_len (by decide +kernel) (pa_cons (pv 0) (pa_nil)))) (pss_cons (ps_while PassesOwn.never (PW.pt (pw_and (pt_cmpR op_gt (pv 1) (pe_int) (nomark _)) (pw_and1 (pt_cmpR op_eq (pe_ix ix_seq (pv 0) (pe_op FW.opSub (pv 1) (pe_int)) (fun _ _ => rfl)) (pe_int) (nomark _))))) (pss_one (ps_aug (i := 1) sc_trimmed.nd rfl (Or.inl rfl) (pe_int) FW.ipSub))) (pss_one (ps_ret (pe_callTy call_tuple_of (by rfl) T.n_tuple (by decide +kernel) (pa_cons (FW.pe_either (pe_slice sl_list (pv 0) (po_none) (po_some (pv 1))) (pe_slice sl_tupA (pv 0) (po_none) (po_some (pv 1)))) (pa_nil))))))
theorem ok_trimmed (T : Tx K mg base) : Fn PP w K mg base CX0 1 "trimmed" (sp_trimmed K) [] :=
  Fn.mk0 T.d_trimmed T.g_trimmed sc_trimmed (fun _ _ _ _ _ _ us hl => match us, hl with | [_], _ => rfl) (by rintro vs H Q E (⟨_, _, rfl, _⟩ | ⟨_, _, rfl, _⟩) <;> rfl) (fun cdv A outer s H vs Q E hr h => ⟨rd_trimmed K, dv_trimmed T hr, pure_trimmed K vs H Q E h⟩)
theorem dv_poly_value {f : Addr} {cdv : Value} {A : Around} {outer : List Env} {s : Shared} {H : Hp} {E : XK} (T : Tx K mg base) (hr : Room 0 (A.deeper (envOfC "poly_value" (defScope st_poly_value) s.heap.objs.size f cdv))) : PSs (cxOf CX0 PP w K mg base N_poly_value "poly_value" (defScope st_poly_value) f cdv A outer s H E).nox (defBody st_poly_value) (rd_poly_value K) := by
  exact pss_cons (ps_set (i := 2) sc_poly_value.nd rfl (Or.inl rfl) (pe_int)) (pss_cons (ps_for PassesOwn.never rfl (FW.pi_either (pi_list (FW.pe_either (pe_revL (pv 0)) (FW.pe_revT (pv 0)))) (pi_tup (FW.pe_either (pe_revL (pv 0)) (FW.pe_revT (pv 0))))) (pg_name (i := 3) sc_poly_value.nd rfl (Or.inl rfl)) (pss_one (ps_set (i := 2) sc_poly_value.nd rfl (Or.inl rfl) (pe_op FW.opAdd (pe_op FW.opMul (pv 2) (pv 1)) (pv 3))))) (pss_one (ps_ret (pv 2))))
theorem ok_poly_value (T : Tx K mg base) : Fn PP w K mg base CX0 1 "poly_value" (sp_poly_value K) [] :=
  Fn.mk0 T.d_poly_value T.g_poly_value sc_poly_value (fun _ _ _ _ _ _ us hl => match us, hl with | [_, _], _ => rfl) (by walk_at "ln") (fun cdv A outer s H vs Q E hr h => ⟨rd_poly_value K, dv_poly_value T hr, pure_poly_value K vs H Q E h⟩)
theorem dv_settled {f : Addr} {cdv : Value} {A : Around} {outer : List Env} {s : Shared} {H : Hp} {E : XK} (T : Tx K mg base) (hr : Room 0 (A.deeper (envOfC "settled" (defScope st_settled) s.heap.objs.size f cdv))) : PSs (cxOf CX0 PP w K mg base N_settled "settled" (defScope st_settled) f cdv A outer s H E).nox (defBody st_settled) (rd_settled K) := by
  exact pss_one (ps_ret (pe_op FW.opAdd (pe_int) (pe_op FW.opDiv (pe_callB (cr_max rfl) (by rfl) T.n_max (by decide +kernel) (pa_cons (pe_lc (own := [("coefficient", 1)]) (g := gName 1) (tt := tYes) rfl sc_settled.nd (pi_tup (pv 0)) (blkOk_by (own := [("coefficient", 1)]) (N := N_settled) (sc := defScope st_settled) (by decide +kernel)) (fun _ _ _ _ _ => pg_name (i := 1) sc_settled.nd rfl (Or.inl rfl)) (fun _ _ _ _ _ => pts_nil) (fun _ _ _ _ _ => pe_callB call_abs (by rfl) T.n_abs (by decide +kernel) (pa_cons (pv 1) (pa_nil)))) (pa_nil))) (pe_callB call_abs (by rfl) T.n_abs (by decide +kernel) (pa_cons (pe_ix ix_tup (pv 0) (pe_un un_neg (pe_int)) (fun _ _ => rfl)) (pa_nil))))))
theorem ok_settled (T : Tx K mg base) : Fn PP w K mg base CX0 1 "settled" (sp_settled K) [] :=
  Fn.mk0 T.d_settled T.g_settled sc_settled (fun _ _ _ _ _ _ us hl => match us, hl with | [_], _ => rfl) (by walk_at "ln") (fun cdv A outer s H vs Q E hr h => ⟨rd_settled K, dv_settled T hr, pure_settled K vs H Q E h⟩)
theorem dv_is_word_of {f : Addr} {cdv : Value} {A : Around} {outer : List Env} {s : Shared} {H : Hp} {E : XK} (T : Tx K mg base) (hr : Room 0 (A.deeper (envOfC "is_word_of" (defScope st_is_word_of) s.heap.objs.size f cdv))) : PSs (cxOf CX0 PP w K mg base N_is_word_of "is_word_of" (defScope st_is_word_of) f cdv A outer s H E).nox (defBody st_is_word_of) (rd_is_word_of K) := by
  exact pss_one (ps_ret (pe_and (pe_callB call_isi (by rfl) T.n_isinstance (by decide +kernel) (pa_cons (pv 0) (pa_cons (pe_bltn (by rfl) T.n_str (by decide +kernel) rfl) (pa_nil)))) (pe_one (pe_cmpR op_in_seq (pv 0) (pv 1) (by rfl)))))
theorem ok_is_word_of (T : Tx K mg base) : Fn PP w K mg base CX0 1 "is_word_of" (sp_is_word_of K) [] :=
  Fn.mk0 T.d_is_word_of T.g_is_word_of sc_is_word_of (fun _ _ _ _ _ _ us hl => match us, hl with | [_, _], _ => rfl) (by walk_at "ln") (fun cdv A outer s H vs Q E hr h => ⟨rd_is_word_of K, dv_is_word_of T hr, pure_is_word_of K vs H Q E h⟩)
theorem dv_Average_nearness {f : Addr} {cdv : Value} {A : Around} {outer : List Env} {s : Shared} {H : Hp} {E : XK} (T : Tx K mg base) (hr : Room 0 (A.deeper (envOfC "Average.nearness" (defScope st_Average_nearness) s.heap.objs.size f cdv))) : PSs (cxOf CX0 PP w K mg base N_Average_nearness "Average.nearness" (defScope st_Average_nearness) f cdv A outer s H E).nox (defBody st_Average_nearness) (rd_Average_nearness K) := by
  exact pss_one (ps_ret (pe_dget2 (FW.u1 hr) (pe_disp (pps_cons (pe_str) (pe_int) (pps_cons (pe_str) (pe_int) (pps_nil))) rfl rfl (fun z => nomatch z) (by decide)) (pe_fld (pv 0) rfl) (pe_int) ⟨rfl, rfl, rfl, rfl⟩))
theorem ok_Average_nearness (T : Tx K mg base) : Mt PP w K mg base CX0 1 (He.ga K "Average") "nearness" (sp_Average_nearness K) [] :=
  Mt.mk0 T.c_Average T.m_Average_nearness T.d_Average_nearness sc_Average_nearness (fun _ _ _ _ _ _ us hl => match us, hl with | [_], _ => rfl) (by walk_at "ln") (fun cdv A outer s H vs Q E hr h => ⟨rd_Average_nearness K, dv_Average_nearness T hr, pure_Average_nearness K T.av vs H Q E h⟩)
theorem dv_slant {f : Addr} {cdv : Value} {A : Around} {outer : List Env} {s : Shared} {H : Hp} {E : XK} (T : Tx K mg base) (hr : Room 0 (A.deeper (envOfC "slant" (defScope st_slant) s.heap.objs.size f cdv))) : PSs (cxOf CX0 PP w K mg base N_slant "slant" (defScope st_slant) f cdv A outer s H E).nox (defBody st_slant) (rd_slant K) := by
  exact pss_one (ps_ret (pe_op FW.opSub (pe_fld (pv 0) rfl) (pe_op FW.opMul (pe_fld (pv 0) rfl) (pe_op FW.opSub (pe_fld (pv 0) rfl) (pe_int)))))
theorem ok_slant (T : Tx K mg base) : Fn PP w K mg base CX0 1 "slant" (sp_slant K) [] :=
  Fn.mk0 T.d_slant T.g_slant sc_slant (fun _ _ _ _ _ _ us hl => match us, hl with | [_], _ => rfl) (by walk_at "ln") (fun cdv A outer s H vs Q E hr h => ⟨rd_slant K, dv_slant T hr, pure_slant K T.av vs H Q E h⟩)
theorem dv_in_the_end {f : Addr} {cdv : Value} {A : Around} {outer : List Env} {s : Shared} {H : Hp} {E : XK} (T : Tx K mg base) (hr : Room 0 (A.deeper (envOfC "in_the_end" (defScope st_in_the_end) s.heap.objs.size f cdv))) : PSs (cxOf CX0 PP w K mg base N_in_the_end "in_the_end" (defScope st_in_the_end) f cdv A outer s H E).nox (defBody st_in_the_end) (rd_in_the_end K) := by
  exact pss_one (ps_ret (pe_revL (pe_callTy call_list_of (by rfl) T.n_list (by decide +kernel) (pa_cons (pe_op op_catA (pv 1) (pe_op FWK.op_repT1 (pe_tup (pa_cons (pe_int) (pa_nil))) (pe_op FW.opSub (pe_op FW.opAdd (pv 0) (pe_int)) (pe_callB call_len_seq (by rfl) T.n_len (by decide +kernel) (pa_cons (pv 1) (pa_nil)))))) (pa_nil)))))
theorem ok_in_the_end (T : Tx K mg base) : Fn PP w K mg base CX0 1 "in_the_end" (sp_in_the_end K) [] :=
  Fn.mk0 T.d_in_the_end T.g_in_the_end sc_in_the_end (fun _ _ _ _ _ _ us hl => match us, hl with | [_, _], _ => rfl) (by walk_at "ln") (fun cdv A outer s H vs Q E hr h => ⟨rd_in_the_end K, dv_in_the_end T hr, pure_in_the_end K vs H Q E h⟩)
theorem dv_l_stream {f : Addr} {cdv : Value} {A : Around} {outer : List Env} {s : Shared} {H : Hp} {E : XK} (T : Tx K mg base) (hr : Room 0 (A.deeper (envOfC "_law_stream" (defScope st_l_stream) s.heap.objs.size f cdv))) : PSs (cxOf CX0 PP w K mg base N_l_stream "_law_stream" (defScope st_l_stream) f cdv A outer s H E).nox (defBody st_l_stream) (rd_l_stream K) := by
  exact pss_cons (ps_set (i := 2) sc_l_stream.nd rfl (Or.inl rfl) (pe_ifExp (pt_cmpR op_lt (pv 1) (pe_callB call_len_seq (by rfl) T.n_len (by decide +kernel) (pa_cons (pv 0) (pa_nil))) (nomark _)) (pe_callB call_abs (by rfl) T.n_abs (by decide +kernel) (pa_cons (pe_ix ix_list (pv 0) (pv 1) (fun _ _ => rfl)) (pa_nil))) (pe_int))) (pss_one (ps_ret (pe_lst (pa_cons (pe_ifExp (pt_cmpR op_ge (pv 2) (pe_op FW.opPow (pe_int) (pe_int)) (nomark _)) (pv 2) (pe_int)) (pa_cons (pe_op FW.opAdd (pe_op FW.opMod (pe_callTy call_int1 (by rfl) T.n_int (by decide +kernel) (pa_cons (pv 2) (pa_nil))) (pe_int)) (pe_op FW.opMul (pe_int) (pv 1))) (pa_cons (pe_int) (pa_nil)))))))
theorem ok_l_stream (T : Tx K mg base) : Fn PP w K mg base CX0 1 "_law_stream" (sp_l_stream K) [] :=
  Fn.mk0 T.d_l_stream T.g__law_stream sc_l_stream (fun _ _ _ _ _ _ us hl => match us, hl with | [_, _], _ => rfl) (by walk_at "ln") (fun cdv A outer s H vs Q E hr h => ⟨rd_l_stream K, dv_l_stream T hr, pure_l_stream K vs H Q E h⟩)
theorem dv_l_draw {f : Addr} {cdv : Value} {A : Around} {outer : List Env} {s : Shared} {H : Hp} {E : XK} (T : Tx K mg base) (hr : Room 0 (A.deeper (envOfC "_law_draw" (defScope st_l_draw) s.heap.objs.size f cdv))) : PSs (cxOf CX0 PP w K mg base N_l_draw "_law_draw" (defScope st_l_draw) f cdv A outer s H E).nox (defBody st_l_draw) (rd_l_draw K) := by
  exact pss_cons (ps_if (pt_cmpR op_gt (pe_ix ix_list (pv 0) (pe_int) (fun _ _ => rfl)) (pe_int) (nomark _)) (pss_cons (ps_set (i := 2) sc_l_draw.nd rfl (Or.inl rfl) (pe_op FW.opMod (pe_callTy call_int1 (by rfl) T.n_int (by decide +kernel) (pa_cons (pe_ix ix_list (pv 0) (pe_int) (fun _ _ => rfl)) (pa_nil))) (pv 1))) (pss_cons (ps_asg (pe_op FW.opDiv (pe_ix ix_list (pv 0) (pe_int) (fun _ _ => rfl)) (pv 1)) (pg_sub (pv 0) (pe_int) set_list)) (pss_one (ps_ret (pv 2))))) (pss_nil)) (pss_cons (ps_asg (pe_op FW.opAdd (pe_ix ix_list (pv 0) (pe_int) (fun _ _ => rfl)) (pe_int)) (pg_sub (pv 0) (pe_int) set_list)) (pss_cons (ps_set (i := 3) sc_l_draw.nd rfl (Or.inl rfl) (pe_op FW.opMod (pe_op FW.opPow (pe_callTy call_int1 (by rfl) T.n_int (by decide +kernel) (pa_cons (pe_op FW.opAdd (pe_op FW.opAdd (pe_ix ix_list (pv 0) (pe_int) (fun _ _ => rfl)) (pe_op FW.opMul (pe_int) (pe_ix ix_list (pv 0) (pe_int) (fun _ _ => rfl)))) (pe_int)) (pa_nil))) (pe_int)) (pe_int))) (pss_one (ps_ret (pe_op FW.opMod (pe_op FW.opDiv (pe_op FW.opMod (pe_callTy call_int1 (by rfl) T.n_int (by decide +kernel) (pa_cons (pe_op FW.opMul (pe_op FW.opAdd (pv 3) (pe_ix ix_list (pv 0) (pe_int) (fun _ _ => rfl))) (pe_int)) (pa_nil))) (pe_int)) (pe_int)) (pv 1))))))
theorem ok_l_draw (T : Tx K mg base) : Fn PP w K mg base CX0 1 "_law_draw" (sp_l_draw K) [] :=
  Fn.mk0 T.d_l_draw T.g__law_draw sc_l_draw (fun _ _ _ _ _ _ us hl => match us, hl with | [_, _], _ => rfl) (by walk_at "ln") (fun cdv A outer s H vs Q E hr h => ⟨rd_l_draw K, dv_l_draw T hr, pure_l_draw K vs H Q E h⟩)
theorem dv_l_power {f : Addr} {cdv : Value} {A : Around} {outer : List Env} {s : Shared} {H : Hp} {E : XK} (T : Tx K mg base) (hr : Room 0 (A.deeper (envOfC "_law_power" (defScope st_l_power) s.heap.objs.size f cdv))) : PSs (cxOf CX0 PP w K mg base N_l_power "_law_power" (defScope st_l_power) f cdv A outer s H E).nox (defBody st_l_power) (rd_l_power K) := by
  exact pss_cons (ps_set (i := 2) sc_l_power.nd rfl (Or.inl rfl) (pe_int)) (pss_cons (ps_for PassesOwn.never rfl (pi_range1 (by rfl) T.n_range (pa_cons (pv 1) (pa_nil))) (pg_name (i := 3) sc_l_power.nd rfl (Or.inl rfl)) (pss_one (ps_set (i := 2) sc_l_power.nd rfl (Or.inl rfl) (pe_op FW.opMul (pv 2) (pv 0))))) (pss_one (ps_ret (pv 2))))
theorem ok_l_power (T : Tx K mg base) : Fn PP w K mg base CX0 1 "_law_power" (sp_l_power K) [] :=
  Fn.mk0 T.d_l_power T.g__law_power sc_l_power (fun _ _ _ _ _ _ us hl => match us, hl with | [_, _], _ => rfl) (by walk_at "ln") (fun cdv A outer s H vs Q E hr h => ⟨rd_l_power K, dv_l_power T hr, pure_l_power K vs H Q E h⟩)
theorem dv_l_weights {f : Addr} {cdv : Value} {A : Around} {outer : List Env} {s : Shared} {H : Hp} {E : XK} (T : Tx K mg base) (hr : Room 0 (A.deeper (envOfC "_law_weights" (defScope st_l_weights) s.heap.objs.size f cdv))) : PSs (cxOf CX0 PP w K mg base N_l_weights "_law_weights" (defScope st_l_weights) f cdv A outer s H E).nox (defBody st_l_weights) (rd_l_weights K) := by
  exact pss_cons (ps_set (i := 1) sc_l_weights.nd rfl (Or.inl rfl) (pe_lst (pa_nil))) (pss_cons (ps_for PassesOwn.never rfl (pi_range2 (by rfl) T.n_range (pa_cons (pe_int) (pa_cons (pe_int) (pa_nil)))) (pg_name (i := 2) sc_l_weights.nd rfl (Or.inr rfl)) (pss_one (ps_expr (pe_bm PySem.F.plainAttrs_list PySem.F.slot_list_extend PySem.F.type_list_extend mt_extend (pv 1) (pa_cons (pe_lc (own := [("_law_c", 3)]) (g := gName 3) (tt := tAnd (tTest (tOp FW.rGe (tVar 2) (tOp FW.rMul (tVar 3) (tOp FW.rSub (tVar 0) (tC (.int 1)))))) (tTest (tOp FW.rLe (tOp FW.rAdd (tVar 2) (tVar 3)) (tC (.int 6))))) rfl sc_l_weights.nd (pi_tup (pe_tup (pa_cons (pe_int) (pa_cons (pe_int) (pa_cons (pe_int) (pa_nil)))))) (blkOk_by (own := [("_law_c", 3)]) (N := N_l_weights) (sc := defScope st_l_weights) (by decide +kernel)) (fun _ _ _ _ _ => pg_name (i := 3) sc_l_weights.nd rfl (Or.inl rfl)) (fun _ _ _ _ _ => pts_one (PW.pt (pw_and (pt_cmpR op_ge (pv 2) (pe_op FW.opMul (pv 3) (pe_op FW.opSub (pv 0) (pe_int))) (nomark _)) (pw_and1 (pt_cmpR op_le (pe_op FW.opAdd (pv 2) (pv 3)) (pe_int) (nomark _)))))) (fun _ _ _ _ _ => pe_tup (pa_cons (pv 2) (pa_cons (pv 3) (pa_nil))))) (pa_nil)))))) (pss_one (ps_ret (pv 1))))
theorem ok_l_weights (T : Tx K mg base) : Fn PP w K mg base CX0 1 "_law_weights" (sp_l_weights K) [] :=
  Fn.mk0 T.d_l_weights T.g__law_weights sc_l_weights (fun _ _ _ _ _ _ us hl => match us, hl with | [_], _ => rfl) (by walk_at "ln") (fun cdv A outer s H vs Q E hr h => ⟨rd_l_weights K, dv_l_weights T hr, pure_l_weights K vs H Q E h⟩)
theorem dv_l_near {f : Addr} {cdv : Value} {A : Around} {outer : List Env} {s : Shared} {H : Hp} {E : XK} (T : Tx K mg base) (hr : Room 0 (A.deeper (envOfC "_law_near" (defScope st_l_near) s.heap.objs.size f cdv))) : PSs (cxOf CX0 PP w K mg base N_l_near "_law_near" (defScope st_l_near) f cdv A outer s H E).nox (defBody st_l_near) (rd_l_near K) := by
  exact pss_one (ps_ret (pe_dget2 (FW.u1 hr) (pe_disp (pps_cons (pe_str) (pe_int) (pps_cons (pe_str) (pe_int) (pps_nil))) rfl rfl (fun z => nomatch z) (by decide)) (pe_ix ix_tup (pv 0) (pe_int) (fun _ _ => rfl)) (pe_int) ⟨rfl, rfl, rfl, rfl⟩))
theorem ok_l_near (T : Tx K mg base) : Fn PP w K mg base CX0 1 "_law_near" (sp_l_near K) [] :=
  Fn.mk0 T.d_l_near T.g__law_near sc_l_near (fun _ _ _ _ _ _ us hl => match us, hl with | [_], _ => rfl) (by walk_at "ln") (fun cdv A outer s H vs Q E hr h => ⟨rd_l_near K, dv_l_near T hr, pure_l_near K vs H Q E h⟩)
theorem dv_l_has_form {f : Addr} {cdv : Value} {A : Around} {outer : List Env} {s : Shared} {H : Hp} {E : XK} (T : Tx K mg base) (hr : Room 0 (A.deeper (envOfC "_law_has_form" (defScope st_l_has_form) s.heap.objs.size f cdv))) : PSs (cxOf CX0 PP w K mg base N_l_has_form "_law_has_form" (defScope st_l_has_form) f cdv A outer s H E).nox (defBody st_l_has_form) (rd_l_has_form K) := by
  exact pss_cons (ps_if (PW.pt (pw_or (pt_not (pt_val (pe_callB call_isi (by rfl) T.n_isinstance (by decide +kernel) (pa_cons (pv 0) (pa_cons (pe_bltn (by rfl) T.n_tuple (by decide +kernel) rfl) (pa_nil)))))) (pw_or (pt_cmpR op_ne (pe_callB call_len_seq (by rfl) T.n_len (by decide +kernel) (pa_cons (pv 0) (pa_nil))) (pe_int) (nomark _)) (pw_or1 (pt_not (pt_val (pe_callB (cr_all rfl) (by rfl) T.n_all (by decide +kernel) (pa_cons (pe_lc (own := [("_law_x", 1)]) (g := gName 1) (tt := tYes) rfl sc_l_has_form.nd (pi_tup (pe_slice sl_tupA (pv 0) (po_none) (po_some (pe_int)))) (blkOk_by (own := [("_law_x", 1)]) (N := N_l_has_form) (sc := defScope st_l_has_form) (by decide +kernel)) (fun _ _ _ _ _ => pg_name (i := 1) sc_l_has_form.nd rfl (Or.inl rfl)) (fun _ _ _ _ _ => pts_nil) (fun _ _ _ _ _ => pe_callB call_isi (by rfl) T.n_isinstance (by decide +kernel) (pa_cons (pv 1) (pa_cons (pe_bltn (by rfl) T.n_int (by decide +kernel) rfl) (pa_nil))))) (pa_nil))))))))) (pss_one (ps_ret (pe_bl))) (pss_nil)) (pss_cons (ps_par (by rfl) sc_l_has_form.nd rfl rfl (by decide) rfl rfl (pa_cons (pe_ix ix_tup (pv 0) (pe_int) (fun _ _ => rfl)) (pa_cons (pe_ix ix_tup (pv 0) (pe_int) (fun _ _ => rfl)) (pa_nil))) (by rfl)) (pss_cons (ps_if (PW.pt (pw_or (pt_not (pt_val (pe_callB call_isi (by rfl) T.n_isinstance (by decide +kernel) (pa_cons (pv 2) (pa_cons (pe_bltn (by rfl) T.n_tuple (by decide +kernel) rfl) (pa_nil)))))) (pw_or (pt_not (pt_val (pe_callB call_isi (by rfl) T.n_isinstance (by decide +kernel) (pa_cons (pv 3) (pa_cons (pe_bltn (by rfl) T.n_tuple (by decide +kernel) rfl) (pa_nil)))))) (pw_or1 (pt_cmpR op_ne (pe_callB call_len_seq (by rfl) T.n_len (by decide +kernel) (pa_cons (pv 3) (pa_nil))) (pe_op FW.opAdd (pe_callB call_len_seq (by rfl) T.n_len (by decide +kernel) (pa_cons (pv 2) (pa_nil))) (pe_int)) (nomark _)))))) (pss_one (ps_ret (pe_bl))) (pss_nil)) (pss_cons (ps_if (pt_not (pt_val (pe_callB (cr_all rfl) (by rfl) T.n_all (by decide +kernel) (pa_cons (pe_lc (own := [("_law_row", 4)]) (g := gName 4) (tt := tYes) rfl sc_l_has_form.nd (pi_tup (pv 3)) (blkOk_by (own := [("_law_row", 4)]) (N := N_l_has_form) (sc := defScope st_l_has_form) (by decide +kernel)) (fun _ _ _ _ _ => pg_name (i := 4) sc_l_has_form.nd rfl (Or.inl rfl)) (fun _ _ _ _ _ => pts_nil) (fun _ _ _ _ _ => pe_and (pe_callB call_isi (by rfl) T.n_isinstance (by decide +kernel) (pa_cons (pv 4) (pa_cons (pe_bltn (by rfl) T.n_tuple (by decide +kernel) rfl) (pa_nil)))) (pe_one (pe_cmpR op_eq (pe_callB call_len_seq (by rfl) T.n_len (by decide +kernel) (pa_cons (pv 4) (pa_nil))) (pe_op FW.opAdd (pe_op FW.opSub (pe_ix ix_tup (pv 0) (pe_int) (fun _ _ => rfl)) (pe_ix ix_tup (pv 0) (pe_int) (fun _ _ => rfl))) (pe_int)) (nomark _))))) (pa_nil))))) (pss_one (ps_ret (pe_bl))) (pss_nil)) (pss_one (ps_ret (pe_callB (cr_all rfl) (by rfl) T.n_all (by decide +kernel) (pa_cons (pe_lc (own := [("_law_cut", 5)]) (g := gName 5) (tt := tYes) rfl sc_l_has_form.nd (pi_tup (pv 2)) (blkOk_by (own := [("_law_cut", 5)]) (N := N_l_has_form) (sc := defScope st_l_has_form) (by decide +kernel)) (fun _ _ _ _ _ => pg_name (i := 5) sc_l_has_form.nd rfl (Or.inl rfl)) (fun _ _ _ _ _ => pts_nil) (fun _ _ _ _ _ => pe_and (pe_callB call_isi (by rfl) T.n_isinstance (by decide +kernel) (pa_cons (pv 5) (pa_cons (pe_bltn (by rfl) T.n_tuple (by decide +kernel) rfl) (pa_nil)))) (pe_and (pe_cmpR (op_neD hr.units) (pv 5) (pe_tup (pa_nil)) (nomark _)) (pe_one (pe_cmpR op_ne (pe_ix ix_tup (pv 5) (pe_un un_neg (pe_int)) (fun _ _ => rfl)) (pe_int) (nomark _)))))) (pa_nil))))))))
theorem ok_l_has_form (T : Tx K mg base) : Fn PP w K mg base CX0 1 "_law_has_form" (sp_l_has_form K) [] :=
  Fn.mk0 T.d_l_has_form T.g__law_has_form sc_l_has_form (fun _ _ _ _ _ _ us hl => match us, hl with | [_], _ => rfl) (by walk_at "ln") (fun cdv A outer s H vs Q E hr h => ⟨rd_l_has_form K, dv_l_has_form T hr, pure_l_has_form K vs H Q E h⟩)
theorem dv_is_whole_from {f : Addr} {cdv : Value} {A : Around} {outer : List Env} {s : Shared} {H : Hp} {E : XK} (T : Tx K mg base) (hr : Room 1 (A.deeper (envOfC "is_whole_from" (defScope st_is_whole_from) s.heap.objs.size f cdv))) : PSs (cxOf CX0 PP w K mg base N_is_whole_from "is_whole_from" (defScope st_is_whole_from) f cdv A outer s H E).nox (defBody st_is_whole_from) (rd_is_whole_from K) := by
  exact pss_one (ps_ret (pe_and (FW.pe_f (ok_is_whole T) hr (by decide) (by rfl) (pa_cons (pv 0) (pa_nil))) (pe_one (pe_cmpR op_ge (pv 0) (pv 1) (nomark _)))))
theorem ok_is_whole_from (T : Tx K mg base) : Fn PP w K mg base CX0 2 "is_whole_from" (sp_is_whole_from K) [] :=
  Fn.mk0 T.d_is_whole_from T.g_is_whole_from sc_is_whole_from (fun _ _ _ _ _ _ us hl => match us, hl with | [_, _], _ => rfl) (by walk_at "ln") (fun cdv A outer s H vs Q E hr h => ⟨rd_is_whole_from K, dv_is_whole_from T hr, pure_is_whole_from K vs H Q E h⟩)
theorem dv_poly_sum {f : Addr} {cdv : Value} {A : Around} {outer : List Env} {s : Shared} {H : Hp} {E : XK} (T : Tx K mg base) (hr : Room 1 (A.deeper (envOfC "poly_sum" (defScope st_poly_sum) s.heap.objs.size f cdv))) : PSs (cxOf CX0 PP w K mg base N_poly_sum "poly_sum" (defScope st_poly_sum) f cdv A outer s H E).nox (defBody st_poly_sum) (rd_poly_sum K) := by
  exact pss_cons (ps_set (i := 2) sc_poly_sum.nd rfl (Or.inl rfl) (pe_callB (call_max2 rfl) (by rfl) T.n_max (by decide +kernel) (pa_cons (pe_callB call_len_seq (by rfl) T.n_len (by decide +kernel) (pa_cons (pv 0) (pa_nil))) (pa_cons (pe_callB call_len_seq (by rfl) T.n_len (by decide +kernel) (pa_cons (pv 1) (pa_nil))) (pa_nil))))) (pss_cons (ps_set (i := 3) sc_poly_sum.nd rfl (Or.inl rfl) (pe_op op_cat (pe_callTy call_list_of (by rfl) T.n_list (by decide +kernel) (pa_cons (pv 0) (pa_nil))) (pe_op op_rep (pe_lst (pa_cons (pe_int) (pa_nil))) (pe_op FW.opSub (pv 2) (pe_callB call_len_seq (by rfl) T.n_len (by decide +kernel) (pa_cons (pv 0) (pa_nil))))))) (pss_cons (ps_set (i := 4) sc_poly_sum.nd rfl (Or.inl rfl) (pe_op op_cat (pe_callTy call_list_of (by rfl) T.n_list (by decide +kernel) (pa_cons (pv 1) (pa_nil))) (pe_op op_rep (pe_lst (pa_cons (pe_int) (pa_nil))) (pe_op FW.opSub (pv 2) (pe_callB call_len_seq (by rfl) T.n_len (by decide +kernel) (pa_cons (pv 1) (pa_nil))))))) (pss_one (ps_ret (FW.pe_f (ok_trimmed T) hr (by decide) (by rfl) (pa_cons (pe_lc (own := [("x", 5), ("y", 6)]) (g := gTup K 2 (gCons (gName 5) (gCons (gName 6) (gNil)))) (tt := tYes) rfl sc_poly_sum.nd (pi_zip (by rfl) T.n_zip (pa_cons (pv 3) (pa_cons (pv 4) (pa_nil)))) (blkOk_by (own := [("x", 5), ("y", 6)]) (N := N_poly_sum) (sc := defScope st_poly_sum) (by decide +kernel)) (fun _ _ _ _ _ => pg_tup rfl (pgs_cons (pg_name (i := 5) sc_poly_sum.nd rfl (Or.inl rfl)) (pgs_cons (pg_name (i := 6) sc_poly_sum.nd rfl (Or.inl rfl)) (pgs_nil)))) (fun _ _ _ _ _ => pts_nil) (fun _ _ _ _ _ => pe_op FW.opAdd (pv 5) (pv 6))) (pa_nil)))))))
theorem ok_poly_sum (T : Tx K mg base) : Fn PP w K mg base CX0 2 "poly_sum" (sp_poly_sum K) [] :=
  Fn.mk0 T.d_poly_sum T.g_poly_sum sc_poly_sum (fun _ _ _ _ _ _ us hl => match us, hl with | [_, _], _ => rfl) (by walk_at "ln") (fun cdv A outer s H vs Q E hr h => ⟨rd_poly_sum K, dv_poly_sum T hr, pure_poly_sum K vs H Q E h⟩)
theorem dv_poly_product {f : Addr} {cdv : Value} {A : Around} {outer : List Env} {s : Shared} {H : Hp} {E : XK} (T : Tx K mg base) (hr : Room 1 (A.deeper (envOfC "poly_product" (defScope st_poly_product) s.heap.objs.size f cdv))) : PSs (cxOf CX0 PP w K mg base N_poly_product "poly_product" (defScope st_poly_product) f cdv A outer s H E).nox (defBody st_poly_product) (rd_poly_product K) := by
  exact pss_cons (ps_set (i := 2) sc_poly_product.nd rfl (Or.inl rfl) (pe_op op_rep (pe_lst (pa_cons (pe_int) (pa_nil))) (pe_op FW.opAdd (pe_callB call_len_seq (by rfl) T.n_len (by decide +kernel) (pa_cons (pv 0) (pa_nil))) (pe_callB call_len_seq (by rfl) T.n_len (by decide +kernel) (pa_cons (pv 1) (pa_nil)))))) (pss_cons (ps_for PassesOwn.never rfl (FW.pi_either (pi_enum (by rfl) T.n_enumerate (pa_cons (pv 0) (pa_nil))) (FW.pi_enumT (by rfl) T.n_enumerate (pa_cons (pv 0) (pa_nil)))) (pg_tup rfl (pgs_cons (pg_name (i := 3) sc_poly_product.nd rfl (Or.inl rfl)) (pgs_cons (pg_name (i := 4) sc_poly_product.nd rfl (Or.inl rfl)) (pgs_nil)))) (pss_one (ps_for PassesOwn.never rfl (FW.pi_either (pi_enum (by rfl) T.n_enumerate (pa_cons (pv 1) (pa_nil))) (FW.pi_enumT (by rfl) T.n_enumerate (pa_cons (pv 1) (pa_nil)))) (pg_tup rfl (pgs_cons (pg_name (i := 5) sc_poly_product.nd rfl (Or.inl rfl)) (pgs_cons (pg_name (i := 6) sc_poly_product.nd rfl (Or.inl rfl)) (pgs_nil)))) (pss_one (ps_augS (pv 2) (pe_op FW.opAdd (pv 3) (pv 5)) FW.get_list (pe_op FW.opMul (pv 4) (pv 6)) FW.ipAdd set_list))))) (pss_one (ps_ret (FW.pe_f (ok_trimmed T) hr (by decide) (by rfl) (pa_cons (pv 2) (pa_nil))))))
theorem ok_poly_product (T : Tx K mg base) : Fn PP w K mg base CX0 2 "poly_product" (sp_poly_product K) [] :=
  Fn.mk0 T.d_poly_product T.g_poly_product sc_poly_product (fun _ _ _ _ _ _ us hl => match us, hl with | [_, _], _ => rfl) (by walk_at "ln") (fun cdv A outer s H vs Q E hr h => ⟨rd_poly_product K, dv_poly_product T hr, pure_poly_product K vs H Q E h⟩)
theorem dv_positive_from {f : Addr} {cdv : Value} {A : Around} {outer : List Env} {s : Shared} {H : Hp} {E : XK} (T : Tx K mg base) (hr : Room 1 (A.deeper (envOfC "positive_from" (defScope st_positive_from) s.heap.objs.size f cdv))) : PSs (cxOf CX0 PP w K mg base N_positive_from "positive_from" (defScope st_positive_from) f cdv A outer s H E).nox (defBody st_positive_from) (rd_positive_from K) := by
  exact pss_cons (ps_set (i := 2) sc_positive_from.nd rfl (Or.inl rfl) (pe_callB (call_max2 rfl) (by rfl) T.n_max (by decide +kernel) (pa_cons (pv 1) (pa_cons (FW.pe_f (ok_settled T) hr (by decide) (by rfl) (pa_cons (pv 0) (pa_nil))) (pa_nil))))) (pss_cons (ps_while PassesOwn.never (PW.pt (pw_and (pt_cmpR op_gt (pv 2) (pv 1) (nomark _)) (pw_and1 (pt_cmpR op_gt (FW.pe_f (ok_poly_value T) hr (by decide) (by rfl) (pa_cons (pv 0) (pa_cons (pe_op FW.opSub (pv 2) (pe_int)) (pa_nil)))) (pe_int) (nomark _))))) (pss_one (ps_aug (i := 2) sc_positive_from.nd rfl (Or.inl rfl) (pe_int) FW.ipSub))) (pss_one (ps_ret (pv 2))))
theorem ok_positive_from (T : Tx K mg base) : Fn PP w K mg base CX0 2 "positive_from" (sp_positive_from K) [] :=
  Fn.mk0 T.d_positive_from T.g_positive_from sc_positive_from (fun _ _ _ _ _ _ us hl => match us, hl with | [_, _], _ => rfl) (by walk_at "ln") (fun cdv A outer s H vs Q E hr h => ⟨rd_positive_from K, dv_positive_from T hr, pure_positive_from K vs H Q E h⟩)
theorem dv_Average_led {f : Addr} {cdv : Value} {A : Around} {outer : List Env} {s : Shared} {H : Hp} {E : XK} (T : Tx K mg base) (hr : Room 1 (A.deeper (envOfC "Average.led" (defScope st_Average_led) s.heap.objs.size f cdv))) : PSs (cxOf CX0 PP w K mg base N_Average_led "Average.led" (defScope st_Average_led) f cdv A outer s H E).nox (defBody st_Average_led) (rd_Average_led K) := by
  exact pss_cons (ps_set (i := 3) sc_Average_led.nd rfl (Or.inl rfl) (pe_op FW.opDiv (pv 1) (FW.pe_f (ok_power T) hr (by decide) (by rfl) (pa_cons (pv 2) (pa_cons (pe_op FW.opSub (pe_fld (pv 0) rfl) (pe_int)) (pa_nil)))))) (pss_one (ps_ret (pe_op FW.opDiv (pe_op FW.opAdd (pe_op FW.opAdd (pe_op FW.opMul (pe_fld (pv 0) rfl) (pv 2)) (pe_op FW.opMul (pe_fld (pv 0) rfl) (pv 3))) (pe_fld (pv 0) rfl)) (pe_op FW.opAdd (pe_fld (pv 0) rfl) (pe_fld (pv 0) rfl)))))
theorem ok_Average_led (T : Tx K mg base) : Mt PP w K mg base CX0 2 (He.ga K "Average") "led" (sp_Average_led K) [] :=
  Mt.mk0 T.c_Average T.m_Average_led T.d_Average_led sc_Average_led (fun _ _ _ _ _ _ us hl => match us, hl with | [_, _, _], _ => rfl) (by walk_at "ln") (fun cdv A outer s H vs Q E hr h => ⟨rd_Average_led K, dv_Average_led T hr, pure_Average_led K T.av vs H Q E h⟩)
theorem dv_top_gap {f : Addr} {cdv : Value} {A : Around} {outer : List Env} {s : Shared} {H : Hp} {E : XK} (T : Tx K mg base) (hr : Room 1 (A.deeper (envOfC "top_gap" (defScope st_top_gap) s.heap.objs.size f cdv))) : PSs (cxOf CX0 PP w K mg base N_top_gap "top_gap" (defScope st_top_gap) f cdv A outer s H E).nox (defBody st_top_gap) (rd_top_gap K) := by
  exact pss_cons (ps_set (i := 1) sc_top_gap.nd rfl (Or.inl rfl) (pe_op FW.opAdd (pe_fld (pv 0) rfl) (pe_op FW.opMul (FW.pe_o0 (ok_Average_nearness T) hr (by decide) (pv 0)) (pe_op FW.opAdd (pe_fld (pv 0) rfl) (pe_fld (pv 0) rfl))))) (pss_one (ps_ret (pe_op FW.opAdd (pe_int) (pe_op FW.opDiv (pe_callB (call_max2 rfl) (by rfl) T.n_max (by decide +kernel) (pa_cons (pe_int) (pa_cons (pv 1) (pa_nil)))) (pe_op FW.opMul (pe_fld (pv 0) rfl) (pe_fld (pv 0) rfl))))))
theorem ok_top_gap (T : Tx K mg base) : Fn PP w K mg base CX0 2 "top_gap" (sp_top_gap K) [] :=
  Fn.mk0 T.d_top_gap T.g_top_gap sc_top_gap (fun _ _ _ _ _ _ us hl => match us, hl with | [_], _ => rfl) (by walk_at "ln") (fun cdv A outer s H vs Q E hr h => ⟨rd_top_gap K, dv_top_gap T hr, pure_top_gap K T.av vs H Q E h⟩)
theorem dv_least_led {f : Addr} {cdv : Value} {A : Around} {outer : List Env} {s : Shared} {H : Hp} {E : XK} (T : Tx K mg base) (hr : Room 1 (A.deeper (envOfC "least_led" (defScope st_least_led) s.heap.objs.size f cdv))) : PSs (cxOf CX0 PP w K mg base N_least_led "least_led" (defScope st_least_led) f cdv A outer s H E).nox (defBody st_least_led) (rd_least_led K) := by
  exact pss_one (ps_ret (pe_op FW.opDiv (pe_op FW.opAdd (pe_op FW.opMul (FW.pe_f (ok_slant T) hr (by decide) (by rfl) (pa_cons (pv 0) (pa_nil))) (pv 1)) (pe_fld (pv 0) rfl)) (pe_op FW.opAdd (pe_fld (pv 0) rfl) (pe_fld (pv 0) rfl))))
theorem ok_least_led (T : Tx K mg base) : Fn PP w K mg base CX0 2 "least_led" (sp_least_led K) [] :=
  Fn.mk0 T.d_least_led T.g_least_led sc_least_led (fun _ _ _ _ _ _ us hl => match us, hl with | [_, _], _ => rfl) (by walk_at "ln") (fun cdv A outer s H vs Q E hr h => ⟨rd_least_led K, dv_least_led T hr, pure_least_led K T.av vs H Q E h⟩)
theorem dv_needed {f : Addr} {cdv : Value} {A : Around} {outer : List Env} {s : Shared} {H : Hp} {E : XK} (T : Tx K mg base) (hr : Room 1 (A.deeper (envOfC "needed" (defScope st_needed) s.heap.objs.size f cdv))) : PSs (cxOf CX0 PP w K mg base N_needed "needed" (defScope st_needed) f cdv A outer s H E).nox (defBody st_needed) (rd_needed K) := by
  exact pss_one (ps_ret (pe_un un_neg (pe_op FW.opDiv (pe_op FW.opSub (pe_op FW.opAdd (pe_fld (pv 0) rfl) (pe_op FW.opMul (FW.pe_f (ok_slant T) hr (by decide) (by rfl) (pa_cons (pv 0) (pa_nil))) (pv 1))) (pe_op FW.opMul (pv 2) (pe_op FW.opAdd (pe_fld (pv 0) rfl) (pe_fld (pv 0) rfl)))) (pe_fld (pv 0) rfl))))
theorem ok_needed (T : Tx K mg base) : Fn PP w K mg base CX0 2 "needed" (sp_needed K) [] :=
  Fn.mk0 T.d_needed T.g_needed sc_needed (fun _ _ _ _ _ _ us hl => match us, hl with | [_, _, _], _ => rfl) (by walk_at "ln") (fun cdv A outer s H vs Q E hr h => ⟨rd_needed K, dv_needed T hr, pure_needed K T.av vs H Q E h⟩)
theorem dv_l_pick {f : Addr} {cdv : Value} {A : Around} {outer : List Env} {s : Shared} {H : Hp} {E : XK} (T : Tx K mg base) (hr : Room 1 (A.deeper (envOfC "_law_pick" (defScope st_l_pick) s.heap.objs.size f cdv))) : PSs (cxOf CX0 PP w K mg base N_l_pick "_law_pick" (defScope st_l_pick) f cdv A outer s H E).nox (defBody st_l_pick) (rd_l_pick K) := by
  exact pss_one (ps_ret (pe_ix ix_list (pv 1) (FW.pe_f (ok_l_draw T) hr (by decide) (by rfl) (pa_cons (pv 0) (pa_cons (pe_callB call_len_seq (by rfl) T.n_len (by decide +kernel) (pa_cons (pv 1) (pa_nil))) (pa_nil)))) (fun _ _ => rfl)))
theorem ok_l_pick (T : Tx K mg base) : Fn PP w K mg base CX0 2 "_law_pick" (sp_l_pick K) [] :=
  Fn.mk0 T.d_l_pick T.g__law_pick sc_l_pick (fun _ _ _ _ _ _ us hl => match us, hl with | [_, _], _ => rfl) (by walk_at "ln") (fun cdv A outer s H vs Q E hr h => ⟨rd_l_pick K, dv_l_pick T hr, pure_l_pick K vs H Q E h⟩)
theorem dv_l_led {f : Addr} {cdv : Value} {A : Around} {outer : List Env} {s : Shared} {H : Hp} {E : XK} (T : Tx K mg base) (hr : Room 1 (A.deeper (envOfC "_law_led" (defScope st_l_led) s.heap.objs.size f cdv))) : PSs (cxOf CX0 PP w K mg base N_l_led "_law_led" (defScope st_l_led) f cdv A outer s H E).nox (defBody st_l_led) (rd_l_led K) := by
  exact pss_one (ps_ret (pe_op FW.opDiv (pe_op FW.opAdd (pe_op FW.opAdd (pe_op FW.opMul (pe_ix ix_tup (pv 0) (pe_int) (fun _ _ => rfl)) (pv 2)) (pe_op FW.opMul (pe_ix ix_tup (pv 0) (pe_int) (fun _ _ => rfl)) (pe_op FW.opDiv (pv 1) (FW.pe_f (ok_l_power T) hr (by decide) (by rfl) (pa_cons (pv 2) (pa_cons (pe_op FW.opSub (pe_ix ix_tup (pv 0) (pe_int) (fun _ _ => rfl)) (pe_int)) (pa_nil))))))) (pe_ix ix_tup (pv 0) (pe_int) (fun _ _ => rfl))) (pe_op FW.opAdd (pe_ix ix_tup (pv 0) (pe_int) (fun _ _ => rfl)) (pe_ix ix_tup (pv 0) (pe_int) (fun _ _ => rfl)))))
theorem ok_l_led (T : Tx K mg base) : Fn PP w K mg base CX0 2 "_law_led" (sp_l_led K) [] :=
  Fn.mk0 T.d_l_led T.g__law_led sc_l_led (fun _ _ _ _ _ _ us hl => match us, hl with | [_, _, _], _ => rfl) (by walk_at "ln") (fun cdv A outer s H vs Q E hr h => ⟨rd_l_led K, dv_l_led T hr, pure_l_led K vs H Q E h⟩)
theorem dv_l_window {f : Addr} {cdv : Value} {A : Around} {outer : List Env} {s : Shared} {H : Hp} {E : XK} (T : Tx K mg base) (hr : Room 1 (A.deeper (envOfC "_law_window" (defScope st_l_window) s.heap.objs.size f cdv))) : PSs (cxOf CX0 PP w K mg base N_l_window "_law_window" (defScope st_l_window) f cdv A outer s H E).nox (defBody st_l_window) (rd_l_window K) := by
  exact pss_cons (ps_asg (pv 0) (pg_tup rfl (pgs_cons (pg_name (i := 1) sc_l_window.nd rfl (Or.inl rfl)) (pgs_cons (pg_name (i := 2) sc_l_window.nd rfl (Or.inl rfl)) (pgs_cons (pg_name (i := 3) sc_l_window.nd rfl (Or.inl rfl)) (pgs_cons (pg_name (i := 4) sc_l_window.nd rfl (Or.inl rfl)) (pgs_cons (pg_name (i := 5) sc_l_window.nd rfl (Or.inl rfl)) (pgs_cons (pg_name (i := 6) sc_l_window.nd rfl (Or.inl rfl)) (pgs_cons (pg_name (i := 7) sc_l_window.nd rfl (Or.inl rfl)) (pgs_nil)))))))))) (pss_cons (ps_par (by rfl) sc_l_window.nd rfl rfl (by decide) rfl rfl (pa_cons (pe_int) (pa_cons (pe_op FW.opDiv (pv 4) (pe_op FW.opAdd (pv 2) (pv 3))) (pa_nil))) (by rfl)) (pss_cons (ps_while PassesOwn.never (pt_cmpR op_lt (pv 9) (pv 8) (nomark _)) (pss_one (ps_par (by rfl) sc_l_window.nd rfl rfl (by decide) rfl rfl (pa_cons (pv 9) (pa_cons (pe_op FW.opDiv (pe_op FW.opAdd (pe_op FW.opMul (pe_op FW.opSub (pv 2) (pe_op FW.opMul (pv 3) (pe_op FW.opSub (pv 1) (pe_int)))) (pv 9)) (pv 4)) (pe_op FW.opAdd (pv 2) (pv 3))) (pa_nil))) (by rfl)))) (pss_one (ps_ret (pe_tup (pa_cons (pv 8) (pa_cons (pe_op FW.opAdd (pe_int) (pe_op FW.opDiv (pe_callB (call_max2 rfl) (by rfl) T.n_max (by decide +kernel) (pa_cons (pe_int) (pa_cons (pe_op FW.opAdd (pv 4) (pe_op FW.opMul (FW.pe_f (ok_l_near T) hr (by decide) (by rfl) (pa_cons (pv 0) (pa_nil))) (pe_op FW.opAdd (pv 2) (pv 3)))) (pa_nil)))) (pe_op FW.opMul (pv 3) (pv 1)))) (pa_nil))))))))
theorem ok_l_window (T : Tx K mg base) : Fn PP w K mg base CX0 2 "_law_window" (sp_l_window K) [] :=
  Fn.mk0 T.d_l_window T.g__law_window sc_l_window (fun _ _ _ _ _ _ us hl => match us, hl with | [_], _ => rfl) (by walk_at "ln") (fun cdv A outer s H vs Q E hr h => ⟨rd_l_window K, dv_l_window T hr, pure_l_window K vs H Q E h⟩)
theorem dv_poly_less {f : Addr} {cdv : Value} {A : Around} {outer : List Env} {s : Shared} {H : Hp} {E : XK} (T : Tx K mg base) (hr : Room 2 (A.deeper (envOfC "poly_less" (defScope st_poly_less) s.heap.objs.size f cdv))) : PSs (cxOf CX0 PP w K mg base N_poly_less "poly_less" (defScope st_poly_less) f cdv A outer s H E).nox (defBody st_poly_less) (rd_poly_less K) := by
  exact pss_one (ps_ret (FW.pe_f (ok_poly_sum T) hr (by decide) (by rfl) (pa_cons (pv 0) (pa_cons (pe_callTy call_tuple_of (by rfl) T.n_tuple (by decide +kernel) (pa_cons (pe_lc (own := [("coefficient", 2)]) (g := gName 2) (tt := tYes) rfl sc_poly_less.nd (pi_tup (pv 1)) (blkOk_by (own := [("coefficient", 2)]) (N := N_poly_less) (sc := defScope st_poly_less) (by decide +kernel)) (fun _ _ _ _ _ => pg_name (i := 2) sc_poly_less.nd rfl (Or.inl rfl)) (fun _ _ _ _ _ => pts_nil) (fun _ _ _ _ _ => pe_un un_neg (pv 2))) (pa_nil))) (pa_nil)))))
theorem ok_poly_less (T : Tx K mg base) : Fn PP w K mg base CX0 3 "poly_less" (sp_poly_less K) [] :=
  Fn.mk0 T.d_poly_less T.g_poly_less sc_poly_less (fun _ _ _ _ _ _ us hl => match us, hl with | [_, _], _ => rfl) (by walk_at "ln") (fun cdv A outer s H vs Q E hr h => ⟨rd_poly_less K, dv_poly_less T hr, pure_poly_less K vs H Q E h⟩)
theorem dv_poly_power {f : Addr} {cdv : Value} {A : Around} {outer : List Env} {s : Shared} {H : Hp} {E : XK} (T : Tx K mg base) (hr : Room 2 (A.deeper (envOfC "poly_power" (defScope st_poly_power) s.heap.objs.size f cdv))) : PSs (cxOf CX0 PP w K mg base N_poly_power "poly_power" (defScope st_poly_power) f cdv A outer s H E).nox (defBody st_poly_power) (rd_poly_power K) := by
  exact pss_cons (ps_set (i := 2) sc_poly_power.nd rfl (Or.inl rfl) (pe_tup (pa_cons (pe_int) (pa_nil)))) (pss_cons (ps_for PassesOwn.never rfl (pi_range1 (by rfl) T.n_range (pa_cons (pv 1) (pa_nil))) (pg_name (i := 3) sc_poly_power.nd rfl (Or.inl rfl)) (pss_one (ps_set (i := 2) sc_poly_power.nd rfl (Or.inl rfl) (FW.pe_f (ok_poly_product T) hr (by decide) (by rfl) (pa_cons (pv 2) (pa_cons (pv 0) (pa_nil))))))) (pss_one (ps_ret (pv 2))))
theorem ok_poly_power (T : Tx K mg base) : Fn PP w K mg base CX0 3 "poly_power" (sp_poly_power K) [] :=
  Fn.mk0 T.d_poly_power T.g_poly_power sc_poly_power (fun _ _ _ _ _ _ us hl => match us, hl with | [_, _], _ => rfl) (by walk_at "ln") (fun cdv A outer s H vs Q E hr h => ⟨rd_poly_power K, dv_poly_power T hr, pure_poly_power K vs H Q E h⟩)
theorem dv_wrong_part {f : Addr} {cdv : Value} {A : Around} {outer : List Env} {s : Shared} {H : Hp} {E : XK} (T : Tx K mg base) (hr : Room 2 (A.deeper (envOfC "wrong_part" (defScope st_wrong_part) s.heap.objs.size f cdv))) : PSs (cxOf CX0 PP w K mg base N_wrong_part "wrong_part" (defScope st_wrong_part) f cdv A outer s H E).nox (defBody st_wrong_part) (rd_wrong_part K) := by
  exact pss_cons (ps_if (PW.pt (pw_or (pt_not (pt_val (FW.pe_f (ok_is_whole T) hr (by decide) (by rfl) (pa_cons (pv 0) (pa_nil))))) (pw_or1 (pt_cmpR op_notIn_seq (pv 0) (pe_tup (pa_cons (pe_int) (pa_cons (pe_int) (pa_cons (pe_int) (pa_nil))))) (by rfl))))) (pss_one (ps_ret (pe_str))) (pss_nil)) (pss_cons (ps_if (PW.pt (pw_or (pt_not (pt_val (FW.pe_f (ok_is_whole T) hr (by decide) (by rfl) (pa_cons (pv 1) (pa_nil))))) (pw_or1 (pt_not (pt_chain op_le op_le (pe_int) (pv 1) (pe_int)))))) (pss_one (ps_ret (pe_str))) (pss_nil)) (pss_cons (ps_if (PW.pt (pw_or (pt_not (pt_val (FW.pe_f (ok_is_whole_from T) hr (by decide) (by rfl) (pa_cons (pv 2) (pa_cons (pe_int) (pa_nil)))))) (pw_or (pt_cmpR op_lt (pv 1) (pe_op FW.opMul (pv 2) (pe_op FW.opSub (pv 0) (pe_int))) (nomark _)) (pw_or1 (pt_cmpR op_gt (pe_op FW.opAdd (pv 1) (pv 2)) (pe_int) (nomark _)))))) (pss_one (ps_ret (pe_str))) (pss_nil)) (pss_cons (ps_if (PW.pt (pw_or (pt_not (pt_val (FW.pe_f (ok_is_whole T) hr (by decide) (by rfl) (pa_cons (pv 3) (pa_nil))))) (pw_or1 (pt_not (pt_chain op_le op_le (pe_un un_neg (pv 1)) (pv 3) (pe_op FW.opAdd (pv 1) (pv 2))))))) (pss_one (ps_ret (pe_str))) (pss_nil)) (pss_cons (ps_if (pt_not (pt_val (FW.pe_f (ok_is_word_of T) hr (by decide) (by rfl) (pa_cons (pv 4) (pa_cons (pe_glob (by rfl) T.g_STOPS rfl) (pa_nil)))))) (pss_one (ps_ret (pe_str))) (pss_nil)) (pss_cons (ps_if (PW.pt (pw_or (pt_not (pt_val (FW.pe_f (ok_is_word_of T) hr (by decide) (by rfl) (pa_cons (pv 5) (pa_cons (pe_glob (by rfl) T.g_TOLDS rfl) (pa_nil)))))) (pw_or1 (PW.pt (pw_and (pt_cmpR op_in_seq (pv 4) (pe_glob (by rfl) T.g_LOOKS rfl) (by rfl)) (pw_and1 (pt_cmpR op_ne (pv 5) (pe_str) (nomark _)))))))) (pss_one (ps_ret (pe_str))) (pss_nil)) (pss_one (ps_ret (pe_ifExp (pt_val (FW.pe_f (ok_is_word_of T) hr (by decide) (by rfl) (pa_cons (pv 6) (pa_cons (pe_glob (by rfl) T.g_MENDS rfl) (pa_nil))))) (pe_non) (pe_str)))))))))
theorem ok_wrong_part (T : Tx K mg base) : Fn PP w K mg base CX0 3 "wrong_part" (sp_wrong_part K) [] :=
  Fn.mk0 T.d_wrong_part T.g_wrong_part sc_wrong_part (fun _ _ _ _ _ _ us hl => match us, hl with | [_, _, _, _, _, _, _], _ => rfl) (by walk_at "ln") (fun cdv A outer s H vs Q E hr h => ⟨rd_wrong_part K, dv_wrong_part T hr, pure_wrong_part K T.av vs H Q E h⟩)
theorem dv_low_gap {f : Addr} {cdv : Value} {A : Around} {outer : List Env} {s : Shared} {H : Hp} {E : XK} (T : Tx K mg base) (hr : Room 2 (A.deeper (envOfC "low_gap" (defScope st_low_gap) s.heap.objs.size f cdv))) : PSs (cxOf CX0 PP w K mg base N_low_gap "low_gap" (defScope st_low_gap) f cdv A outer s H E).nox (defBody st_low_gap) (rd_low_gap K) := by
  exact pss_cons (ps_par (by rfl) sc_low_gap.nd rfl rfl (by decide) rfl rfl (pa_cons (pe_int) (pa_cons (FW.pe_f (ok_least_led T) hr (by decide) (by rfl) (pa_cons (pv 0) (pa_cons (pe_int) (pa_nil)))) (pa_nil))) (by rfl)) (pss_cons (ps_while PassesOwn.never (pt_cmpR op_lt (pv 2) (pv 1) (nomark _)) (pss_one (ps_par (by rfl) sc_low_gap.nd rfl rfl (by decide) rfl rfl (pa_cons (pv 2) (pa_cons (FW.pe_f (ok_least_led T) hr (by decide) (by rfl) (pa_cons (pv 0) (pa_cons (pv 2) (pa_nil)))) (pa_nil))) (by rfl)))) (pss_one (ps_ret (pv 1))))
theorem ok_low_gap (T : Tx K mg base) : Fn PP w K mg base CX0 3 "low_gap" (sp_low_gap K) [] :=
  Fn.mk0 T.d_low_gap T.g_low_gap sc_low_gap (fun _ _ _ _ _ _ us hl => match us, hl with | [_], _ => rfl) (by walk_at "ln") (fun cdv A outer s H vs Q E hr h => ⟨rd_low_gap K, dv_low_gap T hr, pure_low_gap K vs H Q E h⟩)
theorem dv_l_parts {f : Addr} {cdv : Value} {A : Around} {outer : List Env} {s : Shared} {H : Hp} {E : XK} (T : Tx K mg base) (hr : Room 2 (A.deeper (envOfC "_law_parts" (defScope st_l_parts) s.heap.objs.size f cdv))) : PSs (cxOf CX0 PP w K mg base N_l_parts "_law_parts" (defScope st_l_parts) f cdv A outer s H E).nox (defBody st_l_parts) (rd_l_parts K) := by
  exact pss_cons (ps_set (i := 1) sc_l_parts.nd rfl (Or.inl rfl) (pe_op FW.opAdd (pe_int) (FW.pe_f (ok_l_draw T) hr (by decide) (by rfl) (pa_cons (pv 0) (pa_cons (pe_int) (pa_nil)))))) (pss_cons (ps_asg (FW.pe_f (ok_l_pick T) hr (by decide) (by rfl) (pa_cons (pv 0) (pa_cons (FW.pe_f (ok_l_weights T) hr (by decide) (by rfl) (pa_cons (pv 1) (pa_nil))) (pa_nil)))) (pg_tup rfl (pgs_cons (pg_name (i := 2) sc_l_parts.nd rfl (Or.inl rfl)) (pgs_cons (pg_name (i := 3) sc_l_parts.nd rfl (Or.inl rfl)) (pgs_nil))))) (pss_cons (ps_set (i := 4) sc_l_parts.nd rfl (Or.inl rfl) (FW.pe_f (ok_l_pick T) hr (by decide) (by rfl) (pa_cons (pv 0) (pa_cons (pe_lst (pa_cons (pe_int) (pa_cons (pe_int) (pa_cons (pe_int) (pa_cons (pe_op FW.opSub (pv 3) (pe_int)) (pa_cons (pv 3) (pa_cons (pe_un un_neg (pe_int)) (pa_cons (pe_op FW.opSub (FW.pe_f (ok_l_draw T) hr (by decide) (by rfl) (pa_cons (pv 0) (pa_cons (pe_op FW.opAdd (pe_op FW.opAdd (pe_op FW.opMul (pe_int) (pv 2)) (pv 3)) (pe_int)) (pa_nil)))) (pv 2)) (pa_nil))))))))) (pa_nil))))) (pss_cons (ps_set (i := 5) sc_l_parts.nd rfl (Or.inl rfl) (FW.pe_f (ok_l_pick T) hr (by decide) (by rfl) (pa_cons (pv 0) (pa_cons (pe_lst (pa_cons (pe_str) (pa_cons (pe_str) (pa_cons (pe_str) (pa_cons (pe_str) (pa_cons (pe_str) (pa_cons (pe_str) (pa_cons (pe_str) (pa_nil))))))))) (pa_nil))))) (pss_cons (ps_set (i := 6) sc_l_parts.nd rfl (Or.inl rfl) (FW.pe_f (ok_l_pick T) hr (by decide) (by rfl) (pa_cons (pv 0) (pa_cons (pe_lst (pa_cons (pe_str) (pa_cons (pe_str) (pa_cons (pe_str) (pa_cons (pe_str) (pa_nil)))))) (pa_nil))))) (pss_cons (ps_set (i := 7) sc_l_parts.nd rfl (Or.inl rfl) (FW.pe_f (ok_l_pick T) hr (by decide) (by rfl) (pa_cons (pv 0) (pa_cons (pe_lst (pa_cons (pe_str) (pa_cons (pe_str) (pa_cons (pe_str) (pa_cons (pe_str) (pa_cons (pe_str) (pa_nil))))))) (pa_nil))))) (pss_one (ps_ret (pe_tup (pa_cons (pv 1) (pa_cons (pv 2) (pa_cons (pv 3) (pa_cons (pv 4) (pa_cons (pv 5) (pa_cons (pe_ifExp (pt_cmpR op_in_seq (pv 5) (pe_tup (pa_cons (pe_str) (pa_cons (pe_str) (pa_nil)))) (by rfl)) (pe_str) (pv 6)) (pa_cons (pv 7) (pa_nil))))))))))))))))
theorem ok_l_parts (T : Tx K mg base) : Fn PP w K mg base CX0 3 "_law_parts" (sp_l_parts K) [] :=
  Fn.mk0 T.d_l_parts T.g__law_parts sc_l_parts (fun _ _ _ _ _ _ us hl => match us, hl with | [_], _ => rfl) (by walk_at "ln") (fun cdv A outer s H vs Q E hr h => ⟨rd_l_parts K, dv_l_parts T hr, pure_l_parts K vs H Q E h⟩)
theorem dv_l_root_drawn {f : Addr} {cdv : Value} {A : Around} {outer : List Env} {s : Shared} {H : Hp} {E : XK} (T : Tx K mg base) (hr : Room 2 (A.deeper (envOfC "_law_root_drawn" (defScope st_l_root_drawn) s.heap.objs.size f cdv))) : PSs (cxOf CX0 PP w K mg base N_l_root_drawn "_law_root_drawn" (defScope st_l_root_drawn) f cdv A outer s H E).nox (defBody st_l_root_drawn) (rd_l_root_drawn K) := by
  exact pss_cons (ps_set (i := 2) sc_l_root_drawn.nd rfl (Or.inl rfl) (FW.pe_f (ok_l_pick T) hr (by decide) (by rfl) (pa_cons (pv 0) (pa_cons (pe_lst (pa_cons (pe_int) (pa_cons (pe_int) (pa_cons (pe_int) (pa_cons (pe_op FW.opPow (pe_int) (pe_int)) (pa_cons (pe_op FW.opPow (pe_int) (pe_int)) (pa_nil))))))) (pa_nil))))) (pss_one (ps_ret (pe_op FW.opAdd (pv 1) (FW.pe_f (ok_l_draw T) hr (by decide) (by rfl) (pa_cons (pv 0) (pa_cons (pv 2) (pa_nil)))))))
theorem ok_l_root_drawn (T : Tx K mg base) : Fn PP w K mg base CX0 3 "_law_root_drawn" (sp_l_root_drawn K) [] :=
  Fn.mk0 T.d_l_root_drawn T.g__law_root_drawn sc_l_root_drawn (fun _ _ _ _ _ _ us hl => match us, hl with | [_, _], _ => rfl) (by walk_at "ln") (fun cdv A outer s H vs Q E hr h => ⟨rd_l_root_drawn K, dv_l_root_drawn T hr, pure_l_root_drawn K vs H Q E h⟩)
theorem dv_Average_init {f : Addr} {cdv : Value} {A : Around} {outer : List Env} {s : Shared} {H : Hp} {E : XK} (T : Tx K mg base) (hr : Room 3 (A.deeper (envOfC "Average.__init__" (defScope st_Average_init) s.heap.objs.size f cdv))) : PSs (cxOf CX0 PP w K mg base N_Average_init "Average.__init__" (defScope st_Average_init) f cdv A outer s H E).nox (defBody st_Average_init) (rd_Average_init K) := by
  exact pss_cons (ps_set (i := 8) sc_Average_init.nd rfl (Or.inl rfl) (FW.pe_f (ok_wrong_part T) hr (by decide) (by rfl) (pa_cons (pv 1) (pa_cons (pv 2) (pa_cons (pv 3) (pa_cons (pv 4) (pa_cons (pv 5) (pa_cons (pv 6) (pa_cons (pv 7) (pa_nil)))))))))) (pss_cons (ps_if (pt_cmpR op_notN (pv 8) (pe_non) (nomark _)) (pss_one (ps_never)) (pss_nil)) (pss_cons (ps_fld (pv 0) (pv 1) rfl) (pss_cons (ps_fld (pv 0) (pv 2) rfl) (pss_cons (ps_fld (pv 0) (pv 3) rfl) (pss_cons (ps_fld (pv 0) (pv 4) rfl) (pss_cons (ps_fld (pv 0) (pv 5) rfl) (pss_cons (ps_fld (pv 0) (pv 6) rfl) (pss_one (ps_fld (pv 0) (pv 7) rfl)))))))))
theorem ok_Average_init (T : Tx K mg base) : Mkr PP w K mg base CX0 4 "Average" (He.ga K "Average") (sp_Average_init K) [] :=
  Mkr.mkD 8 2 T.k_Average T.g_Average T.d_Average_init sc_Average_init (by simp) rfl (fun _ _ _ _ _ _ _ us its hl hi => match us, its, hl, hi with | [_, _, _, _, _, _, _, _], [_, _], _, _ => ⟨_, rfl, rfl⟩) (by walk_at "ln") (fun cdv A outer s H vs Q E hr h => ⟨rd_Average_init K, dv_Average_init T hr, pure_Average_init K T.av vs H Q E h⟩)
theorem dv_end_poly {f : Addr} {cdv : Value} {A : Around} {outer : List Env} {s : Shared} {H : Hp} {E : XK} (T : Tx K mg base) (hr : Room 3 (A.deeper (envOfC "end_poly" (defScope st_end_poly) s.heap.objs.size f cdv))) : PSs (cxOf CX0 PP w K mg base N_end_poly "end_poly" (defScope st_end_poly) f cdv A outer s H E).nox (defBody st_end_poly) (rd_end_poly K) := by
  exact pss_one (ps_ret (FW.pe_f (ok_poly_less T) hr (by decide) (by rfl) (pa_cons (FW.pe_f (ok_poly_power T) hr (by decide) (by rfl) (pa_cons (pe_tup (pa_cons (pe_int) (pa_cons (pe_int) (pa_nil)))) (pa_cons (pv 0) (pa_nil)))) (pa_cons (FW.pe_f (ok_poly_power T) hr (by decide) (by rfl) (pa_cons (pe_tup (pa_cons (pe_int) (pa_cons (pe_int) (pa_nil)))) (pa_cons (pv 0) (pa_nil)))) (pa_nil)))))
theorem ok_end_poly (T : Tx K mg base) : Fn PP w K mg base CX0 4 "end_poly" (sp_end_poly K) [] :=
  Fn.mk0 T.d_end_poly T.g_end_poly sc_end_poly (fun _ _ _ _ _ _ us hl => match us, hl with | [_], _ => rfl) (by walk_at "ln") (fun cdv A outer s H vs Q E hr h => ⟨rd_end_poly K, dv_end_poly T hr, pure_end_poly K vs H Q E h⟩)
theorem dv_rest_poly {f : Addr} {cdv : Value} {A : Around} {outer : List Env} {s : Shared} {H : Hp} {E : XK} (T : Tx K mg base) (hr : Room 3 (A.deeper (envOfC "rest_poly" (defScope st_rest_poly) s.heap.objs.size f cdv))) : PSs (cxOf CX0 PP w K mg base N_rest_poly "rest_poly" (defScope st_rest_poly) f cdv A outer s H E).nox (defBody st_rest_poly) (rd_rest_poly K) := by
  exact pss_one (ps_ret (FW.pe_f (ok_poly_less T) hr (by decide) (by rfl) (pa_cons (FW.pe_f (ok_poly_product T) hr (by decide) (by rfl) (pa_cons (FW.pe_f (ok_poly_power T) hr (by decide) (by rfl) (pa_cons (pe_tup (pa_cons (pv 1) (pa_cons (pe_int) (pa_nil)))) (pa_cons (pe_op FW.opSub (pv 0) (pe_int)) (pa_nil)))) (pa_cons (pe_tup (pa_cons (pe_op FW.opSub (pv 2) (pe_op FW.opMul (pe_op FW.opSub (pv 0) (pe_int)) (pv 1))) (pa_cons (pe_int) (pa_nil)))) (pa_nil)))) (pa_cons (FW.pe_f (ok_poly_power T) hr (by decide) (by rfl) (pa_cons (pe_tup (pa_cons (pe_int) (pa_cons (pe_int) (pa_nil)))) (pa_cons (pv 0) (pa_nil)))) (pa_nil)))))
theorem ok_rest_poly (T : Tx K mg base) : Fn PP w K mg base CX0 4 "rest_poly" (sp_rest_poly K) [] :=
  Fn.mk0 T.d_rest_poly T.g_rest_poly sc_rest_poly (fun _ _ _ _ _ _ us hl => match us, hl with | [_, _, _], _ => rfl) (by walk_at "ln") (fun cdv A outer s H vs Q E hr h => ⟨rd_rest_poly K, dv_rest_poly T hr, pure_rest_poly K vs H Q E h⟩)
theorem dv_fall_poly {f : Addr} {cdv : Value} {A : Around} {outer : List Env} {s : Shared} {H : Hp} {E : XK} (T : Tx K mg base) (hr : Room 3 (A.deeper (envOfC "fall_poly" (defScope st_fall_poly) s.heap.objs.size f cdv))) : PSs (cxOf CX0 PP w K mg base N_fall_poly "fall_poly" (defScope st_fall_poly) f cdv A outer s H E).nox (defBody st_fall_poly) (rd_fall_poly K) := by
  exact pss_cons (ps_set (i := 2) sc_fall_poly.nd rfl (Or.inl rfl) (pe_op FW.opDiv (pe_op FW.opAdd (pe_fld (pv 0) rfl) (pe_op FW.opMul (FW.pe_o0 (ok_Average_nearness T) hr (by decide) (pv 0)) (pe_op FW.opAdd (pe_fld (pv 0) rfl) (pe_fld (pv 0) rfl)))) (pe_fld (pv 0) rfl))) (pss_cons (ps_set (i := 3) sc_fall_poly.nd rfl (Or.inl rfl) (FW.pe_f (ok_poly_product T) hr (by decide) (by rfl) (pa_cons (pe_tup (pa_cons (pe_op FW.opSub (pv 1) (pv 2)) (pa_cons (pe_int) (pa_nil)))) (pa_cons (FW.pe_f (ok_poly_power T) hr (by decide) (by rfl) (pa_cons (pe_tup (pa_cons (pv 1) (pa_cons (pe_int) (pa_nil)))) (pa_cons (pe_op FW.opSub (pe_fld (pv 0) rfl) (pe_int)) (pa_nil)))) (pa_nil))))) (pss_one (ps_ret (FW.pe_f (ok_poly_less T) hr (by decide) (by rfl) (pa_cons (pv 3) (pa_cons (FW.pe_f (ok_poly_power T) hr (by decide) (by rfl) (pa_cons (pe_tup (pa_cons (pe_int) (pa_cons (pe_int) (pa_nil)))) (pa_cons (pe_fld (pv 0) rfl) (pa_nil)))) (pa_nil)))))))
theorem ok_fall_poly (T : Tx K mg base) : Fn PP w K mg base CX0 4 "fall_poly" (sp_fall_poly K) [] :=
  Fn.mk0 T.d_fall_poly T.g_fall_poly sc_fall_poly (fun _ _ _ _ _ _ us hl => match us, hl with | [_, _], _ => rfl) (by walk_at "ln") (fun cdv A outer s H vs Q E hr h => ⟨rd_fall_poly K, dv_fall_poly T hr, pure_fall_poly K T.av vs H Q E h⟩)
theorem dv_above {f : Addr} {cdv : Value} {A : Around} {outer : List Env} {s : Shared} {H : Hp} {E : XK} (T : Tx K mg base) (hr : Room 3 (A.deeper (envOfC "above" (defScope st_above) s.heap.objs.size f cdv))) : PSs (cxOf CX0 PP w K mg base N_above "above" (defScope st_above) f cdv A outer s H E).nox (defBody st_above) (rd_above K) := by
  exact pss_one (ps_ret (FW.pe_f (ok_poly_sum T) hr (by decide) (by rfl) (pa_cons (FW.pe_f (ok_poly_less T) hr (by decide) (by rfl) (pa_cons (pv 0) (pa_cons (pv 1) (pa_nil)))) (pa_cons (pe_tup (pa_cons (pe_int) (pa_nil))) (pa_nil)))))
theorem ok_above (T : Tx K mg base) : Fn PP w K mg base CX0 4 "above" (sp_above K) [] :=
  Fn.mk0 T.d_above T.g_above sc_above (fun _ _ _ _ _ _ us hl => match us, hl with | [_, _], _ => rfl) (by walk_at "ln") (fun cdv A outer s H vs Q E hr h => ⟨rd_above K, dv_above T hr, pure_above K vs H Q E h⟩)
theorem dv_row_cuts {f : Addr} {cdv : Value} {A : Around} {outer : List Env} {s : Shared} {H : Hp} {E : XK} (T : Tx K mg base) (hr : Room 4 (A.deeper (envOfC "row_cuts" (defScope st_row_cuts) s.heap.objs.size f cdv))) : PSs (cxOf CX0 PP w K mg base N_row_cuts "row_cuts" (defScope st_row_cuts) f cdv A outer s H E).nox (defBody st_row_cuts) (rd_row_cuts K) := by
  exact pss_cons (ps_set (i := 2) sc_row_cuts.nd rfl (Or.inl rfl) (pe_ifExp (pt_cmpR op_eq (pv 1) (pe_int) (nomark _)) (pe_op FW.opSub (pe_fld (pv 0) rfl) (pe_int)) (pe_fld (pv 0) rfl))) (pss_cons (ps_par (by rfl) sc_row_cuts.nd rfl rfl (by decide) rfl rfl (pa_cons (pe_lst (pa_nil)) (pa_cons (pe_op FW.opAdd (FW.pe_f (ok_least_led T) hr (by decide) (by rfl) (pa_cons (pv 0) (pa_cons (pv 1) (pa_nil)))) (pe_int)) (pa_nil))) (by rfl)) (pss_cons (ps_while PassesOwn.never (pt_cmpR op_le (FW.pe_f (ok_needed T) hr (by decide) (by rfl) (pa_cons (pv 0) (pa_cons (pv 1) (pa_cons (pv 4) (pa_nil))))) (pv 2) (nomark _)) (pss_cons (ps_expr (pe_bm PySem.F.plainAttrs_list PySem.F.slot_list_append PySem.F.type_list_append mt_append (pv 3) (pa_cons (FW.pe_f (ok_rest_poly T) hr (by decide) (by rfl) (pa_cons (pe_fld (pv 0) rfl) (pa_cons (pv 1) (pa_cons (FW.pe_f (ok_needed T) hr (by decide) (by rfl) (pa_cons (pv 0) (pa_cons (pv 1) (pa_cons (pv 4) (pa_nil))))) (pa_nil))))) (pa_nil)))) (pss_one (ps_aug (i := 4) sc_row_cuts.nd rfl (Or.inl rfl) (pe_int) FW.ipAdd)))) (pss_one (ps_ret (pv 3)))))
theorem ok_row_cuts (T : Tx K mg base) : Fn PP w K mg base CX0 5 "row_cuts" (sp_row_cuts K) [] :=
  Fn.mk0 T.d_row_cuts T.g_row_cuts sc_row_cuts (fun _ _ _ _ _ _ us hl => match us, hl with | [_, _], _ => rfl) (by walk_at "ln") (fun cdv A outer s H vs Q E hr h => ⟨rd_row_cuts K, dv_row_cuts T hr, pure_row_cuts K T.av vs H Q E h⟩)
theorem dv_conditions {f : Addr} {cdv : Value} {A : Around} {outer : List Env} {s : Shared} {H : Hp} {E : XK} (T : Tx K mg base) (hr : Room 4 (A.deeper (envOfC "conditions" (defScope st_conditions) s.heap.objs.size f cdv))) : PSs (cxOf CX0 PP w K mg base N_conditions "conditions" (defScope st_conditions) f cdv A outer s H E).nox (defBody st_conditions) (rd_conditions K) := by
  exact pss_cons (ps_set (i := 4) sc_conditions.nd rfl (Or.inr rfl) (pe_op op_cat (pe_op op_cat (pe_lst (pa_cons (pe_tup (pa_nil)) (pa_nil))) (pv 3)) (pe_lst (pa_cons (FW.pe_f (ok_end_poly T) hr (by decide) (by rfl) (pa_cons (pe_fld (pv 0) rfl) (pa_nil))) (pa_nil))))) (pss_cons (ps_setLc (i := 5) (own := [("t", 6)]) (g := gName 6) (tt := tYes) rfl sc_conditions.nd rfl rfl (sw_true rfl rfl rfl (by decide +kernel)) (pi_range1 (by rfl) T.n_range (pa_cons (pe_op FW.opSub (pe_callB call_len_seq (by rfl) T.n_len (by decide +kernel) (pa_cons (pv 4) (pa_nil))) (pe_int)) (pa_nil))) (blkOk_by (own := [("t", 6)]) (N := N_conditions) (sc := defScope st_conditions) (by decide +kernel)) (fun _ _ _ _ _ => pg_name (i := 6) sc_conditions.nd rfl (Or.inl rfl)) (fun _ _ _ _ _ => pts_nil) (fun _ _ _ _ _ => FW.pe_f (ok_poly_less T) hr (by decide) (by rfl) (pa_cons (pe_ix ix_list (pv 4) (pe_op FW.opAdd (pv 6) (pe_int)) (fun _ _ => rfl)) (pa_cons (pe_ix ix_list (pv 4) (pv 6) (fun _ _ => rfl)) (pa_nil))))) (pss_cons (ps_for PassesOwn.never rfl (pi_range2 (by rfl) T.n_range (pa_cons (pv 1) (pa_cons (pe_op FW.opAdd (pv 2) (pe_int)) (pa_nil)))) (pg_name (i := 7) sc_conditions.nd rfl (Or.inl rfl)) (pss_one (ps_if (pt_cmpR op_ne (pv 7) (pe_int) (nomark _)) (pss_one (ps_expr (pe_bm PySem.F.plainAttrs_list PySem.F.slot_list_append PySem.F.type_list_append mt_append (pv 5) (pa_cons (FW.pe_f (ok_above T) hr (by decide) (by rfl) (pa_cons (FW.pe_f (ok_rest_poly T) hr (by decide) (by rfl) (pa_cons (pe_fld (pv 0) rfl) (pa_cons (pv 7) (pa_cons (pe_op FW.opAdd (pe_fld (pv 0) rfl) (pe_int)) (pa_nil))))) (pa_cons (FW.pe_f (ok_end_poly T) hr (by decide) (by rfl) (pa_cons (pe_fld (pv 0) rfl) (pa_nil))) (pa_nil)))) (pa_nil))))) (pss_nil)))) (pss_one (ps_ret (pe_op op_cat (pv 5) (pe_lst (pa_cons (FW.pe_f (ok_above T) hr (by decide) (by rfl) (pa_cons (FW.pe_f (ok_fall_poly T) hr (by decide) (by rfl) (pa_cons (pv 0) (pa_cons (pe_op FW.opAdd (pv 2) (pe_int)) (pa_nil)))) (pa_cons (pe_tup (pa_nil)) (pa_nil)))) (pa_nil))))))))
theorem ok_conditions (T : Tx K mg base) : Fn PP w K mg base CX0 5 "conditions" (sp_conditions K) [] :=
  Fn.mk0 T.d_conditions T.g_conditions sc_conditions (fun _ _ _ _ _ _ us hl => match us, hl with | [_, _, _, _], _ => rfl) (by walk_at "ln") (fun cdv A outer s H vs Q E hr h => ⟨rd_conditions K, dv_conditions T hr, pure_conditions K T.av vs H Q E h⟩)
theorem dv_maps_of {f : Addr} {cdv : Value} {A : Around} {outer : List Env} {s : Shared} {H : Hp} {E : XK} (T : Tx K mg base) (hr : Room 5 (A.deeper (envOfC "maps_of" (defScope st_maps_of) s.heap.objs.size f cdv))) : PSs (cxOf CX0 PP w K mg base N_maps_of "maps_of" (defScope st_maps_of) f cdv A outer s H E).nox (defBody st_maps_of) (rd_maps_of K) := by
  exact pss_cons (ps_set (i := 4) sc_maps_of.nd rfl (Or.inl rfl) (pe_lst (pa_nil))) (pss_cons (ps_for PassesOwn.never rfl (pi_range1 (by rfl) T.n_range (pa_cons (pe_op FW.opAdd (pe_callB call_len_seq (by rfl) T.n_len (by decide +kernel) (pa_cons (pv 3) (pa_nil))) (pe_int)) (pa_nil))) (pg_name (i := 5) sc_maps_of.nd rfl (Or.inl rfl)) (pss_cons (ps_set (i := 6) sc_maps_of.nd rfl (Or.inr rfl) (pe_slice sl_list (pv 3) (po_none) (po_some (pv 5)))) (pss_cons (ps_set (i := 7) sc_maps_of.nd rfl (Or.inl rfl) (pe_lst (pa_nil))) (pss_cons (ps_for PassesOwn.never rfl (pi_range2 (by rfl) T.n_range (pa_cons (pv 1) (pa_cons (pe_op FW.opAdd (pv 2) (pe_int)) (pa_nil)))) (pg_name (i := 8) sc_maps_of.nd rfl (Or.inl rfl)) (pss_one (ps_expr (pe_bm PySem.F.plainAttrs_list PySem.F.slot_list_append PySem.F.type_list_append mt_append (pv 7) (pa_cons (pe_op FW.opAdd (FW.pe_f (ok_least_led T) hr (by decide) (by rfl) (pa_cons (pv 0) (pa_cons (pv 8) (pa_nil)))) (pe_callB call_len_seq (by rfl) T.n_len (by decide +kernel) (pa_cons (pe_lc (own := [("poly", 9)]) (g := gName 9) (tt := tTest (tOp (rInD K) (tVar 9) (tVar 6))) rfl sc_maps_of.nd (pi_list (FW.pe_f (ok_row_cuts T) hr (by decide) (by rfl) (pa_cons (pv 0) (pa_cons (pv 8) (pa_nil))))) (blkOk_by (own := [("poly", 9)]) (N := N_maps_of) (sc := defScope st_maps_of) (by decide +kernel)) (fun _ _ _ _ _ => pg_name (i := 9) sc_maps_of.nd rfl (Or.inl rfl)) (fun _ _ _ _ _ => pts_one (pt_cmpR (op_inD (FW.u65 hr)) (pv 9) (pv 6) (by rfl))) (fun _ _ _ _ _ => pv 9)) (pa_nil)))) (pa_nil)))))) (pss_one (ps_expr (pe_bm PySem.F.plainAttrs_list PySem.F.slot_list_append PySem.F.type_list_append mt_append (pv 4) (pa_cons (pe_callTy call_tuple_of (by rfl) T.n_tuple (by decide +kernel) (pa_cons (pv 7) (pa_nil))) (pa_nil))))))))) (pss_one (ps_ret (pv 4))))
theorem ok_maps_of (T : Tx K mg base) : Fn PP w K mg base CX0 6 "maps_of" (sp_maps_of K) [] :=
  Fn.mk0 T.d_maps_of T.g_maps_of sc_maps_of (fun _ _ _ _ _ _ us hl => match us, hl with | [_, _, _, _], _ => rfl) (by walk_at "ln") (fun cdv A outer s H vs Q E hr h => ⟨rd_maps_of K, dv_maps_of T hr, pure_maps_of K T.av vs H Q E h⟩)
theorem dv_l_loop {f : Addr} {cdv : Value} {A : Around} {outer : List Env} {s : Shared} {H : Hp} {E : XK} (T : Tx K mg base) (hr : Room 5 (A.deeper (envOfC "_law_loop" (defScope st_l_loop) s.heap.objs.size f cdv))) : PSs (cxOf CX0 PP w K mg base N_l_loop "_law_loop" (defScope st_l_loop) f cdv A outer s H E).nox (defBody st_l_loop) (rd_l_loop K) := by
  exact pss_one (ps_ret (FW.pe_m (ok_Average_init T) hr (by decide) (by rfl) (pa_cons (pe_ix ix_tup (pv 0) (pe_int) (fun _ _ => rfl)) (pa_cons (pe_ix ix_tup (pv 0) (pe_int) (fun _ _ => rfl)) (pa_cons (pe_ix ix_tup (pv 0) (pe_int) (fun _ _ => rfl)) (pa_cons (pe_ix ix_tup (pv 0) (pe_int) (fun _ _ => rfl)) (pa_cons (pe_ix ix_tup (pv 0) (pe_int) (fun _ _ => rfl)) (pa_cons (pe_ix ix_tup (pv 0) (pe_int) (fun _ _ => rfl)) (pa_cons (pe_ix ix_tup (pv 0) (pe_int) (fun _ _ => rfl)) (pa_nil))))))))))
theorem ok_l_loop (T : Tx K mg base) : Fn PP w K mg base CX0 6 "_law_loop" (sp_l_loop K) [] :=
  Fn.mk0 T.d_l_loop T.g__law_loop sc_l_loop (fun _ _ _ _ _ _ us hl => match us, hl with | [_], _ => rfl) (by walk_at "ln") (fun cdv A outer s H vs Q E hr h => ⟨rd_l_loop K, dv_l_loop T hr, pure_l_loop K vs H Q E h⟩)
theorem dv_all_cuts {A : Around} {outer : List Env} {s : Shared} {H : Hp} {E : XK} (T : Tx K mg base) (hr : Room 6 (A.deeper (envOfC "all_cuts" (defScope st_all_cuts) s.heap.objs.size (He.fAd K ("all_cuts", none)) (.ref (He.codeOf K ("all_cuts", none)))))) : PSs (cxOf CX0 PP w K mg base N_all_cuts "all_cuts" (defScope st_all_cuts) (He.fAd K ("all_cuts", none)) (.ref (He.codeOf K ("all_cuts", none))) A outer s H E).nox (defBody st_all_cuts) (rd_all_cuts K) := by
  exact pss_cons (ps_set (i := 3) sc_all_cuts.nd rfl (Or.inr rfl) (pe_lst (pa_nil))) (pss_cons (ps_for PassesOwn.never rfl (pi_range2 (by rfl) T.n_range (pa_cons (pv 1) (pa_cons (pe_op FW.opAdd (pv 2) (pe_int)) (pa_nil)))) (pg_name (i := 4) sc_all_cuts.nd rfl (Or.inl rfl)) (pss_one (ps_expr (pe_bm PySem.F.plainAttrs_list PySem.F.slot_list_extend PySem.F.type_list_extend mt_extend (pv 3) (pa_cons (pe_lc (own := [("poly", 5)]) (g := gName 5) (tt := tTest (tOp (rNotInD K) (tVar 5) (tVar 3))) rfl sc_all_cuts.nd (pi_list (FW.pe_f (ok_row_cuts T) hr (by decide) (by rfl) (pa_cons (pv 0) (pa_cons (pv 4) (pa_nil))))) (blkOk_by (own := [("poly", 5)]) (N := N_all_cuts) (sc := defScope st_all_cuts) (by decide +kernel)) (fun _ _ _ _ _ => pg_name (i := 5) sc_all_cuts.nd rfl (Or.inl rfl)) (fun _ _ _ _ _ => pts_one (pt_cmpR (op_notInD (FW.u65 hr)) (pv 5) (pv 3) (by rfl))) (fun _ _ _ _ _ => pv 5)) (pa_nil)))))) (pss_one (ps_ret (FWK.pe_sortKeyM (i0 := 5) (x := "poly") (k := 1) rfl (by rfl) T.n_sorted (pv 3) T.tb_all_cuts rfl (by first | exact List.mem_cons_self | exact List.mem_cons_of_mem _ List.mem_cons_self) (hu_all_cuts T) hr (by decide) (FWP.lamP_by (by kernel_rfl)) (FWK.only_at (N := N_all_cuts) (by decide +kernel)) (fun σ v H Q h => by simpa only [tCall, tCons, tNil, tFld, tVar, FWK.mask_at σ (some v) (show (0 : Nat) ≠ 5 by decide), FWK.mask_at σ (some v) (show (6 : Nat) ≠ 5 by decide)] using h) rfl (fun _ _ _ _ _ _ => rfl) (fun A outer s H f c hr => FW.pe_f (ok_in_the_end T) hr (by decide) (by rfl) (pa_cons (pe_fld (pv 0) rfl) (pa_cons (pv 6) (pa_nil))))))))
theorem ok_all_cuts (T : Tx K mg base) : Fn PP w K mg base CX0 7 "all_cuts" (sp_all_cuts K) [] :=
  Fn.mkC T.d_all_cuts T.g_all_cuts sc_all_cuts (fun _ _ _ _ _ _ us hl => match us, hl with | [_, _, _], _ => rfl) (by walk_at "ln") (fun A outer s H vs Q E hr h => ⟨rd_all_cuts K, dv_all_cuts T hr, pure_all_cuts K T.av vs H Q E h⟩)
theorem dv_table {f : Addr} {cdv : Value} {A : Around} {outer : List Env} {s : Shared} {H : Hp} {E : XK} (T : Tx K mg base) (hr : Room 7 (A.deeper (envOfC "table" (defScope st_table) s.heap.objs.size f cdv))) : PSs (cxOf CX0 PP w K mg base N_table "table" (defScope st_table) f cdv A outer s H E).nox (defBody st_table) (rd_table K) := by
  exact pss_cons (ps_par (by rfl) sc_table.nd rfl rfl (by decide) rfl rfl (pa_cons (FW.pe_f (ok_low_gap T) hr (by decide) (by rfl) (pa_cons (pv 0) (pa_nil))) (pa_cons (FW.pe_f (ok_top_gap T) hr (by decide) (by rfl) (pa_cons (pv 0) (pa_nil))) (pa_nil))) (by rfl)) (pss_cons (ps_set (i := 3) sc_table.nd rfl (Or.inl rfl) (FW.pe_f (ok_all_cuts T) hr (by decide) (by rfl) (pa_cons (pv 0) (pa_cons (pv 1) (pa_cons (pv 2) (pa_nil)))))) (pss_cons (ps_set (i := 4) sc_table.nd rfl (Or.inl rfl) (pe_op FW.opSub (pe_int) (pv 1))) (pss_cons (ps_for PassesOwn.never rfl (pi_list (FW.pe_f (ok_conditions T) hr (by decide) (by rfl) (pa_cons (pv 0) (pa_cons (pv 1) (pa_cons (pv 2) (pa_cons (pv 3) (pa_nil))))))) (pg_name (i := 5) sc_table.nd rfl (Or.inl rfl)) (pss_one (ps_set (i := 4) sc_table.nd rfl (Or.inl rfl) (FW.pe_f (ok_positive_from T) hr (by decide) (by rfl) (pa_cons (pv 5) (pa_cons (pv 4) (pa_nil))))))) (pss_one (ps_ret (pe_tup (pa_cons (pv 4) (pa_cons (pv 1) (pa_cons (pv 2) (pa_cons (pe_callTy call_tuple_of (by rfl) T.n_tuple (by decide +kernel) (pa_cons (pv 3) (pa_nil))) (pa_cons (pe_callTy call_tuple_of (by rfl) T.n_tuple (by decide +kernel) (pa_cons (FW.pe_f (ok_maps_of T) hr (by decide) (by rfl) (pa_cons (pv 0) (pa_cons (pv 1) (pa_cons (pv 2) (pa_cons (pv 3) (pa_nil)))))) (pa_nil))) (pa_nil))))))))))))
theorem ok_table (T : Tx K mg base) : Fn PP w K mg base CX0 8 "table" (sp_table K) [] :=
  Fn.mk0 T.d_table T.g_table sc_table (fun _ _ _ _ _ _ us hl => match us, hl with | [_], _ => rfl) (by walk_at "ln") (fun cdv A outer s H vs Q E hr h => ⟨rd_table K, dv_table T hr, pure_table K vs H Q E h⟩)
theorem dv_law {f : Addr} {cdv : Value} {A : Around} {outer : List Env} {s : Shared} {H : Hp} {E : XK} (T : Tx K mg base) (hr : Room 8 (A.deeper (envOfC "law" (defScope st_law) s.heap.objs.size f cdv))) : PSs (cxOf CX0 PP w K mg base N_law "law" (defScope st_law) f cdv A outer s H E).nox (defBody st_law) (rd_law K) := by
  exact pss_cons (ps_for PassesOwn.never rfl (pi_range1 (by rfl) T.n_range (pa_cons (pe_int) (pa_nil))) (pg_name (i := 1) sc_law.nd rfl (Or.inl rfl)) (pss_cons (ps_set (i := 2) sc_law.nd rfl (Or.inl rfl) (FW.pe_f (ok_l_stream T) hr (by decide) (by rfl) (pa_cons (pv 0) (pa_cons (pv 1) (pa_nil))))) (pss_cons (ps_set (i := 3) sc_law.nd rfl (Or.inl rfl) (FW.pe_f (ok_l_parts T) hr (by decide) (by rfl) (pa_cons (pv 2) (pa_nil)))) (pss_cons (ps_set (i := 4) sc_law.nd rfl (Or.inl rfl) (FW.pe_f (ok_table T) hr (by decide) (by rfl) (pa_cons (FW.pe_f (ok_l_loop T) hr (by decide) (by rfl) (pa_cons (pv 3) (pa_nil))) (pa_nil)))) (pss_cons (ps_if (PW.pt (pw_or (pt_not (pt_val (FW.pe_f (ok_l_has_form T) hr (by decide) (by rfl) (pa_cons (pv 4) (pa_nil))))) (pw_or1 (pt_cmpR (op_neD hr.units) (pe_slice sl_tupA (pv 4) (po_some (pe_int)) (po_some (pe_int))) (FW.pe_f (ok_l_window T) hr (by decide) (by rfl) (pa_cons (pv 3) (pa_nil))) (nomark _))))) (pss_one (ps_ret (pe_bl))) (pss_nil)) (pss_cons (ps_asg (pv 4) (pg_tup rfl (pgs_cons (pg_name (i := 5) sc_law.nd rfl (Or.inl rfl)) (pgs_cons (pg_name (i := 6) sc_law.nd rfl (Or.inl rfl)) (pgs_cons (pg_name (i := 7) sc_law.nd rfl (Or.inl rfl)) (pgs_cons (pg_name (i := 8) sc_law.nd rfl (Or.inl rfl)) (pgs_cons (pg_name (i := 9) sc_law.nd rfl (Or.inr rfl)) (pgs_nil)))))))) (pss_cons (ps_if (PW.pt (pw_or (pt_not (pt_chain op_le op_le (pe_op FW.opSub (pe_int) (pv 6)) (pv 5) (pe_int))) (pw_or1 (pt_cmpR op_ne (FWK.pe_lenSetT rfl hr.units (by rfl) T.n_len (by rfl) T.n_set (pv 8)) (pe_callB call_len_seq (by rfl) T.n_len (by decide +kernel) (pa_cons (pv 8) (pa_nil))) (nomark _))))) (pss_one (ps_ret (pe_bl))) (pss_nil)) (pss_cons (ps_if (pt_cmpR (op_neD hr.units) (pe_lc (own := [("_law_t", 10)]) (g := gName 10) (tt := tTest (tOp (rEqD K) (tOp (rIxT K) (tVar 9) (tVar 10)) (tOp (rIxT K) (tVar 9) (tOp FW.rAdd (tVar 10) (tC (.int 1)))))) rfl sc_law.nd (pi_range1 (by rfl) T.n_range (pa_cons (pe_callB call_len_seq (by rfl) T.n_len (by decide +kernel) (pa_cons (pv 8) (pa_nil))) (pa_nil))) (blkOk_by (own := [("_law_t", 10)]) (N := N_law) (sc := defScope st_law) (by decide +kernel)) (fun _ _ _ _ _ => pg_name (i := 10) sc_law.nd rfl (Or.inl rfl)) (fun _ _ _ _ _ => pts_one (pt_cmpR (op_eqD hr.units) (pe_ix ix_tup (pv 9) (pv 10) (fun _ _ => rfl)) (pe_ix ix_tup (pv 9) (pe_op FW.opAdd (pv 10) (pe_int)) (fun _ _ => rfl)) (nomark _))) (fun _ _ _ _ _ => pv 10)) (pe_lst (pa_nil)) (nomark _)) (pss_one (ps_ret (pe_bl))) (pss_nil)) (pss_one (ps_for PassesOwn.never rfl (pi_range1 (by rfl) T.n_range (pa_cons (pe_int) (pa_nil))) (pg_name (i := 11) sc_law.nd rfl (Or.inl rfl)) (pss_cons (ps_set (i := 12) sc_law.nd rfl (Or.inl rfl) (FW.pe_f (ok_l_root_drawn T) hr (by decide) (by rfl) (pa_cons (pv 2) (pa_cons (pv 5) (pa_nil))))) (pss_cons (ps_set (i := 13) sc_law.nd rfl (Or.inl rfl) (pe_op FW.opSub (FW.pe_f (ok_l_power T) hr (by decide) (by rfl) (pa_cons (pe_op FW.opAdd (pv 12) (pe_int)) (pa_cons (pe_ix ix_tup (pv 3) (pe_int) (fun _ _ => rfl)) (pa_nil)))) (pe_int))) (pss_one (ps_for PassesOwn.never rfl (pi_list (pe_lst (pa_cons (pe_op FW.opAdd (pv 7) (pe_int)) (pa_cons (pe_op FW.opAdd (pv 7) (pe_int)) (pa_cons (pe_op FW.opAdd (pe_op FW.opAdd (pv 7) (pe_int)) (FW.pe_f (ok_l_draw T) hr (by decide) (by rfl) (pa_cons (pv 2) (pa_cons (pe_int) (pa_nil))))) (pa_cons (pv 12) (pa_nil))))))) (pg_name (i := 14) sc_law.nd rfl (Or.inl rfl)) (pss_cons (ps_set (i := 15) sc_law.nd rfl (Or.inl rfl) (pe_op FW.opAdd (pv 12) (pe_callB (call_max2 rfl) (by rfl) T.n_max (by decide +kernel) (pa_cons (pv 14) (pa_cons (pe_op FW.opAdd (pv 7) (pe_int)) (pa_nil)))))) (pss_one (ps_if (pt_cmpR op_ge (FW.pe_f (ok_l_led T) hr (by decide) (by rfl) (pa_cons (pv 3) (pa_cons (pv 13) (pa_cons (pv 15) (pa_nil))))) (pe_op FW.opSub (pv 15) (FW.pe_f (ok_l_near T) hr (by decide) (by rfl) (pa_cons (pv 3) (pa_nil)))) (nomark _)) (pss_one (ps_ret (pe_bl))) (pss_nil)))))))))))))))))) (pss_one (ps_ret (pe_bl)))
theorem ok_law (T : Tx K mg base) : Fn PP w K mg base CX0 9 "law" (sp_law K) [] :=
  Fn.mk0 T.d_law T.g_law sc_law (fun _ _ _ _ _ _ us hl => match us, hl with | [_], _ => rfl) (by walk_at "ln") (fun cdv A outer s H vs Q E hr h => ⟨rd_law K, dv_law T hr, pure_law K vs H Q E h⟩)
end
/-! ### the head -/
theorem tx_of {K : PySem.W.Frag} {h : Heap} {mg : Str → Option Value} {base : Heap} (X : K.In h) (G : h.Ns mainGlobals mg) (c : He.SaysD fa fn K) (cx : ex K = true) (ce : er.map (fun d => fnE K d.x) = er.map ErrD.val) (TB : ∀ p ∈ tf.map (He.cT K), LamX.TabB base mg p.1 p.2) : Tx K mg base := by
  have EX0 : He.tupB K "STOPS" [.str "notless", .str "equal", .str "near1", .str "near2", .str "back", .str "under", .str "held"] = true := List.all_eq_true.mp cx _ (List.mem_of_getElem? (i := 0) rfl)
  have EX1 : He.tupB K "TOLDS" [.str "old", .str "new", .str "less", .str "more"] = true := List.all_eq_true.mp cx _ (List.mem_of_getElem? (i := 1) rfl)
  have EX2 : He.tupB K "MENDS" [.str "none", .str "down", .str "up", .str "both"] = true := List.all_eq_true.mp cx _ (List.mem_of_getElem? (i := 2) rfl)
  have EX3 : He.tupB K "LOOKS" [.str "under", .str "held"] = true := List.all_eq_true.mp cx _ (List.mem_of_getElem? (i := 3) rfl)
  exact {
    n_abs := He.free_ok X G (c.fact 0 (f := .free "abs") rfl),
    n_all := He.free_ok X G (c.fact 1 (f := .free "all") rfl),
    n_bool := He.free_ok X G (c.fact 2 (f := .free "bool") rfl),
    n_enumerate := He.free_ok X G (c.fact 3 (f := .free "enumerate") rfl),
    n_int := He.free_ok X G (c.fact 4 (f := .free "int") rfl),
    n_isinstance := He.free_ok X G (c.fact 5 (f := .free "isinstance") rfl),
    n_len := He.free_ok X G (c.fact 6 (f := .free "len") rfl),
    n_list := He.free_ok X G (c.fact 7 (f := .free "list") rfl),
    n_max := He.free_ok X G (c.fact 8 (f := .free "max") rfl),
    n_range := He.free_ok X G (c.fact 9 (f := .free "range") rfl),
    n_set := He.free_ok X G (c.fact 10 (f := .free "set") rfl),
    n_sorted := He.free_ok X G (c.fact 11 (f := .free "sorted") rfl),
    n_str := He.free_ok X G (c.fact 12 (f := .free "str") rfl),
    n_tuple := He.free_ok X G (c.fact 13 (f := .free "tuple") rfl),
    n_zip := He.free_ok X G (c.fact 14 (f := .free "zip") rfl),
    g_LOOKS := He.glo_ok X G (c.fact 15 (f := .glo "LOOKS") rfl),
    g_MENDS := He.glo_ok X G (c.fact 16 (f := .glo "MENDS") rfl),
    g_STOPS := He.glo_ok X G (c.fact 17 (f := .glo "STOPS") rfl),
    g_TOLDS := He.glo_ok X G (c.fact 18 (f := .glo "TOLDS") rfl),
    g_is_whole := He.glo_ok X G (c.fact 19 (f := .glo "is_whole") rfl),
    g_is_whole_from := He.glo_ok X G (c.fact 20 (f := .glo "is_whole_from") rfl),
    g_power := He.glo_ok X G (c.fact 21 (f := .glo "power") rfl),
    g_trimmed := He.glo_ok X G (c.fact 22 (f := .glo "trimmed") rfl),
    g_poly_value := He.glo_ok X G (c.fact 23 (f := .glo "poly_value") rfl),
    g_poly_sum := He.glo_ok X G (c.fact 24 (f := .glo "poly_sum") rfl),
    g_poly_product := He.glo_ok X G (c.fact 25 (f := .glo "poly_product") rfl),
    g_poly_less := He.glo_ok X G (c.fact 26 (f := .glo "poly_less") rfl),
    g_poly_power := He.glo_ok X G (c.fact 27 (f := .glo "poly_power") rfl),
    g_settled := He.glo_ok X G (c.fact 28 (f := .glo "settled") rfl),
    g_positive_from := He.glo_ok X G (c.fact 29 (f := .glo "positive_from") rfl),
    g_is_word_of := He.glo_ok X G (c.fact 30 (f := .glo "is_word_of") rfl),
    g_wrong_part := He.glo_ok X G (c.fact 31 (f := .glo "wrong_part") rfl),
    g_top_gap := He.glo_ok X G (c.fact 32 (f := .glo "top_gap") rfl),
    g_low_gap := He.glo_ok X G (c.fact 33 (f := .glo "low_gap") rfl),
    g_least_led := He.glo_ok X G (c.fact 34 (f := .glo "least_led") rfl),
    g_slant := He.glo_ok X G (c.fact 35 (f := .glo "slant") rfl),
    g_end_poly := He.glo_ok X G (c.fact 36 (f := .glo "end_poly") rfl),
    g_rest_poly := He.glo_ok X G (c.fact 37 (f := .glo "rest_poly") rfl),
    g_needed := He.glo_ok X G (c.fact 38 (f := .glo "needed") rfl),
    g_row_cuts := He.glo_ok X G (c.fact 39 (f := .glo "row_cuts") rfl),
    g_in_the_end := He.glo_ok X G (c.fact 40 (f := .glo "in_the_end") rfl),
    g_all_cuts := He.glo_ok X G (c.fact 41 (f := .glo "all_cuts") rfl),
    g_fall_poly := He.glo_ok X G (c.fact 42 (f := .glo "fall_poly") rfl),
    g_above := He.glo_ok X G (c.fact 43 (f := .glo "above") rfl),
    g_conditions := He.glo_ok X G (c.fact 44 (f := .glo "conditions") rfl),
    g_maps_of := He.glo_ok X G (c.fact 45 (f := .glo "maps_of") rfl),
    g_table := He.glo_ok X G (c.fact 46 (f := .glo "table") rfl),
    g__law_stream := He.glo_ok X G (c.fact 47 (f := .glo "_law_stream") rfl),
    g__law_draw := He.glo_ok X G (c.fact 48 (f := .glo "_law_draw") rfl),
    g__law_pick := He.glo_ok X G (c.fact 49 (f := .glo "_law_pick") rfl),
    g__law_power := He.glo_ok X G (c.fact 50 (f := .glo "_law_power") rfl),
    g__law_weights := He.glo_ok X G (c.fact 51 (f := .glo "_law_weights") rfl),
    g__law_parts := He.glo_ok X G (c.fact 52 (f := .glo "_law_parts") rfl),
    g__law_loop := He.glo_ok X G (c.fact 53 (f := .glo "_law_loop") rfl),
    g__law_led := He.glo_ok X G (c.fact 54 (f := .glo "_law_led") rfl),
    g__law_near := He.glo_ok X G (c.fact 55 (f := .glo "_law_near") rfl),
    g__law_window := He.glo_ok X G (c.fact 56 (f := .glo "_law_window") rfl),
    g__law_root_drawn := He.glo_ok X G (c.fact 57 (f := .glo "_law_root_drawn") rfl),
    g__law_has_form := He.glo_ok X G (c.fact 58 (f := .glo "_law_has_form") rfl),
    g_law := He.glo_ok X G (c.fact 59 (f := .glo "law") rfl),
    g_Average := He.glo_ok X G (c.fact 60 (f := .glo "Average") rfl),
    d_is_whole := c.def_ 0 rfl,
    d_is_whole_from := c.def_ 1 rfl,
    d_power := c.def_ 2 rfl,
    d_trimmed := c.def_ 3 rfl,
    d_poly_value := c.def_ 4 rfl,
    d_poly_sum := c.def_ 5 rfl,
    d_poly_product := c.def_ 6 rfl,
    d_poly_less := c.def_ 7 rfl,
    d_poly_power := c.def_ 8 rfl,
    d_settled := c.def_ 9 rfl,
    d_positive_from := c.def_ 10 rfl,
    d_is_word_of := c.def_ 11 rfl,
    d_wrong_part := c.def_ 12 rfl,
    d_Average_init := c.def_ 13 rfl,
    d_Average_led := c.def_ 14 rfl,
    d_Average_nearness := c.def_ 15 rfl,
    d_top_gap := c.def_ 16 rfl,
    d_low_gap := c.def_ 17 rfl,
    d_least_led := c.def_ 18 rfl,
    d_slant := c.def_ 19 rfl,
    d_end_poly := c.def_ 20 rfl,
    d_rest_poly := c.def_ 21 rfl,
    d_needed := c.def_ 22 rfl,
    d_row_cuts := c.def_ 23 rfl,
    d_in_the_end := c.def_ 24 rfl,
    d_all_cuts := c.def_ 25 rfl,
    d_fall_poly := c.def_ 26 rfl,
    d_above := c.def_ 27 rfl,
    d_conditions := c.def_ 28 rfl,
    d_maps_of := c.def_ 29 rfl,
    d_table := c.def_ 30 rfl,
    d_l_stream := c.def_ 31 rfl,
    d_l_draw := c.def_ 32 rfl,
    d_l_pick := c.def_ 33 rfl,
    d_l_power := c.def_ 34 rfl,
    d_l_weights := c.def_ 35 rfl,
    d_l_parts := c.def_ 36 rfl,
    d_l_loop := c.def_ 37 rfl,
    d_l_led := c.def_ 38 rfl,
    d_l_near := c.def_ 39 rfl,
    d_l_window := c.def_ 40 rfl,
    d_l_root_drawn := c.def_ 41 rfl,
    d_l_has_form := c.def_ 42 rfl,
    d_law := c.def_ 43 rfl,
    c_Average := He.cls_ok (c.fact 61 (f := .cls "Average") rfl),
    k_Average := He.mkr_ok (c.fact 62 (f := .mkr "Average") rfl),
    m_Average_led := He.meth_ok (c.fact 63 (f := .meth "Average" "led") rfl),
    m_Average_nearness := He.meth_ok (c.fact 64 (f := .meth "Average" "nearness") rfl),
    a_Average_k := He.noat_ok (c.fact 65 (f := .noat "Average" "k") rfl),
    a_Average_a := He.noat_ok (c.fact 66 (f := .noat "Average" "a") rfl),
    a_Average_c := He.noat_ok (c.fact 67 (f := .noat "Average" "c") rfl),
    a_Average_d := He.noat_ok (c.fact 68 (f := .noat "Average" "d") rfl),
    a_Average_stop := He.noat_ok (c.fact 69 (f := .noat "Average" "stop") rfl),
    a_Average_told := He.noat_ok (c.fact 70 (f := .noat "Average" "told") rfl),
    a_Average_mend := He.noat_ok (c.fact 71 (f := .noat "Average" "mend") rfl),
    t_STOPS := fun H => He.tupB_ok (vs := [.str "notless", .str "equal", .str "near1", .str "near2", .str "back", .str "under", .str "held"]) EX0 H,
    t_TOLDS := fun H => He.tupB_ok (vs := [.str "old", .str "new", .str "less", .str "more"]) EX1 H,
    t_MENDS := fun H => He.tupB_ok (vs := [.str "none", .str "down", .str "up", .str "both"]) EX2 H,
    t_LOOKS := fun H => He.tupB_ok (vs := [.str "under", .str "held"]) EX3 H,
    tb_all_cuts := TB _ (List.mem_map.mpr ⟨("all_cuts", none), by simp [tf], rfl⟩) }
theorem facts {w : World} {K : PySem.W.Frag} {h : Heap} {mg : Str → Option Value} {f : Addr} (X : K.In h) (G : h.Ns mainGlobals mg) (hfa : mg ("law" : Str) = some (.ref f)) (c : He.SaysD fa fn K) (cx : ex K = true) (ce : er.map (fun d => fnE K d.x) = er.map ErrD.val) :
    ∃ fd : FuncData, (∀ (s : Shared) (v : Value), BindsTo s fd ⟨[v], []⟩ [("_law_script", v)]) ∧ ∀ base : Heap, K.In base → base.Ns mainGlobals mg → (∀ p ∈ tf.map (He.cT K), LamX.TabB base mg p.1 p.2) → FnOk PP w K mg base CX0 9 f fd ["_law_script"] (sp_law K) := by
  have e := hfa.symm.trans (He.glo_ok X G (c.fact 59 (f := .glo "law") rfl))
  cases e
  obtain ⟨fd, F⟩ := (c.def_ 43 rfl : ∃ fd, FunD K "law" "law" (defArgs st_law) (defBody st_law) (defScope st_law) [] [] (He.ga K "law") fd)
  have b := FunD.bindsA (ps := ["_law_script"]) F fun _ _ _ _ _ _ us hl => match us, hl with | [_], _ => rfl
  refine ⟨fd, fun s v => b s [v] rfl, fun base _ _ TB => ?_⟩
  have T := tx_of (base := base) X G c cx ce TB
  refine F.ok sc_law (by walk_at "ln") fun cdv A outer s H vs Q E hr h => ?_
  exact ⟨rd_law K, (dv_law T hr).nox, pure_law K vs H Q E h⟩
end FWL
open PySem PySem.W PySem.Calls PyProof.Rows
theorem PySem.Challenge.cw_floorward_k11_windows_of_tables_holds : PySem.Challenge.rw_floorward_k11_windows_of_tables.Holds := by
  w_on; o_law
  refine HandSHeadRun.head_any (r := OpenLaw.row PySem.Challenge.rw_floorward_k11_windows_of_tables) (q := view (OpenLaw.row PySem.Challenge.rw_floorward_k11_windows_of_tables).prog [57]) (H := FWL.hk) (ob := FWL.ob) (M := 30000) (loose := FWL.loose) (d := HandSHeadRun.topDef (OpenLaw.row PySem.Challenge.rw_floorward_k11_windows_of_tables).prog 57) (kwd := []) FWL.ob_eq
    (by kernel_rfl) (fun s => by kernel_rfl) FWL.run (by kernel_rfl) (by kernel_rfl) (by kernel_rfl) (by rfl) (by first | assumption | decide +kernel) (by decide +kernel) ⟨rfl, rfl, rfl, rfl, rfl, by decide +kernel⟩ ?hw ?hc
  case hw => w_witness2
  case hc =>
    refine LamX.walk_ofTsE (l := PySem.Challenge.rw_floorward_k11_windows_of_tables) (n := 63) (k := 9) (x := "_law_script") (CX := fun _ => L2.CX0) rfl (by decide) (by kernel_rfl) ⟨rfl, by decide, by decide⟩ ?F (fun _ _ _ _ _ z => z)
    intro w mg fa h Y G hmg0
    obtain ⟨K, KX, S⟩ := Y
    have hmg : mg ("law" : PySem.Str) = some (.ref fa) := by
      have e : (HandSHeadRun.topDef (OpenLaw.row PySem.Challenge.rw_floorward_k11_windows_of_tables).prog 57).name = ("law" : PySem.Str) := by kernel_rfl
      rw [← e]
      exact hmg0
    obtain ⟨fd, hb, hF⟩ := FWL.facts (w := w) KX G hmg S.d S.ex S.er
    refine ⟨K, KX, fd, FWL.tf.map (He.cT K), FWL.sp_law K, fun p hp => ?_, fun p hp => ?_, fun p hp => ?_, hb, fun H a ns hl hbits hH hS => ⟨a, ns, rfl, FWL.tabs_of hH, hS, fun _ => rfl⟩, hF⟩
    · obtain ⟨q, hq, rfl⟩ := List.mem_map.mp hp; exact S.empty q hq
    · obtain ⟨q, hq, rfl⟩ := List.mem_map.mp hp; exact S.out q hq
    · obtain ⟨q, hq, rfl⟩ := List.mem_map.mp hp; exact PySem.W.codeHd_of_K KX (S.hd q hq)
