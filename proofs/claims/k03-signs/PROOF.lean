import PyProof.Rows.All
import Wide.All
import OpenK.AllK
import Wide.FinOn
import KE.KStateDown
import Lean
import HandS.ForMost
import HandS.Exc
import HandS.WordsExc
import HandS.More
import HandS.Wide
import HandS.WideBits
import HandS.IsInst
import HandS.Style
import HandS.TupAny
import HandS.TupMul
import HandS.SortInts
import HandS.Conv
import HandS.Evl
import HandS.Zip
import HandS.Flow
import HandS.Defaults
import HandS.Head0
import HandS.Head1
import HandS.Head2
import HandS.HeadEnd
import HandS.HeadHook1
import HandS.HeadHook2
import KE.KExcSuper
import HandS.TryMany
import HandS.TryOnly
import HandS.ExcOwn
import KE.GoesMore
import KE.KRevSl
import HandS.Iter
import HandS.Walk
import PySem.Challenge.RW_floorward_k03_signs_from_on
set_option Elab.async false
set_option linter.all false
set_option maxRecDepth 100000
set_option maxHeartbeats 4000000
namespace FW
open PySem PySem.Spec PyProof.Rows L2
/-! ### operators on ints, by short names -/
abbrev rAdd : R2 := rI0 fun i j => .int (i + j)
abbrev rSub : R2 := rI0 fun i j => .int (i - j)
abbrev rMul : R2 := rI CMulW fun i j => .int (i * j)
abbrev rDiv : R2 := rI CDivW fun i j => .int (i / j)
abbrev rMod : R2 := rI (fun _ j => 0 < j) fun i j => .int (i % j)
abbrev rPow : R2 := rI CPow fun i j => .int (i ^ j.toNat)
abbrev rShr : R2 := rI (fun _ j => 0 ≤ j) fun i j => .int (i / 2 ^ j.toNat)
abbrev rNeg : V → Hp → VK → Prop := rU fun i => .int (-i)
abbrev rLt : R2 := rI0 fun i j => .bl (decide (i < j))
abbrev rLe : R2 := rI0 fun i j => .bl (decide (i ≤ j))
abbrev rGt : R2 := rI0 fun i j => .bl (decide (j < i))
abbrev rGe : R2 := rI0 fun i j => .bl (decide (j ≤ i))
abbrev rIsN : R2 := fun x y H Q => y = .non ∧ Q (.bl (decide (x = .non))) H
abbrev rNotN : R2 := fun x y H Q => y = .non ∧ Q (.bl (!decide (x = .non))) H
abbrev rAddS : R2 := fun x y H Q => ∃ i j, x = .str i ∧ y = .str j ∧ i.length + j.length ≤ sizeLine ∧ Q (.str (i ++ j)) H
abbrev rAbs : List V → Hp → VK → Prop := fun xs H Q => ∃ i, xs = [.int i] ∧ Q (.int (if i < 0 then -i else i)) H
abbrev rMax2 : List V → Hp → VK → Prop := fun xs H Q => ∃ i j, xs = [.int i, .int j] ∧ Q (.int (if j > i then j else i)) H
abbrev rMin2 : List V → Hp → VK → Prop := fun xs H Q => ∃ i j, xs = [.int i, .int j] ∧ Q (.int (if j < i then j else i)) H
abbrev rInt1 : List V → Hp → VK → Prop := fun xs H Q => (∃ i, xs = [.int i] ∧ Q (.int i) H) ∨ ∃ k, xs = [.bl k] ∧ Q (.int (if k then 1 else 0)) H
abbrev rStrI : List V → Hp → VK → Prop := fun xs H Q => ∃ i, xs = [.int i] ∧ i.natAbs.log2 < 1920 ∧ Q (.str (toString i)) H
abbrev rLenStr : List V → Hp → VK → Prop := fun xs H Q => ∃ z, xs = [.str z] ∧ z.length ≤ sizeLine ∧ Q (.int z.length) H
abbrev rTupS (K : PySem.W.Frag) : List V → Hp → VK → Prop := fun xs H Q => ∃ p ys, xs = [.ref p] ∧ ((SqL K H p ys ∧ ∀ l, H l = none → Q (.ref l) (upd H l (.tup ys))) ∨ (SqT K H p ys ∧ Q (.ref p) H))
abbrev tTru (K : PySem.W.Frag) (ta : TE) : TT := fun σ H Q => ta σ H fun x H' => ∃ k, TruV K x H' k ∧ Q k H'
/-- x op= y -/
abbrev iAdd : TIp := ipI fun i j => i + j
abbrev iSub : TIp := ipI fun i j => i - j
abbrev iMul : TIp := rI CMulW fun i j => .int (i * j)
section
variable {X : Cx}
theorem opAdd : OpR X (binaryOp .Add) rAdd := op_add
theorem opSub : OpR X (binaryOp .Sub) rSub := op_sub
theorem opMul : OpR X (binaryOp .Mult) rMul := op_mulW
theorem opDiv : OpR X (binaryOp .FloorDiv) rDiv := op_fdivW
theorem opMod : OpR X (binaryOp .Mod) rMod := op_mod
theorem opPow : OpR X (binaryOp .Pow) rPow := op_pow
theorem opShr : OpR X (binaryOp .RShift) rShr := op_shr
theorem op_addS : OpR X (binaryOp .Add) rAddS := op_add_str
theorem ipAdd : PIp X .Add iAdd := ip_add
theorem ipSub : PIp X .Sub iSub := ip_sub
theorem ipMul : PIp X .Mult iMul := fun pins s σ H x y v u Q I rx ry h => by
  obtain ⟨i, j, rfl, rfl, hc, q⟩ := h
  obtain ⟨t, rfl⟩ := rx
  obtain ⟨t', rfl⟩ := ry
  exact imul_int ⟨.int (i * j), H, I.tok _, ⟨_, rfl⟩, q⟩ hc.ok
end
/-! ### defs by their promises -/
/-- a def that may be called by its name -/
structure Fn (P : Program) (w : World) (K : PySem.W.Frag) (mg : Str → Option Value) (base : Heap) (CX : CXT) (k : Nat) (x : Str) (sp : Sp) (dvs : List V) : Prop where
  ex : ∃ (f : Addr) (fd : FuncData) (ps : List Str) (ds : List Value), FnOk P w K mg base CX k f fd ps sp ∧ mg x = some (.ref f) ∧ PySem.W.keepIn K (.ref f) = true ∧ Binds K fd ps ds ∧ Vals dvs ds
/-- a method of the class at C -/
structure Mt (P : Program) (w : World) (K : PySem.W.Frag) (mg : Str → Option Value) (base : Heap) (CX : CXT) (k : Nat) (C : Addr) (m : Str) (sp : Sp) (dvs : List V) : Prop where
  ex : ∃ (f : Addr) (fd : FuncData) (ps : List Str) (ds : List Value), Cls K C ∧ Meth K C m f ∧ FnOk P w K mg base CX k f fd ps sp ∧ Binds K fd ps ds ∧ Vals dvs ds
/-- a class that may be made by its name -/
structure Mkr (P : Program) (w : World) (K : PySem.W.Frag) (mg : Str → Option Value) (base : Heap) (CX : CXT) (k : Nat) (x : Str) (C : Addr) (sp : Sp) (dvs : List V) : Prop where
  ex : ∃ (f : Addr) (fd : FuncData) (ps : List Str) (ds : List Value), Mk K C f ∧ FnOk P w K mg base CX k f fd ps sp ∧ mg x = some (.ref C) ∧ Binds K fd ps ds ∧ Vals dvs ds
section
variable {X : Cx} {CX : CXT} {k j : Nat} {C : Addr} {x m : Str} {sp : Sp} {dvs : List V} {p pos apos : Pos} {e o : Expr} {es : List Expr} {ta : TE} {t : TA} {E : XK}
theorem pe_f (c : Fn X.prog X.w X.K X.mg X.base CX0 k x sp dvs) (hr : Room j X.A) (hk : k ≤ j) (hg : Gl X x) (ha : PA X (e :: es) t)
    (hdb : (x == ("__debug__" : Str)) = false := by decide) (he : starEach (e :: es) X.env = (false, eval e X.env) :: starEach es X.env := by rfl) (hpl : (backTo pos (starEach es X.env)).any (·.1) = false := by rfl) :
    PE X (.Call (.Name x p) (e :: es) [] pos) (tCall sp dvs E0 t) := by
  obtain ⟨f, fd, ps, ds, F, hm, kp, b, d⟩ := c.ex
  exact pe_call F (hr.mono hk) hg hm kp b d pass0 ha hdb he hpl
theorem pe_f0 (c : Fn X.prog X.w X.K X.mg X.base CX0 k x sp dvs) (hr : Room j X.A) (hk : k ≤ j) (hg : Gl X x)
    (hdb : (x == ("__debug__" : Str)) = false := by decide) : PE X (.Call (.Name x p) [] [] pos) (tCall sp dvs E0 tNil) := by
  obtain ⟨f, fd, ps, ds, F, hm, kp, b, d⟩ := c.ex
  exact pe_call0 F (hr.mono hk) hg hm kp b d pass0 hdb
theorem pe_m (c : Mkr X.prog X.w X.K X.mg X.base CX0 k x C sp dvs) (hr : Room j X.A) (hk : k + 1 ≤ j) (hg : Gl X x) (ha : PA X (e :: es) t)
    (hdb : (x == ("__debug__" : Str)) = false := by decide) (he : starEach (e :: es) X.env = (false, eval e X.env) :: starEach es X.env := by rfl) (hpl : (backTo pos (starEach es X.env)).any (·.1) = false := by rfl) :
    PE X (.Call (.Name x p) (e :: es) [] pos) (tMake C sp dvs E0 t) := by
  obtain ⟨f, fd, ps, ds, M, F, hm, b, d⟩ := c.ex
  exact pe_make M F (hr.mono hk) hg hm b d pass0 ha hdb he hpl
theorem pe_o {pl : Sem Bool} (c : Mt X.prog X.w X.K X.mg X.base CX0 k C m sp dvs) (hr : Room j X.A) (hk : k ≤ j) (he : PE X o ta) (ha : PA X (e :: es) t)
    (hst : starEach (e :: es) X.env = (false, eval e X.env) :: starEach es X.env := by rfl) (hpl : (backTo pos (starEach es X.env)).any (·.1) = false := by rfl)
    (ht : eval (.Call (.Attribute o m apos) (e :: es) [] pos) X.env = (do
      let ov ← eval o X.env
      standAt apos.atName
      let (f, first) ← holding [ov] (getMethod ov m pl)
      callWith pos f first (backTo pos (starEach (e :: es) X.env)) (backToKw pos (keywordEach [] X.env))) := by rfl) :
    PE X (.Call (.Attribute o m apos) (e :: es) [] pos) (tMeth C m sp dvs E0 ta t) := by
  obtain ⟨f, fd, ps, ds, hc, hm, F, b, d⟩ := c.ex
  exact pe_meth (pl := pl) he hc hm F (hr.mono hk) b d pass0 ha hst hpl ht
theorem pe_o0 {pl : Sem Bool} (c : Mt X.prog X.w X.K X.mg X.base CX0 k C m sp dvs) (hr : Room j X.A) (hk : k ≤ j) (he : PE X o ta)
    (ht : eval (.Call (.Attribute o m apos) [] [] pos) X.env = (do
      let ov ← eval o X.env
      standAt apos.atName
      let (f, first) ← holding [ov] (getMethod ov m pl)
      callWith pos f first (backTo pos (starEach [] X.env)) (backToKw pos (keywordEach [] X.env))) := by rfl) :
    PE X (.Call (.Attribute o m apos) [] [] pos) (tMeth C m sp dvs E0 ta tNil) := by
  obtain ⟨f, fd, ps, ds, hc, hm, F, b, d⟩ := c.ex
  exact pe_meth0 (pl := pl) he hc hm F (hr.mono hk) b d pass0 ht
/-- a module's name that is an int -/
theorem pe_gcI {i : Int} (hg : Gl X x) (h : ∃ t, X.mg x = some (.int i t)) (hd : (x == ("__debug__" : Str)) = false := by decide) : PE X (.Name x pos) (tC (.int i)) := by
  obtain ⟨t, hm⟩ := h
  exact pe_glob hg hm ⟨t, rfl⟩ hd
end
/-! ### defs of the head, by their data -/
section
variable {P : Program} {w : World} {K : PySem.W.Frag} {mg : Str → Option Value} {base : Heap}
/-- a def of the module (no defaults), from its body -/
theorem Fn.mk0 {x : Str} {params : Arguments} {body : List Stmt} {scope : Scope} {f : Addr} {N ps : List Str} {k : Nat} {sp : Sp}
    (F : ∃ fd, FunD K x x params body scope [] [] f fd) (g : mg x = some (.ref f)) (S : FnScope N ps scope)
    (hb : ∀ (kV doc pm : Value) (an : Option Addr) (cdv ct : Value) (us : List Value), us.length = ps.length → bindArgs (PySem.W.fnOf x x params body scope .none kV doc pm an cdv ct) ⟨us, []⟩ = pure (ps.zip us))
    (len : ∀ vs H Q E, sp vs H Q E → vs.length = ps.length)
    (hbody : ∀ (cdv : Value) (A : Around) (outer : List Env) (s : Shared) (H : Hp) (vs : List V) (Q : VK) (E : XK), Room k (A.deeper (envOfC x scope s.heap.objs.size f cdv)) → sp vs H Q E →
      ∃ t, PSs (cxOf CX0 P w K mg base N x scope f cdv A outer s H E).nox body t ∧ t { nx := fun _ H' => Q .non H', rt := Q } (start N vs) H) : Fn P w K mg base CX0 (k + 1) x sp [] := by
  obtain ⟨fd, F⟩ := F
  refine ⟨f, fd, ps, [], ?_, g, F.kp, ?_, .nil⟩
  · refine F.ok S len fun cdv A outer s H vs Q E hr h => ?_
    obtain ⟨t, h1, h2⟩ := hbody cdv A outer s H vs Q E hr h
    exact ⟨t, h1.nox, h2⟩
  · exact F.bindsN fun kV doc pm an cdv ct us hl => hb kV doc pm an cdv ct us hl
/-- a method (no defaults) -/
theorem Mt.mk0 {m qual : Str} {C : Addr} {params : Arguments} {body : List Stmt} {scope : Scope} {f : Addr} {N ps : List Str} {k : Nat} {sp : Sp}
    (c : Cls K C) (me : Meth K C m f) (F : ∃ fd, FunD K m qual params body scope [] [] f fd) (S : FnScope N ps scope)
    (hb : ∀ (kV doc pm : Value) (an : Option Addr) (cdv ct : Value) (us : List Value), us.length = ps.length → bindArgs (PySem.W.fnOf m qual params body scope .none kV doc pm an cdv ct) ⟨us, []⟩ = pure (ps.zip us))
    (len : ∀ vs H Q E, sp vs H Q E → vs.length = ps.length)
    (hbody : ∀ (cdv : Value) (A : Around) (outer : List Env) (s : Shared) (H : Hp) (vs : List V) (Q : VK) (E : XK), Room k (A.deeper (envOfC qual scope s.heap.objs.size f cdv)) → sp vs H Q E →
      ∃ t, PSs (cxOf CX0 P w K mg base N qual scope f cdv A outer s H E).nox body t ∧ t { nx := fun _ H' => Q .non H', rt := Q } (start N vs) H) : Mt P w K mg base CX0 (k + 1) C m sp [] := by
  obtain ⟨fd, F⟩ := F
  refine ⟨f, fd, ps, [], c, me, ?_, ?_, .nil⟩
  · refine F.ok S len fun cdv A outer s H vs Q E hr h => ?_
    obtain ⟨t, h1, h2⟩ := hbody cdv A outer s H vs Q E hr h
    exact ⟨t, h1.nox, h2⟩
  · exact F.bindsN hb
/-- a class by its __init__ (no defaults) -/
theorem Mkr.mk0 {x qual : Str} {C : Addr} {params : Arguments} {body : List Stmt} {scope : Scope} {f : Addr} {N ps : List Str} {k : Nat} {sp : Sp}
    (M : Mk K C f) (g : mg x = some (.ref C)) (F : ∃ fd, FunD K "__init__" qual params body scope [] [] f fd) (S : FnScope N ps scope)
    (hb : ∀ (kV doc pm : Value) (an : Option Addr) (cdv ct : Value) (us : List Value), us.length = ps.length → bindArgs (PySem.W.fnOf "__init__" qual params body scope .none kV doc pm an cdv ct) ⟨us, []⟩ = pure (ps.zip us))
    (len : ∀ vs H Q E, sp vs H Q E → vs.length = ps.length)
    (hbody : ∀ (cdv : Value) (A : Around) (outer : List Env) (s : Shared) (H : Hp) (vs : List V) (Q : VK) (E : XK), Room k (A.deeper (envOfC qual scope s.heap.objs.size f cdv)) → sp vs H Q E →
      ∃ t, PSs (cxOf CX0 P w K mg base N qual scope f cdv A outer s H E).nox body t ∧ t { nx := fun _ H' => Q .non H', rt := Q } (start N vs) H) : Mkr P w K mg base CX0 (k + 1) x C sp [] := by
  obtain ⟨fd, F⟩ := F
  refine ⟨f, fd, ps, [], M, ?_, g, ?_, .nil⟩
  · refine F.ok S len fun cdv A outer s H vs Q E hr h => ?_
    obtain ⟨t, h1, h2⟩ := hbody cdv A outer s H vs Q E hr h
    exact ⟨t, h1.nox, h2⟩
  · exact F.bindsN hb
/-- .. with defaults dvs, of which those behind the first j fill up -/
theorem Mkr.mkD {x qual : Str} {C : Addr} {params : Arguments} {body : List Stmt} {scope : Scope} {f : Addr} {N ps : List Str} {k : Nat} {sp : Sp} {dvs : List V}
    (n j : Nat) (M : Mk K C f) (g : mg x = some (.ref C)) (F : ∃ fd, FunD K "__init__" qual params body scope dvs [] f fd) (S : FnScope N ps scope) (hd : dvs ≠ []) (hn : n + (dvs.length - j) = ps.length)
    (hb : ∀ (T : Addr) (kV doc pm : Value) (an : Option Addr) (cdv ct : Value) (us its : List Value), us.length = n → its.length = dvs.length →
      ∃ k, bindArgs (PySem.W.fnOf "__init__" qual params body scope (.ref T) kV doc pm an cdv ct) ⟨us, []⟩ = seqItems? (.ref T) >>= k ∧ k (some its.toArray) = pure (ps.zip (us ++ its.drop j)))
    (len : ∀ vs H Q E, sp vs H Q E → vs.length = ps.length)
    (hbody : ∀ (cdv : Value) (A : Around) (outer : List Env) (s : Shared) (H : Hp) (vs : List V) (Q : VK) (E : XK), Room k (A.deeper (envOfC qual scope s.heap.objs.size f cdv)) → sp vs H Q E →
      ∃ t, PSs (cxOf CX0 P w K mg base N qual scope f cdv A outer s H E).nox body t ∧ t { nx := fun _ H' => Q .non H', rt := Q } (start N vs) H) : Mkr P w K mg base CX0 (k + 1) x C sp (dvs.drop j) := by
  obtain ⟨fd, F⟩ := F
  obtain ⟨ds, hv, hbn⟩ := F.binds1 (ps := ps) n j hd hn hb
  refine ⟨f, fd, ps, ds, M, ?_, g, hbn, hv⟩
  refine F.ok S len fun cdv A outer s H vs Q E hr h => ?_
  obtain ⟨t, h1, h2⟩ := hbody cdv A outer s H vs Q E hr h
  exact ⟨t, h1.nox, h2⟩
end
/-! ### the head's facts, with one more Bool -/
abbrev AlX : Type := He.AlD × Bool
def obsX (fa : List He.Fa) (fn : List He.DefD) (ex : PySem.W.Frag → Bool) (K : PySem.W.Frag) : AlX := (He.obsD fa fn K, ex K)
def obsXG (n : Nat) (fa : List He.Fa) (fn : List He.DefD) (ex : PySem.W.Frag → Bool) (g : Addr → Option Obj) : AlX := obsX fa fn ex (He.frG g (He.asD g n))
def hookX (n : Nat) (fa : List He.Fa) (fn : List He.DefD) (ex : PySem.W.Frag → Bool) : PySem.W.Hook where
  α := AlX
  obs := fun s => obsXG n fa fn ex s.heap.get?
  val := fun _ => (He.valD fn, true)
  says := fun _ h => ∃ K : PySem.W.Frag, K.In h ∧ He.SaysD fa fn K ∧ ex K = true
  of := fun _ _ e => ⟨_, He.frG_in, congrArg (fun z : AlX => z.1) e, congrArg (fun z : AlX => z.2) e⟩
  keeps := fun _ _ _ ⟨K, hK, c⟩ k => ⟨K, PySem.W.Frag.In.keeps hK k, c⟩
theorem obsXG_eq {n : Nat} {fa : List He.Fa} {fn : List He.DefD} {ex : PySem.W.Frag → Bool} {g : Addr → Option Obj} {s : Shared} (h : ∀ a, g a = s.heap.get? a) : obsXG n fa fn ex g = (hookX n fa fn ex).obs s := by
  have e : g = s.heap.get? := funext h
  rw [e] <;> rfl
end FW
/-! own errors: class X(FloorError): def __init__(self, f): super().__init__('..'); self.f = f -/
namespace PySem
namespace ErrX
open PySem.W PySem.Calls PyProof.Rows PySem.HandSPX
def eA1 (f : Str) (p1 p2 : Pos) : Arguments := { posonlyargs := [], args := [{ arg := "self", annotation := none, pos := p1 }, { arg := f, annotation := none, pos := p2 }], vararg := none, kwonlyargs := [], kw_defaults := [], kwarg := none, defaults := [] }
def eB1 (f txt : Str) (q1 q2 q3 q4 q5 q6 q7 q8 q9 q10 : Pos) : List Stmt := [.Expr (.Call (.Attribute (.Call (.Name "super" q1) [] [] q2) "__init__" q3) [.Constant (.str txt) 0 q4] [] q5) q6, .Assign [.Attribute (.Name "self" q7) f q8] (.Name f q9) q10]
def eS1 (f : Str) : Scope := { kind := .function, names := [("self", .local), (f, .local), ("__class__", .free), ("super", .globalImplicit)], isGenerator := false, isCoroutine := false, more := [] }
/-- what the written part says of a class at C and of its __init__ at fI -/
structure ErrC (prog : Program) (K : Frag) (C fI : Addr) (f : Str) : Prop where
  cls : ∃ nm q N bs bm sn sub ab col dd k0 k1 k2 k3 k5, K.lookup C = some (excClassObj nm q C N bs bm true sn sub ab col dd k0 k1 k2 k3 k5 "ValueError.__new__") ∧ refsVE bm = true
  sa : findIn K (.ref C) "__setattr__" = some (some (.builtin "object.__setattr__"))
  ga : findIn K (.ref C) "__getattribute__" = some (some (.builtin "BaseException.__getattribute__"))
  gg : findIn K (.ref C) "__getattr__" = some none
  noN : findIn K (.ref C) f = some none
  iC : findIn K (.ref C) "__init__" = some (some (.ref fI))
  tC : typeIn K (.ref fI) = some (.type "function")
  kC : keepIn K (.ref C) = true
  exC : subIn K (.ref C) (.type "BaseException") = some true
  veC : subIn K (.ref C) (.type "ValueError") = some true
  tyC : typeIn K (.ref C) = some (.type "type")
  hdC : hasDictIn K C = true
  mro : mroIn K C (.ref C) = some true
  sup : nsIn K mainGlobals "super" = some none
  tp : nsIn K cStatics "thirdparty.any" = some none
  si : ks_superIn K C C "__init__" = some (some (.builtin "ValueError.__init__"))
  top : (prog.main.scope.names.lookup ("super" : Str)).isSome = false
  fn : ∃ (cc cda : Addr) (qual : Str) (oc : Value) (od : Option Addr) (kV doc pm : Value) (an : Option Addr) (ct : Value) (osl : Array (Option Value)) (txt : Str) (p1 p2 q1 q2 q3 q4 q5 q6 q7 q8 q9 q10 : Pos) (cl ccl : Value) (cld cdd : Option Addr) (csl ccs : Array (Option Value)) (vs : Array Value) (tf : Tok), (q3.endLine == q5.line) = true ∧
    K.lookup fI = some ⟨oc, od, .func (ksFn "__init__" qual (eA1 f p1 p2) (eB1 f txt q1 q2 q3 q4 q5 q6 q7 q8 q9 q10) (eS1 f) .none kV doc pm an (.ref cda) ct cc), osl⟩ ∧ codeIn K (.ref cda) qual = true ∧
    K.lookup cc = some ⟨cl, cld, .cell (some (.ref C)), csl⟩ ∧ K.lookup cda = some ⟨ccl, cdd, .fields vs, ccs⟩ ∧ vs[2]? = some (.str prog.main.file tf)
/-- what __init__ leaves of a fresh exception at x -/
structure InitEnd (h h' : Heap) (x C dx t1 : Addr) (f : Str) (v : Value) : Prop where
  keep : ∀ b o, b ≠ x → h.get? b = some o → h'.get? b = some o
  obj : h'.get? x = some { cls := .ref C, dict := some dx, data := .fields #[.ref t1, .none, .none, .none, .bool false, .none] }
  dbig : h.objs.size ≤ dx
  dne : dx ≠ x
  ns : h'.Ns1 dx (fun y => if y = f then some v else none)
/-- a made one -/
structure OwnMade (h h' : Heap) (e C d : Addr) (f : Str) (v : Value) : Prop where
  keep : ∀ b o, h.get? b = some o → h'.get? b = some o
  new : h.objs.size ≤ e
  obj : ∃ oe vs, h'.get? e = some oe ∧ oe.cls = .ref C ∧ oe.dict = some d ∧ oe.data = .fields vs ∧ vs[1]? = some .none
  dbig : h.objs.size ≤ d
  dne : d ≠ e
  ns : h'.Ns1 d (fun y => if y = f then some v else none)
section
variable {prog : Program} {w : World} {A : Around} {E : Value → Shared → Prop} {R : Result → Shared → Prop} {s : Shared} {K : Frag} {mg mb : Str → Option Value} {C fI : Addr} {f : Str}
/-- the bound __init__ called -/
theorem call_mw {h : Heap} {g : Array GenState} {d : Drawn} {tk : Nat} {os : OsState} {u x t0 : Addr} {rest : List Value} {Q : Value → Shared → Prop} {nm q : Str} {N : Addr} {bs bm : List Value} {sn : List Str} {sub : List Value} {ab : Bool} {col : Option Bool} {dd : Option Addr} {k0 k1 k2 k3 k5 : Option Value}
    (hC : h.get? C = some (excClassObj nm q C N bs bm true sn sub ab col dd k0 k1 k2 k3 k5 "ValueError.__new__")) (hx : h.get? x = some (excO C t0)) (hu : h.get? u = some (kxs_mw "ValueError.__init__" x)) (hz : rest.length ≤ sizeLine)
    (hq : ∀ h' t1, (∀ b o, b ≠ x → h.get? b = some o → h'.get? b = some o) → h'.get? x = some (excO C t1) → Q .none ⟨h', g, d, tk, os⟩) :
    wpAny (model prog w) A (call (.ref u) rest) Q E ⟨h, g, d, tk, os⟩ := by
  refine wpAny_call (codeAny_of_tree ?_)
  show wpAny _ A.in1 (callAny (.ref u) ⟨rest, []⟩) _ _ _
  simp only [callAny]
  refine wpAny_bind (wpAny_load hu ?_)
  simp only [kxs_mw, show (Value.type "method-wrapper" == Value.type "method" || Value.type "method-wrapper" == Value.type "builtin_function_or_method" || Value.type "method-wrapper" == Value.type "method-wrapper") = true by decide, if_true]
  refine KFB.if_so (by decide) ?_
  refine wpAny_bind (check_bound_init F.excBase_ValueError.toExcCallFacts hC hx rfl ?_)
  refine wpAny_bind (wpAny_pure (wpAny_pure ?_))
  refine ⟨plainId_quiet F.excBase_ValueError.init.plain _, codeAny_builtin F.excBase_ValueError.initEntry ?_⟩
  exact exc_init_tree (cls := .ref C) (t0 := t0) (dv := none) (c2 := .none) (c3 := .none) (b4 := .bool false) hx hz fun h' k e' _ => hq h' _ k e'
theorem ns_keep {h h' : Heap} {L : Addr} {m : Str → Option Value} (hn : h.Ns L m) (k : ∀ o, h.get? L = some o → h'.get? L = some o) : h'.Ns L m := by
  obtain ⟨oL, esL, epL, eL, rL⟩ := hn
  exact ⟨oL, esL, epL, k _ eL, rL⟩
/-- a method call whose name stands in the row of the call -/
theorem eval_mc {env : Env} {o : Expr} {name txt : Str} {q3 q4 q5 : Pos} (hl : (q3.endLine == q5.line) = true) : eval (.Call (.Attribute o name q3) [.Constant (.str txt) 0 q4] [] q5) env = (do
    let ov ← attributeBase o name env (eval o env)
    standAt q3.atName
    let (f, first) ← holding [ov] (getMethod ov name (do return (← importBound o env).getD true))
    callWith q5 f first (backTo q5 (starEach [.Constant (.str txt) 0 q4] env)) []) := by
  show (do
    let ov ← attributeBase o name env (eval o env)
    standAt q3.atName
    methodCall o name q3 q5 env ov 1 (backTo q5 (starEach [.Constant (.str txt) 0 q4] env)) []) = _
  have hf : methodCallForm 1 (backTo q5 (starEach [.Constant (.str txt) 0 q4] env)) [] = true := rfl
  have hp : methodCallPos true o env q3 q5 = pure q5 := by
    unfold methodCallPos
    rw [hl]
    rfl
  unfold methodCall calleeOf
  rw [hf, hp]
  rfl
theorem err_init (T : ErrC prog K C fI f) (hf : f = "value" ∨ f = "word" ∨ f = "field") {x t0 : Addr} {v : Value} (X : K.In s.heap) (hlim : s.heap.NoLimit) (G : s.heap.Ns mainGlobals mg) (B : s.heap.Ns builtinsNs mb) (hB : ∀ x : Str, x ≠ "__name__" → mb x = bootBuiltins x)
    (hx : s.heap.get? x = some (excO C t0)) (hnx : ¬ (K.lookup x).isSome = true) (hroom : A.depth < recursionLimit)
    (hq : ∀ h' tk dx t1, InitEnd s.heap h' x C dx t1 f v → R (.ok (.ret .none)) { s with heap := h', toks := tk }) :
    codeAny (model prog w) A (.call (.ref fI) ⟨[.ref x, v], []⟩) R s := by
  obtain ⟨cc, cda, qual, oc, od, kV, doc, pm, an, ct, osl, txt, p1, p2, q1, q2, q3, q4, q5, q6, q7, q8, q9, q10, cl, ccl, cld, cdd, csl, ccs, vs, tf, hln, ho, hcd, hcc, hcda, hvs⟩ := T.fn
  obtain ⟨nm, q, N, bs, bm, sn, sub, ab, col, dd, k0, k1, k2, k3, k5, hC, hbm⟩ := T.cls
  have hcl : clsIn K C = some { name := nm, bases := bs, mro := .ref C :: bm, ns := N, qualname := q, hasDict := true, slotNames := sn, subclasses := sub, abstract := ab, collection := col, hasDel := false } := by unfold clsIn; rw [hC] <;> rfl
  obtain ⟨hp, g, d, tk, os⟩ := s
  have hsi : alongIn K "__init__" ((((Value.ref C :: bm)).dropWhile (· != .ref C)).drop 1) = some (some (.builtin "ValueError.__init__")) := by
    have z := T.si
    unfold ks_superIn at z
    rw [hcl] at z
    exact z
  rcases hf with rfl | rfl | rfl
  all_goals
    refine ks_codeAny_call_defAt (fd := ksFn "__init__" qual (eA1 _ p1 p2) (eB1 _ txt q1 q2 q3 q4 q5 q6 q7 q8 q9 q10) (eS1 _) .none kV doc pm an (.ref cda) ct cc) (body := eB1 _ txt q1 q2 q3 q4 q5 q6 q7 q8 q9 q10) (binds := [("self", .ref x), (_, v)])
      hroom (X _ _ ho) rfl hlim (codeRec_of X hcd) rfl (BindsTo.of_eq (by first | rfl | with_unfolding_all rfl)) (fun y hy => (show ∀ y ∈ (eS1 _).names, y.2 ≠ .cell by decide) y hy)
      (fun y hy => by
        rcases List.mem_cons.mp hy with rfl | hy
        · rfl
        · rcases List.mem_cons.mp hy with rfl | hy
          · rfl
          · cases hy) (fun h₁ hns hk₁ => ?_) rfl rfl rfl
    have X₁ : K.In h₁ := X.keeps hk₁
    have hx₁ := hk₁ _ _ hx
    have zL : hp.objs.size < h₁.objs.size := hns.lt
    have hxL : hp.objs.size ≠ x := Nat.ne_of_gt (Heap.lt_size hx)
    -- super().__init__('..')
    show wpAt _ _ _ (execs (_ :: _) _) _ _ _
    refine ks_wpAt_execs_cons (ks_wpAt_Expr_any (ks_wpAt_MethodCall ?_ (eval_mc hln)))
    refine ks_wpAt_super_base (f := fI) (cc := cda) (ar := { arg := "self", annotation := none, pos := p1 }) rfl rfl (by decide) rfl (X₁ _ _ ho) rfl rfl rfl (X₁ _ _ hcda) rfl hvs (beq_self_eq_true _) T.top ?_
    refine ks_loadName_global rfl rfl (loadGlobal_builtin (G.keeps hk₁) (mg_none_of X G T.sup) (B.keeps hk₁) ((hB _ (by decide)).trans (by first | boot_by_name | rfl | kernel_rfl)) ⟨rfl, ?_⟩)
    refine wpAny_loadName_free rfl rfl rfl ⟨_, X₁ _ _ hcc, rfl⟩ ?_
    refine wpAny_loadName_local rfl rfl hns (by rfl) ?_
    refine ks_wpAny_isType_cls (X₁ _ _ hC) rfl ⟨rfl, ?_⟩
    refine ks_wpAny_call_super (X₁ _ _ hC) rfl hx₁ rfl (fun c e => by cases e) (looks_mroIn X₁ T.mro) (fun h₂ hso k₂ => ?_)
    have X₂ : K.In h₂ := X₁.keeps k₂
    have hx₂ := k₂ _ _ hx₁
    have I₂ : InstAt h₂ x (excO C t0) C none := ⟨hx₂, rfl, rfl, trivial⟩
    refine kxs_getMethod kxs_ValueError hso (looks_opaque X₂ T.tp) (l₀ := .ref C :: bm) (fun A Q E s k q => wpAny_bind ((looks_clsIn X₂ hcl) A _ E s k (wpAny_pure q))) rfl X₂ hsi (I₂.type.andThen (looks_subIn X₂ T.veC)) (ks_ne X₂ I₂ hcl) (by decide) ?_
    have k₃ : ∀ b o, h₂.get? b = some o → (h₂.push (kxs_mw "ValueError.__init__" x)).get? b = some o := fun b o e => Heap.get?_push_of_some _ e
    have hmw : (h₂.push (kxs_mw "ValueError.__init__" x)).get? h₂.objs.size = some (kxs_mw "ValueError.__init__" x) := Heap.get?_push_at rfl rfl
    refine kxs_callWith (i := "ValueError.__init__") (x := x) rfl (evalArgs_plain (Calls.spliced_cons ?_))
    show wpAny _ _ (eval (.Constant (.str txt) 0 q4) _) _ _ _
    refine Calls.Constant_str (Calls.spliced_nil ⟨hmw, ?_⟩)
    refine call_mw ((X₂.keeps k₃) _ _ hC) (k₃ _ _ hx₂) hmw (by show 1 ≤ sizeLine; decide) (fun h₄ t1 k₄ hx₄ => ?_)
    -- self.f = f
    have k14 : ∀ b o, b ≠ x → h₁.get? b = some o → h₄.get? b = some o := fun b o hb e => k₄ b o hb (k₃ _ _ (k₂ _ _ e))
    have hn4 := ns_keep hns (k14 _ · hxL)
    have X₄ : K.In h₄ := fun a o e => by
      by_cases ha : a = x
      · subst ha
        have z := X _ _ e
        rw [hx] at z
        exact absurd z (fun z => hnx (by rw [e]; rfl))
      · exact k14 _ _ ha (X₁ _ _ e)
    refine wpAt_of_wpAny ?_
    show wpAny _ _ (execs (_ :: _) _) _ _ _
    refine wpAny_execs_cons (plainObj_wpAny_Assign_Attribute ?_)
    refine wpAny_Name (wpAny_loadName_local rfl rfl hn4 (by rfl) ?_)
    refine wpAny_Name (wpAny_loadName_local rfl rfl hn4 (by rfl) ?_)
    refine set_plain X₄ (ox := excO C t1) (od := none) ⟨hx₄, rfl, rfl, trivial⟩ T.sa ?_
    refine exc_osa X₄ hx₄ hcl (show refsVE (.ref C :: bm) = true from hbm) rfl T.noN (fun h₅ tk₅ dx k₅ dn dne hx₅ hn₅ => ?_)
    show wpAny _ _ (execs _ _) _ _ _
    refine wpAny_execs_nil (hq h₅ tk₅ dx t1 ⟨fun b o hb e => k₅ b o hb (k14 b o hb (hk₁ b o e)), hx₅, ?_, dne, hn₅⟩)
    have z4 : hp.objs.size < h₄.objs.size := hn4.lt
    exact Nat.le_of_lt (Nat.lt_of_lt_of_le z4 dn)
theorem err_made (T : ErrC prog K C fI f) (hf : f = "value" ∨ f = "word" ∨ f = "field") {v : Value} (X : K.In s.heap) (hlim : s.heap.NoLimit) (G : s.heap.Ns mainGlobals mg) (B : s.heap.Ns builtinsNs mb) (hB : ∀ x : Str, x ≠ "__name__" → mb x = bootBuiltins x) (hroom : A.depth + 1 < recursionLimit)
    (hq : ∀ h' tk e d, OwnMade s.heap h' e C d f v → R (.ok (.ret (.ref e))) { s with heap := h', toks := tk }) :
    codeAny (model prog w) A (.call (.ref C) ⟨[v], []⟩) R s := by
  obtain ⟨nm, q, N, bs, bm, sn, sub, ab, col, dd, k0, k1, k2, k3, k5, hC, hbm⟩ := T.cls
  obtain ⟨hp, g, dr, tk, os⟩ := s
  have k : ∀ b o, hp.get? b = some o → ((hp.push (kdv_tup [v])).push (excO C hp.objs.size)).get? b = some o := fun b o e => Heap.get?_push_of_some _ (Heap.get?_push_of_some _ e)
  have hget : ((hp.push (kdv_tup [v])).push (excO C hp.objs.size)).get? (hp.objs.size + 1) = some (excO C hp.objs.size) := by heap_get
  have hnx : ¬ (K.lookup (hp.objs.size + 1)).isSome = true := by
    cases e : K.lookup (hp.objs.size + 1) with
    | none => intro z; cases z
    | some o =>
      have z : hp.get? (hp.objs.size + 1) = some o := X _ _ e
      exact absurd (Nat.lt_of_succ_lt (Heap.lt_size z)) (Nat.lt_irrefl _)
  refine call_own F.excBase_ValueError (fun X => refsVE_contains X bm hbm) (X _ _ hC) (looks_findIn X T.iC) (fun self => bind_fn X self T.tC) (by show 1 ≤ sizeLine; decide) ?_
  refine err_init (s := ⟨(hp.push (kdv_tup [v])).push (excO C hp.objs.size), g, dr, tk, os⟩) T hf (X.keeps k) (hlim.keeps k) (G.keeps k) (B.keeps k) hB hget hnx ?_ fun h' tk' dx t1 ⟨k', hx, dn, dne, hns⟩ => ?_
  · show A.depth + 1 < recursionLimit
    exact hroom
  · have old : ∀ b o, hp.get? b = some o → h'.get? b = some o := fun b o e => k' b o (Nat.ne_of_lt (Nat.lt_succ_of_lt (Heap.lt_size e))) (k b o e)
    have z : hp.objs.size + 1 + 1 ≤ dx := by
      have q := dn
      rw [Heap.size_push, Heap.size_push] at q
      exact q
    exact ⟨rfl, hq h' tk' (hp.objs.size + 1) dx ⟨old, Nat.le_succ _, ⟨_, _, hx, rfl, rfl, rfl, rfl⟩, Nat.le_trans (Nat.le_trans (Nat.le_succ _) (Nat.le_succ _)) z, dne, hns⟩⟩
end
end ErrX
end PySem
namespace FW
open PySem PySem.Spec PyProof.Rows L2
theorem relO_err {f : Str} {v : V} {v' : Value} (r : RelV v v') (g : Str) : RelO (List.lookup g [(f, v)]) (if g = f then some v' else none) := by
  by_cases hw : g = f
  · subst hw
    rw [if_pos rfl]
    have q : List.lookup g [(g, v)] = some v := by simp [List.lookup]
    rw [q]
    exact r
  · rw [if_neg hw]
    have qw : (g == f) = false := by simpa using hw
    have q2 : List.lookup g [(f, v)] = none := by simp [List.lookup, qw]
    rw [q2]
    trivial
/-- the fields' names -/
def ErrF (f : Str) : Prop := f = "value" ∨ f = "word" ∨ f = "field"
/-- C(e), C an own error with the field f -/
def tMkE (C : Addr) (f : Str) (ta : TA) : L2.St → Hp → XK → Prop := fun σ H Q => ta σ H fun vs H1 => ∃ v, vs = [v] ∧ ∀ d, H1 d = none → Q (.ref C) (some d) (upd H1 d (.xd [(f, v)]))
section
variable {X : Cx} {C fI : Addr} {f x : Str}
theorem pmk_err {a : Expr} {ta : TA} {p pos : Pos} {k : Nat} (T : PySem.ErrX.ErrC X.prog X.K C fI f) (hf : ErrF f) (gC : X.mg x = some (.ref C)) (hr : Room k X.A) (ha : PA X [a] ta) (hg : Gl X x) (hdb : (x == ("__debug__" : Str)) = false := by decide)
    (he : starEach (a :: []) X.env = (false, eval a X.env) :: starEach [] X.env := by rfl) (hpl : (backTo pos (starEach [] X.env)).any (·.1) = false := by rfl) :
    PMk X (.Call (.Name x p) [a] [] pos) (tMkE C f ta) := by
  intro pins s σ H Q I h
  refine wpAny_Call_Name_kw (ld_glob I hg gC ?_ hdb)
  refine PySem.W.callWith_K (h₀ := X.base) I.ok.mod.kin T.kC (thn (ha.run pos pins s σ H _ I h) fun us s1 hh => ?_) he hpl
  obtain ⟨vs, H1, I1, r1, v, ev, q1⟩ := hh
  subst ev
  refine ⟨I1.kIn, ?_⟩
  cases r1 with
  | cons rv rn =>
    rename_i v' us'
    cases rn
    show wpAny _ _ (call (.ref C) [v']) _ _ _
    have hlim := I1.nolimit
    have hG := I1.mod.glob.keeps I1.bk
    obtain ⟨mb, hb1, hb2⟩ := I1.mod.blt
    have hB := hb1.keeps I1.bk
    obtain ⟨hp, g, dr, tk, os⟩ := s1
    refine wpAny_call (PySem.ErrX.err_made T hf I1.kIn hlim hG hB hb2 (by have := hr.dp; omega) fun h' tk' e d M => ?_)
    show MkP X pins σ Q (.ref e) ⟨h', g, dr, tk', os⟩
    obtain ⟨oe, fv, hoe, hc, hd, hdat, h1⟩ := M.obj
    have hns := M.ns
    obtain ⟨G', g1, g2⟩ := restrict h' fun b => decide (b ≠ e)
    have gk : ∀ b, b ≠ e → G'.get? b = h'.get? b := fun b hb => g1 b (decide_eq_true hb)
    have ge : G'.get? e = none := g2 e (by simp)
    have old : ∀ b o, hp.get? b = some o → G'.get? b = some o := fun b o q => (gk b (Nat.ne_of_lt (Nat.lt_of_lt_of_le (Heap.lt_size q) M.new))).trans (M.keep b o q)
    have ob : ObjOk X.prog X.w (upd H1 d (.xd [(f, v)])) G' d (.xd [(f, v)]) :=
      ⟨_, hns.at (fun o q => (gk d M.dne).trans q), fun f => relO_err rv f⟩
    have J : Inv X pins σ (upd H1 d (.xd [(f, v)])) ⟨G', g, dr, tk', os⟩ := I1.laid (t' := tk') old M.dbig ob
    refine ⟨e, oe, fv, ⟨G', g, dr, tk', os⟩, _, .ref C, some d, rfl, J, fun b o q => ?_, ge, hoe, ⟨hc, hd⟩, hdat, h1, ?_, rfl, I1.bare, raises_own T.exC T.tyC, q1 d (I1.hok.fresh M.dbig)⟩
    · by_cases hb : b = e
      · have q' : G'.get? b = some o := q
        rw [hb, ge] at q'; cases q'
      · exact (gk b hb).symm.trans q
    · rw [upd_ne (Ne.symm M.dne)]
      exact I1.hok.fresh M.new
/-- raise C(e) -/
def tRaiseE (C : Addr) (f : Str) (W : WX) (ta : TA) : TS := fun _ σ H => tMkE C f ta σ H fun cls d H' => W cls d σ H'
theorem ps_raiseE {a : Expr} {ta : TA} {W : WX} {p pos pos2 : Pos} {k : Nat} (hc : X.calm = true) (T : PySem.ErrX.ErrC X.prog X.K C fI f) (hf : ErrF f) (gC : X.mg x = some (.ref C)) (hr : Room k X.A) (tk : Takes X W) (ha : PA X [a] ta) (hg : Gl X x) (hdb : (x == ("__debug__" : Str)) = false := by decide)
    (he : starEach (a :: []) X.env = (false, eval a X.env) :: starEach [] X.env := by rfl) (hpl : (backTo pos (starEach [] X.env)).any (·.1) = false := by rfl) :
    PS X (.Raise (some (.Call (.Name x p) [a] [] pos)) none pos2) (tRaiseE C f W ta) := ps_raise hc tk (pmk_err T hf gC hr ha hg hdb he hpl)
/-- e.f, e the exception that the suite holds (at a; its class cls, its dict d) -/
def tByE (C : Addr) (f : Str) (a : Addr) (cls : Value) (d : Option Addr) (te : TE) : TE := fun σ H Q => te σ H fun x H1 => x = .ref a ∧ cls = .ref C ∧ ∃ (dd : Addr) (v : V), d = some dd ∧ H1 dd = some (.xd [(f, v)]) ∧ Q v H1
theorem pe_byE {prog : Program} {a : Addr} {oe : Obj} {cls : Value} {d : Option Addr} {pn : List (Addr × Obj)} {e : Expr} {te : TE} {pos : Pos} (T : PySem.ErrX.ErrC prog X.K C fI f) (hz : Zc cls d oe) (hfl : ∃ vs, oe.data = .fields vs) (he : PE (X.suite a ((a, oe) :: pn)) e te)
    (hb : attributeBase e f X.env (eval e X.env) = eval e X.env := by rfl) :
    PE (X.suite a ((a, oe) :: pn)) (.Attribute e f pos) (tByE C f a cls d te) := by
  refine ⟨fun pins s σ H Q I h => ?_⟩
  refine attr_of hb (thn (he.run pins s σ H _ I h) fun u s1 hh => ?_)
  obtain ⟨x, H1, I1, rx, ex, ec, dd, v, ed, ea, q⟩ := hh
  subst ex
  obtain rfl : u = Value.ref a := rx
  subst ec
  subst ed
  obtain ⟨ha, _⟩ := I1.pin (a, oe) (List.mem_append_left _ List.mem_cons_self)
  obtain ⟨vs, hd⟩ := hfl
  have hx : ObjOk X.prog X.w H1 s1.heap dd (.xd [(f, v)]) := I1.hok dd _ ea
  obtain ⟨mA, hns, hr⟩ := hx
  obtain ⟨od, ho, hl⟩ := lookIn_ns hns
  have l : List.lookup f [(f, v)] = some v := by simp [List.lookup]
  obtain ⟨u, hu, ru⟩ := RelO.some_of (v := v) (o := mA f) (by rw [← l]; exact hr f)
  have J : PySem.W.InstAt s1.heap a oe C (some od) := ⟨ha, hz.1, by unfold PySem.W.notCls; rw [hd] <;> rfl, by rw [hz.2]; exact ho⟩
  exact HandSPX.exc_get I1.kIn J T.ga T.gg T.exC (PySem.W.findObj_own T.hdC T.noN rfl (by rw [hl, hu])) (handed_of ru) ⟨v, H1, I1.tok _, ru, q⟩
end
end FW
namespace FW
open PySem PySem.Spec PyProof.Rows L2 PySem.W PySem.HandSPX PySem.ErrX
/-! ### what the head looks at of an own error -/
abbrev FnE : Type := Option (Str × Str × Arguments × FuncBody × Scope × Addr × Value × Addr)
def fnE (K : Frag) (x : Str) : FnE := match K.lookup (He.ma K (He.ga K x) "__init__") with
  | some ⟨_, _, .func fd, _⟩ => some (fd.name, fd.qualname, fd.params, fd.body, fd.scope, fd.globals, fd.defaults, fd.builtins)
  | _ => none
def clsE (K : Frag) (C : Addr) : Bool := match K.lookup C with
  | some ⟨.type "type", _, .cls cd, sl⟩ => (match cd.mro, sl.toList with
    | .ref C' :: bm, [_, _, _, _, some (.builtin n), _] => C' == C && n == "ValueError.__new__" && !cd.hasDel && cd.hasDict && refsVE bm
    | _, _ => false)
  | _ => false
theorem clsE_ok {K : Frag} {C : Addr} (q : clsE K C = true) : ∃ nm q N bs bm sn sub ab col dd k0 k1 k2 k3 k5, K.lookup C = some (excClassObj nm q C N bs bm true sn sub ab col dd k0 k1 k2 k3 k5 "ValueError.__new__") ∧ refsVE bm = true := by
  unfold clsE at q
  split at q
  · rename_i dd cd sl ho
    split at q
    · rename_i C' bm k0 k1 k2 k3 n k5 hm hs
      simp only [Bool.and_eq_true, beq_iff_eq, Bool.not_eq_true'] at q
      obtain ⟨⟨⟨⟨rfl, rfl⟩, hdel⟩, hdd⟩, ht⟩ := q
      obtain ⟨nm, bs, mro, ns, qn, hd, sn, sub, ab, col, del⟩ := cd
      dsimp only at hm hdel hdd
      subst hm hdel hdd
      have hsl : sl = #[k0, k1, k2, k3, some (.builtin "ValueError.__new__"), k5] := by
        obtain ⟨l⟩ := sl
        simp only at hs
        rw [hs]
      subst hsl
      exact ⟨nm, qn, ns, bs, bm, sn, sub, ab, col, dd, k0, k1, k2, k3, k5, ho, ht⟩
    · cases q
  · cases q
def codeE (K : Frag) (file : Str) (x : Str) : Bool := match K.lookup (He.ma K (He.ga K x) "__init__") with
  | some ⟨_, _, .func fd, _⟩ => (match fd.code, fd.closure with
    | .ref cda, [(n, cc)] => codeIn K (.ref cda) fd.qualname && (decide (n = "__class__") && ((match K.lookup cda with
        | some ⟨_, _, .fields vs, _⟩ => (match (vs[2]? : Option Value) with
          | some (Value.str z _) => decide (z = file)
          | _ => false)
        | _ => false) && (match K.lookup cc with
        | some ⟨_, _, .cell (some (.ref D)), _⟩ => decide (D = He.ga K x)
        | _ => false)))
    | _, _ => false)
  | _ => false
def errB (K : Frag) (file x f : Str) : Bool := ([clsE K (He.ga K x), He.eqO (findIn K (.ref (He.ga K x)) "__setattr__") (some (some (.builtin "object.__setattr__"))), He.eqO (findIn K (.ref (He.ga K x)) "__getattribute__") (some (some (.builtin "BaseException.__getattribute__"))),
  He.eqO (findIn K (.ref (He.ga K x)) "__getattr__") (some none), He.eqO (findIn K (.ref (He.ga K x)) f) (some none), He.eqO (findIn K (.ref (He.ga K x)) "__init__") (some (some (.ref (He.ma K (He.ga K x) "__init__")))), decide (typeIn K (.ref (He.ma K (He.ga K x) "__init__")) = some (.type "function")),
  keepIn K (.ref (He.ga K x)), decide (subIn K (.ref (He.ga K x)) (.type "BaseException") = some true), decide (subIn K (.ref (He.ga K x)) (.type "ValueError") = some true), decide (typeIn K (.ref (He.ga K x)) = some (.type "type")), hasDictIn K (He.ga K x), decide (mroIn K (He.ga K x) (.ref (He.ga K x)) = some true),
  He.eqO (nsIn K mainGlobals "super") (some none), He.eqO (nsIn K cStatics "thirdparty.any") (some none), He.eqO (ks_superIn K (He.ga K x) (He.ga K x) "__init__") (some (some (.builtin "ValueError.__init__"))), codeE K file x] : List Bool).all id
theorem errB_at {K : Frag} {file x f : Str} (h : errB K file x f = true) {b : Bool} (i : Nat) (hb : ([clsE K (He.ga K x), He.eqO (findIn K (.ref (He.ga K x)) "__setattr__") (some (some (.builtin "object.__setattr__"))), He.eqO (findIn K (.ref (He.ga K x)) "__getattribute__") (some (some (.builtin "BaseException.__getattribute__"))),
  He.eqO (findIn K (.ref (He.ga K x)) "__getattr__") (some none), He.eqO (findIn K (.ref (He.ga K x)) f) (some none), He.eqO (findIn K (.ref (He.ga K x)) "__init__") (some (some (.ref (He.ma K (He.ga K x) "__init__")))), decide (typeIn K (.ref (He.ma K (He.ga K x) "__init__")) = some (.type "function")),
  keepIn K (.ref (He.ga K x)), decide (subIn K (.ref (He.ga K x)) (.type "BaseException") = some true), decide (subIn K (.ref (He.ga K x)) (.type "ValueError") = some true), decide (typeIn K (.ref (He.ga K x)) = some (.type "type")), hasDictIn K (He.ga K x), decide (mroIn K (He.ga K x) (.ref (He.ga K x)) = some true),
  He.eqO (nsIn K mainGlobals "super") (some none), He.eqO (nsIn K cStatics "thirdparty.any") (some none), He.eqO (ks_superIn K (He.ga K x) (He.ga K x) "__init__") (some (some (.builtin "ValueError.__init__"))), codeE K file x] : List Bool)[i]? = some b) : b = true :=
  List.all_eq_true.mp h b (List.mem_of_getElem? hb)
theorem errC_of {prog : Program} {K : Frag} {x f qual : Str} {params : Arguments} {body : List Stmt} {scope : Scope} (e : fnE K x = (some (("__init__" : Str), qual, params, FuncBody.stmts body, scope, mainGlobals, Value.none, builtinsNs) : FnE)) (h : errB K prog.main.file x f = true)
    (h1 : ∃ p1 p2, params = eA1 f p1 p2) (h2 : ∃ txt q1 q2 q3 q4 q5 q6 q7 q8 q9 q10, body = eB1 f txt q1 q2 q3 q4 q5 q6 q7 q8 q9 q10 ∧ (q3.endLine == q5.line) = true) (h3 : scope = eS1 f) (top : (prog.main.scope.names.lookup ("super" : Str)).isSome = false) :
    ErrC prog K (He.ga K x) (He.ma K (He.ga K x) "__init__") f := by
  have hc : codeE K prog.main.file x = true := errB_at h 16 rfl
  refine ⟨clsE_ok (errB_at h 0 rfl), He.eqO_ok (errB_at h 1 rfl), He.eqO_ok (errB_at h 2 rfl), He.eqO_ok (errB_at h 3 rfl), He.eqO_ok (errB_at h 4 rfl), He.eqO_ok (errB_at h 5 rfl), of_decide_eq_true (errB_at h 6 rfl), errB_at h 7 rfl, of_decide_eq_true (errB_at h 8 rfl), of_decide_eq_true (errB_at h 9 rfl),
    of_decide_eq_true (errB_at h 10 rfl), errB_at h 11 rfl, of_decide_eq_true (errB_at h 12 rfl), He.eqO_ok (errB_at h 13 rfl), He.eqO_ok (errB_at h 14 rfl), He.eqO_ok (errB_at h 15 rfl), top, ?_⟩
  obtain ⟨p1, p2, rfl⟩ := h1
  obtain ⟨txt, q1, q2, q3, q4, q5, q6, q7, q8, q9, q10, rfl, hl⟩ := h2
  subst h3
  unfold codeE at hc
  unfold fnE at e
  cases q : K.lookup (He.ma K (He.ga K x) "__init__") with
  | none => rw [q] at hc; cases hc
  | some o =>
    obtain ⟨oc, od, dt, osl⟩ := o
    rw [q] at hc e
    cases dt with
    | func fd =>
      obtain ⟨n1, n2, n3, n4, n5, n6, n7, n8, n9, n10, n11, n12, n13, n14, n15⟩ := fd
      have e2 : (some (n1, n2, n3, n4, n5, n6, n8, n15) : FnE) = (some (("__init__" : Str), qual, eA1 f p1 p2, FuncBody.stmts (eB1 f txt q1 q2 q3 q4 q5 q6 q7 q8 q9 q10), eS1 f, mainGlobals, Value.none, builtinsNs) : FnE) := e
      simp only [Option.some.injEq, Prod.mk.injEq] at e2
      obtain ⟨g1, g2, g3, g4, g5, g6, g7, g8⟩ := e2
      subst g1 g2 g3 g4 g5 g6 g7 g8
      dsimp only at hc
      split at hc
      · rename_i c0 l0 cda n cc
        simp only [Bool.and_eq_true, decide_eq_true_eq] at hc
        obtain ⟨hc1, rfl, hc2, hc3⟩ := hc
        split at hc2
        · rename_i ccl cdd vs ccs hcda
          split at hc2
          · rename_i z tf hvs
            have hz := of_decide_eq_true hc2
            subst hz
            split at hc3
            · rename_i cl cld D csl hcc
              have hD := of_decide_eq_true hc3
              subst hD
              exact ⟨cc, cda, _, oc, od, n9, n10, n11, n12, n14, osl, txt, p1, p2, q1, q2, q3, q4, q5, q6, q7, q8, q9, q10, cl, ccl, cld, cdd, csl, ccs, vs, tf, hl, rfl, hc1, hcc, hcda, hvs⟩
            · cases hc3
          · cases hc2
        · cases hc2
      · cases hc
    | _ => cases hc
/-- an own error's __init__, as the text has it -/
structure ErrD where
  x : Str
  qual : Str
  params : Arguments
  body : List Stmt
  scope : Scope
def ErrD.val (d : ErrD) : FnE := some (("__init__" : Str), d.qual, d.params, FuncBody.stmts d.body, d.scope, mainGlobals, Value.none, builtinsNs)
abbrev AlY : Type := He.AlD × Bool × List FnE
def obsY (fa : List He.Fa) (fn : List He.DefD) (ex : Frag → Bool) (er : List ErrD) (K : Frag) : AlY := (He.obsD fa fn K, ex K, er.map fun d => fnE K d.x)
def obsYG (n : Nat) (fa : List He.Fa) (fn : List He.DefD) (ex : Frag → Bool) (er : List ErrD) (g : Addr → Option Obj) : AlY := obsY fa fn ex er (He.frG g (He.asD g n ++ [cStatics]))
def hookY (n : Nat) (fa : List He.Fa) (fn : List He.DefD) (ex : Frag → Bool) (er : List ErrD) : PySem.W.Hook where
  α := AlY
  obs := fun s => obsYG n fa fn ex er s.heap.get?
  val := fun _ => (He.valD fn, true, er.map ErrD.val)
  says := fun _ h => ∃ K : Frag, K.In h ∧ He.SaysD fa fn K ∧ ex K = true ∧ er.map (fun d => fnE K d.x) = er.map ErrD.val
  of := fun _ _ e => ⟨_, He.frG_in, congrArg (fun z : AlY => z.1) e, congrArg (fun z : AlY => z.2.1) e, congrArg (fun z : AlY => z.2.2) e⟩
  keeps := fun _ _ _ ⟨K, hK, c⟩ k => ⟨K, PySem.W.Frag.In.keeps hK k, c⟩
theorem obsYG_eq {n : Nat} {fa : List He.Fa} {fn : List He.DefD} {ex : Frag → Bool} {er : List ErrD} {g : Addr → Option Obj} {s : Shared} (h : ∀ a, g a = s.heap.get? a) : obsYG n fa fn ex er g = (hookY n fa fn ex er).obs s := by
  have e : g = s.heap.get? := funext h
  rw [e] <;> rfl
theorem errs_at {K : Frag} {er : List ErrD} (h : er.map (fun d => fnE K d.x) = er.map ErrD.val) (i : Nat) {d : ErrD} (hd : er[i]? = some d) : fnE K d.x = d.val := by
  have e2 : (er.map fun d => fnE K d.x)[i]? = (er.map ErrD.val)[i]? := by rw [h]
  rw [List.getElem?_map, List.getElem?_map, hd] at e2
  exact Option.some.inj e2
end FW
namespace FW
open PySem PySem.Spec PyProof.Rows L2
/-! ### several clauses «except X as n» -/
/-- an exception that a try of X has caught; s: the state in which the clauses are asked -/
structure Cau (X : Cx) (pins : List (Addr × Obj)) (a : Addr) (B : Heap) (sI : Shared) (σ : L2.St) (H : Hp) (cls : Value) (d : Option Addr) (s : Shared) : Prop where
  hs : X.stack = X.env :: X.outer
  hf : X.env.frame = some X.env.locals
  inv : Inv X pins σ H sI
  nb : ∀ b o, sI.heap.get? b = some o → b ∉ frs X.stack → B.get? b = some o
  up : sI.heap.UpToSlots s.heap
  fly : HandSPX.FlyingZ B (X.env :: X.outer) a (Zc cls d) s.heap
  na : H a = none
  os : s.os = sI.os
  ag : AllBare s.gens
section
variable {X : Cx} {pins : List (Addr × Obj)} {a : Addr} {B : Heap} {sI s : Shared} {σ : L2.St} {H : Hp} {cls : Value} {d : Option Addr}
theorem Cau.now (c : Cau X pins a B sI σ H cls d s) : Inv X pins σ H s := c.inv.landed c.nb c.fly.1 c.up c.os c.ag
theorem Cau.on (c : Cau X pins a B sI σ H cls d s) {g : Heap} (f : HandSPX.FlyingZ B (X.env :: X.outer) a (Zc cls d) g) (u : s.heap.UpToSlots g) : Cau X pins a B sI σ H cls d { s with heap := g } :=
  ⟨c.hs, c.hf, c.inv, c.nb, c.up.trans u, f, c.na, c.os, c.ag⟩
theorem Cau.apart (c : Cau X pins a B sI σ H cls d s) : a ≠ X.env.locals ∧ a ∉ X.fs := by
  have no : a ∉ frs (X.env :: X.outer) := fun m => by
    obtain ⟨ox, vx, hx, _, dx⟩ := c.fly.there
    obtain ⟨_, ox', hx', nx⟩ := c.fly.2.2.1.mem m
    rw [hx] at hx'
    cases hx'
    exact nx _ dx
  have m0 : X.env.locals ∈ frs (X.env :: X.outer) := List.mem_filterMap.mpr ⟨X.env, List.mem_cons_self, c.hf⟩
  refine ⟨fun z => no (by rw [z]; exact m0), fun m => no ?_⟩
  obtain ⟨en, me, q⟩ := List.mem_filterMap.mp m
  exact List.mem_filterMap.mpr ⟨en, List.mem_cons_of_mem _ me, q⟩
theorem Cau.hold (c : Cau X pins a B sI σ H cls d s) : ∃ oe, Zc cls d oe ∧ (∃ vs, oe.data = .fields vs) ∧ s.heap.get? a = some oe ∧ Inv (X.suite a ((a, oe) :: (X.pn ++ pins))) [] σ H s := by
  obtain ⟨oe, vs, he, hz, hd⟩ := c.fly.there
  exact ⟨oe, hz, ⟨vs, hd⟩, he, c.now.suite he hd c.na c.apart.1 c.apart.2⟩
/-- a clause: its class, the slot of its name, its suite's reading -/
structure Cl where
  c : Value
  i : Nat
  ts : Addr → Value → Option Addr → TS
/-- what is wanted where clause after clause is asked -/
def wCls (K : PySem.W.Frag) (Wout : WX) (D : Ends) : List Cl → WX
  | [] => Wout
  | k :: r => fun cls d σ H => ∃ b, PySem.W.exmOne K cls k.c = some b ∧
      (b = true → ∀ a, H a = none → k.ts a cls d { nx := fun τ G => D.nx (τ.set k.i none) G, rt := D.rt, bk := fun τ G => D.bk (τ.set k.i none) G, ct := fun τ G => D.ct (τ.set k.i none) G } (σ.set k.i (some (.ref a))) H) ∧
      (b = false → wCls K Wout D r cls d σ H)
inductive Hds (X : Cx) : List ExceptHandler → List Cl → Prop
  | nil : Hds X [] []
  | cons {x n : Str} {k : Cl} {b₀ : Stmt} {suite : List Stmt} {np pos' : Pos} {hds : List ExceptHandler} {l : List Cl} (hN : X.N.Nodup) (hi : X.N[k.i]? = some n) (hln : X.env.kindOf n = some .local) (hc : Names X x k.c)
      (hsu : ∀ (a : Addr) (oe : Obj) (cls : Value) (d : Option Addr) (pn : List (Addr × Obj)), Zc cls d oe → (∃ vs, oe.data = .fields vs) → PSs (X.suite a ((a, oe) :: pn)) (b₀ :: suite) (k.ts a cls d)) (r : Hds X hds l) :
      Hds X (.ExceptHandler (some (.Name x np)) (some n) (b₀ :: suite) pos' :: hds) (k :: l)
/-- no clause takes it: it goes on -/
theorem Cau.pass (c : Cau X pins a B sI σ H cls d s) {Wout : WX} {Q : Flow → Shared → Prop} (tk : Takes X Wout) (w : Wout cls d σ H) : wpAny (model X.prog X.w) X.A (handleBy (.ref a) X.env []) Q X.xe s := by
  refine wpAny_handleBy_nil ?_
  have up0 : wpAny (model X.prog X.w) X.A (setFlight (.ref a) X.env.frame) (fun _ s4 => wpAny (model X.prog X.w) X.A (throw (.ref a) : Sem Flow) Q X.xe s4) X.xe s := by
    rw [c.hf]
    refine HandSPX.setFlight_upZ c.fly fun g gh gu => wpAny_throw (tk _ _ ?_)
    exact ⟨a, B, sI, pins, σ, H, cls, d, rfl, c.inv, c.nb, c.up.trans gu, .inr (.inr (by rw [c.hs]; exact gh)), c.na, c.os, c.ag, w⟩
  obtain ⟨_, _, _, oe, vs, Tb, oT, us, he, _, hd, h1, _⟩ := c.fly
  unfold PySem.passOn
  refine wpAny_bind (wpAny_field he hd h1 ?_)
  rw [if_neg (by simp)]
  first
    | exact wpAny_bind (wpAny_pure (wpAny_bind up0))
    | exact wpAny_bind up0
/-- the clauses, one behind the other -/
theorem Cau.ask {D : Ends} {Wout : WX} (tk : Takes X Wout) : ∀ {hds : List ExceptHandler} {l : List Cl}, Hds X hds l → Cau X pins a B sI σ H cls d s → wCls X.K Wout D l cls d σ H →
    wpAny (model X.prog X.w) X.A (handleBy (.ref a) X.env hds) (SP X pins D) X.xe s := by
  intro hds l hk c
  induction hk with
  | nil => exact fun w => c.pass tk w
  | @cons x n k b₀ suite np pos' hds' l' hN hi hln hc hsu _ ih =>
    rintro ⟨b, hb, yes, no⟩
    obtain ⟨oe, hz, hfl, he, S⟩ := c.hold
    refine wpAny_handleBy_cons (codeAny_handlers_test ?_) (by intro q; cases q)
    have lt : PySem.W.Looks (model X.prog X.w) s.heap (typeOf (.ref a)) cls := fun _ _ _ _ kp q => wpAny_typeOf_ref (kp _ _ he) (by rw [hz.1]; exact q)
    have lm := PySem.W.exm_one (M := model X.prog X.w) c.now.kIn lt hb
    have name : ∀ {Q : Value → Shared → Prop} {E : Value → Shared → Prop}, Q k.c s → wpAny (model X.prog X.w) (X.A.mark (some (.ref a))) (eval (.Name x np) X.env) Q E s := fun {Q E} q => by
      rcases hc with ⟨hg, hdb, hm | ⟨hm, hv, hnn⟩⟩
      · exact ld_glob (X := X.suite a ((a, oe) :: (X.pn ++ pins))) S hg hm q hdb
      · exact ld_blt (X := X.suite a ((a, oe) :: (X.pn ++ pins))) S hg hm hv q hnn hdb
    refine name (lm.here ?_)
    cases b with
    | false =>
      show wpAny _ X.A (handleBy (.ref a) X.env hds') _ _ _
      exact ih (no rfl)
    | true =>
      refine codeAny_handlers_suite_as (HandSPX.lands_againZ c.fly fun g gf gu => ?_)
      have c' := c.on gf gu
      obtain ⟨o2, z2, f2, e2, S2⟩ := c'.hold
      refine store_ok (X := X.suite a ((a, o2) :: (X.pn ++ pins))) (v := .ref a) S2 hN hi (.inl hln) rfl (fun s5 S5 => ?_) (.inr hln)
      refine wpAny_mono ((hsu a o2 cls d (X.pn ++ pins) z2 f2).run [] s5 _ H _ S5 (yes rfl a c.na)) (fun fl s6 hsp => ?_) (fun _ _ z => False.elim z)
      have leave : ∀ {τ : L2.St} {G : Hp} {Q : Shared → Prop}, Inv (X.suite a ((a, o2) :: (X.pn ++ pins))) [] τ G s6 → (∀ s7, Inv X pins (τ.set k.i none) G s7 → Q s7) →
          wpAny (model X.prog X.w) X.A (do bindName X.env n .none; unbindBehindTheSuite X.env n pos') (fun _ s7 => Q s7) X.xe s6 := fun {τ G Q} S6 hq => gone_ok (S6.unsuite c.inv.ok) hN hi hln hq
      cases fl with
      | ret u =>
        obtain ⟨v6, τ, G, S6, r6, q6⟩ := hsp
        exact leave S6 fun s7 J7 => ⟨_, _, _, J7, r6, q6⟩
      | next =>
        obtain ⟨τ, G, S6, q6⟩ := hsp
        exact leave S6 fun s7 J7 => ⟨_, _, J7, q6⟩
      | brk =>
        obtain ⟨τ, G, S6, q6⟩ := hsp
        exact leave S6 fun s7 J7 => ⟨_, _, J7, q6⟩
      | cont =>
        obtain ⟨τ, G, S6, q6⟩ := hsp
        exact leave S6 fun s7 J7 => ⟨_, _, J7, q6⟩
end
section
variable {X : Cx} {body : List Stmt} {h₀ : ExceptHandler} {hds : List ExceptHandler} {l : List Cl} {pos : Pos} {tb : WX → TS} {Wout : WX}
/-- try: body except X1 as n1: .. except X2 as n2: .. -/
def tTryA (K : PySem.W.Frag) (tb : WX → TS) (l : List Cl) (Wout : WX) : TS := fun D σ H => tb (wCls K Wout D l) D σ H
theorem ps_tryA (hs : X.stack = X.env :: X.outer) (hf : X.env.frame = some X.env.locals) (tk : Takes X Wout)
    (hb : ∀ (W : WX) (pn : List (Addr × Obj)) (xe : Value → Shared → Prop), Takes (X.tr pn xe) W → PassesOwn (model X.prog X.w) X.A X.env xe → PSs (X.tr pn xe) body (tb W))
    (hh : Hds X (h₀ :: hds) l) : PS X (.Try body (h₀ :: hds) [] [] pos) (tTryA X.K tb l Wout) := by
  refine ⟨fun pins s σ H D I h => wpAny_Try_except ?_⟩
  have fr : X.A.frames = some (X.env :: X.outer) := by rw [I.ok.frames, hs]
  have run := (hb (wCls X.K Wout D l) (X.pn ++ pins) (fun e s₁ => wpAny (model X.prog X.w) X.A (noteFrame e X.env) (fun _ s₂ => wpAny (model X.prog X.w) X.A (setFlight e none)
    (fun _ s₃ => wpAny (model X.prog X.w) X.A (handleBy e X.env (h₀ :: hds)) (SP X pins D) X.xe s₃) X.xe s₂) X.xe s₁) ?_ PassesOwn.looking).run [] s σ H D (I.toTry _) h
  · refine wpAny_mono run (fun fl s1 hsp => ?_) (fun _ _ he => he)
    cases fl with
    | ret u =>
      obtain ⟨v, τ, G, J, r, q⟩ := hsp
      exact ⟨v, τ, G, J.ofTry I.ok, r, q⟩
    | next =>
      obtain ⟨τ, G, J, q⟩ := hsp
      exact wpAny_execs_nil ⟨τ, G, J.ofTry I.ok, q⟩
    | brk =>
      obtain ⟨τ, G, J, q⟩ := hsp
      exact ⟨τ, G, J.ofTry I.ok, q⟩
    | cont =>
      obtain ⟨τ, G, J, q⟩ := hsp
      exact ⟨τ, G, J.ofTry I.ok, q⟩
  · rintro u s1 ⟨a, B, sI, ps, τ, G, cls, d, rfl, J, nb, up, sky, na, os, ag, w⟩
    have sky' : Sky B (X.env :: X.outer) a (Zc cls d) X.env.locals s1.heap := by rw [← hs]; exact sky
    show wpAny (model X.prog X.w) X.A (noteFrame (.ref a) X.env) _ _ _
    refine Sky.land Zc.steady fr hf sky' fun g gf gu => ?_
    exact Cau.ask (s := { s1 with heap := g }) tk hh ⟨hs, hf, J.ofTry I.ok, nb, up.trans gu, gf, na, os, ag⟩ w
/-- no exception leaves: a def that may raise, called where E0 is wanted -/
theorem passNo {P : Program} {w : World} {X : Cx} : Passes (L2.CX P w) X E0 := fun _ _ _ _ _ _ _ ⟨_, _, _, _, _, _, _, _, _, _, _, _, z⟩ => z.elim
theorem takesNo {X : Cx} : Takes X (fun _ _ _ _ => False) := fun _ _ ⟨_, _, _, _, _, _, _, _, _, _, _, _, _, _, _, _, z⟩ => z.elim
end
/-! ### calls of defs that may raise -/
section
variable {X : Cx} {k j : Nat} {C : Addr} {x m : Str} {sp : Sp} {dvs : List V} {p pos apos : Pos} {e o : Expr} {es : List Expr} {ta : TE} {t : TA} {E : XK} {W : WX}
abbrev CXX (X : Cx) : CXT := L2.CX X.prog X.w
/-- where nothing is raised -/
theorem pe_fN (c : Fn X.prog X.w X.K X.mg X.base (CXX X) k x sp dvs) (hr : Room j X.A) (hk : k ≤ j) (hg : Gl X x) (ha : PA X (e :: es) t)
    (hdb : (x == ("__debug__" : Str)) = false := by decide) (he : starEach (e :: es) X.env = (false, eval e X.env) :: starEach es X.env := by rfl) (hpl : (backTo pos (starEach es X.env)).any (·.1) = false := by rfl) :
    PE X (.Call (.Name x p) (e :: es) [] pos) (tCall sp dvs E0 t) := by
  obtain ⟨f, fd, ps, ds, F, hm, kp, b, d⟩ := c.ex
  exact pe_call F (hr.mono hk) hg hm kp b d passNo ha hdb he hpl
theorem pe_fX (tk : Takes X (fun cls d _ H => E cls d H)) (c : Fn X.prog X.w X.K X.mg X.base (CXX X) k x sp dvs) (hr : Room j X.A) (hk : k ≤ j) (hg : Gl X x) (ha : PA X (e :: es) t)
    (hdb : (x == ("__debug__" : Str)) = false := by decide) (he : starEach (e :: es) X.env = (false, eval e X.env) :: starEach es X.env := by rfl) (hpl : (backTo pos (starEach es X.env)).any (·.1) = false := by rfl) :
    PE X (.Call (.Name x p) (e :: es) [] pos) (tCall sp dvs E t) := by
  obtain ⟨f, fd, ps, ds, F, hm, kp, b, d⟩ := c.ex
  exact pe_call F (hr.mono hk) hg hm kp b d (passes_call tk fun _ _ _ _ h => h) ha hdb he hpl
theorem pe_fS (tk : Takes X W) (c : Fn X.prog X.w X.K X.mg X.base (CXX X) k x sp []) (hr : Room j X.A) (hk : k ≤ j) (hg : Gl X x) (ha : PA X (e :: es) t)
    (hdb : (x == ("__debug__" : Str)) = false := by decide) (he : starEach (e :: es) X.env = (false, eval e X.env) :: starEach es X.env := by rfl) (hpl : (backTo pos (starEach es X.env)).any (·.1) = false := by rfl) :
    PE X (.Call (.Name x p) (e :: es) [] pos) (tCallS sp (WE W) t) := by
  obtain ⟨f, fd, ps, ds, F, hm, kp, b, d⟩ := c.ex
  cases d
  exact pe_callS F (hr.mono hk) hg hm kp b (fun σ => passAt tk σ) ha hdb he hpl
theorem pe_mN (c : Mkr X.prog X.w X.K X.mg X.base (CXX X) k x C sp dvs) (hr : Room j X.A) (hk : k + 1 ≤ j) (hg : Gl X x) (ha : PA X (e :: es) t)
    (hdb : (x == ("__debug__" : Str)) = false := by decide) (he : starEach (e :: es) X.env = (false, eval e X.env) :: starEach es X.env := by rfl) (hpl : (backTo pos (starEach es X.env)).any (·.1) = false := by rfl) :
    PE X (.Call (.Name x p) (e :: es) [] pos) (tMake C sp dvs E0 t) := by
  obtain ⟨f, fd, ps, ds, M, F, hm, b, d⟩ := c.ex
  exact pe_make M F (hr.mono hk) hg hm b d passNo ha hdb he hpl
theorem pe_mX (tk : Takes X (fun cls d _ H => E cls d H)) (c : Mkr X.prog X.w X.K X.mg X.base (CXX X) k x C sp dvs) (hr : Room j X.A) (hk : k + 1 ≤ j) (hg : Gl X x) (ha : PA X (e :: es) t)
    (hdb : (x == ("__debug__" : Str)) = false := by decide) (he : starEach (e :: es) X.env = (false, eval e X.env) :: starEach es X.env := by rfl) (hpl : (backTo pos (starEach es X.env)).any (·.1) = false := by rfl) :
    PE X (.Call (.Name x p) (e :: es) [] pos) (tMake C sp dvs E t) := by
  obtain ⟨f, fd, ps, ds, M, F, hm, b, d⟩ := c.ex
  exact pe_make M F (hr.mono hk) hg hm b d (passes_call tk fun _ _ _ _ h => h) ha hdb he hpl
/-- the shape of o.m(..) in the model's words -/
abbrev MTree (X : Cx) (o : Expr) (m : Str) (apos pos : Pos) (args : List Expr) (pl : Sem Bool) : Prop := eval (.Call (.Attribute o m apos) args [] pos) X.env = (do
  let ov ← eval o X.env; standAt apos.atName; let (f, first) ← holding [ov] (getMethod ov m pl); callWith pos f first (backTo pos (starEach args X.env)) (backToKw pos (keywordEach [] X.env)))
theorem pe_oN {pl : Sem Bool} (c : Mt X.prog X.w X.K X.mg X.base (CXX X) k C m sp dvs) (hr : Room j X.A) (hk : k ≤ j) (he : PE X o ta) (ha : PA X (e :: es) t)
    (hst : starEach (e :: es) X.env = (false, eval e X.env) :: starEach es X.env := by rfl) (hpl : (backTo pos (starEach es X.env)).any (·.1) = false := by rfl) (ht : MTree X o m apos pos (e :: es) pl := by rfl) :
    PE X (.Call (.Attribute o m apos) (e :: es) [] pos) (tMeth C m sp dvs E0 ta t) := by
  obtain ⟨f, fd, ps, ds, hc, hm, F, b, d⟩ := c.ex
  exact pe_meth (pl := pl) he hc hm F (hr.mono hk) b d passNo ha hst hpl ht
theorem pe_oX {pl : Sem Bool} (tk : Takes X (fun cls d _ H => E cls d H)) (c : Mt X.prog X.w X.K X.mg X.base (CXX X) k C m sp dvs) (hr : Room j X.A) (hk : k ≤ j) (he : PE X o ta) (ha : PA X (e :: es) t)
    (hst : starEach (e :: es) X.env = (false, eval e X.env) :: starEach es X.env := by rfl) (hpl : (backTo pos (starEach es X.env)).any (·.1) = false := by rfl) (ht : MTree X o m apos pos (e :: es) pl := by rfl) :
    PE X (.Call (.Attribute o m apos) (e :: es) [] pos) (tMeth C m sp dvs E ta t) := by
  obtain ⟨f, fd, ps, ds, hc, hm, F, b, d⟩ := c.ex
  exact pe_meth (pl := pl) he hc hm F (hr.mono hk) b d (passes_call tk fun _ _ _ _ h => h) ha hst hpl ht
/-- in a try's body: what is raised is wished for at the slots as they stand -/
def tMethW (C : Addr) (m : Str) (sp : Sp) (W : WX) (ta : TE) (t : TA) : TE := fun σ H Q => ta σ H fun x H1 => ∃ a dx fs, x = .ref a ∧ H1 a = some (.ins C dx fs) ∧ fs.lookup m = none ∧ t σ H1 fun vs H2 => sp (x :: vs) H2 Q (WE W σ)
theorem pe_oS {pl : Sem Bool} (tk : Takes X W) (c : Mt X.prog X.w X.K X.mg X.base (CXX X) k C m sp []) (hr : Room j X.A) (hk : k ≤ j) (he : PE X o ta) (ha : PA X (e :: es) t)
    (hst : starEach (e :: es) X.env = (false, eval e X.env) :: starEach es X.env := by rfl) (hpl : (backTo pos (starEach es X.env)).any (·.1) = false := by rfl) (ht : MTree X o m apos pos (e :: es) pl := by rfl) :
    PE X (.Call (.Attribute o m apos) (e :: es) [] pos) (tMethW C m sp W ta t) := by
  obtain ⟨f, fd, ps, ds, hc, hm, F, b, d⟩ := c.ex
  cases d
  refine ⟨fun pins s σ H Q I h => PySem.W.methodCall_KW (pl := pl) (thn (he.run pins s σ H _ I h) ?_) ht⟩
  rintro u s1 ⟨x, H1, I1, rx, a, dx, fs, rfl, ea, l, q⟩
  obtain rfl : u = Value.ref a := rx
  refine getmeth_ok I1 ea hc hm l (PySem.W.callWith_K (first := [.ref a]) (h₀ := X.base) I.ok.mod.kin hm.kp (thn (ha.run pos pins s1 σ H1 _ I1 q) ?_) hst hpl)
  rintro us s2 ⟨vs, H2, I2, r, q2⟩
  exact ⟨I2.kIn, run_fnS (us := .ref a :: us) (vs := .ref a :: vs) F (hr.mono hk) b (passAt tk σ) I2 (.cons rfl r) q2⟩
end
section
variable {P : Program} {w : World} {K : PySem.W.Frag} {mg : Str → Option Value} {base : Heap}
abbrev CXP (P : Program) (w : World) : CXT := L2.CX P w
theorem Fn.mkX {x : Str} {params : Arguments} {body : List Stmt} {scope : Scope} {f : Addr} {N ps : List Str} {k : Nat} {sp : Sp}
    (F : ∃ fd, FunD K x x params body scope [] [] f fd) (g : mg x = some (.ref f)) (S : FnScope N ps scope)
    (hb : ∀ (kV doc pm : Value) (an : Option Addr) (cdv ct : Value) (us : List Value), us.length = ps.length → bindArgs (PySem.W.fnOf x x params body scope .none kV doc pm an cdv ct) ⟨us, []⟩ = pure (ps.zip us))
    (len : ∀ vs H Q E, sp vs H Q E → vs.length = ps.length)
    (hbody : ∀ (cdv : Value) (A : Around) (outer : List Env) (s : Shared) (H : Hp) (vs : List V) (Q : VK) (E : XK), Room k (A.deeper (envOfC x scope s.heap.objs.size f cdv)) → sp vs H Q E →
      ∃ t, PSs (cxOf (CXP P w) P w K mg base N x scope f cdv A outer s H E) body t ∧ t { nx := fun _ H' => Q .non H', rt := Q } (start N vs) H) : Fn P w K mg base (CXP P w) (k + 1) x sp [] := by
  obtain ⟨fd, F⟩ := F
  exact ⟨f, fd, ps, [], F.ok S len hbody, g, F.kp, F.bindsN hb, .nil⟩
theorem Mt.mkX {m qual : Str} {C : Addr} {params : Arguments} {body : List Stmt} {scope : Scope} {f : Addr} {N ps : List Str} {k : Nat} {sp : Sp}
    (c : Cls K C) (me : Meth K C m f) (F : ∃ fd, FunD K m qual params body scope [] [] f fd) (S : FnScope N ps scope)
    (hb : ∀ (kV doc pm : Value) (an : Option Addr) (cdv ct : Value) (us : List Value), us.length = ps.length → bindArgs (PySem.W.fnOf m qual params body scope .none kV doc pm an cdv ct) ⟨us, []⟩ = pure (ps.zip us))
    (len : ∀ vs H Q E, sp vs H Q E → vs.length = ps.length)
    (hbody : ∀ (cdv : Value) (A : Around) (outer : List Env) (s : Shared) (H : Hp) (vs : List V) (Q : VK) (E : XK), Room k (A.deeper (envOfC qual scope s.heap.objs.size f cdv)) → sp vs H Q E →
      ∃ t, PSs (cxOf (CXP P w) P w K mg base N qual scope f cdv A outer s H E) body t ∧ t { nx := fun _ H' => Q .non H', rt := Q } (start N vs) H) : Mt P w K mg base (CXP P w) (k + 1) C m sp [] := by
  obtain ⟨fd, F⟩ := F
  exact ⟨f, fd, ps, [], c, me, F.ok S len hbody, F.bindsN hb, .nil⟩
theorem Mkr.mkX {x qual : Str} {C : Addr} {params : Arguments} {body : List Stmt} {scope : Scope} {f : Addr} {N ps : List Str} {k : Nat} {sp : Sp} {dvs : List V}
    (n j : Nat) (M : Mk K C f) (g : mg x = some (.ref C)) (F : ∃ fd, FunD K "__init__" qual params body scope dvs [] f fd) (S : FnScope N ps scope) (hd : dvs ≠ []) (hn : n + (dvs.length - j) = ps.length)
    (hb : ∀ (T : Addr) (kV doc pm : Value) (an : Option Addr) (cdv ct : Value) (us its : List Value), us.length = n → its.length = dvs.length →
      ∃ k, bindArgs (PySem.W.fnOf "__init__" qual params body scope (.ref T) kV doc pm an cdv ct) ⟨us, []⟩ = seqItems? (.ref T) >>= k ∧ k (some its.toArray) = pure (ps.zip (us ++ its.drop j)))
    (len : ∀ vs H Q E, sp vs H Q E → vs.length = ps.length)
    (hbody : ∀ (cdv : Value) (A : Around) (outer : List Env) (s : Shared) (H : Hp) (vs : List V) (Q : VK) (E : XK), Room k (A.deeper (envOfC qual scope s.heap.objs.size f cdv)) → sp vs H Q E →
      ∃ t, PSs (cxOf (CXP P w) P w K mg base N qual scope f cdv A outer s H E) body t ∧ t { nx := fun _ H' => Q .non H', rt := Q } (start N vs) H) : Mkr P w K mg base (CXP P w) (k + 1) x C sp (dvs.drop j) := by
  obtain ⟨fd, F⟩ := F
  obtain ⟨ds, hv, hbn⟩ := F.binds1 (ps := ps) n j hd hn hb
  exact ⟨f, fd, ps, ds, M, F.ok S len hbody, g, hbn, hv⟩
theorem Mkr.mkX0 {x qual : Str} {C : Addr} {params : Arguments} {body : List Stmt} {scope : Scope} {f : Addr} {N ps : List Str} {k : Nat} {sp : Sp}
    (M : Mk K C f) (g : mg x = some (.ref C)) (F : ∃ fd, FunD K "__init__" qual params body scope [] [] f fd) (S : FnScope N ps scope)
    (hb : ∀ (kV doc pm : Value) (an : Option Addr) (cdv ct : Value) (us : List Value), us.length = ps.length → bindArgs (PySem.W.fnOf "__init__" qual params body scope .none kV doc pm an cdv ct) ⟨us, []⟩ = pure (ps.zip us))
    (len : ∀ vs H Q E, sp vs H Q E → vs.length = ps.length)
    (hbody : ∀ (cdv : Value) (A : Around) (outer : List Env) (s : Shared) (H : Hp) (vs : List V) (Q : VK) (E : XK), Room k (A.deeper (envOfC qual scope s.heap.objs.size f cdv)) → sp vs H Q E →
      ∃ t, PSs (cxOf (CXP P w) P w K mg base N qual scope f cdv A outer s H E) body t ∧ t { nx := fun _ H' => Q .non H', rt := Q } (start N vs) H) : Mkr P w K mg base (CXP P w) (k + 1) x C sp [] := by
  obtain ⟨fd, F⟩ := F
  exact ⟨f, fd, ps, [], M, F.ok S len hbody, g, F.bindsN hb, .nil⟩
end
end FW
namespace FW
open PySem PySem.Spec PyProof.Rows L2
/-! ### readings, step by step: the main goal first, the side goals behind it -/
section
variable {K : PySem.W.Frag} {σ : L2.St} {H : Hp} {Q : VK} {D : Ends} {ta tb tc te : TE} {tt tu : TT} {ts tv : TS} {tA tA' : TA} {v : V} {i j : Int} {n : Nat} {a : Addr} {xs ys : List V}
theorem s_seq (k : ts { D with nx := tv D } σ H) : tSeq ts tv D σ H := k
theorem s_next (k : D.nx σ H) : tNext D σ H := k
theorem s_asg (k : te σ H fun v H1 => D.nx (σ.set n (some v)) H1) : tAsg te (gName n) D σ H := k
theorem s_asgG {g : TG} (k : te σ H fun v H1 => g v σ H1 D.nx) : tAsg te g D σ H := k
theorem s_ret (k : te σ H D.rt) : tRet te D σ H := k
theorem s_if (k : tt σ H fun b H1 => if b = true then ts D σ H1 else tv D σ H1) : tIfS tt ts tv D σ H := k
theorem s_drop (k : te σ H fun _ H1 => D.nx σ H1) : tDrop te D σ H := k
theorem s_par {m : Nat} (k : tA σ H fun vs H1 => ∃ v w, vs = [v, w] ∧ D.nx ((σ.set n (some v)).set m (some w)) H1) : tPar n m tA D σ H := k
theorem s_par2 {R : V → V → Prop} {x y : V} (k : R x y) : ∃ v w, [x, y] = [v, w] ∧ R v w := ⟨x, y, rfl, k⟩
theorem s_aug {ti : TIp} {x : V} (k : te σ H fun y H1 => ti x y H1 fun z H2 => D.nx (σ.set n (some z)) H2) (h : σ[n]? = some (some x)) : tAug n te ti D σ H := ⟨x, h, k⟩
theorem s_fld {f : Str} (k : te σ H fun y H1 => ta σ H1 fun x H2 => ∃ a C dx fs, x = .ref a ∧ H2 a = some (.ins C dx fs) ∧ Cls K C ∧ NoAttr K C f ∧ fs.length < 1000 ∧ D.nx σ (upd H2 a (.ins C dx (putF f y fs)))) : sFld K ta te f D σ H := k
theorem e_var (k : Q v H) (h : σ[n]? = some (some v)) : tVar n σ H Q := ⟨v, h, k⟩
theorem e_c (k : Q v H) : tC v σ H Q := k
theorem e_op {r : R2} (k : ta σ H fun x H1 => tb σ H1 fun y H2 => r x y H2 Q) : tOp r ta tb σ H Q := k
theorem e_un {r : V → Hp → VK → Prop} (k : ta σ H fun x H1 => r x H1 Q) : tUn r ta σ H Q := k
theorem e_U {g : Int → V} (k : Q (g i) H) : rU g (.int i) H Q := ⟨i, rfl, k⟩
theorem e_I0 {g : Int → Int → V} (k : Q (g i j) H) : rI0 g (.int i) (.int j) H Q := ⟨i, j, rfl, rfl, k⟩
theorem e_I {C : Int → Int → Prop} {g : Int → Int → V} (k : Q (g i j) H) (c : C i j) : rI C g (.int i) (.int j) H Q := ⟨i, j, rfl, rfl, c, k⟩
theorem e_ip {f : Int → Int → Int} (k : Q (.int (f i j)) H) : ipI f (.int i) (.int j) H Q := ⟨i, j, rfl, rfl, k⟩
theorem e_eq {x y : V} (k : Q (.bl (decide (x = y))) H) (h : scal x y = true) : rEq x y H Q := ⟨h, k⟩
theorem e_ne {x y : V} (k : Q (.bl (!decide (x = y))) H) (h : scal x y = true) : rNe x y H Q := ⟨h, k⟩
theorem e_test {R : Bool → Hp → Prop} (k : te σ H fun x H' => ∃ k, x = .bl k ∧ R k H') : tTest te σ H R := k
theorem e_tB {R : Bool → Hp → Prop} (k : te σ H fun x H' => ∃ k, x = .bl k ∧ R k H') : L2.tB te σ H R := k
theorem e_bl {R : Bool → Prop} {b : Bool} (k : R b) : ∃ k, V.bl b = .bl k ∧ R k := ⟨b, rfl, k⟩
theorem e_not {R : Bool → Hp → Prop} (k : tt σ H fun c H1 => R (!c) H1) : tNot tt σ H R := k
theorem e_and {R : Bool → Hp → Prop} (k : tt σ H fun c H1 => if c = true then tu σ H1 R else R false H1) : tAnd tt tu σ H R := k
theorem e_or {R : Bool → Hp → Prop} (k : tt σ H fun c H1 => if c = true then R true H1 else tu σ H1 R) : tOr tt tu σ H R := k
theorem e_andV (k : ta σ H fun x H1 => ∃ c, x = .bl c ∧ if c = true then tb σ H1 Q else Q (.bl false) H1) : tAndV ta tb σ H Q := k
theorem e_orV (k : ta σ H fun x H1 => ∃ c, x = .bl c ∧ if c = true then Q (.bl true) H1 else tb σ H1 Q) : tOrV ta tb σ H Q := k
theorem e_notV (k : ta σ H fun x H1 => ∃ c, x = .bl c ∧ Q (.bl (!c)) H1) : tNotV ta σ H Q := k
theorem e_ifx (k : tt σ H fun c H1 => if c = true then ta σ H1 Q else tb σ H1 Q) : tIf tt ta tb σ H Q := k
theorem e_nil {R : List V → Hp → Prop} (k : R [] H) : tNil σ H R := k
theorem e_cons {R : List V → Hp → Prop} (k : te σ H fun x H1 => tA σ H1 fun xs H2 => R (x :: xs) H2) : tCons te tA σ H R := k
theorem e_call {sp : Sp} {E : XK} (k : tA σ H fun vs H1 => sp vs H1 Q E) : tCall sp [] E tA σ H Q := by
  unfold tCall
  have e : (fun vs H1 => sp (vs ++ []) H1 Q E) = fun vs H1 => sp vs H1 Q E := by funext vs H1; rw [List.append_nil]
  rw [e]; exact k
theorem e_cb {r : List V → Hp → VK → Prop} (k : tA σ H fun vs H1 => r vs H1 Q) : tCB r tA σ H Q := k
theorem e_lst (k : tA σ H fun xs H1 => xs.length ≤ sizeLine ∧ ∀ p, H1 p = none → Q (.ref p) (upd H1 p (.lst xs))) : tLst tA σ H Q := k
theorem e_tup (k : tA σ H fun xs H1 => xs.length ≤ sizeLine ∧ ∀ p, H1 p = none → Q (.ref p) (upd H1 p (.tup xs))) : tTup tA σ H Q := k
theorem e_ixL (k : Q v H) (h : SqL K H a xs) (ha : atI xs i = some v) : rIxL K (.ref a) (.int i) H Q := ⟨a, xs, i, v, rfl, rfl, h, ha, k⟩
theorem e_ixT (k : Q v H) (h : SqT K H a xs) (ha : atI xs i = some v) : rIxT K (.ref a) (.int i) H Q := ⟨a, xs, i, v, rfl, rfl, h, ha, k⟩
theorem e_len (k : Q (.int xs.length) H) (h : SqL K H a xs ∨ SqT K H a xs) : Evl.rLenS K [.ref a] H Q := ⟨a, xs, rfl, h, k⟩
theorem e_int (k : Q (.int i) H) : rInt1 [.int i] H Q := .inl ⟨i, rfl, k⟩
theorem e_intB {b : Bool} (k : Q (.int (if b then 1 else 0)) H) : rInt1 [.bl b] H Q := .inr ⟨b, rfl, k⟩
theorem e_abs (k : Q (.int (if i < 0 then -i else i)) H) : rAbs [.int i] H Q := ⟨i, rfl, k⟩
theorem e_max2 (k : Q (.int (if j > i then j else i)) H) : rMax2 [.int i, .int j] H Q := ⟨i, j, rfl, k⟩
theorem e_min2 (k : Q (.int (if j < i then j else i)) H) : rMin2 [.int i, .int j] H Q := ⟨i, j, rfl, k⟩
theorem e_isN {x : V} (k : Q (.bl (decide (x = .non))) H) : rIsN x .non H Q := ⟨rfl, k⟩
theorem e_notN {x : V} (k : Q (.bl (!decide (x = .non))) H) : rNotN x .non H Q := ⟨rfl, k⟩
theorem e_in {x : V} {neg : Bool} (k : Q (.bl (if neg then !inV x xs else inV x xs)) H) (h : SqL K H a xs ∨ SqT K H a xs) (hx : flatV x = true) (ha : xs.all flatV = true) : rIn K neg x (.ref a) H Q := ⟨a, xs, rfl, h, hx, ha, k⟩
theorem e_chain {r r' : R2} (k : ta σ H fun x H1 => tb σ H1 fun y H2 => r x y H2 fun z H3 => ∃ k, z = .bl k ∧ (if k = true then tc σ H3 fun w' H4 => r' y w' H4 Q else Q (.bl false) H3)) : tChain r r' ta tb tc σ H Q := k
theorem e_fld {f : Str} {C dx : Addr} {fs : List (Str × V)} (k : ta σ H fun x H1 => ∃ a C dx fs v, x = .ref a ∧ H1 a = some (.ins C dx fs) ∧ Cls K C ∧ NoAttr K C f ∧ fs.lookup f = some v ∧ Q v H1) : tFld K ta f σ H Q := k
/-- what a for asks behind its walked thing -/
def ForK (g : TG) (tb : TS) (D : Ends) (σ : L2.St) (J : It) (H : Hp) : Prop := ∃ W : Nat → Nat → L2.St → Hp → Prop, (∃ m, W 0 m σ H) ∧ ∀ i m σ H, W i m σ H →
  (J.stop i H ∧ D.nx σ H) ∨ (J.go i H ∧ ∃ N : L2.St → Hp → Prop, (∀ σ' H', N σ' H' → ∃ m', m' < m ∧ W (i + 1) m' σ' H') ∧ ∀ x H', J.yld i H x H' → g x σ H' fun σ2 H2 => tb { D with nx := N, ct := N, bk := D.nx } σ2 H2)
theorem s_for {wi : TI} {g : TG} (k : wi σ H fun J H1 => ForK g ts D σ J H1) : tFor wi g ts D σ H := k
theorem i_rng1 {R : It → Hp → Prop} (k : tA σ H fun vs H1 => ∃ j : Int, vs = [.int j] ∧ -(2 ^ 62) ≤ j ∧ j < 2 ^ 62 ∧ R (Itr 0 j.toNat) H1) : iRng1 tA σ H R := k
theorem i_rng1' {R : Int → Prop} (k : R j) (h : -(2 ^ 62) ≤ j ∧ j < 2 ^ 62) : ∃ j' : Int, [V.int j] = [.int j'] ∧ -(2 ^ 62) ≤ j' ∧ j' < 2 ^ 62 ∧ R j' := ⟨j, rfl, h.1, h.2, k⟩
theorem i_rng2 {R : It → Hp → Prop} (k : tA σ H fun vs H1 => ∃ i j : Int, vs = [.int i, .int j] ∧ (-(2 ^ 62) ≤ i ∧ i < 2 ^ 62 ∧ -(2 ^ 62) ≤ j ∧ j < 2 ^ 62) ∧ R (Itr i (j - i).toNat) H1) : iRng2 tA σ H R := k
theorem i_rng2' {R : Int → Int → Prop} (k : R i j) (h : -(2 ^ 62) ≤ i ∧ i < 2 ^ 62 ∧ -(2 ^ 62) ≤ j ∧ j < 2 ^ 62) : ∃ i' j' : Int, [V.int i, V.int j] = [.int i', .int j'] ∧ (-(2 ^ 62) ≤ i' ∧ i' < 2 ^ 62 ∧ -(2 ^ 62) ≤ j' ∧ j' < 2 ^ 62) ∧ R i' j' := ⟨i, j, rfl, h, k⟩
theorem i_list {R : It → Hp → Prop} (k : te σ H fun x H1 => ∃ a, x = .ref a ∧ (∃ xs, SqL K H1 a xs) ∧ R (Itl K a) H1) : iList K te σ H R := k
theorem i_tup {R : It → Hp → Prop} (k : te σ H fun x H1 => ∃ a, x = .ref a ∧ (∃ xs, SqT K H1 a xs) ∧ R (Itt K a) H1) : iTup K te σ H R := k
theorem i_list' {R : Addr → Prop} (xs : List V) (k : R a) (h : SqL K H a xs) : ∃ a', V.ref a = .ref a' ∧ (∃ xs, SqL K H a' xs) ∧ R a' := ⟨a, rfl, ⟨xs, h⟩, k⟩
theorem i_tup' {R : Addr → Prop} (xs : List V) (k : R a) (h : SqT K H a xs) : ∃ a', V.ref a = .ref a' ∧ (∃ xs, SqT K H a' xs) ∧ R a' := ⟨a, rfl, ⟨xs, h⟩, k⟩
theorem s_while (W : Nat → L2.St → Hp → Prop) (m : Nat) (h0 : W m σ H) (hs : ∀ m σ H, W m σ H → tt σ H fun b H1 => if b = true then ∃ N : L2.St → Hp → Prop, (∀ σ' H', N σ' H' → ∃ m', m' < m ∧ W m' σ' H') ∧ ts { D with nx := N, ct := N, bk := D.nx } σ H1 else D.nx σ H1) : tWhile tt ts D σ H := ⟨W, ⟨m, h0⟩, hs⟩
/-- what a comprehension asks behind its walked thing -/
def LcK (g : TG) (tt : TT) (te : TE) (vs : List Nat) (σ : L2.St) (Q : VK) (J : It) (H1 : Hp) : Prop := ∀ D, H1 D = none → ∃ W : Nat → Nat → Hp → Prop, (∃ m, W 0 m (upd H1 D (.lst []))) ∧ ∀ i m H, W i m H →
  (J.stop i H ∧ Q (.ref D) H) ∨ (J.go i H ∧ ∃ Nx : Hp → Prop, (∀ H', Nx H' → ∃ m', m' < m ∧ W (i + 1) m' H') ∧ ∀ x H', J.yld i H x H' → g x (wipe σ vs) H' fun σ2 H2 => wipe σ2 vs = wipe σ vs ∧ tt σ2 H2 fun b H3 =>
    if b = true then te σ2 H3 fun y H4 => ∃ acc, H4 D = some (.lst acc) ∧ acc.length < sizeLine ∧ Nx (upd H4 D (.lst (acc ++ [y]))) else Nx H3)
theorem e_lc {wi : TI} {g : TG} {vs : List Nat} (k : wi σ H fun J H1 => LcK g tt te vs σ Q J H1) : tLc wi g tt te vs σ H Q := k
theorem g_sub {t : TSet} {R : L2.St → Hp → Prop} (k : ta σ H fun o H1 => tb σ H1 fun i H2 => t o i v H2 fun H3 => R σ H3) : gSub ta tb t v σ H R := k
theorem g_name {R : L2.St → Hp → Prop} (k : R (σ.set n (some v)) H) : gName n v σ H R := k
theorem g_nil {R : L2.St → Hp → Prop} (k : R σ H) : gNil [] σ H R := ⟨rfl, k⟩
theorem g_cons {g : TG} {gs : TGs} {R : L2.St → Hp → Prop} (k : g v σ H fun σ' H' => gs xs σ' H' R) : gCons g gs (v :: xs) σ H R := ⟨v, xs, rfl, k⟩
theorem g_tup {gs : TGs} {R : L2.St → Hp → Prop} (k : gs xs σ H R) (h : SqT K H a xs) (hl : xs.length = n) : gTup K n gs (.ref a) σ H R := ⟨a, xs, rfl, h, hl, k⟩
theorem e_setL {R : Hp → Prop} {m : Nat} (k : R (upd H a (.lst (xs.set m v)))) (h : H a = some (.lst xs)) (hi : ixN xs.length i = some m) : rSetL (.ref a) (.int i) v H R := ⟨a, xs, i, m, rfl, rfl, h, hi, k⟩
theorem e_yes {R : Bool → Hp → Prop} (k : R true H) : tYes σ H R := k
theorem e_bm {T : String} {r : V → List V → Hp → VK → Prop} (k : ta σ H fun x H1 => tyV K T x H1 ∧ tA σ H1 fun xs H2 => r x xs H2 Q) : tBM K T r ta tA σ H Q := k
theorem e_bm0 {T : String} {r : V → List V → Hp → VK → Prop} (k : ta σ H fun x H1 => tyV K T x H1 ∧ r x [] H1 Q) : tBM0 K T r ta σ H Q := k
theorem e_mk {C : Addr} {sp : Sp} {dvs : List V} {E : XK} (k : tA σ H fun vs H1 => ∀ x dx, H1 x = none → H1 dx = none → dx ≠ x → sp (.ref x :: (vs ++ dvs)) (upd (upd H1 dx (.own x)) x (.ins C dx [])) (fun v H2 => v = .non ∧ Q (.ref x) H2) E) : tMake C sp dvs E tA σ H Q := k
theorem e_mt {C : Addr} {m : Str} {sp : Sp} {dvs : List V} {E : XK} (k : ta σ H fun x H1 => ∃ a dx fs, x = .ref a ∧ H1 a = some (.ins C dx fs) ∧ fs.lookup m = none ∧ tA σ H1 fun vs H2 => sp (x :: (vs ++ dvs)) H2 Q E) : tMeth C m sp dvs E ta tA σ H Q := k
theorem e_fldk {f : Str} (k : ta σ H fun x H1 => ∃ a C dx fs v, x = .ref a ∧ H1 a = some (.ins C dx fs) ∧ Cls K C ∧ NoAttr K C f ∧ fs.lookup f = some v ∧ Q v H1) : tFld K ta f σ H Q := k
theorem e_ite {p : Prop} [Decidable p] {A B : Prop} (h1 : p → A) (h2 : ¬ p → B) : if decide p = true then A else B := by
  by_cases h : p
  · rw [if_pos (decide_eq_true h)]; exact h1 h
  · rw [if_neg (by rw [decide_eq_false h]; decide)]; exact h2 h
theorem e_iteN {p : Prop} [Decidable p] {A B : Prop} (h1 : ¬ p → A) (h2 : p → B) : if (!decide p) = true then A else B := by
  by_cases h : p
  · rw [if_neg (by rw [decide_eq_true h]; decide)]; exact h2 h
  · rw [if_pos (by rw [decide_eq_false h]; decide)]; exact h1 h
theorem e_iteB {b : Bool} {A B : Prop} (h1 : b = true → A) (h2 : b = false → B) : if b = true then A else B := by
  cases b
  · rw [if_neg (by decide)]; exact h2 rfl
  · rw [if_pos rfl]; exact h1 rfl
theorem e_T {A B : Prop} (h : A) : if true = true then A else B := by rw [if_pos rfl]; exact h
theorem e_nT {A B : Prop} (h : B) : if (!true) = true then A else B := by rw [if_neg (by decide)]; exact h
theorem e_nF {A B : Prop} (h : A) : if (!false) = true then A else B := by rw [if_pos (by decide)]; exact h
theorem e_F {A B : Prop} (h : B) : if false = true then A else B := by rw [if_neg (by decide)]; exact h
end
/-! ### extensions -/
abbrev Ext (H H' : Hp) : Prop := ∀ a o, H a = some o → H' a = some o
/-- all but the object at p is kept -/
def ExtB (p : Addr) (H H' : Hp) : Prop := ∀ a o, a ≠ p → H a = some o → H' a = some o
theorem Ext.rfl' {H : Hp} : Ext H H := fun _ _ h => h
theorem Ext.tr {H H1 H2 : Hp} (a : Ext H H1) (b : Ext H1 H2) : Ext H H2 := fun x o h => b x o (a x o h)
theorem Ext.new {H : Hp} {p : Addr} {o : HO} (h : H p = none) : Ext H (upd H p o) := fun a u e => by
  rw [upd_ne (ne_of_none e h)]; exact e
theorem Ext.non {H H' : Hp} {p : Addr} (e : Ext H H') (h : H' p = none) : H p = none := by
  cases q : H p with
  | none => rfl
  | some o => rw [e p o q] at h; cases h
theorem Ext.sqL {K : PySem.W.Frag} {H H' : Hp} {a : Addr} {xs : List V} (e : Ext H H') (h : SqL K H a xs) : SqL K H' a xs := Evl.ex_l e h
theorem Ext.sqT {K : PySem.W.Frag} {H H' : Hp} {a : Addr} {xs : List V} (e : Ext H H') (h : SqT K H a xs) : SqT K H' a xs := Evl.ex_t e h
theorem ExtB.of {p : Addr} {H H' : Hp} (e : Ext H H') : ExtB p H H' := fun a o _ h => e a o h
theorem ExtB.tr {p : Addr} {H H1 H2 : Hp} (a : ExtB p H H1) (b : ExtB p H1 H2) : ExtB p H H2 := fun x o n h => b x o n (a x o n h)
theorem ExtB.upd {p : Addr} {H : Hp} {o : HO} : ExtB p H (upd H p o) := fun a u n e => by rw [upd_ne n]; exact e
theorem Ext.upds {H H' : Hp} {p : Addr} {o : HO} (e : Ext H H') (h : H p = Option.none) : Ext H (upd H' p o) := fun a u q => by
  rw [upd_ne (ne_of_none q h)]; exact e a u q
end FW
/-! tuples turned about, counted, and things that are a list or a tuple -/
namespace PySem
namespace SeqX
open PyProof.Rows PySem.W
theorem adjust_rev (n : Nat) : Builtin.Slice.sliceAdjust none none (-1) (n : Int) = ((n : Int) - 1, -1) := by
  unfold Builtin.Slice.sliceAdjust
  rfl
theorem places_rev (n : Nat) : Builtin.Slice.slicePlaces ((n : Int) - 1) (-1) (-1) = n := by
  unfold Builtin.Slice.slicePlaces
  have h1 : ¬ ((-1 : Int) > 0) := by omega
  simp only [h1, if_false, show (- -1 : Int) = 1 from rfl, Int.ediv_one]
  split <;> omega
section
variable {prog : Program} {w : World} {A : Around} {E : Value → Shared → Prop} {s : Shared}
theorem sliceApplied_rev {sl : Addr} {vl vu vs : Value} {n : Nat} {Q : Int × Int × Nat → Shared → Prop} (hs : s.heap.IsSliceOf sl vl vu vs) (pl : IsPart vl none) (pu : IsPart vu none) (ps : IsPart vs (some (-1)))
    (h : Q ((n : Int) - 1, -1, n) s) : wpAny (model prog w) A (Builtin.Slice.sliceApplied (.ref sl) (pure (n : Int))) Q E s := by
  obtain ⟨os, hos, hcs, hds⟩ := id hs
  unfold Builtin.Slice.sliceApplied Builtin.Slice.sliceFields
  refine wpAny_bind (wpAny_bind (wpAny_field hos hds (x := vl) rfl (wpAny_bind (wpAny_field hos hds (x := vu) rfl (wpAny_bind (wpAny_field hos hds (x := vs) rfl (wpAny_pure ?_)))))))
  refine wpAny_bind (HT.slicePart_ ps ?_)
  show wpAny _ _ (if ((-1 : Int) == 0) = true then _ else _) _ _ s
  rw [if_neg (by decide)]
  refine wpAny_bind (HT.slicePart_ pl (wpAny_bind (HT.slicePart_ pu (wpAny_bind (wpAny_pure ?_)))))
  show wpAny _ _ (match Builtin.Slice.sliceAdjust none none (-1) (n : Int) with | (lo, hi) => pure (lo, (-1 : Int), Builtin.Slice.slicePlaces lo hi (-1))) _ _ s
  rw [adjust_rev n]
  show wpAny _ _ (pure ((n : Int) - 1, (-1 : Int), Builtin.Slice.slicePlaces ((n : Int) - 1) (-1) (-1))) _ _ s
  rw [places_rev]
  exact wpAny_pure h
theorem pick_rev (xs : Array Value) : ((List.range xs.size).filterMap fun (m : Nat) => xs[(((xs.size : Nat) : Int) - 1 + (m : Int) * (-1)).toNat]?).toArray = xs.toList.reverse.toArray := by
  have e : (List.range xs.size).filterMap (fun (m : Nat) => xs[(((xs.size : Nat) : Int) - 1 + (m : Int) * (-1)).toNat]?) = ((List.range xs.size).map fun k => xs.size - 1 - k).filterMap (xs[·]?) := by
    rw [List.filterMap_map]
    congr 1
    funext m
    show xs[(((xs.size : Nat) : Int) - 1 + (m : Int) * (-1)).toNat]? = xs[xs.size - 1 - m]?
    have q : (((xs.size : Nat) : Int) - 1 + (m : Int) * (-1)).toNat = xs.size - 1 - m := by omega
    rw [q]
  rw [e, krv_range, List.filterMap_reverse, krv_all]
theorem getItem_tuple_rev {t sl : Addr} {items : Array Value} {vl vu vs : Value} {Q : Value → Shared → Prop} (ht : IsTup s.heap t items) (hs : s.heap.IsSliceOf sl vl vu vs) (pl : IsPart vl none) (pu : IsPart vu none) (ps : IsPart vs (some (-1)))
    (h : Q (.ref s.heap.objs.size) { s with heap := s.heap.push { cls := .type "tuple", data := .seq items.toList.reverse.toArray } })
    (hsz : items.size ≤ sizeLine) : wpAny (model prog w) A (getItem (.ref t) (.ref sl)) Q E s := by
  have htake : sizeOk (.seq items.toList.reverse.toArray) := by
    show items.toList.reverse.toArray.size ≤ sizeLine
    rw [List.size_toArray, List.length_reverse, Array.length_toList]
    exact hsz
  obtain ⟨os, hos, hcs, hds⟩ := id hs
  have hTs : s.TypeIs (.ref sl) "slice" := ⟨os, hos, hcs⟩
  unfold getItem
  try with_reducible refine wpAny_holding ?_
  first | refine wpAny_bind (wpAny_pure ?_) | skip
  refine wpAny_bind (wpAny_sequenceKey ht.typeIs (by decide) ?_)
  refine wpAny_bind (wpAny_callSpecial?_slot (name := Str.ofString "__getitem__") ht.typeIs PyProof.Rows.slot_tuple_getitem
    (wpAny_call_entry PyProof.Rows.slot_tuple_getitem ht.typeIs entry_tuple_getitem ?_ (args_tuple_getitem _ _)))
  show wpAny _ _ (Builtin.Tuple.tupleItemsOf (.ref t) >>= _) _ _ s
  refine wpAny_bind (tupleItemsOf_ ht ?_)
  refine wpAny_bind (wpAny_typeOf hTs ?_)
  rw [if_pos (by decide)]
  refine wpAny_bind (sliceApplied_rev hs pl pu ps ?_)
  show wpAny _ _ (if ((((items.size : Nat) : Int) - 1) == 0 && (-1 : Int) == 1 && items.size == items.size) = true then _ else _) _ _ s
  rw [if_neg (by rw [show ((-1 : Int) == 1) = false from rfl, Bool.and_false, Bool.false_and]; exact Bool.false_ne_true), pick_rev]
  first
    | exact wpAny_bind (m := Builtin.Tuple.tupleExact _) (wpAny_newObj_type (wpAny_pure ⟨_, rfl, wpAny_pure h⟩) htake)
    | exact wpAny_bind (m := Builtin.Tuple.tupleExact _) (wpAny_newObj_type (wpAny_bind (wpAny_pure (wpAny_pure ⟨_, rfl, wpAny_pure h⟩))) htake)
    | exact wpAny_bind (wpAny_bind (m := Builtin.Tuple.tupleExact _) (wpAny_newObj_type (wpAny_pure (wpAny_pure ⟨_, rfl, wpAny_pure h⟩)) htake))
    | exact wpAny_bind (wpAny_bind (m := Builtin.Tuple.tupleExact _) (wpAny_newObj_type (wpAny_pure ⟨_, rfl, wpAny_pure h⟩) htake))
end
set_option maxHeartbeats 1000000 in
theorem meets_enumerate_newT {v : Value} {o : Obj} {H : Heap → Prop} (B : Begins v o H) :
    Meets (Builtin.«enumerate.__new__» ⟨[.type "enumerate", v], []⟩) (fun _ R s => H s.heap ∧
      R (.ok (.ret (.ref (s.heap.push o).objs.size))) { s with heap := (s.heap.push o).push { cls := .type "enumerate", data := .fields #[.none, .bool false, .ref s.heap.objs.size, rawInt 0, .none, .none] } }) :=
  .of_wp fun prog w A R s h => by
    obtain ⟨hp, g, d, tk, os⟩ := s; obtain ⟨h1, h⟩ := h
    have hsub := sub_enumerate
    have q1 : ∀ {A' : Around} {E : Value → Shared → Prop} {Q : Value → Shared → Prop}, Q (.ref hp.objs.size) ⟨hp.push o, g, d, tk, os⟩ → wpAny (model prog w) A' (pyIter v) Q E ⟨hp, g, d, tk, os⟩ :=
      fun q => B.iter prog w _ _ ⟨hp, g, d, tk, os⟩ _ h1 q
    wp_walk using q1
    refine wpAny_stack_any fun st => wpAny_pure ?_
    split
    · rename_i c _ _ _ _ _
      cases (c == Value.type "enumerate")
      · wp_walk using q1
        exact ⟨_, rfl, h⟩
      · wp_walk using q1
        exact ⟨_, rfl, h⟩
    · wp_walk using q1
      exact ⟨_, rfl, h⟩
section
variable {prog : Program} {w : World} {A : Around} {E : Value → Shared → Prop} {s : Shared}
theorem call_enumerate_tuple {t : Addr} {items : Array Value} {Q : Value → Shared → Prop} (hL : s.heap.IsTuple t items)
    (h : ∀ h', IsEnum h' (s.heap.objs.size + 1) s.heap.objs.size 0 .none → h'.IsTupleIter s.heap.objs.size t 0 → h'.objs.size = s.heap.objs.size + 2 →
      (∀ b o, s.heap.get? b = some o → h'.get? b = some o) → Q (.ref (s.heap.objs.size + 1)) { s with heap := h' }) :
    wpAny (model prog w) A (call (.type "enumerate") [.ref t]) Q E s := by
  refine callType_new F.called_enumerate (by decide) (F.typeCall_enumerate_1 _) (F.newCall_enumerate_1 _) (fun obj => F.args_object_init_2 obj _) F.entry_enumerate_new
    (meets_enumerate_newT (begins_tuple t items)) ⟨hL, ?_⟩
  have hz : (s.heap.push { cls := .type "tuple_iterator", data := .fields #[.ref t, .int 0 0] }).objs.size = s.heap.objs.size + 1 := Heap.size_push ..
  show _ ∧ _
  rw [hz]
  have he : IsEnum ((s.heap.push { cls := .type "tuple_iterator", data := .fields #[.ref t, .int 0 0] }).push
      { cls := .type "enumerate", data := .fields #[.none, .bool false, .ref s.heap.objs.size, rawInt 0, .none, .none] }) (s.heap.objs.size + 1) s.heap.objs.size 0 .none := by
    have := Heap.get?_push_size (s.heap.push { cls := .type "tuple_iterator", data := .fields #[.ref t, .int 0 0] })
      (o := { cls := .type "enumerate", data := .fields #[.none, .bool false, .ref s.heap.objs.size, rawInt 0, .none, .none] }) rfl
    rw [hz] at this; exact this
  refine ⟨⟨_, he, rfl⟩, h _ he ⟨_, Heap.get?_push_of_some _ (Heap.get?_push_size _ rfl), rfl, rfl⟩ (by rw [Heap.size_push, hz]) fun b o x => Heap.get?_push_of_some _ (Heap.get?_push_of_some _ x)⟩
end
end SeqX
end PySem
namespace FW
open PySem PySem.Spec PyProof.Rows L2
section
variable {X : Cx}
/-- t[::-1] of a tuple -/
def tRevT (K : PySem.W.Frag) (te : TE) : TE := fun σ H Q => te σ H fun x H1 => ∃ a xs, x = .ref a ∧ SqT K H1 a xs ∧ ∀ p, H1 p = none → Q (.ref p) (upd H1 p (.tup xs.reverse))
theorem pe_revT {e : Expr} {te : TE} {k : Nat} {p1 p2 p3 pos : Pos} (he : PE X e te) : PE X (.Subscript e (.Slice none none (some (.UnaryOp .USub (.Constant (.int 1) k p1) p2)) p3) pos) (tRevT X.K te) := by
  refine ⟨fun pins s σ H Q I h => ?_⟩
  refine Subscript_ (thn (he.run pins s σ H _ I h) fun v s1 ⟨x, H1, I1, r1, q1⟩ => ?_)
  obtain ⟨a, xs, ex, hx, q⟩ := q1
  subst ex
  cases r1
  have hst : PO X (some (.UnaryOp .USub (.Constant (.int 1) k p1) p2)) (tPart (tUn (rU fun i => .int (-i)) (tC (.int 1)))) := po_some (pe_un un_neg pe_int)
  refine wpAny_Slice (thn (po_none.run pins s1 σ H1 (fun o H2 => o = none ∧ H2 = H1) I1 ⟨rfl, rfl⟩) fun vl s2 ⟨l, H2, I2, pl, el, e2⟩ => ?_)
  subst el e2
  refine thn (po_none.run pins s2 σ H2 (fun o H3 => o = none ∧ H3 = H2) I2 ⟨rfl, rfl⟩) fun vu s3 ⟨u, H3, I3, pu, eu, e3⟩ => ?_
  subst eu e3
  refine thn (hst.run pins s3 σ H3 (fun o H4 => o = some (-1) ∧ H4 = H3) I3 ⟨1, rfl, -1, rfl, rfl, rfl⟩) fun vs s4 ⟨o, H4, I4, ps, eo, e4⟩ => ?_
  subst eo e4
  have I5 : Inv X pins σ H4 { s4 with heap := s4.heap.push { cls := .type "slice", data := .fields #[vl, vu, vs] } } := I4.kept (t' := s4.toks) fun b ob q => Heap.get?_push_of_some _ q
  obtain ⟨its, r, ht, hz⟩ := I5.tuple hx
  have hlen := r.length
  show wpAny (model X.prog X.w) X.A (subscriptTail e (.Slice none none (some (.UnaryOp .USub (.Constant (.int 1) k p1) p2)) p3) (.ref a) (.ref s4.heap.objs.size)) (EP X pins σ Q) X.xe { s4 with heap := s4.heap.push { cls := .type "slice", data := .fields #[vl, vu, vs] } }
  refine tail_any (ops := [.ref a, .ref s4.heap.objs.size]) ht.typeIs (PyProof.Rows.slot_tuple_getitem.lookup) ?_ (by with_unfolding_all rfl)
  refine SeqX.getItem_tuple_rev ht (Heap.IsSliceOf.new _ vl vu vs) pl pu ps ?_ (by rw [List.size_toArray]; omega)
  refine ⟨.ref _, _, I5.laid (t' := s4.toks) (o := .tup xs.reverse) (fun b ob q => Heap.get?_push_of_some _ q) (Nat.le_refl _) ?_, rfl, q _ (I5.hok.fresh (Nat.le_refl _))⟩
  exact ⟨by rw [List.length_reverse]; exact hz, _, r.reverse, IsTup.new _ _⟩
/-- one reading or another -/
def tEither (t u : TE) : TE := fun σ H Q => t σ H Q ∨ u σ H Q
theorem pe_either {e : Expr} {t u : TE} (h1 : PE X e t) (h2 : PE X e u) : PE X e (tEither t u) := ⟨fun pins s σ H Q I h => by
  rcases h with h | h
  · exact h1.run pins s σ H Q I h
  · exact h2.run pins s σ H Q I h⟩
def iEither (t u : TI) : TI := fun σ H Q => t σ H Q ∨ u σ H Q
theorem pi_either {tg e : Expr} {t u : TI} (h1 : PI X tg e t) (h2 : PI X tg e u) : PI X tg e (iEither t u) := ⟨fun pins s σ H Q I h => by
  rcases h with h | h
  · exact h1.run pins s σ H Q I h
  · exact h2.run pins s σ H Q I h⟩
/-! ### enumerate(tuple) -/
def IteT (K : PySem.W.Frag) (a : Addr) : It :=
  ⟨fun i H => ∃ (xs : List V) (x : V), SqT K H a xs ∧ xs[i]? = some x, fun i H v H' => ∃ T x, v = .ref T ∧ H T = none ∧ H' = upd H T (.tup [.int (i : Nat), x]) ∧ ∀ xs, SqT K H a xs → xs[i]? = some x, fun i H => ∃ xs : List V, SqT K H a xs ∧ xs.length = i⟩
theorem turn_enumT {P : Program} {w : World} {K : PySem.W.Frag} {elts : List Expr} {kk : Nat} {tpos : Pos} (a e it : Addr) :
    Turn P w K (.Tuple elts kk tpos) (IteT K a) [e, it] e (fun i h => (∃ old, IsEnum h e it ((i : Nat) : Int) old) ∧ h.IsTupleIter it a i ∧ e ≠ it) where
  mem := by simp
  obj := fun i h st b hb => by
    obtain ⟨⟨old, he⟩, ⟨o, ho, hc, hd⟩, _⟩ := st
    have e' : b = e ∨ b = it := by simpa using hb
    rcases e' with z | z
    · rw [z]; exact ⟨_, he, fun v q => nomatch q⟩
    · rw [z]; exact ⟨o, ho, fun v q => by rw [hd] at q; cases q⟩
  keep := fun i h h' st k => let ⟨⟨old, he⟩, hi, hne⟩ := st; ⟨⟨old, k e (by simp) _ he⟩, hi.at fun o q => k it (by simp) o q, hne⟩
  item := by
    intro X hP hw hK hc i pins s σ H E I hf st hg
    subst hP hw hK
    obtain ⟨⟨old, he⟩, hit, hne⟩ := st
    obtain ⟨xs, x, hq, hx⟩ := hg
    obtain ⟨its, rv, p, hz⟩ := I.tuple hq
    obtain ⟨u, hu, ru⟩ := rv.get hx
    have hel : e < s.heap.objs.size := Heap.lt_size he
    have hil : it < s.heap.objs.size := by obtain ⟨_, q, _⟩ := hit; exact Heap.lt_size q
    have hia : a ≠ it := by
      obtain ⟨o1, q1, c1, _⟩ := hit
      obtain ⟨o2, q2, c2, _⟩ := p
      intro z
      rw [z, q1] at q2
      cases q2
      rw [c1] at c2
      exact absurd c2 (by decide)
    have hea : e ∉ [it, a] := by
      intro z
      rcases List.mem_cons.mp z with z | z
      · exact hne z
      · have z := List.mem_singleton.mp z
        obtain ⟨o2, q2, c2, _⟩ := p
        rw [← z, he] at q2
        cases q2
        exact absurd (show Value.type "enumerate" = Value.type "tuple" from c2) (by decide)
    have hilen : i < its.toArray.size := by
      have := (List.getElem?_eq_some_iff.mp hu).1
      rw [List.size_toArray]; exact this
    refine wpAny_pyNext_enum_itemD (Draws.tuple (A := X.A.in1) (show X.A.in1.handled = none from I.ok.hd hc) it a hia its.toArray) he ⟨hit, p⟩ hilen hne hea fun y h' tk hy ho hst hT hsz hk => ?_
    obtain ⟨hit', _⟩ := hst
    have ey : y = u := by
      have : its[i]? = some y := by simpa using hy
      rw [hu] at this; injection this with z; exact z.symm
    subst ey
    refine ⟨_, rfl, wpAny_letOwnedTupleGo_enum (s := { s with heap := h', toks := tk + 1 }) ho fun h'' he' sb => ?_⟩
    have hT2 : h''.get? s.heap.objs.size = some { cls := .type "tuple", data := .seq #[.int i tk, y] } := (sb.2 _ (Nat.ne_of_gt hel)).trans hT
    have new : ObjOk X.prog X.w (upd H s.heap.objs.size (.tup [.int (i : Nat), x])) h'' s.heap.objs.size (.tup [.int (i : Nat), x]) :=
      ⟨by show 2 ≤ sizeLine; decide, [.int i tk, y], .cons ⟨_, rfl⟩ (.cons ru .nil), ⟨_, hT2, rfl, _, rfl⟩⟩
    have I1 : Inv X pins σ (upd H s.heap.objs.size (.tup [.int (i : Nat), x])) { s with heap := h'', toks := tk + 1 } :=
      I.turnedNew (ch := [e, it]) (fun b ob hb q => (sb.2 b (fun z => hb (by simp [z]))).trans (hk b ob (fun z => hb (by simp [z])) (fun z => hb (by simp [z])) q)) hf (Nat.le_refl _) new
    refine ⟨.ref s.heap.objs.size, _, I1, rfl, ⟨_, x, rfl, I.hok.fresh (Nat.le_refl _), rfl, fun ys hy => by rw [I.tuple_inj hy hq]; exact hx⟩, ⟨⟨y, ?_⟩, hit'.at fun o q => (sb.2 it (Ne.symm hne)).trans q, hne⟩, fun b hb => ?_⟩
    · have e1 : ((i + 1 : Nat) : Int) = (i : Int) + 1 := by omega
      rw [e1]; exact he'
    · have hb' : b < s.heap.objs.size := by
        have e' : b = e ∨ b = it := by simpa using hb
        rcases e' with z | z
        · rw [z]; exact hel
        · rw [z]; exact hil
      rw [upd_ne (Nat.ne_of_lt hb')]
      exact (hf b hb).1
  done := by
    intro X hP hw hK hc i pins s σ H E I hf st hg
    subst hP hw hK
    obtain ⟨⟨old, he⟩, hit, hne⟩ := st
    obtain ⟨xs, hq, hx⟩ := hg
    obtain ⟨its, rv, p, hz⟩ := I.tuple hq
    obtain ⟨f0, f1, f2, f3, f4, f5⟩ := hf it (by simp)
    have hl := rv.length
    have hia : a ≠ it := by
      obtain ⟨o1, q1, c1, _⟩ := hit
      obtain ⟨o2, q2, c2, _⟩ := p
      intro z
      rw [z, q1] at q2
      cases q2
      rw [c1] at c2
      exact absurd c2 (by decide)
    have hn : its.toArray.size = i := by rw [List.size_toArray]; omega
    exact wpAny_pyNext_enum_endD (Draws.tuple (A := X.A.in1) (show X.A.in1.handled = none from I.ok.hd hc) it a hia its.toArray) he ⟨by rw [hn]; exact hit, p⟩ fun h' eb => ⟨rfl, I.turned (t' := s.toks) (fun b o hb q => eb b o hb q) f0 f1 f3 f4 f5⟩
  self := fun A i s Q E st h => let ⟨⟨_, he⟩, _⟩ := st; wpAny_pyIter_enum he h
def iEnumT (K : PySem.W.Frag) (ta : TA) : TI := fun σ H R => ta σ H fun vs H1 => ∃ a xs, vs = [.ref a] ∧ SqT K H1 a xs ∧ R (IteT K a) H1
theorem pi_enumT {e : Expr} {ta : TA} {p pos tpos : Pos} {elts : List Expr} {kk : Nat} (hg : Gl X "enumerate") (hm : X.mg "enumerate" = none) (ha : PA X [e] ta) (hs : starEach [e] X.env = [(false, eval e X.env)] := by rfl) :
    PI X (.Tuple elts kk tpos) (.Call (.Name "enumerate" p) [e] [] pos) (iEnumT X.K ta) := by
  refine ⟨fun pins s σ H R I h => ?_⟩
  refine Call_ (ld_blt I hg hm boot_enumerate (PyProof.Rows.callWith_type1 (thn (ha.run pos pins s σ H _ I h) fun us s1 ⟨vs, H1, I1, r1, q1⟩ => ?_) hs rfl))
  obtain ⟨a, xs, ex, hq, q⟩ := q1
  subst ex
  cases r1 with
  | cons r rr =>
    cases rr
    cases r
    obtain ⟨its, rv, p', hz⟩ := I1.tuple hq
    refine SeqX.call_enumerate_tuple p' fun h' he hit hsz hk => wpAny_pyIter_enum he ?_
    have I2 : Inv X pins σ H1 { s1 with heap := h' } := I1.kept (t' := s1.toks) hk
    refine ⟨s1.heap.objs.size + 1, [s1.heap.objs.size + 1, s1.heap.objs.size], _, _, H1, rfl, I2, turn_enumT a (s1.heap.objs.size + 1) s1.heap.objs.size, ⟨⟨.none, he⟩, hit, Nat.succ_ne_self _⟩, fun b hb => ?_, q⟩
    have e' : b = s1.heap.objs.size + 1 ∨ b = s1.heap.objs.size := by simpa using hb
    have hle : s1.heap.objs.size ≤ b := by
      rcases e' with z | z
      · rw [z]; exact Nat.le_add_right _ _
      · rw [z]; exact Nat.le_refl _
    exact I1.fpOk hle (I1.hok.fresh hle)
end
end FW
namespace FW
open PySem PySem.Spec PyProof.Rows L2
section
variable {X : Cx}
theorem get_list : PGet X (rIxL X.K) := by
  intro pins s σ H x y v u Q I rx ry h
  obtain ⟨p, xs, i, z, rfl, rfl, hq, he, q⟩ := h
  cases rx
  obtain ⟨t, rfl⟩ := ry
  obtain ⟨its, r, pl, hz⟩ := I.list hq
  obtain ⟨j, h1, h2, h3, h4, h5⟩ := atI_get he
  obtain ⟨w, ew, rw'⟩ := r.get h2
  have hl := r.length
  have hn := line63
  have fin : EP X pins σ Q w s := ⟨z, H, I, rw', q⟩
  by_cases h0 : 0 ≤ i
  · have hj : i.toNat = j := by
      rw [seqIndex_of h0 h5] at h1
      exact Option.some.inj h1
    exact wpAny_getItem_list pl.isList h0 (by omega) (by rw [hj]; simpa using ew) fin
  · have hj : (i + (its.toArray.size : Int)).toNat = j := by
      rw [seqIndex_neg (by omega) h4] at h1
      rw [List.size_toArray, ← hl]
      exact Option.some.inj h1
    exact wpAny_getItem_list_neg pl.isList (by omega) (by rw [List.size_toArray] <;> omega) (by omega) (by rw [hj]; simpa using ew) fin
theorem walk_enumT {K : PySem.W.Frag} {a : Addr} {xs : List V} : Walk (IteT K a) xs.length (fun H => SqT K H a xs) (YPair (fun i => some (.int (i : Nat))) (fun i => xs[i]?)) := by
  refine ⟨fun i _ hi q => ⟨xs, xs[i], q, by simp [hi]⟩, fun _ q => ⟨xs, q, rfl⟩, fun i H v H' _ q y => ?_⟩
  obtain ⟨T, x, h1, h2, h3, h4⟩ := y
  exact ⟨T, .int (i : Nat), x, h1, h2, h3, rfl, h4 xs q⟩
end
abbrev rShl : R2 := rI CPow fun i j => .int (i * 2 ^ j.toNat)
theorem opShl {X : Cx} : OpR X (binaryOp .LShift) rShl := op_shl
end FW
local macro_rules | `(tactic| walk_at "re1") => `(tactic| with_reducible first
  | refine FW.e_var ?_ (by with_unfolding_all rfl) | refine FW.e_c ?_ | refine FW.e_op ?_ | refine FW.e_un ?_ | refine FW.e_U ?_ | refine FW.e_I0 ?_ | refine FW.e_I ?_ ?_ | refine FW.e_ip ?_
  | refine FW.e_test ?_ | refine FW.e_tB ?_ | refine FW.e_bl ?_ | refine FW.e_not ?_ | refine FW.e_and ?_ | refine FW.e_or ?_ | refine FW.e_andV ?_ | refine FW.e_orV ?_ | refine FW.e_notV ?_ | refine FW.e_ifx ?_
  | refine FW.e_nil ?_ | refine FW.e_cons ?_ | refine FW.e_call ?_ | refine FW.e_cb ?_ | refine FW.e_lst ?_ | refine FW.e_tup ?_ | refine FW.e_int ?_ | refine FW.e_intB ?_ | refine FW.e_abs ?_ | refine FW.e_max2 ?_ | refine FW.e_min2 ?_
  | refine FW.e_eq ?_ rfl | refine FW.e_ne ?_ rfl | refine FW.e_isN ?_ | refine FW.e_notN ?_ | refine FW.e_chain ?_ | refine FW.e_T ?_ | refine FW.e_F ?_ | refine FW.e_nT ?_ | refine FW.e_nF ?_ | refine FW.s_par2 ?_ | refine FW.i_rng1' ?_ ?_ | refine FW.i_rng2' ?_ ?_ | refine FW.g_sub ?_ | refine FW.e_lc ?_ | refine FW.e_yes ?_ | refine FW.e_bm ?_ | refine FW.e_bm0 ?_ | refine FW.e_mk ?_ | refine FW.e_mt ?_ | refine FW.e_fldk ?_ | refine FW.g_name ?_ | refine FW.g_nil ?_ | refine FW.g_cons ?_)
local macro_rules | `(tactic| walk_at "rs1") => `(tactic| with_reducible first
  | refine FW.s_seq ?_ | refine FW.s_asg ?_ | refine FW.s_ret ?_ | refine FW.s_if ?_ | refine FW.s_next ?_ | refine FW.s_drop ?_ | refine FW.s_fld ?_ | refine FW.s_par ?_ | refine FW.s_aug ?_ (by with_unfolding_all rfl) | refine FW.s_asgG ?_ | refine FW.s_for ?_ | refine FW.i_rng1 ?_ | refine FW.i_rng2 ?_ | refine FW.i_list ?_ | refine FW.i_tup ?_)
local macro_rules | `(tactic| walk_at "re") => `(tactic| repeat (walk_at "re1"))
local macro_rules | `(tactic| walk_at "rd") => `(tactic| repeat (first | walk_at "rs1" | walk_at "re1"))
namespace FWL
open PySem PySem.Spec PyProof.Rows L2 FW
/-! ### is_whole, is_whole_from -/
def tyNames : List String := ["NoneType", "bool", "int", "str", "float", "list", "tuple", "dict"]
/-- a thing of a built-in kind -/
def WT (K : PySem.W.Frag) (H : Hp) (v : V) (n : String) : Prop := TyX K H v (.type n) ∧ n ∈ tyNames
def isInt : V → Bool
  | .int _ => true
  | _ => false
def isStr : V → Bool
  | .str _ => true
  | _ => false
def iv : V → Int
  | .int i => i
  | _ => 0
def fromI (v : V) (l : Int) : Bool := isInt v && decide (l ≤ iv v)
theorem WT.isInt {K : PySem.W.Frag} {H : Hp} {v : V} {n : String} (h : WT K H v n) : isInt v = decide (n = "int") := by
  obtain ⟨h, _⟩ := h
  generalize ht : Value.type n = t at h
  cases h with
  | base b => cases b <;> first | (cases ht; rfl) | (injection ht with e; subst e; rfl) | cases ht
  | _ => injection ht with e; subst e; rfl
theorem WT.isStr {K : PySem.W.Frag} {H : Hp} {v : V} {n : String} (h : WT K H v n) : isStr v = decide (n = "str") := by
  obtain ⟨h, _⟩ := h
  generalize ht : Value.type n = t at h
  cases h with
  | base b => cases b <;> first | (cases ht; rfl) | (injection ht with e; subst e; rfl) | cases ht
  | _ => injection ht with e; subst e; rfl
theorem isInt_of {v : V} (h : isInt v = true) : ∃ i, v = .int i := by cases v <;> first | exact ⟨_, rfl⟩ | cases h
theorem isStr_of {v : V} (h : isStr v = true) : ∃ i, v = .str i := by cases v <;> first | exact ⟨_, rfl⟩ | cases h
theorem WT.i {K : PySem.W.Frag} {H : Hp} (i : Int) : WT K H (.int i) "int" := ⟨.base (.int i), by decide⟩
theorem WT.s {K : PySem.W.Frag} {H : Hp} (i : Str) : WT K H (.str i) "str" := ⟨.base (.str i), by decide⟩
theorem WT.non {K : PySem.W.Frag} {H : Hp} : WT K H .non "NoneType" := ⟨.base .non, by decide⟩
theorem WT.bl {K : PySem.W.Frag} {H : Hp} (b : Bool) : WT K H (.bl b) "bool" := ⟨.base (.bl b), by decide⟩
theorem WT.lst {K : PySem.W.Frag} {H : Hp} {a : Addr} {xs : List V} (h : H a = some (.lst xs)) : WT K H (.ref a) "list" := ⟨.base (.lst h), by decide⟩
theorem WT.tup {K : PySem.W.Frag} {H : Hp} {a : Addr} {xs : List V} (h : H a = some (.tup xs)) : WT K H (.ref a) "tuple" := ⟨.base (.tup h), by decide⟩
theorem kitI {n : String} (h : n ∈ tyNames) : kitB n "int" = some (decide (n = "int" ∨ n = "bool")) := by
  simp only [tyNames, List.mem_cons, List.not_mem_nil, or_false] at h
  rcases h with rfl | rfl | rfl | rfl | rfl | rfl | rfl | rfl <;> decide +kernel
theorem kitBl {n : String} (h : n ∈ tyNames) : kitB n "bool" = some (decide (n = "bool")) := by
  simp only [tyNames, List.mem_cons, List.not_mem_nil, or_false] at h
  rcases h with rfl | rfl | rfl | rfl | rfl | rfl | rfl | rfl <;> decide +kernel
theorem kitS {n : String} (h : n ∈ tyNames) : kitB n "str" = some (decide (n = "str")) := by
  simp only [tyNames, List.mem_cons, List.not_mem_nil, or_false] at h
  rcases h with rfl | rfl | rfl | rfl | rfl | rfl | rfl | rfl <;> decide +kernel
theorem e_isi {K : PySem.W.Frag} {H : Hp} {Q : VK} {v : V} {n m : String} {b : Bool} (k : Q (.bl b) H) (h : WT K H v n) (hk : kitB n m = some b) : rIsi K [v, .ty m] H Q :=
  ⟨v, .ty m, .type n, .type m, b, rfl, .ty m, h.1, kit_ty hk, k⟩
def sp_is_whole (K : PySem.W.Frag) : Sp := fun vs H Q _ => ∃ (v : V) (n : String), vs = [v] ∧ WT K H v n ∧ Q (.bl (isInt v)) H
def rd_is_whole (K : PySem.W.Frag) : TS := tRet (tAndV (tCB (rIsi K) (tCons (tVar 0) (tCons (tC (.ty "int")) (tNil)))) (tNotV (tCB (rIsi K) (tCons (tVar 0) (tCons (tC (.ty "bool")) (tNil))))))
theorem pure_is_whole (K : PySem.W.Frag) (vs : List V) (H : Hp) (Q : VK) (E : XK) (h : sp_is_whole K vs H Q E) : rd_is_whole K { nx := fun _ H' => Q .non H', rt := Q } (start ["thing"] vs) H := by
  obtain ⟨v, n, rfl, hv, q⟩ := h
  have e := hv.isInt
  unfold rd_is_whole
  walk_at "rd"
  refine e_isi ?_ hv (kitI hv.2)
  refine ?_
  walk_at "rd"
  refine e_ite (fun h => ?_) (fun h => ?_)
  · walk_at "rd"
    refine e_isi ?_ hv (kitBl hv.2)
    walk_at "rd"
    show Q (.bl (!decide (n = "bool"))) H
    have : (!decide (n = "bool")) = isInt v := by
      rw [e]
      rcases h with rfl | rfl <;> decide
    rw [this]; exact q
  · have : isInt v = false := by
      rw [e]; exact decide_eq_false fun z => h (.inl z)
    rw [this] at q; exact q
def sp_is_whole_from (K : PySem.W.Frag) : Sp := fun vs H Q _ => ∃ (v : V) (n : String) (l : Int), vs = [v, .int l] ∧ WT K H v n ∧ Q (.bl (fromI v l)) H
def rd_is_whole_from (K : PySem.W.Frag) : TS := tRet (tAndV (tCall (sp_is_whole K) [] E0 (tCons (tVar 0) (tNil))) (tOp FW.rGe (tVar 0) (tVar 1)))
theorem pure_is_whole_from (K : PySem.W.Frag) (vs : List V) (H : Hp) (Q : VK) (E : XK) (h : sp_is_whole_from K vs H Q E) : rd_is_whole_from K { nx := fun _ H' => Q .non H', rt := Q } (start ["thing", "least"] vs) H := by
  obtain ⟨v, n, l, rfl, hv, q⟩ := h
  unfold rd_is_whole_from
  walk_at "rd"
  refine ⟨v, n, rfl, hv, ?_⟩
  walk_at "rd"
  refine e_iteB (fun h => ?_) (fun h => ?_)
  · obtain ⟨i, rfl⟩ := isInt_of h
    walk_at "rd"
    have : fromI (.int i) l = decide (l ≤ i) := Bool.true_and _
    rw [this] at q; exact q
  · have : fromI v l = false := by simp [fromI, h]
    rw [this] at q; exact q
/-! ### check_number, check_start where nothing is raised -/
def sp_check_number (K : PySem.W.Frag) : Sp := fun vs H Q _ => ∃ n : Int, vs = [.int n] ∧ 0 ≤ n ∧ Q .non H
def sp_check_start (K : PySem.W.Frag) : Sp := fun vs H Q _ => ∃ n : Int, vs = [.int n] ∧ 1 ≤ n ∧ Q .non H
def rd_check_number (K : PySem.W.Frag) : TS := tIfS (tNot (tB (tCall (sp_is_whole_from K) [] E0 (tCons (tVar 0) (tCons (tC (.int 0)) (tNil)))))) (tNever) (tNext)
def rd_check_start (K : PySem.W.Frag) : TS := tIfS (tNot (tB (tCall (sp_is_whole_from K) [] E0 (tCons (tVar 0) (tCons (tC (.int 1)) (tNil)))))) (tNever) (tNext)
theorem pure_check_number (K : PySem.W.Frag) (vs : List V) (H : Hp) (Q : VK) (E : XK) (h : sp_check_number K vs H Q E) : rd_check_number K { nx := fun _ H' => Q .non H', rt := Q } (start ["n"] vs) H := by
  obtain ⟨n, rfl, hn, q⟩ := h
  unfold rd_check_number
  walk_at "rd"
  refine ⟨_, _, _, rfl, WT.i n, ?_⟩
  have : fromI (.int n) 0 = true := by simp [fromI, isInt, iv, hn]
  rw [this]
  walk_at "rd"
  exact q
theorem pure_check_start (K : PySem.W.Frag) (vs : List V) (H : Hp) (Q : VK) (E : XK) (h : sp_check_start K vs H Q E) : rd_check_start K { nx := fun _ H' => Q .non H', rt := Q } (start ["x"] vs) H := by
  obtain ⟨n, rfl, hn, q⟩ := h
  unfold rd_check_start
  walk_at "rd"
  refine ⟨_, _, _, rfl, WT.i n, ?_⟩
  have : fromI (.int n) 1 = true := by simp [fromI, isInt, iv, hn]
  rw [this]
  walk_at "rd"
  exact q

def rd_power_L1 (K : PySem.W.Frag) : TS := tAug 2 (tVar 0) FW.iMul
def rd_power (K : PySem.W.Frag) : TS := tSeq (tAsg (tC (.int 1)) (gName 2)) (tSeq (tFor (iRng1 (tCons (tVar 1) (tNil))) (gName 3) (rd_power_L1 K)) (tRet (tVar 2)))
/-- x ^ k, x below 2 ^ b -/
def sp_power (K : PySem.W.Frag) : Sp := fun vs H Q _ => ∃ (x k : Int) (b : Nat), vs = [.int x, .int k] ∧ 0 ≤ k ∧ x.natAbs < 2 ^ b ∧ 0 < b ∧ (k.toNat + 1) * b ≤ 900000 ∧ Q (.int (x ^ k.toNat)) H
theorem pow_lt {x : Int} {b : Nat} (h : x.natAbs < 2 ^ b) (hb : 0 < b) : ∀ n : Nat, (x ^ n).natAbs < 2 ^ (n * b + 1)
  | 0 => by simp
  | n + 1 => by
    have ih := pow_lt h hb n
    rw [Int.pow_succ, Int.natAbs_mul, Nat.add_mul, Nat.one_mul, Nat.add_right_comm, Nat.pow_add]
    exact Nat.mul_lt_mul'' ih h
theorem pure_power (K : PySem.W.Frag) (vs : List V) (H : Hp) (Q : VK) (E : XK) (h : sp_power K vs H Q E) : rd_power K { nx := fun _ H' => Q .non H', rt := Q } (start ["x", "k", "found", "turn"] vs) H := by
  obtain ⟨x, k, b, rfl, hk, hx, hb, hz, q⟩ := h
  unfold rd_power
  walk_at "rd"
  refine for_range (lo := 0) (n := k.toNat) (fun i σ H' => H' = H ∧ ∃ v, σ = [some (.int x), some (.int k), some (.int (x ^ i)), v]) ⟨rfl, _, by rw [Int.pow_zero]; rfl⟩ ?_ ?_
  · rintro i σ H' hi ⟨rfl, v, rfl⟩
    show rd_power_L1 K _ _ _
    unfold rd_power_L1
    walk_at "rd"
    · exact ⟨rfl, _, by rw [Int.pow_succ]; rfl⟩
    · refine wide_mul (pow_lt hx hb i) hx (by omega) hb ?_
      have : (i + 1) * b ≤ (k.toNat + 1) * b := Nat.mul_le_mul_right _ (by omega)
      rw [Nat.add_mul] at this
      omega
  · rintro σ H' ⟨rfl, v, rfl⟩
    walk_at "rd"
    exact q
  · have : k.toNat * 1 ≤ k.toNat * b := Nat.mul_le_mul_left _ hb
    rw [Nat.add_mul] at hz
    omega

/-! ### words -/
def wordOf (v : V) (ws : List V) : Bool := isStr v && inV v ws
def sp_is_word_of (K : PySem.W.Frag) : Sp := fun vs H Q _ => ∃ (v : V) (n : String) (a : Addr) (ws : List V), vs = [v, .ref a] ∧ WT K H v n ∧ SqT K H a ws ∧ ws.all flatV = true ∧ Q (.bl (wordOf v ws)) H
def rd_is_word_of (K : PySem.W.Frag) : TS := tRet (tAndV (tCB (rIsi K) (tCons (tVar 0) (tCons (tC (.ty "str")) (tNil)))) (tOp (rIn K false) (tVar 0) (tVar 1)))
theorem pure_is_word_of (K : PySem.W.Frag) (vs : List V) (H : Hp) (Q : VK) (E : XK) (h : sp_is_word_of K vs H Q E) : rd_is_word_of K { nx := fun _ H' => Q .non H', rt := Q } (start ["thing", "words"] vs) H := by
  obtain ⟨v, n, a, ws, rfl, hv, hw, hf, q⟩ := h
  have e := hv.isStr
  unfold rd_is_word_of
  walk_at "rd"
  refine e_isi ?_ hv (kitS hv.2)
  refine ?_
  walk_at "rd"
  refine e_ite (fun h => ?_) (fun h => ?_)
  · rw [decide_eq_true h] at e
    obtain ⟨x, rfl⟩ := isStr_of e
    walk_at "rd"
    refine e_in ?_ (.inr hw) rfl hf
    exact q
  · rw [decide_eq_false h] at e
    have : wordOf v ws = false := by simp [wordOf, e]
    rw [this] at q; exact q
def stopsV : List V := [.str "notless", .str "equal", .str "near1", .str "near2", .str "back", .str "under", .str "held"]
def toldsV : List V := [.str "old", .str "new", .str "less", .str "more"]
def mendsV : List V := [.str "none", .str "down", .str "up", .str "both"]
def looksV : List V := [.str "under", .str "held"]
/-- what the text's top holds for averages -/
structure AvK (K : PySem.W.Frag) : Prop where
  cls : Cls K (He.ga K "Average")
  n_k : NoAttr K (He.ga K "Average") "k"
  n_a : NoAttr K (He.ga K "Average") "a"
  n_c : NoAttr K (He.ga K "Average") "c"
  n_d : NoAttr K (He.ga K "Average") "d"
  n_stop : NoAttr K (He.ga K "Average") "stop"
  n_told : NoAttr K (He.ga K "Average") "told"
  n_mend : NoAttr K (He.ga K "Average") "mend"
  stops : ∀ H, SqT K H (He.ga K "STOPS") stopsV
  tolds : ∀ H, SqT K H (He.ga K "TOLDS") toldsV
  mends : ∀ H, SqT K H (He.ga K "MENDS") mendsV
  looks : ∀ H, SqT K H (He.ga K "LOOKS") looksV
/-- the first part that is not so -/
def wrongP (k a c d s t m : V) : V :=
  if (!isInt k || !inV k [.int 2, .int 3, .int 4]) = true then .str "k"
  else if (!isInt a || !(decide (1 ≤ iv a) && decide (iv a ≤ 5))) = true then .str "a"
  else if (!fromI c 1 || (decide (iv a < iv c * (iv k - 1)) || decide (6 < iv a + iv c))) = true then .str "c"
  else if (!isInt d || !(decide (-iv a ≤ iv d) && decide (iv d ≤ iv a + iv c))) = true then .str "d"
  else if (!wordOf s stopsV) = true then .str "stop"
  else if (!wordOf t toldsV || (inV s looksV && !decide (t = .str "old"))) = true then .str "told"
  else if wordOf m mendsV = true then .non else .str "mend"
def sp_wrong_part (K : PySem.W.Frag) : Sp := fun vs H Q _ => ∃ k a c d s t m : V, vs = [k, a, c, d, s, t, m] ∧ (∀ v ∈ [k, a, c, d, s, t, m], ∃ n, WT K H v n) ∧ (iv c).natAbs < 2 ^ 900 ∧
  ∀ H', Ext H H' → Q (wrongP k a c d s t m) H'
theorem WT.ext {K : PySem.W.Frag} {H H' : Hp} {v : V} {n : String} (e : Ext H H') (h : WT K H v n) : WT K H' v n := by
  obtain ⟨h, hn⟩ := h
  refine ⟨?_, hn⟩
  cases h with
  | base b =>
    refine .base ?_
    cases b with
    | non => exact .non
    | bl x => exact .bl x
    | int x => exact .int x
    | str x => exact .str x
    | flt x => exact .flt x
    | lst q => exact .lst (e _ _ q)
    | frz q => exact .frz (e _ _ q)
    | tup q => exact .tup (e _ _ q)
    | dK q => exact .dK (e _ _ q)
    | dT q => exact .dT (e _ _ q)
  | byt x => exact .byt x
  | set q => exact .set (e _ _ q)
  | kList q c => exact .kList q c
  | kTuple q c => exact .kTuple q c
  | kDict q c => exact .kDict q c
  | fTuple q => exact .fTuple (e _ _ q)
  | fDict q => exact .fDict (e _ _ q)
theorem or_ite {a b : Bool} {A B C : Prop} (h1 : (a || b) = true → A) (h2 : (a || b) = false → B) : if a = true then A else (if b = true then A else B) := by
  cases a <;> cases b <;> simp_all
def rd_wrong_part (K : PySem.W.Frag) : TS := tSeq (tIfS (tOr (tNot (tB (tCall (sp_is_whole K) [] E0 (tCons (tVar 0) (tNil))))) (tTest (tOp (rIn K true) (tVar 0) (tTup (tCons (tC (.int 2)) (tCons (tC (.int 3)) (tCons (tC (.int 4)) (tNil)))))))) (tRet (tC (.str "k"))) (tNext)) (tSeq (tIfS (tOr (tNot (tB (tCall (sp_is_whole K) [] E0 (tCons (tVar 1) (tNil))))) (tNot (tTest (tChain FW.rLe FW.rLe (tC (.int 1)) (tVar 1) (tC (.int 5)))))) (tRet (tC (.str "a"))) (tNext)) (tSeq (tIfS (tOr (tNot (tB (tCall (sp_is_whole_from K) [] E0 (tCons (tVar 2) (tCons (tC (.int 1)) (tNil)))))) (tOr (tTest (tOp FW.rLt (tVar 1) (tOp FW.rMul (tVar 2) (tOp FW.rSub (tVar 0) (tC (.int 1)))))) (tTest (tOp FW.rGt (tOp FW.rAdd (tVar 1) (tVar 2)) (tC (.int 6)))))) (tRet (tC (.str "c"))) (tNext)) (tSeq (tIfS (tOr (tNot (tB (tCall (sp_is_whole K) [] E0 (tCons (tVar 3) (tNil))))) (tNot (tTest (tChain FW.rLe FW.rLe (tUn FW.rNeg (tVar 1)) (tVar 3) (tOp FW.rAdd (tVar 1) (tVar 2)))))) (tRet (tC (.str "d"))) (tNext)) (tSeq (tIfS (tNot (tB (tCall (sp_is_word_of K) [] E0 (tCons (tVar 4) (tCons (tC (.ref (He.ga K "STOPS"))) (tNil)))))) (tRet (tC (.str "stop"))) (tNext)) (tSeq (tIfS (tOr (tNot (tB (tCall (sp_is_word_of K) [] E0 (tCons (tVar 5) (tCons (tC (.ref (He.ga K "TOLDS"))) (tNil)))))) (tAnd (tTest (tOp (rIn K false) (tVar 4) (tC (.ref (He.ga K "LOOKS"))))) (tTest (tOp rNe (tVar 5) (tC (.str "old")))))) (tRet (tC (.str "told"))) (tNext)) (tRet (tIf (tB (tCall (sp_is_word_of K) [] E0 (tCons (tVar 6) (tCons (tC (.ref (He.ga K "MENDS"))) (tNil))))) (tC .non) (tC (.str "mend")))))))))
set_option maxHeartbeats 8000000 in
theorem pure_wrong_part (K : PySem.W.Frag) (A : AvK K) (vs : List V) (H : Hp) (Q : VK) (E : XK) (h : sp_wrong_part K vs H Q E) : rd_wrong_part K { nx := fun _ H' => Q .non H', rt := Q } (start ["k", "a", "c", "d", "stop", "told", "mend"] vs) H := by
  obtain ⟨k, a, c, d, s, t, m, rfl, hW, hc, q⟩ := h
  obtain ⟨nk, wk⟩ := hW k (by simp)
  obtain ⟨na, wa⟩ := hW a (by simp)
  obtain ⟨nc, wc⟩ := hW c (by simp)
  obtain ⟨nd, wd⟩ := hW d (by simp)
  obtain ⟨ns, ws⟩ := hW s (by simp)
  obtain ⟨nt, wt⟩ := hW t (by simp)
  obtain ⟨nm, wm⟩ := hW m (by simp)
  unfold wrongP at q
  unfold rd_wrong_part
  walk_at "rd"
  refine ⟨_, _, rfl, wk, ?_⟩
  walk_at "rd"
  refine e_iteB (fun h1 => ?_) (fun h1 => ?_)
  · walk_at "rd"
    rw [if_pos (by rw [h1]; rfl)] at q
    exact q _ Ext.rfl'
  rw [h1, Bool.false_or] at q
  have h1' : isInt k = true := by simpa using h1
  obtain ⟨k, rfl⟩ := isInt_of h1'
  walk_at "rd"
  refine ⟨by show 3 ≤ sizeLine; decide, fun p hp => ?_⟩
  refine e_in ?_ (.inr (SqT.of upd_same)) rfl rfl
  have eH : Ext H (upd H p (.tup [.int 2, .int 3, .int 4])) := Ext.new hp
  generalize upd H p (.tup [.int 2, .int 3, .int 4]) = H1 at *
  rw [if_pos rfl]
  refine ?_
  walk_at "rd"
  refine e_iteB (fun h2 => ?_) (fun h2 => ?_)
  · walk_at "rd"
    rw [if_pos h2] at q
    exact q _ eH
  rw [if_neg (by rw [h2]; decide)] at q
  have hk : k = 2 ∨ k = 3 ∨ k = 4 := by
    simp [inV, eqV] at h2
    omega
  walk_at "rd"
  refine ⟨_, _, rfl, wa.ext eH, ?_⟩
  walk_at "rd"
  refine e_iteB (fun h3 => ?_) (fun h3 => ?_)
  · walk_at "rd"
    rw [if_pos (by rw [h3]; rfl)] at q
    exact q _ eH
  rw [h3, Bool.false_or] at q
  have h3' : isInt a = true := by simpa using h3
  obtain ⟨a, rfl⟩ := isInt_of h3'
  walk_at "rd"
  have ha : (1 ≤ a ∧ a ≤ 5) ∨ ¬ (1 ≤ a ∧ a ≤ 5) := Classical.em _
  rcases ha with ha | ha
  · rw [decide_eq_true ha.1]
    walk_at "rd"
    rw [decide_eq_true ha.2]
    walk_at "rd"
    rw [if_neg (by simp [iv, ha.1, ha.2])] at q
    refine ⟨_, _, _, rfl, wc.ext eH, ?_⟩
    walk_at "rd"
    refine e_iteB (fun h4 => ?_) (fun h4 => ?_)
    · walk_at "rd"
      rw [if_pos (by rw [h4]; rfl)] at q
      exact q _ eH
    rw [h4, Bool.false_or] at q
    have h4' : fromI c 1 = true := by simpa using h4
    have h4i : isInt c = true := by
      unfold fromI at h4'
      rw [Bool.and_eq_true] at h4'
      exact h4'.1
    obtain ⟨c, rfl⟩ := isInt_of h4i
    walk_at "rd"
    rotate_left 1
    · exact wide_mul (a := 900) (b := 10) hc (by omega) (by decide) (by decide) (by decide)
    refine e_ite (fun h5 => ?_) (fun h5 => ?_)
    · walk_at "rd"
      rw [if_pos (by rw [decide_eq_true (by exact h5)]; rfl)] at q
      exact q _ eH
    rw [decide_eq_false (by exact h5), Bool.false_or] at q
    walk_at "rd"
    refine e_ite (fun h6 => ?_) (fun h6 => ?_)
    · walk_at "rd"
      rw [if_pos (decide_eq_true (by exact h6))] at q
      exact q _ eH
    rw [if_neg (by rw [decide_eq_false (by exact h6)]; decide)] at q
    walk_at "rd"
    refine ⟨_, _, rfl, wd.ext eH, ?_⟩
    walk_at "rd"
    refine e_iteB (fun h7 => ?_) (fun h7 => ?_)
    · walk_at "rd"
      rw [if_pos (by rw [h7]; rfl)] at q
      exact q _ eH
    rw [h7, Bool.false_or] at q
    have h7' : isInt d = true := by simpa using h7
    obtain ⟨d, rfl⟩ := isInt_of h7'
    walk_at "rd"
    have hd : (-a ≤ d ∧ d ≤ a + c) ∨ ¬ (-a ≤ d ∧ d ≤ a + c) := Classical.em _
    rcases hd with hd | hd
    · rw [decide_eq_true hd.1]
      walk_at "rd"
      rw [decide_eq_true hd.2]
      walk_at "rd"
      rw [if_neg (by simp [iv, hd.1, hd.2])] at q
      refine ⟨_, _, _, _, rfl, ws.ext eH, A.stops _, by decide, ?_⟩
      walk_at "rd"
      refine e_iteB (fun h8 => ?_) (fun h8 => ?_)
      · walk_at "rd"
        rw [if_pos h8] at q
        exact q _ eH
      rw [if_neg (by rw [h8]; decide)] at q
      have h8' : wordOf s stopsV = true := by simpa using h8
      have h8s : isStr s = true := by
        unfold wordOf at h8'
        rw [Bool.and_eq_true] at h8'
        exact h8'.1
      obtain ⟨s, rfl⟩ := isStr_of h8s
      walk_at "rd"
      refine ⟨_, _, _, _, rfl, wt.ext eH, A.tolds _, by decide, ?_⟩
      walk_at "rd"
      refine e_iteB (fun h9 => ?_) (fun h9 => ?_)
      · walk_at "rd"
        rw [if_pos (by rw [h9]; rfl)] at q
        exact q _ eH
      rw [h9, Bool.false_or] at q
      have h9' : wordOf t toldsV = true := by simpa using h9
      have h9s : isStr t = true := by
        unfold wordOf at h9'
        rw [Bool.and_eq_true] at h9'
        exact h9'.1
      obtain ⟨t, rfl⟩ := isStr_of h9s
      walk_at "rd"
      refine e_in ?_ (.inr (A.looks _)) rfl (by decide)
      rw [if_neg (by decide)]
      refine ?_
      walk_at "rd"
      refine e_iteB (fun h10 => ?_) (fun h10 => ?_)
      · rw [h10, Bool.true_and] at q
        walk_at "rd"
        refine e_iteB (fun h11 => ?_) (fun h11 => ?_)
        · walk_at "rd"
          rw [if_pos h11] at q
          exact q _ eH
        rw [if_neg (by rw [h11]; decide)] at q
        walk_at "rd"
        refine ⟨_, _, _, _, rfl, wm.ext eH, A.mends _, by decide, ?_⟩
        walk_at "rd"
        refine e_iteB (fun h12 => ?_) (fun h12 => ?_)
        · walk_at "rd"
          rw [if_pos h12] at q
          exact q _ eH
        · walk_at "rd"
          rw [if_neg (by rw [h12]; decide)] at q
          exact q _ eH
      · rw [h10, Bool.false_and, if_neg (by decide)] at q
        walk_at "rd"
        refine ⟨_, _, _, _, rfl, wm.ext eH, A.mends _, by decide, ?_⟩
        walk_at "rd"
        refine e_iteB (fun h12 => ?_) (fun h12 => ?_)
        · walk_at "rd"
          rw [if_pos h12] at q
          exact q _ eH
        · walk_at "rd"
          rw [if_neg (by rw [h12]; decide)] at q
          exact q _ eH
    · by_cases h : -a ≤ d
      · have h' : ¬ d ≤ a + c := fun z => hd ⟨h, z⟩
        rw [if_pos (by show (!(decide (-a ≤ d) && decide (d ≤ a + c))) = true; rw [decide_eq_false h', Bool.and_false]; rfl)] at q
        rw [decide_eq_true h]
        walk_at "rd"
        rw [decide_eq_false h']
        walk_at "rd"
        exact q _ eH
      · rw [if_pos (by show (!(decide (-a ≤ d) && decide (d ≤ a + c))) = true; rw [decide_eq_false h]; rfl)] at q
        rw [decide_eq_false h]
        walk_at "rd"
        exact q _ eH
  · by_cases h : 1 ≤ a
    · have h' : ¬ a ≤ 5 := fun z => ha ⟨h, z⟩
      rw [if_pos (by show (!(decide (1 ≤ a) && decide (a ≤ 5))) = true; rw [decide_eq_false h', Bool.and_false]; rfl)] at q
      rw [decide_eq_true h]
      walk_at "rd"
      rw [decide_eq_false h']
      walk_at "rd"
      exact q _ eH
    · rw [if_pos (by show (!(decide (1 ≤ a) && decide (a ≤ 5))) = true; rw [decide_eq_false h]; rfl)] at q
      rw [decide_eq_false h]
      walk_at "rd"
      exact q _ eH
end FWL
namespace FWL
open PySem PySem.Spec PyProof.Rows L2 FW
/-! ### sizes -/
abbrev Sz (b : Nat) (x : Int) : Prop := x.natAbs < 2 ^ b
theorem Sz.mono {a b : Nat} {x : Int} (h : Sz a x) (l : a ≤ b) : Sz b x := Nat.lt_of_lt_of_le h (Nat.pow_le_pow_right (by decide) l)
theorem Sz.add {a : Nat} {x y : Int} (h : Sz a x) (h' : Sz a y) : Sz (a + 1) (x + y) := by
  show (x + y).natAbs < 2 ^ (a + 1)
  rw [Nat.pow_succ]
  have h1 : x.natAbs < 2 ^ a := h
  have h2 : y.natAbs < 2 ^ a := h'
  omega
theorem Sz.sub {a : Nat} {x y : Int} (h : Sz a x) (h' : Sz a y) : Sz (a + 1) (x - y) := by
  show (x - y).natAbs < 2 ^ (a + 1)
  rw [Nat.pow_succ]
  have h1 : x.natAbs < 2 ^ a := h
  have h2 : y.natAbs < 2 ^ a := h'
  omega
theorem Sz.mul {a b : Nat} {x y : Int} (h : Sz a x) (h' : Sz b y) : Sz (a + b) (x * y) := wide_lt h h'
theorem Sz.of_le {a : Nat} {x y : Int} (h0 : 0 ≤ x) (h : x ≤ y) (hy : Sz a y) : Sz a x := wide_le h0 h hy
theorem Sz.pow {b : Nat} {x : Int} (h : Sz b x) (hb : 0 < b) (n : Nat) : Sz (n * b + 1) (x ^ n) := pow_lt h hb n
theorem Sz.log2 {b : Nat} {x : Int} (h : Sz b x) (hb : 0 < b) (h9 : b ≤ 9000) : x.natAbs.log2 < 9000 := Nat.lt_of_lt_of_le (PySem.Flt.log2_lt_of hb h) h9
theorem Sz.powk {b : Nat} {x k : Int} (h : Sz b x) (hb : 0 < b) (hk : k ≤ 4) : Sz (4 * b + 1) (x ^ k.toNat) :=
  (h.pow hb k.toNat).mono (by have : k.toNat ≤ 4 := by omega
                              have := Nat.mul_le_mul_right b this
                              omega)
theorem pow_room {k : Int} {b : Nat} (hk : k ≤ 4) (hb : b ≤ 1000) : (k.toNat + 1) * b ≤ 900000 := by
  have : k.toNat + 1 ≤ 5 := by omega
  have := Nat.mul_le_mul this hb
  omega
end FWL
namespace FWL
open PySem PySem.Spec PyProof.Rows L2 FW
/-! ### more readings -/
section
variable {K : PySem.W.Frag} {σ : L2.St} {H : Hp} {Q : VK} {D : Ends} {ta tb tc te : TE} {tA : TA} {v : V} {i j : Int} {n : Nat} {a b : Addr} {xs ys : List V}
theorem e_rep (q : ∀ p, H p = none → Q (.ref p) (upd H p (.lst (List.replicate i.toNat v)))) (h : H a = some (.lst [v])) (hz : i ≤ 1000) (h0 : -1000 ≤ i) : rRep (.ref a) (.int i) H Q := by
  refine ⟨a, i, [v], rfl, rfl, h, by omega, by omega, ?_, fun p hp => ?_⟩
  · show 1 * i.toNat ≤ 2 ^ 24
    omega
  · have e : (List.replicate i.toNat [v]).flatten = List.replicate i.toNat v := by
      induction i.toNat with
      | zero => rfl
      | succ m ih => rw [List.replicate_succ, List.flatten_cons, ih, List.replicate_succ]; rfl
    rw [e]
    exact q p hp
theorem e_cat (q : ∀ p, H p = none → Q (.ref p) (upd H p (.lst (xs ++ ys)))) (h : H a = some (.lst xs)) (h' : H b = some (.lst ys)) (hz : xs.length + ys.length ≤ sizeLine) : rCat (.ref a) (.ref b) H Q := ⟨a, b, xs, ys, rfl, rfl, h, h', hz, q⟩
theorem e_listS (q : ∀ p, H p = none → Q (.ref p) (upd H p (.lst xs))) (h : SqL K H a xs ∨ SqT K H a xs) : Evl.rListS K [.ref a] H Q := ⟨a, xs, rfl, h, q⟩
theorem e_tupL (q : ∀ p, H p = none → Q (.ref p) (upd H p (.tup xs))) (h : SqL K H a xs) : FW.rTupS K [.ref a] H Q := ⟨a, xs, rfl, .inl ⟨h, q⟩⟩
theorem e_sl {r : V → Option Int → Option Int → Hp → VK → Prop} {tl th : L2.TO} (k : te σ H fun x H1 => tl σ H1 fun l H2 => th σ H2 fun u H3 => r x l u H3 Q) : L2.tSl r te tl th σ H Q := k
theorem e_noP {R : Option Int → Hp → Prop} (k : R none H) : tNoPart σ H R := k
theorem e_part {R : Option Int → Hp → Prop} (k : te σ H fun x H1 => ∃ i, x = .int i ∧ R (some i) H1) : tPart te σ H R := k
theorem e_part' {R : Int → Prop} (k : R i) : ∃ j, V.int i = .int j ∧ R j := ⟨i, rfl, k⟩
theorem e_slL {lo hi : Option Int} (q : ∀ p, H p = none → Q (.ref p) (upd H p (.lst (cutV xs lo hi)))) (h : SqL K H a xs) : rSlL K (.ref a) lo hi H Q := ⟨a, xs, rfl, h, q⟩
theorem e_sum {ns : List Int} (q : Q (.int ns.sum) H) (h : SqL K H a (ns.map V.int)) : rSum K [.ref a] H Q := ⟨a, ns, rfl, h, q⟩
theorem e_all {bs : List Bool} (q : Q (.bl (bs.all id)) H) (h : SqL K H a (bs.map V.bl)) : rAll K [.ref a] H Q := ⟨a, bs, rfl, h, q⟩
theorem e_eqD {d e : PyData} (q : Q (.bl (PyData.eqv d e)) H) {x y : V} (h1 : Dp K H x d) (h2 : Dp K H y e) (s1 : SeqAt.shaped d = true) (s2 : SeqAt.shaped e = true) : rEqD K x y H Q := ⟨d, e, h1, h2, s1, s2, q⟩
theorem e_neD {d e : PyData} (q : Q (.bl (!PyData.eqv d e)) H) {x y : V} (h1 : Dp K H x d) (h2 : Dp K H y e) (s1 : SeqAt.shaped d = true) (s2 : SeqAt.shaped e = true) : rNeD K x y H Q := ⟨d, e, h1, h2, s1, s2, q⟩
theorem e_rev (q : ∀ p, H p = none → Q (.ref p) (upd H p (.lst xs.reverse))) (q' : ∀ p, H p = none → Q (.ref p) (upd H p (.tup xs.reverse))) (hv : σ[n]? = some (some (.ref a))) (h : SqL K H a xs ∨ SqT K H a xs) : FW.tEither (tRevL K (tVar n)) (FW.tRevT K (tVar n)) σ H Q := by
  rcases h with h | h
  · exact .inl ⟨_, hv, a, xs, rfl, h, q⟩
  · exact .inr ⟨_, hv, a, xs, rfl, h, q'⟩
theorem i_zip {R : It → Hp → Prop} (k : tA σ H fun vs H1 => ∃ a b xs ys, vs = [.ref a, .ref b] ∧ SqL K H1 a xs ∧ SqL K H1 b ys ∧ R (Itz K a b) H1) : iZip K tA σ H R := k
theorem i_enum {R : It → Hp → Prop} (k : tA σ H fun vs H1 => ∃ a xs, vs = [.ref a] ∧ SqL K H1 a xs ∧ R (Ite K a) H1) : iEnum K tA σ H R := k
theorem i_enumT {R : It → Hp → Prop} (k : tA σ H fun vs H1 => ∃ a xs, vs = [.ref a] ∧ SqT K H1 a xs ∧ R (FW.IteT K a) H1) : FW.iEnumT K tA σ H R := k
theorem s_augS {to ti : TE} {tget : V → V → Hp → VK → Prop} {tip : TIp} {tset : TSet} (k : to σ H fun o H1 => ti σ H1 fun i H2 => tget o i H2 fun x H3 => te σ H3 fun y H4 => tip x y H4 fun z H5 => tset o i z H5 fun H6 => D.nx σ H6) : tAugS to ti te tget tip tset D σ H := k
end
/-- a list or a tuple -/
abbrev SqA (K : PySem.W.Frag) (H : Hp) (a : Addr) (xs : List V) : Prop := SqL K H a xs ∨ SqT K H a xs
theorem SqA.ext {K : PySem.W.Frag} {H H' : Hp} {a : Addr} {xs : List V} (e : Ext H H') (h : SqA K H a xs) : SqA K H' a xs := h.elim (fun h => .inl (e.sqL h)) (fun h => .inr (e.sqT h))
/-- for x in s, s a list or a tuple -/
theorem for_seq {K : PySem.W.Frag} {tl : TE} {g : TG} {tb : TS} {D : Ends} {σ : L2.St} {H H1 : Hp} {a : Addr} {xs : List V} (Pv : Nat → L2.St → Hp → Prop)
    (hl : ∀ R : V → Hp → Prop, R (.ref a) H1 → tl σ H R) (hq : SqA K H1 a xs) (h0 : Pv 0 σ H1) (hk : ∀ i σ H', Pv i σ H' → Ext H1 H')
    (hs : ∀ i x σ H', xs[i]? = some x → Pv i σ H' → g x σ H' fun σ2 H2 => tb { D with nx := Pv (i + 1), ct := Pv (i + 1), bk := D.nx } σ2 H2) (hd : ∀ σ H', Pv xs.length σ H' → D.nx σ H') :
    tFor (FW.iEither (iList K tl) (iTup K tl)) g tb D σ H := by
  rcases hq with hq | hq
  · refine s_for (.inl (i_list (hl _ (i_list' xs ?_ hq))))
    exact for_list (xs := xs) Pv h0 (fun i σ H' _ p => (hk i σ H' p).sqL hq) hs hd
  · refine s_for (.inr (i_tup (hl _ (i_tup' xs ?_ hq))))
    exact for_tup (xs := xs) Pv h0 (fun i σ H' _ p => (hk i σ H' p).sqT hq) hs hd
/-- for i, x in enumerate(s), s a list or a tuple at slot n -/
theorem for_enumA {K : PySem.W.Frag} {n : Nat} {g : TG} {tb : TS} {D : Ends} {σ : L2.St} {H0 H : Hp} {a : Addr} {xs : List V} (Pv : Nat → L2.St → Hp → Prop)
    (hv : σ[n]? = some (some (.ref a))) (hq : SqA K H0 a xs) (h0 : Pv 0 σ H) (hk : ∀ i σ H', Pv i σ H' → Ext H0 H')
    (hs : ∀ i x σ H' T, xs[i]? = some x → Pv i σ H' → H' T = none → g (.ref T) σ (upd H' T (.tup [.int (i : Nat), x])) fun σ2 H2 => tb { D with nx := Pv (i + 1), ct := Pv (i + 1), bk := D.nx } σ2 H2) (hd : ∀ σ H', Pv xs.length σ H' → D.nx σ H') :
    tFor (FW.iEither (iEnum K (tCons (tVar n) tNil)) (FW.iEnumT K (tCons (tVar n) tNil))) g tb D σ H := by
  rcases hq with hq | hq
  · refine s_for (.inl ?_)
    refine ⟨_, hv, a, xs, rfl, (hk _ _ _ h0).sqL hq, ?_⟩
    refine for_it (walk_enum (K := K) (a := a) (xs := xs)) Pv h0 (fun i σ H' _ p => (hk i σ H' p).sqL hq) ?_ hd
    rintro i x σ H' H'' hi p ⟨T, y, z, rfl, hT, rfl, e1, e2⟩
    cases e1
    exact hs i z σ H' T e2 p hT
  · refine s_for (.inr ?_)
    refine ⟨_, hv, a, xs, rfl, (hk _ _ _ h0).sqT hq, ?_⟩
    refine for_it (FW.walk_enumT (K := K) (a := a) (xs := xs)) Pv h0 (fun i σ H' _ p => (hk i σ H' p).sqT hq) ?_ hd
    rintro i x σ H' H'' hi p ⟨T, y, z, rfl, hT, rfl, e1, e2⟩
    cases e1
    exact hs i z σ H' T e2 p hT
/-! data of ints -/
theorem dpI {K : PySem.W.Frag} {H : Hp} : ∀ ns : List Int, DpAll K H (ns.map V.int) (ns.map PyData.int)
  | [] => .nil
  | n :: ns => .cons (.int n) (dpI ns)
theorem layI : ∀ ns : List Int, PyData.canLayAll0 (ns.map PyData.int) = true
  | [] => rfl
  | n :: ns => by rw [List.map_cons, PyData.canLayAll0, layI ns]; rfl
theorem depI : ∀ ns : List Int, PyData.depthAll (ns.map PyData.int) = 0
  | [] => rfl
  | n :: ns => by rw [List.map_cons, PyData.depthAll, depI ns]; rfl
theorem shL (ns : List Int) : SeqAt.shaped (.list (ns.map PyData.int)) = true := by
  unfold SeqAt.shaped
  rw [PyData.canLay0, layI, PyData.depth, depI]; rfl
theorem shT (ns : List Int) : SeqAt.shaped (.tuple (ns.map PyData.int)) = true := by
  unfold SeqAt.shaped
  rw [PyData.canLay0, layI, PyData.depth, depI]; rfl
theorem eqvI (ns ms : List Int) : PyData.eqvAll (ns.map PyData.int) (ms.map PyData.int) = decide (ns = ms) := by
  induction ns generalizing ms with
  | nil => cases ms <;> simp [PyData.eqvAll]
  | cons n ns ih =>
    cases ms with
    | nil => simp [PyData.eqvAll]
    | cons m ms =>
      simp [PyData.eqvAll, PyData.eqv, ih, Bool.and_comm]
      rfl
end FWL
namespace FWL
open PySem PySem.Spec PyProof.Rows L2 FW
/-! ### a stream: three ints; n bounds the draws so far -/
def Strm (H : Hp) (p : Addr) (n : Nat) : Prop := ∃ a b c : Int, H p = some (.lst [.int a, .int b, .int c]) ∧ 0 ≤ a ∧ 0 ≤ b ∧ b < 2 ^ 40 ∧ 0 ≤ c ∧ c ≤ n
theorem Strm.mono {H : Hp} {p : Addr} {n m : Nat} (h : Strm H p n) (l : n ≤ m) : Strm H p m := by
  obtain ⟨a, b, c, h1, h2, h3, h4, h5, h6⟩ := h
  exact ⟨a, b, c, h1, h2, h3, h4, h5, by omega⟩
theorem Strm.ext {H H' : Hp} {p : Addr} {n : Nat} (h : Strm H p n) (e : Ext H H') : Strm H' p n := by
  obtain ⟨a, b, c, h1, h2⟩ := h
  exact ⟨a, b, c, e _ _ h1, h2⟩
theorem Strm.ne {H : Hp} {p q : Addr} {n : Nat} (h : Strm H p n) (e : H q = none) : q ≠ p := by
  obtain ⟨a, b, c, h1, h2⟩ := h
  exact (ne_of_none h1 e).symm
def sp_l_stream (K : PySem.W.Frag) : Sp := fun vs H Q _ => ∃ (a : Addr) (ns : List Int) (k : Int), vs = [.ref a, .int k] ∧ SqL K H a (ns.map V.int) ∧ 0 ≤ k ∧ k < 1000 ∧
  ∀ p H', H p = none → Ext H H' → Strm H' p 0 → Q (.ref p) H'
def sp_l_draw (K : PySem.W.Frag) : Sp := fun vs H Q _ => ∃ (p : Addr) (many : Int) (n : Nat), vs = [.ref p, .int many] ∧ Strm H p n ∧ n < 1000000 ∧ 0 < many ∧ many.natAbs.log2 < 9000 ∧
  ∀ d H', 0 ≤ d → d < many → ExtB p H H' → Strm H' p (n + 1) → Q (.int d) H'
def sp_l_pick (K : PySem.W.Frag) : Sp := fun vs H Q _ => ∃ (p q : Addr) (xs : List V) (n : Nat), vs = [.ref p, .ref q] ∧ Strm H p n ∧ n < 1000000 ∧ q ≠ p ∧ H q = some (.lst xs) ∧ xs ≠ [] ∧ xs.length < 1000 ∧
  ∀ v H', v ∈ xs → ExtB p H H' → Strm H' p (n + 1) → Q v H'
def rd_l_stream (K : PySem.W.Frag) : TS := tSeq (tAsg (tIf (tTest (tOp FW.rLt (tVar 1) (tCB (Evl.rLenS K) (tCons (tVar 0) (tNil))))) (tCB FW.rAbs (tCons (tOp (rIxL K) (tVar 0) (tVar 1)) (tNil))) (tC (.int 0))) (gName 2)) (tRet (tLst (tCons (tIf (tTest (tOp FW.rGe (tVar 2) (tOp FW.rPow (tC (.int 10)) (tC (.int 18))))) (tVar 2) (tC (.int 0))) (tCons (tOp FW.rAdd (tOp FW.rMod (tCB FW.rInt1 (tCons (tVar 2) (tNil))) (tC (.int 2147483647))) (tOp FW.rMul (tC (.int 31)) (tVar 1))) (tCons (tC (.int 0)) (tNil))))))
def rd_l_draw (K : PySem.W.Frag) : TS := tSeq (tIfS (tTest (tOp FW.rGt (tOp (rIxL K) (tVar 0) (tC (.int 0))) (tC (.int 0)))) (tSeq (tAsg (tOp FW.rMod (tCB FW.rInt1 (tCons (tOp (rIxL K) (tVar 0) (tC (.int 0))) (tNil))) (tVar 1)) (gName 2)) (tSeq (tAsg (tOp FW.rDiv (tOp (rIxL K) (tVar 0) (tC (.int 0))) (tVar 1)) (gSub (tVar 0) (tC (.int 0)) rSetL)) (tRet (tVar 2)))) (tNext)) (tSeq (tAsg (tOp FW.rAdd (tOp (rIxL K) (tVar 0) (tC (.int 2))) (tC (.int 1))) (gSub (tVar 0) (tC (.int 2)) rSetL)) (tSeq (tAsg (tOp FW.rMod (tOp FW.rPow (tCB FW.rInt1 (tCons (tOp FW.rAdd (tOp FW.rAdd (tOp (rIxL K) (tVar 0) (tC (.int 1))) (tOp FW.rMul (tC (.int 7919)) (tOp (rIxL K) (tVar 0) (tC (.int 2))))) (tC (.int 104729))) (tNil))) (tC (.int 5))) (tC (.int 2147483647))) (gName 3)) (tRet (tOp FW.rMod (tOp FW.rDiv (tOp FW.rMod (tCB FW.rInt1 (tCons (tOp FW.rMul (tOp FW.rAdd (tVar 3) (tOp (rIxL K) (tVar 0) (tC (.int 2)))) (tC (.int 40692))) (tNil))) (tC (.int 2147483629))) (tC (.int 7))) (tVar 1)))))
def rd_l_pick (K : PySem.W.Frag) : TS := tRet (tOp (rIxL K) (tVar 1) (tCall (sp_l_draw K) [] E0 (tCons (tVar 0) (tCons (tCB (Evl.rLenS K) (tCons (tVar 1) (tNil))) (tNil)))))
theorem at_map {ns : List Int} {k : Int} (h0 : 0 ≤ k) (h : k < (ns.length : Int)) : ∃ i, atI (ns.map V.int) k = some (.int i) := by
  obtain ⟨k, rfl⟩ := Int.eq_ofNat_of_zero_le h0
  have hk : k < ns.length := by omega
  refine ⟨ns[k], atI_nat ?_⟩
  rw [List.getElem?_map, List.getElem?_eq_getElem hk]
  rfl
theorem pure_l_stream (K : PySem.W.Frag) (vs : List V) (H : Hp) (Q : VK) (E : XK) (h : sp_l_stream K vs H Q E) : rd_l_stream K { nx := fun _ H' => Q .non H', rt := Q } (start ["_law_script", "_law_k", "_law_cell"] vs) H := by
  obtain ⟨a, ns, k, rfl, hS, h0, hk, q⟩ := h
  have fin : ∀ cell : Int, 0 ≤ cell → (tRet (tLst (tCons (tIf (tTest (tOp FW.rGe (tVar 2) (tOp FW.rPow (tC (.int 10)) (tC (.int 18))))) (tVar 2) (tC (.int 0))) (tCons (tOp FW.rAdd (tOp FW.rMod (tCB FW.rInt1 (tCons (tVar 2) (tNil))) (tC (.int 2147483647))) (tOp FW.rMul (tC (.int 31)) (tVar 1))) (tCons (tC (.int 0)) (tNil)))))) { nx := fun _ H' => Q .non H', rt := Q } [some (.ref a), some (.int k), some (.int cell)] H := by
    intro cell hc
    have hm : 0 ≤ cell % 2147483647 := Int.emod_nonneg _ (by decide)
    have hm2 : cell % 2147483647 < 2147483647 := Int.emod_lt_of_pos _ (by decide)
    walk_at "rd"
    · refine e_ite (fun h => ?_) (fun h => ?_)
      · walk_at "rd"
        · refine ⟨by show 3 ≤ sizeLine; decide, fun p hp => q p _ hp (Ext.new hp) ⟨_, _, _, upd_same, hc, by omega, by omega, by decide, by decide⟩⟩
        · exact wide_mul (a := 10) (b := 10) (by decide) (by omega) (by decide) (by decide) (by decide)
        · decide
      · walk_at "rd"
        · refine ⟨by show 3 ≤ sizeLine; decide, fun p hp => q p _ hp (Ext.new hp) ⟨_, _, _, upd_same, by decide, by omega, by omega, by decide, by decide⟩⟩
        · exact wide_mul (a := 10) (b := 10) (by decide) (by omega) (by decide) (by decide) (by decide)
        · decide
    · exact ⟨by decide, by decide, by decide⟩
  unfold rd_l_stream
  walk_at "rd"
  refine e_len ?_ (.inl hS)
  walk_at "rd"
  refine e_ite (fun h => ?_) (fun h => ?_)
  · rw [List.length_map] at h
    obtain ⟨i, hi⟩ := at_map h0 h
    walk_at "rd"
    refine e_ixL ?_ hS hi
    walk_at "re"
    exact fin (if i < 0 then -i else i) (by split <;> omega)
  · walk_at "re"
    exact fin 0 (by decide)
theorem pure_l_draw (K : PySem.W.Frag) (vs : List V) (H : Hp) (Q : VK) (E : XK) (h : sp_l_draw K vs H Q E) : rd_l_draw K { nx := fun _ H' => Q .non H', rt := Q } (start ["_law_stream_here", "_law_many", "_law_digit", "_law_spread"] vs) H := by
  obtain ⟨p, many, n, rfl, ⟨a, b, c, hp, ha, hb, hb2, hc, hcn⟩, hn, hm, hml, q⟩ := h
  unfold rd_l_draw
  walk_at "rd"
  refine e_ixL ?_ (SqL.of hp) rfl
  walk_at "rd"
  refine e_ite (fun h => ?_) (fun h => ?_)
  · walk_at "rd"
    refine e_ixL ?_ (SqL.of hp) rfl
    walk_at "rd"
    · refine e_ixL ?_ (SqL.of hp) rfl
      walk_at "rd"
      · refine e_setL (m := 0) ?_ hp rfl
        walk_at "rd"
        refine q _ _ (Int.emod_nonneg _ (by omega)) (Int.emod_lt_of_pos _ hm) ExtB.upd ⟨_, _, _, upd_same, Int.ediv_nonneg ha (by omega), hb, hb2, hc, by omega⟩
      · exact ⟨hm, hml⟩
    · exact hm
  · walk_at "rd"
    refine e_ixL ?_ (SqL.of hp) rfl
    walk_at "rd"
    refine e_setL (m := 2) ?_ hp rfl
    have hp' : (upd H p (.lst ([V.int a, V.int b, V.int c].set 2 (.int (c + 1))))) p = some (.lst [.int a, .int b, .int (c + 1)]) := upd_same
    have eB : ExtB p H (upd H p (.lst ([V.int a, V.int b, V.int c].set 2 (.int (c + 1))))) := ExtB.upd
    generalize upd H p (.lst ([V.int a, V.int b, V.int c].set 2 (.int (c + 1)))) = H1 at *
    walk_at "rd"
    refine e_ixL ?_ (SqL.of hp') rfl
    walk_at "rd"
    refine e_ixL ?_ (SqL.of hp') rfl
    walk_at "rd"
    · refine e_ixL ?_ (SqL.of hp') rfl
      have hs : 0 ≤ ((b + 7919 * (c + 1) + 104729) ^ (5 : Int).toNat) % 2147483647 := Int.emod_nonneg _ (by decide)
      have hs2 : ((b + 7919 * (c + 1) + 104729) ^ (5 : Int).toNat) % 2147483647 < 2147483647 := Int.emod_lt_of_pos _ (by decide)
      walk_at "rd"
      · refine q _ _ (Int.emod_nonneg _ (by omega)) (Int.emod_lt_of_pos _ hm) eB ⟨_, _, _, hp', ha, hb, hb2, by omega, by omega⟩
      · exact hm
      · exact ⟨by decide, by decide⟩
      · decide
      · exact wide_mul (a := 60) (b := 20) (by omega) (by decide) (by decide) (by decide) (by decide)
    · decide
    · exact ⟨by decide, by decide, by omega⟩
    · exact wide_mul (a := 20) (b := 40) (by decide) (by omega) (by decide) (by decide) (by decide)
theorem log2_small {n : Nat} (h : n < 1000) : n.log2 < 9000 := by
  have : n.log2 ≤ n := Nat.log2_le_self n
  omega
theorem pure_l_pick (K : PySem.W.Frag) (vs : List V) (H : Hp) (Q : VK) (E : XK) (h : sp_l_pick K vs H Q E) : rd_l_pick K { nx := fun _ H' => Q .non H', rt := Q } (start ["_law_stream_here", "_law_things"] vs) H := by
  obtain ⟨p, a, xs, n, rfl, hS, hn, hne, ha, hx, hl, q⟩ := h
  have h0 : 0 < xs.length := List.length_pos_iff.mpr hx
  unfold rd_l_pick
  walk_at "rd"
  refine e_len ?_ (.inl (SqL.of ha))
  walk_at "rd"
  refine ⟨p, _, n, rfl, hS, hn, by omega, by rw [Int.natAbs_natCast]; exact log2_small hl, fun d H' d0 d1 e s => ?_⟩
  obtain ⟨d, rfl⟩ := Int.eq_ofNat_of_zero_le d0
  have hd : d < xs.length := by omega
  refine e_ixL (v := xs[d]) ?_ (SqL.of (e _ _ hne ha)) (atI_nat (List.getElem?_eq_getElem hd))
  exact q _ _ (List.getElem_mem _) e s
end FWL
namespace FWL
open PySem PySem.Spec PyProof.Rows L2 FW

/-! ### weights -/
def okW (k a c : Int) : Bool := decide (c * (k - 1) ≤ a) && decide (a + c ≤ 6)
def wRow (k a : Int) (cs : List Int) : List (Int × Int) := (cs.filter (okW k a)).map fun c => (a, c)
def wAll (k : Int) : Nat → List (Int × Int)
  | 0 => []
  | n + 1 => wAll k n ++ wRow k (1 + (n : Int)) [1, 2, 3]
def weightsL (k : Int) : List (Int × Int) := wAll k 5
/-- tuples of two ints -/
def Prs (H : Hp) : List V → List (Int × Int) → Prop
  | [], [] => True
  | v :: vs, w :: ws => (∃ t, v = .ref t ∧ H t = some (.tup [.int w.1, .int w.2])) ∧ Prs H vs ws
  | _, _ => False
theorem Prs.ext {H H' : Hp} (e : Ext H H') : ∀ {vs : List V} {ws : List (Int × Int)}, Prs H vs ws → Prs H' vs ws
  | [], [], _ => True.intro
  | _ :: _, _ :: _, ⟨⟨t, h1, h2⟩, r⟩ => ⟨⟨t, h1, e _ _ h2⟩, Prs.ext e r⟩
theorem Prs.upd {H : Hp} {D : Addr} {xs ys : List V} (hD : H D = some (.lst xs)) : ∀ {vs : List V} {ws : List (Int × Int)}, Prs H vs ws → Prs (upd H D (.lst ys)) vs ws
  | [], [], _ => True.intro
  | _ :: _, _ :: _, ⟨⟨t, h1, h2⟩, r⟩ => ⟨⟨t, h1, by rw [upd_ne (ne_of h2 hD (by intro z; cases z))]; exact h2⟩, Prs.upd hD r⟩
theorem Prs.app {H : Hp} : ∀ {vs vs' : List V} {ws ws' : List (Int × Int)}, Prs H vs ws → Prs H vs' ws' → Prs H (vs ++ vs') (ws ++ ws')
  | [], _, [], _, _, h => h
  | _ :: _, _, _ :: _, _, ⟨a, r⟩, h => ⟨a, Prs.app r h⟩
theorem Prs.len {H : Hp} : ∀ {vs : List V} {ws : List (Int × Int)}, Prs H vs ws → vs.length = ws.length
  | [], [], _ => rfl
  | _ :: _, _ :: _, ⟨_, r⟩ => congrArg Nat.succ (Prs.len r)
theorem Prs.mem {H : Hp} {v : V} : ∀ {vs : List V} {ws : List (Int × Int)}, Prs H vs ws → v ∈ vs → ∃ w ∈ ws, ∃ t, v = .ref t ∧ H t = some (.tup [.int w.1, .int w.2])
  | [], [], _, h => by cases h
  | x :: xs, w :: ws, ⟨a, r⟩, h => by
    rcases List.mem_cons.mp h with rfl | h
    · exact ⟨w, List.mem_cons_self, a⟩
    · obtain ⟨w', m, q⟩ := Prs.mem r h
      exact ⟨w', List.mem_cons_of_mem _ m, q⟩
theorem wRow_snoc (k a c : Int) (cs : List Int) : wRow k a (cs ++ [c]) = if okW k a c = true then wRow k a cs ++ [(a, c)] else wRow k a cs := by
  unfold wRow
  rw [List.filter_append]
  cases h : okW k a c <;> simp [List.filter_cons, h]
theorem wRow_len (k a : Int) (cs : List Int) : (wRow k a cs).length ≤ cs.length := by
  unfold wRow
  rw [List.length_map]
  exact List.length_filter_le _ _
theorem wAll_len (k : Int) : ∀ n, (wAll k n).length ≤ 3 * n
  | 0 => by simp [wAll]
  | n + 1 => by
    have := wAll_len k n
    have := wRow_len k (1 + (n : Int)) [1, 2, 3]
    simp only [wAll, List.length_append, List.length_cons, List.length_nil] at *
    omega
def sp_l_weights (K : PySem.W.Frag) : Sp := fun vs H Q _ => ∃ k : Int, vs = [.int k] ∧ 2 ≤ k ∧ k ≤ 4 ∧
  ∀ l ts H', H l = none → Ext H H' → H' l = some (.lst ts) → Prs H' ts (weightsL k) → Q (.ref l) H'
def rd_l_weights_L1 (K : PySem.W.Frag) : TS := tDrop (tBM K "list" rExtend (tVar 1) (tCons (tLc (iTup K (tTup (tCons (tC (.int 1)) (tCons (tC (.int 2)) (tCons (tC (.int 3)) (tNil)))))) (gName 3) (tAnd (tTest (tOp FW.rGe (tVar 2) (tOp FW.rMul (tVar 3) (tOp FW.rSub (tVar 0) (tC (.int 1)))))) (tTest (tOp FW.rLe (tOp FW.rAdd (tVar 2) (tVar 3)) (tC (.int 6))))) (tTup (tCons (tVar 2) (tCons (tVar 3) (tNil)))) [3]) (tNil)))
def rd_l_weights (K : PySem.W.Frag) : TS := tSeq (tAsg (tLst (tNil)) (gName 1)) (tSeq (tFor (iRng2 (tCons (tC (.int 1)) (tCons (tC (.int 6)) (tNil)))) (gName 2) (rd_l_weights_L1 K)) (tRet (tVar 1)))
theorem pure_l_weights (K : PySem.W.Frag) (vs : List V) (H : Hp) (Q : VK) (E : XK) (h : sp_l_weights K vs H Q E) : rd_l_weights K { nx := fun _ H' => Q .non H', rt := Q } (start ["_law_k", "_law_found", "_law_a", "_law_c"] vs) H := by
  obtain ⟨k, rfl, h2, h4, q⟩ := h
  unfold rd_l_weights
  walk_at "rd"
  refine ⟨by decide, fun l hl => ?_⟩
  walk_at "rd"
  · refine for_range (lo := 1) (n := 5) (fun i σ H' => Ext H H' ∧ (∃ ts, H' l = some (.lst ts) ∧ Prs H' ts (wAll k i)) ∧ ∃ u v, σ = [some (.int k), some (.ref l), u, v]) ⟨Ext.new hl, ⟨[], upd_same, True.intro⟩, _, _, rfl⟩ ?_ ?_
    · rintro i σ H' hi ⟨e, ⟨ts, hts, hp⟩, u, v, rfl⟩
      have hlen := hp.len
      have hwl := wAll_len k i
      walk_at "re"
      unfold rd_l_weights_L1
      walk_at "rd"
      refine ⟨.inl ⟨rfl, _, SqL.of hts⟩, ?_⟩
      walk_at "rd"
      refine ⟨by decide, fun c hc => ?_⟩
      have eC : Ext H' (upd H' c (.tup [.int 1, .int 2, .int 3])) := Ext.new hc
      have hC : (upd H' c (.tup [.int 1, .int 2, .int 3])) c = some (.tup [.int 1, .int 2, .int 3]) := upd_same
      generalize upd H' c (.tup [.int 1, .int 2, .int 3]) = H1 at *
      refine i_tup' [.int 1, .int 2, .int 3] ?_ (SqT.of hC)
      intro D hD
      refine lc_tup (xs := [.int 1, .int 2, .int 3]) (fun j H2 => Ext H1 H2 ∧ ∃ as, H2 D = some (.lst as) ∧ Prs H2 as (wRow k (1 + (i : Int)) ([(1 : Int), 2, 3].take j))) ⟨Ext.new hD, [], upd_same, True.intro⟩ (fun j H2 _ p => SqT.of (p.1 _ _ hC)) ?_ ?_
      · rintro j x H2 hx ⟨e2, as, has, hpr⟩
        have hal : as.length ≤ 3 := by
          rw [hpr.len]
          exact Nat.le_trans (wRow_len _ _ _) (by rw [List.length_take]; exact Nat.min_le_right _ _)
        obtain ⟨c0, hc0, rfl, hb⟩ : ∃ c0 : Int, [(1 : Int), 2, 3].take (j + 1) = [(1 : Int), 2, 3].take j ++ [c0] ∧ x = .int c0 ∧ 1 ≤ c0 ∧ c0 ≤ 3 := by
          match j, hx with
          | 0, hx => exact ⟨1, rfl, (Option.some.inj hx).symm, by decide, by decide⟩
          | 1, hx => exact ⟨2, rfl, (Option.some.inj hx).symm, by decide, by decide⟩
          | 2, hx => exact ⟨3, rfl, (Option.some.inj hx).symm, by decide, by decide⟩
          | (n + 3), hx => simp at hx
        have fin : ∀ b : Bool, okW k (1 + (i : Int)) c0 = b → (if b = true then tTup (tCons (tVar 2) (tCons (tVar 3) tNil)) [some (.int k), some (.ref l), some (.int (1 + (i : Int))), some (.int c0)] H2 fun y H4 => ∃ acc, H4 D = some (.lst acc) ∧ acc.length < sizeLine ∧ (Ext H1 (L2.upd H4 D (.lst (acc ++ [y]))) ∧ ∃ as, (L2.upd H4 D (.lst (acc ++ [y]))) D = some (.lst as) ∧ Prs (L2.upd H4 D (.lst (acc ++ [y]))) as (wRow k (1 + (i : Int)) ([(1 : Int), 2, 3].take (j + 1)))) else (Ext H1 H2 ∧ ∃ as, H2 D = some (.lst as) ∧ Prs H2 as (wRow k (1 + (i : Int)) ([(1 : Int), 2, 3].take (j + 1))))) := by
          intro b hb'
          rw [hc0, wRow_snoc, hb']
          cases b with
          | true =>
            rw [if_pos rfl, if_pos rfl]
            walk_at "rd"
            refine ⟨by show 2 ≤ sizeLine; decide, fun t ht => ⟨as, (Ext.new ht) _ _ has, Nat.lt_of_le_of_lt hal (by decide), (e2.tr (Ext.new ht)).upds hD, _, upd_same, ?_⟩⟩
            refine Prs.upd ((Ext.new ht) _ _ has) (Prs.app (hpr.ext (Ext.new ht)) ⟨⟨t, rfl, upd_same⟩, True.intro⟩)
          | false =>
            rw [if_neg (by decide), if_neg (by decide)]
            exact ⟨e2, as, has, hpr⟩
        walk_at "re"
        refine ⟨rfl, ?_⟩
        walk_at "re"
        · refine e_ite (fun h1 => ?_) (fun h1 => ?_)
          · walk_at "re"
            exact fin _ (by unfold okW; rw [decide_eq_true h1, Bool.true_and])
          · exact fin false (by unfold okW; rw [decide_eq_false h1, Bool.false_and])
        · exact wide_mul (a := 10) (b := 10) (by omega) (by omega) (by decide) (by decide) (by decide)
      · rintro H2 ⟨e2, as, has, hpr⟩
        have el : H2 l = some (.lst ts) := e2 _ _ (eC _ _ hts)
        have hne : D ≠ l := ((ne_of_none (eC _ _ hts) hD)).symm
        refine ⟨l, D, ts, as, rfl, rfl, el, has, ?_, ?_⟩
        · have hpr' : Prs H2 as (wRow k (1 + (i : Int)) [1, 2, 3]) := hpr
          have := hpr'.len
          have := wRow_len k (1 + (i : Int)) [1, 2, 3]
          simp only [List.length_cons, List.length_nil] at *
          exact Nat.le_trans (show ts.length + as.length ≤ 100 by omega) (by decide)
        · walk_at "rd"
          refine ⟨((e.tr eC).tr e2).upds hl, ⟨_, upd_same, ?_⟩, _, _, rfl⟩
          exact Prs.upd el (Prs.app ((hp.ext eC).ext e2) hpr)
    · rintro σ H' ⟨e, ⟨ts, hts, hp⟩, u, v, rfl⟩
      walk_at "rd"
      exact q _ _ _ hl e hts hp
  · decide
theorem weights_ok {k : Int} (h2 : 2 ≤ k) (h4 : k ≤ 4) : ∀ w ∈ weightsL k, 1 ≤ w.2 ∧ w.2 ≤ 3 ∧ w.2 * (k - 1) ≤ w.1 ∧ w.1 + w.2 ≤ 6 ∧ 1 ≤ w.1 ∧ w.1 ≤ 5 := by
  have : k = 2 ∨ k = 3 ∨ k = 4 := by omega
  rcases this with rfl | rfl | rfl <;> decide
theorem weights_ne {k : Int} (h2 : 2 ≤ k) (h4 : k ≤ 4) : weightsL k ≠ [] ∧ (weightsL k).length ≤ 15 := by
  have : k = 2 ∨ k = 3 ∨ k = 4 := by omega
  rcases this with rfl | rfl | rfl <;> decide
end FWL
namespace FWL
open PySem PySem.Spec PyProof.Rows L2 FW

/-! ### a loop's parts -/
structure Lp where
  k : Int
  a : Int
  c : Int
  d : Int
  stop : Str
  told : Str
  mend : Str
structure Lp.Ok (l : Lp) : Prop where
  hk : l.k = 2 ∨ l.k = 3 ∨ l.k = 4
  a1 : 1 ≤ l.a
  a5 : l.a ≤ 5
  c1 : 1 ≤ l.c
  c3 : l.c ≤ 3
  ca : l.c * (l.k - 1) ≤ l.a
  ac : l.a + l.c ≤ 6
  d0 : -l.a ≤ l.d
  d1 : l.d ≤ l.a + l.c
  hs : V.str l.stop ∈ stopsV
  ht : V.str l.told ∈ toldsV
  hl : V.str l.stop ∈ looksV → l.told = "old"
  hm : V.str l.mend ∈ mendsV
abbrev Lp.V (l : Lp) : List V := [.int l.k, .int l.a, .int l.c, .int l.d, .str l.stop, .str l.told, .str l.mend]
abbrev Lp.F (l : Lp) : List (Str × L2.V) := [("k", .int l.k), ("a", .int l.a), ("c", .int l.c), ("d", .int l.d), ("stop", .str l.stop), ("told", .str l.told), ("mend", .str l.mend)]
theorem eqV_str (a b : Str) : eqV (.str a) (.str b) = decide (a = b) := by
  show (a == b) = decide (a = b)
  by_cases h : a = b
  · subst h; simp
  · rw [decide_eq_false h]; exact beq_eq_false_iff_ne.mpr h
theorem inV_str (s : Str) : ∀ {xs : List V}, (∀ v ∈ xs, ∃ x, v = V.str x) → inV (.str s) xs = decide (V.str s ∈ xs)
  | [], _ => rfl
  | v :: vs, h => by
    obtain ⟨x, rfl⟩ := h v List.mem_cons_self
    have ih := inV_str s fun v hv => h v (List.mem_cons_of_mem _ hv)
    show (eqV (.str x) (.str s) || inV (.str s) vs) = _
    rw [ih, eqV_str]
    by_cases e : x = s
    · subst e; simp
    · have e' : ¬ s = x := fun z => e z.symm
      simp [e, e']
theorem strs_stops : ∀ v ∈ stopsV, ∃ x, v = V.str x := by
  intro v h
  simp only [stopsV, List.mem_cons, List.not_mem_nil, or_false] at h
  rcases h with rfl | rfl | rfl | rfl | rfl | rfl | rfl <;> exact ⟨_, rfl⟩
theorem strs_tolds : ∀ v ∈ toldsV, ∃ x, v = V.str x := by
  intro v h
  simp only [toldsV, List.mem_cons, List.not_mem_nil, or_false] at h
  rcases h with rfl | rfl | rfl | rfl <;> exact ⟨_, rfl⟩
theorem strs_mends : ∀ v ∈ mendsV, ∃ x, v = V.str x := by
  intro v h
  simp only [mendsV, List.mem_cons, List.not_mem_nil, or_false] at h
  rcases h with rfl | rfl | rfl | rfl <;> exact ⟨_, rfl⟩
theorem strs_looks : ∀ v ∈ looksV, ∃ x, v = V.str x := by
  intro v h
  simp only [looksV, List.mem_cons, List.not_mem_nil, or_false] at h
  rcases h with rfl | rfl <;> exact ⟨_, rfl⟩
theorem Lp.Ok.right {l : Lp} (o : l.Ok) : wrongP (.int l.k) (.int l.a) (.int l.c) (.int l.d) (.str l.stop) (.str l.told) (.str l.mend) = .non := by
  have h1 : inV (.int l.k) [.int 2, .int 3, .int 4] = true := by
    rcases o.hk with e | e | e <;> rw [e] <;> decide
  have h2 : wordOf (.str l.stop) stopsV = true := by
    show (true && inV (.str l.stop) stopsV) = true
    rw [Bool.true_and, inV_str _ strs_stops]; exact decide_eq_true o.hs
  have h3 : wordOf (.str l.told) toldsV = true := by
    show (true && inV (.str l.told) toldsV) = true
    rw [Bool.true_and, inV_str _ strs_tolds]; exact decide_eq_true o.ht
  have h4 : wordOf (.str l.mend) mendsV = true := by
    show (true && inV (.str l.mend) mendsV) = true
    rw [Bool.true_and, inV_str _ strs_mends]; exact decide_eq_true o.hm
  have h5 : (inV (.str l.stop) looksV && !decide (V.str l.told = .str "old")) = false := by
    rw [inV_str _ strs_looks]
    by_cases h : V.str l.stop ∈ looksV
    · rw [o.hl h]; simp
    · simp [h]
  have a1 := o.a1; have a5 := o.a5; have c1 := o.c1; have ca := o.ca; have ac := o.ac; have d0 := o.d0; have d1 := o.d1
  have e3 : ((decide (l.a < l.c * (l.k - 1)) || decide (6 < l.a + l.c))) = false := by
    rw [decide_eq_false (by omega), decide_eq_false (by omega)]; rfl
  have e1 : (decide (1 ≤ l.a) && decide (l.a ≤ 5)) = true := by rw [decide_eq_true a1, decide_eq_true a5]; rfl
  have e2 : (decide (-l.a ≤ l.d) && decide (l.d ≤ l.a + l.c)) = true := by rw [decide_eq_true d0, decide_eq_true d1]; rfl
  have e4 : fromI (.int l.c) 1 = true := by show (true && decide (1 ≤ l.c)) = true; rw [decide_eq_true c1]; rfl
  unfold wrongP
  rw [if_neg (by rw [h1]; show ¬ ((!true || !true) = true); decide), if_neg (by show ¬ ((!true || !(decide (1 ≤ l.a) && decide (l.a ≤ 5))) = true); rw [e1]; decide),
    if_neg (by show ¬ ((!fromI (.int l.c) 1 || (decide (l.a < l.c * (l.k - 1)) || decide (6 < l.a + l.c))) = true); rw [e4, e3]; decide),
    if_neg (by show ¬ ((!true || !(decide (-l.a ≤ l.d) && decide (l.d ≤ l.a + l.c))) = true); rw [e2]; decide),
    if_neg (by rw [h2]; decide), if_neg (by rw [h3, h5]; decide), if_pos h4]
/-- a loop as an object -/
def IsLp (K : PySem.W.Frag) (H : Hp) (x : Addr) (l : Lp) : Prop := ∃ dx, H x = some (.ins (He.ga K "Average") dx l.F)
theorem IsLp.ext {K : PySem.W.Frag} {H H' : Hp} {x : Addr} {l : Lp} (e : Ext H H') : IsLp K H x l → IsLp K H' x l
  | ⟨dx, h⟩ => ⟨dx, e _ _ h⟩
def sp_Average_init (K : PySem.W.Frag) : Sp := fun vs H Q _ => ∃ (x dx : Addr) (l : Lp), vs = .ref x :: l.V ∧ l.Ok ∧ H x = some (.ins (He.ga K "Average") dx []) ∧
  ∀ H', ExtB x H H' → H' x = some (.ins (He.ga K "Average") dx l.F) → Q .non H'
def rd_Average_init (K : PySem.W.Frag) : TS := tSeq (tAsg (tCall (sp_wrong_part K) [] E0 (tCons (tVar 1) (tCons (tVar 2) (tCons (tVar 3) (tCons (tVar 4) (tCons (tVar 5) (tCons (tVar 6) (tCons (tVar 7) (tNil))))))))) (gName 8)) (tSeq (tIfS (tTest (tOp FW.rNotN (tVar 8) (tC .non))) (tNever) (tNext)) (tSeq (sFld K (tVar 0) (tVar 1) "k") (tSeq (sFld K (tVar 0) (tVar 2) "a") (tSeq (sFld K (tVar 0) (tVar 3) "c") (tSeq (sFld K (tVar 0) (tVar 4) "d") (tSeq (sFld K (tVar 0) (tVar 5) "stop") (tSeq (sFld K (tVar 0) (tVar 6) "told") (sFld K (tVar 0) (tVar 7) "mend"))))))))
theorem e_sF {K : PySem.W.Frag} {H : Hp} {a C dx : Addr} {f : Str} {fs : List (Str × V)} {R : Hp → Prop} {y : V} (k : R (upd H a (.ins C dx (putF f y fs)))) (h : H a = some (.ins C dx fs)) (c : Cls K C) (n : NoAttr K C f) (hl : fs.length < 1000) :
    ∃ a' C dx fs, V.ref a = .ref a' ∧ H a' = some (.ins C dx fs) ∧ Cls K C ∧ NoAttr K C f ∧ fs.length < 1000 ∧ R (upd H a' (.ins C dx (putF f y fs))) := ⟨a, C, dx, fs, rfl, h, c, n, hl, k⟩
theorem pure_Average_init (K : PySem.W.Frag) (A : AvK K) (vs : List V) (H : Hp) (Q : VK) (E : XK) (h : sp_Average_init K vs H Q E) : rd_Average_init K { nx := fun _ H' => Q .non H', rt := Q } (start ["self", "k", "a", "c", "d", "stop", "told", "mend", "wrong"] vs) H := by
  obtain ⟨x, dx, l, rfl, o, hx, q⟩ := h
  unfold rd_Average_init
  walk_at "rd"
  refine ⟨_, _, _, _, _, _, _, rfl, ?_, ?_, fun H1 e1 => ?_⟩
  · intro v hv
    simp only [List.mem_cons, List.not_mem_nil, or_false] at hv
    rcases hv with rfl | rfl | rfl | rfl | rfl | rfl | rfl
    · exact ⟨_, WT.i _⟩
    · exact ⟨_, WT.i _⟩
    · exact ⟨_, WT.i _⟩
    · exact ⟨_, WT.i _⟩
    · exact ⟨_, WT.s _⟩
    · exact ⟨_, WT.s _⟩
    · exact ⟨_, WT.s _⟩
  · have := o.c1; have := o.c3
    exact Nat.lt_of_lt_of_le (show (iv (.int l.c)).natAbs < 2 ^ 3 by show l.c.natAbs < 8; omega) (Nat.pow_le_pow_right (by decide) (by decide))
  · rw [o.right]
    walk_at "rd"
    refine e_iteN (fun h => absurd rfl h) (fun _ => ?_)
    walk_at "rd"
    refine e_sF ?_ (e1 _ _ hx) A.cls A.n_k (by decide)
    walk_at "rd"
    refine e_sF ?_ upd_same A.cls A.n_a (by show 1 < 1000; decide)
    walk_at "rd"
    refine e_sF ?_ upd_same A.cls A.n_c (by show 2 < 1000; decide)
    walk_at "rd"
    refine e_sF ?_ upd_same A.cls A.n_d (by show 3 < 1000; decide)
    walk_at "rd"
    refine e_sF ?_ upd_same A.cls A.n_stop (by show 4 < 1000; decide)
    walk_at "rd"
    refine e_sF ?_ upd_same A.cls A.n_told (by show 5 < 1000; decide)
    walk_at "rd"
    refine e_sF ?_ upd_same A.cls A.n_mend (by show 6 < 1000; decide)
    refine q _ ?_ upd_same
    intro a o' ne h
    rw [upd_ne ne, upd_ne ne, upd_ne ne, upd_ne ne, upd_ne ne, upd_ne ne, upd_ne ne]
    exact e1 _ _ h
/-! ### led, step -/
theorem e_fL {K : PySem.W.Frag} {H : Hp} {x : Addr} {l : Lp} {f : Str} {R : V → Prop} {v : V} (k : R v) (A : AvK K) (h : IsLp K H x l) (n : NoAttr K (He.ga K "Average") f) (hl : l.F.lookup f = some v) :
    ∃ a C dx fs v, V.ref x = .ref a ∧ H a = some (.ins C dx fs) ∧ Cls K C ∧ NoAttr K C f ∧ fs.lookup f = some v ∧ R v := by
  obtain ⟨dx, h⟩ := h
  exact ⟨x, _, dx, _, v, rfl, h, A.cls, n, hl, k⟩
/-- the guess to which the step leads -/
def Lp.led (l : Lp) (n x : Int) : Int := (l.a * x + l.c * (n / x ^ (l.k - 1).toNat) + l.d) / (l.a + l.c)
def sp_Average_led (K : PySem.W.Frag) : Sp := fun vs H Q _ => ∃ (p : Addr) (l : Lp) (n x : Int), vs = [.ref p, .int n, .int x] ∧ IsLp K H p l ∧ l.Ok ∧ 1 ≤ x ∧ 0 ≤ n ∧ n.natAbs < 2 ^ 2000 ∧ x.natAbs < 2 ^ 2000 ∧ Q (.int (l.led n x)) H
def rd_Average_led (K : PySem.W.Frag) : TS := tSeq (tAsg (tOp FW.rDiv (tVar 1) (tCall (sp_power K) [] E0 (tCons (tVar 2) (tCons (tOp FW.rSub (tFld K (tVar 0) "k") (tC (.int 1))) (tNil))))) (gName 3)) (tRet (tOp FW.rDiv (tOp FW.rAdd (tOp FW.rAdd (tOp FW.rMul (tFld K (tVar 0) "a") (tVar 2)) (tOp FW.rMul (tFld K (tVar 0) "c") (tVar 3))) (tFld K (tVar 0) "d")) (tOp FW.rAdd (tFld K (tVar 0) "a") (tFld K (tVar 0) "c"))))
theorem pow_pos' {x : Int} (h : 1 ≤ x) : ∀ n : Nat, 1 ≤ x ^ n
  | 0 => by rw [Int.pow_zero]; omega
  | n + 1 => by
    have ih := pow_pos' h n
    rw [Int.pow_succ]
    have : 1 * 1 ≤ x ^ n * x := Int.mul_le_mul ih h (by decide) (by omega)
    simpa using this
theorem ediv_abs {a b : Int} (ha : 0 ≤ a) (hb : 1 ≤ b) : (a / b).natAbs ≤ a.natAbs := by
  have h1 : 0 ≤ a / b := Int.ediv_nonneg ha (by omega)
  have h2 : a / b ≤ a := Int.ediv_le_self _ ha
  omega
theorem pure_Average_led (K : PySem.W.Frag) (A : AvK K) (vs : List V) (H : Hp) (Q : VK) (E : XK) (h : sp_Average_led K vs H Q E) : rd_Average_led K { nx := fun _ H' => Q .non H', rt := Q } (start ["self", "n", "x", "quotient"] vs) H := by
  obtain ⟨p, l, n, x, rfl, hp, o, hx, hn, hnb, hxb, q⟩ := h
  have hk := o.hk; have a1 := o.a1; have a5 := o.a5; have c1 := o.c1; have c3 := o.c3
  have hk1 : 0 ≤ l.k - 1 ∧ l.k - 1 ≤ 3 := by omega
  have hpw := pow_lt hxb (by decide) (l.k - 1).toNat
  have hpp := pow_pos' hx (l.k - 1).toNat
  have hq : (n / x ^ (l.k - 1).toNat).natAbs < 2 ^ 2000 := Nat.lt_of_le_of_lt (ediv_abs hn hpp) hnb
  unfold rd_Average_led
  walk_at "rd"
  refine e_fL ?_ A hp A.n_k rfl
  walk_at "rd"
  refine ⟨x, l.k - 1, 2000, rfl, hk1.1, hxb, by decide, ?_, ?_⟩
  · have : (l.k - 1).toNat + 1 ≤ 4 := by omega
    have := Nat.mul_le_mul_right 2000 this
    omega
  walk_at "rd"
  · refine e_fL ?_ A hp A.n_a rfl
    walk_at "rd"
    · refine e_fL ?_ A hp A.n_c rfl
      walk_at "rd"
      · refine e_fL ?_ A hp A.n_d rfl
        walk_at "rd"
        refine e_fL ?_ A hp A.n_a rfl
        walk_at "rd"
        refine e_fL ?_ A hp A.n_c rfl
        walk_at "rd"
        · exact q
        · refine wide_div (b := 10) (by omega) ?_ (by decide) (by decide)
          show (l.a + l.c).natAbs < 1024
          omega
      · exact wide_mul (a := 10) (b := 2000) (by show l.c.natAbs < 1024; omega) hq (by decide) (by decide) (by decide)
    · exact wide_mul (a := 10) (b := 2000) (by show l.a.natAbs < 1024; omega) hxb (by decide) (by decide) (by decide)
  · refine wide_div (b := (l.k - 1).toNat * 2000 + 1) (by omega) hpw (by omega) ?_
    have : (l.k - 1).toNat ≤ 3 := by omega
    have := Nat.mul_le_mul_right 2000 this
    omega
def sp_Average_step (K : PySem.W.Frag) : Sp := sp_Average_led K
def rd_Average_step (K : PySem.W.Frag) : TS := tSeq (tDrop (tCall (sp_check_number K) [] E0 (tCons (tVar 1) (tNil)))) (tSeq (tDrop (tCall (sp_check_start K) [] E0 (tCons (tVar 2) (tNil)))) (tRet (tMeth (He.ga K "Average") "led" (sp_Average_led K) [] E0 (tVar 0) (tCons (tVar 1) (tCons (tVar 2) (tNil))))))
theorem pure_Average_step (K : PySem.W.Frag) (vs : List V) (H : Hp) (Q : VK) (E : XK) (h : sp_Average_step K vs H Q E) : rd_Average_step K { nx := fun _ H' => Q .non H', rt := Q } (start ["self", "n", "x"] vs) H := by
  obtain ⟨p, l, n, x, rfl, hp, o, hx, hn, hnb, hxb, q⟩ := h
  unfold rd_Average_step
  walk_at "rd"
  refine ⟨_, rfl, hn, ?_⟩
  walk_at "rd"
  refine ⟨_, rfl, hx, ?_⟩
  walk_at "rd"
  have hp' := hp
  obtain ⟨dx, hp'⟩ := hp'
  refine ⟨p, dx, _, rfl, hp', rfl, ?_⟩
  walk_at "rd"
  exact ⟨p, l, n, x, rfl, hp, o, hx, hn, hnb, hxb, q⟩
/-! ### parts drawn -/
theorem Strm.neT {H : Hp} {p t : Addr} {n : Nat} {xs : List V} (h : Strm H p n) (ht : H t = some (.tup xs)) : t ≠ p := by
  obtain ⟨a, b, c, h1, _⟩ := h
  exact ne_of ht h1 (by intro z; cases z)
theorem ExtB.non {p t : Addr} {H H' : Hp} {n : Nat} (e : ExtB p H H') (s : Strm H' p n) (h : H' t = none) : H t = none := by
  cases q : H t with
  | none => rfl
  | some o => rw [e t o (s.ne h) q] at h; cases h
def sp_l_parts (K : PySem.W.Frag) : Sp := fun vs H Q _ => ∃ (p : Addr) (n : Nat), vs = [.ref p] ∧ Strm H p n ∧ n + 10 < 1000000 ∧
  ∀ t l H', l.Ok → H t = none → ExtB p H H' → Strm H' p (n + 7) → H' t = some (.tup (Lp.V l)) → Q (.ref t) H'
def rd_l_parts (K : PySem.W.Frag) : TS := tSeq (tAsg (tOp FW.rAdd (tC (.int 2)) (tCall (sp_l_draw K) [] E0 (tCons (tVar 0) (tCons (tC (.int 3)) (tNil))))) (gName 1)) (tSeq (tAsg (tCall (sp_l_pick K) [] E0 (tCons (tVar 0) (tCons (tCall (sp_l_weights K) [] E0 (tCons (tVar 1) (tNil))) (tNil)))) (gTup K 2 (gCons (gName 2) (gCons (gName 3) (gNil))))) (tSeq (tAsg (tCall (sp_l_pick K) [] E0 (tCons (tVar 0) (tCons (tLst (tCons (tC (.int 0)) (tCons (tC (.int 0)) (tCons (tC (.int 1)) (tCons (tOp FW.rSub (tVar 3) (tC (.int 1))) (tCons (tVar 3) (tCons (tUn FW.rNeg (tC (.int 1))) (tCons (tOp FW.rSub (tCall (sp_l_draw K) [] E0 (tCons (tVar 0) (tCons (tOp FW.rAdd (tOp FW.rAdd (tOp FW.rMul (tC (.int 2)) (tVar 2)) (tVar 3)) (tC (.int 1))) (tNil)))) (tVar 2)) (tNil))))))))) (tNil)))) (gName 4)) (tSeq (tAsg (tCall (sp_l_pick K) [] E0 (tCons (tVar 0) (tCons (tLst (tCons (tC (.str "notless")) (tCons (tC (.str "equal")) (tCons (tC (.str "near1")) (tCons (tC (.str "near2")) (tCons (tC (.str "back")) (tCons (tC (.str "under")) (tCons (tC (.str "held")) (tNil))))))))) (tNil)))) (gName 5)) (tSeq (tAsg (tCall (sp_l_pick K) [] E0 (tCons (tVar 0) (tCons (tLst (tCons (tC (.str "old")) (tCons (tC (.str "new")) (tCons (tC (.str "less")) (tCons (tC (.str "more")) (tNil)))))) (tNil)))) (gName 6)) (tSeq (tAsg (tCall (sp_l_pick K) [] E0 (tCons (tVar 0) (tCons (tLst (tCons (tC (.str "none")) (tCons (tC (.str "none")) (tCons (tC (.str "down")) (tCons (tC (.str "up")) (tCons (tC (.str "both")) (tNil))))))) (tNil)))) (gName 7)) (tRet (tTup (tCons (tVar 1) (tCons (tVar 2) (tCons (tVar 3) (tCons (tVar 4) (tCons (tVar 5) (tCons (tIf (tTest (tOp (rIn K false) (tVar 5) (tTup (tCons (tC (.str "under")) (tCons (tC (.str "held")) (tNil)))))) (tC (.str "old")) (tVar 6)) (tCons (tVar 7) (tNil)))))))))))))))
theorem pure_l_parts (K : PySem.W.Frag) (vs : List V) (H : Hp) (Q : VK) (E : XK) (h : sp_l_parts K vs H Q E) : rd_l_parts K { nx := fun _ H' => Q .non H', rt := Q } (start ["_law_stream_here", "_law_k", "_law_a", "_law_c", "_law_d", "_law_stop", "_law_told", "_law_mend"] vs) H := by
  obtain ⟨p, n, rfl, hS, hn, q⟩ := h
  unfold rd_l_parts
  walk_at "rd"
  refine ⟨p, 3, n, rfl, hS, by omega, by decide, by decide, fun d H1 d0 d1 e1 s1 => ?_⟩
  walk_at "rd"
  refine ⟨2 + d, rfl, by omega, by omega, fun l ts H2 hl e2 hts hpr => ?_⟩
  obtain ⟨w1, w2⟩ := weights_ne (k := 2 + d) (by omega) (by omega)
  have hlen := hpr.len
  walk_at "rd"
  refine ⟨p, l, ts, n + 1, rfl, s1.ext e2, by omega, s1.ne hl, hts, ?_, by omega, fun v H3 hv e3 s3 => ?_⟩
  · intro z; rw [z] at hlen; exact w1 (List.length_eq_zero_iff.mp hlen.symm)
  obtain ⟨⟨a, c⟩, hw, t, rfl, ht⟩ := hpr.mem hv
  obtain ⟨c1, c3, ca, ac, a1, a5⟩ := weights_ok (k := 2 + d) (by omega) (by omega) _ hw
  dsimp only at c1 c3 ca ac a1 a5 ht
  refine g_tup ?_ (SqT.of (e3 _ _ ((s1.ext e2).neT ht) ht)) rfl
  walk_at "rd"
  · refine ⟨p, 2 * a + c + 1, n + 2, rfl, s3, by omega, by omega, log2_small (by omega), fun d' H4 d0' d1' e4 s4 => ?_⟩
    walk_at "rd"
    refine ⟨by show 7 ≤ sizeLine; decide, fun ql hq => ?_⟩
    walk_at "rd"
    refine ⟨p, ql, _, n + 3, rfl, s4.ext (Ext.new hq), by omega, s4.ne hq, upd_same, by simp, by show 7 < 1000; decide, fun v H5 hv5 e5 s5 => ?_⟩
    obtain ⟨dd, rfl, dd0, dd1⟩ : ∃ dd : Int, v = .int dd ∧ -a ≤ dd ∧ dd ≤ a + c := by
      simp only [List.mem_cons, List.not_mem_nil, or_false] at hv5
      rcases hv5 with rfl | rfl | rfl | rfl | rfl | rfl | rfl
      · exact ⟨_, rfl, by omega, by omega⟩
      · exact ⟨_, rfl, by omega, by omega⟩
      · exact ⟨_, rfl, by omega, by omega⟩
      · exact ⟨_, rfl, by omega, by omega⟩
      · exact ⟨_, rfl, by omega, by omega⟩
      · exact ⟨_, rfl, by omega, by omega⟩
      · exact ⟨_, rfl, by omega, by omega⟩
    walk_at "rd"
    refine ⟨by show 7 ≤ sizeLine; decide, fun q6 hq6 => ?_⟩
    walk_at "rd"
    refine ⟨p, q6, stopsV, n + 4, rfl, s5.ext (Ext.new hq6), by omega, s5.ne hq6, upd_same, by simp [stopsV], by show 7 < 1000; decide, fun v H7 hv7 e7 s7 => ?_⟩
    obtain ⟨ws, rfl⟩ := strs_stops v hv7
    walk_at "rd"
    refine ⟨by show 4 ≤ sizeLine; decide, fun q8 hq8 => ?_⟩
    walk_at "rd"
    refine ⟨p, q8, toldsV, n + 5, rfl, s7.ext (Ext.new hq8), by omega, s7.ne hq8, upd_same, by simp [toldsV], by show 4 < 1000; decide, fun v H9 hv9 e9 s9 => ?_⟩
    obtain ⟨wt, rfl⟩ := strs_tolds v hv9
    walk_at "rd"
    refine ⟨by show 5 ≤ sizeLine; decide, fun q10 hq10 => ?_⟩
    walk_at "rd"
    refine ⟨p, q10, _, n + 6, rfl, s9.ext (Ext.new hq10), by omega, s9.ne hq10, upd_same, by simp, by show 5 < 1000; decide, fun v H11 hv11 e11 s11 => ?_⟩
    obtain ⟨wm, rfl, hwm⟩ : ∃ x, v = .str x ∧ V.str x ∈ mendsV := by
      simp only [List.mem_cons, List.not_mem_nil, or_false] at hv11
      rcases hv11 with rfl | rfl | rfl | rfl | rfl <;> exact ⟨_, rfl, by simp [mendsV]⟩
    walk_at "rd"
    refine ⟨by show 2 ≤ sizeLine; decide, fun q12 hq12 => ?_⟩
    have eB : ExtB p H H11 := e1.tr ((ExtB.of e2).tr (e3.tr (e4.tr ((ExtB.of (Ext.new hq)).tr (e5.tr ((ExtB.of (Ext.new hq6)).tr (e7.tr ((ExtB.of (Ext.new hq8)).tr (e9.tr ((ExtB.of (Ext.new hq10)).tr e11))))))))))
    refine e_in ?_ (.inr (SqT.of upd_same)) rfl rfl
    rw [if_neg (by decide)]
    have fin : ∀ tt : Str, V.str tt ∈ toldsV → (V.str ws ∈ looksV → tt = "old") → ∀ r, (upd H11 q12 (.tup [.str "under", .str "held"])) r = none → Q (.ref r) (upd (upd H11 q12 (.tup [.str "under", .str "held"])) r (.tup [.int (2 + d), .int a, .int c, .int dd, .str ws, .str tt, .str wm])) := by
      intro tt htt hlk r hr
      have s12 : Strm (upd H11 q12 (.tup [.str "under", .str "held"])) p (n + 7) := s11.ext (Ext.new hq12)
      have eB12 : ExtB p H (upd H11 q12 (.tup [.str "under", .str "held"])) := eB.tr (ExtB.of (Ext.new hq12))
      exact q r ⟨2 + d, a, c, dd, ws, tt, wm⟩ _ ⟨by show 2 + d = 2 ∨ 2 + d = 3 ∨ 2 + d = 4; omega, a1, a5, c1, c3, ca, ac, dd0, dd1, hv7, htt, hlk, hwm⟩ (FWL.ExtB.non eB12 s12 hr) (eB12.tr (ExtB.of (Ext.new hr))) (s12.ext (Ext.new hr)) upd_same
    walk_at "rd"
    refine e_iteB (fun hb => ?_) (fun hb => ?_)
    · walk_at "rd"
      exact ⟨by show 7 ≤ sizeLine; decide, fin "old" (by simp [toldsV]) (fun _ => rfl)⟩
    · walk_at "rd"
      refine ⟨by show 7 ≤ sizeLine; decide, fin wt hv9 (fun hx => ?_)⟩
      have e := inV_str ws strs_looks
      rw [decide_eq_true hx] at e
      rw [show inV (V.str ws) [V.str "under", V.str "held"] = inV (V.str ws) looksV from rfl, e] at hb
      cases hb
  · exact wide_mul (a := 10) (b := 10) (by decide) (by omega) (by decide) (by decide) (by decide)
end FWL
namespace FWL
open PySem PySem.Spec PyProof.Rows L2 FW

/-! ### the law's power -/
def sp_l_power (K : PySem.W.Frag) : Sp := sp_power K
def rd_l_power_L1 (K : PySem.W.Frag) : TS := tAsg (tOp FW.rMul (tVar 2) (tVar 0)) (gName 2)
def rd_l_power (K : PySem.W.Frag) : TS := tSeq (tAsg (tC (.int 1)) (gName 2)) (tSeq (tFor (iRng1 (tCons (tVar 1) (tNil))) (gName 3) (rd_l_power_L1 K)) (tRet (tVar 2)))
theorem pure_l_power (K : PySem.W.Frag) (vs : List V) (H : Hp) (Q : VK) (E : XK) (h : sp_l_power K vs H Q E) : rd_l_power K { nx := fun _ H' => Q .non H', rt := Q } (start ["_law_x", "_law_k", "_law_found", "_law_turn"] vs) H := by
  obtain ⟨x, k, b, rfl, hk, hx, hb, hz, q⟩ := h
  unfold rd_l_power
  walk_at "rd"
  refine for_range (lo := 0) (n := k.toNat) (fun i σ H' => H' = H ∧ ∃ v, σ = [some (.int x), some (.int k), some (.int (x ^ i)), v]) ⟨rfl, _, by rw [Int.pow_zero]; rfl⟩ ?_ ?_
  · rintro i σ H' hi ⟨rfl, v, rfl⟩
    walk_at "re"
    unfold rd_l_power_L1
    walk_at "rd"
    · exact ⟨rfl, _, by rw [Int.pow_succ]; rfl⟩
    · refine wide_mul (pow_lt hx hb i) hx (by omega) hb ?_
      have : (i + 1) * b ≤ (k.toNat + 1) * b := Nat.mul_le_mul_right _ (by omega)
      rw [Nat.add_mul] at this
      omega
  · rintro σ H' ⟨rfl, v, rfl⟩
    walk_at "rd"
    exact q
  · have : k.toNat * 1 ≤ k.toNat * b := Nat.mul_le_mul_left _ hb
    rw [Nat.add_mul] at hz
    omega
end FWL
namespace FWL
open PySem PySem.Spec PyProof.Rows L2 FW
/-! ### polynomials: their values -/
def pvl : List Int → Int → Int
  | [], _ => 0
  | c :: cs, r => c + r * pvl cs r
theorem pv_append (xs ys : List Int) (r : Int) : pvl (xs ++ ys) r = pvl xs r + r ^ xs.length * pvl ys r := by
  induction xs with
  | nil => simp [pvl]
  | cons x xs ih => simp only [List.cons_append, pvl, ih, List.length_cons]; grind
theorem pv_zeros {xs : List Int} (h : ∀ c ∈ xs, c = 0) (r : Int) : pvl xs r = 0 := by
  induction xs with
  | nil => rfl
  | cons x xs ih => rw [pvl, ih fun c hc => h c (List.mem_cons_of_mem _ hc), h x List.mem_cons_self]; simp
theorem pv_zip : ∀ (xs ys : List Int), xs.length = ys.length → ∀ r, pvl (List.zipWith (· + ·) xs ys) r = pvl xs r + pvl ys r
  | [], [], _, r => by simp [pvl]
  | x :: xs, y :: ys, h, r => by
    have ih := pv_zip xs ys (by simpa using h) r
    simp only [List.zipWith_cons_cons, pvl, ih]; grind
  | [], _ :: _, h, _ => by simp at h
  | _ :: _, [], h, _ => by simp at h
theorem pv_set : ∀ (xs : List Int) (k : Nat) (c d r : Int), xs[k]? = some c → pvl (xs.set k (c + d)) r = pvl xs r + d * r ^ k
  | x :: xs, 0, c, d, r, h => by
    simp only [List.getElem?_cons_zero, Option.some.injEq] at h
    subst h
    simp only [List.set_cons_zero, pvl]; grind
  | x :: xs, k + 1, c, d, r, h => by
    have ih := pv_set xs k c d r (by simpa using h)
    simp only [List.set_cons_succ, pvl, ih, Int.pow_succ]; grind
  | [], k, c, d, r, h => by simp at h
/-! trimmed -/
def sp_trimmedL (K : PySem.W.Frag) : Sp := fun vs H Q _ => ∃ (a : Addr) (ns : List Int), vs = [.ref a] ∧ SqL K H a (ns.map V.int) ∧
  ∀ t cs H', H t = none → Ext H H' → H' t = some (.tup (cs.map V.int)) → (∀ r, pvl cs r = pvl ns r) → cs.getLast? ≠ some 0 → (∀ c ∈ cs, c ∈ ns) → cs.length ≤ ns.length → Q (.ref t) H'
def rd_trimmed_L1 (K : PySem.W.Frag) : TS := tAug 1 (tC (.int 1)) FW.iSub
def sp_trimmedT (K : PySem.W.Frag) : Sp := fun vs H Q _ => ∃ (a : Addr) (ns : List Int), vs = [.ref a] ∧ SqT K H a (ns.map V.int) ∧
  ∀ t cs H', Ext H H' → SqT K H' t (cs.map V.int) → (∀ r, pvl cs r = pvl ns r) → cs.getLast? ≠ some 0 → (∀ c ∈ cs, c ∈ ns) → cs.length ≤ ns.length → Q (.ref t) H'
def sp_trimmed (K : PySem.W.Frag) : Sp := fun vs H Q E => sp_trimmedL K vs H Q E ∨ sp_trimmedT K vs H Q E
def rd_trimmed (K : PySem.W.Frag) : TS := tSeq (tAsg (tCB (Evl.rLenS K) (tCons (tVar 0) (tNil))) (gName 1)) (tSeq (tWhile (tAnd (tTest (tOp FW.rGt (tVar 1) (tC (.int 0)))) (tTest (tOp rEq (tOp (rIx K) (tVar 0) (tOp FW.rSub (tVar 1) (tC (.int 1)))) (tC (.int 0))))) (rd_trimmed_L1 K)) (tRet (tCB (FW.rTupS K) (tCons (FW.tEither (tSl (rSlL K) (tVar 0) (tNoPart) (tPart (tVar 1))) (tSl (rSlA K) (tVar 0) (tNoPart) (tPart (tVar 1)))) (tNil)))))
theorem cut_take (ns : List Int) (m : Nat) : cutV (ns.map V.int) none (some (m : Int)) = (ns.take m).map V.int := by
  unfold cutV
  rw [HT.sIx_none, HT.sIx_nat]
  rw [List.drop_zero, List.length_map, Nat.sub_zero, List.map_take]
  rcases Nat.le_total m ns.length with h | h
  · rw [Nat.min_eq_left h]
  · rw [Nat.min_eq_right h, List.take_of_length_le (by simp), List.take_of_length_le (by simpa using h)]
theorem at_int {ns : List Int} {k : Nat} (h : k < ns.length) : atI (ns.map V.int) (k : Int) = some (.int ns[k]) := atI_nat (by simp [h])
theorem e_ixA {K : PySem.W.Frag} {H : Hp} {Q : VK} {a : Addr} {xs : List V} {i : Int} {v : V} (k : Q v H) (h : SqL K H a xs ∨ SqT K H a xs) (ha : atI xs i = some v) : rIx K (.ref a) (.int i) H Q :=
  h.elim (fun h => .inl (e_ixL k h ha)) fun h => .inr (.inl (e_ixT k h ha))
theorem trimmed_gen {K : PySem.W.Frag} {H : Hp} {Q : VK} {a : Addr} {ns : List Int} (hA : SqL K H a (ns.map V.int) ∨ SqT K H a (ns.map V.int))
    (fin0 : ∀ m : Nat, m ≤ ns.length → (∀ c ∈ ns.drop m, c = 0) → (ns.take m).getLast? ≠ some 0 → tRet (tCB (FW.rTupS K) (tCons (FW.tEither (tSl (rSlL K) (tVar 0) (tNoPart) (tPart (tVar 1))) (tSl (rSlA K) (tVar 0) (tNoPart) (tPart (tVar 1)))) (tNil))) { nx := fun _ H' => Q .non H', rt := Q } [some (.ref a), some (.int (m : Int))] H) :
    rd_trimmed K { nx := fun _ H' => Q .non H', rt := Q } (start ["coefficients", "many"] [.ref a]) H := by
  unfold rd_trimmed
  walk_at "rd"
  refine e_len ?_ hA
  walk_at "rd"
  rw [List.length_map]
  refine s_while (fun m σ H' => H' = H ∧ m ≤ ns.length ∧ (∀ c ∈ ns.drop m, c = 0) ∧ σ = [some (.ref a), some (.int (m : Int))]) ns.length ⟨rfl, Nat.le_refl _, by simp, rfl⟩ ?_
  rintro m σ H' ⟨rfl, hm, hz, rfl⟩
  have fin := fin0 m hm hz
  walk_at "rd"
  refine e_ite (fun hpos => ?_) (fun hno => ?_)
  · obtain ⟨k, rfl⟩ : ∃ k, m = k + 1 := ⟨m - 1, by omega⟩
    have hk : k < ns.length := by omega
    walk_at "rd"
    rw [show (((k + 1 : Nat) : Int) - 1) = (k : Int) by omega]
    refine e_ixA ?_ hA (at_int hk)
    walk_at "rd"
    have hd : decide (V.int ns[k] = V.int 0) = decide (ns[k] = 0) := decide_eq_decide.mpr ⟨fun z => by injection z, fun z => by rw [z]⟩
    rw [hd]
    refine e_ite (fun h0 => ?_) (fun h0 => ?_)
    · refine ⟨fun σ' H'' => H'' = H' ∧ k ≤ ns.length ∧ (∀ c ∈ ns.drop k, c = 0) ∧ σ' = [some (.ref a), some (.int (k : Int))], fun σ' H'' h => ⟨k, by omega, h⟩, ?_⟩
      unfold rd_trimmed_L1
      walk_at "rd"
      refine ⟨rfl, by omega, ?_, by rw [show (((k + 1 : Nat) : Int) - 1) = (k : Int) by omega]; rfl⟩
      intro c hc
      rw [List.drop_eq_getElem_cons hk] at hc
      rcases List.mem_cons.mp hc with rfl | hc
      · exact h0
      · exact hz c hc
    · refine fin ?_
      rw [List.getLast?_eq_getElem?, List.length_take, Nat.min_eq_left hm, Nat.add_sub_cancel, List.getElem?_take]
      simp [hk]
      exact h0
  · have : m = 0 := by omega
    subst this
    exact fin (by simp)
theorem pure_trimmed (K : PySem.W.Frag) (vs : List V) (H : Hp) (Q : VK) (E : XK) (h : sp_trimmed K vs H Q E) : rd_trimmed K { nx := fun _ H' => Q .non H', rt := Q } (start ["coefficients", "many"] vs) H := by
  have pvt : ∀ {ns : List Int} {m : Nat}, (∀ c ∈ ns.drop m, c = 0) → ∀ r, pvl (ns.take m) r = pvl ns r := fun {ns m} hz r => by
    have := pv_append (ns.take m) (ns.drop m) r
    rw [List.take_append_drop, pv_zeros hz r] at this
    simp at this
    exact this.symm
  rcases h with ⟨a, ns, rfl, hA, q⟩ | ⟨a, ns, rfl, hA, q⟩
  · refine trimmed_gen (.inl hA) fun m hm hz hl => ?_
    walk_at "rd"
    refine .inl ?_
    refine e_sl ?_
    walk_at "rd"
    refine e_noP ?_
    refine e_part ?_
    walk_at "rd"
    refine e_part' ?_
    refine e_slL (fun p hp => ?_) hA
    rw [cut_take]
    walk_at "rd"
    refine e_tupL (fun t ht => ?_) (SqL.of upd_same)
    have e1 := Ext.new (o := .lst ((ns.take m).map V.int)) hp
    exact q t (ns.take m) _ (e1.non ht) (e1.tr (Ext.new ht)) upd_same (pvt hz) hl (fun c hc => List.mem_of_mem_take hc) (by rw [List.length_take]; omega)
  · refine trimmed_gen (.inr hA) fun m hm hz hl => ?_
    have fin : ∀ (p : Addr) (H' : Hp), Ext H H' → SqT K H' p ((ns.take m).map V.int) → tCB (FW.rTupS K) (tCons (tC (.ref p)) tNil) [] H' Q := fun p H' e h => by
      walk_at "rd"
      exact ⟨p, _, rfl, .inr ⟨h, q p (ns.take m) H' e h (pvt hz) hl (fun c hc => List.mem_of_mem_take hc) (by rw [List.length_take]; omega)⟩⟩
    walk_at "rd"
    refine .inr ?_
    refine e_sl ?_
    walk_at "rd"
    refine e_noP ?_
    refine e_part ?_
    walk_at "rd"
    refine e_part' ?_
    refine ⟨a, _, rfl, hA, fun z => ?_, fun z p hp => ?_⟩
    · walk_at "rd"
      refine fin a H Ext.rfl' ?_
      have z2 := z.2
      rw [HT.sIx_nat, List.length_map] at z2
      have hml : ns.length ≤ m := by omega
      rw [List.take_of_length_le hml]; exact hA
    · rw [cut_take]
      walk_at "rd"
      exact fin p _ (Ext.new hp) (SqT.of upd_same)
/-! the value of a polynomial -/
theorem pv_sz : ∀ (cs : List Int) (r : Int) (b : Nat), (∀ c ∈ cs, Sz b c) → Sz b r → Sz (cs.length * (b + 1)) (pvl cs r)
  | [], r, b, _, _ => by show Sz (0 * (b + 1)) 0; rw [Nat.zero_mul]; decide
  | c :: cs, r, b, h, hr => by
    have ih := pv_sz cs r b (fun c hc => h c (List.mem_cons_of_mem _ hc)) hr
    have hm := Sz.mul hr ih
    have hc := h c List.mem_cons_self
    have e : (c :: cs).length * (b + 1) = (b + cs.length * (b + 1)) + 1 := by rw [List.length_cons, Nat.add_mul]; omega
    rw [e, pvl]
    exact (hc.mono (by omega)).add hm
def sp_poly_value (K : PySem.W.Frag) : Sp := fun vs H Q _ => ∃ (a : Addr) (ns : List Int) (r : Int) (b : Nat), vs = [.ref a, .int r] ∧ SqA K H a (ns.map V.int) ∧ (∀ c ∈ ns, Sz b c) ∧ Sz b r ∧ (ns.length + 2) * (b + 1) ≤ 900000 ∧
  ∀ H', Ext H H' → Q (.int (pvl ns r)) H'
def rd_poly_value_L1 (K : PySem.W.Frag) : TS := tAsg (tOp FW.rAdd (tOp FW.rMul (tVar 2) (tVar 1)) (tVar 3)) (gName 2)
def rd_poly_value (K : PySem.W.Frag) : TS := tSeq (tAsg (tC (.int 0)) (gName 2)) (tSeq (tFor (FW.iEither (iList K (FW.tEither (tRevL K (tVar 0)) (FW.tRevT K (tVar 0)))) (iTup K (FW.tEither (tRevL K (tVar 0)) (FW.tRevT K (tVar 0))))) (gName 3) (rd_poly_value_L1 K)) (tRet (tVar 2)))
theorem take_succ' {xs : List Int} {i : Nat} {x : Int} (h : xs[i]? = some x) : xs.take (i + 1) = xs.take i ++ [x] := by
  rw [List.take_add_one, h]; rfl
theorem rev_take {ns : List Int} {i : Nat} {x : Int} (h : ns.reverse[i]? = some x) : (ns.reverse.take (i + 1)).reverse = x :: (ns.reverse.take i).reverse := by
  rw [take_succ' h, List.reverse_append]; rfl
theorem rev_all {ns : List Int} {n : Nat} (h : n = ns.length) : (ns.reverse.take n).reverse = ns := by
  rw [h, List.take_of_length_le (by simp), List.reverse_reverse]
theorem int_at {ns : List Int} {i : Nat} {x : V} (h : (ns.map V.int).reverse[i]? = some x) : ∃ c, x = .int c ∧ ns.reverse[i]? = some c := by
  rw [← List.map_reverse, List.getElem?_map] at h
  cases e : ns.reverse[i]? with
  | none => rw [e] at h; cases h
  | some c => rw [e] at h; cases h; exact ⟨c, rfl, rfl⟩
theorem pure_poly_value (K : PySem.W.Frag) (vs : List V) (H : Hp) (Q : VK) (E : XK) (h : sp_poly_value K vs H Q E) : rd_poly_value K { nx := fun _ H' => Q .non H', rt := Q } (start ["poly", "r", "found", "coefficient"] vs) H := by
  obtain ⟨a, ns, r, b, rfl, hA, hc, hr, hsz, q⟩ := h
  unfold rd_poly_value
  walk_at "rd"
  have main : ∀ p o H1, H p = none → (o = HO.lst (ns.map V.int).reverse ∨ o = HO.tup (ns.map V.int).reverse) → H1 = upd H p o → ∃ Pv : Nat → L2.St → Hp → Prop, Pv 0 [some (.ref a), some (.int r), some (.int 0), none] H1 ∧ (∀ i σ H', Pv i σ H' → H' = H1) ∧
      (∀ i x σ H', (ns.map V.int).reverse[i]? = some x → Pv i σ H' → gName 3 x σ H' fun σ2 H2 => rd_poly_value_L1 K { nx := Pv (i + 1), ct := Pv (i + 1), bk := fun σ' H' => tRet (tVar 2) { nx := fun _ H' => Q .non H', rt := Q } σ' H', rt := Q } σ2 H2) ∧
      (∀ σ H', Pv (ns.map V.int).reverse.length σ H' → tRet (tVar 2) { nx := fun _ H' => Q .non H', rt := Q } σ H') := by
    intro p o H1 hp ho e1
    refine ⟨fun i σ H' => H' = H1 ∧ i ≤ ns.length ∧ ∃ v, σ = [some (.ref a), some (.int r), some (.int (pvl (ns.reverse.take i).reverse r)), v], ⟨rfl, Nat.zero_le _, none, rfl⟩, fun _ _ _ h => h.1, ?_, ?_⟩
    · rintro i x σ H' hx ⟨rfl, hi, v, rfl⟩
      obtain ⟨c, rfl, hci⟩ := int_at hx
      have hlt : i < ns.length := by
        have := (List.getElem?_eq_some_iff.mp hci).1
        simpa using this
      unfold rd_poly_value_L1
      walk_at "rd"
      · refine ⟨rfl, by omega, some (.int c), ?_⟩
        rw [rev_take hci, pvl]
        rw [show pvl (ns.reverse.take i).reverse r * r + c = c + r * pvl (ns.reverse.take i).reverse r by grind]
        rfl
      · have hs := pv_sz (ns.reverse.take i).reverse r b (fun c hc' => hc c (by
          have := List.mem_reverse.mp hc'
          exact List.mem_reverse.mp (List.mem_of_mem_take this))) hr
        have hlen : (ns.reverse.take i).reverse.length = i := by simp; omega
        rw [hlen] at hs
        have h1 : (i + 1) * (b + 1) ≤ (ns.length + 1) * (b + 1) := Nat.mul_le_mul_right _ (by omega)
        have h2 : (ns.length + 2) * (b + 1) = (ns.length + 1) * (b + 1) + (b + 1) := by rw [Nat.add_mul (ns.length + 1) 1, Nat.one_mul]
        have h3 : (i + 1) * (b + 1) = i * (b + 1) + (b + 1) := by rw [Nat.add_mul, Nat.one_mul]
        refine wide_mul (a := i * (b + 1) + 1) (b := b + 1) (hs.mono (by omega)) (hr.mono (by omega)) (by omega) (by omega) (by omega)
    · rintro σ H' ⟨rfl, _, v, rfl⟩
      walk_at "rd"
      rw [rev_all (by simp)]
      rw [e1]
      exact q _ (Ext.new hp)
  have hl0 : [some (V.ref a), some (V.int r), some (V.int 0), (none : Option V)][0]? = some (some (.ref a)) := rfl
  rcases hA with hA | hA
  · refine Or.inl (i_list (Or.inl ⟨_, hl0, a, _, rfl, hA, fun p hp => ?_⟩))
    obtain ⟨Pv, h0, hk, hs, hd⟩ := main p _ _ hp (.inl rfl) rfl
    refine i_list' _ ?_ (SqL.of upd_same)
    exact for_list (xs := (ns.map V.int).reverse) Pv h0 (fun i σ H' _ p => by rw [hk i σ H' p]; exact SqL.of upd_same) hs hd
  · refine Or.inr (i_tup (Or.inr ⟨_, hl0, a, _, rfl, hA, fun p hp => ?_⟩))
    obtain ⟨Pv, h0, hk, hs, hd⟩ := main p _ _ hp (.inr rfl) rfl
    refine i_tup' _ ?_ (SqT.of upd_same)
    exact for_tup (xs := (ns.map V.int).reverse) Pv h0 (fun i σ H' _ p => by rw [hk i σ H' p]; exact SqT.of upd_same) hs hd
end FWL
namespace FWL
open PySem PySem.Spec PyProof.Rows L2 FW
/-! ### sums -/
def pad (ns : List Int) (m : Nat) : List Int := ns ++ List.replicate (m - ns.length) 0
theorem pad_len {ns : List Int} {m : Nat} (h : ns.length ≤ m) : (pad ns m).length = m := by simp [pad]; omega
theorem pv_pad (ns : List Int) (m : Nat) (r : Int) : pvl (pad ns m) r = pvl ns r := by
  rw [pad, pv_append, pv_zeros (xs := List.replicate (m - ns.length) 0) (fun c hc => List.eq_of_mem_replicate hc)]; simp
def addL (ns ms : List Int) : List Int := List.zipWith (· + ·) (pad ns (max ns.length ms.length)) (pad ms (max ns.length ms.length))
theorem pv_addL (ns ms : List Int) (r : Int) : pvl (addL ns ms) r = pvl ns r + pvl ms r := by
  rw [addL, pv_zip _ _ (by rw [pad_len (by omega), pad_len (by omega)]), pv_pad, pv_pad]
theorem addL_len (ns ms : List Int) : (addL ns ms).length = max ns.length ms.length := by
  rw [addL, List.length_zipWith, pad_len (by omega), pad_len (by omega)]; omega
theorem addL_sz {ns ms : List Int} {b : Nat} (h1 : ∀ c ∈ ns, Sz b c) (h2 : ∀ c ∈ ms, Sz b c) : ∀ c ∈ addL ns ms, Sz (b + 1) c := by
  have hp : ∀ (xs : List Int) m, (∀ c ∈ xs, Sz b c) → ∀ c ∈ pad xs m, Sz b c := by
    intro xs m h c hc
    rcases List.mem_append.mp hc with hc | hc
    · exact h c hc
    · rw [List.eq_of_mem_replicate hc]; exact Nat.pow_pos (by decide)
  intro c hc
  obtain ⟨i, hi, rfl⟩ := List.getElem_of_mem hc
  simp only [addL, List.getElem_zipWith]
  exact (hp _ _ h1 _ (List.getElem_mem _)).add (hp _ _ h2 _ (List.getElem_mem _))
def sp_poly_sum (K : PySem.W.Frag) : Sp := fun vs H Q _ => ∃ (a b : Addr) (ns ms : List Int), vs = [.ref a, .ref b] ∧ SqA K H a (ns.map V.int) ∧ SqA K H b (ms.map V.int) ∧ ns.length ≤ 100 ∧ ms.length ≤ 100 ∧
  ∀ t cs H', H t = none → Ext H H' → H' t = some (.tup (cs.map V.int)) → (∀ r, pvl cs r = pvl ns r + pvl ms r) → cs.getLast? ≠ some 0 → (∀ c ∈ cs, c ∈ addL ns ms) → cs.length ≤ max ns.length ms.length → Q (.ref t) H'
def rd_poly_sum (K : PySem.W.Frag) : TS := tSeq (tAsg (tCB FW.rMax2 (tCons (tCB (Evl.rLenS K) (tCons (tVar 0) (tNil))) (tCons (tCB (Evl.rLenS K) (tCons (tVar 1) (tNil))) (tNil)))) (gName 2)) (tSeq (tAsg (tOp rCat (tCB (Evl.rListS K) (tCons (tVar 0) (tNil))) (tOp rRep (tLst (tCons (tC (.int 0)) (tNil))) (tOp FW.rSub (tVar 2) (tCB (Evl.rLenS K) (tCons (tVar 0) (tNil)))))) (gName 3)) (tSeq (tAsg (tOp rCat (tCB (Evl.rListS K) (tCons (tVar 1) (tNil))) (tOp rRep (tLst (tCons (tC (.int 0)) (tNil))) (tOp FW.rSub (tVar 2) (tCB (Evl.rLenS K) (tCons (tVar 1) (tNil)))))) (gName 4)) (tRet (tCall (sp_trimmed K) [] E0 (tCons (tLc (iZip K (tCons (tVar 3) (tCons (tVar 4) (tNil)))) (gTup K 2 (gCons (gName 5) (gCons (gName 6) (gNil)))) (tYes) (tOp FW.rAdd (tVar 5) (tVar 6)) [5, 6]) (tNil))))))
theorem map_pad (ns : List Int) (m : Nat) : (pad ns m).map V.int = ns.map V.int ++ List.replicate (m - ns.length) (V.int 0) := by simp [pad]
theorem map_at {xs : List Int} {i : Nat} {v : V} (h : (xs.map V.int)[i]? = some v) : ∃ c, v = .int c ∧ xs[i]? = some c := by
  rw [List.getElem?_map] at h
  cases e : xs[i]? with
  | none => rw [e] at h; cases h
  | some c => rw [e] at h; cases h; exact ⟨c, rfl, rfl⟩
theorem zip_take {xs ys : List Int} {i : Nat} {x y : Int} (h1 : xs[i]? = some x) (h2 : ys[i]? = some y) : (List.zipWith (· + ·) xs ys).take (i + 1) = (List.zipWith (· + ·) xs ys).take i ++ [x + y] := by
  refine take_succ' ?_
  rw [List.getElem?_zipWith, h1, h2]
theorem pure_poly_sum (K : PySem.W.Frag) (vs : List V) (H : Hp) (Q : VK) (E : XK) (h : sp_poly_sum K vs H Q E) : rd_poly_sum K { nx := fun _ H' => Q .non H', rt := Q } (start ["one", "other", "many", "first", "second", "x", "y"] vs) H := by
  obtain ⟨a, b, ns, ms, rfl, hA, hB, hn, hm, q⟩ := h
  unfold rd_poly_sum
  walk_at "rd"
  refine e_len ?_ hA
  walk_at "rd"
  refine e_len ?_ hB
  walk_at "rd"
  rw [List.length_map, List.length_map]
  have hmx : (if (ms.length : Int) > (ns.length : Int) then (ms.length : Int) else (ns.length : Int)) = ((max ns.length ms.length : Nat) : Int) := by
    split <;> omega
  rw [hmx]
  have hmx1 : max ns.length ms.length ≤ 100 := by omega
  have hmxn : ns.length ≤ max ns.length ms.length := by omega
  have hmxm : ms.length ≤ max ns.length ms.length := by omega
  have eaddL : addL ns ms = List.zipWith (· + ·) (pad ns (max ns.length ms.length)) (pad ms (max ns.length ms.length)) := rfl
  generalize max ns.length ms.length = mx at *
  refine e_listS (fun p1 h1 => ?_) hA
  walk_at "rd"
  refine ⟨by show 1 ≤ sizeLine; decide, fun p2 h2 => ?_⟩
  walk_at "rd"
  have e1 : Ext H (upd (upd H p1 (.lst (ns.map V.int))) p2 (.lst [V.int 0])) := (Ext.new h1).tr (Ext.new h2)
  refine e_len ?_ (hA.ext e1)
  walk_at "rd"
  rw [List.length_map]
  refine e_rep (fun p3 h3 => ?_) upd_same (by omega) (by omega)
  have g1 : (upd (upd (upd H p1 (.lst (ns.map V.int))) p2 (.lst [V.int 0])) p3 (.lst (List.replicate ((mx : Int) - (ns.length : Int)).toNat (V.int 0)))) p1 = some (.lst (ns.map V.int)) := (Ext.new h3) _ _ ((Ext.new h2) _ _ upd_same)
  refine e_cat (fun p4 h4 => ?_) g1 upd_same (by rw [List.length_map, List.length_replicate]; show _ ≤ 2 ^ 24; omega)
  have e4 : Ext H (upd (upd (upd (upd H p1 (.lst (ns.map V.int))) p2 (.lst [V.int 0])) p3 (.lst (List.replicate ((mx : Int) - (ns.length : Int)).toNat (V.int 0)))) p4 (.lst (ns.map V.int ++ List.replicate ((mx : Int) - (ns.length : Int)).toNat (V.int 0)))) := e1.tr ((Ext.new h3).tr (Ext.new h4))
  have g4 : (upd (upd (upd (upd H p1 (.lst (ns.map V.int))) p2 (.lst [V.int 0])) p3 (.lst (List.replicate ((mx : Int) - (ns.length : Int)).toNat (V.int 0)))) p4 (.lst (ns.map V.int ++ List.replicate ((mx : Int) - (ns.length : Int)).toNat (V.int 0)))) p4 = some (.lst ((pad ns mx).map V.int)) := by
    rw [map_pad, show mx - ns.length = ((mx : Int) - (ns.length : Int)).toNat by omega]; exact upd_same
  generalize upd (upd (upd (upd H p1 (.lst (ns.map V.int))) p2 (.lst [V.int 0])) p3 (.lst (List.replicate ((mx : Int) - (ns.length : Int)).toNat (V.int 0)))) p4 (.lst (ns.map V.int ++ List.replicate ((mx : Int) - (ns.length : Int)).toNat (V.int 0))) = H4 at *
  clear h1 h2 h3 h4 g1 e1
  walk_at "rd"
  refine e_listS (fun p1 h1 => ?_) (hB.ext e4)
  walk_at "rd"
  refine ⟨by show 1 ≤ sizeLine; decide, fun p2 h2 => ?_⟩
  walk_at "rd"
  have e1 : Ext H4 (upd (upd H4 p1 (.lst (ms.map V.int))) p2 (.lst [V.int 0])) := (Ext.new h1).tr (Ext.new h2)
  refine e_len ?_ ((hB.ext e4).ext e1)
  walk_at "rd"
  rw [List.length_map]
  refine e_rep (fun p3 h3 => ?_) upd_same (by omega) (by omega)
  have g1 : (upd (upd (upd H4 p1 (.lst (ms.map V.int))) p2 (.lst [V.int 0])) p3 (.lst (List.replicate ((mx : Int) - (ms.length : Int)).toNat (V.int 0)))) p1 = some (.lst (ms.map V.int)) := (Ext.new h3) _ _ ((Ext.new h2) _ _ upd_same)
  refine e_cat (fun p5 h4 => ?_) g1 upd_same (by rw [List.length_map, List.length_replicate]; show _ ≤ 2 ^ 24; omega)
  have e5 : Ext H4 (upd (upd (upd (upd H4 p1 (.lst (ms.map V.int))) p2 (.lst [V.int 0])) p3 (.lst (List.replicate ((mx : Int) - (ms.length : Int)).toNat (V.int 0)))) p5 (.lst (ms.map V.int ++ List.replicate ((mx : Int) - (ms.length : Int)).toNat (V.int 0)))) := e1.tr ((Ext.new h3).tr (Ext.new h4))
  have g5 : (upd (upd (upd (upd H4 p1 (.lst (ms.map V.int))) p2 (.lst [V.int 0])) p3 (.lst (List.replicate ((mx : Int) - (ms.length : Int)).toNat (V.int 0)))) p5 (.lst (ms.map V.int ++ List.replicate ((mx : Int) - (ms.length : Int)).toNat (V.int 0)))) p5 = some (.lst ((pad ms mx).map V.int)) := by
    rw [map_pad, show mx - ms.length = ((mx : Int) - (ms.length : Int)).toNat by omega]; exact upd_same
  generalize upd (upd (upd (upd H4 p1 (.lst (ms.map V.int))) p2 (.lst [V.int 0])) p3 (.lst (List.replicate ((mx : Int) - (ms.length : Int)).toNat (V.int 0)))) p5 (.lst (ms.map V.int ++ List.replicate ((mx : Int) - (ms.length : Int)).toNat (V.int 0))) = H5 at *
  have e45 := e4.tr e5
  have g4' := e5 _ _ g4
  clear h1 h2 h3 h4 g1 e1 g4
  walk_at "rd"
  refine i_zip ?_
  walk_at "rd"
  refine ⟨p4, p5, _, _, rfl, SqL.of g4', SqL.of g5, ?_⟩
  intro D hD
  have l1 := pad_len hmxn
  have l2 := pad_len hmxm
  have hne4 : p4 ≠ D := (ne_of_none g4' hD)
  have hne5 : p5 ≠ D := (ne_of_none g5 hD)
  have lz : (List.zipWith (· + ·) (pad ns mx) (pad ms mx)).length = mx := by rw [List.length_zipWith]; omega
  refine lc_it (walk_zip (K := K) (a := p4) (b := p5) (xs := (pad ns mx).map V.int) (ys := (pad ms mx).map V.int) (n := mx) (by rw [List.length_map, List.length_map]; omega))
    (fun i H' => i ≤ mx ∧ (∀ c o, c ≠ D → H5 c = some o → H' c = some o) ∧ H' D = some (.lst (((List.zipWith (· + ·) (pad ns mx) (pad ms mx)).take i).map V.int))) ⟨Nat.zero_le _, fun c o hc e => by rw [upd_ne hc]; exact e, upd_same⟩
    (fun i H' _ p => ⟨SqL.of (p.2.1 _ _ hne4 g4'), SqL.of (p.2.1 _ _ hne5 g5)⟩) ?_ ?_
  · rintro i v H' H'' hi ⟨hle, hk, hDD⟩ ⟨T, x, y, rfl, hT, rfl, hx, hy⟩
    obtain ⟨cx, rfl, hcx⟩ := map_at hx
    obtain ⟨cy, rfl, hcy⟩ := map_at hy
    refine g_tup ?_ (SqT.of upd_same) rfl
    have hTD : D ≠ T := ne_of_none hDD hT
    walk_at "rd"
    refine ⟨rfl, ?_⟩
    walk_at "rd"
    refine ⟨_, by rw [upd_ne hTD]; exact hDD, ?_, by omega, fun c o hc e => ?_, ?_⟩
    · rw [List.length_map, List.length_take, lz]; show _ < 2 ^ 24; omega
    · rw [upd_ne hc, upd_ne (ne_of_none (hk c o hc e) hT)]; exact hk c o hc e
    · rw [upd_same, zip_take hcx hcy, List.map_append]; rfl
  · rintro H' ⟨_, hk, hDD⟩
    walk_at "rd"
    rw [List.take_of_length_le (by omega)] at hDD
    refine .inl ⟨D, _, rfl, SqL.of hDD, fun t cs H'' ht e hH hpv hlast hmem hlen => ?_⟩
    have e6 : Ext H H' := fun c o q => hk c o (ne_of_none (e45 c o q) hD) (e45 c o q)
    refine q t cs H'' (e6.non ht) (e6.tr e) hH (fun r => ?_) hlast (fun c hc => by rw [eaddL]; exact hmem c hc) (by omega)
    rw [hpv r, pv_zip _ _ (by omega), pv_pad, pv_pad]
end FWL
namespace FWL
open PySem PySem.Spec PyProof.Rows L2 FW
/-! ### products -/
def sp_poly_product (K : PySem.W.Frag) : Sp := fun vs H Q _ => ∃ (a b : Addr) (ns ms : List Int) (p q' : Nat), vs = [.ref a, .ref b] ∧ SqA K H a (ns.map V.int) ∧ SqA K H b (ms.map V.int) ∧ ns.length ≤ 100 ∧ ms.length ≤ 100 ∧ (∀ c ∈ ns, Sz p c) ∧ (∀ c ∈ ms, Sz q' c) ∧ p + q' ≤ 100000 ∧
  ∀ t cs H', H t = none → Ext H H' → H' t = some (.tup (cs.map V.int)) → (∀ r, pvl cs r = pvl ns r * pvl ms r) → cs.getLast? ≠ some 0 → (∀ c ∈ cs, c.natAbs ≤ ns.length * ms.length * 2 ^ (p + q')) → cs.length ≤ ns.length + ms.length → Q (.ref t) H'
def rd_poly_product_L1 (K : PySem.W.Frag) : TS := tAugS (tVar 2) (tOp FW.rAdd (tVar 3) (tVar 5)) (tOp FW.rMul (tVar 4) (tVar 6)) (rIxL K) FW.iAdd rSetL
def rd_poly_product_L2 (K : PySem.W.Frag) : TS := tFor (FW.iEither (iEnum K (tCons (tVar 1) (tNil))) (FW.iEnumT K (tCons (tVar 1) (tNil)))) (gTup K 2 (gCons (gName 5) (gCons (gName 6) (gNil)))) (rd_poly_product_L1 K)
def rd_poly_product (K : PySem.W.Frag) : TS := tSeq (tAsg (tOp rRep (tLst (tCons (tC (.int 0)) (tNil))) (tOp FW.rAdd (tCB (Evl.rLenS K) (tCons (tVar 0) (tNil))) (tCB (Evl.rLenS K) (tCons (tVar 1) (tNil))))) (gName 2)) (tSeq (tFor (FW.iEither (iEnum K (tCons (tVar 0) (tNil))) (FW.iEnumT K (tCons (tVar 0) (tNil)))) (gTup K 2 (gCons (gName 3) (gCons (gName 4) (gNil)))) (rd_poly_product_L2 K)) (tRet (tCall (sp_trimmed K) [] E0 (tCons (tVar 2) (tNil)))))
theorem set_map (cur : List Int) (k : Nat) (c : Int) : (cur.map V.int).set k (.int c) = (cur.set k c).map V.int := by rw [List.map_set]
theorem pv_take1 {xs : List Int} {i : Nat} {x : Int} (h : xs[i]? = some x) (r : Int) : pvl (xs.take (i + 1)) r = pvl (xs.take i) r + x * r ^ i := by
  have hi := (List.getElem?_eq_some_iff.mp h).1
  rw [take_succ' h, pv_append, List.length_take, Nat.min_eq_left (by omega)]
  simp only [pvl]
  grind
theorem mem_set_le {cur : List Int} {k : Nat} {c : Int} {B : Nat} (h : ∀ z ∈ cur, z.natAbs ≤ B) (hc : c.natAbs ≤ B) : ∀ z ∈ cur.set k c, z.natAbs ≤ B := fun z hz => by
  rcases List.mem_or_eq_of_mem_set hz with h' | rfl
  · exact h z h'
  · exact hc
theorem pure_poly_product (K : PySem.W.Frag) (vs : List V) (H : Hp) (Q : VK) (E : XK) (h : sp_poly_product K vs H Q E) : rd_poly_product K { nx := fun _ H' => Q .non H', rt := Q } (start ["one", "other", "found", "i", "x", "j", "y"] vs) H := by
  obtain ⟨a, b, ns, ms, p, q', rfl, hA, hB, hn, hm, hcn, hcm, hpq, q⟩ := h
  unfold rd_poly_product
  walk_at "rd"
  refine ⟨by show 1 ≤ sizeLine; decide, fun p2 h2 => ?_⟩
  have e2 : Ext H (upd H p2 (.lst [V.int 0])) := Ext.new h2
  walk_at "rd"
  refine e_len ?_ (hA.ext e2)
  walk_at "rd"
  refine e_len ?_ (hB.ext e2)
  walk_at "rd"
  rw [List.length_map, List.length_map]
  refine e_rep (fun F hF => ?_) upd_same (by omega) (by omega)
  have hFn : H F = none := e2.non hF
  have e3 : Ext H (upd (upd H p2 (.lst [V.int 0])) F (.lst (List.replicate ((ns.length : Int) + (ms.length : Int)).toNat (V.int 0)))) := e2.tr (Ext.new hF)
  have hF3 : (upd (upd H p2 (.lst [V.int 0])) F (.lst (List.replicate ((ns.length : Int) + (ms.length : Int)).toNat (V.int 0)))) F = some (.lst ((List.replicate (ns.length + ms.length) (0 : Int)).map V.int)) := by
    rw [upd_same, List.map_replicate, show ((ns.length : Int) + (ms.length : Int)).toNat = ns.length + ms.length by omega]
  generalize upd (upd H p2 (.lst [V.int 0])) F (.lst (List.replicate ((ns.length : Int) + (ms.length : Int)).toNat (V.int 0))) = H3 at *
  refine s_seq ?_
  refine for_enumA (H0 := H) (xs := ns.map V.int) (fun i σ H' => Ext H H' ∧ i ≤ ns.length ∧ ∃ (cur : List Int) (v3 v4 v5 v6 : Option V), H' F = some (.lst (cur.map V.int)) ∧ cur.length = ns.length + ms.length ∧ (∀ r, pvl cur r = pvl (ns.take i) r * pvl ms r) ∧ (∀ c ∈ cur, c.natAbs ≤ i * ms.length * 2 ^ (p + q')) ∧ σ = [some (.ref a), some (.ref b), some (.ref F), v3, v4, v5, v6])
    rfl hA ⟨e3, Nat.zero_le _, _, _, _, _, _, hF3, by simp, fun r => ?_, fun c hc => ?_, rfl⟩ (fun _ _ _ h => h.1) ?_ ?_
  · rw [pv_zeros (fun c hc => List.eq_of_mem_replicate hc)]; simp [pvl]
  · rw [List.eq_of_mem_replicate hc]; simp
  · rintro i x σ H' T hx ⟨e, hi, cur, v3, v4, v5, v6, hF', hlen, hpv, hbd, rfl⟩ hT
    obtain ⟨cx, rfl, hcx⟩ := map_at hx
    have hi' := (List.getElem?_eq_some_iff.mp hcx).1
    have hcxs : Sz p cx := hcn cx (List.mem_of_getElem? hcx)
    refine g_tup ?_ (SqT.of upd_same) rfl
    walk_at "re"
    unfold rd_poly_product_L2
    have hTF : F ≠ T := ne_of_none hF' hT
    refine for_enumA (H0 := H) (xs := ms.map V.int) (fun j σ H' => Ext H H' ∧ j ≤ ms.length ∧ ∃ (cur : List Int) (v5 v6 : Option V), H' F = some (.lst (cur.map V.int)) ∧ cur.length = ns.length + ms.length ∧ (∀ r, pvl cur r = pvl (ns.take i) r * pvl ms r + cx * r ^ i * pvl (ms.take j) r) ∧ (∀ c ∈ cur, c.natAbs ≤ (i * ms.length + j) * 2 ^ (p + q')) ∧ σ = [some (.ref a), some (.ref b), some (.ref F), some (.int (i : Nat)), some (.int cx), v5, v6])
      rfl hB ⟨e.tr (Ext.new hT), Nat.zero_le _, cur, _, _, by rw [upd_ne hTF]; exact hF', hlen, fun r => ?_, fun c hc => ?_, rfl⟩ (fun _ _ _ h => h.1) ?_ ?_
    · rw [hpv r]; simp [pvl]
    · simpa using hbd c hc
    · rintro j y σ H2 T2 hy ⟨e2, hj, cur, v5, v6, hF2, hlen, hpv, hbd, rfl⟩ hT2
      obtain ⟨cy, rfl, hcy⟩ := map_at hy
      have hj' := (List.getElem?_eq_some_iff.mp hcy).1
      have hcys : Sz q' cy := hcm cy (List.mem_of_getElem? hcy)
      refine g_tup ?_ (SqT.of upd_same) rfl
      walk_at "re"
      have hT2F : F ≠ T2 := ne_of_none hF2 hT2
      have hF3 : (upd H2 T2 (.tup [.int (j : Nat), .int cy])) F = some (.lst (cur.map V.int)) := by rw [upd_ne hT2F]; exact hF2
      have e3 : Ext H (upd H2 T2 (.tup [.int (j : Nat), .int cy])) := e2.tr (Ext.new hT2)
      generalize upd H2 T2 (.tup [.int (j : Nat), .int cy]) = H4 at *
      have hij : i + j < cur.length := by omega
      unfold rd_poly_product_L1
      refine s_augS ?_
      walk_at "rd"
      rw [show ((i : Int) + (j : Int)) = ((i + j : Nat) : Int) by omega]
      refine e_ixL ?_ (SqL.of hF3) (at_int hij)
      walk_at "rd"
      · refine e_setL (m := i + j) ?_ hF3 ?_
        · refine ⟨e3.upds hFn, by omega, cur.set (i + j) (cur[i + j] + cx * cy), _, _, by rw [upd_same, set_map], by simpa using hlen, fun r => ?_, ?_, rfl⟩
          · rw [pv_set _ _ _ _ _ (List.getElem?_eq_getElem hij), hpv r, pv_take1 hcy r]
            have : r ^ (i + j) = r ^ i * r ^ j := Int.pow_add ..
            rw [this]; grind
          · refine mem_set_le (fun z hz => Nat.le_trans (hbd z hz) (Nat.mul_le_mul_right _ (by omega))) ?_
            have h1 := hbd _ (List.getElem_mem hij)
            have h2 : (cx * cy).natAbs < 2 ^ (p + q') := hcxs.mul hcys
            have h3 : (i * ms.length + (j + 1)) * 2 ^ (p + q') = (i * ms.length + j) * 2 ^ (p + q') + 2 ^ (p + q') := by rw [← Nat.add_assoc, Nat.add_mul (i * ms.length + j) 1, Nat.one_mul]
            omega
        · show ixN (cur.map V.int).length ((i + j : Nat) : Int) = some (i + j)
          rw [List.length_map]
          exact Evl.ixN_nat hij
      · exact wide_mul (a := p + 1) (b := q' + 1) (hcxs.mono (by omega)) (hcys.mono (by omega)) (by omega) (by omega) (by omega)
    · rintro σ H2 ⟨e2, hj, cur, v5, v6, hF2, hlen, hpv, hbd, rfl⟩
      refine ⟨e2, by omega, cur, _, _, _, _, hF2, hlen, fun r => ?_, fun c hc => ?_, rfl⟩
      · rw [List.length_map] at hpv
        have e := hpv r
        rw [List.take_of_length_le (l := ms) (Nat.le_refl _)] at e
        rw [e, pv_take1 hcx r]; grind
      · have := hbd c hc
        rw [List.length_map] at this
        rw [Nat.add_mul i 1, Nat.one_mul]; exact this
  · rintro σ H' ⟨e, hi, cur, v3, v4, v5, v6, hF', hlen, hpv, hbd, rfl⟩
    walk_at "rd"
    rw [List.length_map] at hpv hbd
    refine .inl ⟨F, cur, rfl, SqL.of hF', fun t cs H'' ht e' hH hpv' hlast hmem hlen' => ?_⟩
    refine q t cs H'' (e.non ht) (e.tr e') hH (fun r => ?_) hlast (fun c hc => hbd c (hmem c hc)) (by omega)
    rw [hpv' r, hpv r, List.take_of_length_le (Nat.le_refl _)]
/-! ### a polynomial shifted -/
theorem trimLen {cs : List Int} {n m B : Nat} (h : ∀ c ∈ cs, c.natAbs ≤ n * m * 2 ^ B) (hn : n * m < 2 ^ 8) : ∀ c ∈ cs, Sz (B + 8) c := fun c hc => by
  show c.natAbs < 2 ^ (B + 8)
  rw [Nat.pow_add, Nat.mul_comm]
  exact Nat.lt_of_le_of_lt (h c hc) (Nat.mul_lt_mul_of_pos_right hn (Nat.pow_pos (by decide)))
def sp_poly_shift (K : PySem.W.Frag) : Sp := fun vs H Q _ => ∃ (a : Addr) (ns : List Int) (by_ : Int), vs = [.ref a, .int by_] ∧ SqA K H a (ns.map V.int) ∧ ns.length ≤ 10 ∧ (∀ c ∈ ns, Sz 400 c) ∧ Sz 400 by_ ∧
  ∀ t cs H', H t = none → Ext H H' → H' t = some (.tup (cs.map V.int)) → (∀ r, pvl cs r = pvl ns (r + by_)) → cs.getLast? ≠ some 0 → (∀ c ∈ cs, Sz 5000 c) → cs.length ≤ 30 → Q (.ref t) H'
def rd_poly_shift_L1 (K : PySem.W.Frag) : TS := tAsg (tCall (sp_poly_sum K) [] E0 (tCons (tCall (sp_poly_product K) [] E0 (tCons (tVar 2) (tCons (tTup (tCons (tVar 1) (tCons (tC (.int 1)) (tNil)))) (tNil)))) (tCons (tTup (tCons (tVar 3) (tNil))) (tNil)))) (gName 2)
def rd_poly_shift (K : PySem.W.Frag) : TS := tSeq (tAsg (tTup (tNil)) (gName 2)) (tSeq (tFor (FW.iEither (iList K (FW.tEither (tRevL K (tVar 0)) (FW.tRevT K (tVar 0)))) (iTup K (FW.tEither (tRevL K (tVar 0)) (FW.tRevT K (tVar 0))))) (gName 3) (rd_poly_shift_L1 K)) (tRet (tVar 2)))
theorem pure_poly_shift (K : PySem.W.Frag) (vs : List V) (H : Hp) (Q : VK) (E : XK) (h : sp_poly_shift K vs H Q E) : rd_poly_shift K { nx := fun _ H' => Q .non H', rt := Q } (start ["poly", "by", "found", "coefficient"] vs) H := by
  obtain ⟨a, ns, y, rfl, hA, hlen, hc, hy, q⟩ := h
  unfold rd_poly_shift
  walk_at "rd"
  refine ⟨by show 0 ≤ sizeLine; decide, fun f0 hf0 => ?_⟩
  walk_at "rd"
  have e0 : Ext H (upd H f0 (.tup [])) := Ext.new hf0
  have g0 : (upd H f0 (.tup [])) f0 = some (.tup (([] : List Int).map V.int)) := upd_same
  generalize upd H f0 (.tup []) = H0 at *
  have main : ∀ H1, Ext H0 H1 → ∃ Pv : Nat → L2.St → Hp → Prop, Pv 0 [some (.ref a), some (.int y), some (.ref f0), none] H1 ∧ (∀ i σ H', Pv i σ H' → Ext H1 H') ∧
      (∀ i x σ H', (ns.map V.int).reverse[i]? = some x → Pv i σ H' → gName 3 x σ H' fun σ2 H2 => rd_poly_shift_L1 K { nx := Pv (i + 1), ct := Pv (i + 1), bk := fun σ' H' => tRet (tVar 2) { nx := fun _ H' => Q .non H', rt := Q } σ' H', rt := Q } σ2 H2) ∧
      (∀ σ H', Pv (ns.map V.int).reverse.length σ H' → tRet (tVar 2) { nx := fun _ H' => Q .non H', rt := Q } σ H') := by
    intro H1 e1
    refine ⟨fun i σ H' => Ext H1 H' ∧ i ≤ ns.length ∧ ∃ (t : Addr) (cs : List Int) (v : Option V), H t = none ∧ H' t = some (.tup (cs.map V.int)) ∧ (∀ r, pvl cs r = pvl (ns.reverse.take i).reverse (r + y)) ∧ cs.getLast? ≠ some 0 ∧ (∀ c ∈ cs, Sz (420 * i + 401) c) ∧ cs.length ≤ 3 * i ∧ σ = [some (.ref a), some (.int y), some (.ref t), v],
      ⟨Ext.rfl', Nat.zero_le _, f0, [], none, hf0, e1 _ _ g0, fun r => rfl, by simp, by simp, by simp, rfl⟩, fun _ _ _ h => h.1, ?_, ?_⟩
    · rintro i x σ H' hx ⟨e, hi, t, cs, v, htn, ht, hpv, hlast, hsz, hcl, rfl⟩
      obtain ⟨c, rfl, hci⟩ := int_at hx
      have hlt : i < ns.length := by
        have := (List.getElem?_eq_some_iff.mp hci).1
        simpa using this
      have hcs : Sz 400 c := hc c (List.mem_reverse.mp (List.mem_of_getElem? hci))
      unfold rd_poly_shift_L1
      walk_at "rd"
      refine ⟨by show 2 ≤ sizeLine; decide, fun p1 hp1 => ?_⟩
      walk_at "rd"
      have ep1 : Ext H' (upd H' p1 (.tup [V.int y, V.int 1])) := Ext.new hp1
      have gp1 : (upd H' p1 (.tup [V.int y, V.int 1])) p1 = some (.tup ([y, 1].map V.int)) := upd_same
      generalize upd H' p1 (.tup [V.int y, V.int 1]) = H2 at *
      refine ⟨t, p1, cs, [y, 1], 420 * i + 401, 400, rfl, .inr (SqT.of (ep1 _ _ ht)), .inr (SqT.of gp1), by omega, by show 2 ≤ 100; decide, hsz, ?_, by omega, fun t2 cs2 H3 ht2 e3 g3 hpv2 hlast2 hbd2 hl2 => ?_⟩
      · intro c hc'
        simp only [List.mem_cons, List.not_mem_nil, or_false] at hc'
        rcases hc' with rfl | rfl
        · exact hy
        · exact Sz.mono (show Sz 10 1 by decide) (by decide)
      walk_at "rd"
      refine ⟨by show 1 ≤ sizeLine; decide, fun p4 hp4 => ?_⟩
      walk_at "rd"
      have ep4 : Ext H3 (upd H3 p4 (.tup [V.int c])) := Ext.new hp4
      have gp4 : (upd H3 p4 (.tup [V.int c])) p4 = some (.tup ([c].map V.int)) := upd_same
      generalize upd H3 p4 (.tup [V.int c]) = H4 at *
      have hl2' : cs2.length ≤ cs.length + 2 := hl2
      have hbd2' : ∀ c ∈ cs2, c.natAbs ≤ cs.length * 2 * 2 ^ (420 * i + 401 + 400) := hbd2
      have hbds : ∀ c ∈ cs2, Sz (420 * i + 809) c := trimLen hbd2' (by omega)
      refine ⟨t2, p4, cs2, [c], rfl, .inr (SqT.of (ep4 _ _ g3)), .inr (SqT.of gp4), by omega, by show 1 ≤ 100; decide, fun t5 cs5 H5 ht5 e5 g5 hpv5 hlast5 hmem5 hl5 => ?_⟩
      walk_at "rd"
      have hl5' : cs5.length ≤ max cs2.length 1 := hl5
      have eall : Ext H H' := e0.tr (e1.tr e)
      refine ⟨e.tr (ep1.tr (e3.tr (ep4.tr e5))), by omega, t5, cs5, _, (eall.tr (ep1.tr (e3.tr ep4))).non ht5, g5, fun r => ?_, hlast5, fun c' hc' => ?_, by omega, rfl⟩
      · rw [hpv5 r, hpv2 r, hpv r, rev_take hci]
        simp only [pvl]
        grind
      · have := addL_sz (b := 420 * i + 809) hbds (fun z hz => by
          simp only [List.mem_cons, List.not_mem_nil, or_false] at hz
          rw [hz]; exact hcs.mono (by omega)) c' (hmem5 c' hc')
        exact this.mono (by omega)
    · rintro σ H' ⟨e, hi, t, cs, v, htn, ht, hpv, hlast, hsz, hcl, rfl⟩
      walk_at "rd"
      have hlen' : (ns.map V.int).reverse.length = ns.length := by simp
      rw [hlen'] at hpv hsz hcl
      refine q t cs H' htn (e0.tr (e1.tr e)) ht (fun r => ?_) hlast (fun c hc' => (hsz c hc').mono (by omega)) (by omega)
      rw [hpv r, rev_all rfl]
  have hl0 : [some (V.ref a), some (V.int y), some (V.ref f0), (none : Option V)][0]? = some (some (.ref a)) := rfl
  rcases hA with hA | hA
  · refine Or.inl (i_list (Or.inl ⟨_, hl0, a, _, rfl, e0.sqL hA, fun p hp => ?_⟩))
    obtain ⟨Pv, h0, hk, hs, hd⟩ := main (upd H0 p (.lst (ns.map V.int).reverse)) (Ext.new hp)
    refine i_list' _ ?_ (SqL.of upd_same)
    exact for_list (xs := (ns.map V.int).reverse) Pv h0 (fun i σ H' _ p => (hk i σ H' p).sqL (SqL.of upd_same)) hs hd
  · refine Or.inr (i_tup (Or.inr ⟨_, hl0, a, _, rfl, e0.sqT hA, fun p hp => ?_⟩))
    obtain ⟨Pv, h0, hk, hs, hd⟩ := main (upd H0 p (.tup (ns.map V.int).reverse)) (Ext.new hp)
    refine i_tup' _ ?_ (SqT.of upd_same)
    exact for_tup (xs := (ns.map V.int).reverse) Pv h0 (fun i σ H' _ p => (hk i σ H' p).sqT (SqT.of upd_same)) hs hd
end FWL
namespace FWL
open PySem PySem.Spec PyProof.Rows L2 FW

/-! ### the law's own root: the greatest number whose power is at most n -/
def sp_l_root (K : PySem.W.Frag) : Sp := fun vs H Q _ => ∃ n k : Int, vs = [.int n, .int k] ∧ 0 ≤ n ∧ 1 ≤ k ∧ k ≤ 4 ∧ Sz 2000 n ∧ ∀ (r : Int) H', 0 ≤ r → r ^ k.toNat ≤ n → n < (r + 1) ^ k.toNat → Ext H H' → Q (.int r) H'
def rd_l_root_L1 (K : PySem.W.Frag) : TS := tAsg (tOp FW.rMul (tVar 3) (tC (.int 2))) (gName 3)
def rd_l_root_L2 (K : PySem.W.Frag) : TS := tSeq (tAsg (tOp FW.rDiv (tOp FW.rAdd (tVar 2) (tVar 3)) (tC (.int 2))) (gName 4)) (tIfS (tTest (tOp FW.rLe (tCall (sp_l_power K) [] E0 (tCons (tVar 4) (tCons (tVar 1) (tNil)))) (tVar 0))) (tAsg (tVar 4) (gName 2)) (tAsg (tVar 4) (gName 3)))
def rd_l_root (K : PySem.W.Frag) : TS := tSeq (tAsg (tTup (tCons (tC (.int 0)) (tCons (tC (.int 1)) (tNil)))) (gTup K 2 (gCons (gName 2) (gCons (gName 3) (gNil))))) (tSeq (tWhile (tTest (tOp FW.rLe (tCall (sp_l_power K) [] E0 (tCons (tVar 3) (tCons (tVar 1) (tNil)))) (tVar 0))) (rd_l_root_L1 K)) (tSeq (tWhile (tTest (tOp FW.rGt (tOp FW.rSub (tVar 3) (tVar 2)) (tC (.int 1)))) (rd_l_root_L2 K)) (tRet (tVar 2))))
theorem pow_ge_self {x : Int} (h : 1 ≤ x) (n : Nat) (hn : 1 ≤ n) : x ≤ x ^ n := by
  obtain ⟨m, rfl⟩ : ∃ m, n = m + 1 := ⟨n - 1, by omega⟩
  have hp := pow_pos' h m
  rw [Int.pow_succ]
  have : 1 * x ≤ x ^ m * x := Int.mul_le_mul_of_nonneg_right hp (by omega)
  omega
theorem pow_mono {x y : Int} (h0 : 0 ≤ x) (h : x ≤ y) : ∀ n : Nat, x ^ n ≤ y ^ n
  | 0 => by simp
  | n + 1 => by
    have ih := pow_mono h0 h n
    have hx : 0 ≤ x ^ n := Int.pow_nonneg h0
    rw [Int.pow_succ, Int.pow_succ]
    exact Int.mul_le_mul ih h h0 (by omega)
theorem pow_lt_inv {x y : Int} (h0 : 0 ≤ y) {n : Nat} (h : x ^ n < y ^ n) (hx : 0 ≤ x) : x < y := by
  rcases Int.lt_or_le x y with h1 | h1
  · exact h1
  · have := pow_mono h0 h1 n
    omega
theorem pure_l_root (K : PySem.W.Frag) (vs : List V) (H : Hp) (Q : VK) (E : XK) (h : sp_l_root K vs H Q E) : rd_l_root K { nx := fun _ H' => Q .non H', rt := Q } (start ["_law_n", "_law_k", "_law_least", "_law_most", "_law_middle"] vs) H := by
  obtain ⟨n, k, rfl, hn, hk1, hk4, hs, q⟩ := h
  have hnb : n.natAbs < 2 ^ 2000 := hs
  unfold rd_l_root
  walk_at "rd"
  refine ⟨by show 2 ≤ sizeLine; decide, fun q1 hq1 => ?_⟩
  refine g_tup ?_ (SqT.of upd_same) rfl
  have eE := Ext.new (o := .tup [V.int 0, V.int 1]) hq1
  generalize upd H q1 (.tup [V.int 0, V.int 1]) = H at *
  walk_at "rd"
  refine s_while (fun m σ H' => H' = H ∧ ∃ (most : Int) (v : Option V), 1 ≤ most ∧ most ≤ 2 * n + 1 ∧ m = (n + 1 - most).toNat + 1 ∧ σ = [some (.int n), some (.int k), some (.int 0), some (.int most), v]) _ ⟨rfl, 1, none, by decide, by omega, rfl, rfl⟩ ?_
  rintro m σ H' ⟨rfl, most, v, h1, h2, rfl, rfl⟩
  have hms : Sz 2002 most := by
    show most.natAbs < 2 ^ 2002
    rw [show (2 : Nat) ^ 2002 = 4 * 2 ^ 2000 from by rw [Nat.pow_add 2 2000 2, Nat.mul_comm]]
    have : 0 < 2 ^ 2000 := Nat.pow_pos (by decide)
    omega
  walk_at "rd"
  refine ⟨most, k, 2002, rfl, by omega, hms, by decide, ?_, ?_⟩
  · have : k.toNat + 1 ≤ 5 := by omega
    have := Nat.mul_le_mul_right 2002 this
    omega
  walk_at "rd"
  refine e_ite (fun hle => ?_) (fun hgt => ?_)
  · have hself := pow_ge_self h1 k.toNat (by omega)
    refine ⟨fun σ' H'' => ∃ m', m' < (n + 1 - most).toNat + 1 ∧ (H'' = H' ∧ ∃ (most : Int) (v : Option V), 1 ≤ most ∧ most ≤ 2 * n + 1 ∧ m' = (n + 1 - most).toNat + 1 ∧ σ' = [some (.int n), some (.int k), some (.int 0), some (.int most), v]), fun _ _ h => h, ?_⟩
    unfold rd_l_root_L1
    walk_at "rd"
    · exact ⟨_, by omega, rfl, most * 2, v, by omega, by omega, rfl, rfl⟩
    · exact wide_mul hms (b := 10) (by decide) (by decide) (by decide) (by decide)
  · walk_at "rd"
    have h0k : (0 : Int) ^ k.toNat ≤ n := by
      rw [Int.zero_pow (by omega)]; exact hn
    refine s_while (fun m σ H'' => H'' = H' ∧ ∃ (lo hi : Int) (v : Option V), 0 ≤ lo ∧ lo < hi ∧ hi ≤ most ∧ lo ^ k.toNat ≤ n ∧ n < hi ^ k.toNat ∧ m = (hi - lo).toNat ∧ σ = [some (.int n), some (.int k), some (.int lo), some (.int hi), v]) _ ⟨rfl, 0, most, v, by decide, by omega, by omega, h0k, by omega, rfl, rfl⟩ ?_
    rintro m σ H'' ⟨rfl, lo, hi, v, l0, llt, lm, p1, p2, rfl, rfl⟩
    walk_at "rd"
    refine e_ite (fun hgo => ?_) (fun hno => ?_)
    · refine ⟨fun σ' H2 => ∃ m', m' < (hi - lo).toNat ∧ (H2 = H'' ∧ ∃ (lo hi : Int) (v : Option V), 0 ≤ lo ∧ lo < hi ∧ hi ≤ most ∧ lo ^ k.toNat ≤ n ∧ n < hi ^ k.toNat ∧ m' = (hi - lo).toNat ∧ σ' = [some (.int n), some (.int k), some (.int lo), some (.int hi), v]), fun _ _ h => h, ?_⟩
      unfold rd_l_root_L2
      walk_at "rd"
      · have hmid : lo < (lo + hi) / 2 ∧ (lo + hi) / 2 < hi := by omega
        generalize (lo + hi) / 2 = mid at *
        have hmds : Sz 2002 mid := Sz.of_le (by omega) (by omega : mid ≤ most) hms
        refine ⟨mid, k, 2002, rfl, by omega, hmds, by decide, ?_, ?_⟩
        · have : k.toNat + 1 ≤ 5 := by omega
          have := Nat.mul_le_mul_right 2002 this
          omega
        walk_at "rd"
        refine e_ite (fun hle => ?_) (fun hgt => ?_)
        · walk_at "rd"
          exact ⟨_, by omega, rfl, mid, hi, _, by omega, by omega, by omega, hle, p2, rfl, rfl⟩
        · walk_at "rd"
          exact ⟨_, by omega, rfl, lo, mid, _, by omega, by omega, by omega, p1, by omega, rfl, rfl⟩
      · exact ⟨by decide, by decide⟩
    · walk_at "rd"
      have e : hi = lo + 1 := by omega
      subst e
      exact q lo _ l0 p1 p2 eE
/-! ### led over a tuple of parts, a loop made of it -/
def sp_l_led (K : PySem.W.Frag) : Sp := fun vs H Q _ => ∃ (t : Addr) (l : Lp) (n x : Int), vs = [.ref t, .int n, .int x] ∧ H t = some (.tup l.V) ∧ l.Ok ∧ 1 ≤ x ∧ 0 ≤ n ∧ n.natAbs < 2 ^ 2000 ∧ x.natAbs < 2 ^ 2000 ∧ Q (.int (l.led n x)) H
def rd_l_led (K : PySem.W.Frag) : TS := tRet (tOp FW.rDiv (tOp FW.rAdd (tOp FW.rAdd (tOp FW.rMul (tOp (rIxT K) (tVar 0) (tC (.int 1))) (tVar 2)) (tOp FW.rMul (tOp (rIxT K) (tVar 0) (tC (.int 2))) (tOp FW.rDiv (tVar 1) (tCall (sp_l_power K) [] E0 (tCons (tVar 2) (tCons (tOp FW.rSub (tOp (rIxT K) (tVar 0) (tC (.int 0))) (tC (.int 1))) (tNil))))))) (tOp (rIxT K) (tVar 0) (tC (.int 3)))) (tOp FW.rAdd (tOp (rIxT K) (tVar 0) (tC (.int 1))) (tOp (rIxT K) (tVar 0) (tC (.int 2)))))
theorem pure_l_led (K : PySem.W.Frag) (vs : List V) (H : Hp) (Q : VK) (E : XK) (h : sp_l_led K vs H Q E) : rd_l_led K { nx := fun _ H' => Q .non H', rt := Q } (start ["_law_parts_here", "_law_n", "_law_x"] vs) H := by
  obtain ⟨t, l, n, x, rfl, ht, o, hx, hn, hnb, hxb, q⟩ := h
  have hk := o.hk; have a1 := o.a1; have a5 := o.a5; have c1 := o.c1; have c3 := o.c3
  have hpw := pow_lt hxb (by decide) (l.k - 1).toNat
  have hpp := pow_pos' hx (l.k - 1).toNat
  have hq : (n / x ^ (l.k - 1).toNat).natAbs < 2 ^ 2000 := Nat.lt_of_le_of_lt (ediv_abs hn hpp) hnb
  unfold rd_l_led
  walk_at "rd"
  refine e_ixT ?_ (SqT.of ht) rfl
  walk_at "rd"
  · refine e_ixT ?_ (SqT.of ht) rfl
    walk_at "rd"
    refine e_ixT ?_ (SqT.of ht) rfl
    walk_at "rd"
    refine ⟨x, l.k - 1, 2000, rfl, by omega, hxb, by decide, ?_, ?_⟩
    · have : (l.k - 1).toNat + 1 ≤ 4 := by omega
      have := Nat.mul_le_mul_right 2000 this
      omega
    walk_at "rd"
    · refine e_ixT ?_ (SqT.of ht) rfl
      walk_at "rd"
      refine e_ixT ?_ (SqT.of ht) rfl
      walk_at "rd"
      refine e_ixT ?_ (SqT.of ht) rfl
      walk_at "rd"
      · exact q
      · refine wide_div (b := 10) (by omega) ?_ (by decide) (by decide)
        show (l.a + l.c).natAbs < 1024
        omega
    · exact wide_mul (a := 10) (b := 2000) (by show l.c.natAbs < 1024; omega) hq (by decide) (by decide) (by decide)
    · refine wide_div (b := (l.k - 1).toNat * 2000 + 1) (by omega) hpw (by omega) ?_
      have : (l.k - 1).toNat ≤ 3 := by omega
      have := Nat.mul_le_mul_right 2000 this
      omega
  · exact wide_mul (a := 10) (b := 2000) (by show l.a.natAbs < 1024; omega) hxb (by decide) (by decide) (by decide)
def sp_l_loop (K : PySem.W.Frag) : Sp := fun vs H Q _ => ∃ (t : Addr) (l : Lp), vs = [.ref t] ∧ H t = some (.tup l.V) ∧ l.Ok ∧ ∀ x H', H x = none → Ext H H' → IsLp K H' x l → Q (.ref x) H'
def rd_l_loop (K : PySem.W.Frag) : TS := tRet (tMake (He.ga K "Average") (sp_Average_init K) [] E0 (tCons (tOp (rIxT K) (tVar 0) (tC (.int 0))) (tCons (tOp (rIxT K) (tVar 0) (tC (.int 1))) (tCons (tOp (rIxT K) (tVar 0) (tC (.int 2))) (tCons (tOp (rIxT K) (tVar 0) (tC (.int 3))) (tCons (tOp (rIxT K) (tVar 0) (tC (.int 4))) (tCons (tOp (rIxT K) (tVar 0) (tC (.int 5))) (tCons (tOp (rIxT K) (tVar 0) (tC (.int 6))) (tNil)))))))))
theorem pure_l_loop (K : PySem.W.Frag) (vs : List V) (H : Hp) (Q : VK) (E : XK) (h : sp_l_loop K vs H Q E) : rd_l_loop K { nx := fun _ H' => Q .non H', rt := Q } (start ["_law_parts_here"] vs) H := by
  obtain ⟨t, l, rfl, ht, o, q⟩ := h
  unfold rd_l_loop
  walk_at "rd"
  refine e_ixT ?_ (SqT.of ht) rfl
  walk_at "rd"
  refine e_ixT ?_ (SqT.of ht) rfl
  walk_at "rd"
  refine e_ixT ?_ (SqT.of ht) rfl
  walk_at "rd"
  refine e_ixT ?_ (SqT.of ht) rfl
  walk_at "rd"
  refine e_ixT ?_ (SqT.of ht) rfl
  walk_at "rd"
  refine e_ixT ?_ (SqT.of ht) rfl
  walk_at "rd"
  refine e_ixT ?_ (SqT.of ht) rfl
  walk_at "rd"
  intro x dx hx hdx hne
  have e3 : Ext H (upd (upd H dx (.own x)) x (.ins (He.ga K "Average") dx [])) := (Ext.new hdx).tr (Ext.new (by rw [upd_ne hne.symm]; exact hx))
  refine ⟨x, dx, l, rfl, o, upd_same, fun H4 e4 h4 => ⟨rfl, q x H4 hx (fun b ob q => e4 _ _ (ne_of_none q hx) (e3 _ _ q)) ⟨dx, h4⟩⟩⟩
end FWL
namespace FWL
open PySem PySem.Spec PyProof.Rows L2 FW
/-! ### cells and rows -/
theorem list_at {xs : List V} {i : Int} (h0 : 0 ≤ i) (h : i < (xs.length : Int)) : ∃ v, v ∈ xs ∧ atI xs i = some v := by
  obtain ⟨k, rfl⟩ := Int.eq_ofNat_of_zero_le h0
  have hk : k < xs.length := by omega
  exact ⟨xs[k], List.getElem_mem _, atI_nat (List.getElem?_eq_getElem hk)⟩
def sp_l_cell_at (K : PySem.W.Frag) : Sp := fun vs H Q _ => ∃ (a : Addr) (ns : List Int) (k : Int), vs = [.ref a, .int k] ∧ SqL K H a (ns.map V.int) ∧ 0 ≤ k ∧ ∀ c, Q (.int c) H
def rd_l_cell_at (K : PySem.W.Frag) : TS := tSeq (tIfS (tTest (tOp FW.rLt (tVar 1) (tCB (Evl.rLenS K) (tCons (tVar 0) (tNil))))) (tRet (tOp (rIxL K) (tVar 0) (tVar 1))) (tNext)) (tRet (tC (.int 0)))
theorem pure_l_cell_at (K : PySem.W.Frag) (vs : List V) (H : Hp) (Q : VK) (E : XK) (h : sp_l_cell_at K vs H Q E) : rd_l_cell_at K { nx := fun _ H' => Q .non H', rt := Q } (start ["_law_script", "_law_k"] vs) H := by
  obtain ⟨a, ns, k, rfl, hA, hk, q⟩ := h
  unfold rd_l_cell_at
  walk_at "rd"
  refine e_len ?_ (.inl hA)
  walk_at "rd"
  refine e_ite (fun h => ?_) (fun h => ?_)
  · rw [List.length_map] at h
    obtain ⟨i, hi⟩ := at_map hk h
    walk_at "rd"
    refine e_ixL ?_ hA hi
    exact q _
  · walk_at "rd"
    exact q _
def sp_l_mixed (K : PySem.W.Frag) : Sp := fun vs H Q _ => ∃ c k : Int, vs = [.int c, .int k] ∧ 0 ≤ k ∧ k < 100000 ∧ ∀ v, 0 ≤ v → Q (.int v) H
def rd_l_mixed (K : PySem.W.Frag) : TS := tSeq (tAsg (tOp FW.rMod (tCB FW.rInt1 (tCons (tOp FW.rPow (tOp FW.rAdd (tOp FW.rAdd (tOp FW.rMod (tCB FW.rInt1 (tCons (tVar 0) (tNil))) (tC (.int 2147483647))) (tOp FW.rMul (tC (.int 7919)) (tVar 1))) (tC (.int 104729))) (tC (.int 5))) (tNil))) (tC (.int 2147483647))) (gName 2)) (tRet (tOp FW.rMod (tCB FW.rInt1 (tCons (tOp FW.rMul (tOp FW.rAdd (tVar 2) (tVar 1)) (tC (.int 40692))) (tNil))) (tC (.int 2147483629))))
theorem pure_l_mixed (K : PySem.W.Frag) (vs : List V) (H : Hp) (Q : VK) (E : XK) (h : sp_l_mixed K vs H Q E) : rd_l_mixed K { nx := fun _ H' => Q .non H', rt := Q } (start ["_law_cell", "_law_k", "_law_spread"] vs) H := by
  obtain ⟨c, k, rfl, hk, hk1, q⟩ := h
  have h0 : 0 ≤ c % 2147483647 := Int.emod_nonneg _ (by decide)
  have h1 : c % 2147483647 < 2147483647 := Int.emod_lt_of_pos _ (by decide)
  have hs : 0 ≤ ((c % 2147483647 + 7919 * k + 104729) ^ (5 : Int).toNat) % 2147483647 := Int.emod_nonneg _ (by decide)
  have hs2 : ((c % 2147483647 + 7919 * k + 104729) ^ (5 : Int).toNat) % 2147483647 < 2147483647 := Int.emod_lt_of_pos _ (by decide)
  unfold rd_l_mixed
  walk_at "rd"
  · walk_at "rd"
    · exact q _ (Int.emod_nonneg _ (by decide))
  · decide
  · exact wide_mul (a := 60) (b := 20) (by omega) (by decide) (by decide) (by decide) (by decide)
  · decide
  · refine ⟨by decide, by decide, ?_⟩
    have : (2 : Nat) ^ 64 = 18446744073709551616 := by decide
    omega
  · exact wide_mul (a := 20) (b := 40) (by decide) (by omega) (by decide) (by decide) (by decide)
  · decide
def sp_l_apart (K : PySem.W.Frag) : Sp := fun vs H Q _ => ∃ c k : Int, vs = [.int c, .int k] ∧ 0 ≤ k ∧ k < 100000 ∧ ∀ v, Q (.int v) H
def rd_l_apart (K : PySem.W.Frag) : TS := tSeq (tIfS (tTest (tOp FW.rGe (tCB FW.rAbs (tCons (tVar 0) (tNil))) (tOp FW.rPow (tC (.int 10)) (tC (.int 18))))) (tRet (tVar 0)) (tNext)) (tRet (tOp FW.rAdd (tVar 0) (tOp FW.rMul (tC (.int 1000003)) (tVar 1))))
theorem pure_l_apart (K : PySem.W.Frag) (vs : List V) (H : Hp) (Q : VK) (E : XK) (h : sp_l_apart K vs H Q E) : rd_l_apart K { nx := fun _ H' => Q .non H', rt := Q } (start ["_law_cell", "_law_k"] vs) H := by
  obtain ⟨c, k, rfl, hk, hk1, q⟩ := h
  unfold rd_l_apart
  walk_at "rd"
  · refine e_ite (fun h => ?_) (fun h => ?_)
    · walk_at "rd"
      exact q _
    · walk_at "rd"
      · exact q _
      · exact wide_mul (a := 20) (b := 40) (by decide) (by omega) (by decide) (by decide) (by decide)
  · exact ⟨by decide, by decide, by decide⟩
/-- a row: numbers from 0 to 999 -/
def Row (xs : List Int) (n : Nat) : Prop := xs.length = n ∧ ∀ x ∈ xs, 0 ≤ x ∧ x < 1000
def sp_l_row (K : PySem.W.Frag) : Sp := fun vs H Q _ => ∃ (c : Int) (m : Nat), vs = [.int c, .int (m : Int)] ∧ m < 1000 ∧ ∀ (L : Addr) (xs : List Int) (H' : Hp), H L = none → Ext H H' → H' L = some (.lst (xs.map V.int)) → Row xs m → Q (.ref L) H'
def rd_l_row_L1 (K : PySem.W.Frag) : TS := tSeq (tDrop (tBM K "list" rAppend (tVar 3) (tCons (tOp FW.rMod (tCB FW.rInt1 (tCons (tIf (tTest (tOp FW.rGt (tVar 2) (tC (.int 0)))) (tVar 2) (tCall (sp_l_mixed K) [] E0 (tCons (tVar 0) (tCons (tVar 4) (tNil))))) (tNil))) (tC (.int 1000))) (tNil)))) (tAsg (tOp FW.rDiv (tVar 2) (tC (.int 1000))) (gName 2))
def rd_l_row (K : PySem.W.Frag) : TS := tSeq (tAsg (tIf (tTest (tOp FW.rGe (tCB FW.rAbs (tCons (tVar 0) (tNil))) (tOp FW.rPow (tC (.int 10)) (tC (.int 18))))) (tCB FW.rAbs (tCons (tVar 0) (tNil))) (tC (.int 0))) (gName 2)) (tSeq (tAsg (tLst (tNil)) (gName 3)) (tSeq (tFor (iRng1 (tCons (tVar 1) (tNil))) (gName 4) (rd_l_row_L1 K)) (tRet (tVar 3))))
theorem pure_l_row (K : PySem.W.Frag) (vs : List V) (H : Hp) (Q : VK) (E : XK) (h : sp_l_row K vs H Q E) : rd_l_row K { nx := fun _ H' => Q .non H', rt := Q } (start ["_law_cell", "_law_many", "_law_left", "_law_row_here", "_law_k"] vs) H := by
  obtain ⟨c, m, rfl, hm, q⟩ := h
  have main : ∀ left : Int, 0 ≤ left → (tSeq (tAsg (tLst (tNil)) (gName 3)) (tSeq (tFor (iRng1 (tCons (tVar 1) (tNil))) (gName 4) (rd_l_row_L1 K)) (tRet (tVar 3)))) { nx := fun _ H' => Q .non H', rt := Q } [some (.int c), some (.int (m : Int)), some (.int left), none, none] H := by
    intro left hleft
    walk_at "rd"
    refine ⟨by show 0 ≤ sizeLine; decide, fun L hL => ?_⟩
    walk_at "rd"
    · refine for_range (lo := 0) (n := (m : Int).toNat) (fun i σ H' => Ext H H' ∧ ∃ (left : Int) (xs : List Int) (v : Option V), 0 ≤ left ∧ H' L = some (.lst (xs.map V.int)) ∧ Row xs i ∧ σ = [some (.int c), some (.int (m : Int)), some (.int left), some (.ref L), v]) ⟨Ext.new hL, left, [], _, hleft, upd_same, ⟨rfl, by simp⟩, rfl⟩ ?_ ?_
      · rintro i σ H' hi ⟨e, left, xs, v, hl, hx, hr, rfl⟩
        have fin : ∀ y : Int, 0 ≤ y → y < 1000 → rAppend (.ref L) [.int y] H' fun _ H1 => (tAsg (tOp FW.rDiv (tVar 2) (tC (.int 1000))) (gName 2)) { nx := fun σ H' => Ext H H' ∧ ∃ (left : Int) (xs : List Int) (v : Option V), 0 ≤ left ∧ H' L = some (.lst (xs.map V.int)) ∧ Row xs (i + 1) ∧ σ = [some (.int c), some (.int (m : Int)), some (.int left), some (.ref L), v], ct := fun σ H' => Ext H H' ∧ ∃ (left : Int) (xs : List Int) (v : Option V), 0 ≤ left ∧ H' L = some (.lst (xs.map V.int)) ∧ Row xs (i + 1) ∧ σ = [some (.int c), some (.int (m : Int)), some (.int left), some (.ref L), v], bk := fun σ' H' => tRet (tVar 3) { nx := fun _ H' => Q .non H', rt := Q } σ' H', rt := Q } [some (.int c), some (.int (m : Int)), some (.int left), some (.ref L), some (.int (0 + (i : Int)))] H1 := by
          intro y y0 y1
          refine ⟨L, _, _, rfl, rfl, hx, ?_, ?_⟩
          · rw [List.length_map, hr.1]; show _ < 2 ^ 24; omega
          walk_at "rd"
          · refine ⟨e.upds hL, left / 1000, xs ++ [y], _, by omega, by rw [upd_same, List.map_append]; rfl, ⟨by simp [hr.1], fun x hx' => ?_⟩, rfl⟩
            rcases List.mem_append.mp hx' with h | h
            · exact hr.2 x h
            · rw [List.mem_singleton.mp h]; exact ⟨y0, y1⟩
          · exact ⟨by decide, by decide⟩
        walk_at "re"
        unfold rd_l_row_L1
        walk_at "rd"
        refine ⟨Or.inl ⟨rfl, _, SqL.of hx⟩, ?_⟩
        walk_at "rd"
        refine e_ite (fun h => ?_) (fun h => ?_)
        · walk_at "re"
          · exact fin _ (Int.emod_nonneg _ (by decide)) (Int.emod_lt_of_pos _ (by decide))
          · decide
        · walk_at "re"
          refine ⟨c, 0 + (i : Int), rfl, by omega, by omega, fun w hw => ?_⟩
          walk_at "re"
          · exact fin _ (Int.emod_nonneg _ (by decide)) (Int.emod_lt_of_pos _ (by decide))
          · decide
      · rintro σ H' ⟨e, left, xs, v, hl, hx, hr, rfl⟩
        walk_at "rd"
        exact q L xs H' hL e hx (by simpa using hr)
    · omega
  unfold rd_l_row
  walk_at "rd"
  · refine e_ite (fun h => ?_) (fun h => ?_)
    · walk_at "re"
      refine main (if c < 0 then -c else c) (by split <;> omega)
    · walk_at "re"
      exact main 0 (by decide)
  · exact ⟨by decide, by decide, by decide⟩
theorem row_at {xs : List Int} {n : Nat} {i : Int} (h : Row xs n) (h0 : 0 ≤ i) (h1 : i < n) : ∃ x, 0 ≤ x ∧ x < 1000 ∧ atI (xs.map V.int) i = some (.int x) := by
  obtain ⟨k, rfl⟩ := Int.eq_ofNat_of_zero_le h0
  have hk : k < xs.length := by rw [h.1]; omega
  obtain ⟨a, b⟩ := h.2 xs[k] (List.getElem_mem _)
  exact ⟨xs[k], a, b, at_int hk⟩
def sp_l_great (K : PySem.W.Frag) : Sp := fun vs H Q _ => ∃ (L : Addr) (xs : List Int) (n : Nat) (a m : Int), vs = [.ref L, .int a, .int m] ∧ H L = some (.lst (xs.map V.int)) ∧ Row xs n ∧ 0 ≤ a ∧ 0 ≤ m ∧ m ≤ 100 ∧ a + m ≤ n ∧ ∀ v : Int, 0 ≤ v → v < 1000 ^ m.toNat → Q (.int v) H
def rd_l_great_L1 (K : PySem.W.Frag) : TS := tAsg (tOp FW.rAdd (tOp FW.rMul (tC (.int 1000)) (tVar 3)) (tCB FW.rInt1 (tCons (tOp (rIxL K) (tVar 0) (tOp FW.rAdd (tVar 1) (tVar 4))) (tNil)))) (gName 3)
def rd_l_great (K : PySem.W.Frag) : TS := tSeq (tAsg (tC (.int 0)) (gName 3)) (tSeq (tFor (iRng1 (tCons (tVar 2) (tNil))) (gName 4) (rd_l_great_L1 K)) (tRet (tVar 3)))
theorem pure_l_great (K : PySem.W.Frag) (vs : List V) (H : Hp) (Q : VK) (E : XK) (h : sp_l_great K vs H Q E) : rd_l_great K { nx := fun _ H' => Q .non H', rt := Q } (start ["_law_row_here", "_law_at", "_law_many", "_law_found", "_law_k"] vs) H := by
  obtain ⟨L, xs, n, a, m, rfl, hL, hr, ha, hm, hm1, ham, q⟩ := h
  unfold rd_l_great
  walk_at "rd"
  · refine for_range (lo := 0) (n := m.toNat) (fun i σ H' => H' = H ∧ ∃ (f : Int) (v : Option V), 0 ≤ f ∧ f < 1000 ^ i ∧ σ = [some (.ref L), some (.int a), some (.int m), some (.int f), v]) ⟨rfl, 0, _, by decide, by decide, rfl⟩ ?_ ?_
    · rintro i σ H' hi ⟨rfl, f, v, f0, f1, rfl⟩
      obtain ⟨x, x0, x1, hx⟩ := row_at (i := a + (0 + (i : Int))) hr (by omega) (by omega)
      have hp : (1000 : Int) ^ (i + 1) = 1000 ^ i * 1000 := Int.pow_succ ..
      walk_at "re"
      unfold rd_l_great_L1
      walk_at "rd"
      · refine e_ixL ?_ (SqL.of hL) hx
        walk_at "rd"
        refine ⟨rfl, 1000 * f + x, _, by omega, ?_, rfl⟩
        rw [hp]; omega
      · refine wide_mul (a := 10) (b := 1001) (by decide) ?_ (by decide) (by decide) (by decide)
        exact (Sz.of_le f0 (by omega : f ≤ 1000 ^ i) (Sz.pow (b := 10) (by decide) (by decide) i)).mono (by omega)
    · rintro σ H' ⟨rfl, f, v, f0, f1, rfl⟩
      walk_at "rd"
      exact q f f0 f1
  · omega
theorem e_max1 {K : PySem.W.Frag} {H : Hp} {Q : VK} {a : Addr} {i j : Int} (k : ∀ m, (m = i ∨ m = j) → i ≤ m → j ≤ m → Q (.int m) H) (h : H a = some (.lst [.int i, .int j])) : rMax K [.ref a] H Q :=
  ⟨a, [i, j], rfl, SqL.of h, by show 0 < 2; decide, fun m hm hy => k m (by simpa using hm) (hy i (by simp)) (hy j (by simp))⟩
theorem e_min1 {K : PySem.W.Frag} {H : Hp} {Q : VK} {a : Addr} {i j : Int} (k : ∀ m, (m = i ∨ m = j) → m ≤ i → m ≤ j → Q (.int m) H) (h : H a = some (.lst [.int i, .int j])) : rMin K [.ref a] H Q :=
  ⟨a, [i, j], rfl, SqL.of h, by show 0 < 2; decide, fun m hm hy => k m (by simpa using hm) (hy i (by simp)) (hy j (by simp))⟩
end FWL
namespace FWL
open PySem PySem.Spec PyProof.Rows L2 FW
/-! ### sign, bits -/
def sgn (i : Int) : Int := (if i > 0 then 1 else 0) - (if i < 0 then 1 else 0)
def sp_sign (K : PySem.W.Frag) : Sp := fun vs H Q _ => ∃ i : Int, vs = [.int i] ∧ Q (.int (sgn i)) H
def rd_sign (K : PySem.W.Frag) : TS := tRet (tOp FW.rSub (tCB FW.rInt1 (tCons (tOp FW.rGt (tVar 0) (tC (.int 0))) (tNil))) (tCB FW.rInt1 (tCons (tOp FW.rLt (tVar 0) (tC (.int 0))) (tNil))))
theorem ite_dec (p : Prop) [Decidable p] : (if decide p = true then (1 : Int) else 0) = if p then 1 else 0 := by
  by_cases h : p <;> simp [h]
theorem pure_sign (K : PySem.W.Frag) (vs : List V) (H : Hp) (Q : VK) (E : XK) (h : sp_sign K vs H Q E) : rd_sign K { nx := fun _ H' => Q .non H', rt := Q } (start ["number"] vs) H := by
  obtain ⟨i, rfl, q⟩ := h
  unfold rd_sign
  walk_at "rd"
  rw [ite_dec, ite_dec]
  exact q
theorem two_pow_pos (n : Nat) : (1 : Int) ≤ 2 ^ n := pow_pos' (by decide) n
theorem shr_pos {n : Int} {j : Nat} : (0 < n / 2 ^ j) ↔ 2 ^ j ≤ n := by
  have := two_pow_pos j
  constructor
  · intro h
    have h1 : (1 : Int) ≤ n / 2 ^ j := h
    rw [Int.le_ediv_iff_mul_le (by omega)] at h1
    omega
  · intro h
    have : (1 : Int) ≤ n / 2 ^ j := by
      rw [Int.le_ediv_iff_mul_le (by omega)]
      omega
    omega
theorem pow_le_right {x : Int} (hx : 1 ≤ x) {a b : Nat} (h : a ≤ b) : x ^ a ≤ x ^ b := by
  obtain ⟨c, rfl⟩ := Nat.le.dest h
  rw [Int.pow_add]
  have h1 := pow_pos' hx a
  have h2 := pow_pos' hx c
  have : x ^ a * 1 ≤ x ^ a * x ^ c := Int.mul_le_mul_of_nonneg_left h2 (by omega)
  omega
theorem two_le_inv {a b : Nat} (h : (2 : Int) ^ a < 2 ^ b) : a < b := by
  rcases Nat.lt_or_ge a b with h1 | h1
  · exact h1
  · have : (2 : Int) ^ b ≤ 2 ^ a := pow_le_right (by decide) h1
    omega
def sp_bits (K : PySem.W.Frag) : Sp := fun vs H Q _ => ∃ n : Int, vs = [.int n] ∧ 0 ≤ n ∧ Sz 2000 n ∧ ∀ (b : Nat) H', n < 2 ^ b → (b = 0 ∨ 2 ^ (b - 1) ≤ n) → Ext H H' → Q (.int (b : Int)) H'
def rd_bits_L1 (K : PySem.W.Frag) : TS := tAug 2 (tC (.int 2)) FW.iMul
def rd_bits_L2 (K : PySem.W.Frag) : TS := tSeq (tAsg (tOp FW.rDiv (tOp FW.rAdd (tVar 1) (tVar 2)) (tC (.int 2))) (gName 3)) (tIfS (tTest (tOp FW.rGt (tOp FW.rShr (tVar 0) (tVar 3)) (tC (.int 0)))) (tAsg (tOp FW.rAdd (tVar 3) (tC (.int 1))) (gName 1)) (tAsg (tVar 3) (gName 2)))
def rd_bits (K : PySem.W.Frag) : TS := tSeq (tAsg (tTup (tCons (tC (.int 0)) (tCons (tC (.int 1)) (tNil)))) (gTup K 2 (gCons (gName 1) (gCons (gName 2) (gNil))))) (tSeq (tWhile (tTest (tOp FW.rGt (tOp FW.rShr (tVar 0) (tVar 2)) (tC (.int 0)))) (rd_bits_L1 K)) (tSeq (tWhile (tTest (tOp FW.rLt (tVar 1) (tVar 2))) (rd_bits_L2 K)) (tRet (tVar 1))))
theorem pure_bits (K : PySem.W.Frag) (vs : List V) (H : Hp) (Q : VK) (E : XK) (h : sp_bits K vs H Q E) : rd_bits K { nx := fun _ H' => Q .non H', rt := Q } (start ["n", "low", "high", "middle"] vs) H := by
  obtain ⟨n, rfl, hn, hs, q⟩ := h
  have hnb : n < 2 ^ 2000 := by
    have : n.natAbs < 2 ^ 2000 := hs
    have e : ((2 ^ 2000 : Nat) : Int) = 2 ^ 2000 := by rw [Int.natCast_pow]; rfl
    omega
  unfold rd_bits
  walk_at "rd"
  refine ⟨by show 2 ≤ sizeLine; decide, fun q1 hq1 => ?_⟩
  refine g_tup ?_ (SqT.of upd_same) rfl
  have eE := Ext.new (o := .tup [V.int 0, V.int 1]) hq1
  generalize upd H q1 (.tup [V.int 0, V.int 1]) = H at *
  walk_at "rd"
  refine s_while (fun m σ H' => H' = H ∧ ∃ (j : Nat) (v : Option V), 1 ≤ j ∧ j ≤ 4000 ∧ m = 4000 - j ∧ σ = [some (.int n), some (.int 0), some (.int (j : Int)), v]) _ ⟨rfl, 1, none, by decide, by decide, rfl, rfl⟩ ?_
  rintro m σ H' ⟨rfl, j, v, j1, j2, rfl, rfl⟩
  walk_at "rd"
  · rw [Int.toNat_natCast]
    refine e_ite (fun hgo => ?_) (fun hno => ?_)
    · have hle : (2 : Int) ^ j ≤ n := shr_pos.mp hgo
      have hj : j < 2000 := two_le_inv (by omega)
      refine ⟨fun σ' H'' => H'' = H' ∧ ∃ (j' : Nat) (v : Option V), 1 ≤ j' ∧ j' ≤ 4000 ∧ j < j' ∧ σ' = [some (.int n), some (.int 0), some (.int (j' : Int)), v], fun σ' H'' h => ?_, ?_⟩
      · obtain ⟨h1, j', v', a1, a2, a3, a4⟩ := h
        exact ⟨4000 - j', by omega, h1, j', v', a1, a2, rfl, a4⟩
      unfold rd_bits_L1
      walk_at "rd"
      · refine ⟨rfl, 2 * j, v, by omega, by omega, by omega, ?_⟩
        rw [show ((j : Int) * 2) = ((2 * j : Nat) : Int) by omega]; rfl
      · exact wide_mul (a := 20) (b := 10) (by omega) (by decide) (by decide) (by decide) (by decide)
    · have hlt : n < 2 ^ j := by
        rcases Int.lt_or_le n (2 ^ j) with h | h
        · exact h
        · exact absurd (shr_pos.mpr h) hno
      walk_at "rd"
      refine s_while (fun m σ H'' => H'' = H' ∧ ∃ (lo hi : Nat) (v : Option V), lo ≤ hi ∧ hi ≤ 4000 ∧ n < 2 ^ hi ∧ (lo = 0 ∨ 2 ^ (lo - 1) ≤ n) ∧ m = hi - lo ∧ σ = [some (.int n), some (.int (lo : Int)), some (.int (hi : Int)), v]) _ ⟨rfl, 0, j, v, by omega, by omega, hlt, .inl rfl, rfl, rfl⟩ ?_
      rintro m σ H'' ⟨rfl, lo, hi, v, l1, l2, p1, p2, rfl, rfl⟩
      walk_at "rd"
      refine e_ite (fun hgo => ?_) (fun hno => ?_)
      · refine ⟨fun σ' H2 => H2 = H'' ∧ ∃ (lo' hi' : Nat) (v : Option V), lo' ≤ hi' ∧ hi' ≤ 4000 ∧ n < 2 ^ hi' ∧ (lo' = 0 ∨ 2 ^ (lo' - 1) ≤ n) ∧ hi' - lo' < hi - lo ∧ σ' = [some (.int n), some (.int (lo' : Int)), some (.int (hi' : Int)), v], fun σ' H2 h => ?_, ?_⟩
        · obtain ⟨h1, lo', hi', v', a1, a2, a3, a4, a5, a6⟩ := h
          exact ⟨_, a5, h1, lo', hi', v', a1, a2, a3, a4, rfl, a6⟩
        unfold rd_bits_L2
        walk_at "rd"
        · have em : ((lo : Int) + (hi : Int)) / 2 = (((lo + hi) / 2 : Nat) : Int) := by omega
          rw [em, Int.toNat_natCast]
          refine e_ite (fun hg => ?_) (fun hg => ?_)
          · have hle := shr_pos.mp hg
            walk_at "rd"
            refine ⟨rfl, (lo + hi) / 2 + 1, hi, some (.int (((lo + hi) / 2 : Nat) : Int)), by omega, l2, p1, .inr ?_, by omega, ?_⟩
            · rw [Nat.add_sub_cancel]; exact hle
            · rw [show ((((lo + hi) / 2 : Nat) : Int) + 1) = (((lo + hi) / 2 + 1 : Nat) : Int) by omega]; rfl
          · have hlt' : n < 2 ^ ((lo + hi) / 2) := by
              rcases Int.lt_or_le n (2 ^ ((lo + hi) / 2)) with h | h
              · exact h
              · exact absurd (shr_pos.mpr h) hg
            walk_at "rd"
            exact ⟨rfl, lo, (lo + hi) / 2, _, by omega, by omega, hlt', p2, by omega, rfl⟩
        · omega
        · exact ⟨by decide, by decide⟩
      · walk_at "rd"
        have : lo = hi := by omega
        subst this
        exact q lo _ p1 p2 eE
  · omega
/-! ### the whole root, by Newton's steps -/
theorem conv (g r : Int) (hg : 0 ≤ g) (hr : 0 ≤ r) : ∀ k : Nat, g ^ (k + 1) + (k + 1 : Int) * g ^ k * (r - g) ≤ r ^ (k + 1)
  | 0 => by
    have e1 : g ^ (0 + 1) = g := by rw [Int.pow_succ, Int.pow_zero, Int.one_mul]
    have e2 : r ^ (0 + 1) = r := by rw [Int.pow_succ, Int.pow_zero, Int.one_mul]
    rw [e1, e2, Int.pow_zero]; simp; omega
  | k + 1 => by
    have ih := conv g r hg hr k
    have h1 : r * (g ^ (k + 1) + (k + 1 : Int) * g ^ k * (r - g)) ≤ r * r ^ (k + 1) := Int.mul_le_mul_of_nonneg_left ih hr
    have h2 : 0 ≤ (k + 1 : Int) * g ^ k * ((r - g) * (r - g)) := by
      have a1 : 0 ≤ g ^ k := Int.pow_nonneg hg
      have a2 : 0 ≤ (r - g) * (r - g) := by
        rcases Int.le_total 0 (r - g) with h | h
        · exact Int.mul_nonneg h h
        · exact Int.mul_nonneg_of_nonpos_of_nonpos h h
      exact Int.mul_nonneg (Int.mul_nonneg (by omega) a1) a2
    have e1 : r ^ (k + 1 + 1) = r * r ^ (k + 1) := by rw [Int.pow_succ, Int.mul_comm]
    have e2 : g ^ (k + 1 + 1) = g * g * g ^ k := by rw [Int.pow_succ, Int.pow_succ]; grind
    have e3 : g ^ (k + 1) = g * g ^ k := by rw [Int.pow_succ, Int.mul_comm]
    rw [e1]
    have e4 : g ^ (k + 1 + 1) + ((k + 1 : Nat) + 1 : Int) * g ^ (k + 1) * (r - g) = r * (g ^ (k + 1) + (k + 1 : Int) * g ^ k * (r - g)) - (k + 1 : Int) * g ^ k * ((r - g) * (r - g)) := by
      rw [e2, e3]; push_cast; grind
    rw [e4]
    omega
/-- a step of Newton's leads to no guess below the root -/
theorem newton_ge {n g r : Int} {k : Nat} (hg : 1 ≤ g) (hr : 0 ≤ r) (hn : r ^ (k + 1) ≤ n) : r ≤ ((k : Int) * g + n / g ^ k) / (k + 1) := by
  have hp : 1 ≤ g ^ k := pow_pos' hg k
  rw [Int.le_ediv_iff_mul_le (by omega)]
  have h := conv g r (by omega) hr k
  have hq : (k + 1 : Int) * (r - g) + g ≤ n / g ^ k := by
    rw [Int.le_ediv_iff_mul_le (by omega)]
    have e : ((k + 1 : Int) * (r - g) + g) * g ^ k = g ^ (k + 1) + (k + 1 : Int) * g ^ k * (r - g) := by rw [Int.pow_succ]; grind
    rw [e]; omega
  have e : r * (k + 1 : Int) = (k : Int) * g + ((k + 1 : Int) * (r - g) + g) := by grind
  rw [e]; omega
theorem newton_stop {n g : Int} {k : Nat} (hg : 1 ≤ g) (h : g ≤ ((k : Int) * g + n / g ^ k) / (k + 1)) : g ^ (k + 1) ≤ n := by
  have hp : 1 ≤ g ^ k := pow_pos' hg k
  rw [Int.le_ediv_iff_mul_le (by omega)] at h
  have e : g * (k + 1 : Int) = (k : Int) * g + g := by grind
  rw [e] at h
  have hq : g ≤ n / g ^ k := by omega
  rw [Int.le_ediv_iff_mul_le (by omega)] at hq
  rw [Int.pow_succ, Int.mul_comm]; exact hq
theorem root_exists (n : Int) (hn : 0 ≤ n) (k : Nat) : ∃ r : Int, 0 ≤ r ∧ r ^ (k + 1) ≤ n ∧ n < (r + 1) ^ (k + 1) := by
  have key : ∀ m : Nat, (∃ r : Int, 0 ≤ r ∧ r ^ (k + 1) ≤ n ∧ n < (r + 1) ^ (k + 1)) ∨ ((m : Int) ^ (k + 1) ≤ n) := by
    intro m
    induction m with
    | zero =>
      refine .inr ?_
      show (0 : Int) ^ (k + 1) ≤ n
      rw [Int.zero_pow (by omega)]; exact hn
    | succ m ih =>
      rcases ih with h | h
      · exact .inl h
      · rcases Int.lt_or_le n (((m : Int) + 1) ^ (k + 1)) with h1 | h1
        · exact .inl ⟨m, by omega, h, h1⟩
        · exact .inr (by push_cast; exact h1)
  rcases key (n.toNat + 1) with h | h
  · exact h
  · have := pow_ge_self (x := ((n.toNat + 1 : Nat) : Int)) (by omega) (k + 1) (by omega)
    omega
theorem root_unique {n r s : Int} {k : Nat} (hr : 0 ≤ r) (hs : 0 ≤ s) (r1 : r ^ k ≤ n) (r2 : n < (r + 1) ^ k) (s1 : s ^ k ≤ n) (s2 : n < (s + 1) ^ k) : r = s := by
  have h1 := pow_lt_inv (x := r) (y := s + 1) (n := k) (by omega) (by omega) hr
  have h2 := pow_lt_inv (x := s) (y := r + 1) (n := k) (by omega) (by omega) hs
  omega
def sp_whole_root (K : PySem.W.Frag) : Sp := fun vs H Q _ => ∃ n k : Int, vs = [.int n, .int k] ∧ 0 ≤ n ∧ 1 ≤ k ∧ k ≤ 64 ∧ Sz 2000 n ∧ ∀ (r : Int) H', 0 ≤ r → r ^ k.toNat ≤ n → n < (r + 1) ^ k.toNat → Ext H H' → Q (.int r) H'
def rd_whole_root_L1 (K : PySem.W.Frag) : TS := tSeq (tAsg (tVar 3) (gName 2)) (tAsg (tOp FW.rDiv (tOp FW.rAdd (tOp FW.rMul (tOp FW.rSub (tVar 1) (tC (.int 1))) (tVar 2)) (tOp FW.rDiv (tVar 0) (tCall (sp_power K) [] E0 (tCons (tVar 2) (tCons (tOp FW.rSub (tVar 1) (tC (.int 1))) (tNil)))))) (tVar 1)) (gName 3))
def rd_whole_root (K : PySem.W.Frag) : TS := tSeq (tIfS (tOr (tTest (tOp rEq (tVar 0) (tC (.int 0)))) (tTest (tOp rEq (tVar 1) (tC (.int 1))))) (tRet (tVar 0)) (tNext)) (tSeq (tAsg (tOp FW.rShl (tC (.int 1)) (tOp FW.rDiv (tOp FW.rSub (tOp FW.rAdd (tCall (sp_bits K) [] E0 (tCons (tVar 0) (tNil))) (tVar 1)) (tC (.int 1))) (tVar 1))) (gName 2)) (tSeq (tAsg (tOp FW.rDiv (tOp FW.rAdd (tOp FW.rMul (tOp FW.rSub (tVar 1) (tC (.int 1))) (tVar 2)) (tOp FW.rDiv (tVar 0) (tCall (sp_power K) [] E0 (tCons (tVar 2) (tCons (tOp FW.rSub (tVar 1) (tC (.int 1))) (tNil)))))) (tVar 1)) (gName 3)) (tSeq (tWhile (tTest (tOp FW.rLt (tVar 3) (tVar 2))) (rd_whole_root_L1 K)) (tRet (tVar 2)))))
theorem ceil_pow {n : Int} {b k : Nat} (hk : 1 ≤ k) (h : n < 2 ^ b) : n < (2 ^ ((b + k - 1) / k)) ^ k := by
  rw [← Int.pow_mul]
  refine Int.lt_of_lt_of_le h (pow_le_right (by decide) ?_)
  have h1 := Nat.div_add_mod (b + k - 1) k
  have h2 := Nat.mod_lt (b + k - 1) hk
  rw [Nat.mul_comm]
  omega
theorem pure_whole_root (K : PySem.W.Frag) (vs : List V) (H : Hp) (Q : VK) (E : XK) (h : sp_whole_root K vs H Q E) : rd_whole_root K { nx := fun _ H' => Q .non H', rt := Q } (start ["n", "k", "guess", "below"] vs) H := by
  obtain ⟨n, k, rfl, hn, hk1, hk64, hs, q⟩ := h
  have hd1 : decide (V.int n = V.int 0) = decide (n = 0) := decide_eq_decide.mpr ⟨fun z => by injection z, fun z => by rw [z]⟩
  have hd2 : decide (V.int k = V.int 1) = decide (k = 1) := decide_eq_decide.mpr ⟨fun z => by injection z, fun z => by rw [z]⟩
  unfold rd_whole_root
  walk_at "rd"
  rw [hd1]
  refine e_ite (fun h0 => ?_) (fun h0 => ?_)
  · walk_at "rd"
    subst h0
    refine q 0 H (by decide) ?_ ?_ Ext.rfl'
    · rw [Int.zero_pow (by omega)]; decide
    · show (0 : Int) < (0 + 1) ^ k.toNat
      rw [show (0 : Int) + 1 = 1 by decide, Int.one_pow]; decide
  walk_at "rd"
  rw [hd2]
  refine e_ite (fun h1 => ?_) (fun h1 => ?_)
  · walk_at "rd"
    subst h1
    refine q n H hn ?_ ?_ Ext.rfl'
    · show n ^ 1 ≤ n
      rw [Int.pow_succ, Int.pow_zero, Int.one_mul]; exact Int.le_refl _
    · show n < (n + 1) ^ 1
      rw [Int.pow_succ, Int.pow_zero, Int.one_mul]; omega
  obtain ⟨j, rfl⟩ : ∃ j : Nat, k = (j : Int) + 1 := ⟨(k - 1).toNat, by omega⟩
  have hj1 : 1 ≤ j := by omega
  have hj64 : j ≤ 63 := by omega
  have hkn : ((j : Int) + 1).toNat = j + 1 := by omega
  rw [hkn] at q
  have e1 : ((j : Int) + 1 - 1) = (j : Int) := by omega
  obtain ⟨r, r0, rle, rlt⟩ := root_exists n hn j
  walk_at "rd"
  refine ⟨n, rfl, hn, hs, fun b H1 hb hb2 eb => ?_⟩
  · have hbn : b ≤ 2000 := by
      rcases hb2 with rfl | hb2
      · decide
      · have hnb : n < 2 ^ 2000 := by
          have : n.natAbs < 2 ^ 2000 := hs
          have e : ((2 ^ 2000 : Nat) : Int) = 2 ^ 2000 := by rw [Int.natCast_pow]; rfl
          omega
        have := two_le_inv (a := b - 1) (b := 2000) (by omega)
        omega
    have ec : (((b : Int) + ((j : Int) + 1) - 1) / ((j : Int) + 1)) = (((b + (j + 1) - 1) / (j + 1) : Nat) : Int) := by
      rw [Int.natCast_ediv]; congr 1
      all_goals omega
    have hcp := ceil_pow (k := j + 1) (by omega) hb
    have hck : (b + (j + 1) - 1) / (j + 1) * (j + 1) ≤ b + j := by
      have := Nat.div_mul_le_self (b + (j + 1) - 1) (j + 1)
      omega
    have hc1 : (b + (j + 1) - 1) / (j + 1) ≤ 2100 := by
      have : (b + (j + 1) - 1) / (j + 1) * 1 ≤ (b + (j + 1) - 1) / (j + 1) * (j + 1) := Nat.mul_le_mul_left _ (by omega)
      omega
    have hc2 : (b + (j + 1) - 1) / (j + 1) * j ≤ 2100 := by
      have : (b + (j + 1) - 1) / (j + 1) * j ≤ (b + (j + 1) - 1) / (j + 1) * (j + 1) := Nat.mul_le_mul_left _ (by omega)
      omega
    generalize (b + (j + 1) - 1) / (j + 1) = c at *
    have hGp : (1 : Int) ≤ 2 ^ c := two_pow_pos _
    have two_sz : ∀ x : Nat, x ≤ 2100 → Sz 2101 ((2 : Int) ^ x) := fun x hx => by
      show ((2 : Int) ^ x).natAbs < 2 ^ 2101
      rw [Int.natAbs_pow]
      exact Nat.pow_lt_pow_right (by decide) (by omega)
    have hGs := two_sz c hc1
    have hGj : Sz 2101 (((2 : Int) ^ c) ^ j) := by rw [← Int.pow_mul]; exact two_sz _ hc2
    obtain ⟨G, eG⟩ : ∃ G : Int, G = 2 ^ c := ⟨_, rfl⟩
    rw [← eG] at hGp hGs hGj hcp
    have hrG : r ≤ G := by
      have := pow_lt_inv (x := r) (y := G) (n := j + 1) (by omega) (by omega) r0
      omega
    have hr1 : 1 ≤ r := by
      rcases Int.lt_or_le r 1 with z | z
      · have : r = 0 := by omega
        subst this
        rw [show (0 : Int) + 1 = 1 by decide, Int.one_pow] at rlt
        omega
      · exact z
    have room : ((j : Int).toNat + 1) * 2101 ≤ 900000 := by
      have : (j : Int).toNat + 1 ≤ 64 := by omega
      have := Nat.mul_le_mul_right 2101 this
      omega
    have gpow : ∀ g : Int, 1 ≤ g → g ≤ G → 1 ≤ g ^ j ∧ Sz 2101 (g ^ j) := fun g g1 g2 => ⟨pow_pos' g1 j, Sz.of_le (by have := pow_pos' g1 j; omega) (pow_mono (by omega) g2 j) hGj⟩
    have gsz : ∀ g : Int, 1 ≤ g → g ≤ G → Sz 2101 g := fun g g1 g2 => Sz.of_le (by omega) g2 hGs
    have stepOk : ∀ (g : Int) (σ : L2.St) (H' : Hp) (R : VK), 1 ≤ g → g ≤ G → σ[0]? = some (some (.int n)) → σ[1]? = some (some (.int ((j : Int) + 1))) → σ[2]? = some (some (.int g)) → R (.int (((j : Int) * g + n / g ^ j) / ((j : Int) + 1))) H' →
        (tOp FW.rDiv (tOp FW.rAdd (tOp FW.rMul (tOp FW.rSub (tVar 1) (tC (.int 1))) (tVar 2)) (tOp FW.rDiv (tVar 0) (tCall (sp_power K) [] E0 (tCons (tVar 2) (tCons (tOp FW.rSub (tVar 1) (tC (.int 1))) (tNil)))))) (tVar 1)) σ H' R := by
      intro g σ H' R g1 g2 s0 s1 s2 hR
      obtain ⟨pg1, pg2⟩ := gpow g g1 g2
      refine e_op (e_op (e_op (e_op (e_var (e_c (e_I0 ?_)) s1))))
      refine e_var (e_I ?_ ?_) s2
      · refine e_op (e_var (e_call (e_cons (e_var (e_cons (e_op (e_var (e_c (e_I0 (e_nil ?_))) s1))) s2))) s0)
        rw [e1]
        refine ⟨g, (j : Int), 2101, rfl, by omega, gsz g g1 g2, by decide, room, ?_⟩
        rw [Int.toNat_natCast]
        refine e_I (e_I0 (e_var (e_I hR ?_) s1)) ?_
        · exact wide_div (b := 10) (by omega) (by show ((j : Int) + 1).natAbs < 1024; omega) (by decide) (by decide)
        · exact wide_div (b := 2101) (by omega) pg2 (by decide) (by decide)
      · rw [e1]
        exact wide_mul (a := 10) (b := 2101) (by show (j : Int).natAbs < 1024; omega) (gsz g g1 g2) (by decide) (by decide) (by decide)
    walk_at "re"
    · rw [ec, Int.toNat_natCast, Int.one_mul, ← eG]
      with_reducible refine s_seq ?_
      with_reducible refine s_asg ?_
      refine stepOk G _ _ _ hGp (Int.le_refl _) rfl rfl rfl ?_
      with_reducible refine s_seq ?_
      refine s_while (fun m σ H' => H' = H1 ∧ ∃ g : Int, r ≤ g ∧ g ≤ G ∧ m = g.toNat ∧ σ = [some (.int n), some (.int ((j : Int) + 1)), some (.int g), some (.int (((j : Int) * g + n / g ^ j) / ((j : Int) + 1)))]) _ ⟨rfl, G, hrG, Int.le_refl _, rfl, rfl⟩ ?_
      rintro m σ H' ⟨rfl, g, g1, g2, rfl, rfl⟩
      have hnew := newton_ge (n := n) (g := g) (r := r) (k := j) (by omega) r0 rle
      walk_at "rd"
      refine e_ite (fun hgo => ?_) (fun hno => ?_)
      · refine ⟨fun σ' H'' => H'' = H' ∧ ∃ g' : Int, r ≤ g' ∧ g' ≤ G ∧ g' < g ∧ σ' = [some (.int n), some (.int ((j : Int) + 1)), some (.int g'), some (.int (((j : Int) * g' + n / g' ^ j) / ((j : Int) + 1)))], fun σ' H'' h => ?_, ?_⟩
        · obtain ⟨h1, g', a1, a2, a3, a4⟩ := h
          exact ⟨g'.toNat, by omega, h1, g', a1, a2, rfl, a4⟩
        unfold rd_whole_root_L1
        with_reducible refine s_seq ?_
        with_reducible refine s_asg ?_
        refine e_var ?_ rfl
        with_reducible refine s_asg ?_
        refine stepOk _ _ _ _ (Int.le_trans hr1 hnew) (by omega) rfl rfl rfl ?_
        exact ⟨rfl, _, hnew, by omega, hgo, rfl⟩
      · have hst := newton_stop (n := n) (g := g) (k := j) (by omega) (by omega)
        have : g < r + 1 := pow_lt_inv (n := j + 1) (by omega) (by omega) (by omega)
        have e : g = r := by omega
        subst e
        walk_at "rd"
        exact q g _ r0 rle rlt eb
    · exact ⟨by omega, by omega, by decide⟩
    · exact ⟨by omega, by
        have : ((j : Int) + 1).natAbs.log2 ≤ ((j : Int) + 1).natAbs := Nat.log2_le_self _
        omega⟩
end FWL
namespace FWL
open PySem PySem.Spec PyProof.Rows L2 FW
/-! ### polynomials with whole coefficients: equal values, shifted, far out -/
theorem dvd_small {x : Int} {N : Int} (h : ∀ r, N ≤ r → ∃ y, x = r * y) : x = 0 := by
  have hr : N ≤ (if N ≤ x.natAbs + 1 then (x.natAbs : Int) + 1 else N) := by split <;> omega
  obtain ⟨y, hy⟩ := h _ hr
  generalize hR : (if N ≤ x.natAbs + 1 then (x.natAbs : Int) + 1 else N) = R at *
  have hR1 : (x.natAbs : Int) + 1 ≤ R := by rw [← hR]; split <;> omega
  rcases Int.lt_trichotomy y 0 with h0 | h0 | h0
  · have : R * y ≤ R * (-1) := Int.mul_le_mul_of_nonneg_left (by omega) (by omega)
    omega
  · rw [h0, Int.mul_zero] at hy; exact hy
  · have : R * 1 ≤ R * y := Int.mul_le_mul_of_nonneg_left (by omega) (by omega)
    omega
theorem pv_zero_all : ∀ (xs : List Int) (N : Int), (∀ r, N ≤ r → pvl xs r = 0) → ∀ c ∈ xs, c = 0
  | [], _, _ => fun c hc => by cases hc
  | x :: xs, N, h => by
    have hx : x = 0 := dvd_small (N := N) fun r hr => ⟨-pvl xs r, by have := h r hr; rw [pvl] at this; rw [Int.mul_neg]; omega⟩
    have ih := pv_zero_all xs (if 1 ≤ N then N else 1) fun r hr => by
      have hr1 : 1 ≤ r ∧ N ≤ r := by split at hr <;> omega
      have := h r hr1.2
      rw [pvl, hx, Int.zero_add] at this
      rcases Int.mul_eq_zero.mp this with z | z
      · omega
      · exact z
    intro c hc
    rcases List.mem_cons.mp hc with rfl | hc
    · exact hx
    · exact ih c hc
theorem pv_prefix : ∀ (cs ds : List Int) (N : Int), (∀ r, N ≤ r → pvl cs r = pvl ds r) → cs.getLast? ≠ some 0 → ∃ k, cs = ds.take k
  | [], ds, _, _, _ => ⟨0, by simp⟩
  | c :: cs, [], N, h, hl => by
    have z := pv_zero_all (c :: cs) N fun r hr => h r hr
    exfalso
    have hne : (c :: cs) ≠ [] := by simp
    have : (c :: cs).getLast? = some ((c :: cs).getLast hne) := by rw [List.getLast?_eq_some_getLast hne]
    rw [this, z _ (List.getLast_mem hne)] at hl
    exact hl rfl
  | c :: cs, d :: ds, N, h, hl => by
    have hcd : c - d = 0 := dvd_small (N := N) fun r hr => ⟨pvl ds r - pvl cs r, by have := h r hr; rw [pvl, pvl] at this; rw [Int.mul_sub]; omega⟩
    have hcd : c = d := by omega
    subst hcd
    obtain ⟨k, hk⟩ := pv_prefix cs ds (if 1 ≤ N then N else 1) (fun r hr => by
      have hr1 : 1 ≤ r ∧ N ≤ r := by split at hr <;> omega
      have := h r hr1.2
      rw [pvl, pvl] at this
      exact Int.eq_of_mul_eq_mul_left (by omega : r ≠ 0) (by omega)) (by
      cases cs with
      | nil => simp
      | cons x xs => rw [List.getLast?_cons_cons] at hl; exact hl)
    exact ⟨k + 1, by rw [List.take_succ_cons, ← hk]⟩
/-- the polynomial at r + 1, and that less the polynomial -/
def shiftL : List Int → List Int
  | [] => []
  | c :: cs => List.zipWith (· + ·) (c :: shiftL cs) (shiftL cs ++ [0])
theorem shiftL_len : ∀ ns : List Int, (shiftL ns).length = ns.length
  | [] => rfl
  | c :: cs => by
    have := shiftL_len cs
    simp only [shiftL, List.length_zipWith, List.length_cons, List.length_append, List.length_nil, this]; omega
theorem shiftL_pv : ∀ (ns : List Int) (r : Int), pvl (shiftL ns) r = pvl ns (r + 1)
  | [], r => rfl
  | c :: cs, r => by
    have ih := shiftL_pv cs r
    rw [shiftL, pv_zip _ _ (by simp), pv_append, pvl, pvl, ih]
    simp only [pvl]
    grind
theorem zip_sz {b : Nat} : ∀ {xs ys : List Int}, (∀ c ∈ xs, Sz b c) → (∀ c ∈ ys, Sz b c) → ∀ c ∈ List.zipWith (· + ·) xs ys, Sz (b + 1) c
  | [], _, _, _, c, h => by simp at h
  | _ :: _, [], _, _, c, h => by simp at h
  | x :: xs, y :: ys, hx, hy, c, h => by
    rw [List.zipWith_cons_cons] at h
    rcases List.mem_cons.mp h with rfl | h
    · exact (hx x List.mem_cons_self).add (hy y List.mem_cons_self)
    · exact zip_sz (fun c hc => hx c (List.mem_cons_of_mem _ hc)) (fun c hc => hy c (List.mem_cons_of_mem _ hc)) c h
theorem sz0 {b : Nat} : Sz b 0 := Nat.pow_pos (by decide)
theorem shiftL_sz {b : Nat} : ∀ {ns : List Int}, (∀ c ∈ ns, Sz b c) → ∀ c ∈ shiftL ns, Sz (b + ns.length) c
  | [], _, c, h => by cases h
  | x :: xs, hx, c, h => by
    have ih := shiftL_sz (fun c hc => hx c (List.mem_cons_of_mem _ hc))
    refine zip_sz (b := b + xs.length) ?_ ?_ c h
    · intro z hz
      rcases List.mem_cons.mp hz with rfl | hz
      · exact (hx _ List.mem_cons_self).mono (by omega)
      · exact ih z hz
    · intro z hz
      rcases List.mem_append.mp hz with hz | hz
      · exact ih z hz
      · simp only [List.mem_cons, List.not_mem_nil, or_false] at hz; subst hz; exact sz0
def diffL : List Int → List Int
  | [] => []
  | _ :: cs => List.zipWith (· + ·) (0 :: diffL cs) (shiftL cs)
theorem diffL_len : ∀ ns : List Int, (diffL ns).length = ns.length - 1
  | [] => rfl
  | c :: cs => by
    have := diffL_len cs
    simp only [diffL, List.length_zipWith, List.length_cons, shiftL_len, this]; omega
theorem diffL_pv : ∀ (ns : List Int) (r : Int), pvl (diffL ns) r = pvl ns (r + 1) - pvl ns r
  | [], r => by simp [diffL, pvl]
  | [c], r => by simp [diffL, pvl, shiftL]
  | c :: d :: cs, r => by
    have ih := diffL_pv (d :: cs) r
    rw [diffL, pv_zip _ _ (by rw [List.length_cons, diffL_len, shiftL_len]; simp), shiftL_pv]
    rw [pvl, ih]
    generalize hp : pvl (d :: cs) (r + 1) = p at *
    generalize hq : pvl (d :: cs) r = q at *
    rw [show pvl (c :: d :: cs) (r + 1) = c + (r + 1) * p from by rw [pvl, hp], show pvl (c :: d :: cs) r = c + r * q from by rw [pvl, hq]]
    grind
theorem diffL_sz {b : Nat} : ∀ {ns : List Int}, (∀ c ∈ ns, Sz b c) → ∀ c ∈ diffL ns, Sz (b + ns.length) c
  | [], _, c, h => by cases h
  | x :: xs, hx, c, h => by
    have ih := diffL_sz (fun c hc => hx c (List.mem_cons_of_mem _ hc))
    refine zip_sz (b := b + xs.length) ?_ (shiftL_sz fun c hc => hx c (List.mem_cons_of_mem _ hc)) c h
    intro z hz
    rcases List.mem_cons.mp hz with rfl | hz
    · exact sz0
    · exact ih z hz
/-- far out the last coefficient settles the sign -/
theorem pv_low {M r : Int} (hr : 2 ≤ r) : ∀ {xs : List Int}, (∀ c ∈ xs, c.natAbs ≤ M) → (r - 1) * (pvl xs r).natAbs ≤ M * (r ^ xs.length - 1)
  | [], _ => by simp [pvl]
  | x :: xs, h => by
    have ih := pv_low hr (fun c hc => h c (List.mem_cons_of_mem _ hc))
    have hx : (x.natAbs : Int) ≤ M := by exact_mod_cast h x List.mem_cons_self
    have h1 : ((pvl (x :: xs) r).natAbs : Int) ≤ x.natAbs + r * (pvl xs r).natAbs := by
      rw [pvl]
      have : ((x + r * pvl xs r).natAbs : Int) ≤ x.natAbs + (r * pvl xs r).natAbs := by omega
      have e : ((r * pvl xs r).natAbs : Int) = r * (pvl xs r).natAbs := by
        rw [Int.natAbs_mul]; push_cast; rw [show ((r.natAbs : Nat) : Int) = r by omega]
      omega
    generalize ((pvl (x :: xs) r).natAbs : Int) = A at *
    generalize ((pvl xs r).natAbs : Int) = B at *
    generalize ((x.natAbs : Nat) : Int) = C at *
    rw [List.length_cons, Int.pow_succ]
    generalize r ^ xs.length = P at *
    have h2 : (r - 1) * A ≤ (r - 1) * (C + r * B) := Int.mul_le_mul_of_nonneg_left h1 (by omega)
    have h3 : r * ((r - 1) * B) ≤ r * (M * (P - 1)) := Int.mul_le_mul_of_nonneg_left ih (by omega)
    have h4 : (r - 1) * C ≤ (r - 1) * M := Int.mul_le_mul_of_nonneg_left hx (by omega)
    have e1 : (r - 1) * (C + r * B) = (r - 1) * C + r * ((r - 1) * B) := by grind
    have e2 : M * (P * r - 1) = (r - 1) * M + r * (M * (P - 1)) := by grind
    omega
theorem sgn_pos {x : Int} (h : 0 < x) : sgn x = 1 := by unfold sgn; rw [if_pos h, if_neg (by omega)]; rfl
theorem sgn_neg {x : Int} (h : x < 0) : sgn x = -1 := by unfold sgn; rw [if_neg (by omega), if_pos h]; rfl
theorem sgn_zero : sgn 0 = 0 := by decide
theorem pv_far {xs : List Int} {l M r : Int} (hl : l ≠ 0) (h : ∀ c ∈ xs, c.natAbs ≤ M) (hM : M < l.natAbs * (r - 1)) (hr : 2 ≤ r) : sgn (pvl (xs ++ [l]) r) = sgn l := by
  have h1 := pv_low hr h
  rw [pv_append]
  have e : pvl [l] r = l := by simp [pvl]
  rw [e]
  have hP : 1 ≤ r ^ xs.length := Int.pow_pos (n := r) (m := xs.length) (by omega)
  have hM0 : 0 ≤ M ∨ xs = [] := by
    cases xs with
    | nil => exact .inr rfl
    | cons x xs => exact .inl (by have := h x List.mem_cons_self; omega)
  generalize r ^ xs.length = P at *
  generalize pvl xs r = A at *
  have key : (A.natAbs : Int) < P * l.natAbs := by
    have h2 : M * (P - 1) ≤ (l.natAbs * (r - 1)) * (P - 1) := Int.mul_le_mul_of_nonneg_right (by omega) (by omega)
    have h3 : (r - 1) * (A.natAbs : Int) < (r - 1) * (P * l.natAbs) := by
      have e3 : (l.natAbs * (r - 1)) * (P - 1) = (r - 1) * (P * l.natAbs) - (r - 1) * l.natAbs := by grind
      have : 0 < (r - 1) * (l.natAbs : Int) := Int.mul_pos (by omega) (by omega)
      omega
    exact Int.lt_of_mul_lt_mul_left h3 (by omega)
  rcases Int.lt_trichotomy l 0 with h0 | h0 | h0
  · have : P * l = -(P * l.natAbs) := by rw [show (l.natAbs : Int) = -l by omega, Int.mul_neg, Int.neg_neg]
    rw [sgn_neg h0, sgn_neg (by omega)]
  · exact absurd h0 hl
  · have : P * l = P * l.natAbs := by rw [show (l.natAbs : Int) = l by omega]
    rw [sgn_pos h0, sgn_pos (by omega)]

/-! ### where the sign changes -/
/-- f does not turn between b and e -/
def MonOn (f : Int → Int) (b e : Int) : Prop := (∀ x y, b ≤ x → x ≤ y → y ≤ e → f x ≤ f y) ∨ (∀ x y, b ≤ x → x ≤ y → y ≤ e → f y ≤ f x)
theorem mon_up {f : Int → Int} {b e : Int} (h : ∀ r, b ≤ r → r < e → f r ≤ f (r + 1)) : ∀ (n : Nat) (x : Int), b ≤ x → x + n ≤ e → f x ≤ f (x + n)
  | 0, x, _, _ => by simp
  | n + 1, x, hb, he => by
    have ih := mon_up h n x hb (by omega)
    have := h (x + n) (by omega) (by omega)
    have e1 : x + ((n + 1 : Nat) : Int) = x + n + 1 := by omega
    rw [e1]; omega
theorem mon_of_diff {f : Int → Int} {b e : Int} (h : (∀ r, b ≤ r → r < e → 0 ≤ f (r + 1) - f r) ∨ (∀ r, b ≤ r → r < e → f (r + 1) - f r ≤ 0)) : MonOn f b e := by
  rcases h with h | h
  · left
    intro x y hb hxy he
    have := mon_up (f := f) (b := b) (e := e) (fun r h1 h2 => by have := h r h1 h2; omega) (y - x).toNat x hb (by omega)
    rwa [show x + ((y - x).toNat : Int) = y by omega] at this
  · right
    intro x y hb hxy he
    have := mon_up (f := fun r => -f r) (b := b) (e := e) (fun r h1 h2 => by have := h r h1 h2; omega) (y - x).toNat x hb (by omega)
    rw [show x + ((y - x).toNat : Int) = y by omega] at this
    omega
theorem sgn_mono {x y : Int} (h : x ≤ y) : sgn x ≤ sgn y := by
  unfold sgn
  split <;> split <;> split <;> split <;> omega
/-- between two places of one sign there is no other sign -/
theorem MonOn.same {f : Int → Int} {b e x y z : Int} (m : MonOn f b e) (hb : b ≤ x) (hxy : x ≤ y) (hyz : y ≤ z) (hz : z ≤ e) (hs : sgn (f x) = sgn (f z)) : sgn (f y) = sgn (f x) := by
  rcases m with m | m
  · have h1 := sgn_mono (m x y hb hxy (by omega)); have h2 := sgn_mono (m y z (by omega) hyz hz); omega
  · have h1 := sgn_mono (m x y hb hxy (by omega)); have h2 := sgn_mono (m y z (by omega) hyz hz); omega
/-- L: the places behind a, up to e, at which the sign is another one than just ahead -/
structure ChgIn (f : Int → Int) (a e : Int) (L : List Int) : Prop where
  asc : L.Pairwise (· < ·)
  mem : ∀ r, r ∈ L ↔ (a < r ∧ r ≤ e ∧ sgn (f r) ≠ sgn (f (r - 1)))
theorem ChgIn.nil {f : Int → Int} {a : Int} : ChgIn f a a [] := ⟨.nil, fun r => ⟨fun h => (by cases h), fun h => absurd h.1 (by omega)⟩⟩
theorem ChgIn.snoc {f : Int → Int} {a b n : Int} {L : List Int} (h : ChgIn f a b L) (hab : a ≤ b) (hbn : b < n) (hs : ∀ r, b < r → r < n → sgn (f r) = sgn (f b)) (hn : sgn (f n) ≠ sgn (f b)) : ChgIn f a n (L ++ [n]) := by
  refine ⟨?_, fun r => ?_⟩
  · rw [List.pairwise_append]
    exact ⟨h.asc, .cons (fun _ z => by cases z) .nil, fun x hx y hy => by
      have := (h.mem x).mp hx
      simp only [List.mem_cons, List.not_mem_nil, or_false] at hy
      omega⟩
  · rw [List.mem_append, h.mem]
    simp only [List.mem_cons, List.not_mem_nil, or_false]
    have pre : ∀ r, b ≤ r → r < n → sgn (f r) = sgn (f b) := fun r h1 h2 => by
      rcases Int.lt_or_eq_of_le h1 with z | z
      · exact hs r z h2
      · rw [z]
    constructor
    · rintro (⟨h1, h2, h3⟩ | rfl)
      · exact ⟨h1, by omega, h3⟩
      · exact ⟨by omega, by omega, by rw [pre (r - 1) (by omega) (by omega)]; exact hn⟩
    · rintro ⟨h1, h2, h3⟩
      by_cases hr : r ≤ b
      · exact .inl ⟨h1, hr, h3⟩
      · by_cases hr2 : r = n
        · exact .inr hr2
        · exact absurd ((pre r (by omega) (by omega)).trans (pre (r - 1) (by omega) (by omega)).symm) h3
theorem ChgIn.stay {f : Int → Int} {a b e : Int} {L : List Int} (h : ChgIn f a b L) (hbe : b ≤ e) (hs : ∀ r, b < r → r ≤ e → sgn (f r) = sgn (f b)) : ChgIn f a e L := by
  refine ⟨h.asc, fun r => ?_⟩
  rw [h.mem]
  have pre : ∀ r, b ≤ r → r ≤ e → sgn (f r) = sgn (f b) := fun r h1 h2 => by
    rcases Int.lt_or_eq_of_le h1 with z | z
    · exact hs r z h2
    · rw [z]
  constructor
  · rintro ⟨h1, h2, h3⟩; exact ⟨h1, by omega, h3⟩
  · rintro ⟨h1, h2, h3⟩
    by_cases hr : r ≤ b
    · exact ⟨h1, hr, h3⟩
    · exact absurd ((pre r (by omega) h2).trans (pre (r - 1) (by omega) (by omega)).symm) h3
/-- .. behind a, all of them -/
structure Chg (f : Int → Int) (a : Int) (L : List Int) : Prop where
  asc : L.Pairwise (· < ·)
  mem : ∀ r, r ∈ L ↔ (a < r ∧ sgn (f r) ≠ sgn (f (r - 1)))
theorem Chg.const {f : Int → Int} {a : Int} (h : ∀ r, sgn (f r) = sgn (f 0)) : Chg f a [] := ⟨.nil, fun r => ⟨fun z => (by cases z), fun z => absurd ((h r).trans (h (r - 1)).symm) z.2⟩⟩
theorem sgn_run {f : Int → Int} {b : Int} (h : ∀ r, b < r → sgn (f r) = sgn (f (r - 1))) : ∀ n : Nat, sgn (f (b + n)) = sgn (f b)
  | 0 => by simp
  | n + 1 => by
    have := h (b + ((n + 1 : Nat) : Int)) (by omega)
    rw [this, show b + ((n + 1 : Nat) : Int) - 1 = b + n by omega]
    exact sgn_run h n
theorem Chg.none_ {f : Int → Int} {a : Int} (h : Chg f a []) : ∀ r, a ≤ r → sgn (f r) = sgn (f a) := fun r hr => by
  have := sgn_run (f := f) (b := a) (fun r hr => Classical.byContradiction fun z => by
    have := (h.mem r).mpr ⟨hr, z⟩
    cases this) (r - a).toNat
  rwa [show a + ((r - a).toNat : Int) = r by omega] at this
theorem sgn_runE {f : Int → Int} {b e : Int} (h : ∀ r, b < r → r ≤ e → sgn (f r) = sgn (f (r - 1))) : ∀ n : Nat, b + n ≤ e → sgn (f (b + n)) = sgn (f b)
  | 0, _ => by simp
  | n + 1, he => by
    have := h (b + ((n + 1 : Nat) : Int)) (by omega) he
    rw [this, show b + ((n + 1 : Nat) : Int) - 1 = b + n by omega]
    exact sgn_runE h n (by omega)
/-- where the difference keeps its sign there is no turn -/
theorem mon_seg {f g : Int → Int} {b e : Int} (hg : ∀ r, g r = f (r + 1) - f r) (h : ∀ r, b < r → r < e → sgn (g r) = sgn (g (r - 1))) : MonOn f b e := by
  have hs : ∀ r, b ≤ r → r < e → sgn (g r) = sgn (g b) := fun r h1 h2 => by
    have := sgn_runE (f := g) (b := b) (e := e - 1) (fun r a1 a2 => h r a1 (by omega)) (r - b).toNat (by omega)
    rwa [show b + ((r - b).toNat : Int) = r by omega] at this
  refine mon_of_diff ?_
  have sg : ∀ x y : Int, sgn x = sgn y → 0 ≤ y → 0 ≤ x := fun x y e hy => by
    unfold sgn at e
    split at e <;> split at e <;> split at e <;> split at e <;> omega
  have sg' : ∀ x y : Int, sgn x = sgn y → y ≤ 0 → x ≤ 0 := fun x y e hy => by
    unfold sgn at e
    split at e <;> split at e <;> split at e <;> split at e <;> omega
  rcases Int.le_total 0 (g b) with h0 | h0
  · left
    intro r h1 h2
    rw [← hg]; exact sg _ _ (hs r h1 h2) h0
  · right
    intro r h1 h2
    rw [← hg]; exact sg' _ _ (hs r h1 h2) h0
end FWL
namespace FWL
open PySem PySem.Spec PyProof.Rows L2 FW
/-! ### comprehensions over ints: [f(c) for c in s if p(c)] -/
section
variable {K : PySem.W.Frag} {σ : L2.St} {H : Hp} {Q : VK} {a : Addr} {ns : List Int} {n : Nat} {tt : TT} {te : TE} {p : Int → Bool} {f : Int → Int}
theorem ints_at {i : Nat} {x : V} (h : (ns.map V.int)[i]? = some x) : ∃ c, x = .int c ∧ ns[i]? = some c := by
  rw [List.getElem?_map] at h
  cases e : ns[i]? with
  | none => rw [e] at h; cases h
  | some c => rw [e] at h; cases h; exact ⟨c, rfl, rfl⟩
theorem lc_step {D : Addr} {i : Nat} {c : Int} (hD : H D = none) (hl : ns.length ≤ 100000) (hc : ns[i]? = some c) (hw : ∀ v : V, wipe ((wipe σ [n]).set n (some v)) [n] = wipe σ [n])
    (ht : ∀ c ∈ ns, ∀ (H' : Hp) (R : Bool → Hp → Prop), Ext H H' → R (p c) H' → tt ((wipe σ [n]).set n (some (.int c))) H' R)
    (he : ∀ c ∈ ns, p c = true → ∀ (H' : Hp) (R : VK), Ext H H' → R (.int (f c)) H' → te ((wipe σ [n]).set n (some (.int c))) H' R) :
    gName n (.int c) (wipe σ [n]) (upd H D (.lst ((((ns.take i).filter p).map f).map V.int))) fun σ2 H2 => wipe σ2 [n] = wipe σ [n] ∧ tt σ2 H2 fun b H3 =>
      if b = true then te σ2 H3 fun y H4 => ∃ acc, H4 D = some (.lst acc) ∧ acc.length < sizeLine ∧ (i + 1 ≤ ns.length ∧ upd H4 D (.lst (acc ++ [y])) = upd H D (.lst ((((ns.take (i + 1)).filter p).map f).map V.int))) else (i + 1 ≤ ns.length ∧ H3 = upd H D (.lst ((((ns.take (i + 1)).filter p).map f).map V.int))) := by
  have hi := (List.getElem?_eq_some_iff.mp hc).1
  have hm : c ∈ ns := List.mem_of_getElem? hc
  have eX : Ext H (upd H D (.lst ((((ns.take i).filter p).map f).map V.int))) := Ext.new hD
  have et : ns.take (i + 1) = ns.take i ++ [c] := by rw [List.take_add_one, hc]; rfl
  refine g_name ⟨hw _, ht c hm _ _ eX ?_⟩
  cases hp : p c with
  | true =>
    rw [if_pos rfl]
    refine he c hm hp _ _ eX ⟨_, upd_same, ?_, hi, ?_⟩
    · rw [List.length_map, List.length_map]
      have := List.length_filter_le p (ns.take i)
      rw [List.length_take] at this
      show _ < 2 ^ 24
      omega
    · rw [et, List.filter_append, List.filter_cons_of_pos hp, List.filter_nil, List.map_append, List.map_append, upd_upd]; rfl
  | false =>
    rw [if_neg (by decide)]
    refine ⟨hi, ?_⟩
    rw [et, List.filter_append, List.filter_cons_of_neg (by rw [hp]; decide), List.filter_nil, List.append_nil]
theorem lcT_gen (h : SqT K H a (ns.map V.int)) (hl : ns.length ≤ 100000) (hw : ∀ v : V, wipe ((wipe σ [n]).set n (some v)) [n] = wipe σ [n])
    (ht : ∀ c ∈ ns, ∀ (H' : Hp) (R : Bool → Hp → Prop), Ext H H' → R (p c) H' → tt ((wipe σ [n]).set n (some (.int c))) H' R)
    (he : ∀ c ∈ ns, p c = true → ∀ (H' : Hp) (R : VK), Ext H H' → R (.int (f c)) H' → te ((wipe σ [n]).set n (some (.int c))) H' R)
    (q : ∀ D, H D = none → Q (.ref D) (upd H D (.lst (((ns.filter p).map f).map V.int)))) : LcK (gName n) tt te [n] σ Q (Itt K a) H := by
  intro D hD
  refine lc_tup (K := K) (a := a) (xs := ns.map V.int) (fun i H' => i ≤ ns.length ∧ H' = upd H D (.lst ((((ns.take i).filter p).map f).map V.int))) ⟨Nat.zero_le _, rfl⟩ (fun i H' _ h' => by rw [h'.2]; exact Ext.sqT (Ext.new hD) h) ?_ ?_
  · rintro i x H' hx ⟨_, rfl⟩
    obtain ⟨c, rfl, hc⟩ := ints_at hx
    exact lc_step hD hl hc hw ht he
  · rintro H' ⟨_, rfl⟩
    rw [List.length_map, List.take_of_length_le (Nat.le_refl _)]
    exact q D hD
theorem lcL_gen (h : SqL K H a (ns.map V.int)) (hl : ns.length ≤ 100000) (hw : ∀ v : V, wipe ((wipe σ [n]).set n (some v)) [n] = wipe σ [n])
    (ht : ∀ c ∈ ns, ∀ (H' : Hp) (R : Bool → Hp → Prop), Ext H H' → R (p c) H' → tt ((wipe σ [n]).set n (some (.int c))) H' R)
    (he : ∀ c ∈ ns, p c = true → ∀ (H' : Hp) (R : VK), Ext H H' → R (.int (f c)) H' → te ((wipe σ [n]).set n (some (.int c))) H' R)
    (q : ∀ D, H D = none → Q (.ref D) (upd H D (.lst (((ns.filter p).map f).map V.int)))) : LcK (gName n) tt te [n] σ Q (Itl K a) H := by
  intro D hD
  refine lc_list (K := K) (a := a) (xs := ns.map V.int) (fun i H' => i ≤ ns.length ∧ H' = upd H D (.lst ((((ns.take i).filter p).map f).map V.int))) ⟨Nat.zero_le _, rfl⟩ (fun i H' _ h' => by rw [h'.2]; exact Ext.sqL (Ext.new hD) h) ?_ ?_
  · rintro i x H' hx ⟨_, rfl⟩
    obtain ⟨c, rfl, hc⟩ := ints_at hx
    exact lc_step hD hl hc hw ht he
  · rintro H' ⟨_, rfl⟩
    rw [List.length_map, List.take_of_length_le (Nat.le_refl _)]
    exact q D hD
end
theorem filter_all (ns : List Int) : ns.filter (fun _ => true) = ns := by rw [List.filter_eq_self]; intro _ _; rfl
theorem yes_all {σ : L2.St} {H' : Hp} {R : Bool → Hp → Prop} (h : R true H') : tYes σ H' R := h
/-- the greatest, the least of a list of ints -/
theorem e_maxL {K : PySem.W.Frag} {H : Hp} {Q : VK} {a : Addr} {ns : List Int} (h : SqL K H a (ns.map V.int)) (hn : ns ≠ []) (k : ∀ m, m ∈ ns → (∀ c ∈ ns, c ≤ m) → Q (.int m) H) : rMax K [.ref a] H Q :=
  ⟨a, ns, rfl, h, List.length_pos_iff.mpr hn, k⟩
theorem e_minL {K : PySem.W.Frag} {H : Hp} {Q : VK} {a : Addr} {ns : List Int} (h : SqL K H a (ns.map V.int)) (hn : ns ≠ []) (k : ∀ m, m ∈ ns → (∀ c ∈ ns, m ≤ c) → Q (.int m) H) : rMin K [.ref a] H Q :=
  ⟨a, ns, rfl, h, List.length_pos_iff.mpr hn, k⟩
end FWL
namespace FWL
open PySem PySem.Spec PyProof.Rows L2 FW
/-! ### poly_less, settled, next_change -/
theorem pv_neg (ns : List Int) (r : Int) : pvl (ns.map fun c => -c) r = -pvl ns r := by
  induction ns with
  | nil => simp [pvl]
  | cons c cs ih => simp only [List.map_cons, pvl, ih]; grind
def sp_poly_less (K : PySem.W.Frag) : Sp := fun vs H Q _ => ∃ (a b : Addr) (ns ms : List Int), vs = [.ref a, .ref b] ∧ SqA K H a (ns.map V.int) ∧ SqT K H b (ms.map V.int) ∧ ns.length ≤ 100 ∧ ms.length ≤ 100 ∧
  ∀ t cs H', H t = none → Ext H H' → H' t = some (.tup (cs.map V.int)) → (∀ r, pvl cs r = pvl ns r - pvl ms r) → cs.getLast? ≠ some 0 → Q (.ref t) H'
def rd_poly_less (K : PySem.W.Frag) : TS := tRet (tCall (sp_poly_sum K) [] E0 (tCons (tVar 0) (tCons (tCB (FW.rTupS K) (tCons (tLc (iTup K (tVar 1)) (gName 2) (tYes) (tUn FW.rNeg (tVar 2)) [2]) (tNil))) (tNil))))
theorem pure_poly_less (K : PySem.W.Frag) (vs : List V) (H : Hp) (Q : VK) (E : XK) (h : sp_poly_less K vs H Q E) : rd_poly_less K { nx := fun _ H' => Q .non H', rt := Q } (start ["one", "other", "coefficient"] vs) H := by
  obtain ⟨a, b, ns, ms, rfl, hA, hB, hn, hm, q⟩ := h
  unfold rd_poly_less
  walk_at "rd"
  refine i_tup' _ ?_ hB
  refine lcT_gen (p := fun _ => true) (f := fun c => -c) hB (by omega) (fun _ => rfl) (fun c _ H' R _ h => yes_all h) (fun c _ _ H' R _ h => ?_) (fun D hD => ?_)
  · walk_at "rd"
    exact h
  · rw [filter_all]
    have e1 := Ext.new (o := .lst ((ms.map fun c => -c).map V.int)) hD
    walk_at "rd"
    refine e_tupL (fun t ht => ?_) (SqL.of upd_same)
    have e2 := Ext.new (o := .tup ((ms.map fun c => -c).map V.int)) ht
    walk_at "rd"
    refine ⟨a, t, ns, ms.map fun c => -c, rfl, hA.ext (e1.tr e2), .inr (SqT.of upd_same), hn, by simpa using hm, fun t' cs H' ht' e3 g hpv hl _ _ => ?_⟩
    walk_at "rd"
    refine q t' cs H' ((e1.tr e2).non ht') ((e1.tr e2).tr e3) g (fun r => ?_) hl
    rw [hpv r, pv_neg]; omega
def sp_settled (K : PySem.W.Frag) : Sp := fun vs H Q _ => ∃ (a : Addr) (ns : List Int) (b : Nat), vs = [.ref a] ∧ SqT K H a (ns.map V.int) ∧ ns ≠ [] ∧ ns.getLast? ≠ some 0 ∧ ns.length ≤ 100 ∧ (∀ c ∈ ns, Sz b c) ∧ 0 < b ∧ b ≤ 5000 ∧
  ∀ s H', Ext H H' → 2 ≤ s → Sz (b + 2) s → (∀ r, s ≤ r → sgn (pvl ns r) = sgn (pvl ns s)) → Q (.int s) H'
def rd_settled (K : PySem.W.Frag) : TS := tRet (tOp FW.rAdd (tC (.int 2)) (tOp FW.rDiv (tCB (rMax K) (tCons (tLc (iTup K (tVar 0)) (gName 1) (tYes) (tCB FW.rAbs (tCons (tVar 1) (tNil))) [1]) (tNil))) (tCB FW.rAbs (tCons (tOp (rIxT K) (tVar 0) (tUn FW.rNeg (tC (.int 1)))) (tNil)))))
theorem last_of {ns : List Int} (h : ns ≠ []) : ∃ xs l, ns = xs ++ [l] ∧ ns.getLast? = some l := by
  refine ⟨ns.dropLast, ns.getLast h, (List.dropLast_concat_getLast h).symm, List.getLast?_eq_some_getLast h⟩
theorem abs_if (i : Int) : (if i < 0 then -i else i) = (i.natAbs : Int) := by split <;> omega
theorem pure_settled (K : PySem.W.Frag) (vs : List V) (H : Hp) (Q : VK) (E : XK) (h : sp_settled K vs H Q E) : rd_settled K { nx := fun _ H' => Q .non H', rt := Q } (start ["poly", "coefficient"] vs) H := by
  obtain ⟨a, ns, b, rfl, hA, hne, hl, hlen, hsz, hb0, hb, q⟩ := h
  obtain ⟨xs, l, rfl, hlast⟩ := last_of hne
  have hl0 : l ≠ 0 := fun z => hl (by rw [hlast, z])
  unfold rd_settled
  walk_at "rd"
  · refine i_tup' _ ?_ hA
    refine lcT_gen (p := fun _ => true) (f := fun c => (c.natAbs : Int)) hA (by omega) (fun _ => rfl) (fun c _ H' R _ h => yes_all h) (fun c _ _ H' R _ h => ?_) (fun D hD => ?_)
    · walk_at "rd"
      rw [abs_if]; exact h
    · rw [filter_all]
      have e1 := Ext.new (o := .lst (((xs ++ [l]).map fun c => (c.natAbs : Int)).map V.int)) hD
      walk_at "rd"
      refine e_maxL (SqL.of upd_same) (by simp) fun M hM hmax => ?_
      walk_at "rd"
      have hix : atI ((xs ++ [l]).map V.int) (-1) = some (.int l) := by
        unfold atI ixN
        rw [List.length_map, List.length_append, List.length_cons, List.length_nil]
        rw [if_neg (by decide), if_pos (by omega)]
        show ((xs ++ [l]).map V.int)[(-1 + ((xs.length + (0 + 1) : Nat) : Int)).toNat]? = _
        rw [show (-1 + ((xs.length + (0 + 1) : Nat) : Int)).toNat = xs.length by omega, List.map_append]
        simp
      refine e_ixT ?_ (e1.sqT hA) hix
      walk_at "rd"
      · rw [abs_if]
        have hM0 : 0 ≤ M ∧ Sz b M := by
          obtain ⟨c, hc, rfl⟩ := List.mem_map.mp hM
          exact ⟨by omega, by show ((c.natAbs : Int)).natAbs < 2 ^ b; have := hsz c hc; rw [show ((c.natAbs : Int)).natAbs = c.natAbs by omega]; exact this⟩
        have hla : (0 : Int) < l.natAbs := by omega
        have hd0 : 0 ≤ M / (l.natAbs : Int) := Int.ediv_nonneg hM0.1 (by omega)
        have hd1 : M / (l.natAbs : Int) ≤ M := Int.ediv_le_self _ hM0.1
        have hdm := Int.emod_add_mul_ediv M (l.natAbs : Int)
        have hdr := Int.emod_lt_of_pos M hla
        have hdr0 := Int.emod_nonneg M (by omega : (l.natAbs : Int) ≠ 0)
        generalize hq : M / (l.natAbs : Int) = qq at *
        have far : ∀ r, 2 + qq ≤ r → sgn (pvl (xs ++ [l]) r) = sgn l := fun r hr => by
          refine pv_far (M := M) hl0 (fun c hc => hmax _ (List.mem_map.mpr ⟨c, List.mem_append_left _ hc, rfl⟩)) ?_ (by omega)
          have : (l.natAbs : Int) * (1 + qq) ≤ l.natAbs * (r - 1) := Int.mul_le_mul_of_nonneg_left (by omega) (by omega)
          rw [Int.mul_add, Int.mul_one] at this
          omega
        refine q (2 + qq) _ e1 (by omega) ?_ fun r hr => by rw [far r hr, far (2 + qq) (Int.le_refl _)]
        show (2 + qq).natAbs < 2 ^ (b + 2)
        have := hM0.2
        have h2 : M.natAbs < 2 ^ b := this
        rw [Nat.pow_add]
        have : 1 ≤ 2 ^ b := Nat.pow_pos (by decide)
        omega
      · rw [abs_if]
        have hla : (0 : Int) < l.natAbs := by omega
        have : Sz b l := hsz l (by simp)
        exact wide_div (b := b) hla (by rw [show ((l.natAbs : Int)).natAbs = l.natAbs by omega]; exact this) hb0 (by omega)
def sp_next_change (K : PySem.W.Frag) : Sp := fun vs H Q _ => ∃ (a : Addr) (ns : List Int) (b e : Int) (z : Nat), vs = [.ref a, .int b, .int e] ∧ SqT K H a (ns.map V.int) ∧ b < e ∧ MonOn (pvl ns) b e ∧ sgn (pvl ns e) ≠ sgn (pvl ns b) ∧ (∀ c ∈ ns, Sz z c) ∧ Sz z b ∧ Sz z e ∧ (ns.length + 2) * (z + 1) ≤ 900000 ∧
  ∀ n H', Ext H H' → b < n → n ≤ e → (∀ r, b < r → r < n → sgn (pvl ns r) = sgn (pvl ns b)) → sgn (pvl ns n) ≠ sgn (pvl ns b) → Q (.int n) H'
def rd_next_change_L1 (K : PySem.W.Frag) : TS := tSeq (tAsg (tOp FW.rDiv (tOp FW.rAdd (tVar 3) (tVar 4)) (tC (.int 2))) (gName 5)) (tIfS (tTest (tOp rEq (tCall (sp_sign K) [] E0 (tCons (tCall (sp_poly_value K) [] E0 (tCons (tVar 0) (tCons (tVar 5) (tNil)))) (tNil))) (tCall (sp_sign K) [] E0 (tCons (tCall (sp_poly_value K) [] E0 (tCons (tVar 0) (tCons (tVar 1) (tNil)))) (tNil))))) (tAsg (tVar 5) (gName 3)) (tAsg (tVar 5) (gName 4)))
def rd_next_change (K : PySem.W.Frag) : TS := tSeq (tPar 3 4 (tCons (tVar 1) (tCons (tVar 2) (tNil)))) (tSeq (tWhile (tTest (tOp FW.rGt (tOp FW.rSub (tVar 4) (tVar 3)) (tC (.int 1)))) (rd_next_change_L1 K)) (tRet (tVar 4)))
theorem sz_between {z : Nat} {b e x : Int} (hb : Sz z b) (he : Sz z e) (h1 : b ≤ x) (h2 : x ≤ e) : Sz z x := by
  have h3 : b.natAbs < 2 ^ z := hb
  have h4 : e.natAbs < 2 ^ z := he
  show x.natAbs < 2 ^ z
  omega
theorem pure_next_change (K : PySem.W.Frag) (vs : List V) (H : Hp) (Q : VK) (E : XK) (h : sp_next_change K vs H Q E) : rd_next_change K { nx := fun _ H' => Q .non H', rt := Q } (start ["poly", "begun", "beyond", "low", "high", "middle"] vs) H := by
  obtain ⟨a, ns, b, e, z, rfl, hA, hbe, hm, hs, hc, hb, he, hz, q⟩ := h
  unfold rd_next_change
  walk_at "rd"
  refine s_while (fun m σ H' => Ext H H' ∧ ∃ (lo hi : Int) (v5 : Option V), b ≤ lo ∧ lo < hi ∧ hi ≤ e ∧ m = (hi - lo).toNat ∧ sgn (pvl ns lo) = sgn (pvl ns b) ∧ sgn (pvl ns hi) ≠ sgn (pvl ns b) ∧ σ = [some (.ref a), some (.int b), some (.int e), some (.int lo), some (.int hi), v5]) (e - b).toNat ⟨Ext.rfl', b, e, _, Int.le_refl _, hbe, Int.le_refl _, rfl, rfl, hs, rfl⟩ ?_
  rintro m σ H' ⟨e1, lo, hi, v5, h1, h2, h3, rfl, h4, h5, rfl⟩
  walk_at "rd"
  refine e_ite (fun h6 => ?_) (fun h6 => ?_)
  · refine ⟨fun σ' H'' => Ext H H'' ∧ ∃ (lo' hi' : Int) (v5 : Option V), b ≤ lo' ∧ lo' < hi' ∧ hi' ≤ e ∧ (hi' - lo').toNat < (hi - lo).toNat ∧ sgn (pvl ns lo') = sgn (pvl ns b) ∧ sgn (pvl ns hi') ≠ sgn (pvl ns b) ∧ σ' = [some (.ref a), some (.int b), some (.int e), some (.int lo'), some (.int hi'), v5], fun σ' H'' h => ?_, ?_⟩
    · obtain ⟨e2, lo', hi', v5, g1, g2, g3, g4, g5, g6, rfl⟩ := h
      exact ⟨_, g4, e2, lo', hi', v5, g1, g2, g3, rfl, g5, g6, rfl⟩
    unfold rd_next_change_L1
    walk_at "rd"
    · have hmid : lo < (lo + hi) / 2 ∧ (lo + hi) / 2 < hi := by omega
      generalize (lo + hi) / 2 = mid at *
      refine ⟨a, ns, mid, z, rfl, .inr (e1.sqT hA), hc, sz_between hb he (by omega) (by omega), hz, fun H2 e2 => ?_⟩
      walk_at "rd"
      refine ⟨_, rfl, ?_⟩
      walk_at "rd"
      refine ⟨a, ns, b, z, rfl, .inr ((e1.tr e2).sqT hA), hc, hb, hz, fun H3 e3 => ?_⟩
      walk_at "rd"
      refine ⟨_, rfl, ?_⟩
      walk_at "rd"
      have hd : ∀ x y : Int, decide (V.int x = V.int y) = decide (x = y) := fun x y => decide_eq_decide.mpr ⟨fun z => by injection z, fun z => by rw [z]⟩
      rw [hd]
      refine e_ite (fun h7 => ?_) (fun h7 => ?_)
      · walk_at "rd"
        exact ⟨e1.tr (e2.tr e3), mid, hi, _, by omega, by omega, h3, by omega, h7, h5, rfl⟩
      · walk_at "rd"
        exact ⟨e1.tr (e2.tr e3), lo, mid, _, h1, by omega, by omega, by omega, h4, h7, rfl⟩
    · exact wide_div (b := 10) (by decide) (by decide) (by decide) (by decide)
  · walk_at "rd"
    refine q hi H' e1 (by omega) h3 (fun r hr1 hr2 => ?_) h5
    exact hm.same (Int.le_refl _) (by omega) (show r ≤ lo by omega) (by omega) h4.symm
/-! ### changes -/
theorem asc_gap {L : List Int} (h : L.Pairwise (· < ·)) {i : Nat} {x y r : Int} (hx : L[i]? = some x) (hy : L[i + 1]? = some y) (h1 : x < r) (h2 : r < y) : r ∉ L := by
  intro hr
  obtain ⟨j, hj, e⟩ := List.mem_iff_getElem.mp hr
  obtain ⟨hi, ex⟩ := List.getElem?_eq_some_iff.mp hx
  obtain ⟨hi1, ey⟩ := List.getElem?_eq_some_iff.mp hy
  have pw := List.pairwise_iff_getElem.mp h
  by_cases hji : j ≤ i
  · rcases Nat.lt_or_eq_of_le hji with z | z
    · have := pw j i hj hi z; omega
    · subst z; omega
  · by_cases hj1 : j = i + 1
    · subst hj1; omega
    · have := pw (i + 1) j hi1 hj (by omega); omega
def sp_changes (K : PySem.W.Frag) (n : Nat) : Sp := fun vs H Q _ => ∃ (a : Addr) (ns : List Int) (first : Int) (b : Nat), vs = [.ref a, .int first] ∧ SqT K H a (ns.map V.int) ∧ ns.length ≤ n + 1 ∧ ns.getLast? ≠ some 0 ∧ (∀ c ∈ ns, Sz b c) ∧ Sz b first ∧ 0 < b ∧ b + 10 * n ≤ 390 ∧ n ≤ 7 ∧
  ∀ L cs H', Ext H H' → H' L = some (.lst (cs.map V.int)) → Chg (pvl ns) first cs → cs.length + 2 ≤ 2 ^ (n + 1) → Q (.ref L) H'
def rd_changes_L1 (K : PySem.W.Frag) : TS := tSeq (tAsg (tCall (sp_next_change K) [] E0 (tCons (tVar 0) (tCons (tVar 7) (tCons (tVar 8) (tNil))))) (gName 7)) (tDrop (tBM K "list" rAppend (tVar 6) (tCons (tVar 7) (tNil))))
def rd_changes_L2 (K : PySem.W.Frag) : TS := tWhile (tTest (tOp rNe (tCall (sp_sign K) [] E0 (tCons (tCall (sp_poly_value K) [] E0 (tCons (tVar 0) (tCons (tVar 7) (tNil)))) (tNil))) (tCall (sp_sign K) [] E0 (tCons (tCall (sp_poly_value K) [] E0 (tCons (tVar 0) (tCons (tVar 8) (tNil)))) (tNil))))) (rd_changes_L1 K)
def rd_changes (K : PySem.W.Frag) (R : Sp) : TS := tSeq (tIfS (tTest (tOp FW.rLt (tCB (Evl.rLenS K) (tCons (tVar 0) (tNil))) (tC (.int 2)))) (tRet (tLst (tNil))) (tNext)) (tSeq (tAsg (tOp FW.rAdd (tCB FW.rMax2 (tCons (tVar 1) (tCons (tCall (sp_settled K) [] E0 (tCons (tVar 0) (tNil))) (tNil)))) (tC (.int 1))) (gName 2)) (tSeq (tAsg (tCall R [] E0 (tCons (tCall (sp_poly_less K) [] E0 (tCons (tCall (sp_poly_shift K) [] E0 (tCons (tVar 0) (tCons (tC (.int 1)) (tNil)))) (tCons (tVar 0) (tNil)))) (tCons (tVar 1) (tNil)))) (gName 3)) (tSeq (tAsg (tOp rCat (tOp rCat (tLst (tCons (tVar 1) (tNil))) (tLc (iList K (tVar 3)) (gName 5) (tTest (tOp FW.rLt (tVar 5) (tVar 2))) (tVar 5) [5])) (tLst (tCons (tVar 2) (tNil)))) (gName 4)) (tSeq (tAsg (tLst (tNil)) (gName 6)) (tSeq (tFor (iZip K (tCons (tVar 4) (tCons (tSl (rSlL K) (tVar 4) (tPart (tC (.int 1))) (tNoPart)) (tNil)))) (gTup K 2 (gCons (gName 7) (gCons (gName 8) (gNil)))) (rd_changes_L2 K)) (tRet (tVar 6)))))))
theorem chg_short {ns : List Int} {first : Int} (h : ns.length < 2) : Chg (pvl ns) first [] := by
  refine Chg.const fun r => ?_
  match ns, h with
  | [], _ => rfl
  | [c], _ => simp [pvl]
theorem sgn_toward {f : Int → Int} {b e n : Int} (m : MonOn f b e) (h1 : b < n) (h2 : n ≤ e) (hn : sgn (f n) ≠ sgn (f b)) (hs : sgn (f e) ≠ sgn (f b)) : (sgn (f e) - sgn (f n)).natAbs < (sgn (f e) - sgn (f b)).natAbs := by
  rcases m with m | m
  · have a1 := sgn_mono (m b n (Int.le_refl _) (by omega) h2); have a2 := sgn_mono (m n e (by omega) h2 (Int.le_refl _)); omega
  · have a1 := sgn_mono (m b n (Int.le_refl _) (by omega) h2); have a2 := sgn_mono (m n e (by omega) h2 (Int.le_refl _)); omega
theorem sgn_two (x y : Int) : (sgn x - sgn y).natAbs ≤ 2 := by
  unfold sgn
  split <;> split <;> split <;> split <;> omega
/-- one stretch -/
theorem changes_L2 {K : PySem.W.Frag} {H : Hp} {D : Ends} {a F : Addr} {ns : List Int} {first b e : Int} {z i : Nat} {u2 u3 u4 u5 : Option V} {cs : List Int} (hA : SqT K H a (ns.map V.int)) (hF : H F = some (.lst (cs.map V.int))) (hbe : b < e) (hfb : first ≤ b) (hm : MonOn (pvl ns) b e)
    (hc : ∀ c ∈ ns, Sz z c) (hb : Sz z b) (he : Sz z e) (hz : (ns.length + 2) * (z + 1) ≤ 900000) (hi : 2 * i + 10 < 2 ^ 24) (hlen : cs.length ≤ 2 * i) (hC : ChgIn (pvl ns) first b cs)
    (k : ∀ H' cs' w7 w8, ExtB F H H' → H' F = some (.lst (cs'.map V.int)) → cs'.length ≤ 2 * (i + 1) → ChgIn (pvl ns) first e cs' → D.nx [some (.ref a), some (.int first), u2, u3, u4, u5, some (.ref F), w7, w8] H') :
    rd_changes_L2 K D [some (.ref a), some (.int first), u2, u3, u4, u5, some (.ref F), some (.int b), some (.int e)] H := by
  have haF : ∀ {xs : List V}, SqT K H a xs → ∀ {H'}, ExtB F H H' → SqT K H' a xs := fun {xs} h {H'} e => by
    rcases h with h | h
    · rcases h with h | ⟨o, h⟩
      · exact .inl (.inl (e _ _ (fun z => by rw [z, hF] at h; cases h) h))
      · exact .inl (.inr ⟨o, e _ _ (fun z => by rw [z, hF] at h; cases h) h⟩)
    · exact .inr h
  unfold rd_changes_L2
  refine s_while (fun m σ H' => ExtB F H H' ∧ ∃ (b' : Int) (cs' : List Int), b ≤ b' ∧ b' ≤ e ∧ Sz z b' ∧ m = (sgn (pvl ns e) - sgn (pvl ns b')).natAbs ∧ cs'.length + m ≤ 2 * i + 2 ∧ H' F = some (.lst (cs'.map V.int)) ∧ ChgIn (pvl ns) first b' cs' ∧ σ = [some (.ref a), some (.int first), u2, u3, u4, u5, some (.ref F), some (.int b'), some (.int e)])
    (sgn (pvl ns e) - sgn (pvl ns b)).natAbs ⟨fun _ _ _ h => h, b, cs, Int.le_refl _, by omega, hb, rfl, by have := sgn_two (pvl ns e) (pvl ns b); omega, hF, hC, rfl⟩ ?_
  rintro m σ H1 ⟨e1, b', cs', g1, g2, g3, rfl, g4, g5, g6, rfl⟩
  walk_at "rd"
  refine ⟨a, ns, b', z, rfl, .inr (haF hA e1), hc, g3, hz, fun H2 e2 => ?_⟩
  walk_at "rd"
  refine ⟨_, rfl, ?_⟩
  walk_at "rd"
  refine ⟨a, ns, e, z, rfl, .inr (haF hA (e1.tr (ExtB.of e2))), hc, he, hz, fun H3 e3 => ?_⟩
  walk_at "rd"
  refine ⟨_, rfl, ?_⟩
  walk_at "rd"
  have hd : ∀ x y : Int, decide (V.int x = V.int y) = decide (x = y) := fun x y => decide_eq_decide.mpr ⟨fun z => by injection z, fun z => by rw [z]⟩
  rw [hd]
  have e13 : ExtB F H H3 := e1.tr (ExtB.of (e2.tr e3))
  have g53 := e3 _ _ (e2 _ _ g5)
  refine e_iteN (fun hne => ?_) (fun heq => ?_)
  · have hlt : b' < e := by
      rcases Int.lt_or_eq_of_le g2 with z | z
      · exact z
      · exact absurd (by rw [z]) hne
    have mon' : MonOn (pvl ns) b' e := by
      rcases hm with hm | hm
      · exact .inl fun x y h1 h2 h3 => hm x y (by omega) h2 h3
      · exact .inr fun x y h1 h2 h3 => hm x y (by omega) h2 h3
    refine ⟨fun σ' H'' => ExtB F H H'' ∧ ∃ (n : Int) (cs2 : List Int), b ≤ n ∧ n ≤ e ∧ Sz z n ∧ (sgn (pvl ns e) - sgn (pvl ns n)).natAbs < (sgn (pvl ns e) - sgn (pvl ns b')).natAbs ∧ cs2.length + (sgn (pvl ns e) - sgn (pvl ns n)).natAbs ≤ 2 * i + 2 ∧ H'' F = some (.lst (cs2.map V.int)) ∧ ChgIn (pvl ns) first n cs2 ∧ σ' = [some (.ref a), some (.int first), u2, u3, u4, u5, some (.ref F), some (.int n), some (.int e)], fun σ' H'' h => ?_, ?_⟩
    · obtain ⟨e2', n, cs2, h1, h2, h3, h4, h5, h6, h7, rfl⟩ := h
      exact ⟨_, h4, e2', n, cs2, h1, h2, h3, rfl, h5, h6, h7, rfl⟩
    unfold rd_changes_L1
    walk_at "rd"
    refine ⟨a, ns, b', e, z, rfl, haF hA e13, hlt, mon', fun z => hne z.symm, hc, g3, he, hz, fun n H4 e4 h1 h2 h3 h4 => ?_⟩
    walk_at "rd"
    refine ⟨.inl ⟨rfl, _, SqL.of (e4 _ _ g53)⟩, ?_⟩
    walk_at "rd"
    have htw := sgn_toward mon' h1 h2 h4 (fun z => hne z.symm)
    refine ⟨F, cs'.map V.int, .int n, rfl, rfl, e4 _ _ g53, by rw [List.length_map]; show _ < 2 ^ 24; omega, ?_⟩
    refine ⟨(e13.tr (ExtB.of e4)).tr ExtB.upd, n, cs' ++ [n], by omega, h2, sz_between hb he (by omega) h2, htw, ?_, ?_, g6.snoc (by omega) h1 h3 h4, rfl⟩
    · rw [List.length_append, List.length_cons, List.length_nil]; omega
    · rw [upd_same, List.map_append]; rfl
  · refine k H3 cs' _ _ e13 g53 (by omega) ?_
    refine g6.stay g2 fun r hr1 hr2 => ?_
    have := hm.same (x := b') (y := r) (z := e) g1 (by omega) hr2 (Int.le_refl _) heq
    exact this
theorem changes_gen {K : PySem.W.Frag} {R : Sp} {n : Nat} {vs : List V} {H : Hp} {Q : VK} {E : XK} (hR : ∀ (m : Nat), n = m + 1 → ∀ vs H Q E, sp_changes K m vs H Q E → R vs H Q E) (h : sp_changes K n vs H Q E) : rd_changes K R { nx := fun _ H' => Q .non H', rt := Q } (start ["poly", "first", "last", "inner", "ends", "r", "found", "begun", "beyond"] vs) H := by
  obtain ⟨a, ns, first, b, rfl, hA, hlen, hlast, hc, hf, hb0, hb, hn7, q⟩ := h
  unfold rd_changes
  walk_at "rd"
  refine e_len ?_ (.inr hA)
  rw [List.length_map]
  walk_at "rd"
  refine e_ite (fun h2 => ?_) (fun h2 => ?_)
  · walk_at "rd"
    refine ⟨by show 0 ≤ sizeLine; decide, fun p hp => ?_⟩
    refine q p [] _ (Ext.new hp) upd_same (chg_short (by omega)) ?_
    have : 2 ^ 1 ≤ 2 ^ (n + 1) := Nat.pow_le_pow_right (by decide) (by omega)
    exact this
  obtain ⟨m, rfl⟩ : ∃ m, n = m + 1 := ⟨n - 1, by omega⟩
  have hne : ns ≠ [] := fun z => by rw [z] at h2; simp at h2
  walk_at "rd"
  refine ⟨a, ns, b, rfl, hA, hne, hlast, by omega, hc, hb0, by omega, fun s H1 e1 hs2 hss hsg => ?_⟩
  walk_at "rd"
  have hlastE : ∀ v : Int, (if s > first then s else first) = v → first ≤ v ∧ s ≤ v ∧ Sz (b + 2) v := fun v hv => by
    refine ⟨?_, ?_, ?_⟩
    · rw [← hv]; split <;> omega
    · rw [← hv]; split <;> omega
    · rw [← hv]; split
      · exact hss
      · exact hf.mono (by omega)
  obtain ⟨w, hw⟩ : ∃ w, (if s > first then s else first) = w := ⟨_, rfl⟩
  obtain ⟨hw1, hw2, hw3⟩ := hlastE w hw
  rw [hw]
  have hw4 : Sz (b + 3) (w + 1) := hw3.add (Sz.mono (show Sz 1 1 by decide) (by omega))
  refine ⟨a, ns, 1, rfl, .inr (e1.sqT hA), by omega, fun c hc' => (hc c hc').mono (by omega), Sz.mono (show Sz 1 1 by decide) (by decide), fun t2 cs2 H2 ht2 e2 g2 hpv2 hl2 hs2' hlen2 => ?_⟩
  walk_at "rd"
  refine ⟨t2, a, cs2, ns, rfl, .inr (SqT.of g2), (e1.tr e2).sqT hA, by omega, by omega, fun t3 cs3 H3 ht3 e3 g3 hpv3 hl3 => ?_⟩
  have hdiff : ∀ r, pvl cs3 r = pvl (diffL ns) r := fun r => by rw [hpv3, hpv2, diffL_pv]
  obtain ⟨kk, hkk⟩ := pv_prefix cs3 (diffL ns) 0 (fun r _ => hdiff r) hl3
  have hlen3 : cs3.length ≤ m + 1 := by
    have := diffL_len ns
    rw [hkk, List.length_take]; omega
  have hc3 : ∀ c ∈ cs3, Sz (b + 10) c := fun c hc' => by
    rw [hkk] at hc'
    exact (diffL_sz hc c (List.mem_of_mem_take hc')).mono (by omega)
  walk_at "rd"
  refine hR m rfl _ _ _ _ ⟨t3, cs3, first, b + 10, rfl, SqT.of g3, hlen3, hl3, hc3, hf.mono (by omega), by omega, by omega, by omega, fun L inner H4 e4 g4 hC hLl => ?_⟩
  have hinner : inner.length ≤ 600 := by
    have : 2 ^ (m + 1) ≤ 2 ^ 7 := Nat.pow_le_pow_right (by decide) (by omega)
    omega
  have e14 : Ext H H4 := e1.tr (e2.tr (e3.tr e4))
  walk_at "rd"
  refine ⟨by show 1 ≤ sizeLine; decide, fun p5 h5 => ?_⟩
  have e5 := Ext.new (o := .lst [V.int first]) h5
  have g5 : (upd H4 p5 (.lst [V.int first])) p5 = some (.lst [V.int first]) := upd_same
  generalize upd H4 p5 (.lst [V.int first]) = H5 at *
  walk_at "rd"
  refine i_list' _ ?_ (SqL.of (e5 _ _ g4))
  refine lcL_gen (p := fun r => decide (r < w + 1)) (f := fun r => r) (SqL.of (e5 _ _ g4)) (by omega) (fun _ => rfl) (fun c _ H' R' _ h => ?_) (fun c _ _ H' R' _ h => ?_) (fun p6 h6 => ?_)
  · walk_at "rd"
    exact h
  · walk_at "rd"
    exact h
  rw [show ((inner.filter fun r => decide (r < w + 1)).map fun r => r) = (inner.filter fun r => decide (r < w + 1)) by simp]
  have e6 := Ext.new (o := .lst ((inner.filter fun r => decide (r < w + 1)).map V.int)) h6
  have g6 : (upd H5 p6 (.lst ((inner.filter fun r => decide (r < w + 1)).map V.int))) p6 = some (.lst ((inner.filter fun r => decide (r < w + 1)).map V.int)) := upd_same
  generalize upd H5 p6 (.lst ((inner.filter fun r => decide (r < w + 1)).map V.int)) = H6 at *
  have hfl : (inner.filter fun r => decide (r < w + 1)).length ≤ inner.length := List.length_filter_le _ _
  refine e_cat (fun p7 h7 => ?_) (e6 _ _ g5) g6 (by rw [List.length_map]; show 1 + _ ≤ 2 ^ 24; omega)
  have e7 := Ext.new (o := .lst ([V.int first] ++ (inner.filter fun r => decide (r < w + 1)).map V.int)) h7
  have g7 : (upd H6 p7 (.lst ([V.int first] ++ (inner.filter fun r => decide (r < w + 1)).map V.int))) p7 = some (.lst ([V.int first] ++ (inner.filter fun r => decide (r < w + 1)).map V.int)) := upd_same
  generalize upd H6 p7 (.lst ([V.int first] ++ (inner.filter fun r => decide (r < w + 1)).map V.int)) = H7 at *
  walk_at "rd"
  refine ⟨by show 1 ≤ sizeLine; decide, fun p8 h8 => ?_⟩
  have e8 := Ext.new (o := .lst [V.int (w + 1)]) h8
  refine e_cat (fun p9 h9 => ?_) (e8 _ _ g7) upd_same (by rw [List.length_append, List.length_map]; show 1 + _ + 1 ≤ 2 ^ 24; omega)
  have e9 := Ext.new (o := .lst ([V.int first] ++ (inner.filter fun r => decide (r < w + 1)).map V.int ++ [V.int (w + 1)])) h9
  have g9 : (upd (upd H7 p8 (.lst [V.int (w + 1)])) p9 (.lst ([V.int first] ++ (inner.filter fun r => decide (r < w + 1)).map V.int ++ [V.int (w + 1)]))) p9 = some (.lst ((first :: (inner.filter fun r => decide (r < w + 1)) ++ [w + 1]).map V.int)) := by
    rw [upd_same, List.map_append]; rfl
  have e49 : Ext H4 (upd (upd H7 p8 (.lst [V.int (w + 1)])) p9 (.lst ([V.int first] ++ (inner.filter fun r => decide (r < w + 1)).map V.int ++ [V.int (w + 1)]))) := e5.tr (e6.tr (e7.tr (e8.tr e9)))
  generalize upd (upd H7 p8 (.lst [V.int (w + 1)])) p9 (.lst ([V.int first] ++ (inner.filter fun r => decide (r < w + 1)).map V.int ++ [V.int (w + 1)])) = H9 at *
  obtain ⟨en, hen⟩ : ∃ en, first :: (inner.filter fun r => decide (r < w + 1)) ++ [w + 1] = en := ⟨_, rfl⟩
  rw [hen] at g9
  -- the ends ascend, and between two of them there is no turn
  have hasc : en.Pairwise (· < ·) := by
    rw [← hen, List.cons_append, List.pairwise_cons, List.pairwise_append]
    refine ⟨fun x hx => ?_, hC.asc.filter _, .cons (fun _ z => by cases z) .nil, fun x hx y hy => ?_⟩
    · rcases List.mem_append.mp hx with hx | hx
      · exact ((hC.mem x).mp (List.mem_filter.mp hx).1).1
      · simp only [List.mem_cons, List.not_mem_nil, or_false] at hx; omega
    · have := (List.mem_filter.mp hx).2
      simp only [List.mem_cons, List.not_mem_nil, or_false] at hy
      have := of_decide_eq_true this
      omega
  have hmem : ∀ x ∈ en, first ≤ x ∧ x ≤ w + 1 := fun x hx => by
    rw [← hen] at hx
    rcases List.mem_append.mp hx with hx | hx
    · rcases List.mem_cons.mp hx with rfl | hx
      · omega
      · have h1 := ((hC.mem x).mp (List.mem_filter.mp hx).1).1
        have h2 := of_decide_eq_true (List.mem_filter.mp hx).2
        omega
    · simp only [List.mem_cons, List.not_mem_nil, or_false] at hx; omega
  have hfil : ∀ x, x ∉ en → first < x → x < w + 1 → sgn (pvl (diffL ns) x) = sgn (pvl (diffL ns) (x - 1)) := fun x hx h1 h2 => by
    refine Classical.byContradiction fun z => hx ?_
    rw [← hen]
    have : x ∈ inner := (hC.mem x).mpr ⟨h1, by rw [hdiff, hdiff]; exact z⟩
    exact List.mem_append_left _ (List.mem_cons_of_mem _ (List.mem_filter.mpr ⟨this, decide_eq_true h2⟩))
  have hseg : ∀ (i : Nat) (x y : Int), en[i]? = some x → en[i + 1]? = some y → x < y ∧ MonOn (pvl ns) x y := fun i x y hx hy => by
    obtain ⟨hi, ex⟩ := List.getElem?_eq_some_iff.mp hx
    obtain ⟨hi1, ey⟩ := List.getElem?_eq_some_iff.mp hy
    have hxy : x < y := by
      have := List.pairwise_iff_getElem.mp hasc i (i + 1) hi hi1 (by omega); omega
    refine ⟨hxy, mon_seg (g := pvl (diffL ns)) (fun r => diffL_pv ns r) fun r h1 h2 => ?_⟩
    have hx' := hmem x (List.mem_of_getElem? hx)
    have hy' := hmem y (List.mem_of_getElem? hy)
    exact hfil r (asc_gap hasc hx hy h1 h2) (by omega) (by omega)
  have henl : en.length ≤ inner.length + 2 := by rw [← hen, List.length_append, List.length_cons]; simp; omega
  have henl2 : 2 ≤ en.length := by rw [← hen, List.length_append, List.length_cons]; simp
  have hen0 : en[0]? = some first := by rw [← hen]; rfl
  have henk : en[en.length - 1]? = some (w + 1) := by rw [← hen]; simp
  walk_at "rd"
  refine ⟨by show 0 ≤ sizeLine; decide, fun F hF => ?_⟩
  have e10 := Ext.new (o := .lst []) hF
  have g10 : (upd H9 F (.lst [])) F = some (.lst (([] : List Int).map V.int)) := upd_same
  have nF : H F = none := (e14.tr e49).non hF
  have g910 := e10 _ _ g9
  generalize upd H9 F (.lst []) = H10 at *
  have hA10 : SqT K H10 a (ns.map V.int) := (e14.tr (e49.tr e10)).sqT hA
  walk_at "rs1"
  refine s_for (i_zip ?_)
  walk_at "re"
  refine e_sl ?_
  walk_at "re"
  refine e_part ?_
  walk_at "re"
  refine e_part' ?_
  refine e_noP ?_
  refine e_slL (fun p11 h11 => ?_) (SqL.of g910)
  have e11 := Ext.new (o := .lst (cutV (en.map V.int) (some 1) none)) h11
  have hcut : cutV (en.map V.int) (some 1) none = (en.drop 1).map V.int := by
    unfold cutV
    rw [show HT.sIx (en.map V.int).length 0 (some 1) = 1 by
      rw [show (1 : Int) = ((1 : Nat) : Int) from rfl, HT.sIx_nat, List.length_map]; omega, HT.sIx_none, List.map_drop, List.take_of_length_le (by rw [List.length_drop]; omega)]
  have g11 : (upd H10 p11 (.lst (cutV (en.map V.int) (some 1) none))) p11 = some (.lst ((en.drop 1).map V.int)) := by rw [upd_same, hcut]
  generalize upd H10 p11 (.lst (cutV (en.map V.int) (some 1) none)) = H11 at *
  walk_at "re"
  refine ⟨p9, p11, en.map V.int, (en.drop 1).map V.int, rfl, SqL.of (e11 _ _ g910), SqL.of g11, ?_⟩
  have neF9 : p9 ≠ F := fun z => by rw [z] at g9; rw [g9] at hF; cases hF
  have neF11 : p11 ≠ F := fun z => by rw [z, g10] at h11; cases h11
  have hA11 := e11.sqT hA10
  have haF : ∀ {H'}, ExtB F H11 H' → SqT K H' a (ns.map V.int) := fun {H'} e => by
    have gF : H11 F = some (.lst (([] : List Int).map V.int)) := e11 _ _ g10
    rcases hA11 with h | h
    · rcases h with h | ⟨o, h⟩
      · exact .inl (.inl (e _ _ (fun z => by rw [z, gF] at h; cases h) h))
      · exact .inl (.inr ⟨o, e _ _ (fun z => by rw [z, gF] at h; cases h) h⟩)
    · exact .inr h
  refine for_it (walk_zip (K := K) (a := p9) (b := p11) (xs := en.map V.int) (ys := (en.drop 1).map V.int) (n := en.length - 1) (by rw [List.length_map, List.length_map, List.length_drop]; omega))
    (fun i σ H' => ExtB F H11 H' ∧ i ≤ en.length - 1 ∧ ∃ (cs : List Int) (x : Int) (w7 w8 : Option V), H' F = some (.lst (cs.map V.int)) ∧ cs.length ≤ 2 * i ∧ en[i]? = some x ∧ ChgIn (pvl ns) first x cs ∧ σ = [some (.ref a), some (.int first), some (.int (w + 1)), some (.ref L), some (.ref p9), none, some (.ref F), w7, w8])
    ⟨fun _ _ _ h => h, Nat.zero_le _, [], first, _, _, e11 _ _ g10, by simp, hen0, .nil, rfl⟩
    (fun i σ H' _ h => ⟨SqL.of (h.1 _ _ neF9 (e11 _ _ g910)), SqL.of (h.1 _ _ neF11 g11)⟩) ?_ ?_
  · rintro i v σ H12 H13 hi ⟨e12, _, cs, x, w7, w8, g12, hcl, hx, hCI, rfl⟩ ⟨T, vx, vy, rfl, hT, rfl, hvx, hvy⟩
    have hvx' : vx = .int x := by
      dsimp only at hvx
      rw [List.getElem?_map, hx] at hvx; cases hvx; rfl
    obtain ⟨y, hy⟩ : ∃ y, en[i + 1]? = some y := ⟨en[i + 1], List.getElem?_eq_getElem (by omega)⟩
    have hvy' : vy = .int y := by
      dsimp only at hvy
      rw [List.getElem?_map, List.getElem?_drop, Nat.add_comm 1 i, hy] at hvy; cases hvy; rfl
    subst hvx' hvy'
    obtain ⟨hxy, hmon⟩ := hseg i x y hx hy
    have e13 := Ext.new (o := .tup [V.int x, V.int y]) hT
    refine g_tup ?_ (SqT.of upd_same) rfl
    generalize upd H12 T (.tup [V.int x, V.int y]) = H13 at *
    walk_at "re"
    have hx' := hmem x (List.mem_of_getElem? hx)
    have hy' := hmem y (List.mem_of_getElem? hy)
    have hzz : (ns.length + 2) * (b + 4 + 1) ≤ 900000 := by
      have h1 : ns.length + 2 ≤ 12 := by omega
      exact Nat.le_trans (Nat.mul_le_mul h1 (show b + 4 + 1 ≤ 500 by omega)) (by decide)
    refine changes_L2 (z := b + 4) (i := i) (haF (e12.tr (ExtB.of e13))) (e13 _ _ g12) hxy hx'.1 hmon (fun c hc' => (hc c hc').mono (by omega)) (sz_between (hf.mono (by omega)) (hw4.mono (by omega)) hx'.1 hx'.2) (sz_between (hf.mono (by omega)) (hw4.mono (by omega)) hy'.1 hy'.2) hzz (by omega) hcl hCI fun H14 cs' w7 w8 e14 g14 hcl' hCI' => ?_
    exact ⟨(e12.tr (ExtB.of e13)).tr e14, by omega, cs', y, w7, w8, g14, hcl', hy, hCI', rfl⟩
  · rintro σ H12 ⟨e12, _, cs, x, w7, w8, g12, hcl, hx, hCI, rfl⟩
    rw [henk] at hx
    cases hx
    walk_at "rd"
    have hpre : ∀ r, w + 1 ≤ r → sgn (pvl ns r) = sgn (pvl ns s) := fun r hr => hsg r (by omega)
    refine q F cs H12 (fun bb ob zz => e12 _ _ (ne_of_none zz nF) (e11 _ _ (e10 _ _ (e49 _ _ (e14 _ _ zz))))) g12 ⟨hCI.asc, fun r => ?_⟩ ?_
    · rw [hCI.mem]
      constructor
      · rintro ⟨a1, a2, a3⟩; exact ⟨a1, a3⟩
      · rintro ⟨a1, a3⟩
        refine ⟨a1, ?_, a3⟩
        refine Classical.byContradiction fun z => a3 ?_
        rw [hpre r (by omega), hpre (r - 1) (by omega)]
    · rw [Nat.pow_succ]
      omega

theorem pure_changes0 (K : PySem.W.Frag) (vs : List V) (H : Hp) (Q : VK) (E : XK) (h : sp_changes K 0 vs H Q E) : rd_changes K (fun _ _ _ _ => False) { nx := fun _ H' => Q .non H', rt := Q } (start ["poly", "first", "last", "inner", "ends", "r", "found", "begun", "beyond"] vs) H :=
  changes_gen (fun m z => by omega) h
theorem pure_changesS (K : PySem.W.Frag) (n : Nat) (vs : List V) (H : Hp) (Q : VK) (E : XK) (h : sp_changes K (n + 1) vs H Q E) : rd_changes K (sp_changes K n) { nx := fun _ H' => Q .non H', rt := Q } (start ["poly", "first", "last", "inner", "ends", "r", "found", "begun", "beyond"] vs) H :=
  changes_gen (fun m z => by obtain rfl : n = m := by omega
                             exact fun _ _ _ _ h => h) h
/-! ### sign_from -/
/-- the sign from a place on -/
def SgF (f : Int → Int) (first : Int) (v : V) : Prop := (∃ i, v = .int i ∧ ∀ r, first ≤ r → sgn (f r) = i) ∨ (v = .non ∧ ∃ r, first ≤ r ∧ sgn (f r) ≠ sgn (f first))
def sp_sign_from (K : PySem.W.Frag) : Sp := fun vs H Q _ => ∃ (a : Addr) (ns : List Int) (first : Int), vs = [.ref a, .int first] ∧ SqA K H a (ns.map V.int) ∧ ns.length ≤ 8 ∧ (∀ c ∈ ns, Sz 300 c) ∧ Sz 300 first ∧ ∀ v H', Ext H H' → SgF (pvl ns) first v → Q v H'
def rd_sign_from (K : PySem.W.Frag) : TS := tSeq (tAsg (tCall (sp_trimmed K) [] E0 (tCons (tVar 0) (tNil))) (gName 0)) (tSeq (tIfS (tTest (tOp (rEqD K) (tVar 0) (tTup (tNil)))) (tRet (tC (.int 0))) (tNext)) (tSeq (tIfS (tTest (tOp (rNeD K) (tCall (sp_changes K 7) [] E0 (tCons (tVar 0) (tCons (tVar 1) (tNil)))) (tLst (tNil)))) (tRet (tC .non)) (tNext)) (tRet (tCall (sp_sign K) [] E0 (tCons (tCall (sp_poly_value K) [] E0 (tCons (tVar 0) (tCons (tVar 1) (tNil)))) (tNil))))))
theorem sh_nil (ns : List Int) : SeqAt.shaped (.tuple (ns.map PyData.int)) = true := by
  unfold SeqAt.shaped
  rw [PyData.canLay0, layI, PyData.depth, depI]; rfl
theorem eqv_nilT (ns : List Int) : PyData.eqv (.tuple (ns.map PyData.int)) (.tuple []) = decide (ns = []) := by
  cases ns with
  | nil => simp only [List.map_nil, PyData.eqv, PyData.eqvAll]; rfl
  | cons c cs => simp only [List.map_cons, PyData.eqv, PyData.eqvAll]; rfl
theorem eqv_nilL (ns : List Int) : PyData.eqv (.list (ns.map PyData.int)) (.list []) = decide (ns = []) := by
  cases ns with
  | nil => simp only [List.map_nil, PyData.eqv, PyData.eqvAll]; rfl
  | cons c cs => simp only [List.map_cons, PyData.eqv, PyData.eqvAll]; rfl
theorem pure_sign_from (K : PySem.W.Frag) (vs : List V) (H : Hp) (Q : VK) (E : XK) (h : sp_sign_from K vs H Q E) : rd_sign_from K { nx := fun _ H' => Q .non H', rt := Q } (start ["poly", "first"] vs) H := by
  obtain ⟨a, ns, first, rfl, hA, hlen, hc, hf, q⟩ := h
  have main : ∀ (t : Addr) (cs : List Int) (H1 : Hp), Ext H H1 → SqT K H1 t (cs.map V.int) → (∀ r, pvl cs r = pvl ns r) → cs.getLast? ≠ some 0 → (∀ c ∈ cs, c ∈ ns) → cs.length ≤ ns.length →
      (tSeq (tIfS (tTest (tOp (rEqD K) (tVar 0) (tTup (tNil)))) (tRet (tC (.int 0))) (tNext)) (tSeq (tIfS (tTest (tOp (rNeD K) (tCall (sp_changes K 7) [] E0 (tCons (tVar 0) (tCons (tVar 1) (tNil)))) (tLst (tNil)))) (tRet (tC .non)) (tNext)) (tRet (tCall (sp_sign K) [] E0 (tCons (tCall (sp_poly_value K) [] E0 (tCons (tVar 0) (tCons (tVar 1) (tNil)))) (tNil)))))) { nx := fun _ H' => Q .non H', rt := Q } [some (.ref t), some (.int first)] H1 := by
    intro t cs H1 e1 ht hpv hl hmem hlen'
    have hpv' : pvl cs = pvl ns := funext hpv
    walk_at "rd"
    refine ⟨by show 0 ≤ sizeLine; decide, fun p2 h2 => ?_⟩
    have e2 := Ext.new (o := .tup []) h2
    refine e_eqD (d := .tuple (cs.map PyData.int)) (e := .tuple []) ?_ (.tup (e2.sqT ht) (dpI cs)) (.tup (SqT.of upd_same) .nil) (sh_nil cs) (by kernel_rfl)
    rw [eqv_nilT]
    generalize upd H1 p2 (.tup []) = H2 at *
    walk_at "rd"
    refine e_ite (fun hnil => ?_) (fun hnil => ?_)
    · walk_at "rd"
      refine q _ H2 (e1.tr e2) (.inl ⟨0, rfl, fun r _ => ?_⟩)
      rw [← hpv, hnil]; rfl
    · walk_at "rd"
      refine ⟨t, cs, first, 300, rfl, e2.sqT ht, by omega, hl, fun c hc' => hc c (hmem c hc'), hf, by decide, by decide, by decide, fun L ch H3 e3 g3 hC _ => ?_⟩
      walk_at "rd"
      refine ⟨by show 0 ≤ sizeLine; decide, fun p4 h4 => ?_⟩
      have e4 := Ext.new (o := .lst []) h4
      refine e_neD (d := .list (ch.map PyData.int)) (e := .list []) ?_ (.lst (SqL.of (e4 _ _ g3)) (dpI ch)) (.lst (SqL.of upd_same) .nil) (shL ch) (by kernel_rfl)
      rw [eqv_nilL]
      generalize upd H3 p4 (.lst []) = H4 at *
      walk_at "rd"
      refine e_iteN (fun hne => ?_) (fun heq => ?_)
      · walk_at "rd"
        refine q _ H4 (e1.tr (e2.tr (e3.tr e4))) (.inr ⟨rfl, ?_⟩)
        rw [hpv'] at hC
        refine Classical.byContradiction fun z => hne ?_
        have all : ∀ r, first ≤ r → sgn (pvl ns r) = sgn (pvl ns first) := fun r hr => Classical.byContradiction fun z' => z ⟨r, hr, z'⟩
        cases ch with
        | nil => rfl
        | cons x xs =>
          exfalso
          obtain ⟨h1, h2⟩ := (hC.mem x).mp List.mem_cons_self
          exact h2 ((all x (by omega)).trans (all (x - 1) (by omega)).symm)
      · walk_at "rd"
        refine ⟨t, cs, first, 300, rfl, .inr ((e2.tr (e3.tr e4)).sqT ht), fun c hc' => hc c (hmem c hc'), hf, ?_, fun H5 e5 => ?_⟩
        · have : cs.length + 2 ≤ 10 := by omega
          exact Nat.le_trans (Nat.mul_le_mul_right _ this) (by decide)
        · walk_at "rd"
          refine ⟨_, rfl, ?_⟩
          rw [heq, hpv'] at hC
          refine q _ H5 (e1.tr (e2.tr (e3.tr (e4.tr e5)))) (.inl ⟨_, rfl, fun r hr => ?_⟩)
          rw [hC.none_ r hr, hpv']
  unfold rd_sign_from
  walk_at "rs1"
  walk_at "rs1"
  walk_at "re"
  rcases hA with hA | hA
  · exact .inl ⟨a, ns, rfl, hA, fun t cs H1 _ e1 g hpv hl hmem hlen' => main t cs H1 e1 (SqT.of g) hpv hl hmem hlen'⟩
  · exact .inr ⟨a, ns, rfl, hA, fun t cs H1 e1 g hpv hl hmem hlen' => main t cs H1 e1 g hpv hl hmem hlen'⟩
end FWL
namespace FWL
open PySem PySem.Spec PyProof.Rows L2 FW
/-! ### the law's polynomials -/
def sp_l_poly (K : PySem.W.Frag) : Sp := fun vs H Q _ => ∃ (p : Addr) (m : Int) (n : Nat), vs = [.ref p, .int 5, .int m] ∧ (1 ≤ m ∧ m ≤ 40) ∧ Strm H p n ∧ n + 10 < 1000000 ∧
  ∀ (t : Addr) (ns : List Int) (H' : Hp), H t = none → ExtB p H H' → Strm H' p (n + 7) → H' t = some (.tup (ns.map V.int)) → ns.length ≤ 6 → (∀ c ∈ ns, Sz 10 c) → Q (.ref t) H'
def rd_l_poly (K : PySem.W.Frag) : TS := tSeq (tAsg (tLc (iRng1 (tCons (tCall (sp_l_draw K) [] E0 (tCons (tVar 0) (tCons (tOp FW.rAdd (tVar 1) (tC (.int 1))) (tNil)))) (tNil))) (gName 4) (tYes) (tOp FW.rSub (tCall (sp_l_draw K) [] E0 (tCons (tVar 0) (tCons (tOp FW.rAdd (tOp FW.rMul (tC (.int 2)) (tVar 2)) (tC (.int 1))) (tNil)))) (tVar 2)) [4]) (gName 3)) (tRet (tCB (FW.rTupS K) (tCons (tOp rCat (tVar 3) (tOp rRep (tLst (tCons (tC (.int 0)) (tNil))) (tCB FW.rInt1 (tCons (tOp rEq (tCall (sp_l_draw K) [] E0 (tCons (tVar 0) (tCons (tC (.int 4)) (tNil)))) (tC (.int 0))) (tNil))))) (tNil))))
theorem ExtB.updF {p D : Addr} {H H' : Hp} {o : HO} (e : ExtB p H H') (h : H D = none) : ExtB p H (upd H' D o) := fun b u hb q => by
  rw [upd_ne (ne_of_none q h)]; exact e b u hb q
theorem Strm.updF {p D : Addr} {H : Hp} {n : Nat} {o : HO} (s : Strm H p n) (h : D ≠ p) : Strm (upd H D o) p n := by
  obtain ⟨a, b, c, h1, h2⟩ := s
  exact ⟨a, b, c, by rw [upd_ne h.symm]; exact h1, h2⟩
theorem rep_map (n : Nat) (c : Int) : (List.replicate n c).map V.int = List.replicate n (V.int c) := by rw [List.map_replicate]
theorem pure_l_poly (K : PySem.W.Frag) (vs : List V) (H : Hp) (Q : VK) (E : XK) (h : sp_l_poly K vs H Q E) : rd_l_poly K { nx := fun _ H' => Q .non H', rt := Q } (start ["_law_stream_here", "_law_many", "_law_most", "_law_found", "_law_k"] vs) H := by
  obtain ⟨p, m, n, rfl, hm, hS, hn, q⟩ := h
  unfold rd_l_poly
  walk_at "rd"
  refine ⟨p, 5 + 1, n, rfl, hS, by omega, by decide, by decide, fun d1 H1 d10 d11 e1 s1 => ?_⟩
  walk_at "rd"
  · intro D hD
    have hDp : D ≠ p := s1.ne hD
    have hDn : H D = none := FWL.ExtB.non e1 s1 hD
    refine lc_range (lo := 0) (n := d1.toNat) (fun i H' => i ≤ d1.toNat ∧ ExtB p H H' ∧ Strm H' p (n + 1 + i) ∧ ∃ ns : List Int, H' D = some (.lst (ns.map V.int)) ∧ ns.length = i ∧ ∀ c ∈ ns, Sz 10 c) ⟨Nat.zero_le _, e1.tr (ExtB.of (Ext.new hD)), s1.ext (Ext.new hD), [], upd_same, rfl, by simp⟩ ?_ ?_
    · rintro i H' hi ⟨hle, eB, sS, ns, hDD, hl, hc⟩
      walk_at "rd"
      refine ⟨rfl, ?_⟩
      walk_at "rd"
      · refine ⟨p, 2 * m + 1, n + 1 + i, rfl, sS, by omega, by omega, log2_small (by omega), fun d2 H2 d20 d21 e2 s2 => ?_⟩
        walk_at "rd"
        have hD2 := e2 _ _ hDp hDD
        refine ⟨_, hD2, ?_, by omega, FWL.ExtB.updF (eB.tr e2) hDn, s2.updF hDp, ns ++ [d2 - m], by rw [upd_same, List.map_append]; rfl, by simp [hl], ?_⟩
        · rw [List.length_map]; show _ < 2 ^ 24; omega
        · intro c hc'
          rcases List.mem_append.mp hc' with h | h
          · exact hc c h
          · rw [List.mem_singleton.mp h]; show (d2 - m).natAbs < 1024; omega
      · exact wide_mul (a := 10) (b := 10) (by decide) (by show m.natAbs < 1024; omega) (by decide) (by decide) (by decide)
    · rintro H2 ⟨hle, eB, sS, ns, hDD, hl, hc⟩
      walk_at "rd"
      refine ⟨by show 1 ≤ sizeLine; decide, fun p2 h2 => ?_⟩
      walk_at "rd"
      refine ⟨p, 4, n + 1 + d1.toNat, rfl, sS.ext (Ext.new h2), by omega, by decide, by decide, fun d3 H3 d30 d31 e3 s3 => ?_⟩
      walk_at "rd"
      have hp2 : p2 ≠ p := sS.ne h2
      have hd : decide (V.int d3 = V.int 0) = decide (d3 = 0) := decide_eq_decide.mpr ⟨fun z => by injection z, fun z => by rw [z]⟩
      rw [hd]
      obtain ⟨k, ek, hk⟩ : ∃ k : Int, (if decide (d3 = 0) = true then (1 : Int) else 0) = k ∧ (k = 0 ∨ k = 1) := ⟨_, rfl, by split <;> simp⟩
      rw [ek]
      refine e_rep (fun p4 h4 => ?_) (e3 _ _ hp2 upd_same) (by omega) (by omega)
      have hD3 : (upd H3 p4 (.lst (List.replicate k.toNat (V.int 0)))) D = some (.lst (ns.map V.int)) := (Ext.new h4) _ _ (e3 _ _ hDp ((Ext.new h2) _ _ hDD))
      refine e_cat (fun p5 h5 => ?_) hD3 upd_same (by rw [List.length_map, List.length_replicate]; show _ ≤ 2 ^ 24; omega)
      walk_at "rd"
      refine e_tupL (fun t6 h6 => ?_) (SqL.of upd_same)
      have e6 : ExtB p H _ := eB.tr ((ExtB.of (Ext.new h2)).tr (e3.tr (ExtB.of ((Ext.new h4).tr (Ext.new (o := .lst (ns.map V.int ++ List.replicate k.toNat (V.int 0))) h5)))))
      have s6 := (s3.ext (Ext.new (o := .lst (List.replicate k.toNat (V.int 0))) h4)).ext (Ext.new (o := .lst (ns.map V.int ++ List.replicate k.toNat (V.int 0))) h5)
      refine q t6 (ns ++ List.replicate k.toNat 0) _ (FWL.ExtB.non e6 s6 h6) (e6.tr (ExtB.of (Ext.new h6))) ((s6.ext (Ext.new h6)).mono (by omega)) ?_ ?_ ?_
      · rw [upd_same, List.map_append, rep_map]
      · rw [List.length_append, List.length_replicate]; omega
      · intro c hc'
        rcases List.mem_append.mp hc' with h | h
        · exact hc c h
        · rw [List.eq_of_mem_replicate h]; decide
  · omega
/-! the law's own value -/
def atS : List Int → Int → Nat → List Int
  | [], _, _ => []
  | c :: cs, r, k => c * r ^ k :: atS cs r (k + 1)
theorem atS_sum : ∀ (cs : List Int) (r : Int) (k : Nat), (atS cs r k).sum = r ^ k * pvl cs r
  | [], r, k => by simp [atS, pvl]
  | c :: cs, r, k => by simp only [atS, pvl, List.sum_cons, atS_sum cs r (k + 1), Int.pow_succ]; grind
theorem atS_len : ∀ (cs : List Int) (r : Int) (k : Nat), (atS cs r k).length = cs.length
  | [], r, k => rfl
  | c :: cs, r, k => by simp [atS, atS_len cs r (k + 1)]
theorem atS_at : ∀ (cs : List Int) (r : Int) (k i : Nat) (c : Int), cs[i]? = some c → (atS cs r k)[i]? = some (c * r ^ (k + i))
  | x :: cs, r, k, 0, c, h => by
    simp only [List.getElem?_cons_zero, Option.some.injEq] at h
    subst h; simp [atS]
  | x :: cs, r, k, i + 1, c, h => by
    have := atS_at cs r (k + 1) i c (by simpa using h)
    simp only [atS, List.getElem?_cons_succ, this]
    rw [show k + 1 + i = k + (i + 1) by omega]
  | [], r, k, i, c, h => by simp at h
def sp_l_at (K : PySem.W.Frag) : Sp := fun vs H Q _ => ∃ (a : Addr) (ns : List Int) (r : Int) (b : Nat), vs = [.ref a, .int r] ∧ SqT K H a (ns.map V.int) ∧ ns.length ≤ 100 ∧ (∀ c ∈ ns, Sz b c) ∧ Sz b r ∧ 0 < b ∧ (ns.length + 3) * (b + 1) ≤ 900000 ∧
  ∀ H', Ext H H' → Q (.int (pvl ns r)) H'
def rd_l_at (K : PySem.W.Frag) : TS := tRet (tCB (rSum K) (tCons (tLc (FW.iEnumT K (tCons (tVar 0) (tNil))) (gTup K 2 (gCons (gName 2) (gCons (gName 3) (gNil)))) (tYes) (tOp FW.rMul (tVar 3) (tCall (sp_l_power K) [] E0 (tCons (tVar 1) (tCons (tVar 2) (tNil))))) [2, 3]) (tNil)))
theorem pure_l_at (K : PySem.W.Frag) (vs : List V) (H : Hp) (Q : VK) (E : XK) (h : sp_l_at K vs H Q E) : rd_l_at K { nx := fun _ H' => Q .non H', rt := Q } (start ["_law_poly_here", "_law_r", "_law_k", "_law_x"] vs) H := by
  obtain ⟨a, ns, r, b, rfl, hA, hln, hc, hr, hb, hsz, q⟩ := h
  unfold rd_l_at
  walk_at "rd"
  refine i_enumT ?_
  walk_at "rd"
  refine ⟨a, _, rfl, hA, ?_⟩
  intro D hD
  have hk : ∀ H', (∀ c o, c ≠ D → H c = some o → H' c = some o) → Ext H H' := fun H' h c o e => h c o (ne_of_none e hD) e
  refine lc_it (FW.walk_enumT (K := K) (a := a) (xs := ns.map V.int)) (fun i H' => i ≤ ns.length ∧ Ext H H' ∧ H' D = some (.lst (((atS ns r 0).take i).map V.int))) ⟨Nat.zero_le _, Ext.new hD, upd_same⟩
    (fun i H' _ p => p.2.1.sqT hA) ?_ ?_
  · rintro i v H' H'' hi ⟨hle, e, hDD⟩ ⟨T, x, y, rfl, hT, rfl, hx, hy⟩
    cases hx
    obtain ⟨c, rfl, hci⟩ := map_at hy
    have hilt := (List.getElem?_eq_some_iff.mp hci).1
    have hcs := hc c (List.mem_of_getElem? hci)
    have h1 : (i + 2) * (b + 1) ≤ (ns.length + 3) * (b + 1) := Nat.mul_le_mul_right _ (by omega)
    have h2 : (i + 2) * (b + 1) = i * b + i + 2 * b + 2 := by grind
    have hps := hr.pow hb i
    refine g_tup ?_ (SqT.of upd_same) rfl
    have hTD : D ≠ T := ne_of_none hDD hT
    walk_at "rd"
    refine ⟨rfl, ?_⟩
    walk_at "rd"
    refine ⟨r, (i : Nat), b, rfl, by omega, hr, hb, ?_, ?_⟩
    · have : (i + 1) * b ≤ (i + 2) * (b + 1) := Nat.mul_le_mul (by omega) (by omega)
      rw [Int.toNat_natCast]
      omega
    walk_at "rd"
    · refine ⟨_, by rw [upd_ne hTD]; exact hDD, ?_, by omega, fun c o q => ?_, ?_⟩
      · rw [List.length_map, List.length_take]; show _ < 2 ^ 24; omega
      · rw [upd_ne (ne_of_none q hD)]; exact (Ext.new hT) _ _ (e _ _ q)
      · have := atS_at ns r 0 i c hci
        rw [Nat.zero_add] at this
        rw [upd_same, take_succ' this, List.map_append, Int.toNat_natCast]; rfl
    · rw [Int.toNat_natCast]
      exact wide_mul (a := b) (b := i * b + 1) hcs hps hb (by omega) (by omega)
  · rintro H' ⟨_, e, hDD⟩
    walk_at "rd"
    rw [List.take_of_length_le (by rw [atS_len, List.length_map]; exact Nat.le_refl _)] at hDD
    refine e_sum ?_ (SqL.of hDD)
    rw [atS_sum, Int.pow_zero, Int.one_mul]
    exact q _ e
/-! is it a polynomial -/
def sp_l_is_poly (K : PySem.W.Frag) : Sp := fun vs H Q _ => ∃ (a : Addr) (ns : List Int), vs = [.ref a] ∧ H a = some (.tup (ns.map V.int)) ∧ ns.getLast? ≠ some 0 ∧ ns.length ≤ 1000 ∧ ∀ H', Ext H H' → Q (.bl true) H'
def rd_l_is_poly (K : PySem.W.Frag) : TS := tRet (tAndV (tCB (rIsi K) (tCons (tVar 0) (tCons (tC (.ty "tuple")) (tNil)))) (tAndV (tCB (rAll K) (tCons (tLc (iTup K (tVar 0)) (gName 1) (tYes) (tCB (rIsi K) (tCons (tVar 1) (tCons (tC (.ty "int")) (tNil)))) [1]) (tNil))) (tOp (rNeD K) (tSl (rSlA K) (tVar 0) (tPart (tUn FW.rNeg (tC (.int 1)))) (tNoPart)) (tTup (tCons (tC (.int 0)) (tNil))))))
theorem kitBt : kitB "tuple" "tuple" = some true := by decide +kernel
theorem cut_last (ns : List Int) : cutV (ns.map V.int) (some (-1)) none = (match ns.getLast? with | none => [] | some c => [V.int c]) := by
  unfold cutV
  have e : HT.sIx (ns.map V.int).length 0 (some (-1)) = (ns.map V.int).length - 1 := by
    show (if (-1 : Int) < 0 then (-1 + ((ns.map V.int).length : Int)).toNat else min (-1 : Int).toNat (ns.map V.int).length) = _
    rw [if_pos (by decide)]; omega
  rw [e, HT.sIx_none, List.length_map]
  rcases List.eq_nil_or_concat ns with rfl | ⟨xs, x, rfl⟩
  · rfl
  · simp
theorem pure_l_is_poly (K : PySem.W.Frag) (vs : List V) (H : Hp) (Q : VK) (E : XK) (h : sp_l_is_poly K vs H Q E) : rd_l_is_poly K { nx := fun _ H' => Q .non H', rt := Q } (start ["_law_thing", "_law_x"] vs) H := by
  obtain ⟨a, ns, rfl, hA, hlast, hln, q⟩ := h
  unfold rd_l_is_poly
  walk_at "rd"
  refine e_isi ?_ (WT.tup hA) kitBt
  walk_at "rd"
  refine i_tup' _ ?_ (SqT.of hA)
  intro D hD
  refine lc_tup (K := K) (a := a) (xs := ns.map V.int) (fun i H' => i ≤ ns.length ∧ Ext H H' ∧ H' D = some (.lst ((List.replicate i true).map V.bl))) ⟨Nat.zero_le _, Ext.new hD, upd_same⟩
    (fun i H' _ p => p.2.1.sqT (SqT.of hA)) ?_ ?_
  · rintro i x H' hx ⟨hle, e, hDD⟩
    obtain ⟨c, rfl, hci⟩ := map_at hx
    have hilt := (List.getElem?_eq_some_iff.mp hci).1
    walk_at "rd"
    refine ⟨rfl, ?_⟩
    walk_at "rd"
    refine e_isi ?_ (WT.i c) (kitI (by decide))
    refine ⟨_, hDD, ?_, by omega, e.upds hD, ?_⟩
    · rw [List.length_map, List.length_replicate]; show _ < 2 ^ 24; omega
    · rw [upd_same, List.replicate_succ', List.map_append]; rfl
  · rintro H' ⟨_, e, hDD⟩
    walk_at "rd"
    refine e_all ?_ (SqL.of hDD)
    have hat : (List.replicate (ns.map V.int).length true).all id = true := by simp
    rw [hat]
    walk_at "rd"
    refine e_sl ?_
    walk_at "rd"
    refine e_part ?_
    walk_at "rd"
    refine e_part' ?_
    refine e_noP ?_
    have hA' := e _ _ hA
    have fin : ∀ (t : Addr) (ms : List Int) (H2 : Hp), Ext H H2 → H2 t = some (.tup (ms.map V.int)) → ms ≠ [0] → tTup (tCons (tC (.int 0)) (tNil)) (start ["_law_thing", "_law_x"] [V.ref a]) H2 fun y H3 => rNeD K (.ref t) y H3 Q := by
      intro t ms H2 e2 ht hms
      walk_at "rd"
      refine ⟨by show 1 ≤ sizeLine; decide, fun z hz => ?_⟩
      refine e_neD (d := .tuple (ms.map PyData.int)) (e := .tuple ([0].map PyData.int)) ?_ (.tup (SqT.of ((Ext.new hz) _ _ ht)) (dpI ms)) (.tup (SqT.of upd_same) (dpI [0])) (shT _) (shT _)
      have : PyData.eqv (.tuple (ms.map PyData.int)) (.tuple ([0].map PyData.int)) = false := by
        rw [PyData.eqv, eqvI]; exact decide_eq_false hms
      rw [this]
      exact q _ (e2.tr (Ext.new hz))
    refine ⟨a, _, rfl, SqT.of hA', fun hw => ?_, fun hw p hp => ?_⟩
    · refine fin a ns H' e hA' (fun z => hlast (by rw [z]; rfl))
    · refine fin p (match ns.getLast? with | none => [] | some c => [c]) _ (e.tr (Ext.new hp)) ?_ ?_
      · rw [upd_same, cut_last]; cases ns.getLast? <;> rfl
      · cases hg : ns.getLast? with
        | none => intro z; cases z
        | some c => intro z; injection z with z _; rw [z] at hg; exact hlast hg
end FWL
namespace FWL
open PySem PySem.Spec PyProof.Rows L2 FW
/-! ### the law's own sign -/
theorem SgF.unique {f : Int → Int} {a : Int} {v w : V} (h1 : SgF f a v) (h2 : SgF f a w) : v = w := by
  rcases h1 with ⟨i, rfl, h1⟩ | ⟨rfl, r, hr, h1⟩ <;> rcases h2 with ⟨j, rfl, h2⟩ | ⟨rfl, r', hr', h2⟩
  · rw [← h1 a (Int.le_refl _), ← h2 a (Int.le_refl _)]
  · exact absurd ((h1 r' hr').trans (h1 a (Int.le_refl _)).symm) h2
  · exact absurd ((h2 r hr).trans (h2 a (Int.le_refl _)).symm) h1
  · rfl
theorem SgF.scal {f : Int → Int} {a : Int} {v : V} (h : SgF f a v) : (∃ i, v = .int i) ∨ v = .non := by
  rcases h with ⟨i, rfl, _⟩ | ⟨rfl, _⟩
  · exact .inl ⟨i, rfl⟩
  · exact .inr rfl
theorem e_neS {H : Hp} {Q : VK} {v : V} (h : (∃ i, v = .int i) ∨ v = .non) (q : Q (.bl false) H) : rNe v v H Q := by
  rcases h with ⟨i, rfl⟩ | rfl
  · refine e_ne ?_ rfl
    rw [decide_eq_true rfl]; exact q
  · refine e_ne ?_ rfl
    rw [decide_eq_true rfl]; exact q
theorem split_last : ∀ {ns : List Int}, (∃ c ∈ ns, c ≠ 0) → ∃ xs l zs, ns = xs ++ l :: zs ∧ l ≠ 0 ∧ ∀ c ∈ zs, c = 0
  | [], h => by obtain ⟨c, hc, _⟩ := h; cases hc
  | x :: ns, h => by
    by_cases hr : ∃ c ∈ ns, c ≠ 0
    · obtain ⟨xs, l, zs, rfl, h1, h2⟩ := split_last hr
      exact ⟨x :: xs, l, zs, rfl, h1, h2⟩
    · have hz : ∀ c ∈ ns, c = 0 := fun c hc => Classical.byContradiction fun z => hr ⟨c, hc, z⟩
      obtain ⟨c, hc, hne⟩ := h
      rcases List.mem_cons.mp hc with rfl | hc
      · exact ⟨[], c, ns, rfl, hne, hz⟩
      · exact absurd (hz c hc) hne
theorem far_all {ns : List Int} {M : Int} (h : ∃ c ∈ ns, c ≠ 0) (hM : ∀ c ∈ ns, c.natAbs ≤ M) : ∃ l : Int, l ≠ 0 ∧ ∀ r, M + 2 ≤ r → sgn (pvl ns r) = sgn l := by
  obtain ⟨xs, l, zs, rfl, hl, hz⟩ := split_last h
  refine ⟨l, hl, fun r hr => ?_⟩
  have hM0 : 0 ≤ M := by have := hM l (by simp); omega
  have e : pvl (xs ++ l :: zs) r = pvl (xs ++ [l]) r := by
    rw [show xs ++ l :: zs = (xs ++ [l]) ++ zs by simp, pv_append, pv_zeros hz]; simp
  rw [e]
  refine pv_far (M := M) hl (fun c hc => hM c (by simp [hc])) ?_ (by omega)
  have : 1 * (r - 1) ≤ (l.natAbs : Int) * (r - 1) := Int.mul_le_mul_of_nonneg_right (by omega) (by omega)
  omega
theorem sgn_ne0 {x : Int} (h : x ≠ 0) : sgn x ≠ 0 := by
  unfold sgn
  split <;> split <;> omega
def sp_l_sign (K : PySem.W.Frag) : Sp := fun vs H Q _ => ∃ (a : Addr) (ns : List Int) (first : Int), vs = [.ref a, .int first] ∧ SqT K H a (ns.map V.int) ∧ ns.length ≤ 8 ∧ (∀ c ∈ ns, c.natAbs ≤ 100000) ∧ -100000 ≤ first ∧ first ≤ 100000 ∧ ∀ v H', Ext H H' → SgF (pvl ns) first v → Q v H'
def rd_l_sign_L1 (K : PySem.W.Frag) : TS := tSeq (tAsg (tCall (sp_l_at K) [] E0 (tCons (tVar 0) (tCons (tVar 6) (tNil)))) (gName 3)) (tDrop (tBM K "list" rAppend (tVar 5) (tCons (tOp FW.rSub (tCB FW.rInt1 (tCons (tOp FW.rGt (tVar 3) (tC (.int 0))) (tNil))) (tCB FW.rInt1 (tCons (tOp FW.rLt (tVar 3) (tC (.int 0))) (tNil)))) (tNil))))
def rd_l_sign (K : PySem.W.Frag) : TS := tSeq (tAsg (tLc (iTup K (tVar 0)) (gName 3) (tTest (tOp rNe (tVar 3) (tC (.int 0)))) (tVar 3) [3]) (gName 2)) (tSeq (tIfS (tTest (tOp (rEqD K) (tVar 2) (tLst (tNil)))) (tRet (tC (.int 0))) (tNext)) (tSeq (tAsg (tOp FW.rAdd (tCB (rMax K) (tCons (tLc (iTup K (tVar 0)) (gName 3) (tYes) (tCB FW.rAbs (tCons (tVar 3) (tNil))) [3]) (tNil))) (tC (.int 2))) (gName 4)) (tSeq (tAsg (tLst (tNil)) (gName 5)) (tSeq (tFor (iRng2 (tCons (tVar 1) (tCons (tOp FW.rAdd (tCB FW.rMax2 (tCons (tVar 1) (tCons (tVar 4) (tNil)))) (tC (.int 1))) (tNil)))) (gName 6) (rd_l_sign_L1 K)) (tRet (tIf (tAnd (tTest (tOp rNe (tOp (rIxL K) (tVar 5) (tC (.int 0))) (tC (.int 0)))) (tTest (tOp (rEqD K) (tVar 5) (tOp rRep (tLst (tCons (tOp (rIxL K) (tVar 5) (tC (.int 0))) (tNil))) (tCB (Evl.rLenS K) (tCons (tVar 5) (tNil))))))) (tOp (rIxL K) (tVar 5) (tC (.int 0))) (tC .non)))))))
theorem sgn_if (x : Int) : (if decide (0 < x) = true then (1 : Int) else 0) - (if decide (x < 0) = true then 1 else 0) = sgn x := by
  unfold sgn
  by_cases h1 : 0 < x <;> by_cases h2 : x < 0 <;> simp [h1, h2]
theorem eqv_ints : ∀ xs ys : List Int, PyData.eqvAll (xs.map PyData.int) (ys.map PyData.int) = decide (xs = ys)
  | [], [] => rfl
  | [], _ :: _ => rfl
  | _ :: _, [] => rfl
  | x :: xs, y :: ys => by
    rw [List.map_cons, List.map_cons, PyData.eqvAll, eqv_ints xs ys, PyData.eqv]
    by_cases h1 : x = y <;> by_cases h2 : xs = ys <;> simp [h1, h2]
theorem pure_l_sign (K : PySem.W.Frag) (vs : List V) (H : Hp) (Q : VK) (E : XK) (h : sp_l_sign K vs H Q E) : rd_l_sign K { nx := fun _ H' => Q .non H', rt := Q } (start ["_law_poly_here", "_law_first", "_law_some", "_law_x", "_law_most", "_law_told", "_law_r"] vs) H := by
  obtain ⟨a, ns, first, rfl, hA, hlen, hc, hf0, hf1, q⟩ := h
  unfold rd_l_sign
  walk_at "rd"
  refine i_tup' _ ?_ hA
  refine lcT_gen (p := fun c => !decide (c = 0)) (f := fun c => c) hA (by omega) (fun _ => rfl) (fun c _ H' R _ h => ?_) (fun c _ _ H' R _ h => ?_) (fun p1 h1 => ?_)
  · walk_at "rd"
    rw [dec_int]; exact h
  · walk_at "rd"
    exact h
  rw [show ((ns.filter fun c => !decide (c = 0)).map fun c => c) = (ns.filter fun c => !decide (c = 0)) by simp]
  have e1 := Ext.new (o := .lst ((ns.filter fun c => !decide (c = 0)).map V.int)) h1
  have g1 : (upd H p1 (.lst ((ns.filter fun c => !decide (c = 0)).map V.int))) p1 = some (.lst ((ns.filter fun c => !decide (c = 0)).map V.int)) := upd_same
  generalize upd H p1 (.lst ((ns.filter fun c => !decide (c = 0)).map V.int)) = H1 at *
  walk_at "rd"
  refine ⟨by show 0 ≤ sizeLine; decide, fun p2 h2 => ?_⟩
  have e2 := Ext.new (o := .lst []) h2
  refine e_eqD (d := .list ((ns.filter fun c => !decide (c = 0)).map PyData.int)) (e := .list []) ?_ (.lst (SqL.of (e2 _ _ g1)) (dpI _)) (.lst (SqL.of upd_same) .nil) (shL _) (by kernel_rfl)
  rw [eqv_nilL]
  generalize upd H1 p2 (.lst []) = H2 at *
  have e12 := e1.tr e2
  walk_at "rd"
  refine e_ite (fun hnil => ?_) (fun hnil => ?_)
  · walk_at "rd"
    refine q _ H2 e12 (.inl ⟨0, rfl, fun r _ => ?_⟩)
    rw [pv_zeros (fun c hc' => ?_)]
    · rfl
    · have := List.filter_eq_nil_iff.mp hnil c hc'
      simpa using this
  have hex : ∃ c ∈ ns, c ≠ 0 := Classical.byContradiction fun z => hnil (List.filter_eq_nil_iff.mpr fun c hc' => by
    have : c = 0 := Classical.byContradiction fun z' => z ⟨c, hc', z'⟩
    simp [this])
  walk_at "rd"
  refine i_tup' _ ?_ (e12.sqT hA)
  refine lcT_gen (p := fun _ => true) (f := fun c => (c.natAbs : Int)) (e12.sqT hA) (by omega) (fun _ => rfl) (fun c _ H' R _ h => yes_all h) (fun c _ _ H' R _ h => ?_) (fun p3 h3 => ?_)
  · walk_at "rd"
    rw [abs_if]; exact h
  rw [filter_all]
  have e3 := Ext.new (o := .lst ((ns.map fun c => (c.natAbs : Int)).map V.int)) h3
  walk_at "rd"
  refine e_maxL (SqL.of upd_same) (fun z => by obtain ⟨c, hc', _⟩ := hex; rw [List.map_eq_nil_iff] at z; rw [z] at hc'; cases hc') fun M hM hmax => ?_
  have hM1 : ∀ c ∈ ns, (c.natAbs : Int) ≤ M := fun c hc' => hmax _ (List.mem_map.mpr ⟨c, hc', rfl⟩)
  have hM2 : 0 ≤ M ∧ M ≤ 100000 := by
    obtain ⟨c, hc', rfl⟩ := List.mem_map.mp hM
    have := hc c hc'; omega
  generalize upd H2 p3 (.lst ((ns.map fun c => (c.natAbs : Int)).map V.int)) = H3 at *
  have e13 := e12.tr e3
  walk_at "rd"
  refine ⟨by show 0 ≤ sizeLine; decide, fun F hF => ?_⟩
  have e4 := Ext.new (o := .lst []) hF
  have g4 : (upd H3 F (.lst [])) F = some (.lst (([] : List Int).map V.int)) := upd_same
  have nF : H F = none := e13.non hF
  generalize upd H3 F (.lst []) = H4 at *
  have e14 := e13.tr e4
  obtain ⟨w, hw⟩ : ∃ w, (if M + 2 > first then M + 2 else first) = w := ⟨_, rfl⟩
  have hw1 : first ≤ w ∧ M + 2 ≤ w ∧ w ≤ 100002 := by rw [← hw]; split <;> omega
  walk_at "rd"
  rw [hw]
  walk_at "rd"
  · refine for_range (lo := first) (n := (w + 1 - first).toNat) (fun i σ H' => ExtB F H4 H' ∧ i ≤ (w + 1 - first).toNat ∧ ∃ (v3 v6 : Option V), H' F = some (.lst (((List.range i).map fun (j : Nat) => sgn (pvl ns (first + (j : Int)))).map V.int)) ∧ σ = [some (.ref a), some (.int first), some (.ref p1), v3, some (.int (M + 2)), some (.ref F), v6])
      ⟨fun _ _ _ h => h, Nat.zero_le _, _, _, g4, rfl⟩ ?_ ?_
    · rintro i σ H5 hi ⟨e5, hi', v3, v6, g5, rfl⟩
      have hA5 : SqT K H5 a (ns.map V.int) := by
        have gF := g4
        rcases e14.sqT hA with h | h
        · rcases h with h | ⟨o, h⟩
          · exact .inl (.inl (e5 _ _ (fun z => by rw [z, gF] at h; cases h) h))
          · exact .inl (.inr ⟨o, e5 _ _ (fun z => by rw [z, gF] at h; cases h) h⟩)
        · exact .inr h
      walk_at "re"
      unfold rd_l_sign_L1
      walk_at "rd"
      refine ⟨a, ns, first + (i : Int), 30, rfl, hA5, by omega, fun c hc' => ?_, ?_, by decide, ?_, fun H6 e6 => ?_⟩
      · have := hc c hc'
        exact Nat.lt_of_le_of_lt this (by decide)
      · show (first + (i : Int)).natAbs < 2 ^ 30
        omega
      · have : ns.length + 3 ≤ 11 := by omega
        exact Nat.le_trans (Nat.mul_le_mul_right _ this) (by decide)
      walk_at "rd"
      refine ⟨.inl ⟨rfl, _, SqL.of (e6 _ _ g5)⟩, ?_⟩
      walk_at "rd"
      rw [sgn_if]
      refine ⟨F, _, _, rfl, rfl, e6 _ _ g5, by rw [List.length_map, List.length_map, List.length_range]; show _ < 2 ^ 24; omega, ?_⟩
      refine ⟨(e5.tr (ExtB.of e6)).tr ExtB.upd, by omega, _, _, ?_, rfl⟩
      rw [upd_same, List.range_succ, List.map_append, List.map_append]; rfl
    · rintro σ H5 ⟨e5, hi', v3, v6, g5, rfl⟩
      have e05 : Ext H H5 := fun b ob z => e5 _ _ (ne_of_none z nF) (e14 _ _ z)
      obtain ⟨n, hn⟩ : ∃ n : Nat, (w + 1 - first).toNat = n + 1 := ⟨(w + 1 - first).toNat - 1, by omega⟩
      have hix : ∀ {G : Hp} {R : VK}, G F = some (.lst (((List.range (n + 1)).map fun (j : Nat) => sgn (pvl ns (first + (j : Int)))).map V.int)) → R (.int (sgn (pvl ns first))) G → rIxL K (.ref F) (.int 0) G R := fun {G R} g r => by
        refine e_ixL r (SqL.of g) ?_
        have : atI (((List.range (n + 1)).map fun (j : Nat) => sgn (pvl ns (first + (j : Int)))).map V.int) ((0 : Nat) : Int) = some (.int (sgn (pvl ns first))) := by
          refine atI_nat ?_
          rw [List.getElem?_map, List.getElem?_map, List.getElem?_range (by omega)]
          simp
        exact this
      rw [hn] at g5
      obtain ⟨l, hl, hfar⟩ := far_all hex hM1
      have none_of : (∃ r, first ≤ r ∧ sgn (pvl ns r) ≠ sgn (pvl ns first)) → ∀ H', Ext H H' → Q .non H' := fun hx H' e => q _ H' e (.inr ⟨rfl, hx⟩)
      walk_at "rd"
      refine hix g5 ?_
      walk_at "rd"
      rw [dec_int]
      refine e_iteN (fun h0 => ?_) (fun h0 => ?_)
      · walk_at "re"
        refine hix g5 ?_
        walk_at "re"
        refine ⟨by show 1 ≤ sizeLine; decide, fun p6 h6 => ?_⟩
        have e6 := Ext.new (o := .lst [V.int (sgn (pvl ns first))]) h6
        have g56 := e6 _ _ g5
        walk_at "re"
        refine e_len ?_ (.inl (SqL.of g56))
        rw [List.length_map, List.length_map, List.length_range]
        walk_at "re"
        refine ⟨p6, ((n + 1 : Nat) : Int), _, rfl, rfl, upd_same, by omega, by omega, ?_, fun p7 h7 => ?_⟩
        · show 1 * ((n + 1 : Nat) : Int).toNat ≤ 2 ^ 24
          omega
        have efl : (List.replicate ((n + 1 : Nat) : Int).toNat [V.int (sgn (pvl ns first))]).flatten = (List.replicate (n + 1) (sgn (pvl ns first))).map V.int := by
          rw [show ((n + 1 : Nat) : Int).toNat = n + 1 by omega, List.map_replicate]
          generalize n + 1 = k
          induction k with
          | zero => rfl
          | succ m ih => rw [List.replicate_succ, List.flatten_cons, ih, List.replicate_succ]; rfl
        rw [efl]
        have e7 := Ext.new (o := .lst ((List.replicate (n + 1) (sgn (pvl ns first))).map V.int)) h7
        have g57 := e7 _ _ g56
        refine e_eqD (d := .list (((List.range (n + 1)).map fun (j : Nat) => sgn (pvl ns (first + (j : Int)))).map PyData.int)) (e := .list ((List.replicate (n + 1) (sgn (pvl ns first))).map PyData.int)) ?_ (.lst (SqL.of g57) (dpI _)) (.lst (SqL.of upd_same) (dpI _)) (shL _) (shL _)
        rw [show PyData.eqv (.list (((List.range (n + 1)).map fun (j : Nat) => sgn (pvl ns (first + (j : Int)))).map PyData.int)) (.list ((List.replicate (n + 1) (sgn (pvl ns first))).map PyData.int)) = decide (((List.range (n + 1)).map fun (j : Nat) => sgn (pvl ns (first + (j : Int)))) = List.replicate (n + 1) (sgn (pvl ns first))) from by rw [PyData.eqv, eqv_ints]]
        generalize upd (upd H5 p6 (.lst [V.int (sgn (pvl ns first))])) p7 (.lst ((List.replicate (n + 1) (sgn (pvl ns first))).map V.int)) = H7 at *
        walk_at "re"
        refine e_ite (fun hall => ?_) (fun hall => ?_)
        · walk_at "re"
          refine hix g57 ?_
          refine q _ H7 (e05.tr (e6.tr e7)) (.inl ⟨_, rfl, fun r hr => ?_⟩)
          have hat : ∀ j : Nat, j ≤ n → sgn (pvl ns (first + (j : Int))) = sgn (pvl ns first) := fun j hj => by
            have := congrArg (fun L : List Int => L[j]?) hall
            simp only [List.getElem?_map, List.getElem?_range (show j < n + 1 by omega), List.getElem?_replicate, if_pos (show j < n + 1 by omega), Option.map_some, Option.some.injEq] at this
            exact this
          by_cases hrw : r ≤ w
          · have := hat (r - first).toNat (by omega)
            rwa [show first + (((r - first).toNat : Nat) : Int) = r by omega] at this
          · have h1 := hat n (Nat.le_refl _)
            rw [show first + (n : Int) = w by omega] at h1
            rw [hfar r (by omega), ← hfar w (by omega), h1]
        · walk_at "re"
          refine none_of ?_ H7 (e05.tr (e6.tr e7))
          refine Classical.byContradiction fun z => hall ?_
          refine List.ext_getElem? fun j => ?_
          rw [List.getElem?_map, List.getElem?_replicate]
          by_cases hj : j < n + 1
          · rw [List.getElem?_range hj, if_pos hj]
            show some _ = some _
            congr 1
            exact Classical.byContradiction fun z' => z ⟨first + (j : Int), by omega, z'⟩
          · rw [if_neg hj, List.getElem?_eq_none (by rw [List.length_range]; omega)]; rfl
      · walk_at "re"
        refine none_of ⟨w, hw1.1, ?_⟩ H5 e05
        rw [hfar w (by omega), h0]
        exact sgn_ne0 hl
  · exact ⟨by omega, by omega, by omega, by omega⟩
/-! ### products of factors -/
theorem lcE_gen {K : PySem.W.Frag} {σ : L2.St} {H : Hp} {Q : VK} {a : Addr} {xs : List Int} {n1 n2 : Nat} {te : TE} {G : Nat → Int → Int} (h : SqL K H a (xs.map V.int)) (hl : xs.length ≤ 1000)
    (hw : ∀ u v : V, wipe (((wipe σ [n1, n2]).set n1 (some u)).set n2 (some v)) [n1, n2] = wipe σ [n1, n2])
    (he : ∀ (i : Nat) (x : Int), xs[i]? = some x → ∀ (H' : Hp) (R : VK), Ext H H' → R (.int (G i x)) H' → te (((wipe σ [n1, n2]).set n1 (some (.int (i : Int)))).set n2 (some (.int x))) H' R)
    (q : ∀ (D : Addr) (ys : List Int) (H' : Hp), H D = none → Ext H H' → H' D = some (.lst (ys.map V.int)) → ys.length = xs.length → (∀ (i : Nat) (x : Int), xs[i]? = some x → ys[i]? = some (G i x)) → Q (.ref D) H') :
    LcK (gTup K 2 (gCons (gName n1) (gCons (gName n2) gNil))) tYes te [n1, n2] σ Q (Ite K a) H := by
  intro D hD
  refine lc_it (walk_enum (K := K) (a := a) (xs := xs.map V.int)) (fun i H' => i ≤ xs.length ∧ ∃ ys : List Int, Ext H H' ∧ H' D = some (.lst (ys.map V.int)) ∧ ys.length = i ∧ ∀ (j : Nat) (x : Int), j < i → xs[j]? = some x → ys[j]? = some (G j x))
    ⟨Nat.zero_le _, [], Ext.new hD, upd_same, rfl, fun j x hj => absurd hj (by omega)⟩ (fun i H' _ h' => by obtain ⟨_, ys, e, _⟩ := h'; exact e.sqL h) ?_ ?_
  · rintro i v H1 H2 hi ⟨hle, ys, e, hDD, hlen, hall⟩ ⟨T, y, z, rfl, hT, rfl, e1, e2⟩
    cases e1
    obtain ⟨x, rfl, hx⟩ := ints_at e2
    have e3 := Ext.new (o := .tup [V.int (i : Int), V.int x]) hT
    refine g_tup ?_ (SqT.of upd_same) rfl
    walk_at "re"
    refine ⟨hw _ _, yes_all ?_⟩
    rw [if_pos rfl]
    refine he i x hx _ _ (e.tr e3) ?_
    have hTD : T ≠ D := (ne_of_none hDD hT).symm
    refine ⟨_, e3 _ _ hDD, by rw [List.length_map]; show _ < 2 ^ 24; rw [List.length_map] at hi; omega, by rw [List.length_map] at hi; omega, ys ++ [G i x], (e.tr e3).upds hD, by rw [upd_same, List.map_append]; rfl, by simp [hlen], fun j x' hj hx' => ?_⟩
    by_cases hji : j < i
    · rw [List.getElem?_append_left (by omega)]; exact hall j x' hji hx'
    · have : j = i := by omega
      subst this
      rw [hx] at hx'; cases hx'
      rw [List.getElem?_append_right (by omega), hlen]; simp
  · rintro H1 ⟨hle, ys, e, hDD, hlen, hall⟩
    rw [List.length_map] at hlen hall
    refine q D ys H1 hD e hDD hlen fun i x hx => hall i x ?_ hx
    exact (List.getElem?_eq_some_iff.mp hx).1
/-- the product with r - z -/
def mulZ (z : Int) (fs : List Int) : List Int := List.zipWith (fun a x => a - z * x) (0 :: fs) (fs ++ [0])
theorem mulZ_len (z : Int) (fs : List Int) : (mulZ z fs).length = fs.length + 1 := by simp [mulZ]
theorem mulZ_pv (z : Int) (fs : List Int) (r : Int) : pvl (mulZ z fs) r = (r - z) * pvl fs r := by
  have key : ∀ (us ws : List Int), us.length = ws.length → pvl (List.zipWith (fun a x => a - z * x) us ws) r = pvl us r - z * pvl ws r := by
    intro us
    induction us with
    | nil => intro ws h; cases ws with
      | nil => simp [pvl]
      | cons _ _ => simp at h
    | cons u us ih => intro ws h; cases ws with
      | nil => simp at h
      | cons w ws =>
        rw [List.zipWith_cons_cons, pvl, pvl, pvl, ih ws (by simpa using h)]; grind
  rw [mulZ, key _ _ (by simp), pv_append, pvl]
  simp only [pvl]
  grind
theorem zipM_sz {b s : Nat} {z : Int} (hz : Sz s z) : ∀ {xs ys : List Int}, (∀ c ∈ xs, Sz b c) → (∀ c ∈ ys, Sz b c) → ∀ c ∈ List.zipWith (fun a x => a - z * x) xs ys, Sz (b + s + 1) c
  | [], _, _, _, c, h => by simp at h
  | _ :: _, [], _, _, c, h => by simp at h
  | x :: xs, y :: ys, hx, hy, c, h => by
    rw [List.zipWith_cons_cons] at h
    rcases List.mem_cons.mp h with rfl | h
    · have h2 := hz.mul (hy y List.mem_cons_self)
      rw [Nat.add_comm s b] at h2
      exact Sz.sub ((hx x List.mem_cons_self).mono (by omega)) h2
    · exact zipM_sz hz (fun c hc => hx c (List.mem_cons_of_mem _ hc)) (fun c hc => hy c (List.mem_cons_of_mem _ hc)) c h
theorem mulZ_sz {b s : Nat} {z : Int} {fs : List Int} (hz : Sz s z) (h : ∀ c ∈ fs, Sz b c) : ∀ c ∈ mulZ z fs, Sz (b + s + 1) c := by
  refine zipM_sz hz (fun c hc => ?_) (fun c hc => ?_)
  · rcases List.mem_cons.mp hc with rfl | hc
    · exact sz0
    · exact h c hc
  · rcases List.mem_append.mp hc with hc | hc
    · exact h c hc
    · rw [List.mem_singleton.mp hc]; exact sz0
theorem mulZ_of {z : Int} {fs ys : List Int} (hl : ys.length = (fs ++ [0]).length) (h : ∀ (i : Nat) (x : Int), (fs ++ [0])[i]? = some x → ys[i]? = some (((0 :: fs).getD i 0) - z * x)) : ys = mulZ z fs := by
  refine List.ext_getElem? fun i => ?_
  by_cases hi : i < (fs ++ [0]).length
  · have e := h i _ (List.getElem?_eq_getElem hi)
    rw [e]
    have hi1 : i < fs.length + 1 := by simpa using hi
    unfold mulZ
    rw [List.getElem?_zipWith, List.getElem?_eq_getElem (l := 0 :: fs) (by simpa using hi1), List.getElem?_eq_getElem hi]
    simp [List.getD, List.getElem?_eq_getElem (l := 0 :: fs) (show i < (0 :: fs).length by simpa using hi1)]
  · rw [List.getElem?_eq_none (by omega), List.getElem?_eq_none (by rw [mulZ_len]; simp at hi; omega)]

/-- [raised[j] - z * x for j, x in enumerate(found + [0])] -/
theorem raise_step {K : PySem.W.Frag} {σ : L2.St} {H : Hp} {Q : VK} {fA rA : Addr} {fs : List Int} {z : Int} {n1 n2 i5 iz : Nat} {s b : Nat} (hF : H fA = some (.lst ((fs ++ [0]).map V.int))) (hR : H rA = some (.lst ((0 :: fs).map V.int))) (hl : fs.length ≤ 10) (hz : Sz s z) (hs : ∀ c ∈ fs, Sz b c) (hb : b + s ≤ 2000) (hs0 : 0 < s) (hb0 : 0 < b)
    (hw : ∀ u v : V, wipe (((wipe σ [n1, n2]).set n1 (some u)).set n2 (some v)) [n1, n2] = wipe σ [n1, n2])
    (v5 : ∀ u v : V, (((wipe σ [n1, n2]).set n1 (some u)).set n2 (some v))[i5]? = some (some (.ref rA))) (vz : ∀ u v : V, (((wipe σ [n1, n2]).set n1 (some u)).set n2 (some v))[iz]? = some (some (.int z)))
    (v1 : ∀ u v : V, (((wipe σ [n1, n2]).set n1 (some u)).set n2 (some v))[n1]? = some (some u)) (v2 : ∀ u v : V, (((wipe σ [n1, n2]).set n1 (some u)).set n2 (some v))[n2]? = some (some v))
    (q : ∀ (D : Addr) (H' : Hp), H D = none → Ext H H' → H' D = some (.lst ((mulZ z fs).map V.int)) → Q (.ref D) H') :
    LcK (gTup K 2 (gCons (gName n1) (gCons (gName n2) gNil))) tYes (tOp FW.rSub (tOp (rIxL K) (tVar i5) (tVar n1)) (tOp FW.rMul (tVar iz) (tVar n2))) [n1, n2] σ Q (Ite K fA) H := by
  refine lcE_gen (G := fun i x => ((0 :: fs).getD i 0) - z * x) (SqL.of hF) (by rw [List.length_append, List.length_cons, List.length_nil]; omega) hw (fun i x hx H' R e r => ?_) (fun D ys H' hD e g hlen hall => ?_)
  · have hi := (List.getElem?_eq_some_iff.mp hx).1
    have hi' : i < fs.length + 1 := by simpa using hi
    have hx' : Sz b x := by
      rcases List.mem_append.mp (List.mem_of_getElem? hx) with h | h
      · exact hs x h
      · rw [List.mem_singleton.mp h]; exact sz0
    refine e_op (e_op (e_var (e_var (e_ixL (e_op (e_var (e_var (e_I (e_I0 r) ?_) (v2 _ _)) (vz _ _))) (SqL.of (e _ _ hR)) ?_) (v1 _ _)) (v5 _ _)))
    · exact wide_mul hz hx' hs0 hb0 (by omega)
    · refine atI_nat ?_
      rw [List.getElem?_map, List.getElem?_eq_getElem (l := 0 :: fs) (by simpa using hi')]
      simp [List.getD, List.getElem?_eq_getElem (l := 0 :: fs) (show i < (0 :: fs).length by simpa using hi')]
  · refine q D H' hD e ?_
    rw [← mulZ_of hlen hall]; exact g
def sp_l_made (K : PySem.W.Frag) : Sp := fun vs H Q _ => ∃ (p : Addr) (n : Nat), vs = [.ref p] ∧ Strm H p n ∧ n + 20 < 1000000 ∧
  ∀ (T t Z : Addr) (ns zs : List Int) (H' : Hp), ExtB p H H' → Strm H' p (n + 7) → Z ≠ p → H' T = some (.tup [.ref t, .ref Z]) → H' t = some (.tup (ns.map V.int)) → H' Z = some (.lst (zs.map V.int)) → ns.length ≤ 4 → (∀ c ∈ ns, c.natAbs ≤ 100000) → zs ≠ [] → (∀ z ∈ zs, -2 ≤ z ∧ z ≤ 4) → Q (.ref T) H'
def rd_l_made_L1 (K : PySem.W.Frag) : TS := tSeq (tAsg (tOp FW.rSub (tCall (sp_l_draw K) [] E0 (tCons (tVar 0) (tCons (tC (.int 7)) (tNil)))) (tC (.int 2))) (gName 4)) (tSeq (tAsg (tOp rCat (tLst (tCons (tC (.int 0)) (tNil))) (tVar 1)) (gName 5)) (tSeq (tAsg (tLc (iEnum K (tCons (tOp rCat (tVar 1) (tLst (tCons (tC (.int 0)) (tNil)))) (tNil))) (gTup K 2 (gCons (gName 6) (gCons (gName 7) (gNil)))) (tYes) (tOp FW.rSub (tOp (rIxL K) (tVar 5) (tVar 6)) (tOp FW.rMul (tVar 4) (tVar 7))) [6, 7]) (gName 1)) (tDrop (tBM K "list" rAppend (tVar 2) (tCons (tVar 4) (tNil))))))
def rd_l_made (K : PySem.W.Frag) : TS := tSeq (tPar 1 2 (tCons (tLst (tCons (tC (.int 1)) (tNil))) (tCons (tLst (tNil)) (tNil)))) (tSeq (tFor (iRng1 (tCons (tCall (sp_l_draw K) [] E0 (tCons (tVar 0) (tCons (tC (.int 4)) (tNil)))) (tNil))) (gName 3) (rd_l_made_L1 K)) (tSeq (tAsg (tCall (sp_l_pick K) [] E0 (tCons (tVar 0) (tCons (tLst (tCons (tC (.int 1)) (tCons (tUn FW.rNeg (tC (.int 1))) (tCons (tC (.int 2)) (tCons (tUn FW.rNeg (tC (.int 3))) (tNil)))))) (tNil)))) (gName 8)) (tSeq (tAsg (tLc (iList K (tVar 1)) (gName 7) (tYes) (tOp FW.rMul (tVar 8) (tVar 7)) [7]) (gName 1)) (tSeq (tAsg (tOp FW.rAdd (tOp (rIxL K) (tVar 1) (tC (.int 0))) (tCall (sp_l_pick K) [] E0 (tCons (tVar 0) (tCons (tLst (tCons (tC (.int 0)) (tCons (tC (.int 0)) (tCons (tC (.int 0)) (tCons (tC (.int 1)) (tCons (tUn FW.rNeg (tC (.int 1))) (tNil))))))) (tNil))))) (gSub (tVar 1) (tC (.int 0)) rSetL)) (tRet (tTup (tCons (tCB (FW.rTupS K) (tCons (tVar 1) (tNil))) (tCons (tOp rCat (tVar 2) (tLst (tCons (tC (.int 0)) (tNil)))) (tNil)))))))))
theorem lst_ne {H : Hp} {p t : Addr} {n : Nat} (hp : Strm H p n) (h : H t = none) : t ≠ p := hp.ne h
/-- one more factor -/
theorem made_L1 {K : PySem.W.Frag} {H : Hp} {D : Ends} {p fA zA : Addr} {n b : Nat} {fs zs : List Int} {v3 v4 v5 v6 v7 v8 : Option V} (hS : Strm H p n) (hn : n + 5 < 1000000) (hfp : fA ≠ p) (hzp : zA ≠ p) (hfz : fA ≠ zA) (hF : H fA = some (.lst (fs.map V.int))) (hZ : H zA = some (.lst (zs.map V.int))) (hl : fs.length ≤ 5) (hzl : zs.length ≤ 5)
    (hs : ∀ c ∈ fs, Sz b c) (hb0 : 0 < b) (hb : b ≤ 100)
    (k : ∀ (z : Int) (f' : Addr) (H' : Hp) (w4 w5 w6 w7 : Option V), -2 ≤ z → z ≤ 4 → (∀ c o, c ≠ p → c ≠ zA → H c = some o → H' c = some o) → Strm H' p (n + 1) → f' ≠ p → f' ≠ zA → H' f' = some (.lst ((mulZ z fs).map V.int)) → H' zA = some (.lst ((zs ++ [z]).map V.int)) → D.nx [some (.ref p), some (.ref f'), some (.ref zA), v3, w4, w5, w6, w7, v8] H') :
    rd_l_made_L1 K D [some (.ref p), some (.ref fA), some (.ref zA), v3, v4, v5, v6, v7, v8] H := by
  unfold rd_l_made_L1
  walk_at "rd"
  refine ⟨p, 7, n, rfl, hS, by omega, by decide, by decide, fun d H1 d0 d1 e1 s1 => ?_⟩
  have hF1 := e1 _ _ hfp hF
  have hZ1 := e1 _ _ hzp hZ
  walk_at "rd"
  refine ⟨by show 1 ≤ sizeLine; decide, fun p2 h2 => ?_⟩
  have e2 := Ext.new (o := .lst [V.int 0]) h2
  walk_at "rd"
  refine e_cat (fun rA h3 => ?_) upd_same (e2 _ _ hF1) (by rw [List.length_map]; show 1 + _ ≤ 2 ^ 24; omega)
  have e3 := Ext.new (o := .lst ([V.int 0] ++ fs.map V.int)) h3
  have g3 : (upd (upd H1 p2 (.lst [V.int 0])) rA (.lst ([V.int 0] ++ fs.map V.int))) rA = some (.lst ((0 :: fs).map V.int)) := upd_same
  have e13 := e2.tr e3
  generalize upd (upd H1 p2 (.lst [V.int 0])) rA (.lst ([V.int 0] ++ fs.map V.int)) = H3 at *
  walk_at "rs1"
  refine s_asg (e_lc (i_enum ?_))
  walk_at "re"
  refine ⟨by show 1 ≤ sizeLine; decide, fun p4 h4 => ?_⟩
  have e4 := Ext.new (o := .lst [V.int 0]) h4
  refine e_cat (fun p5 h5 => ?_) (e4 _ _ (e13 _ _ hF1)) upd_same (by rw [List.length_map]; show _ + 1 ≤ 2 ^ 24; omega)
  have e5 := Ext.new (o := .lst (fs.map V.int ++ [V.int 0])) h5
  have g5 : (upd (upd H3 p4 (.lst [V.int 0])) p5 (.lst (fs.map V.int ++ [V.int 0]))) p5 = some (.lst ((fs ++ [0]).map V.int)) := by rw [upd_same, List.map_append]; rfl
  have e35 := e4.tr e5
  generalize upd (upd H3 p4 (.lst [V.int 0])) p5 (.lst (fs.map V.int ++ [V.int 0])) = H5 at *
  walk_at "re"
  refine ⟨p5, _, rfl, SqL.of g5, ?_⟩
  refine raise_step (s := 3) (b := b) (z := d - 2) g5 (e35 _ _ g3) (by omega) (by show (d - 2).natAbs < 8; omega) hs (by omega) (by decide) hb0 (fun _ _ => rfl) (fun _ _ => rfl) (fun _ _ => rfl) (fun _ _ => rfl) (fun _ _ => rfl) (fun D6 H6 hD6 e6 g6 => ?_)
  have e16 : Ext H1 H6 := e13.tr (e35.tr e6)
  have n6 : H1 D6 = none := (e13.tr e35).non hD6
  have hDz : D6 ≠ zA := fun z => by rw [z, hZ1] at n6; cases n6
  have hDp : D6 ≠ p := s1.ne n6
  walk_at "rd"
  refine ⟨.inl ⟨rfl, _, SqL.of (e16 _ _ hZ1)⟩, ?_⟩
  walk_at "rd"
  refine ⟨zA, _, _, rfl, rfl, e16 _ _ hZ1, by rw [List.length_map]; show _ < 2 ^ 24; omega, ?_⟩
  refine k (d - 2) D6 _ _ _ _ _ (by omega) (by omega) (fun c o h1 h2 h3 => by rw [upd_ne h2]; exact e16 _ _ (e1 _ _ h1 h3)) ?_ hDp hDz (by rw [upd_ne hDz]; exact g6) (by rw [upd_same, List.map_append]; rfl)
  obtain ⟨a, b', c, h1, h2⟩ := s1.ext e16
  exact ⟨a, b', c, by rw [upd_ne hzp.symm]; exact h1, h2⟩
theorem pure_l_made (K : PySem.W.Frag) (vs : List V) (H : Hp) (Q : VK) (E : XK) (h : sp_l_made K vs H Q E) : rd_l_made K { nx := fun _ H' => Q .non H', rt := Q } (start ["_law_stream_here", "_law_found", "_law_zeros", "_law_k", "_law_z", "_law_raised", "_law_j", "_law_x", "_law_by"] vs) H := by
  obtain ⟨p, n, rfl, hS, hn, q⟩ := h
  unfold rd_l_made
  walk_at "rd"
  refine ⟨by show 1 ≤ sizeLine; decide, fun fA h1 => ?_⟩
  have e1 := Ext.new (o := .lst [V.int 1]) h1
  have g1 : (upd H fA (.lst [V.int 1])) fA = some (.lst (([1] : List Int).map V.int)) := upd_same
  generalize upd H fA (.lst [V.int 1]) = H1 at *
  walk_at "rd"
  refine ⟨by show 0 ≤ sizeLine; decide, fun zA h2 => ?_⟩
  have e2 := Ext.new (o := .lst []) h2
  have g2 : (upd H1 zA (.lst [])) zA = some (.lst (([] : List Int).map V.int)) := upd_same
  have nzA : H zA = none := e1.non h2
  have hfz : fA ≠ zA := (ne_of_none g1 h2)
  have s2 := hS.ext (e1.tr e2)
  generalize upd H1 zA (.lst []) = H2 at *
  have g12 := e2 _ _ g1
  have hfp : fA ≠ p := hS.ne h1
  have hzp : zA ≠ p := hS.ne nzA
  walk_at "rd"
  refine ⟨p, 4, n, rfl, s2, by omega, by decide, by decide, fun d H3 d0 d1 e3 s3 => ?_⟩
  have e03 : ExtB p H H3 := (ExtB.of (e1.tr e2)).tr e3
  walk_at "re"
  · refine for_range (lo := 0) (n := d.toNat) (fun i σ H' => i ≤ 3 ∧ ExtB p H H' ∧ Strm H' p (n + 1 + i) ∧ ∃ (f : Addr) (fs zs : List Int) (w3 w4 w5 w6 w7 : Option V), f ≠ p ∧ f ≠ zA ∧ H' f = some (.lst (fs.map V.int)) ∧ H' zA = some (.lst (zs.map V.int)) ∧ fs.length = i + 1 ∧ zs.length = i ∧ (∀ c ∈ fs, Sz (1 + 4 * i) c) ∧ (∀ z ∈ zs, -2 ≤ z ∧ z ≤ 4) ∧ σ = [some (.ref p), some (.ref f), some (.ref zA), w3, w4, w5, w6, w7, none])
      ⟨by decide, e03, s3, fA, [1], [], _, _, _, _, _, hfp, hfz, e3 _ _ hfp g12, e3 _ _ hzp g2, rfl, rfl, by intro c hc; simp only [List.mem_cons, List.not_mem_nil, or_false] at hc; rw [hc]; decide, by simp, rfl⟩ ?_ ?_
    · rintro i σ H4 hi ⟨hi3, e4, s4, f, fs, zs, w3, w4, w5, w6, w7, h1, h2, h3, h4, h5, h6, h7, h8, rfl⟩
      walk_at "re"
      refine made_L1 s4 (by omega) h1 hzp h2 h3 h4 (by omega) (by omega) h7 (by omega) (by omega) fun z f' H5 w4 w5 w6 w7 hz0 hz1 e5 s5 k1 k2 k3 k4 => ?_
      refine ⟨by omega, fun c o hc ho => e5 c o hc (ne_of_none ho nzA) (e4 c o hc ho), s5, f', mulZ z fs, zs ++ [z], _, _, _, _, _, k1, k2, k3, k4, by rw [mulZ_len, h5], by simp [h6], fun c hc => ?_, fun y hy => ?_, rfl⟩
      · exact (mulZ_sz (s := 3) (show z.natAbs < 8 by omega) h7 c hc).mono (by omega)
      · rcases List.mem_append.mp hy with hy | hy
        · exact h8 y hy
        · rw [List.mem_singleton.mp hy]; exact ⟨hz0, hz1⟩
    · rintro σ H4 ⟨hi3, e4, s4, f, fs, zs, w3, w4, w5, w6, w7, h1, h2, h3, h4, h5, h6, h7, h8, rfl⟩
      walk_at "rd"
      refine ⟨by show 4 ≤ sizeLine; decide, fun p5 hp5 => ?_⟩
      walk_at "rd"
      refine ⟨p, p5, [.int 1, .int (-1), .int 2, .int (-3)], n + 1 + d.toNat, rfl, s4.ext (Ext.new hp5), by omega, s4.ne hp5, upd_same, by simp, by show 4 < 1000; decide, fun v H6 hv e6 s6 => ?_⟩
      obtain ⟨by_, rfl, hby⟩ : ∃ b : Int, v = .int b ∧ b.natAbs < 4 := by
        simp only [List.mem_cons, List.not_mem_nil, or_false] at hv
        rcases hv with rfl | rfl | rfl | rfl <;> exact ⟨_, rfl, by decide⟩
      have e46 : ExtB p H4 H6 := (ExtB.of (Ext.new hp5)).tr e6
      have h36 := e46 _ _ h1 h3
      have h46 := e46 _ _ hzp h4
      walk_at "rd"
      refine i_list' _ ?_ (SqL.of h36)
      refine lcL_gen (p := fun _ => true) (f := fun x => by_ * x) (SqL.of h36) (by omega) (fun _ => rfl) (fun c _ H' R _ h => yes_all h) (fun c hc _ H' R _ h => ?_) (fun p7 h7' => ?_)
      · walk_at "rd"
        · exact h
        · exact wide_mul (a := 2) (b := 20) hby ((h7 c hc).mono (by omega)) (by decide) (by decide) (by decide)
      rw [filter_all]
      have e7 := Ext.new (o := .lst ((fs.map fun x => by_ * x).map V.int)) h7'
      have g7 : (upd H6 p7 (.lst ((fs.map fun x => by_ * x).map V.int))) p7 = some (.lst ((fs.map fun x => by_ * x).map V.int)) := upd_same
      have s7 := s6.ext e7
      have hp7p : p7 ≠ p := s6.ne h7'
      generalize upd H6 p7 (.lst ((fs.map fun x => by_ * x).map V.int)) = H7 at *
      have h47 := e7 _ _ h46
      have hp7z : p7 ≠ zA := fun z => by rw [z, h46] at h7'; cases h7'
      obtain ⟨c0, cs, hfs⟩ : ∃ c0 cs, fs.map (fun x => by_ * x) = c0 :: cs := by
        cases fs with
        | nil => simp at h5
        | cons x xs => exact ⟨_, _, rfl⟩
      have hsz : ∀ c ∈ c0 :: cs, Sz 15 c := fun c hc => by
        rw [← hfs] at hc
        obtain ⟨x, hx, rfl⟩ := List.mem_map.mp hc
        exact (Sz.mul (show by_.natAbs < 2 ^ 2 from hby) (h7 x hx)).mono (by omega)
      have hcl : cs.length ≤ 3 := by
        have := congrArg List.length hfs
        rw [List.length_map, List.length_cons] at this; omega
      rw [hfs] at g7
      walk_at "rd"
      refine e_ixL (v := .int c0) ?_ (SqL.of g7) (show atI ((c0 :: cs).map V.int) ((0 : Nat) : Int) = _ from atI_nat rfl)
      walk_at "rd"
      refine ⟨by show 5 ≤ sizeLine; decide, fun p8 hp8 => ?_⟩
      walk_at "rd"
      refine ⟨p, p8, [.int 0, .int 0, .int 0, .int 1, .int (-1)], n + 1 + d.toNat + 1, rfl, s7.ext (Ext.new hp8), by omega, s7.ne hp8, upd_same, by simp, by show 5 < 1000; decide, fun v H9 hv e9 s9 => ?_⟩
      obtain ⟨up, rfl, hup⟩ : ∃ b : Int, v = .int b ∧ b.natAbs < 2 := by
        simp only [List.mem_cons, List.not_mem_nil, or_false] at hv
        rcases hv with rfl | rfl | rfl | rfl | rfl <;> exact ⟨_, rfl, by decide⟩
      have e79 : ExtB p H7 H9 := (ExtB.of (Ext.new hp8)).tr e9
      have g79 := e79 _ _ hp7p g7
      have h49 := e79 _ _ hzp h47
      walk_at "rd"
      refine e_setL (m := 0) ?_ g79 (show ixN ((c0 :: cs).map V.int).length ((0 : Nat) : Int) = _ from Evl.ixN_nat (by simp))
      have g10 : (upd H9 p7 (.lst (((c0 :: cs).map V.int).set 0 (.int (c0 + up))))) p7 = some (.lst (((c0 + up) :: cs).map V.int)) := upd_same
      have h410 : (upd H9 p7 (.lst (((c0 :: cs).map V.int).set 0 (.int (c0 + up))))) zA = some (.lst (zs.map V.int)) := by rw [upd_ne hp7z.symm]; exact h49
      have s10 : Strm (upd H9 p7 (.lst (((c0 :: cs).map V.int).set 0 (.int (c0 + up))))) p (n + 1 + d.toNat + 1 + 1) := by
        obtain ⟨a, b, c, k1, k2⟩ := s9
        exact ⟨a, b, c, by rw [upd_ne hp7p.symm]; exact k1, k2⟩
      have n7 : H p7 = none := by
        cases e : H p7 with
        | none => rfl
        | some o => rw [e46 _ _ hp7p (e4 _ _ hp7p e)] at h7'; cases h7'
      have e010 : ExtB p H (upd H9 p7 (.lst (((c0 :: cs).map V.int).set 0 (.int (c0 + up))))) := fun b o hb ho => by
        rw [upd_ne (ne_of_none ho n7)]
        exact e79 _ _ hb (e7 _ _ (e46 _ _ hb (e4 _ _ hb ho)))
      generalize upd H9 p7 (.lst (((c0 :: cs).map V.int).set 0 (.int (c0 + up)))) = H10 at *
      walk_at "rd"
      refine e_tupL (fun t11 h11 => ?_) (SqL.of g10)
      have e11 := Ext.new (o := .tup (((c0 + up) :: cs).map V.int)) h11
      have g11 : (upd H10 t11 (.tup (((c0 + up) :: cs).map V.int))) t11 = some (.tup (((c0 + up) :: cs).map V.int)) := upd_same
      generalize upd H10 t11 (.tup (((c0 + up) :: cs).map V.int)) = H11 at *
      walk_at "rd"
      refine ⟨by show 1 ≤ sizeLine; decide, fun p12 h12 => ?_⟩
      have e12 := Ext.new (o := .lst [V.int 0]) h12
      refine e_cat (fun Z h13 => ?_) (e12 _ _ (e11 _ _ h410)) upd_same (by rw [List.length_map]; show _ + 1 ≤ 2 ^ 24; omega)
      have e13 := Ext.new (o := .lst (zs.map V.int ++ [V.int 0])) h13
      have g13 : (upd (upd H11 p12 (.lst [V.int 0])) Z (.lst (zs.map V.int ++ [V.int 0]))) Z = some (.lst ((zs ++ [0]).map V.int)) := by rw [upd_same, List.map_append]; rfl
      have e1113 := e12.tr e13
      generalize upd (upd H11 p12 (.lst [V.int 0])) Z (.lst (zs.map V.int ++ [V.int 0])) = H13 at *
      walk_at "rd"
      refine ⟨by show 2 ≤ sizeLine; decide, fun T hT => ?_⟩
      have e14 := Ext.new (o := .tup [V.ref t11, V.ref Z]) hT
      refine q T t11 Z ((c0 + up) :: cs) (zs ++ [0]) _ (e010.tr (ExtB.of (e11.tr (e1113.tr e14)))) ((s10.ext (e11.tr (e1113.tr e14))).mono (by omega)) ((s10.ext (e11.tr e12)).ne h13) upd_same (e14 _ _ (e1113 _ _ g11)) (e14 _ _ g13) (by rw [List.length_cons]; omega) (fun c hc => ?_) (by simp) (fun z hz => ?_)
      · rcases List.mem_cons.mp hc with rfl | hc
        · have := hsz c0 List.mem_cons_self
          have : c0.natAbs < 32768 := this
          omega
        · have : c.natAbs < 32768 := hsz c (List.mem_cons_of_mem _ hc)
          omega
      · rcases List.mem_append.mp hz with hz | hz
        · exact h8 z hz
        · rw [List.mem_singleton.mp hz]; decide
  · exact ⟨by omega, by omega⟩
/-! ### great polynomials with known zeros -/
def pz : List Int → Int → Int
  | [], _ => 1
  | z :: zs, r => (r - z) * pz zs r
theorem pz_snoc (zs : List Int) (z r : Int) : pz (zs ++ [z]) r = (r - z) * pz zs r := by
  induction zs with
  | nil => rfl
  | cons y ys ih => rw [List.cons_append, pz, ih, pz]; grind
theorem pz_pos {r : Int} : ∀ {zs : List Int}, (∀ z ∈ zs, z < r) → 0 < pz zs r
  | [], _ => by show (0 : Int) < 1; decide
  | z :: zs, h => Int.mul_pos (by have := h z List.mem_cons_self; omega) (pz_pos fun y hy => h y (List.mem_cons_of_mem _ hy))
theorem pz_zero {r : Int} : ∀ {zs : List Int}, r ∈ zs → pz zs r = 0
  | z :: zs, h => by
    rw [pz]
    rcases List.mem_cons.mp h with rfl | h
    · rw [Int.sub_self, Int.zero_mul]
    · rw [pz_zero h, Int.mul_zero]
theorem pz_neg {r : Int} : ∀ {zs : List Int}, (∀ z ∈ zs, r < z) → (zs.length % 2 = 0 → 0 < pz zs r) ∧ (zs.length % 2 = 1 → pz zs r < 0)
  | [], _ => ⟨fun _ => by show (0 : Int) < 1; decide, fun h => by simp at h⟩
  | z :: zs, h => by
    obtain ⟨h1, h2⟩ := pz_neg (zs := zs) fun y hy => h y (List.mem_cons_of_mem _ hy)
    have hz := h z List.mem_cons_self
    rw [List.length_cons, pz]
    constructor
    · intro hp
      have := h2 (by omega)
      exact Int.mul_pos_of_neg_of_neg (by omega) this
    · intro hp
      have := h1 (by omega)
      exact Int.mul_neg_of_neg_of_pos (by omega) this
theorem sgn_by {b x : Int} (hb : b = 1 ∨ b = -1) : sgn (b * x) = b * sgn x := by
  rcases hb with rfl | rfl
  · rw [Int.one_mul, Int.one_mul]
  · unfold sgn
    have e : -1 * x = -x := by omega
    rw [e]
    split <;> split <;> split <;> split <;> omega
/-- what sign_from has to tell -/
structure Gr (ns zs : List Int) (by_ last least : Int) : Prop where
  hb : by_ = 1 ∨ by_ = -1
  pv : ∀ r, pvl ns r = by_ * pz zs r
  ml : last ∈ zs
  mx : ∀ z ∈ zs, z ≤ last
  ms : least ∈ zs
  mn : ∀ z ∈ zs, least ≤ z
section
variable {ns zs : List Int} {by_ last least : Int}
theorem Gr.far (g : Gr ns zs by_ last least) {r : Int} (h : last < r) : sgn (pvl ns r) = by_ := by
  rw [g.pv, sgn_by g.hb, sgn_pos (pz_pos fun z hz => by have := g.mx z hz; omega), Int.mul_one]
theorem Gr.zero (g : Gr ns zs by_ last least) {r : Int} (h : r ∈ zs) : sgn (pvl ns r) = 0 := by
  rw [g.pv, pz_zero h, Int.mul_zero]; rfl
theorem Gr.by0 (g : Gr ns zs by_ last least) : by_ ≠ 0 := by rcases g.hb with h | h <;> omega
theorem Gr.above (g : Gr ns zs by_ last least) {a : Int} (h : last < a) : SgF (pvl ns) a (.int by_) := .inl ⟨by_, rfl, fun r hr => g.far (by omega)⟩
theorem Gr.at_ (g : Gr ns zs by_ last least) {a : Int} (h : a ≤ last) : SgF (pvl ns) a .non := by
  refine .inr ⟨rfl, ?_⟩
  by_cases h0 : sgn (pvl ns a) = 0
  · exact ⟨last + 1, by omega, by rw [g.far (by omega), h0]; exact g.by0⟩
  · exact ⟨last, h, by rw [g.zero g.ml]; exact fun z => h0 z.symm⟩
end
def sp_l_great_right (K : PySem.W.Frag) : Sp := fun vs H Q _ => ∃ (p : Addr) (n : Nat), vs = [.ref p] ∧ Strm H p n ∧ n + 20 < 1000000 ∧ ∀ H', ExtB p H H' → Strm H' p (n + 8) → Q (.bl true) H'
def rd_l_great_right_L1 (K : PySem.W.Frag) : TS := tSeq (tAsg (tOp rCat (tLst (tCons (tC (.int 0)) (tNil))) (tVar 5)) (gName 8)) (tAsg (tLc (iEnum K (tCons (tOp rCat (tVar 5) (tLst (tCons (tC (.int 0)) (tNil)))) (tNil))) (gTup K 2 (gCons (gName 9) (gCons (gName 10) (gNil)))) (tYes) (tOp FW.rSub (tOp (rIxL K) (tVar 8) (tVar 9)) (tOp FW.rMul (tVar 7) (tVar 10))) [9, 10]) (gName 5))
def rd_l_great_right (K : PySem.W.Frag) : TS := tSeq (tAsg (tOp FW.rAdd (tC (.int 1)) (tCall (sp_l_draw K) [] E0 (tCons (tVar 0) (tCons (tC (.int 5)) (tNil))))) (gName 1)) (tSeq (tAsg (tOp (rIxL K) (tLst (tCons (tOp FW.rPow (tC (.int 10)) (tC (.int 27))) (tCons (tOp FW.rPow (tC (.int 10)) (tC (.int 13))) (tCons (tOp FW.rPow (tC (.int 10)) (tC (.int 8))) (tCons (tOp FW.rPow (tC (.int 10)) (tC (.int 6))) (tCons (tOp FW.rPow (tC (.int 10)) (tC (.int 5))) (tNil))))))) (tOp FW.rSub (tVar 1) (tC (.int 1)))) (gName 2)) (tSeq (tAsg (tLc (iRng1 (tCons (tVar 1) (tNil))) (gName 4) (tYes) (tCall (sp_l_draw K) [] E0 (tCons (tVar 0) (tCons (tVar 2) (tNil)))) [4]) (gName 3)) (tSeq (tAsg (tTup (tCons (tLst (tCons (tC (.int 1)) (tNil))) (tCons (tCall (sp_l_pick K) [] E0 (tCons (tVar 0) (tCons (tLst (tCons (tC (.int 1)) (tCons (tUn FW.rNeg (tC (.int 1))) (tNil)))) (tNil)))) (tNil)))) (gTup K 2 (gCons (gName 5) (gCons (gName 6) (gNil))))) (tSeq (tFor (iList K (tVar 3)) (gName 7) (rd_l_great_right_L1 K)) (tSeq (tAsg (tCB (FW.rTupS K) (tCons (tLc (iList K (tVar 5)) (gName 10) (tYes) (tOp FW.rMul (tVar 6) (tVar 10)) [10]) (tNil))) (gName 11)) (tSeq (tAsg (tCB (rMax K) (tCons (tVar 3) (tNil))) (gName 12)) (tSeq (tIfS (tOr (tTest (tOp rNe (tCall (sp_sign_from K) [] E0 (tCons (tVar 11) (tCons (tOp FW.rAdd (tVar 12) (tC (.int 1))) (tNil)))) (tVar 6))) (tTest (tOp rNe (tCall (sp_sign_from K) [] E0 (tCons (tVar 11) (tCons (tOp FW.rAdd (tVar 12) (tOp FW.rPow (tC (.int 10)) (tC (.int 28)))) (tNil)))) (tVar 6)))) (tRet (tC (.bl false))) (tNext)) (tSeq (tAsg (tCB (rMin K) (tCons (tVar 3) (tNil))) (gName 13)) (tSeq (tAsg (tIf (tTest (tOp rEq (tOp FW.rMod (tCB (Evl.rLenS K) (tCons (tVar 3) (tNil))) (tC (.int 2))) (tC (.int 0)))) (tVar 6) (tUn FW.rNeg (tVar 6))) (gName 14)) (tSeq (tAsg (tCall (sp_sign_from K) [] E0 (tCons (tCB (Evl.rListS K) (tCons (tVar 11) (tNil))) (tCons (tOp FW.rSub (tVar 13) (tC (.int 5))) (tNil)))) (gName 15)) (tSeq (tIfS (tOr (tTest (tOp FW.rNotN (tCall (sp_sign_from K) [] E0 (tCons (tVar 11) (tCons (tVar 12) (tNil)))) (tC .non))) (tTest (tOp FW.rNotN (tVar 15) (tC .non)))) (tRet (tC (.bl false))) (tNext)) (tSeq (tIfS (tTest (tOp rNe (tCall (sp_sign_from K) [] E0 (tCons (tVar 11) (tCons (tOp FW.rAdd (tVar 13) (tC (.int 1))) (tNil)))) (tIf (tTest (tOp rEq (tVar 12) (tVar 13))) (tVar 6) (tC .non)))) (tRet (tC (.bl false))) (tNext)) (tRet (tOp FW.rGt (tOp FW.rMul (tCall (sp_l_at K) [] E0 (tCons (tVar 11) (tCons (tOp FW.rSub (tVar 13) (tC (.int 5))) (tNil)))) (tVar 14)) (tC (.int 0))))))))))))))))
theorem great_tail {K : PySem.W.Frag} {H : Hp} {D : Ends} {zA t : Addr} {ns zs : List Int} {by_ last least : Int} {u0 u1 u2 u4 u5 u7 u8 u9 u10 u12 u13 u14 u15 : Option V} (g : Gr ns zs by_ last least) (hz : SqL K H zA (zs.map V.int)) (hzl : zs.length ≤ 10) (ht : SqT K H t (ns.map V.int)) (hl : ns.length ≤ 8) (hs : ∀ c ∈ ns, Sz 200 c) (hz0 : ∀ z ∈ zs, 0 ≤ z) (hz1 : ∀ z ∈ zs, z < 10 ^ 30)
    (k : ∀ H', Ext H H' → D.rt (.bl true) H') :
    (tSeq (tAsg (tCB (rMax K) (tCons (tVar 3) (tNil))) (gName 12)) (tSeq (tIfS (tOr (tTest (tOp rNe (tCall (sp_sign_from K) [] E0 (tCons (tVar 11) (tCons (tOp FW.rAdd (tVar 12) (tC (.int 1))) (tNil)))) (tVar 6))) (tTest (tOp rNe (tCall (sp_sign_from K) [] E0 (tCons (tVar 11) (tCons (tOp FW.rAdd (tVar 12) (tOp FW.rPow (tC (.int 10)) (tC (.int 28)))) (tNil)))) (tVar 6)))) (tRet (tC (.bl false))) (tNext)) (tSeq (tAsg (tCB (rMin K) (tCons (tVar 3) (tNil))) (gName 13)) (tSeq (tAsg (tIf (tTest (tOp rEq (tOp FW.rMod (tCB (Evl.rLenS K) (tCons (tVar 3) (tNil))) (tC (.int 2))) (tC (.int 0)))) (tVar 6) (tUn FW.rNeg (tVar 6))) (gName 14)) (tSeq (tAsg (tCall (sp_sign_from K) [] E0 (tCons (tCB (Evl.rListS K) (tCons (tVar 11) (tNil))) (tCons (tOp FW.rSub (tVar 13) (tC (.int 5))) (tNil)))) (gName 15)) (tSeq (tIfS (tOr (tTest (tOp FW.rNotN (tCall (sp_sign_from K) [] E0 (tCons (tVar 11) (tCons (tVar 12) (tNil)))) (tC .non))) (tTest (tOp FW.rNotN (tVar 15) (tC .non)))) (tRet (tC (.bl false))) (tNext)) (tSeq (tIfS (tTest (tOp rNe (tCall (sp_sign_from K) [] E0 (tCons (tVar 11) (tCons (tOp FW.rAdd (tVar 13) (tC (.int 1))) (tNil)))) (tIf (tTest (tOp rEq (tVar 12) (tVar 13))) (tVar 6) (tC .non)))) (tRet (tC (.bl false))) (tNext)) (tRet (tOp FW.rGt (tOp FW.rMul (tCall (sp_l_at K) [] E0 (tCons (tVar 11) (tCons (tOp FW.rSub (tVar 13) (tC (.int 5))) (tNil)))) (tVar 14)) (tC (.int 0))))))))))) D [u0, u1, u2, some (.ref zA), u4, u5, some (.int by_), u7, u8, u9, u10, some (.ref t), u12, u13, u14, u15] H := by
  have hne : zs ≠ [] := fun z => by have := g.ml; rw [z] at this; cases this
  have l0 := hz0 last g.ml; have l1 := hz1 last g.ml
  have m0 := hz0 least g.ms; have m1 := hz1 least g.ms
  have hlm := g.mn last g.ml
  have big : ∀ {x : Int}, -10 ≤ x → x < 10 ^ 32 → Sz 200 x := fun {x} h1 h2 => by
    show x.natAbs < 2 ^ 200
    have : (2 : Nat) ^ 200 > 10 ^ 32 := by decide
    omega
  have sz3 : ∀ c ∈ ns, Sz 300 c := fun c hc => (hs c hc).mono (by decide)
  walk_at "rd"
  refine e_maxL hz hne fun m hm hmx => ?_
  obtain rfl : m = last := Int.le_antisymm (g.mx m hm) (hmx last g.ml)
  walk_at "rd"
  refine ⟨t, ns, m + 1, rfl, .inr ht, hl, sz3, (big (by omega) (by omega)).mono (by decide), fun v H1 e1 hv => ?_⟩
  obtain rfl := hv.unique (g.above (by omega))
  walk_at "rd"
  rw [decide_eq_true rfl]
  walk_at "rd"
  · have hp28 : (10 : Int) ^ (28 : Int).toNat = 10000000000000000000000000000 := by decide
    rw [hp28]
    refine ⟨t, ns, m + 10000000000000000000000000000, rfl, .inr (e1.sqT ht), hl, sz3, (big (by omega) (by omega)).mono (by decide), fun v H2 e2 hv => ?_⟩
    obtain rfl := hv.unique (g.above (by omega))
    walk_at "rd"
    rw [decide_eq_true rfl]
    walk_at "rd"
    have e12 := e1.tr e2
    refine e_minL (e12.sqL hz) hne fun w hw hwn => ?_
    obtain rfl : w = least := Int.le_antisymm (hwn least g.ms) (g.mn w hw)
    walk_at "rd"
    refine e_len ?_ (.inl (e12.sqL hz))
    rw [List.length_map]
    walk_at "rd"
    · rw [dec_int]
      obtain ⟨due, hdue⟩ : ∃ due : Int, due = if zs.length % 2 = 0 then by_ else -by_ := ⟨_, rfl⟩
      have hpos : 0 < pvl ns (w - 5) * due := by
        have hn := pz_neg (r := w - 5) (zs := zs) fun z hz' => by have := g.mn z hz'; omega
        rw [g.pv, hdue]
        by_cases hev : zs.length % 2 = 0
        · rw [if_pos hev]
          have := hn.1 hev
          rcases g.hb with h | h <;> rw [h] <;> omega
        · rw [if_neg hev]
          have := hn.2 (by omega)
          rcases g.hb with h | h <;> rw [h] <;> omega
      have rest : ∀ H3, Ext H H3 → (tSeq (tAsg (tCall (sp_sign_from K) [] E0 (tCons (tCB (Evl.rListS K) (tCons (tVar 11) (tNil))) (tCons (tOp FW.rSub (tVar 13) (tC (.int 5))) (tNil)))) (gName 15)) (tSeq (tIfS (tOr (tTest (tOp FW.rNotN (tCall (sp_sign_from K) [] E0 (tCons (tVar 11) (tCons (tVar 12) (tNil)))) (tC .non))) (tTest (tOp FW.rNotN (tVar 15) (tC .non)))) (tRet (tC (.bl false))) (tNext)) (tSeq (tIfS (tTest (tOp rNe (tCall (sp_sign_from K) [] E0 (tCons (tVar 11) (tCons (tOp FW.rAdd (tVar 13) (tC (.int 1))) (tNil)))) (tIf (tTest (tOp rEq (tVar 12) (tVar 13))) (tVar 6) (tC .non)))) (tRet (tC (.bl false))) (tNext)) (tRet (tOp FW.rGt (tOp FW.rMul (tCall (sp_l_at K) [] E0 (tCons (tVar 11) (tCons (tOp FW.rSub (tVar 13) (tC (.int 5))) (tNil)))) (tVar 14)) (tC (.int 0))))))) D [u0, u1, u2, some (.ref zA), u4, u5, some (.int by_), u7, u8, u9, u10, some (.ref t), some (.int m), some (.int w), some (.int due), u15] H3 := by
        intro H3 e3
        walk_at "rd"
        refine e_listS (xs := ns.map V.int) (fun p4 h4 => ?_) (.inr (e3.sqT ht))
        have e4 := Ext.new (o := .lst (ns.map V.int)) h4
        walk_at "rd"
        refine ⟨p4, ns, w - 5, rfl, .inl (SqL.of upd_same), hl, sz3, (big (by omega) (by omega)).mono (by decide), fun v H5 e5 hv => ?_⟩
        obtain rfl := hv.unique (g.at_ (by omega))
        have e05 := e3.tr (e4.tr e5)
        walk_at "rd"
        refine ⟨t, ns, m, rfl, .inr (e05.sqT ht), hl, sz3, (big (by omega) (by omega)).mono (by decide), fun v H6 e6 hv => ?_⟩
        obtain rfl := hv.unique (g.at_ (Int.le_refl _))
        walk_at "rd"
        rw [decide_eq_true rfl]
        walk_at "rd"
        rw [decide_eq_true rfl]
        walk_at "rd"
        have e06 := e05.tr e6
        refine ⟨t, ns, w + 1, rfl, .inr (e06.sqT ht), hl, sz3, (big (by omega) (by omega)).mono (by decide), fun v H7 e7 hv => ?_⟩
        have e07 := e06.tr e7
        have fin : (tRet (tOp FW.rGt (tOp FW.rMul (tCall (sp_l_at K) [] E0 (tCons (tVar 11) (tCons (tOp FW.rSub (tVar 13) (tC (.int 5))) (tNil)))) (tVar 14)) (tC (.int 0)))) D [u0, u1, u2, some (.ref zA), u4, u5, some (.int by_), u7, u8, u9, u10, some (.ref t), some (.int m), some (.int w), some (.int due), some .non] H7 := by
          walk_at "rd"
          refine ⟨t, ns, w - 5, 200, rfl, e07.sqT ht, by omega, hs, big (by omega) (by omega), by decide, ?_, fun H8 e8 => ?_⟩
          · have : ns.length + 3 ≤ 11 := by omega
            exact Nat.le_trans (Nat.mul_le_mul_right _ this) (by decide)
          walk_at "rd"
          · rw [decide_eq_true hpos]
            exact k _ (e07.tr e8)
          · have h1 := pv_sz ns (w - 5) 200 hs (big (by omega) (by omega))
            refine wide_mul (a := 2000) (b := 2) (Sz.mono h1 ?_) ?_ (by decide) (by decide) (by decide)
            · have : ns.length ≤ 8 := hl
              exact Nat.le_trans (Nat.mul_le_mul_right _ this) (by decide)
            · rw [hdue]; rcases g.hb with h | h <;> rw [h] <;> split <;> decide
        walk_at "rd"
        rw [dec_int]
        refine e_ite (fun he => ?_) (fun he => ?_)
        · walk_at "rd"
          obtain rfl := hv.unique (g.above (by omega))
          walk_at "rd"
          rw [decide_eq_true rfl]
          walk_at "re"
          with_reducible refine s_next ?_
          exact fin
        · walk_at "rd"
          obtain rfl := hv.unique (g.at_ (by omega))
          walk_at "rd"
          rw [decide_eq_true rfl]
          walk_at "re"
          with_reducible refine s_next ?_
          exact fin
      have hev : ((zs.length : Int) % 2 = 0) ↔ zs.length % 2 = 0 := by omega
      refine e_ite (fun h0 => ?_) (fun h0 => ?_)
      · walk_at "re"
        rw [if_pos (hev.mp h0)] at hdue
        subst hdue
        exact rest _ e12
      · walk_at "re"
        rw [if_neg (fun z => h0 (hev.mpr z))] at hdue
        subst hdue
        exact rest _ e12
    · decide
  · exact ⟨by decide, by decide, by decide⟩

theorem scales {d : Int} (d0 : 0 ≤ d) (d1 : d < 5) : ∃ (s : Int) (sb : Nat), atI [V.int (10 ^ (27 : Int).toNat), V.int (10 ^ (13 : Int).toNat), V.int (10 ^ (8 : Int).toNat), V.int (10 ^ (6 : Int).toNat), V.int (10 ^ (5 : Int).toNat)] (1 + d - 1) = some (.int s) ∧ 0 < s ∧ s ≤ 2 ^ sb ∧ 0 < sb ∧ sb ≤ 90 ∧ (1 + d.toNat) * (sb + 1) ≤ 91 := by
  have : d = 0 ∨ d = 1 ∨ d = 2 ∨ d = 3 ∨ d = 4 := by omega
  rcases this with rfl | rfl | rfl | rfl | rfl
  · exact ⟨10 ^ 27, 90, rfl, by decide, by decide, by decide, by decide, by decide⟩
  · exact ⟨10 ^ 13, 44, rfl, by decide, by decide, by decide, by decide, by decide⟩
  · exact ⟨10 ^ 8, 27, rfl, by decide, by decide, by decide, by decide, by decide⟩
  · exact ⟨10 ^ 6, 20, rfl, by decide, by decide, by decide, by decide, by decide⟩
  · exact ⟨10 ^ 5, 17, rfl, by decide, by decide, by decide, by decide, by decide⟩
theorem great_L1 {K : PySem.W.Frag} {H : Hp} {D : Ends} {fA : Addr} {fs : List Int} {z : Int} {s b : Nat} {u0 u1 u2 u3 u4 u6 u8 u9 u10 u11 u12 u13 u14 u15 : Option V} (hF : H fA = some (.lst (fs.map V.int))) (hl : fs.length ≤ 8) (hz : Sz s z) (hs : ∀ c ∈ fs, Sz b c) (hb : b + s ≤ 1000) (hs0 : 0 < s) (hb0 : 0 < b)
    (k : ∀ (f' : Addr) (H' : Hp) (w8 w9 w10 : Option V), Ext H H' → H' f' = some (.lst ((mulZ z fs).map V.int)) → D.nx [u0, u1, u2, u3, u4, some (.ref f'), u6, some (.int z), w8, w9, w10, u11, u12, u13, u14, u15] H') :
    rd_l_great_right_L1 K D [u0, u1, u2, u3, u4, some (.ref fA), u6, some (.int z), u8, u9, u10, u11, u12, u13, u14, u15] H := by
  unfold rd_l_great_right_L1
  walk_at "rd"
  refine ⟨by show 1 ≤ sizeLine; decide, fun p2 h2 => ?_⟩
  have e2 := Ext.new (o := .lst [V.int 0]) h2
  walk_at "rd"
  refine e_cat (fun rA h3 => ?_) upd_same (e2 _ _ hF) (by rw [List.length_map]; show 1 + _ ≤ 2 ^ 24; omega)
  have e3 := Ext.new (o := .lst ([V.int 0] ++ fs.map V.int)) h3
  have g3 : (upd (upd H p2 (.lst [V.int 0])) rA (.lst ([V.int 0] ++ fs.map V.int))) rA = some (.lst ((0 :: fs).map V.int)) := upd_same
  have e13 := e2.tr e3
  generalize upd (upd H p2 (.lst [V.int 0])) rA (.lst ([V.int 0] ++ fs.map V.int)) = H3 at *
  walk_at "rd"
  refine i_enum ?_
  walk_at "rd"
  refine ⟨by show 1 ≤ sizeLine; decide, fun p4 h4 => ?_⟩
  have e4 := Ext.new (o := .lst [V.int 0]) h4
  refine e_cat (fun p5 h5 => ?_) (e4 _ _ (e13 _ _ hF)) upd_same (by rw [List.length_map]; show _ + 1 ≤ 2 ^ 24; omega)
  have e5 := Ext.new (o := .lst (fs.map V.int ++ [V.int 0])) h5
  have g5 : (upd (upd H3 p4 (.lst [V.int 0])) p5 (.lst (fs.map V.int ++ [V.int 0]))) p5 = some (.lst ((fs ++ [0]).map V.int)) := by rw [upd_same, List.map_append]; rfl
  have e35 := e4.tr e5
  generalize upd (upd H3 p4 (.lst [V.int 0])) p5 (.lst (fs.map V.int ++ [V.int 0])) = H5 at *
  walk_at "rd"
  refine ⟨p5, _, rfl, SqL.of g5, ?_⟩
  refine raise_step (s := s) (b := b) (z := z) g5 (e35 _ _ g3) (by omega) hz hs (by omega) hs0 hb0 (fun _ _ => rfl) (fun _ _ => rfl) (fun _ _ => rfl) (fun _ _ => rfl) (fun _ _ => rfl) (fun D6 H6 hD6 e6 g6 => ?_)
  exact k D6 H6 _ _ _ (e13.tr (e35.tr e6)) g6
theorem pure_l_great_right (K : PySem.W.Frag) (vs : List V) (H : Hp) (Q : VK) (E : XK) (h : sp_l_great_right K vs H Q E) : rd_l_great_right K { nx := fun _ H' => Q .non H', rt := Q } (start ["_law_stream_here", "_law_many", "_law_scale", "_law_zeros", "_law_k", "_law_found", "_law_by", "_law_z", "_law_raised", "_law_j", "_law_x", "_law_poly_here", "_law_last", "_law_least", "_law_due", "_law_beneath"] vs) H := by
  obtain ⟨p, n, rfl, hS, hn, q⟩ := h
  unfold rd_l_great_right
  walk_at "rd"
  refine ⟨p, 5, n, rfl, hS, by omega, by decide, by decide, fun d H1 d0 d1 e1 s1 => ?_⟩
  obtain ⟨sc, sb, hat, sc0, scB, sb0, sb90, hms⟩ := scales d0 d1
  walk_at "rd"
  all_goals first | exact ⟨by decide, by decide, by decide⟩ | skip
  refine ⟨by show 5 ≤ sizeLine; decide, fun p2 h2 => ?_⟩
  have e2 := Ext.new (o := .lst [V.int (10 ^ (27 : Int).toNat), V.int (10 ^ (13 : Int).toNat), V.int (10 ^ (8 : Int).toNat), V.int (10 ^ (6 : Int).toNat), V.int (10 ^ (5 : Int).toNat)]) h2
  walk_at "rd"
  refine e_ixL ?_ (SqL.of upd_same) hat
  have s2 := s1.ext e2
  have e02 : ExtB p H _ := e1.tr (ExtB.of e2)
  generalize upd H1 p2 (.lst [V.int (10 ^ (27 : Int).toNat), V.int (10 ^ (13 : Int).toNat), V.int (10 ^ (8 : Int).toNat), V.int (10 ^ (6 : Int).toNat), V.int (10 ^ (5 : Int).toNat)]) = H2 at *
  walk_at "rd"
  · intro zA hzA
    have hzp : zA ≠ p := s2.ne hzA
    have hzn : H zA = none := FWL.ExtB.non e02 s2 hzA
    refine lc_range (lo := 0) (n := (1 + d).toNat) (fun i H' => i ≤ (1 + d).toNat ∧ ExtB p H H' ∧ Strm H' p (n + 1 + i) ∧ ∃ zs : List Int, H' zA = some (.lst (zs.map V.int)) ∧ zs.length = i ∧ ∀ z ∈ zs, 0 ≤ z ∧ z < sc) ⟨Nat.zero_le _, e02.tr (ExtB.of (Ext.new hzA)), s2.ext (Ext.new hzA), [], upd_same, rfl, by simp⟩ ?_ ?_
    · rintro i H' hi ⟨hle, eB, sS, zs, hDD, hl, hc⟩
      walk_at "rd"
      refine ⟨rfl, ?_⟩
      walk_at "rd"
      refine ⟨p, sc, n + 1 + i, rfl, sS, by omega, sc0, ?_, fun z H3 z0 z1 e3 s3 => ?_⟩
      · refine PySem.Flt.log2_lt_of (by decide) ?_
        refine Nat.lt_of_lt_of_le (show sc.natAbs < 2 ^ (sb + 1) from ?_) (Nat.pow_le_pow_right (by decide) (by omega))
        rw [Nat.pow_succ]
        have : (2 : Int) ^ sb = ((2 ^ sb : Nat) : Int) := by simp
        rw [this] at scB
        have : 0 < 2 ^ sb := Nat.pow_pos (by decide)
        omega
      have hD3 := e3 _ _ hzp hDD
      refine ⟨_, hD3, ?_, by omega, FWL.ExtB.updF (eB.tr e3) hzn, s3.updF hzp, zs ++ [z], by rw [upd_same, List.map_append]; rfl, by simp [hl], ?_⟩
      · rw [List.length_map]; show _ < 2 ^ 24; omega
      · intro c hc'
        rcases List.mem_append.mp hc' with h | h
        · exact hc c h
        · rw [List.mem_singleton.mp h]; exact ⟨z0, z1⟩
    · rintro H3 ⟨hle, eB, sS, zs, hzz, hl, hc⟩
      have hlen : zs.length = 1 + d.toNat := by omega
      have szz : ∀ z ∈ zs, Sz sb z := fun z hz => by
        have := hc z hz
        show z.natAbs < 2 ^ sb
        have e : (2 : Int) ^ sb = ((2 ^ sb : Nat) : Int) := by simp
        rw [e] at scB
        omega
      walk_at "rd"
      refine ⟨by show 1 ≤ sizeLine; decide, fun f0 h4 => ?_⟩
      have e4 := Ext.new (o := .lst [V.int 1]) h4
      have g4 : (upd H3 f0 (.lst [V.int 1])) f0 = some (.lst (([1] : List Int).map V.int)) := upd_same
      have s4 := sS.ext e4
      have hf0p : f0 ≠ p := sS.ne h4
      generalize upd H3 f0 (.lst [V.int 1]) = H4 at *
      walk_at "rd"
      refine ⟨by show 2 ≤ sizeLine; decide, fun p5 h5 => ?_⟩
      walk_at "rd"
      refine ⟨p, p5, [.int 1, .int (-1)], n + 1 + (1 + d).toNat, rfl, s4.ext (Ext.new h5), by omega, s4.ne h5, upd_same, by simp, by show 2 < 1000; decide, fun v H6 hv e6 s6 => ?_⟩
      obtain ⟨by_, rfl, hby⟩ : ∃ b : Int, v = .int b ∧ (b = 1 ∨ b = -1) := by
        simp only [List.mem_cons, List.not_mem_nil, or_false] at hv
        rcases hv with rfl | rfl
        · exact ⟨_, rfl, .inl rfl⟩
        · exact ⟨_, rfl, .inr rfl⟩
      walk_at "rd"
      refine ⟨by show 2 ≤ sizeLine; decide, fun pT hT => ?_⟩
      have eT := Ext.new (o := .tup [V.ref f0, V.int by_]) hT
      refine g_tup ?_ (SqT.of upd_same) rfl
      have s6 := s6.ext eT
      have e46 : ExtB p H4 (upd H6 pT (.tup [V.ref f0, V.int by_])) := ((ExtB.of (Ext.new h5)).tr e6).tr (ExtB.of eT)
      generalize upd H6 pT (.tup [V.ref f0, V.int by_]) = H6 at *
      have g46 := e46 _ _ hf0p g4
      have hz6 := e46 _ _ hzp (e4 _ _ hzz)
      have e06 : ExtB p H H6 := eB.tr ((ExtB.of e4).tr e46)
      walk_at "rd"
      refine i_list' _ ?_ (SqL.of hz6)
      refine for_list (K := K) (a := zA) (xs := zs.map V.int) (fun i σ H' => Ext H6 H' ∧ i ≤ zs.length ∧ ∃ (f : Addr) (fs : List Int) (w7 w8 w9 w10 : Option V), H' f = some (.lst (fs.map V.int)) ∧ fs.length = i + 1 ∧ (∀ r, pvl fs r = pz (zs.take i) r) ∧ (∀ c ∈ fs, Sz (1 + i * (sb + 1)) c) ∧ σ = [some (.ref p), some (.int (1 + d)), some (.int sc), some (.ref zA), none, some (.ref f), some (.int by_), w7, w8, w9, w10, none, none, none, none, none])
        ⟨Ext.rfl', Nat.zero_le _, f0, [1], _, _, _, _, g46, rfl, fun r => by simp [pvl, pz], by intro c hc'; simp only [List.mem_cons, List.not_mem_nil, or_false] at hc'; rw [hc']; exact Sz.mono (show Sz 1 1 by decide) (by omega), rfl⟩ (fun i σ H' _ h => SqL.of (h.1 _ _ hz6)) ?_ ?_
      · rintro i x σ H7 hx ⟨e7, hi, f, fs, w7, w8, w9, w10, g7, hfl, hpv, hsz, rfl⟩
        obtain ⟨z, rfl, hzx⟩ := ints_at hx
        have hilt := (List.getElem?_eq_some_iff.mp hzx).1
        walk_at "re"
        have hib : (i + 1) * (sb + 1) ≤ 91 := Nat.le_trans (Nat.mul_le_mul_right _ (show i + 1 ≤ 1 + d.toNat by omega)) hms
        rw [Nat.add_mul] at hib
        refine great_L1 (s := sb) (b := 1 + i * (sb + 1)) g7 (by omega) (szz z (List.mem_of_getElem? hzx)) hsz (by omega) sb0 (by omega) fun f' H8 w8 w9 w10 e8 g8 => ?_
        refine ⟨e7.tr e8, by omega, f', mulZ z fs, _, _, _, _, g8, by rw [mulZ_len, hfl], fun r => ?_, fun c hc' => ?_, rfl⟩
        · rw [mulZ_pv, hpv, List.take_add_one, hzx]
          show _ = pz (zs.take i ++ [z]) r
          rw [pz_snoc]
        · refine (mulZ_sz (szz z (List.mem_of_getElem? hzx)) hsz c hc').mono ?_
          rw [Nat.add_mul]; omega
      · rintro σ H7 ⟨e7, hi, f, fs, w7, w8, w9, w10, g7, hfl, hpv, hsz, rfl⟩
        rw [List.length_map] at hfl hpv hsz
        rw [List.take_of_length_le (Nat.le_refl _)] at hpv
        have hbb : zs.length * (sb + 1) ≤ 91 := by rw [hlen]; exact hms
        walk_at "rd"
        refine i_list' _ ?_ (SqL.of g7)
        refine lcL_gen (p := fun _ => true) (f := fun x => by_ * x) (SqL.of g7) (by omega) (fun _ => rfl) (fun c _ H' R _ h => yes_all h) (fun c hc' _ H' R _ h => ?_) (fun p8 h8 => ?_)
        · walk_at "rd"
          · exact h
          · exact wide_mul (a := 1) (b := 100) (by rcases hby with z | z <;> rw [z] <;> decide) ((hsz c hc').mono (by omega)) (by decide) (by decide) (by decide)
        rw [filter_all]
        have e8 := Ext.new (o := .lst ((fs.map fun x => by_ * x).map V.int)) h8
        walk_at "rd"
        refine e_tupL (fun t9 h9 => ?_) (SqL.of upd_same)
        have e9 := Ext.new (o := .tup ((fs.map fun x => by_ * x).map V.int)) h9
        have e79 := e8.tr e9
        have g9 : (upd (upd H7 p8 (.lst ((fs.map fun x => by_ * x).map V.int))) t9 (.tup ((fs.map fun x => by_ * x).map V.int))) t9 = some (.tup ((fs.map fun x => by_ * x).map V.int)) := upd_same
        generalize upd (upd H7 p8 (.lst ((fs.map fun x => by_ * x).map V.int))) t9 (.tup ((fs.map fun x => by_ * x).map V.int)) = H9 at *
        have pvm : ∀ (xs : List Int) (r : Int), pvl (xs.map fun x => by_ * x) r = by_ * pvl xs r := fun xs r => by
          induction xs with
          | nil => simp [pvl]
          | cons x xs ih => rw [List.map_cons, pvl, pvl, ih]; grind
        have hzne : zs ≠ [] := fun z => by rw [z] at hlen; simp at hlen; omega
        obtain ⟨last, hl1, hl2⟩ : ∃ m ∈ zs, ∀ z ∈ zs, z ≤ m := by
          obtain ⟨m, hm⟩ : ∃ m, zs.max? = some m := by
            cases e : zs.max? with
            | none => rw [List.max?_eq_none_iff] at e; exact absurd e hzne
            | some m => exact ⟨m, rfl⟩
          have := List.max?_eq_some_iff.mp hm
          exact ⟨m, this.1, this.2⟩
        obtain ⟨least, hm1, hm2⟩ : ∃ m ∈ zs, ∀ z ∈ zs, m ≤ z := by
          obtain ⟨m, hm⟩ : ∃ m, zs.min? = some m := by
            cases e : zs.min? with
            | none => rw [List.min?_eq_none_iff] at e; exact absurd e hzne
            | some m => exact ⟨m, rfl⟩
          have := List.min?_eq_some_iff.mp hm
          exact ⟨m, this.1, this.2⟩
        have hbig : sc ≤ 10 ^ 30 := by
          have e : (2 : Int) ^ sb = ((2 ^ sb : Nat) : Int) := by simp
          have h1 : 2 ^ sb ≤ 2 ^ 90 := Nat.pow_le_pow_right (by decide) sb90
          have h2 : (2 : Nat) ^ 90 ≤ 10 ^ 30 := by decide
          rw [e] at scB
          omega
        refine great_tail (last := last) (least := least) (ns := fs.map fun x => by_ * x) (zs := zs) ⟨hby, fun r => by rw [pvm, hpv], hl1, hl2, hm1, hm2⟩ (SqL.of ((e7.tr e79) _ _ hz6)) (by omega) (SqT.of g9) (by rw [List.length_map]; omega) (fun c hc' => ?_) (fun z hz => (hc z hz).1) (fun z hz => by have := (hc z hz).2; omega) fun H10 e10 => ?_
        · obtain ⟨x, hx, rfl⟩ := List.mem_map.mp hc'
          exact (Sz.mul (a := 1) (show by_.natAbs < 2 ^ 1 by rcases hby with z | z <;> rw [z] <;> decide) (hsz x hx)).mono (by omega)
        · exact q H10 (e06.tr (ExtB.of (e7.tr (e79.tr e10)))) ((s6.ext (e7.tr (e79.tr e10))).mono (by omega))
  · exact ⟨by omega, by omega⟩

def rd_law_L1 (K : PySem.W.Frag) : TS := tSeq (tIfS (tTest (tOp rNe (tCall (sp_sign_from K) [] E0 (tCons (tVar 3) (tCons (tVar 6) (tNil)))) (tCall (sp_l_sign K) [] E0 (tCons (tVar 3) (tCons (tVar 6) (tNil)))))) (tRet (tC (.bl false))) (tNext)) (tIfS (tTest (tOp rNe (tCall (sp_sign_from K) [] E0 (tCons (tOp rCat (tCB (Evl.rListS K) (tCons (tSl (rSlA K) (tVar 3) (tNoPart) (tPart (tC (.int 5)))) (tNil))) (tLst (tCons (tC (.int 0)) (tNil)))) (tCons (tVar 6) (tNil)))) (tCall (sp_l_sign K) [] E0 (tCons (tSl (rSlA K) (tVar 3) (tNoPart) (tPart (tC (.int 5)))) (tCons (tVar 6) (tNil)))))) (tRet (tC (.bl false))) (tNext))
def rd_law_L2 (K : PySem.W.Frag) : TS := tSeq (tAsg (tCall (sp_l_stream K) [] E0 (tCons (tVar 0) (tCons (tVar 1) (tNil)))) (gName 2)) (tSeq (tAsg (tCall (sp_l_made K) [] E0 (tCons (tVar 2) (tNil))) (gTup K 2 (gCons (gName 3) (gCons (gName 4) (gNil))))) (tSeq (tIfS (tTest (tOp rEq (tCall (sp_l_draw K) [] E0 (tCons (tVar 2) (tCons (tC (.int 3)) (tNil)))) (tC (.int 0)))) (tPar 3 4 (tCons (tCall (sp_l_poly K) [] E0 (tCons (tVar 2) (tCons (tC (.int 5)) (tCons (tC (.int 9)) (tNil))))) (tCons (tLst (tCons (tC (.int 0)) (tCons (tC (.int 1)) (tNil)))) (tNil)))) (tNext)) (tSeq (tAsg (tCB (rMax K) (tCons (tVar 4) (tNil))) (gName 5)) (tSeq (tFor (iList K (tLst (tCons (tVar 5) (tCons (tOp FW.rAdd (tVar 5) (tC (.int 1))) (tCons (tOp FW.rSub (tVar 5) (tC (.int 1))) (tCons (tOp FW.rSub (tCall (sp_l_draw K) [] E0 (tCons (tVar 2) (tCons (tC (.int 30)) (tNil)))) (tC (.int 15))) (tCons (tC (.int 500)) (tCons (tUn FW.rNeg (tC (.int 30))) (tNil))))))))) (gName 6) (rd_law_L1 K)) (tIfS (tNot (tB (tCall (sp_l_great_right K) [] E0 (tCons (tVar 2) (tNil))))) (tRet (tC (.bl false))) (tNext))))))
def rd_law (K : PySem.W.Frag) : TS := tSeq (tFor (iRng1 (tCons (tC (.int 6)) (tNil))) (gName 1) (rd_law_L2 K)) (tRet (tAndV (tOp rEq (tCall (sp_sign_from K) [] E0 (tCons (tTup (tNil)) (tCons (tC (.int 0)) (tNil)))) (tC (.int 0))) (tAndV (tOp rEq (tCall (sp_sign_from K) [] E0 (tCons (tTup (tCons (tC (.int 0)) (tCons (tC (.int 0)) (tNil)))) (tCons (tUn FW.rNeg (tC (.int 5))) (tNil)))) (tC (.int 0))) (tOp rEq (tCall (sp_sign_from K) [] E0 (tCons (tTup (tCons (tUn FW.rNeg (tC (.int 7))) (tCons (tC (.int 1)) (tNil)))) (tCons (tC (.int 8)) (tNil)))) (tC (.int 1))))))
theorem take5 (ns : List Int) : cutV (ns.map V.int) none (some 5) = (ns.take 5).map V.int := cut_take ns 5
theorem law_L1 {K : PySem.W.Frag} {H : Hp} {D : Ends} {t : Addr} {ns : List Int} {first : Int} {u0 u1 u2 u4 u5 : Option V} (ht : SqT K H t (ns.map V.int)) (hl : ns.length ≤ 6) (hs : ∀ c ∈ ns, c.natAbs ≤ 100000) (hf0 : -1000 ≤ first) (hf1 : first ≤ 1000)
    (k : ∀ H', Ext H H' → D.nx [u0, u1, u2, some (.ref t), u4, u5, some (.int first)] H') :
    rd_law_L1 K D [u0, u1, u2, some (.ref t), u4, u5, some (.int first)] H := by
  have sz : ∀ c ∈ ns, Sz 300 c := fun c hc => Nat.lt_of_le_of_lt (hs c hc) (by decide)
  have szf : Sz 300 first := Nat.lt_of_lt_of_le (show first.natAbs < 2 ^ 10 by omega) (Nat.pow_le_pow_right (by decide) (by decide))
  unfold rd_law_L1
  walk_at "rd"
  refine ⟨t, ns, first, rfl, .inr ht, by omega, sz, szf, fun v H1 e1 hv => ?_⟩
  walk_at "rd"
  refine ⟨t, ns, first, rfl, e1.sqT ht, by omega, hs, by omega, by omega, fun w H2 e2 hw => ?_⟩
  obtain rfl := hv.unique hw
  refine e_neS hv.scal ?_
  walk_at "rd"
  have e12 := e1.tr e2
  -- the beginning of the polynomial
  have cut : ∀ (H' : Hp) (R : VK), Ext H H' → (∀ (p : Addr) (H'' : Hp), Ext H' H'' → SqT K H'' p ((ns.take 5).map V.int) → R (.ref p) H'') → (tSl (rSlA K) (tVar 3) (tNoPart) (tPart (tC (.int 5)))) [u0, u1, u2, some (.ref t), u4, u5, some (.int first)] H' R := fun H' R e r => by
    refine e_sl (e_var (e_noP (e_part (e_c (e_part' ?_)))) rfl)
    refine ⟨t, _, rfl, e.sqT ht, fun z => ?_, fun _ p hp => ?_⟩
    · refine r t H' Ext.rfl' ?_
      have z2 := z.2
      rw [show (5 : Int) = ((5 : Nat) : Int) from rfl, HT.sIx_nat, List.length_map] at z2
      rw [List.take_of_length_le (by omega)]; exact e.sqT ht
    · refine r p _ (Ext.new hp) ?_
      rw [take5]; exact SqT.of upd_same
  refine cut H2 _ e12 fun p3 H3 e3 g3 => ?_
  walk_at "rd"
  refine e_listS (xs := (ns.take 5).map V.int) (fun p4 h4 => ?_) (.inr g3)
  have e4 := Ext.new (o := .lst ((ns.take 5).map V.int)) h4
  have g4 : (upd H3 p4 (.lst ((ns.take 5).map V.int))) p4 = some (.lst ((ns.take 5).map V.int)) := upd_same
  generalize upd H3 p4 (.lst ((ns.take 5).map V.int)) = H4 at *
  walk_at "rd"
  refine ⟨by show 1 ≤ sizeLine; decide, fun p5 h5 => ?_⟩
  have e5 := Ext.new (o := .lst [V.int 0]) h5
  have hlt : (ns.take 5).length ≤ 5 := by rw [List.length_take]; omega
  refine e_cat (fun p6 h6 => ?_) (e5 _ _ g4) upd_same (by rw [List.length_map]; show _ + 1 ≤ 2 ^ 24; omega)
  have e6 := Ext.new (o := .lst ((ns.take 5).map V.int ++ [V.int 0])) h6
  have g6 : (upd (upd H4 p5 (.lst [V.int 0])) p6 (.lst ((ns.take 5).map V.int ++ [V.int 0]))) p6 = some (.lst ((ns.take 5 ++ [0]).map V.int)) := by rw [upd_same, List.map_append]; rfl
  have e46 := e5.tr e6
  generalize upd (upd H4 p5 (.lst [V.int 0])) p6 (.lst ((ns.take 5).map V.int ++ [V.int 0])) = H6 at *
  have hpv : pvl (ns.take 5 ++ [0]) = pvl (ns.take 5) := funext fun r => by rw [pv_append]; simp [pvl]
  walk_at "rd"
  refine ⟨p6, ns.take 5 ++ [0], first, rfl, .inl (SqL.of g6), by rw [List.length_append, List.length_cons, List.length_nil]; omega, fun c hc => ?_, szf, fun v7 H7 e7 hv7 => ?_⟩
  · rcases List.mem_append.mp hc with hc | hc
    · exact sz c (List.mem_of_mem_take hc)
    · rw [List.mem_singleton.mp hc]; exact sz0
  have e07 : Ext H H7 := e12.tr (e3.tr (e4.tr (e46.tr e7)))
  walk_at "rd"
  refine cut H7 _ e07 fun p8 H8 e8 g8 => ?_
  walk_at "rd"
  refine ⟨p8, ns.take 5, first, rfl, g8, by omega, fun c hc => hs c (List.mem_of_mem_take hc), by omega, by omega, fun w9 H9 e9 hw9 => ?_⟩
  rw [hpv] at hv7
  obtain rfl := hv7.unique hw9
  refine e_neS hv7.scal ?_
  walk_at "rd"
  exact k _ (e07.tr (e8.tr e9))
theorem law_L2 {K : PySem.W.Frag} {H : Hp} {D : Ends} {a : Addr} {ms : List Int} {i : Int} {vs : List (Option V)} (hl : vs.length = 5) (hi0 : 0 ≤ i) (hi : i < 6) (hA : SqL K H a (ms.map V.int))
    (k : ∀ H', Ext H H' → ∀ ws : List (Option V), ws.length = 5 → D.nx (some (.ref a) :: some (.int i) :: ws) H') :
    rd_law_L2 K D (some (.ref a) :: some (.int i) :: vs) H := by
  match vs, hl with
  | [v2, v3, v4, v5, v6], _ =>
  unfold rd_law_L2
  walk_at "rd"
  refine ⟨a, ms, i, rfl, hA, hi0, by omega, fun p H1 hp e1 s1 => ?_⟩
  walk_at "rd"
  refine ⟨p, 0, rfl, s1, by decide, fun T t Z ns zs H2 eB s2 hZne gT gt gZ hnl hns hzn hzs => ?_⟩
  refine g_tup ?_ (SqT.of gT) rfl
  walk_at "rd"
  -- behind the choice of a polynomial
  have main : ∀ (t Z : Addr) (ns zs : List Int) (H3 : Hp) (m : Nat), ExtB p H1 H3 → Strm H3 p m → m ≤ 100 → H3 t = some (.tup (ns.map V.int)) → H3 Z = some (.lst (zs.map V.int)) → ns.length ≤ 6 → (∀ c ∈ ns, c.natAbs ≤ 100000) → zs ≠ [] → (∀ z ∈ zs, -2 ≤ z ∧ z ≤ 4) →
      (tSeq (tAsg (tCB (rMax K) (tCons (tVar 4) (tNil))) (gName 5)) (tSeq (tFor (iList K (tLst (tCons (tVar 5) (tCons (tOp FW.rAdd (tVar 5) (tC (.int 1))) (tCons (tOp FW.rSub (tVar 5) (tC (.int 1))) (tCons (tOp FW.rSub (tCall (sp_l_draw K) [] E0 (tCons (tVar 2) (tCons (tC (.int 30)) (tNil)))) (tC (.int 15))) (tCons (tC (.int 500)) (tCons (tUn FW.rNeg (tC (.int 30))) (tNil))))))))) (gName 6) (rd_law_L1 K)) (tIfS (tNot (tB (tCall (sp_l_great_right K) [] E0 (tCons (tVar 2) (tNil))))) (tRet (tC (.bl false))) (tNext)))) D [some (.ref a), some (.int i), some (.ref p), some (.ref t), some (.ref Z), v5, v6] H3 := by
    intro t Z ns zs H3 m e3 s3 hm gt gZ hnl hns hzn hzs
    walk_at "rd"
    refine e_maxL (SqL.of gZ) hzn fun nr hnr hmx => ?_
    have hn := hzs nr hnr
    walk_at "rd"
    refine ⟨p, 30, m, rfl, s3, by omega, by decide, by decide, fun d H4 d0 d1 e4 s4 => ?_⟩
    have gt4 := e4 _ _ (fun z => by obtain ⟨_, _, _, h, _⟩ := s3; rw [z, h] at gt; cases gt) gt
    walk_at "rd"
    refine ⟨by show 6 ≤ sizeLine; decide, fun L hL => ?_⟩
    have e5 := Ext.new (o := .lst [V.int nr, .int (nr + 1), .int (nr - 1), .int (d - 15), .int 500, .int (-30)]) hL
    have g5 : (upd H4 L (.lst [V.int nr, .int (nr + 1), .int (nr - 1), .int (d - 15), .int 500, .int (-30)])) L = some (.lst (([nr, nr + 1, nr - 1, d - 15, 500, -30] : List Int).map V.int)) := upd_same
    show (fun H5 : Hp => _) (upd H4 L (.lst [V.int nr, .int (nr + 1), .int (nr - 1), .int (d - 15), .int 500, .int (-30)]))
    generalize upd H4 L (.lst [V.int nr, .int (nr + 1), .int (nr - 1), .int (d - 15), .int 500, .int (-30)]) = H5 at *
    refine i_list' _ ?_ (SqL.of g5)
    refine for_list (K := K) (a := L) (xs := ([nr, nr + 1, nr - 1, d - 15, 500, -30] : List Int).map V.int) (fun _ σ H' => Ext H5 H' ∧ ∃ w6, σ = [some (.ref a), some (.int i), some (.ref p), some (.ref t), some (.ref Z), some (.int nr), w6]) ⟨Ext.rfl', _, rfl⟩ (fun _ σ H' _ h => SqL.of (h.1 _ _ g5)) ?_ ?_
    · rintro j x σ H6 hx ⟨e6, w6, rfl⟩
      obtain ⟨c, rfl, hc⟩ := ints_at hx
      have hcm := List.mem_of_getElem? hc
      simp only [List.mem_cons, List.not_mem_nil, or_false] at hcm
      walk_at "re"
      exact law_L1 (SqT.of ((e5.tr e6) _ _ gt4)) hnl hns (by omega) (by omega) fun H7 e7 => ⟨e6.tr e7, _, rfl⟩
    · rintro σ H6 ⟨e6, w6, rfl⟩
      walk_at "rd"
      refine ⟨p, m + 1, rfl, s4.ext (e5.tr e6), by omega, fun H7 e7 s7 => ?_⟩
      walk_at "rd"
      refine k _ (fun b ob z => ?_) [_, _, _, _, _] rfl
      have hbp : b ≠ p := ne_of_none z hp
      exact e7 _ _ hbp (e6 _ _ (e5 _ _ (e4 _ _ hbp (e3 _ _ hbp (e1 _ _ z)))))
  refine ⟨p, 3, 7, rfl, s2, by decide, by decide, by decide, fun d H3 d0 d1 e3 s3 => ?_⟩
  have neT : ∀ {x : Addr} {xs : List V}, H2 x = some (.tup xs) → x ≠ p := fun {x xs} h z => by obtain ⟨_, _, _, h', _⟩ := s2; rw [z, h'] at h; cases h
  walk_at "rd"
  rw [dec_int]
  refine e_ite (fun h0 => ?_) (fun h0 => ?_)
  · walk_at "rd"
    refine ⟨p, 9, 8, rfl, ⟨by decide, by decide⟩, s3, by decide, fun t' ns' H4 ht' e4 s4 g4 hl4 hs4 => ?_⟩
    walk_at "rd"
    refine ⟨by show 2 ≤ sizeLine; decide, fun Z' hZ' => ?_⟩
    have e5 := Ext.new (o := .lst [V.int 0, V.int 1]) hZ'
    walk_at "re"
    refine main t' Z' ns' [0, 1] _ 15 ((eB.tr e3).tr (e4.tr (ExtB.of e5))) (s4.ext e5) (by decide) (e5 _ _ g4) upd_same hl4 (fun c hc => ?_) (by simp) (fun z hz => ?_)
    · have : c.natAbs < 1024 := hs4 c hc
      omega
    · simp only [List.mem_cons, List.not_mem_nil, or_false] at hz; omega
  · with_reducible refine s_next ?_
    exact main t Z ns zs H3 8 (eB.tr e3) s3 (by decide) (e3 _ _ (neT gt) gt) (e3 _ _ hZne gZ) (by omega) hns hzn hzs
def sp_law (K : PySem.W.Frag) : Sp := fun vs H Q _ => ∃ (a : Addr) (ns : List Int), vs = [.ref a] ∧ SqL K H a (ns.map V.int) ∧ ∀ H', Q (.bl true) H'
theorem pure_law (K : PySem.W.Frag) (vs : List V) (H : Hp) (Q : VK) (E : XK) (h : sp_law K vs H Q E) : rd_law K { nx := fun _ H' => Q .non H', rt := Q } (start ["_law_script", "_law_turn", "_law_stream_here", "_law_poly_here", "_law_zeros", "_law_near", "_law_first"] vs) H := by
  obtain ⟨a, ns, rfl, hA, q⟩ := h
  unfold rd_law
  walk_at "rd"
  · refine for_range (lo := 0) (n := 6) (fun i σ H' => Ext H H' ∧ ∃ (u : Option V) (ws : List (Option V)), ws.length = 5 ∧ σ = some (.ref a) :: u :: ws) ⟨Ext.rfl', none, _, rfl, rfl⟩ ?_ ?_
    · rintro i σ H' hi ⟨e, u, ws, hl, rfl⟩
      walk_at "re"
      refine law_L2 (i := 0 + (i : Int)) hl (by omega) (by omega) (e.sqL hA) ?_
      intro H'' e'' ws' hl'
      exact ⟨e.tr e'', _, _, hl', rfl⟩
    · rintro σ H' ⟨e, u, ws, hl, rfl⟩
      walk_at "rd"
      refine ⟨by show 0 ≤ sizeLine; decide, fun p1 h1 => ?_⟩
      walk_at "rd"
      refine ⟨p1, [], 0, rfl, .inr (SqT.of upd_same), by decide, by simp, sz0, fun v H1 e1 hv => ?_⟩
      obtain rfl := hv.unique (.inl ⟨0, rfl, fun r _ => rfl⟩)
      walk_at "rd"
      rw [decide_eq_true rfl]
      walk_at "rd"
      refine ⟨by show 2 ≤ sizeLine; decide, fun p2 h2 => ?_⟩
      walk_at "rd"
      refine ⟨p2, [0, 0], -5, rfl, .inr (SqT.of upd_same), by decide, by intro c hc; simp only [List.mem_cons, List.not_mem_nil, or_false] at hc; rcases hc with rfl | rfl <;> exact sz0, Sz.mono (show Sz 5 (-5) by decide) (by decide), fun v H2 e2 hv => ?_⟩
      obtain rfl := hv.unique (.inl ⟨0, rfl, fun r _ => by simp [pvl]; rfl⟩)
      walk_at "rd"
      rw [decide_eq_true rfl]
      walk_at "rd"
      refine ⟨by show 2 ≤ sizeLine; decide, fun p3 h3 => ?_⟩
      walk_at "rd"
      refine ⟨p3, [-7, 1], 8, rfl, .inr (SqT.of upd_same), by decide, by intro c hc; simp only [List.mem_cons, List.not_mem_nil, or_false] at hc; rcases hc with rfl | rfl <;> exact Sz.mono (a := 5) (by decide) (by decide), Sz.mono (show Sz 5 8 by decide) (by decide), fun v H3 e3 hv => ?_⟩
      obtain rfl := hv.unique (.inl ⟨1, rfl, fun r hr => by
        have : pvl [-7, 1] r = r - 7 := by simp only [pvl]; grind
        rw [this]; exact sgn_pos (by omega)⟩)
      walk_at "rd"
      rw [decide_eq_true rfl]
      exact q _
  · decide
end FWL
namespace FWL
open PySem PySem.Spec PyProof.Rows L2 FW
local macro_rules | `(tactic| walk_at "ln") => `(tactic| (intro vs H Q E h; repeat (obtain ⟨x', h⟩ := h; first | (rw [x']; rfl) | skip)))
def top (i : Nat) : Stmt := PySem.Challenge.pw_floorward_k03_signs_from_on.main.body.getD i (.Pass ⟨0, 0, 0, 0⟩)
def clsBody : Stmt → List Stmt | .ClassDef (body := b) .. => b | _ => []
def meth (i j : Nat) : Stmt := (clsBody (top i)).getD j (.Pass ⟨0, 0, 0, 0⟩)
abbrev st_trimmed : Stmt := FWL.top 1
abbrev N_trimmed : List Str := ["coefficients", "many"]
theorem sc_trimmed : FnScope N_trimmed ["coefficients"] (defScope st_trimmed) := ⟨rfl, rfl, rfl, by decide +kernel, rfl, by decide +kernel, by decide +kernel⟩
abbrev st_poly_value : Stmt := FWL.top 2
abbrev N_poly_value : List Str := ["poly", "r", "found", "coefficient"]
theorem sc_poly_value : FnScope N_poly_value ["poly", "r"] (defScope st_poly_value) := ⟨rfl, rfl, rfl, by decide +kernel, rfl, by decide +kernel, by decide +kernel⟩
abbrev st_poly_sum : Stmt := FWL.top 3
abbrev N_poly_sum : List Str := ["one", "other", "many", "first", "second", "x", "y"]
theorem sc_poly_sum : FnScope N_poly_sum ["one", "other"] (defScope st_poly_sum) := ⟨rfl, rfl, rfl, by decide +kernel, rfl, by decide +kernel, by decide +kernel⟩
abbrev st_poly_product : Stmt := FWL.top 4
abbrev N_poly_product : List Str := ["one", "other", "found", "i", "x", "j", "y"]
theorem sc_poly_product : FnScope N_poly_product ["one", "other"] (defScope st_poly_product) := ⟨rfl, rfl, rfl, by decide +kernel, rfl, by decide +kernel, by decide +kernel⟩
abbrev st_poly_less : Stmt := FWL.top 5
abbrev N_poly_less : List Str := ["one", "other", "coefficient"]
theorem sc_poly_less : FnScope N_poly_less ["one", "other"] (defScope st_poly_less) := ⟨rfl, rfl, rfl, by decide +kernel, rfl, by decide +kernel, by decide +kernel⟩
abbrev st_poly_shift : Stmt := FWL.top 6
abbrev N_poly_shift : List Str := ["poly", "by", "found", "coefficient"]
theorem sc_poly_shift : FnScope N_poly_shift ["poly", "by"] (defScope st_poly_shift) := ⟨rfl, rfl, rfl, by decide +kernel, rfl, by decide +kernel, by decide +kernel⟩
abbrev st_sign : Stmt := FWL.top 7
abbrev N_sign : List Str := ["number"]
theorem sc_sign : FnScope N_sign ["number"] (defScope st_sign) := ⟨rfl, rfl, rfl, by decide +kernel, rfl, by decide +kernel, by decide +kernel⟩
abbrev st_settled : Stmt := FWL.top 8
abbrev N_settled : List Str := ["poly", "coefficient"]
theorem sc_settled : FnScope N_settled ["poly"] (defScope st_settled) := ⟨rfl, rfl, rfl, by decide +kernel, rfl, by decide +kernel, by decide +kernel⟩
abbrev st_next_change : Stmt := FWL.top 9
abbrev N_next_change : List Str := ["poly", "begun", "beyond", "low", "high", "middle"]
theorem sc_next_change : FnScope N_next_change ["poly", "begun", "beyond"] (defScope st_next_change) := ⟨rfl, rfl, rfl, by decide +kernel, rfl, by decide +kernel, by decide +kernel⟩
abbrev st_changes : Stmt := FWL.top 10
abbrev N_changes : List Str := ["poly", "first", "last", "inner", "ends", "r", "found", "begun", "beyond"]
theorem sc_changes : FnScope N_changes ["poly", "first"] (defScope st_changes) := ⟨rfl, rfl, rfl, by decide +kernel, rfl, by decide +kernel, by decide +kernel⟩
abbrev st_sign_from : Stmt := FWL.top 11
abbrev N_sign_from : List Str := ["poly", "first"]
theorem sc_sign_from : FnScope N_sign_from ["poly", "first"] (defScope st_sign_from) := ⟨rfl, rfl, rfl, by decide +kernel, rfl, by decide +kernel, by decide +kernel⟩
abbrev st_l_stream : Stmt := FWL.top 13
abbrev N_l_stream : List Str := ["_law_script", "_law_k", "_law_cell"]
theorem sc_l_stream : FnScope N_l_stream ["_law_script", "_law_k"] (defScope st_l_stream) := ⟨rfl, rfl, rfl, by decide +kernel, rfl, by decide +kernel, by decide +kernel⟩
abbrev st_l_draw : Stmt := FWL.top 14
abbrev N_l_draw : List Str := ["_law_stream_here", "_law_many", "_law_digit", "_law_spread"]
theorem sc_l_draw : FnScope N_l_draw ["_law_stream_here", "_law_many"] (defScope st_l_draw) := ⟨rfl, rfl, rfl, by decide +kernel, rfl, by decide +kernel, by decide +kernel⟩
abbrev st_l_pick : Stmt := FWL.top 15
abbrev N_l_pick : List Str := ["_law_stream_here", "_law_things"]
theorem sc_l_pick : FnScope N_l_pick ["_law_stream_here", "_law_things"] (defScope st_l_pick) := ⟨rfl, rfl, rfl, by decide +kernel, rfl, by decide +kernel, by decide +kernel⟩
abbrev st_l_power : Stmt := FWL.top 16
abbrev N_l_power : List Str := ["_law_x", "_law_k", "_law_found", "_law_turn"]
theorem sc_l_power : FnScope N_l_power ["_law_x", "_law_k"] (defScope st_l_power) := ⟨rfl, rfl, rfl, by decide +kernel, rfl, by decide +kernel, by decide +kernel⟩
abbrev st_l_poly : Stmt := FWL.top 17
abbrev N_l_poly : List Str := ["_law_stream_here", "_law_many", "_law_most", "_law_found", "_law_k"]
theorem sc_l_poly : FnScope N_l_poly ["_law_stream_here", "_law_many", "_law_most"] (defScope st_l_poly) := ⟨rfl, rfl, rfl, by decide +kernel, rfl, by decide +kernel, by decide +kernel⟩
abbrev st_l_at : Stmt := FWL.top 18
abbrev N_l_at : List Str := ["_law_poly_here", "_law_r", "_law_k", "_law_x"]
theorem sc_l_at : FnScope N_l_at ["_law_poly_here", "_law_r"] (defScope st_l_at) := ⟨rfl, rfl, rfl, by decide +kernel, rfl, by decide +kernel, by decide +kernel⟩
abbrev st_l_made : Stmt := FWL.top 19
abbrev N_l_made : List Str := ["_law_stream_here", "_law_found", "_law_zeros", "_law_k", "_law_z", "_law_raised", "_law_j", "_law_x", "_law_by"]
theorem sc_l_made : FnScope N_l_made ["_law_stream_here"] (defScope st_l_made) := ⟨rfl, rfl, rfl, by decide +kernel, rfl, by decide +kernel, by decide +kernel⟩
abbrev st_l_sign : Stmt := FWL.top 20
abbrev N_l_sign : List Str := ["_law_poly_here", "_law_first", "_law_some", "_law_x", "_law_most", "_law_told", "_law_r"]
theorem sc_l_sign : FnScope N_l_sign ["_law_poly_here", "_law_first"] (defScope st_l_sign) := ⟨rfl, rfl, rfl, by decide +kernel, rfl, by decide +kernel, by decide +kernel⟩
abbrev st_l_great_right : Stmt := FWL.top 21
abbrev N_l_great_right : List Str := ["_law_stream_here", "_law_many", "_law_scale", "_law_zeros", "_law_k", "_law_found", "_law_by", "_law_z", "_law_raised", "_law_j", "_law_x", "_law_poly_here", "_law_last", "_law_least", "_law_due", "_law_beneath"]
theorem sc_l_great_right : FnScope N_l_great_right ["_law_stream_here"] (defScope st_l_great_right) := ⟨rfl, rfl, rfl, by decide +kernel, rfl, by decide +kernel, by decide +kernel⟩
abbrev st_law : Stmt := FWL.top 22
abbrev N_law : List Str := ["_law_script", "_law_turn", "_law_stream_here", "_law_poly_here", "_law_zeros", "_law_near", "_law_first"]
theorem sc_law : FnScope N_law ["_law_script"] (defScope st_law) := ⟨rfl, rfl, rfl, by decide +kernel, rfl, by decide +kernel, by decide +kernel⟩
structure Tx (K : PySem.W.Frag) (mg : Str → Option Value) : Prop where
  n_abs : mg "abs" = none
  n_enumerate : mg "enumerate" = none
  n_int : mg "int" = none
  n_len : mg "len" = none
  n_list : mg "list" = none
  n_max : mg "max" = none
  n_min : mg "min" = none
  n_range : mg "range" = none
  n_sum : mg "sum" = none
  n_tuple : mg "tuple" = none
  n_zip : mg "zip" = none
  g_trimmed : mg "trimmed" = some (.ref (He.ga K "trimmed"))
  g_poly_value : mg "poly_value" = some (.ref (He.ga K "poly_value"))
  g_poly_sum : mg "poly_sum" = some (.ref (He.ga K "poly_sum"))
  g_poly_product : mg "poly_product" = some (.ref (He.ga K "poly_product"))
  g_poly_less : mg "poly_less" = some (.ref (He.ga K "poly_less"))
  g_poly_shift : mg "poly_shift" = some (.ref (He.ga K "poly_shift"))
  g_sign : mg "sign" = some (.ref (He.ga K "sign"))
  g_settled : mg "settled" = some (.ref (He.ga K "settled"))
  g_next_change : mg "next_change" = some (.ref (He.ga K "next_change"))
  g_changes : mg "changes" = some (.ref (He.ga K "changes"))
  g_sign_from : mg "sign_from" = some (.ref (He.ga K "sign_from"))
  g__law_stream : mg "_law_stream" = some (.ref (He.ga K "_law_stream"))
  g__law_draw : mg "_law_draw" = some (.ref (He.ga K "_law_draw"))
  g__law_pick : mg "_law_pick" = some (.ref (He.ga K "_law_pick"))
  g__law_power : mg "_law_power" = some (.ref (He.ga K "_law_power"))
  g__law_poly : mg "_law_poly" = some (.ref (He.ga K "_law_poly"))
  g__law_at : mg "_law_at" = some (.ref (He.ga K "_law_at"))
  g__law_made : mg "_law_made" = some (.ref (He.ga K "_law_made"))
  g__law_sign : mg "_law_sign" = some (.ref (He.ga K "_law_sign"))
  g__law_great_right : mg "_law_great_right" = some (.ref (He.ga K "_law_great_right"))
  g_law : mg "law" = some (.ref (He.ga K "law"))
  d_trimmed : ∃ fd, FunD K "trimmed" "trimmed" (defArgs st_trimmed) (defBody st_trimmed) (defScope st_trimmed) [] [] (He.ga K "trimmed") fd
  d_poly_value : ∃ fd, FunD K "poly_value" "poly_value" (defArgs st_poly_value) (defBody st_poly_value) (defScope st_poly_value) [] [] (He.ga K "poly_value") fd
  d_poly_sum : ∃ fd, FunD K "poly_sum" "poly_sum" (defArgs st_poly_sum) (defBody st_poly_sum) (defScope st_poly_sum) [] [] (He.ga K "poly_sum") fd
  d_poly_product : ∃ fd, FunD K "poly_product" "poly_product" (defArgs st_poly_product) (defBody st_poly_product) (defScope st_poly_product) [] [] (He.ga K "poly_product") fd
  d_poly_less : ∃ fd, FunD K "poly_less" "poly_less" (defArgs st_poly_less) (defBody st_poly_less) (defScope st_poly_less) [] [] (He.ga K "poly_less") fd
  d_poly_shift : ∃ fd, FunD K "poly_shift" "poly_shift" (defArgs st_poly_shift) (defBody st_poly_shift) (defScope st_poly_shift) [] [] (He.ga K "poly_shift") fd
  d_sign : ∃ fd, FunD K "sign" "sign" (defArgs st_sign) (defBody st_sign) (defScope st_sign) [] [] (He.ga K "sign") fd
  d_settled : ∃ fd, FunD K "settled" "settled" (defArgs st_settled) (defBody st_settled) (defScope st_settled) [] [] (He.ga K "settled") fd
  d_next_change : ∃ fd, FunD K "next_change" "next_change" (defArgs st_next_change) (defBody st_next_change) (defScope st_next_change) [] [] (He.ga K "next_change") fd
  d_changes : ∃ fd, FunD K "changes" "changes" (defArgs st_changes) (defBody st_changes) (defScope st_changes) [] [] (He.ga K "changes") fd
  d_sign_from : ∃ fd, FunD K "sign_from" "sign_from" (defArgs st_sign_from) (defBody st_sign_from) (defScope st_sign_from) [] [] (He.ga K "sign_from") fd
  d_l_stream : ∃ fd, FunD K "_law_stream" "_law_stream" (defArgs st_l_stream) (defBody st_l_stream) (defScope st_l_stream) [] [] (He.ga K "_law_stream") fd
  d_l_draw : ∃ fd, FunD K "_law_draw" "_law_draw" (defArgs st_l_draw) (defBody st_l_draw) (defScope st_l_draw) [] [] (He.ga K "_law_draw") fd
  d_l_pick : ∃ fd, FunD K "_law_pick" "_law_pick" (defArgs st_l_pick) (defBody st_l_pick) (defScope st_l_pick) [] [] (He.ga K "_law_pick") fd
  d_l_power : ∃ fd, FunD K "_law_power" "_law_power" (defArgs st_l_power) (defBody st_l_power) (defScope st_l_power) [] [] (He.ga K "_law_power") fd
  d_l_poly : ∃ fd, FunD K "_law_poly" "_law_poly" (defArgs st_l_poly) (defBody st_l_poly) (defScope st_l_poly) [] [] (He.ga K "_law_poly") fd
  d_l_at : ∃ fd, FunD K "_law_at" "_law_at" (defArgs st_l_at) (defBody st_l_at) (defScope st_l_at) [] [] (He.ga K "_law_at") fd
  d_l_made : ∃ fd, FunD K "_law_made" "_law_made" (defArgs st_l_made) (defBody st_l_made) (defScope st_l_made) [] [] (He.ga K "_law_made") fd
  d_l_sign : ∃ fd, FunD K "_law_sign" "_law_sign" (defArgs st_l_sign) (defBody st_l_sign) (defScope st_l_sign) [] [] (He.ga K "_law_sign") fd
  d_l_great_right : ∃ fd, FunD K "_law_great_right" "_law_great_right" (defArgs st_l_great_right) (defBody st_l_great_right) (defScope st_l_great_right) [] [] (He.ga K "_law_great_right") fd
  d_law : ∃ fd, FunD K "law" "law" (defArgs st_law) (defBody st_law) (defScope st_law) [] [] (He.ga K "law") fd
abbrev PP : Program := PySem.Challenge.pw_floorward_k03_signs_from_on
section
variable {w : World} {K : PySem.W.Frag} {mg : Str → Option Value} {base : Heap}
theorem dv_trimmed {f : Addr} {cdv : Value} {A : Around} {outer : List Env} {s : Shared} {H : Hp} {E : XK} (T : Tx K mg) (hr : Room 0 (A.deeper (envOfC "trimmed" (defScope st_trimmed) s.heap.objs.size f cdv))) : PSs (cxOf CX0 PP w K mg base N_trimmed "trimmed" (defScope st_trimmed) f cdv A outer s H E).nox (defBody st_trimmed) (rd_trimmed K) := by
  exact pss_cons (ps_set (i := 1) sc_trimmed.nd rfl (Or.inl rfl) (pe_callB call_len_seq (by rfl) T.n_len (by decide +kernel) (pa_cons (pv 0) (pa_nil)))) (pss_cons (ps_while PassesOwn.never (PW.pt (pw_and (pt_cmpR op_gt (pv 1) (pe_int) (nomark _)) (pw_and1 (pt_cmpR op_eq (pe_ix ix_seq (pv 0) (pe_op FW.opSub (pv 1) (pe_int)) (fun _ _ => rfl)) (pe_int) (nomark _))))) (pss_one (ps_aug (i := 1) sc_trimmed.nd rfl (Or.inl rfl) (pe_int) FW.ipSub))) (pss_one (ps_ret (pe_callTy call_tuple_of (by rfl) T.n_tuple (by decide +kernel) (pa_cons (FW.pe_either (pe_slice sl_list (pv 0) (po_none) (po_some (pv 1))) (pe_slice sl_tupA (pv 0) (po_none) (po_some (pv 1)))) (pa_nil))))))
theorem ok_trimmed (T : Tx K mg) : Fn PP w K mg base CX0 1 "trimmed" (sp_trimmed K) [] :=
  Fn.mk0 T.d_trimmed T.g_trimmed sc_trimmed (fun _ _ _ _ _ _ us hl => match us, hl with | [_], _ => rfl) (by rintro vs H Q E (⟨_, _, rfl, _⟩ | ⟨_, _, rfl, _⟩) <;> rfl) (fun cdv A outer s H vs Q E hr h => ⟨rd_trimmed K, dv_trimmed T hr, pure_trimmed K vs H Q E h⟩)
theorem dv_poly_value {f : Addr} {cdv : Value} {A : Around} {outer : List Env} {s : Shared} {H : Hp} {E : XK} (T : Tx K mg) (hr : Room 0 (A.deeper (envOfC "poly_value" (defScope st_poly_value) s.heap.objs.size f cdv))) : PSs (cxOf CX0 PP w K mg base N_poly_value "poly_value" (defScope st_poly_value) f cdv A outer s H E).nox (defBody st_poly_value) (rd_poly_value K) := by
  exact pss_cons (ps_set (i := 2) sc_poly_value.nd rfl (Or.inl rfl) (pe_int)) (pss_cons (ps_for PassesOwn.never rfl (FW.pi_either (pi_list (FW.pe_either (pe_revL (pv 0)) (FW.pe_revT (pv 0)))) (pi_tup (FW.pe_either (pe_revL (pv 0)) (FW.pe_revT (pv 0))))) (pg_name (i := 3) sc_poly_value.nd rfl (Or.inl rfl)) (pss_one (ps_set (i := 2) sc_poly_value.nd rfl (Or.inl rfl) (pe_op FW.opAdd (pe_op FW.opMul (pv 2) (pv 1)) (pv 3))))) (pss_one (ps_ret (pv 2))))
theorem ok_poly_value (T : Tx K mg) : Fn PP w K mg base CX0 1 "poly_value" (sp_poly_value K) [] :=
  Fn.mk0 T.d_poly_value T.g_poly_value sc_poly_value (fun _ _ _ _ _ _ us hl => match us, hl with | [_, _], _ => rfl) (by walk_at "ln") (fun cdv A outer s H vs Q E hr h => ⟨rd_poly_value K, dv_poly_value T hr, pure_poly_value K vs H Q E h⟩)
theorem dv_sign {f : Addr} {cdv : Value} {A : Around} {outer : List Env} {s : Shared} {H : Hp} {E : XK} (T : Tx K mg) (hr : Room 0 (A.deeper (envOfC "sign" (defScope st_sign) s.heap.objs.size f cdv))) : PSs (cxOf CX0 PP w K mg base N_sign "sign" (defScope st_sign) f cdv A outer s H E).nox (defBody st_sign) (rd_sign K) := by
  exact pss_one (ps_ret (pe_op FW.opSub (pe_callTy call_int1 (by rfl) T.n_int (by decide +kernel) (pa_cons (pe_cmpR op_gt (pv 0) (pe_int) (nomark _)) (pa_nil))) (pe_callTy call_int1 (by rfl) T.n_int (by decide +kernel) (pa_cons (pe_cmpR op_lt (pv 0) (pe_int) (nomark _)) (pa_nil)))))
theorem ok_sign (T : Tx K mg) : Fn PP w K mg base CX0 1 "sign" (sp_sign K) [] :=
  Fn.mk0 T.d_sign T.g_sign sc_sign (fun _ _ _ _ _ _ us hl => match us, hl with | [_], _ => rfl) (by walk_at "ln") (fun cdv A outer s H vs Q E hr h => ⟨rd_sign K, dv_sign T hr, pure_sign K vs H Q E h⟩)
theorem dv_settled {f : Addr} {cdv : Value} {A : Around} {outer : List Env} {s : Shared} {H : Hp} {E : XK} (T : Tx K mg) (hr : Room 0 (A.deeper (envOfC "settled" (defScope st_settled) s.heap.objs.size f cdv))) : PSs (cxOf CX0 PP w K mg base N_settled "settled" (defScope st_settled) f cdv A outer s H E).nox (defBody st_settled) (rd_settled K) := by
  exact pss_one (ps_ret (pe_op FW.opAdd (pe_int) (pe_op FW.opDiv (pe_callB (cr_max rfl) (by rfl) T.n_max (by decide +kernel) (pa_cons (pe_lc (own := [("coefficient", 1)]) (g := gName 1) (tt := tYes) rfl sc_settled.nd (pi_tup (pv 0)) (blkOk_by (own := [("coefficient", 1)]) (N := N_settled) (sc := defScope st_settled) (by decide +kernel)) (fun _ _ _ _ _ => pg_name (i := 1) sc_settled.nd rfl (Or.inl rfl)) (fun _ _ _ _ _ => pts_nil) (fun _ _ _ _ _ => pe_callB call_abs (by rfl) T.n_abs (by decide +kernel) (pa_cons (pv 1) (pa_nil)))) (pa_nil))) (pe_callB call_abs (by rfl) T.n_abs (by decide +kernel) (pa_cons (pe_ix ix_tup (pv 0) (pe_un un_neg (pe_int)) (fun _ _ => rfl)) (pa_nil))))))
theorem ok_settled (T : Tx K mg) : Fn PP w K mg base CX0 1 "settled" (sp_settled K) [] :=
  Fn.mk0 T.d_settled T.g_settled sc_settled (fun _ _ _ _ _ _ us hl => match us, hl with | [_], _ => rfl) (by walk_at "ln") (fun cdv A outer s H vs Q E hr h => ⟨rd_settled K, dv_settled T hr, pure_settled K vs H Q E h⟩)
theorem dv_l_stream {f : Addr} {cdv : Value} {A : Around} {outer : List Env} {s : Shared} {H : Hp} {E : XK} (T : Tx K mg) (hr : Room 0 (A.deeper (envOfC "_law_stream" (defScope st_l_stream) s.heap.objs.size f cdv))) : PSs (cxOf CX0 PP w K mg base N_l_stream "_law_stream" (defScope st_l_stream) f cdv A outer s H E).nox (defBody st_l_stream) (rd_l_stream K) := by
  exact pss_cons (ps_set (i := 2) sc_l_stream.nd rfl (Or.inl rfl) (pe_ifExp (pt_cmpR op_lt (pv 1) (pe_callB call_len_seq (by rfl) T.n_len (by decide +kernel) (pa_cons (pv 0) (pa_nil))) (nomark _)) (pe_callB call_abs (by rfl) T.n_abs (by decide +kernel) (pa_cons (pe_ix ix_list (pv 0) (pv 1) (fun _ _ => rfl)) (pa_nil))) (pe_int))) (pss_one (ps_ret (pe_lst (pa_cons (pe_ifExp (pt_cmpR op_ge (pv 2) (pe_op FW.opPow (pe_int) (pe_int)) (nomark _)) (pv 2) (pe_int)) (pa_cons (pe_op FW.opAdd (pe_op FW.opMod (pe_callTy call_int1 (by rfl) T.n_int (by decide +kernel) (pa_cons (pv 2) (pa_nil))) (pe_int)) (pe_op FW.opMul (pe_int) (pv 1))) (pa_cons (pe_int) (pa_nil)))))))
theorem ok_l_stream (T : Tx K mg) : Fn PP w K mg base CX0 1 "_law_stream" (sp_l_stream K) [] :=
  Fn.mk0 T.d_l_stream T.g__law_stream sc_l_stream (fun _ _ _ _ _ _ us hl => match us, hl with | [_, _], _ => rfl) (by walk_at "ln") (fun cdv A outer s H vs Q E hr h => ⟨rd_l_stream K, dv_l_stream T hr, pure_l_stream K vs H Q E h⟩)
theorem dv_l_draw {f : Addr} {cdv : Value} {A : Around} {outer : List Env} {s : Shared} {H : Hp} {E : XK} (T : Tx K mg) (hr : Room 0 (A.deeper (envOfC "_law_draw" (defScope st_l_draw) s.heap.objs.size f cdv))) : PSs (cxOf CX0 PP w K mg base N_l_draw "_law_draw" (defScope st_l_draw) f cdv A outer s H E).nox (defBody st_l_draw) (rd_l_draw K) := by
  exact pss_cons (ps_if (pt_cmpR op_gt (pe_ix ix_list (pv 0) (pe_int) (fun _ _ => rfl)) (pe_int) (nomark _)) (pss_cons (ps_set (i := 2) sc_l_draw.nd rfl (Or.inl rfl) (pe_op FW.opMod (pe_callTy call_int1 (by rfl) T.n_int (by decide +kernel) (pa_cons (pe_ix ix_list (pv 0) (pe_int) (fun _ _ => rfl)) (pa_nil))) (pv 1))) (pss_cons (ps_asg (pe_op FW.opDiv (pe_ix ix_list (pv 0) (pe_int) (fun _ _ => rfl)) (pv 1)) (pg_sub (pv 0) (pe_int) set_list)) (pss_one (ps_ret (pv 2))))) (pss_nil)) (pss_cons (ps_asg (pe_op FW.opAdd (pe_ix ix_list (pv 0) (pe_int) (fun _ _ => rfl)) (pe_int)) (pg_sub (pv 0) (pe_int) set_list)) (pss_cons (ps_set (i := 3) sc_l_draw.nd rfl (Or.inl rfl) (pe_op FW.opMod (pe_op FW.opPow (pe_callTy call_int1 (by rfl) T.n_int (by decide +kernel) (pa_cons (pe_op FW.opAdd (pe_op FW.opAdd (pe_ix ix_list (pv 0) (pe_int) (fun _ _ => rfl)) (pe_op FW.opMul (pe_int) (pe_ix ix_list (pv 0) (pe_int) (fun _ _ => rfl)))) (pe_int)) (pa_nil))) (pe_int)) (pe_int))) (pss_one (ps_ret (pe_op FW.opMod (pe_op FW.opDiv (pe_op FW.opMod (pe_callTy call_int1 (by rfl) T.n_int (by decide +kernel) (pa_cons (pe_op FW.opMul (pe_op FW.opAdd (pv 3) (pe_ix ix_list (pv 0) (pe_int) (fun _ _ => rfl))) (pe_int)) (pa_nil))) (pe_int)) (pe_int)) (pv 1))))))
theorem ok_l_draw (T : Tx K mg) : Fn PP w K mg base CX0 1 "_law_draw" (sp_l_draw K) [] :=
  Fn.mk0 T.d_l_draw T.g__law_draw sc_l_draw (fun _ _ _ _ _ _ us hl => match us, hl with | [_, _], _ => rfl) (by walk_at "ln") (fun cdv A outer s H vs Q E hr h => ⟨rd_l_draw K, dv_l_draw T hr, pure_l_draw K vs H Q E h⟩)
theorem dv_l_power {f : Addr} {cdv : Value} {A : Around} {outer : List Env} {s : Shared} {H : Hp} {E : XK} (T : Tx K mg) (hr : Room 0 (A.deeper (envOfC "_law_power" (defScope st_l_power) s.heap.objs.size f cdv))) : PSs (cxOf CX0 PP w K mg base N_l_power "_law_power" (defScope st_l_power) f cdv A outer s H E).nox (defBody st_l_power) (rd_l_power K) := by
  exact pss_cons (ps_set (i := 2) sc_l_power.nd rfl (Or.inl rfl) (pe_int)) (pss_cons (ps_for PassesOwn.never rfl (pi_range1 (by rfl) T.n_range (pa_cons (pv 1) (pa_nil))) (pg_name (i := 3) sc_l_power.nd rfl (Or.inl rfl)) (pss_one (ps_set (i := 2) sc_l_power.nd rfl (Or.inl rfl) (pe_op FW.opMul (pv 2) (pv 0))))) (pss_one (ps_ret (pv 2))))
theorem ok_l_power (T : Tx K mg) : Fn PP w K mg base CX0 1 "_law_power" (sp_l_power K) [] :=
  Fn.mk0 T.d_l_power T.g__law_power sc_l_power (fun _ _ _ _ _ _ us hl => match us, hl with | [_, _], _ => rfl) (by walk_at "ln") (fun cdv A outer s H vs Q E hr h => ⟨rd_l_power K, dv_l_power T hr, pure_l_power K vs H Q E h⟩)
theorem dv_poly_sum {f : Addr} {cdv : Value} {A : Around} {outer : List Env} {s : Shared} {H : Hp} {E : XK} (T : Tx K mg) (hr : Room 1 (A.deeper (envOfC "poly_sum" (defScope st_poly_sum) s.heap.objs.size f cdv))) : PSs (cxOf CX0 PP w K mg base N_poly_sum "poly_sum" (defScope st_poly_sum) f cdv A outer s H E).nox (defBody st_poly_sum) (rd_poly_sum K) := by
  exact pss_cons (ps_set (i := 2) sc_poly_sum.nd rfl (Or.inl rfl) (pe_callB (call_max2 rfl) (by rfl) T.n_max (by decide +kernel) (pa_cons (pe_callB call_len_seq (by rfl) T.n_len (by decide +kernel) (pa_cons (pv 0) (pa_nil))) (pa_cons (pe_callB call_len_seq (by rfl) T.n_len (by decide +kernel) (pa_cons (pv 1) (pa_nil))) (pa_nil))))) (pss_cons (ps_set (i := 3) sc_poly_sum.nd rfl (Or.inl rfl) (pe_op op_cat (pe_callTy call_list_of (by rfl) T.n_list (by decide +kernel) (pa_cons (pv 0) (pa_nil))) (pe_op op_rep (pe_lst (pa_cons (pe_int) (pa_nil))) (pe_op FW.opSub (pv 2) (pe_callB call_len_seq (by rfl) T.n_len (by decide +kernel) (pa_cons (pv 0) (pa_nil))))))) (pss_cons (ps_set (i := 4) sc_poly_sum.nd rfl (Or.inl rfl) (pe_op op_cat (pe_callTy call_list_of (by rfl) T.n_list (by decide +kernel) (pa_cons (pv 1) (pa_nil))) (pe_op op_rep (pe_lst (pa_cons (pe_int) (pa_nil))) (pe_op FW.opSub (pv 2) (pe_callB call_len_seq (by rfl) T.n_len (by decide +kernel) (pa_cons (pv 1) (pa_nil))))))) (pss_one (ps_ret (FW.pe_f (ok_trimmed T) hr (by decide) (by rfl) (pa_cons (pe_lc (own := [("x", 5), ("y", 6)]) (g := gTup K 2 (gCons (gName 5) (gCons (gName 6) (gNil)))) (tt := tYes) rfl sc_poly_sum.nd (pi_zip (by rfl) T.n_zip (pa_cons (pv 3) (pa_cons (pv 4) (pa_nil)))) (blkOk_by (own := [("x", 5), ("y", 6)]) (N := N_poly_sum) (sc := defScope st_poly_sum) (by decide +kernel)) (fun _ _ _ _ _ => pg_tup rfl (pgs_cons (pg_name (i := 5) sc_poly_sum.nd rfl (Or.inl rfl)) (pgs_cons (pg_name (i := 6) sc_poly_sum.nd rfl (Or.inl rfl)) (pgs_nil)))) (fun _ _ _ _ _ => pts_nil) (fun _ _ _ _ _ => pe_op FW.opAdd (pv 5) (pv 6))) (pa_nil)))))))
theorem ok_poly_sum (T : Tx K mg) : Fn PP w K mg base CX0 2 "poly_sum" (sp_poly_sum K) [] :=
  Fn.mk0 T.d_poly_sum T.g_poly_sum sc_poly_sum (fun _ _ _ _ _ _ us hl => match us, hl with | [_, _], _ => rfl) (by walk_at "ln") (fun cdv A outer s H vs Q E hr h => ⟨rd_poly_sum K, dv_poly_sum T hr, pure_poly_sum K vs H Q E h⟩)
theorem dv_poly_product {f : Addr} {cdv : Value} {A : Around} {outer : List Env} {s : Shared} {H : Hp} {E : XK} (T : Tx K mg) (hr : Room 1 (A.deeper (envOfC "poly_product" (defScope st_poly_product) s.heap.objs.size f cdv))) : PSs (cxOf CX0 PP w K mg base N_poly_product "poly_product" (defScope st_poly_product) f cdv A outer s H E).nox (defBody st_poly_product) (rd_poly_product K) := by
  exact pss_cons (ps_set (i := 2) sc_poly_product.nd rfl (Or.inl rfl) (pe_op op_rep (pe_lst (pa_cons (pe_int) (pa_nil))) (pe_op FW.opAdd (pe_callB call_len_seq (by rfl) T.n_len (by decide +kernel) (pa_cons (pv 0) (pa_nil))) (pe_callB call_len_seq (by rfl) T.n_len (by decide +kernel) (pa_cons (pv 1) (pa_nil)))))) (pss_cons (ps_for PassesOwn.never rfl (FW.pi_either (pi_enum (by rfl) T.n_enumerate (pa_cons (pv 0) (pa_nil))) (FW.pi_enumT (by rfl) T.n_enumerate (pa_cons (pv 0) (pa_nil)))) (pg_tup rfl (pgs_cons (pg_name (i := 3) sc_poly_product.nd rfl (Or.inl rfl)) (pgs_cons (pg_name (i := 4) sc_poly_product.nd rfl (Or.inl rfl)) (pgs_nil)))) (pss_one (ps_for PassesOwn.never rfl (FW.pi_either (pi_enum (by rfl) T.n_enumerate (pa_cons (pv 1) (pa_nil))) (FW.pi_enumT (by rfl) T.n_enumerate (pa_cons (pv 1) (pa_nil)))) (pg_tup rfl (pgs_cons (pg_name (i := 5) sc_poly_product.nd rfl (Or.inl rfl)) (pgs_cons (pg_name (i := 6) sc_poly_product.nd rfl (Or.inl rfl)) (pgs_nil)))) (pss_one (ps_augS (pv 2) (pe_op FW.opAdd (pv 3) (pv 5)) FW.get_list (pe_op FW.opMul (pv 4) (pv 6)) FW.ipAdd set_list))))) (pss_one (ps_ret (FW.pe_f (ok_trimmed T) hr (by decide) (by rfl) (pa_cons (pv 2) (pa_nil))))))
theorem ok_poly_product (T : Tx K mg) : Fn PP w K mg base CX0 2 "poly_product" (sp_poly_product K) [] :=
  Fn.mk0 T.d_poly_product T.g_poly_product sc_poly_product (fun _ _ _ _ _ _ us hl => match us, hl with | [_, _], _ => rfl) (by walk_at "ln") (fun cdv A outer s H vs Q E hr h => ⟨rd_poly_product K, dv_poly_product T hr, pure_poly_product K vs H Q E h⟩)
theorem dv_next_change {f : Addr} {cdv : Value} {A : Around} {outer : List Env} {s : Shared} {H : Hp} {E : XK} (T : Tx K mg) (hr : Room 1 (A.deeper (envOfC "next_change" (defScope st_next_change) s.heap.objs.size f cdv))) : PSs (cxOf CX0 PP w K mg base N_next_change "next_change" (defScope st_next_change) f cdv A outer s H E).nox (defBody st_next_change) (rd_next_change K) := by
  exact pss_cons (ps_par (by rfl) sc_next_change.nd rfl rfl (by decide) rfl rfl (pa_cons (pv 1) (pa_cons (pv 2) (pa_nil))) (by rfl)) (pss_cons (ps_while PassesOwn.never (pt_cmpR op_gt (pe_op FW.opSub (pv 4) (pv 3)) (pe_int) (nomark _)) (pss_cons (ps_set (i := 5) sc_next_change.nd rfl (Or.inl rfl) (pe_op FW.opDiv (pe_op FW.opAdd (pv 3) (pv 4)) (pe_int))) (pss_one (ps_if (pt_cmpR op_eq (FW.pe_f (ok_sign T) hr (by decide) (by rfl) (pa_cons (FW.pe_f (ok_poly_value T) hr (by decide) (by rfl) (pa_cons (pv 0) (pa_cons (pv 5) (pa_nil)))) (pa_nil))) (FW.pe_f (ok_sign T) hr (by decide) (by rfl) (pa_cons (FW.pe_f (ok_poly_value T) hr (by decide) (by rfl) (pa_cons (pv 0) (pa_cons (pv 1) (pa_nil)))) (pa_nil))) (nomark _)) (pss_one (ps_set (i := 3) sc_next_change.nd rfl (Or.inl rfl) (pv 5))) (pss_one (ps_set (i := 4) sc_next_change.nd rfl (Or.inl rfl) (pv 5))))))) (pss_one (ps_ret (pv 4))))
theorem ok_next_change (T : Tx K mg) : Fn PP w K mg base CX0 2 "next_change" (sp_next_change K) [] :=
  Fn.mk0 T.d_next_change T.g_next_change sc_next_change (fun _ _ _ _ _ _ us hl => match us, hl with | [_, _, _], _ => rfl) (by walk_at "ln") (fun cdv A outer s H vs Q E hr h => ⟨rd_next_change K, dv_next_change T hr, pure_next_change K vs H Q E h⟩)
theorem dv_l_pick {f : Addr} {cdv : Value} {A : Around} {outer : List Env} {s : Shared} {H : Hp} {E : XK} (T : Tx K mg) (hr : Room 1 (A.deeper (envOfC "_law_pick" (defScope st_l_pick) s.heap.objs.size f cdv))) : PSs (cxOf CX0 PP w K mg base N_l_pick "_law_pick" (defScope st_l_pick) f cdv A outer s H E).nox (defBody st_l_pick) (rd_l_pick K) := by
  exact pss_one (ps_ret (pe_ix ix_list (pv 1) (FW.pe_f (ok_l_draw T) hr (by decide) (by rfl) (pa_cons (pv 0) (pa_cons (pe_callB call_len_seq (by rfl) T.n_len (by decide +kernel) (pa_cons (pv 1) (pa_nil))) (pa_nil)))) (fun _ _ => rfl)))
theorem ok_l_pick (T : Tx K mg) : Fn PP w K mg base CX0 2 "_law_pick" (sp_l_pick K) [] :=
  Fn.mk0 T.d_l_pick T.g__law_pick sc_l_pick (fun _ _ _ _ _ _ us hl => match us, hl with | [_, _], _ => rfl) (by walk_at "ln") (fun cdv A outer s H vs Q E hr h => ⟨rd_l_pick K, dv_l_pick T hr, pure_l_pick K vs H Q E h⟩)
theorem dv_l_poly {f : Addr} {cdv : Value} {A : Around} {outer : List Env} {s : Shared} {H : Hp} {E : XK} (T : Tx K mg) (hr : Room 1 (A.deeper (envOfC "_law_poly" (defScope st_l_poly) s.heap.objs.size f cdv))) : PSs (cxOf CX0 PP w K mg base N_l_poly "_law_poly" (defScope st_l_poly) f cdv A outer s H E).nox (defBody st_l_poly) (rd_l_poly K) := by
  exact pss_cons (ps_setLc (i := 3) (own := [("_law_k", 4)]) (g := gName 4) (tt := tYes) rfl sc_l_poly.nd rfl rfl (sw_true rfl rfl rfl (by decide +kernel)) (pi_range1 (by rfl) T.n_range (pa_cons (FW.pe_f (ok_l_draw T) hr (by decide) (by rfl) (pa_cons (pv 0) (pa_cons (pe_op FW.opAdd (pv 1) (pe_int)) (pa_nil)))) (pa_nil))) (blkOk_by (own := [("_law_k", 4)]) (N := N_l_poly) (sc := defScope st_l_poly) (by decide +kernel)) (fun _ _ _ _ _ => pg_name (i := 4) sc_l_poly.nd rfl (Or.inl rfl)) (fun _ _ _ _ _ => pts_nil) (fun _ _ _ _ _ => pe_op FW.opSub (FW.pe_f (ok_l_draw T) hr (by decide) (by rfl) (pa_cons (pv 0) (pa_cons (pe_op FW.opAdd (pe_op FW.opMul (pe_int) (pv 2)) (pe_int)) (pa_nil)))) (pv 2))) (pss_one (ps_ret (pe_callTy call_tuple_of (by rfl) T.n_tuple (by decide +kernel) (pa_cons (pe_op op_cat (pv 3) (pe_op op_rep (pe_lst (pa_cons (pe_int) (pa_nil))) (pe_callTy call_int1 (by rfl) T.n_int (by decide +kernel) (pa_cons (pe_cmpR op_eq (FW.pe_f (ok_l_draw T) hr (by decide) (by rfl) (pa_cons (pv 0) (pa_cons (pe_int) (pa_nil)))) (pe_int) (nomark _)) (pa_nil))))) (pa_nil)))))
theorem ok_l_poly (T : Tx K mg) : Fn PP w K mg base CX0 2 "_law_poly" (sp_l_poly K) [] :=
  Fn.mk0 T.d_l_poly T.g__law_poly sc_l_poly (fun _ _ _ _ _ _ us hl => match us, hl with | [_, _, _], _ => rfl) (by walk_at "ln") (fun cdv A outer s H vs Q E hr h => ⟨rd_l_poly K, dv_l_poly T hr, pure_l_poly K vs H Q E h⟩)
theorem dv_l_at {f : Addr} {cdv : Value} {A : Around} {outer : List Env} {s : Shared} {H : Hp} {E : XK} (T : Tx K mg) (hr : Room 1 (A.deeper (envOfC "_law_at" (defScope st_l_at) s.heap.objs.size f cdv))) : PSs (cxOf CX0 PP w K mg base N_l_at "_law_at" (defScope st_l_at) f cdv A outer s H E).nox (defBody st_l_at) (rd_l_at K) := by
  exact pss_one (ps_ret (pe_callB (cr_sum rfl) (by rfl) T.n_sum (by decide +kernel) (pa_cons (pe_lc (own := [("_law_k", 2), ("_law_x", 3)]) (g := gTup K 2 (gCons (gName 2) (gCons (gName 3) (gNil)))) (tt := tYes) rfl sc_l_at.nd (FW.pi_enumT (by rfl) T.n_enumerate (pa_cons (pv 0) (pa_nil))) (blkOk_by (own := [("_law_k", 2), ("_law_x", 3)]) (N := N_l_at) (sc := defScope st_l_at) (by decide +kernel)) (fun _ _ _ _ _ => pg_tup rfl (pgs_cons (pg_name (i := 2) sc_l_at.nd rfl (Or.inl rfl)) (pgs_cons (pg_name (i := 3) sc_l_at.nd rfl (Or.inl rfl)) (pgs_nil)))) (fun _ _ _ _ _ => pts_nil) (fun _ _ _ _ _ => pe_op FW.opMul (pv 3) (FW.pe_f (ok_l_power T) hr (by decide) (by rfl) (pa_cons (pv 1) (pa_cons (pv 2) (pa_nil)))))) (pa_nil))))
theorem ok_l_at (T : Tx K mg) : Fn PP w K mg base CX0 2 "_law_at" (sp_l_at K) [] :=
  Fn.mk0 T.d_l_at T.g__law_at sc_l_at (fun _ _ _ _ _ _ us hl => match us, hl with | [_, _], _ => rfl) (by walk_at "ln") (fun cdv A outer s H vs Q E hr h => ⟨rd_l_at K, dv_l_at T hr, pure_l_at K vs H Q E h⟩)
theorem dv_poly_less {f : Addr} {cdv : Value} {A : Around} {outer : List Env} {s : Shared} {H : Hp} {E : XK} (T : Tx K mg) (hr : Room 2 (A.deeper (envOfC "poly_less" (defScope st_poly_less) s.heap.objs.size f cdv))) : PSs (cxOf CX0 PP w K mg base N_poly_less "poly_less" (defScope st_poly_less) f cdv A outer s H E).nox (defBody st_poly_less) (rd_poly_less K) := by
  exact pss_one (ps_ret (FW.pe_f (ok_poly_sum T) hr (by decide) (by rfl) (pa_cons (pv 0) (pa_cons (pe_callTy call_tuple_of (by rfl) T.n_tuple (by decide +kernel) (pa_cons (pe_lc (own := [("coefficient", 2)]) (g := gName 2) (tt := tYes) rfl sc_poly_less.nd (pi_tup (pv 1)) (blkOk_by (own := [("coefficient", 2)]) (N := N_poly_less) (sc := defScope st_poly_less) (by decide +kernel)) (fun _ _ _ _ _ => pg_name (i := 2) sc_poly_less.nd rfl (Or.inl rfl)) (fun _ _ _ _ _ => pts_nil) (fun _ _ _ _ _ => pe_un un_neg (pv 2))) (pa_nil))) (pa_nil)))))
theorem ok_poly_less (T : Tx K mg) : Fn PP w K mg base CX0 3 "poly_less" (sp_poly_less K) [] :=
  Fn.mk0 T.d_poly_less T.g_poly_less sc_poly_less (fun _ _ _ _ _ _ us hl => match us, hl with | [_, _], _ => rfl) (by walk_at "ln") (fun cdv A outer s H vs Q E hr h => ⟨rd_poly_less K, dv_poly_less T hr, pure_poly_less K vs H Q E h⟩)
theorem dv_poly_shift {f : Addr} {cdv : Value} {A : Around} {outer : List Env} {s : Shared} {H : Hp} {E : XK} (T : Tx K mg) (hr : Room 2 (A.deeper (envOfC "poly_shift" (defScope st_poly_shift) s.heap.objs.size f cdv))) : PSs (cxOf CX0 PP w K mg base N_poly_shift "poly_shift" (defScope st_poly_shift) f cdv A outer s H E).nox (defBody st_poly_shift) (rd_poly_shift K) := by
  exact pss_cons (ps_set (i := 2) sc_poly_shift.nd rfl (Or.inl rfl) (pe_tup (pa_nil))) (pss_cons (ps_for PassesOwn.never rfl (FW.pi_either (pi_list (FW.pe_either (pe_revL (pv 0)) (FW.pe_revT (pv 0)))) (pi_tup (FW.pe_either (pe_revL (pv 0)) (FW.pe_revT (pv 0))))) (pg_name (i := 3) sc_poly_shift.nd rfl (Or.inl rfl)) (pss_one (ps_set (i := 2) sc_poly_shift.nd rfl (Or.inl rfl) (FW.pe_f (ok_poly_sum T) hr (by decide) (by rfl) (pa_cons (FW.pe_f (ok_poly_product T) hr (by decide) (by rfl) (pa_cons (pv 2) (pa_cons (pe_tup (pa_cons (pv 1) (pa_cons (pe_int) (pa_nil)))) (pa_nil)))) (pa_cons (pe_tup (pa_cons (pv 3) (pa_nil))) (pa_nil))))))) (pss_one (ps_ret (pv 2))))
theorem ok_poly_shift (T : Tx K mg) : Fn PP w K mg base CX0 3 "poly_shift" (sp_poly_shift K) [] :=
  Fn.mk0 T.d_poly_shift T.g_poly_shift sc_poly_shift (fun _ _ _ _ _ _ us hl => match us, hl with | [_, _], _ => rfl) (by walk_at "ln") (fun cdv A outer s H vs Q E hr h => ⟨rd_poly_shift K, dv_poly_shift T hr, pure_poly_shift K vs H Q E h⟩)
theorem dv_l_made {f : Addr} {cdv : Value} {A : Around} {outer : List Env} {s : Shared} {H : Hp} {E : XK} (T : Tx K mg) (hr : Room 2 (A.deeper (envOfC "_law_made" (defScope st_l_made) s.heap.objs.size f cdv))) : PSs (cxOf CX0 PP w K mg base N_l_made "_law_made" (defScope st_l_made) f cdv A outer s H E).nox (defBody st_l_made) (rd_l_made K) := by
  exact pss_cons (ps_par (by rfl) sc_l_made.nd rfl rfl (by decide) rfl rfl (pa_cons (pe_lst (pa_cons (pe_int) (pa_nil))) (pa_cons (pe_lst (pa_nil)) (pa_nil))) (by rfl)) (pss_cons (ps_for PassesOwn.never rfl (pi_range1 (by rfl) T.n_range (pa_cons (FW.pe_f (ok_l_draw T) hr (by decide) (by rfl) (pa_cons (pv 0) (pa_cons (pe_int) (pa_nil)))) (pa_nil))) (pg_name (i := 3) sc_l_made.nd rfl (Or.inl rfl)) (pss_cons (ps_set (i := 4) sc_l_made.nd rfl (Or.inr rfl) (pe_op FW.opSub (FW.pe_f (ok_l_draw T) hr (by decide) (by rfl) (pa_cons (pv 0) (pa_cons (pe_int) (pa_nil)))) (pe_int))) (pss_cons (ps_set (i := 5) sc_l_made.nd rfl (Or.inr rfl) (pe_op op_cat (pe_lst (pa_cons (pe_int) (pa_nil))) (pv 1))) (pss_cons (ps_setLc (i := 1) (own := [("_law_j", 6), ("_law_x", 7)]) (g := gTup K 2 (gCons (gName 6) (gCons (gName 7) (gNil)))) (tt := tYes) rfl sc_l_made.nd rfl rfl (sw_true rfl rfl rfl (by decide +kernel)) (pi_enum (by rfl) T.n_enumerate (pa_cons (pe_op op_cat (pv 1) (pe_lst (pa_cons (pe_int) (pa_nil)))) (pa_nil))) (blkOk_by (own := [("_law_j", 6), ("_law_x", 7)]) (N := N_l_made) (sc := defScope st_l_made) (by decide +kernel)) (fun _ _ _ _ _ => pg_tup rfl (pgs_cons (pg_name (i := 6) sc_l_made.nd rfl (Or.inl rfl)) (pgs_cons (pg_name (i := 7) sc_l_made.nd rfl (Or.inl rfl)) (pgs_nil)))) (fun _ _ _ _ _ => pts_nil) (fun _ _ _ _ _ => pe_op FW.opSub (pe_ix ix_list (pv 5) (pv 6) (fun _ _ => rfl)) (pe_op FW.opMul (pv 4) (pv 7)))) (pss_one (ps_expr (pe_bm PySem.F.plainAttrs_list PySem.F.slot_list_append PySem.F.type_list_append mt_append (pv 2) (pa_cons (pv 4) (pa_nil))))))))) (pss_cons (ps_set (i := 8) sc_l_made.nd rfl (Or.inr rfl) (FW.pe_f (ok_l_pick T) hr (by decide) (by rfl) (pa_cons (pv 0) (pa_cons (pe_lst (pa_cons (pe_int) (pa_cons (pe_un un_neg (pe_int)) (pa_cons (pe_int) (pa_cons (pe_un un_neg (pe_int)) (pa_nil)))))) (pa_nil))))) (pss_cons (ps_setLc (i := 1) (own := [("_law_x", 7)]) (g := gName 7) (tt := tYes) rfl sc_l_made.nd rfl rfl (sw_true rfl rfl rfl (by decide +kernel)) (pi_list (pv 1)) (blkOk_by (own := [("_law_x", 7)]) (N := N_l_made) (sc := defScope st_l_made) (by decide +kernel)) (fun _ _ _ _ _ => pg_name (i := 7) sc_l_made.nd rfl (Or.inl rfl)) (fun _ _ _ _ _ => pts_nil) (fun _ _ _ _ _ => pe_op FW.opMul (pv 8) (pv 7))) (pss_cons (ps_asg (pe_op FW.opAdd (pe_ix ix_list (pv 1) (pe_int) (fun _ _ => rfl)) (FW.pe_f (ok_l_pick T) hr (by decide) (by rfl) (pa_cons (pv 0) (pa_cons (pe_lst (pa_cons (pe_int) (pa_cons (pe_int) (pa_cons (pe_int) (pa_cons (pe_int) (pa_cons (pe_un un_neg (pe_int)) (pa_nil))))))) (pa_nil))))) (pg_sub (pv 1) (pe_int) set_list)) (pss_one (ps_ret (pe_tup (pa_cons (pe_callTy call_tuple_of (by rfl) T.n_tuple (by decide +kernel) (pa_cons (pv 1) (pa_nil))) (pa_cons (pe_op op_cat (pv 2) (pe_lst (pa_cons (pe_int) (pa_nil)))) (pa_nil))))))))))
theorem ok_l_made (T : Tx K mg) : Fn PP w K mg base CX0 3 "_law_made" (sp_l_made K) [] :=
  Fn.mk0 T.d_l_made T.g__law_made sc_l_made (fun _ _ _ _ _ _ us hl => match us, hl with | [_], _ => rfl) (by walk_at "ln") (fun cdv A outer s H vs Q E hr h => ⟨rd_l_made K, dv_l_made T hr, pure_l_made K vs H Q E h⟩)
theorem dv_l_sign {f : Addr} {cdv : Value} {A : Around} {outer : List Env} {s : Shared} {H : Hp} {E : XK} (T : Tx K mg) (hr : Room 2 (A.deeper (envOfC "_law_sign" (defScope st_l_sign) s.heap.objs.size f cdv))) : PSs (cxOf CX0 PP w K mg base N_l_sign "_law_sign" (defScope st_l_sign) f cdv A outer s H E).nox (defBody st_l_sign) (rd_l_sign K) := by
  exact pss_cons (ps_setLc (i := 2) (own := [("_law_x", 3)]) (g := gName 3) (tt := tTest (tOp rNe (tVar 3) (tC (.int 0)))) rfl sc_l_sign.nd rfl rfl (sw_true rfl rfl rfl (by decide +kernel)) (pi_tup (pv 0)) (blkOk_by (own := [("_law_x", 3)]) (N := N_l_sign) (sc := defScope st_l_sign) (by decide +kernel)) (fun _ _ _ _ _ => pg_name (i := 3) sc_l_sign.nd rfl (Or.inl rfl)) (fun _ _ _ _ _ => pts_one (pt_cmpR op_ne (pv 3) (pe_int) (nomark _))) (fun _ _ _ _ _ => pv 3)) (pss_cons (ps_if (pt_cmpR (op_eqD hr.units) (pv 2) (pe_lst (pa_nil)) (nomark _)) (pss_one (ps_ret (pe_int))) (pss_nil)) (pss_cons (ps_set (i := 4) sc_l_sign.nd rfl (Or.inl rfl) (pe_op FW.opAdd (pe_callB (cr_max rfl) (by rfl) T.n_max (by decide +kernel) (pa_cons (pe_lc (own := [("_law_x", 3)]) (g := gName 3) (tt := tYes) rfl sc_l_sign.nd (pi_tup (pv 0)) (blkOk_by (own := [("_law_x", 3)]) (N := N_l_sign) (sc := defScope st_l_sign) (by decide +kernel)) (fun _ _ _ _ _ => pg_name (i := 3) sc_l_sign.nd rfl (Or.inl rfl)) (fun _ _ _ _ _ => pts_nil) (fun _ _ _ _ _ => pe_callB call_abs (by rfl) T.n_abs (by decide +kernel) (pa_cons (pv 3) (pa_nil)))) (pa_nil))) (pe_int))) (pss_cons (ps_set (i := 5) sc_l_sign.nd rfl (Or.inl rfl) (pe_lst (pa_nil))) (pss_cons (ps_for PassesOwn.never rfl (pi_range2 (by rfl) T.n_range (pa_cons (pv 1) (pa_cons (pe_op FW.opAdd (pe_callB (call_max2 rfl) (by rfl) T.n_max (by decide +kernel) (pa_cons (pv 1) (pa_cons (pv 4) (pa_nil)))) (pe_int)) (pa_nil)))) (pg_name (i := 6) sc_l_sign.nd rfl (Or.inl rfl)) (pss_cons (ps_set (i := 3) sc_l_sign.nd rfl (Or.inl rfl) (FW.pe_f (ok_l_at T) hr (by decide) (by rfl) (pa_cons (pv 0) (pa_cons (pv 6) (pa_nil))))) (pss_one (ps_expr (pe_bm PySem.F.plainAttrs_list PySem.F.slot_list_append PySem.F.type_list_append mt_append (pv 5) (pa_cons (pe_op FW.opSub (pe_callTy call_int1 (by rfl) T.n_int (by decide +kernel) (pa_cons (pe_cmpR op_gt (pv 3) (pe_int) (nomark _)) (pa_nil))) (pe_callTy call_int1 (by rfl) T.n_int (by decide +kernel) (pa_cons (pe_cmpR op_lt (pv 3) (pe_int) (nomark _)) (pa_nil)))) (pa_nil))))))) (pss_one (ps_ret (pe_ifExp (PW.pt (pw_and (pt_cmpR op_ne (pe_ix ix_list (pv 5) (pe_int) (fun _ _ => rfl)) (pe_int) (nomark _)) (pw_and1 (pt_cmpR (op_eqD hr.units) (pv 5) (pe_op op_rep (pe_lst (pa_cons (pe_ix ix_list (pv 5) (pe_int) (fun _ _ => rfl)) (pa_nil))) (pe_callB call_len_seq (by rfl) T.n_len (by decide +kernel) (pa_cons (pv 5) (pa_nil)))) (nomark _))))) (pe_ix ix_list (pv 5) (pe_int) (fun _ _ => rfl)) (pe_non))))))))
theorem ok_l_sign (T : Tx K mg) : Fn PP w K mg base CX0 3 "_law_sign" (sp_l_sign K) [] :=
  Fn.mk0 T.d_l_sign T.g__law_sign sc_l_sign (fun _ _ _ _ _ _ us hl => match us, hl with | [_, _], _ => rfl) (by walk_at "ln") (fun cdv A outer s H vs Q E hr h => ⟨rd_l_sign K, dv_l_sign T hr, pure_l_sign K vs H Q E h⟩)
theorem dv_changes {f : Addr} {cdv : Value} {A : Around} {outer : List Env} {s : Shared} {H : Hp} {E : XK} {R : Sp} {m j : Nat} (T : Tx K mg) (ih : Fn PP w K mg base CX0 m "changes" R []) (hm : m ≤ j) (hj : 3 ≤ j) (hr : Room j (A.deeper (envOfC "changes" (defScope st_changes) s.heap.objs.size f cdv))) : PSs (cxOf CX0 PP w K mg base N_changes "changes" (defScope st_changes) f cdv A outer s H E).nox (defBody st_changes) (rd_changes K R) := by
  exact pss_cons (ps_if (pt_cmpR op_lt (pe_callB call_len_seq (by rfl) T.n_len (by decide +kernel) (pa_cons (pv 0) (pa_nil))) (pe_int) (nomark _)) (pss_one (ps_ret (pe_lst (pa_nil)))) (pss_nil)) (pss_cons (ps_set (i := 2) sc_changes.nd rfl (Or.inr rfl) (pe_op FW.opAdd (pe_callB (call_max2 rfl) (by rfl) T.n_max (by decide +kernel) (pa_cons (pv 1) (pa_cons (FW.pe_f (ok_settled T) hr (by omega) (by rfl) (pa_cons (pv 0) (pa_nil))) (pa_nil)))) (pe_int))) (pss_cons (ps_set (i := 3) sc_changes.nd rfl (Or.inl rfl) (FW.pe_f ih hr hm (by rfl) (pa_cons (FW.pe_f (ok_poly_less T) hr (by omega) (by rfl) (pa_cons (FW.pe_f (ok_poly_shift T) hr (by omega) (by rfl) (pa_cons (pv 0) (pa_cons (pe_int) (pa_nil)))) (pa_cons (pv 0) (pa_nil)))) (pa_cons (pv 1) (pa_nil))))) (pss_cons (ps_set (i := 4) sc_changes.nd rfl (Or.inl rfl) (pe_op op_cat (pe_op op_cat (pe_lst (pa_cons (pv 1) (pa_nil))) (pe_lc (own := [("r", 5)]) (g := gName 5) (tt := tTest (tOp FW.rLt (tVar 5) (tVar 2))) rfl sc_changes.nd (pi_list (pv 3)) (blkOk_by (own := [("r", 5)]) (N := N_changes) (sc := defScope st_changes) (by decide +kernel)) (fun _ _ _ _ _ => pg_name (i := 5) sc_changes.nd rfl (Or.inl rfl)) (fun _ _ _ _ _ => pts_one (pt_cmpR op_lt (pv 5) (pv 2) (nomark _))) (fun _ _ _ _ _ => pv 5))) (pe_lst (pa_cons (pv 2) (pa_nil))))) (pss_cons (ps_set (i := 6) sc_changes.nd rfl (Or.inl rfl) (pe_lst (pa_nil))) (pss_cons (ps_for PassesOwn.never rfl (pi_zip (by rfl) T.n_zip (pa_cons (pv 4) (pa_cons (pe_slice sl_list (pv 4) (po_some (pe_int)) (po_none)) (pa_nil)))) (pg_tup rfl (pgs_cons (pg_name (i := 7) sc_changes.nd rfl (Or.inl rfl)) (pgs_cons (pg_name (i := 8) sc_changes.nd rfl (Or.inl rfl)) (pgs_nil)))) (pss_one (ps_while PassesOwn.never (pt_cmpR op_ne (FW.pe_f (ok_sign T) hr (by omega) (by rfl) (pa_cons (FW.pe_f (ok_poly_value T) hr (by omega) (by rfl) (pa_cons (pv 0) (pa_cons (pv 7) (pa_nil)))) (pa_nil))) (FW.pe_f (ok_sign T) hr (by omega) (by rfl) (pa_cons (FW.pe_f (ok_poly_value T) hr (by omega) (by rfl) (pa_cons (pv 0) (pa_cons (pv 8) (pa_nil)))) (pa_nil))) (nomark _)) (pss_cons (ps_set (i := 7) sc_changes.nd rfl (Or.inl rfl) (FW.pe_f (ok_next_change T) hr (by omega) (by rfl) (pa_cons (pv 0) (pa_cons (pv 7) (pa_cons (pv 8) (pa_nil)))))) (pss_one (ps_expr (pe_bm PySem.F.plainAttrs_list PySem.F.slot_list_append PySem.F.type_list_append mt_append (pv 6) (pa_cons (pv 7) (pa_nil))))))))) (pss_one (ps_ret (pv 6))))))))
theorem ok_changes_no (T : Tx K mg) : Fn PP w K mg base CX0 1 "changes" (fun _ _ _ _ => False) [] :=
  Fn.mk0 T.d_changes T.g_changes sc_changes (fun _ _ _ _ _ _ us hl => match us, hl with | [_, _], _ => rfl) (fun _ _ _ _ h => h.elim) (fun _ _ _ _ _ _ _ _ _ h => h.elim)
theorem ok_changes (T : Tx K mg) : ∀ n : Nat, Fn PP w K mg base CX0 (4 + n) "changes" (sp_changes K n) []
  | 0 => Fn.mk0 T.d_changes T.g_changes sc_changes (fun _ _ _ _ _ _ us hl => match us, hl with | [_, _], _ => rfl) (by walk_at "ln") (fun cdv A outer s H vs Q E hr h => ⟨rd_changes K _, dv_changes T (ok_changes_no T) (by omega) (by omega) hr, pure_changes0 K vs H Q E h⟩)
  | n + 1 => Fn.mk0 (k := 4 + n) T.d_changes T.g_changes sc_changes (fun _ _ _ _ _ _ us hl => match us, hl with | [_, _], _ => rfl) (by walk_at "ln") (fun cdv A outer s H vs Q E hr h => ⟨rd_changes K _, dv_changes T (ok_changes T n) (by omega) (by omega) hr, pure_changesS K n vs H Q E h⟩)
theorem dv_sign_from {f : Addr} {cdv : Value} {A : Around} {outer : List Env} {s : Shared} {H : Hp} {E : XK} (T : Tx K mg) (hr : Room 11 (A.deeper (envOfC "sign_from" (defScope st_sign_from) s.heap.objs.size f cdv))) : PSs (cxOf CX0 PP w K mg base N_sign_from "sign_from" (defScope st_sign_from) f cdv A outer s H E).nox (defBody st_sign_from) (rd_sign_from K) := by
  exact pss_cons (ps_set (i := 0) sc_sign_from.nd rfl (Or.inl rfl) (FW.pe_f (ok_trimmed T) hr (by decide) (by rfl) (pa_cons (pv 0) (pa_nil)))) (pss_cons (ps_if (pt_cmpR (op_eqD hr.units) (pv 0) (pe_tup (pa_nil)) (nomark _)) (pss_one (ps_ret (pe_int))) (pss_nil)) (pss_cons (ps_if (pt_cmpR (op_neD hr.units) (FW.pe_f (ok_changes T 7) hr (by decide) (by rfl) (pa_cons (pv 0) (pa_cons (pv 1) (pa_nil)))) (pe_lst (pa_nil)) (nomark _)) (pss_one (ps_ret (pe_non))) (pss_nil)) (pss_one (ps_ret (FW.pe_f (ok_sign T) hr (by decide) (by rfl) (pa_cons (FW.pe_f (ok_poly_value T) hr (by decide) (by rfl) (pa_cons (pv 0) (pa_cons (pv 1) (pa_nil)))) (pa_nil)))))))
theorem ok_sign_from (T : Tx K mg) : Fn PP w K mg base CX0 12 "sign_from" (sp_sign_from K) [] :=
  Fn.mk0 T.d_sign_from T.g_sign_from sc_sign_from (fun _ _ _ _ _ _ us hl => match us, hl with | [_, _], _ => rfl) (by walk_at "ln") (fun cdv A outer s H vs Q E hr h => ⟨rd_sign_from K, dv_sign_from T hr, pure_sign_from K vs H Q E h⟩)
theorem dv_l_great_right {f : Addr} {cdv : Value} {A : Around} {outer : List Env} {s : Shared} {H : Hp} {E : XK} (T : Tx K mg) (hr : Room 12 (A.deeper (envOfC "_law_great_right" (defScope st_l_great_right) s.heap.objs.size f cdv))) : PSs (cxOf CX0 PP w K mg base N_l_great_right "_law_great_right" (defScope st_l_great_right) f cdv A outer s H E).nox (defBody st_l_great_right) (rd_l_great_right K) := by
  exact pss_cons (ps_set (i := 1) sc_l_great_right.nd rfl (Or.inl rfl) (pe_op FW.opAdd (pe_int) (FW.pe_f (ok_l_draw T) hr (by decide) (by rfl) (pa_cons (pv 0) (pa_cons (pe_int) (pa_nil)))))) (pss_cons (ps_set (i := 2) sc_l_great_right.nd rfl (Or.inr rfl) (pe_ix ix_list (pe_lst (pa_cons (pe_op FW.opPow (pe_int) (pe_int)) (pa_cons (pe_op FW.opPow (pe_int) (pe_int)) (pa_cons (pe_op FW.opPow (pe_int) (pe_int)) (pa_cons (pe_op FW.opPow (pe_int) (pe_int)) (pa_cons (pe_op FW.opPow (pe_int) (pe_int)) (pa_nil))))))) (pe_op FW.opSub (pv 1) (pe_int)) (fun _ _ => rfl))) (pss_cons (ps_setLc (i := 3) (own := [("_law_k", 4)]) (g := gName 4) (tt := tYes) rfl sc_l_great_right.nd rfl rfl (sw_true rfl rfl rfl (by decide +kernel)) (pi_range1 (by rfl) T.n_range (pa_cons (pv 1) (pa_nil))) (blkOk_by (own := [("_law_k", 4)]) (N := N_l_great_right) (sc := defScope st_l_great_right) (by decide +kernel)) (fun _ _ _ _ _ => pg_name (i := 4) sc_l_great_right.nd rfl (Or.inl rfl)) (fun _ _ _ _ _ => pts_nil) (fun _ _ _ _ _ => FW.pe_f (ok_l_draw T) hr (by decide) (by rfl) (pa_cons (pv 0) (pa_cons (pv 2) (pa_nil))))) (pss_cons (ps_asg (pe_tup (pa_cons (pe_lst (pa_cons (pe_int) (pa_nil))) (pa_cons (FW.pe_f (ok_l_pick T) hr (by decide) (by rfl) (pa_cons (pv 0) (pa_cons (pe_lst (pa_cons (pe_int) (pa_cons (pe_un un_neg (pe_int)) (pa_nil)))) (pa_nil)))) (pa_nil)))) (pg_tup rfl (pgs_cons (pg_name (i := 5) sc_l_great_right.nd rfl (Or.inl rfl)) (pgs_cons (pg_name (i := 6) sc_l_great_right.nd rfl (Or.inr rfl)) (pgs_nil))))) (pss_cons (ps_for PassesOwn.never rfl (pi_list (pv 3)) (pg_name (i := 7) sc_l_great_right.nd rfl (Or.inr rfl)) (pss_cons (ps_set (i := 8) sc_l_great_right.nd rfl (Or.inr rfl) (pe_op op_cat (pe_lst (pa_cons (pe_int) (pa_nil))) (pv 5))) (pss_one (ps_setLc (i := 5) (own := [("_law_j", 9), ("_law_x", 10)]) (g := gTup K 2 (gCons (gName 9) (gCons (gName 10) (gNil)))) (tt := tYes) rfl sc_l_great_right.nd rfl rfl (sw_true rfl rfl rfl (by decide +kernel)) (pi_enum (by rfl) T.n_enumerate (pa_cons (pe_op op_cat (pv 5) (pe_lst (pa_cons (pe_int) (pa_nil)))) (pa_nil))) (blkOk_by (own := [("_law_j", 9), ("_law_x", 10)]) (N := N_l_great_right) (sc := defScope st_l_great_right) (by decide +kernel)) (fun _ _ _ _ _ => pg_tup rfl (pgs_cons (pg_name (i := 9) sc_l_great_right.nd rfl (Or.inl rfl)) (pgs_cons (pg_name (i := 10) sc_l_great_right.nd rfl (Or.inl rfl)) (pgs_nil)))) (fun _ _ _ _ _ => pts_nil) (fun _ _ _ _ _ => pe_op FW.opSub (pe_ix ix_list (pv 8) (pv 9) (fun _ _ => rfl)) (pe_op FW.opMul (pv 7) (pv 10))))))) (pss_cons (ps_set (i := 11) sc_l_great_right.nd rfl (Or.inl rfl) (pe_callTy call_tuple_of (by rfl) T.n_tuple (by decide +kernel) (pa_cons (pe_lc (own := [("_law_x", 10)]) (g := gName 10) (tt := tYes) rfl sc_l_great_right.nd (pi_list (pv 5)) (blkOk_by (own := [("_law_x", 10)]) (N := N_l_great_right) (sc := defScope st_l_great_right) (by decide +kernel)) (fun _ _ _ _ _ => pg_name (i := 10) sc_l_great_right.nd rfl (Or.inl rfl)) (fun _ _ _ _ _ => pts_nil) (fun _ _ _ _ _ => pe_op FW.opMul (pv 6) (pv 10))) (pa_nil)))) (pss_cons (ps_set (i := 12) sc_l_great_right.nd rfl (Or.inl rfl) (pe_callB (cr_max rfl) (by rfl) T.n_max (by decide +kernel) (pa_cons (pv 3) (pa_nil)))) (pss_cons (ps_if (PW.pt (pw_or (pt_cmpR op_ne (FW.pe_f (ok_sign_from T) hr (by decide) (by rfl) (pa_cons (pv 11) (pa_cons (pe_op FW.opAdd (pv 12) (pe_int)) (pa_nil)))) (pv 6) (nomark _)) (pw_or1 (pt_cmpR op_ne (FW.pe_f (ok_sign_from T) hr (by decide) (by rfl) (pa_cons (pv 11) (pa_cons (pe_op FW.opAdd (pv 12) (pe_op FW.opPow (pe_int) (pe_int))) (pa_nil)))) (pv 6) (nomark _))))) (pss_one (ps_ret (pe_bl))) (pss_nil)) (pss_cons (ps_set (i := 13) sc_l_great_right.nd rfl (Or.inl rfl) (pe_callB (cr_min rfl) (by rfl) T.n_min (by decide +kernel) (pa_cons (pv 3) (pa_nil)))) (pss_cons (ps_set (i := 14) sc_l_great_right.nd rfl (Or.inl rfl) (pe_ifExp (pt_cmpR op_eq (pe_op FW.opMod (pe_callB call_len_seq (by rfl) T.n_len (by decide +kernel) (pa_cons (pv 3) (pa_nil))) (pe_int)) (pe_int) (nomark _)) (pv 6) (pe_un un_neg (pv 6)))) (pss_cons (ps_set (i := 15) sc_l_great_right.nd rfl (Or.inl rfl) (FW.pe_f (ok_sign_from T) hr (by decide) (by rfl) (pa_cons (pe_callTy call_list_of (by rfl) T.n_list (by decide +kernel) (pa_cons (pv 11) (pa_nil))) (pa_cons (pe_op FW.opSub (pv 13) (pe_int)) (pa_nil))))) (pss_cons (ps_if (PW.pt (pw_or (pt_cmpR op_notN (FW.pe_f (ok_sign_from T) hr (by decide) (by rfl) (pa_cons (pv 11) (pa_cons (pv 12) (pa_nil)))) (pe_non) (nomark _)) (pw_or1 (pt_cmpR op_notN (pv 15) (pe_non) (nomark _))))) (pss_one (ps_ret (pe_bl))) (pss_nil)) (pss_cons (ps_if (pt_cmpR op_ne (FW.pe_f (ok_sign_from T) hr (by decide) (by rfl) (pa_cons (pv 11) (pa_cons (pe_op FW.opAdd (pv 13) (pe_int)) (pa_nil)))) (pe_ifExp (pt_cmpR op_eq (pv 12) (pv 13) (nomark _)) (pv 6) (pe_non)) (nomark _)) (pss_one (ps_ret (pe_bl))) (pss_nil)) (pss_one (ps_ret (pe_cmpR op_gt (pe_op FW.opMul (FW.pe_f (ok_l_at T) hr (by decide) (by rfl) (pa_cons (pv 11) (pa_cons (pe_op FW.opSub (pv 13) (pe_int)) (pa_nil)))) (pv 14)) (pe_int) (nomark _))))))))))))))))
theorem ok_l_great_right (T : Tx K mg) : Fn PP w K mg base CX0 13 "_law_great_right" (sp_l_great_right K) [] :=
  Fn.mk0 T.d_l_great_right T.g__law_great_right sc_l_great_right (fun _ _ _ _ _ _ us hl => match us, hl with | [_], _ => rfl) (by walk_at "ln") (fun cdv A outer s H vs Q E hr h => ⟨rd_l_great_right K, dv_l_great_right T hr, pure_l_great_right K vs H Q E h⟩)
theorem dv_law {f : Addr} {cdv : Value} {A : Around} {outer : List Env} {s : Shared} {H : Hp} {E : XK} (T : Tx K mg) (hr : Room 13 (A.deeper (envOfC "law" (defScope st_law) s.heap.objs.size f cdv))) : PSs (cxOf CX0 PP w K mg base N_law "law" (defScope st_law) f cdv A outer s H E).nox (defBody st_law) (rd_law K) := by
  exact pss_cons (ps_for PassesOwn.never rfl (pi_range1 (by rfl) T.n_range (pa_cons (pe_int) (pa_nil))) (pg_name (i := 1) sc_law.nd rfl (Or.inl rfl)) (pss_cons (ps_set (i := 2) sc_law.nd rfl (Or.inl rfl) (FW.pe_f (ok_l_stream T) hr (by decide) (by rfl) (pa_cons (pv 0) (pa_cons (pv 1) (pa_nil))))) (pss_cons (ps_asg (FW.pe_f (ok_l_made T) hr (by decide) (by rfl) (pa_cons (pv 2) (pa_nil))) (pg_tup rfl (pgs_cons (pg_name (i := 3) sc_law.nd rfl (Or.inl rfl)) (pgs_cons (pg_name (i := 4) sc_law.nd rfl (Or.inl rfl)) (pgs_nil))))) (pss_cons (ps_if (pt_cmpR op_eq (FW.pe_f (ok_l_draw T) hr (by decide) (by rfl) (pa_cons (pv 2) (pa_cons (pe_int) (pa_nil)))) (pe_int) (nomark _)) (pss_one (ps_par (by rfl) sc_law.nd rfl rfl (by decide) rfl rfl (pa_cons (FW.pe_f (ok_l_poly T) hr (by decide) (by rfl) (pa_cons (pv 2) (pa_cons (pe_int) (pa_cons (pe_int) (pa_nil))))) (pa_cons (pe_lst (pa_cons (pe_int) (pa_cons (pe_int) (pa_nil)))) (pa_nil))) (by rfl))) (pss_nil)) (pss_cons (ps_set (i := 5) sc_law.nd rfl (Or.inl rfl) (pe_callB (cr_max rfl) (by rfl) T.n_max (by decide +kernel) (pa_cons (pv 4) (pa_nil)))) (pss_cons (ps_for PassesOwn.never rfl (pi_list (pe_lst (pa_cons (pv 5) (pa_cons (pe_op FW.opAdd (pv 5) (pe_int)) (pa_cons (pe_op FW.opSub (pv 5) (pe_int)) (pa_cons (pe_op FW.opSub (FW.pe_f (ok_l_draw T) hr (by decide) (by rfl) (pa_cons (pv 2) (pa_cons (pe_int) (pa_nil)))) (pe_int)) (pa_cons (pe_int) (pa_cons (pe_un un_neg (pe_int)) (pa_nil))))))))) (pg_name (i := 6) sc_law.nd rfl (Or.inl rfl)) (pss_cons (ps_if (pt_cmpR op_ne (FW.pe_f (ok_sign_from T) hr (by decide) (by rfl) (pa_cons (pv 3) (pa_cons (pv 6) (pa_nil)))) (FW.pe_f (ok_l_sign T) hr (by decide) (by rfl) (pa_cons (pv 3) (pa_cons (pv 6) (pa_nil)))) (nomark _)) (pss_one (ps_ret (pe_bl))) (pss_nil)) (pss_one (ps_if (pt_cmpR op_ne (FW.pe_f (ok_sign_from T) hr (by decide) (by rfl) (pa_cons (pe_op op_cat (pe_callTy call_list_of (by rfl) T.n_list (by decide +kernel) (pa_cons (pe_slice sl_tupA (pv 3) (po_none) (po_some (pe_int))) (pa_nil))) (pe_lst (pa_cons (pe_int) (pa_nil)))) (pa_cons (pv 6) (pa_nil)))) (FW.pe_f (ok_l_sign T) hr (by decide) (by rfl) (pa_cons (pe_slice sl_tupA (pv 3) (po_none) (po_some (pe_int))) (pa_cons (pv 6) (pa_nil)))) (nomark _)) (pss_one (ps_ret (pe_bl))) (pss_nil))))) (pss_one (ps_if (pt_not (pt_val (FW.pe_f (ok_l_great_right T) hr (by decide) (by rfl) (pa_cons (pv 2) (pa_nil))))) (pss_one (ps_ret (pe_bl))) (pss_nil))))))))) (pss_one (ps_ret (pe_and (pe_cmpR op_eq (FW.pe_f (ok_sign_from T) hr (by decide) (by rfl) (pa_cons (pe_tup (pa_nil)) (pa_cons (pe_int) (pa_nil)))) (pe_int) (nomark _)) (pe_and (pe_cmpR op_eq (FW.pe_f (ok_sign_from T) hr (by decide) (by rfl) (pa_cons (pe_tup (pa_cons (pe_int) (pa_cons (pe_int) (pa_nil)))) (pa_cons (pe_un un_neg (pe_int)) (pa_nil)))) (pe_int) (nomark _)) (pe_one (pe_cmpR op_eq (FW.pe_f (ok_sign_from T) hr (by decide) (by rfl) (pa_cons (pe_tup (pa_cons (pe_un un_neg (pe_int)) (pa_cons (pe_int) (pa_nil)))) (pa_cons (pe_int) (pa_nil)))) (pe_int) (nomark _)))))))
theorem ok_law (T : Tx K mg) : Fn PP w K mg base CX0 14 "law" (sp_law K) [] :=
  Fn.mk0 T.d_law T.g_law sc_law (fun _ _ _ _ _ _ us hl => match us, hl with | [_], _ => rfl) (by walk_at "ln") (fun cdv A outer s H vs Q E hr h => ⟨rd_law K, dv_law T hr, pure_law K vs H Q E h⟩)
end
/-! ### the head -/
def fn : List He.DefD := [⟨("trimmed", none), "trimmed", "trimmed", defArgs st_trimmed, defBody st_trimmed, defScope st_trimmed, [], []⟩,
  ⟨("poly_value", none), "poly_value", "poly_value", defArgs st_poly_value, defBody st_poly_value, defScope st_poly_value, [], []⟩,
  ⟨("poly_sum", none), "poly_sum", "poly_sum", defArgs st_poly_sum, defBody st_poly_sum, defScope st_poly_sum, [], []⟩,
  ⟨("poly_product", none), "poly_product", "poly_product", defArgs st_poly_product, defBody st_poly_product, defScope st_poly_product, [], []⟩,
  ⟨("poly_less", none), "poly_less", "poly_less", defArgs st_poly_less, defBody st_poly_less, defScope st_poly_less, [], []⟩,
  ⟨("poly_shift", none), "poly_shift", "poly_shift", defArgs st_poly_shift, defBody st_poly_shift, defScope st_poly_shift, [], []⟩,
  ⟨("sign", none), "sign", "sign", defArgs st_sign, defBody st_sign, defScope st_sign, [], []⟩,
  ⟨("settled", none), "settled", "settled", defArgs st_settled, defBody st_settled, defScope st_settled, [], []⟩,
  ⟨("next_change", none), "next_change", "next_change", defArgs st_next_change, defBody st_next_change, defScope st_next_change, [], []⟩,
  ⟨("changes", none), "changes", "changes", defArgs st_changes, defBody st_changes, defScope st_changes, [], []⟩,
  ⟨("sign_from", none), "sign_from", "sign_from", defArgs st_sign_from, defBody st_sign_from, defScope st_sign_from, [], []⟩,
  ⟨("_law_stream", none), "_law_stream", "_law_stream", defArgs st_l_stream, defBody st_l_stream, defScope st_l_stream, [], []⟩,
  ⟨("_law_draw", none), "_law_draw", "_law_draw", defArgs st_l_draw, defBody st_l_draw, defScope st_l_draw, [], []⟩,
  ⟨("_law_pick", none), "_law_pick", "_law_pick", defArgs st_l_pick, defBody st_l_pick, defScope st_l_pick, [], []⟩,
  ⟨("_law_power", none), "_law_power", "_law_power", defArgs st_l_power, defBody st_l_power, defScope st_l_power, [], []⟩,
  ⟨("_law_poly", none), "_law_poly", "_law_poly", defArgs st_l_poly, defBody st_l_poly, defScope st_l_poly, [], []⟩,
  ⟨("_law_at", none), "_law_at", "_law_at", defArgs st_l_at, defBody st_l_at, defScope st_l_at, [], []⟩,
  ⟨("_law_made", none), "_law_made", "_law_made", defArgs st_l_made, defBody st_l_made, defScope st_l_made, [], []⟩,
  ⟨("_law_sign", none), "_law_sign", "_law_sign", defArgs st_l_sign, defBody st_l_sign, defScope st_l_sign, [], []⟩,
  ⟨("_law_great_right", none), "_law_great_right", "_law_great_right", defArgs st_l_great_right, defBody st_l_great_right, defScope st_l_great_right, [], []⟩,
  ⟨("law", none), "law", "law", defArgs st_law, defBody st_law, defScope st_law, [], []⟩]
def fa : List He.Fa := [.free "abs", .free "enumerate", .free "int", .free "len", .free "list", .free "max", .free "min", .free "range", .free "sum", .free "tuple", .free "zip", .glo "trimmed", .glo "poly_value", .glo "poly_sum", .glo "poly_product", .glo "poly_less", .glo "poly_shift", .glo "sign", .glo "settled", .glo "next_change", .glo "changes", .glo "sign_from", .glo "_law_stream", .glo "_law_draw", .glo "_law_pick", .glo "_law_power", .glo "_law_poly", .glo "_law_at", .glo "_law_made", .glo "_law_sign", .glo "_law_great_right", .glo "law"]
def ex (K : PySem.W.Frag) : Bool := ([] : List Bool).all id
abbrev R : PySem.W.OpenRow := PySem.W.OpenLaw.row PySem.Challenge.rw_floorward_k03_signs_from_on
def er : List FW.ErrD := []
abbrev hk : PySem.W.Hook := FW.hookY 6 fa fn ex er
def ob (s : PySem.W.SharedT) : FW.AlY := FW.obsYG 6 fa fn ex er (HandSHeadRun.getT s)
theorem ob_eq (s : PySem.W.SharedT) : ob s = hk.obs s.abs := FW.obsYG_eq (HandSHeadRun.getT_eq s)
def loose0 : List Str := ["trimmed", "poly_value", "poly_sum", "poly_product", "poly_less", "poly_shift", "sign", "settled", "next_change", "changes", "sign_from", "_law_stream", "_law_draw", "_law_pick", "_law_power", "_law_poly", "_law_at", "_law_made", "_law_sign", "_law_great_right"]
def loose : List Str := loose0
theorem run (w : World) : HandSHeadRun.RunEq R (PySem.W.view R.prog [22]) hk ob 30000 loose w := by
  intro os
  kernel_rfl
theorem tx_of {K : PySem.W.Frag} {h : Heap} {mg : Str → Option Value} (X : K.In h) (G : h.Ns mainGlobals mg) (c : He.SaysD fa fn K) (cx : ex K = true) (ce : er.map (fun d => fnE K d.x) = er.map ErrD.val) : Tx K mg := by
  exact {
    n_abs := He.free_ok X G (c.fact 0 (f := .free "abs") rfl),
    n_enumerate := He.free_ok X G (c.fact 1 (f := .free "enumerate") rfl),
    n_int := He.free_ok X G (c.fact 2 (f := .free "int") rfl),
    n_len := He.free_ok X G (c.fact 3 (f := .free "len") rfl),
    n_list := He.free_ok X G (c.fact 4 (f := .free "list") rfl),
    n_max := He.free_ok X G (c.fact 5 (f := .free "max") rfl),
    n_min := He.free_ok X G (c.fact 6 (f := .free "min") rfl),
    n_range := He.free_ok X G (c.fact 7 (f := .free "range") rfl),
    n_sum := He.free_ok X G (c.fact 8 (f := .free "sum") rfl),
    n_tuple := He.free_ok X G (c.fact 9 (f := .free "tuple") rfl),
    n_zip := He.free_ok X G (c.fact 10 (f := .free "zip") rfl),
    g_trimmed := He.glo_ok X G (c.fact 11 (f := .glo "trimmed") rfl),
    g_poly_value := He.glo_ok X G (c.fact 12 (f := .glo "poly_value") rfl),
    g_poly_sum := He.glo_ok X G (c.fact 13 (f := .glo "poly_sum") rfl),
    g_poly_product := He.glo_ok X G (c.fact 14 (f := .glo "poly_product") rfl),
    g_poly_less := He.glo_ok X G (c.fact 15 (f := .glo "poly_less") rfl),
    g_poly_shift := He.glo_ok X G (c.fact 16 (f := .glo "poly_shift") rfl),
    g_sign := He.glo_ok X G (c.fact 17 (f := .glo "sign") rfl),
    g_settled := He.glo_ok X G (c.fact 18 (f := .glo "settled") rfl),
    g_next_change := He.glo_ok X G (c.fact 19 (f := .glo "next_change") rfl),
    g_changes := He.glo_ok X G (c.fact 20 (f := .glo "changes") rfl),
    g_sign_from := He.glo_ok X G (c.fact 21 (f := .glo "sign_from") rfl),
    g__law_stream := He.glo_ok X G (c.fact 22 (f := .glo "_law_stream") rfl),
    g__law_draw := He.glo_ok X G (c.fact 23 (f := .glo "_law_draw") rfl),
    g__law_pick := He.glo_ok X G (c.fact 24 (f := .glo "_law_pick") rfl),
    g__law_power := He.glo_ok X G (c.fact 25 (f := .glo "_law_power") rfl),
    g__law_poly := He.glo_ok X G (c.fact 26 (f := .glo "_law_poly") rfl),
    g__law_at := He.glo_ok X G (c.fact 27 (f := .glo "_law_at") rfl),
    g__law_made := He.glo_ok X G (c.fact 28 (f := .glo "_law_made") rfl),
    g__law_sign := He.glo_ok X G (c.fact 29 (f := .glo "_law_sign") rfl),
    g__law_great_right := He.glo_ok X G (c.fact 30 (f := .glo "_law_great_right") rfl),
    g_law := He.glo_ok X G (c.fact 31 (f := .glo "law") rfl),
    d_trimmed := c.def_ 0 rfl,
    d_poly_value := c.def_ 1 rfl,
    d_poly_sum := c.def_ 2 rfl,
    d_poly_product := c.def_ 3 rfl,
    d_poly_less := c.def_ 4 rfl,
    d_poly_shift := c.def_ 5 rfl,
    d_sign := c.def_ 6 rfl,
    d_settled := c.def_ 7 rfl,
    d_next_change := c.def_ 8 rfl,
    d_changes := c.def_ 9 rfl,
    d_sign_from := c.def_ 10 rfl,
    d_l_stream := c.def_ 11 rfl,
    d_l_draw := c.def_ 12 rfl,
    d_l_pick := c.def_ 13 rfl,
    d_l_power := c.def_ 14 rfl,
    d_l_poly := c.def_ 15 rfl,
    d_l_at := c.def_ 16 rfl,
    d_l_made := c.def_ 17 rfl,
    d_l_sign := c.def_ 18 rfl,
    d_l_great_right := c.def_ 19 rfl,
    d_law := c.def_ 20 rfl }
theorem facts {w : World} {K : PySem.W.Frag} {h : Heap} {mg : Str → Option Value} {f : Addr} (X : K.In h) (G : h.Ns mainGlobals mg) (hfa : mg ("law" : Str) = some (.ref f)) (c : He.SaysD fa fn K) (cx : ex K = true) (ce : er.map (fun d => fnE K d.x) = er.map ErrD.val) :
    ∃ fd : FuncData, (∀ (s : Shared) (v : Value), BindsTo s fd ⟨[v], []⟩ [("_law_script", v)]) ∧ ∀ base : Heap, K.In base → base.Ns mainGlobals mg → FnOk PP w K mg base CX0 14 f fd ["_law_script"] (sp_law K) := by
  have T := tx_of X G c cx ce
  have e := hfa.symm.trans T.g_law
  cases e
  obtain ⟨fd, F⟩ := T.d_law
  have b := FunD.bindsA (ps := ["_law_script"]) F fun _ _ _ _ _ _ us hl => match us, hl with | [_], _ => rfl
  refine ⟨fd, fun s v => b s [v] rfl, fun base _ _ => ?_⟩
  refine F.ok sc_law (by walk_at "ln") fun cdv A outer s H vs Q E hr h => ?_
  exact ⟨rd_law K, (dv_law T hr).nox, pure_law K vs H Q E h⟩
end FWL
open PySem PySem.W PySem.Calls PyProof.Rows
theorem PySem.Challenge.cw_floorward_k03_signs_from_on_holds : PySem.Challenge.rw_floorward_k03_signs_from_on.Holds := by
  w_on; o_law
  refine HandSHeadRun.head_any (r := OpenLaw.row PySem.Challenge.rw_floorward_k03_signs_from_on) (q := view (OpenLaw.row PySem.Challenge.rw_floorward_k03_signs_from_on).prog [22]) (H := FWL.hk) (ob := FWL.ob) (M := 30000) (loose := FWL.loose) (d := HandSHeadRun.topDef (OpenLaw.row PySem.Challenge.rw_floorward_k03_signs_from_on).prog 22) (kwd := []) FWL.ob_eq
    (by kernel_rfl) (fun s => by kernel_rfl) FWL.run (by kernel_rfl) (by kernel_rfl) (by kernel_rfl) (by rfl) (by first | assumption | decide +kernel) (by decide +kernel) ⟨rfl, rfl, rfl, rfl, rfl, by decide +kernel⟩ ?hw ?hc
  case hw => w_witness2
  case hc =>
    refine L2.walk_ofE (l := PySem.Challenge.rw_floorward_k03_signs_from_on) (n := 63) (k := 14) (x := "_law_script") (CX := L2.CX0) rfl (by decide) (by kernel_rfl) ⟨rfl, by decide, by decide⟩ ?F (fun _ _ _ _ z => z)
    intro w mg fa h Y G hmg0
    obtain ⟨K, KX, c, cx, ce⟩ := Y
    have hmg : mg ("law" : PySem.Str) = some (.ref fa) := by
      have e : (HandSHeadRun.topDef (OpenLaw.row PySem.Challenge.rw_floorward_k03_signs_from_on).prog 22).name = ("law" : PySem.Str) := by kernel_rfl
      rw [← e]
      exact hmg0
    obtain ⟨fd, hb, hF⟩ := FWL.facts (w := w) KX G hmg c cx ce
    exact ⟨K, fd, FWL.sp_law K, KX, hb, fun H a ns hl _ hS => ⟨a, ns, rfl, hS, fun _ => rfl⟩, hF⟩
