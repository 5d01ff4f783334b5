import PyProof.Rows.All
import Wide.All
import OpenK.AllK
import Wide.FinOn
import KE.KStateDown
import Lean
import HandS.ForMost
import HandS.Exc
import HandS.WordsExc
import HandS.More
import HandS.Wide
import HandS.WideBits
import HandS.IsInst
import HandS.Style
import HandS.TupAny
import HandS.TupMul
import HandS.SortInts
import HandS.Conv
import HandS.Evl
import HandS.Zip
import HandS.Flow
import HandS.Defaults
import HandS.Head0
import HandS.Head1
import HandS.Head2
import HandS.HeadEnd
import HandS.HeadHook1
import HandS.HeadHook2
import KE.KExcSuper
import HandS.TryMany
import HandS.TryOnly
import HandS.ExcOwn
import KE.GoesMore
import KE.KRevSl
import HandS.Iter
import HandS.Walk
import PySem.Challenge.RW_floorward_k48_beginnings
set_option Elab.async false
set_option linter.all false
set_option maxRecDepth 100000
set_option maxHeartbeats 4000000
namespace FW
open PySem PySem.Spec PyProof.Rows L2
/-! ### operators on ints, by short names -/
abbrev rAdd : R2 := rI0 fun i j => .int (i + j)
abbrev rSub : R2 := rI0 fun i j => .int (i - j)
abbrev rMul : R2 := rI CMulW fun i j => .int (i * j)
abbrev rDiv : R2 := rI CDivW fun i j => .int (i / j)
abbrev rMod : R2 := rI (fun _ j => 0 < j) fun i j => .int (i % j)
abbrev rPow : R2 := rI CPow fun i j => .int (i ^ j.toNat)
abbrev rShr : R2 := rI (fun _ j => 0 ≤ j) fun i j => .int (i / 2 ^ j.toNat)
abbrev rNeg : V → Hp → VK → Prop := rU fun i => .int (-i)
abbrev rLt : R2 := rI0 fun i j => .bl (decide (i < j))
abbrev rLe : R2 := rI0 fun i j => .bl (decide (i ≤ j))
abbrev rGt : R2 := rI0 fun i j => .bl (decide (j < i))
abbrev rGe : R2 := rI0 fun i j => .bl (decide (j ≤ i))
abbrev rIsN : R2 := fun x y H Q => y = .non ∧ Q (.bl (decide (x = .non))) H
abbrev rNotN : R2 := fun x y H Q => y = .non ∧ Q (.bl (!decide (x = .non))) H
abbrev rAddS : R2 := fun x y H Q => ∃ i j, x = .str i ∧ y = .str j ∧ i.length + j.length ≤ sizeLine ∧ Q (.str (i ++ j)) H
abbrev rAbs : List V → Hp → VK → Prop := fun xs H Q => ∃ i, xs = [.int i] ∧ Q (.int (if i < 0 then -i else i)) H
abbrev rMax2 : List V → Hp → VK → Prop := fun xs H Q => ∃ i j, xs = [.int i, .int j] ∧ Q (.int (if j > i then j else i)) H
abbrev rMin2 : List V → Hp → VK → Prop := fun xs H Q => ∃ i j, xs = [.int i, .int j] ∧ Q (.int (if j < i then j else i)) H
abbrev rInt1 : List V → Hp → VK → Prop := fun xs H Q => (∃ i, xs = [.int i] ∧ Q (.int i) H) ∨ ∃ k, xs = [.bl k] ∧ Q (.int (if k then 1 else 0)) H
abbrev rStrI : List V → Hp → VK → Prop := fun xs H Q => ∃ i, xs = [.int i] ∧ i.natAbs.log2 < 1920 ∧ Q (.str (toString i)) H
abbrev rLenStr : List V → Hp → VK → Prop := fun xs H Q => ∃ z, xs = [.str z] ∧ z.length ≤ sizeLine ∧ Q (.int z.length) H
abbrev rTupS (K : PySem.W.Frag) : List V → Hp → VK → Prop := fun xs H Q => ∃ p ys, xs = [.ref p] ∧ ((SqL K H p ys ∧ ∀ l, H l = none → Q (.ref l) (upd H l (.tup ys))) ∨ (SqT K H p ys ∧ Q (.ref p) H))
abbrev tTru (K : PySem.W.Frag) (ta : TE) : TT := fun σ H Q => ta σ H fun x H' => ∃ k, TruV K x H' k ∧ Q k H'
/-- x op= y -/
abbrev iAdd : TIp := ipI fun i j => i + j
abbrev iSub : TIp := ipI fun i j => i - j
abbrev iMul : TIp := rI CMulW fun i j => .int (i * j)
section
variable {X : Cx}
theorem opAdd : OpR X (binaryOp .Add) rAdd := op_add
theorem opSub : OpR X (binaryOp .Sub) rSub := op_sub
theorem opMul : OpR X (binaryOp .Mult) rMul := op_mulW
theorem opDiv : OpR X (binaryOp .FloorDiv) rDiv := op_fdivW
theorem opMod : OpR X (binaryOp .Mod) rMod := op_mod
theorem opPow : OpR X (binaryOp .Pow) rPow := op_pow
theorem opShr : OpR X (binaryOp .RShift) rShr := op_shr
theorem op_addS : OpR X (binaryOp .Add) rAddS := op_add_str
theorem ipAdd : PIp X .Add iAdd := ip_add
theorem ipSub : PIp X .Sub iSub := ip_sub
theorem ipMul : PIp X .Mult iMul := fun pins s σ H x y v u Q I rx ry h => by
  obtain ⟨i, j, rfl, rfl, hc, q⟩ := h
  obtain ⟨t, rfl⟩ := rx
  obtain ⟨t', rfl⟩ := ry
  exact imul_int ⟨.int (i * j), H, I.tok _, ⟨_, rfl⟩, q⟩ hc.ok
end
/-! ### defs by their promises -/
/-- a def that may be called by its name -/
structure Fn (P : Program) (w : World) (K : PySem.W.Frag) (mg : Str → Option Value) (base : Heap) (CX : CXT) (k : Nat) (x : Str) (sp : Sp) (dvs : List V) : Prop where
  ex : ∃ (f : Addr) (fd : FuncData) (ps : List Str) (ds : List Value), FnOk P w K mg base CX k f fd ps sp ∧ mg x = some (.ref f) ∧ PySem.W.keepIn K (.ref f) = true ∧ Binds K fd ps ds ∧ Vals dvs ds
/-- a method of the class at C -/
structure Mt (P : Program) (w : World) (K : PySem.W.Frag) (mg : Str → Option Value) (base : Heap) (CX : CXT) (k : Nat) (C : Addr) (m : Str) (sp : Sp) (dvs : List V) : Prop where
  ex : ∃ (f : Addr) (fd : FuncData) (ps : List Str) (ds : List Value), Cls K C ∧ Meth K C m f ∧ FnOk P w K mg base CX k f fd ps sp ∧ Binds K fd ps ds ∧ Vals dvs ds
/-- a class that may be made by its name -/
structure Mkr (P : Program) (w : World) (K : PySem.W.Frag) (mg : Str → Option Value) (base : Heap) (CX : CXT) (k : Nat) (x : Str) (C : Addr) (sp : Sp) (dvs : List V) : Prop where
  ex : ∃ (f : Addr) (fd : FuncData) (ps : List Str) (ds : List Value), Mk K C f ∧ FnOk P w K mg base CX k f fd ps sp ∧ mg x = some (.ref C) ∧ Binds K fd ps ds ∧ Vals dvs ds
section
variable {X : Cx} {CX : CXT} {k j : Nat} {C : Addr} {x m : Str} {sp : Sp} {dvs : List V} {p pos apos : Pos} {e o : Expr} {es : List Expr} {ta : TE} {t : TA} {E : XK}
theorem pe_f (c : Fn X.prog X.w X.K X.mg X.base CX0 k x sp dvs) (hr : Room j X.A) (hk : k ≤ j) (hg : Gl X x) (ha : PA X (e :: es) t)
    (hdb : (x == ("__debug__" : Str)) = false := by decide) (he : starEach (e :: es) X.env = (false, eval e X.env) :: starEach es X.env := by rfl) (hpl : (backTo pos (starEach es X.env)).any (·.1) = false := by rfl) :
    PE X (.Call (.Name x p) (e :: es) [] pos) (tCall sp dvs E0 t) := by
  obtain ⟨f, fd, ps, ds, F, hm, kp, b, d⟩ := c.ex
  exact pe_call F (hr.mono hk) hg hm kp b d pass0 ha hdb he hpl
theorem pe_f0 (c : Fn X.prog X.w X.K X.mg X.base CX0 k x sp dvs) (hr : Room j X.A) (hk : k ≤ j) (hg : Gl X x)
    (hdb : (x == ("__debug__" : Str)) = false := by decide) : PE X (.Call (.Name x p) [] [] pos) (tCall sp dvs E0 tNil) := by
  obtain ⟨f, fd, ps, ds, F, hm, kp, b, d⟩ := c.ex
  exact pe_call0 F (hr.mono hk) hg hm kp b d pass0 hdb
theorem pe_m (c : Mkr X.prog X.w X.K X.mg X.base CX0 k x C sp dvs) (hr : Room j X.A) (hk : k + 1 ≤ j) (hg : Gl X x) (ha : PA X (e :: es) t)
    (hdb : (x == ("__debug__" : Str)) = false := by decide) (he : starEach (e :: es) X.env = (false, eval e X.env) :: starEach es X.env := by rfl) (hpl : (backTo pos (starEach es X.env)).any (·.1) = false := by rfl) :
    PE X (.Call (.Name x p) (e :: es) [] pos) (tMake C sp dvs E0 t) := by
  obtain ⟨f, fd, ps, ds, M, F, hm, b, d⟩ := c.ex
  exact pe_make M F (hr.mono hk) hg hm b d pass0 ha hdb he hpl
theorem pe_o {pl : Sem Bool} (c : Mt X.prog X.w X.K X.mg X.base CX0 k C m sp dvs) (hr : Room j X.A) (hk : k ≤ j) (he : PE X o ta) (ha : PA X (e :: es) t)
    (hst : starEach (e :: es) X.env = (false, eval e X.env) :: starEach es X.env := by rfl) (hpl : (backTo pos (starEach es X.env)).any (·.1) = false := by rfl)
    (ht : eval (.Call (.Attribute o m apos) (e :: es) [] pos) X.env = (do
      let ov ← eval o X.env
      standAt apos.atName
      let (f, first) ← holding [ov] (getMethod ov m pl)
      callWith pos f first (backTo pos (starEach (e :: es) X.env)) (backToKw pos (keywordEach [] X.env))) := by rfl) :
    PE X (.Call (.Attribute o m apos) (e :: es) [] pos) (tMeth C m sp dvs E0 ta t) := by
  obtain ⟨f, fd, ps, ds, hc, hm, F, b, d⟩ := c.ex
  exact pe_meth (pl := pl) he hc hm F (hr.mono hk) b d pass0 ha hst hpl ht
theorem pe_o0 {pl : Sem Bool} (c : Mt X.prog X.w X.K X.mg X.base CX0 k C m sp dvs) (hr : Room j X.A) (hk : k ≤ j) (he : PE X o ta)
    (ht : eval (.Call (.Attribute o m apos) [] [] pos) X.env = (do
      let ov ← eval o X.env
      standAt apos.atName
      let (f, first) ← holding [ov] (getMethod ov m pl)
      callWith pos f first (backTo pos (starEach [] X.env)) (backToKw pos (keywordEach [] X.env))) := by rfl) :
    PE X (.Call (.Attribute o m apos) [] [] pos) (tMeth C m sp dvs E0 ta tNil) := by
  obtain ⟨f, fd, ps, ds, hc, hm, F, b, d⟩ := c.ex
  exact pe_meth0 (pl := pl) he hc hm F (hr.mono hk) b d pass0 ht
/-- a module's name that is an int -/
theorem pe_gcI {i : Int} (hg : Gl X x) (h : ∃ t, X.mg x = some (.int i t)) (hd : (x == ("__debug__" : Str)) = false := by decide) : PE X (.Name x pos) (tC (.int i)) := by
  obtain ⟨t, hm⟩ := h
  exact pe_glob hg hm ⟨t, rfl⟩ hd
end
/-! ### defs of the head, by their data -/
section
variable {P : Program} {w : World} {K : PySem.W.Frag} {mg : Str → Option Value} {base : Heap}
/-- a def of the module (no defaults), from its body -/
theorem Fn.mk0 {x : Str} {params : Arguments} {body : List Stmt} {scope : Scope} {f : Addr} {N ps : List Str} {k : Nat} {sp : Sp}
    (F : ∃ fd, FunD K x x params body scope [] [] f fd) (g : mg x = some (.ref f)) (S : FnScope N ps scope)
    (hb : ∀ (kV doc pm : Value) (an : Option Addr) (cdv ct : Value) (us : List Value), us.length = ps.length → bindArgs (PySem.W.fnOf x x params body scope .none kV doc pm an cdv ct) ⟨us, []⟩ = pure (ps.zip us))
    (len : ∀ vs H Q E, sp vs H Q E → vs.length = ps.length)
    (hbody : ∀ (cdv : Value) (A : Around) (outer : List Env) (s : Shared) (H : Hp) (vs : List V) (Q : VK) (E : XK), Room k (A.deeper (envOfC x scope s.heap.objs.size f cdv)) → sp vs H Q E →
      ∃ t, PSs (cxOf CX0 P w K mg base N x scope f cdv A outer s H E).nox body t ∧ t { nx := fun _ H' => Q .non H', rt := Q } (start N vs) H) : Fn P w K mg base CX0 (k + 1) x sp [] := by
  obtain ⟨fd, F⟩ := F
  refine ⟨f, fd, ps, [], ?_, g, F.kp, ?_, .nil⟩
  · refine F.ok S len fun cdv A outer s H vs Q E hr h => ?_
    obtain ⟨t, h1, h2⟩ := hbody cdv A outer s H vs Q E hr h
    exact ⟨t, h1.nox, h2⟩
  · exact F.bindsN fun kV doc pm an cdv ct us hl => hb kV doc pm an cdv ct us hl
/-- a method (no defaults) -/
theorem Mt.mk0 {m qual : Str} {C : Addr} {params : Arguments} {body : List Stmt} {scope : Scope} {f : Addr} {N ps : List Str} {k : Nat} {sp : Sp}
    (c : Cls K C) (me : Meth K C m f) (F : ∃ fd, FunD K m qual params body scope [] [] f fd) (S : FnScope N ps scope)
    (hb : ∀ (kV doc pm : Value) (an : Option Addr) (cdv ct : Value) (us : List Value), us.length = ps.length → bindArgs (PySem.W.fnOf m qual params body scope .none kV doc pm an cdv ct) ⟨us, []⟩ = pure (ps.zip us))
    (len : ∀ vs H Q E, sp vs H Q E → vs.length = ps.length)
    (hbody : ∀ (cdv : Value) (A : Around) (outer : List Env) (s : Shared) (H : Hp) (vs : List V) (Q : VK) (E : XK), Room k (A.deeper (envOfC qual scope s.heap.objs.size f cdv)) → sp vs H Q E →
      ∃ t, PSs (cxOf CX0 P w K mg base N qual scope f cdv A outer s H E).nox body t ∧ t { nx := fun _ H' => Q .non H', rt := Q } (start N vs) H) : Mt P w K mg base CX0 (k + 1) C m sp [] := by
  obtain ⟨fd, F⟩ := F
  refine ⟨f, fd, ps, [], c, me, ?_, ?_, .nil⟩
  · refine F.ok S len fun cdv A outer s H vs Q E hr h => ?_
    obtain ⟨t, h1, h2⟩ := hbody cdv A outer s H vs Q E hr h
    exact ⟨t, h1.nox, h2⟩
  · exact F.bindsN hb
/-- a class by its __init__ (no defaults) -/
theorem Mkr.mk0 {x qual : Str} {C : Addr} {params : Arguments} {body : List Stmt} {scope : Scope} {f : Addr} {N ps : List Str} {k : Nat} {sp : Sp}
    (M : Mk K C f) (g : mg x = some (.ref C)) (F : ∃ fd, FunD K "__init__" qual params body scope [] [] f fd) (S : FnScope N ps scope)
    (hb : ∀ (kV doc pm : Value) (an : Option Addr) (cdv ct : Value) (us : List Value), us.length = ps.length → bindArgs (PySem.W.fnOf "__init__" qual params body scope .none kV doc pm an cdv ct) ⟨us, []⟩ = pure (ps.zip us))
    (len : ∀ vs H Q E, sp vs H Q E → vs.length = ps.length)
    (hbody : ∀ (cdv : Value) (A : Around) (outer : List Env) (s : Shared) (H : Hp) (vs : List V) (Q : VK) (E : XK), Room k (A.deeper (envOfC qual scope s.heap.objs.size f cdv)) → sp vs H Q E →
      ∃ t, PSs (cxOf CX0 P w K mg base N qual scope f cdv A outer s H E).nox body t ∧ t { nx := fun _ H' => Q .non H', rt := Q } (start N vs) H) : Mkr P w K mg base CX0 (k + 1) x C sp [] := by
  obtain ⟨fd, F⟩ := F
  refine ⟨f, fd, ps, [], M, ?_, g, ?_, .nil⟩
  · refine F.ok S len fun cdv A outer s H vs Q E hr h => ?_
    obtain ⟨t, h1, h2⟩ := hbody cdv A outer s H vs Q E hr h
    exact ⟨t, h1.nox, h2⟩
  · exact F.bindsN hb
/-- .. with defaults dvs, of which those behind the first j fill up -/
theorem Mkr.mkD {x qual : Str} {C : Addr} {params : Arguments} {body : List Stmt} {scope : Scope} {f : Addr} {N ps : List Str} {k : Nat} {sp : Sp} {dvs : List V}
    (n j : Nat) (M : Mk K C f) (g : mg x = some (.ref C)) (F : ∃ fd, FunD K "__init__" qual params body scope dvs [] f fd) (S : FnScope N ps scope) (hd : dvs ≠ []) (hn : n + (dvs.length - j) = ps.length)
    (hb : ∀ (T : Addr) (kV doc pm : Value) (an : Option Addr) (cdv ct : Value) (us its : List Value), us.length = n → its.length = dvs.length →
      ∃ k, bindArgs (PySem.W.fnOf "__init__" qual params body scope (.ref T) kV doc pm an cdv ct) ⟨us, []⟩ = seqItems? (.ref T) >>= k ∧ k (some its.toArray) = pure (ps.zip (us ++ its.drop j)))
    (len : ∀ vs H Q E, sp vs H Q E → vs.length = ps.length)
    (hbody : ∀ (cdv : Value) (A : Around) (outer : List Env) (s : Shared) (H : Hp) (vs : List V) (Q : VK) (E : XK), Room k (A.deeper (envOfC qual scope s.heap.objs.size f cdv)) → sp vs H Q E →
      ∃ t, PSs (cxOf CX0 P w K mg base N qual scope f cdv A outer s H E).nox body t ∧ t { nx := fun _ H' => Q .non H', rt := Q } (start N vs) H) : Mkr P w K mg base CX0 (k + 1) x C sp (dvs.drop j) := by
  obtain ⟨fd, F⟩ := F
  obtain ⟨ds, hv, hbn⟩ := F.binds1 (ps := ps) n j hd hn hb
  refine ⟨f, fd, ps, ds, M, ?_, g, hbn, hv⟩
  refine F.ok S len fun cdv A outer s H vs Q E hr h => ?_
  obtain ⟨t, h1, h2⟩ := hbody cdv A outer s H vs Q E hr h
  exact ⟨t, h1.nox, h2⟩
end
/-! ### the head's facts, with one more Bool -/
abbrev AlX : Type := He.AlD × Bool
def obsX (fa : List He.Fa) (fn : List He.DefD) (ex : PySem.W.Frag → Bool) (K : PySem.W.Frag) : AlX := (He.obsD fa fn K, ex K)
def obsXG (n : Nat) (fa : List He.Fa) (fn : List He.DefD) (ex : PySem.W.Frag → Bool) (g : Addr → Option Obj) : AlX := obsX fa fn ex (He.frG g (He.asD g n))
def hookX (n : Nat) (fa : List He.Fa) (fn : List He.DefD) (ex : PySem.W.Frag → Bool) : PySem.W.Hook where
  α := AlX
  obs := fun s => obsXG n fa fn ex s.heap.get?
  val := fun _ => (He.valD fn, true)
  says := fun _ h => ∃ K : PySem.W.Frag, K.In h ∧ He.SaysD fa fn K ∧ ex K = true
  of := fun _ _ e => ⟨_, He.frG_in, congrArg (fun z : AlX => z.1) e, congrArg (fun z : AlX => z.2) e⟩
  keeps := fun _ _ _ ⟨K, hK, c⟩ k => ⟨K, PySem.W.Frag.In.keeps hK k, c⟩
theorem obsXG_eq {n : Nat} {fa : List He.Fa} {fn : List He.DefD} {ex : PySem.W.Frag → Bool} {g : Addr → Option Obj} {s : Shared} (h : ∀ a, g a = s.heap.get? a) : obsXG n fa fn ex g = (hookX n fa fn ex).obs s := by
  have e : g = s.heap.get? := funext h
  rw [e] <;> rfl
end FW
namespace FW
open PySem PySem.Spec PyProof.Rows L2
/-! ### readings, step by step: the main goal first, the side goals behind it -/
section
variable {K : PySem.W.Frag} {σ : L2.St} {H : Hp} {Q : VK} {D : Ends} {ta tb tc te : TE} {tt tu : TT} {ts tv : TS} {tA tA' : TA} {v : V} {i j : Int} {n : Nat} {a : Addr} {xs ys : List V}
theorem s_seq (k : ts { D with nx := tv D } σ H) : tSeq ts tv D σ H := k
theorem s_next (k : D.nx σ H) : tNext D σ H := k
theorem s_asg (k : te σ H fun v H1 => D.nx (σ.set n (some v)) H1) : tAsg te (gName n) D σ H := k
theorem s_asgG {g : TG} (k : te σ H fun v H1 => g v σ H1 D.nx) : tAsg te g D σ H := k
theorem s_ret (k : te σ H D.rt) : tRet te D σ H := k
theorem s_if (k : tt σ H fun b H1 => if b = true then ts D σ H1 else tv D σ H1) : tIfS tt ts tv D σ H := k
theorem s_drop (k : te σ H fun _ H1 => D.nx σ H1) : tDrop te D σ H := k
theorem s_par {m : Nat} (k : tA σ H fun vs H1 => ∃ v w, vs = [v, w] ∧ D.nx ((σ.set n (some v)).set m (some w)) H1) : tPar n m tA D σ H := k
theorem s_par2 {R : V → V → Prop} {x y : V} (k : R x y) : ∃ v w, [x, y] = [v, w] ∧ R v w := ⟨x, y, rfl, k⟩
theorem s_aug {ti : TIp} {x : V} (k : te σ H fun y H1 => ti x y H1 fun z H2 => D.nx (σ.set n (some z)) H2) (h : σ[n]? = some (some x)) : tAug n te ti D σ H := ⟨x, h, k⟩
theorem s_fld {f : Str} (k : te σ H fun y H1 => ta σ H1 fun x H2 => ∃ a C dx fs, x = .ref a ∧ H2 a = some (.ins C dx fs) ∧ Cls K C ∧ NoAttr K C f ∧ fs.length < 1000 ∧ D.nx σ (upd H2 a (.ins C dx (putF f y fs)))) : sFld K ta te f D σ H := k
theorem e_var (k : Q v H) (h : σ[n]? = some (some v)) : tVar n σ H Q := ⟨v, h, k⟩
theorem e_c (k : Q v H) : tC v σ H Q := k
theorem e_op {r : R2} (k : ta σ H fun x H1 => tb σ H1 fun y H2 => r x y H2 Q) : tOp r ta tb σ H Q := k
theorem e_un {r : V → Hp → VK → Prop} (k : ta σ H fun x H1 => r x H1 Q) : tUn r ta σ H Q := k
theorem e_U {g : Int → V} (k : Q (g i) H) : rU g (.int i) H Q := ⟨i, rfl, k⟩
theorem e_I0 {g : Int → Int → V} (k : Q (g i j) H) : rI0 g (.int i) (.int j) H Q := ⟨i, j, rfl, rfl, k⟩
theorem e_I {C : Int → Int → Prop} {g : Int → Int → V} (k : Q (g i j) H) (c : C i j) : rI C g (.int i) (.int j) H Q := ⟨i, j, rfl, rfl, c, k⟩
theorem e_ip {f : Int → Int → Int} (k : Q (.int (f i j)) H) : ipI f (.int i) (.int j) H Q := ⟨i, j, rfl, rfl, k⟩
theorem e_eq {x y : V} (k : Q (.bl (decide (x = y))) H) (h : scal x y = true) : rEq x y H Q := ⟨h, k⟩
theorem e_ne {x y : V} (k : Q (.bl (!decide (x = y))) H) (h : scal x y = true) : rNe x y H Q := ⟨h, k⟩
theorem e_test {R : Bool → Hp → Prop} (k : te σ H fun x H' => ∃ k, x = .bl k ∧ R k H') : tTest te σ H R := k
theorem e_tB {R : Bool → Hp → Prop} (k : te σ H fun x H' => ∃ k, x = .bl k ∧ R k H') : L2.tB te σ H R := k
theorem e_bl {R : Bool → Prop} {b : Bool} (k : R b) : ∃ k, V.bl b = .bl k ∧ R k := ⟨b, rfl, k⟩
theorem e_not {R : Bool → Hp → Prop} (k : tt σ H fun c H1 => R (!c) H1) : tNot tt σ H R := k
theorem e_and {R : Bool → Hp → Prop} (k : tt σ H fun c H1 => if c = true then tu σ H1 R else R false H1) : tAnd tt tu σ H R := k
theorem e_or {R : Bool → Hp → Prop} (k : tt σ H fun c H1 => if c = true then R true H1 else tu σ H1 R) : tOr tt tu σ H R := k
theorem e_andV (k : ta σ H fun x H1 => ∃ c, x = .bl c ∧ if c = true then tb σ H1 Q else Q (.bl false) H1) : tAndV ta tb σ H Q := k
theorem e_orV (k : ta σ H fun x H1 => ∃ c, x = .bl c ∧ if c = true then Q (.bl true) H1 else tb σ H1 Q) : tOrV ta tb σ H Q := k
theorem e_notV (k : ta σ H fun x H1 => ∃ c, x = .bl c ∧ Q (.bl (!c)) H1) : tNotV ta σ H Q := k
theorem e_ifx (k : tt σ H fun c H1 => if c = true then ta σ H1 Q else tb σ H1 Q) : tIf tt ta tb σ H Q := k
theorem e_nil {R : List V → Hp → Prop} (k : R [] H) : tNil σ H R := k
theorem e_cons {R : List V → Hp → Prop} (k : te σ H fun x H1 => tA σ H1 fun xs H2 => R (x :: xs) H2) : tCons te tA σ H R := k
theorem e_call {sp : Sp} {E : XK} (k : tA σ H fun vs H1 => sp vs H1 Q E) : tCall sp [] E tA σ H Q := by
  unfold tCall
  have e : (fun vs H1 => sp (vs ++ []) H1 Q E) = fun vs H1 => sp vs H1 Q E := by funext vs H1; rw [List.append_nil]
  rw [e]; exact k
theorem e_cb {r : List V → Hp → VK → Prop} (k : tA σ H fun vs H1 => r vs H1 Q) : tCB r tA σ H Q := k
theorem e_lst (k : tA σ H fun xs H1 => xs.length ≤ sizeLine ∧ ∀ p, H1 p = none → Q (.ref p) (upd H1 p (.lst xs))) : tLst tA σ H Q := k
theorem e_tup (k : tA σ H fun xs H1 => xs.length ≤ sizeLine ∧ ∀ p, H1 p = none → Q (.ref p) (upd H1 p (.tup xs))) : tTup tA σ H Q := k
theorem e_ixL (k : Q v H) (h : SqL K H a xs) (ha : atI xs i = some v) : rIxL K (.ref a) (.int i) H Q := ⟨a, xs, i, v, rfl, rfl, h, ha, k⟩
theorem e_ixT (k : Q v H) (h : SqT K H a xs) (ha : atI xs i = some v) : rIxT K (.ref a) (.int i) H Q := ⟨a, xs, i, v, rfl, rfl, h, ha, k⟩
theorem e_len (k : Q (.int xs.length) H) (h : SqL K H a xs ∨ SqT K H a xs) : Evl.rLenS K [.ref a] H Q := ⟨a, xs, rfl, h, k⟩
theorem e_int (k : Q (.int i) H) : rInt1 [.int i] H Q := .inl ⟨i, rfl, k⟩
theorem e_intB {b : Bool} (k : Q (.int (if b then 1 else 0)) H) : rInt1 [.bl b] H Q := .inr ⟨b, rfl, k⟩
theorem e_abs (k : Q (.int (if i < 0 then -i else i)) H) : rAbs [.int i] H Q := ⟨i, rfl, k⟩
theorem e_max2 (k : Q (.int (if j > i then j else i)) H) : rMax2 [.int i, .int j] H Q := ⟨i, j, rfl, k⟩
theorem e_min2 (k : Q (.int (if j < i then j else i)) H) : rMin2 [.int i, .int j] H Q := ⟨i, j, rfl, k⟩
theorem e_isN {x : V} (k : Q (.bl (decide (x = .non))) H) : rIsN x .non H Q := ⟨rfl, k⟩
theorem e_notN {x : V} (k : Q (.bl (!decide (x = .non))) H) : rNotN x .non H Q := ⟨rfl, k⟩
theorem e_in {x : V} {neg : Bool} (k : Q (.bl (if neg then !inV x xs else inV x xs)) H) (h : SqL K H a xs ∨ SqT K H a xs) (hx : flatV x = true) (ha : xs.all flatV = true) : rIn K neg x (.ref a) H Q := ⟨a, xs, rfl, h, hx, ha, k⟩
theorem e_chain {r r' : R2} (k : ta σ H fun x H1 => tb σ H1 fun y H2 => r x y H2 fun z H3 => ∃ k, z = .bl k ∧ (if k = true then tc σ H3 fun w' H4 => r' y w' H4 Q else Q (.bl false) H3)) : tChain r r' ta tb tc σ H Q := k
theorem e_fld {f : Str} {C dx : Addr} {fs : List (Str × V)} (k : ta σ H fun x H1 => ∃ a C dx fs v, x = .ref a ∧ H1 a = some (.ins C dx fs) ∧ Cls K C ∧ NoAttr K C f ∧ fs.lookup f = some v ∧ Q v H1) : tFld K ta f σ H Q := k
/-- what a for asks behind its walked thing -/
def ForK (g : TG) (tb : TS) (D : Ends) (σ : L2.St) (J : It) (H : Hp) : Prop := ∃ W : Nat → Nat → L2.St → Hp → Prop, (∃ m, W 0 m σ H) ∧ ∀ i m σ H, W i m σ H →
  (J.stop i H ∧ D.nx σ H) ∨ (J.go i H ∧ ∃ N : L2.St → Hp → Prop, (∀ σ' H', N σ' H' → ∃ m', m' < m ∧ W (i + 1) m' σ' H') ∧ ∀ x H', J.yld i H x H' → g x σ H' fun σ2 H2 => tb { D with nx := N, ct := N, bk := D.nx } σ2 H2)
theorem s_for {wi : TI} {g : TG} (k : wi σ H fun J H1 => ForK g ts D σ J H1) : tFor wi g ts D σ H := k
theorem i_rng1 {R : It → Hp → Prop} (k : tA σ H fun vs H1 => ∃ j : Int, vs = [.int j] ∧ -(2 ^ 62) ≤ j ∧ j < 2 ^ 62 ∧ R (Itr 0 j.toNat) H1) : iRng1 tA σ H R := k
theorem i_rng1' {R : Int → Prop} (k : R j) (h : -(2 ^ 62) ≤ j ∧ j < 2 ^ 62) : ∃ j' : Int, [V.int j] = [.int j'] ∧ -(2 ^ 62) ≤ j' ∧ j' < 2 ^ 62 ∧ R j' := ⟨j, rfl, h.1, h.2, k⟩
theorem i_rng2 {R : It → Hp → Prop} (k : tA σ H fun vs H1 => ∃ i j : Int, vs = [.int i, .int j] ∧ (-(2 ^ 62) ≤ i ∧ i < 2 ^ 62 ∧ -(2 ^ 62) ≤ j ∧ j < 2 ^ 62) ∧ R (Itr i (j - i).toNat) H1) : iRng2 tA σ H R := k
theorem i_rng2' {R : Int → Int → Prop} (k : R i j) (h : -(2 ^ 62) ≤ i ∧ i < 2 ^ 62 ∧ -(2 ^ 62) ≤ j ∧ j < 2 ^ 62) : ∃ i' j' : Int, [V.int i, V.int j] = [.int i', .int j'] ∧ (-(2 ^ 62) ≤ i' ∧ i' < 2 ^ 62 ∧ -(2 ^ 62) ≤ j' ∧ j' < 2 ^ 62) ∧ R i' j' := ⟨i, j, rfl, h, k⟩
theorem i_list {R : It → Hp → Prop} (k : te σ H fun x H1 => ∃ a, x = .ref a ∧ (∃ xs, SqL K H1 a xs) ∧ R (Itl K a) H1) : iList K te σ H R := k
theorem i_tup {R : It → Hp → Prop} (k : te σ H fun x H1 => ∃ a, x = .ref a ∧ (∃ xs, SqT K H1 a xs) ∧ R (Itt K a) H1) : iTup K te σ H R := k
theorem i_list' {R : Addr → Prop} (xs : List V) (k : R a) (h : SqL K H a xs) : ∃ a', V.ref a = .ref a' ∧ (∃ xs, SqL K H a' xs) ∧ R a' := ⟨a, rfl, ⟨xs, h⟩, k⟩
theorem i_tup' {R : Addr → Prop} (xs : List V) (k : R a) (h : SqT K H a xs) : ∃ a', V.ref a = .ref a' ∧ (∃ xs, SqT K H a' xs) ∧ R a' := ⟨a, rfl, ⟨xs, h⟩, k⟩
theorem s_while (W : Nat → L2.St → Hp → Prop) (m : Nat) (h0 : W m σ H) (hs : ∀ m σ H, W m σ H → tt σ H fun b H1 => if b = true then ∃ N : L2.St → Hp → Prop, (∀ σ' H', N σ' H' → ∃ m', m' < m ∧ W m' σ' H') ∧ ts { D with nx := N, ct := N, bk := D.nx } σ H1 else D.nx σ H1) : tWhile tt ts D σ H := ⟨W, ⟨m, h0⟩, hs⟩
/-- what a comprehension asks behind its walked thing -/
def LcK (g : TG) (tt : TT) (te : TE) (vs : List Nat) (σ : L2.St) (Q : VK) (J : It) (H1 : Hp) : Prop := ∀ D, H1 D = none → ∃ W : Nat → Nat → Hp → Prop, (∃ m, W 0 m (upd H1 D (.lst []))) ∧ ∀ i m H, W i m H →
  (J.stop i H ∧ Q (.ref D) H) ∨ (J.go i H ∧ ∃ Nx : Hp → Prop, (∀ H', Nx H' → ∃ m', m' < m ∧ W (i + 1) m' H') ∧ ∀ x H', J.yld i H x H' → g x (wipe σ vs) H' fun σ2 H2 => wipe σ2 vs = wipe σ vs ∧ tt σ2 H2 fun b H3 =>
    if b = true then te σ2 H3 fun y H4 => ∃ acc, H4 D = some (.lst acc) ∧ acc.length < sizeLine ∧ Nx (upd H4 D (.lst (acc ++ [y]))) else Nx H3)
theorem e_lc {wi : TI} {g : TG} {vs : List Nat} (k : wi σ H fun J H1 => LcK g tt te vs σ Q J H1) : tLc wi g tt te vs σ H Q := k
theorem g_sub {t : TSet} {R : L2.St → Hp → Prop} (k : ta σ H fun o H1 => tb σ H1 fun i H2 => t o i v H2 fun H3 => R σ H3) : gSub ta tb t v σ H R := k
theorem g_name {R : L2.St → Hp → Prop} (k : R (σ.set n (some v)) H) : gName n v σ H R := k
theorem g_nil {R : L2.St → Hp → Prop} (k : R σ H) : gNil [] σ H R := ⟨rfl, k⟩
theorem g_cons {g : TG} {gs : TGs} {R : L2.St → Hp → Prop} (k : g v σ H fun σ' H' => gs xs σ' H' R) : gCons g gs (v :: xs) σ H R := ⟨v, xs, rfl, k⟩
theorem g_tup {gs : TGs} {R : L2.St → Hp → Prop} (k : gs xs σ H R) (h : SqT K H a xs) (hl : xs.length = n) : gTup K n gs (.ref a) σ H R := ⟨a, xs, rfl, h, hl, k⟩
theorem e_setL {R : Hp → Prop} {m : Nat} (k : R (upd H a (.lst (xs.set m v)))) (h : H a = some (.lst xs)) (hi : ixN xs.length i = some m) : rSetL (.ref a) (.int i) v H R := ⟨a, xs, i, m, rfl, rfl, h, hi, k⟩
theorem e_yes {R : Bool → Hp → Prop} (k : R true H) : tYes σ H R := k
theorem e_bm {T : String} {r : V → List V → Hp → VK → Prop} (k : ta σ H fun x H1 => tyV K T x H1 ∧ tA σ H1 fun xs H2 => r x xs H2 Q) : tBM K T r ta tA σ H Q := k
theorem e_bm0 {T : String} {r : V → List V → Hp → VK → Prop} (k : ta σ H fun x H1 => tyV K T x H1 ∧ r x [] H1 Q) : tBM0 K T r ta σ H Q := k
theorem e_mk {C : Addr} {sp : Sp} {dvs : List V} {E : XK} (k : tA σ H fun vs H1 => ∀ x dx, H1 x = none → H1 dx = none → dx ≠ x → sp (.ref x :: (vs ++ dvs)) (upd (upd H1 dx (.own x)) x (.ins C dx [])) (fun v H2 => v = .non ∧ Q (.ref x) H2) E) : tMake C sp dvs E tA σ H Q := k
theorem e_mt {C : Addr} {m : Str} {sp : Sp} {dvs : List V} {E : XK} (k : ta σ H fun x H1 => ∃ a dx fs, x = .ref a ∧ H1 a = some (.ins C dx fs) ∧ fs.lookup m = none ∧ tA σ H1 fun vs H2 => sp (x :: (vs ++ dvs)) H2 Q E) : tMeth C m sp dvs E ta tA σ H Q := k
theorem e_fldk {f : Str} (k : ta σ H fun x H1 => ∃ a C dx fs v, x = .ref a ∧ H1 a = some (.ins C dx fs) ∧ Cls K C ∧ NoAttr K C f ∧ fs.lookup f = some v ∧ Q v H1) : tFld K ta f σ H Q := k
theorem e_ite {p : Prop} [Decidable p] {A B : Prop} (h1 : p → A) (h2 : ¬ p → B) : if decide p = true then A else B := by
  by_cases h : p
  · rw [if_pos (decide_eq_true h)]; exact h1 h
  · rw [if_neg (by rw [decide_eq_false h]; decide)]; exact h2 h
theorem e_iteN {p : Prop} [Decidable p] {A B : Prop} (h1 : ¬ p → A) (h2 : p → B) : if (!decide p) = true then A else B := by
  by_cases h : p
  · rw [if_neg (by rw [decide_eq_true h]; decide)]; exact h2 h
  · rw [if_pos (by rw [decide_eq_false h]; decide)]; exact h1 h
theorem e_iteB {b : Bool} {A B : Prop} (h1 : b = true → A) (h2 : b = false → B) : if b = true then A else B := by
  cases b
  · rw [if_neg (by decide)]; exact h2 rfl
  · rw [if_pos rfl]; exact h1 rfl
theorem e_T {A B : Prop} (h : A) : if true = true then A else B := by rw [if_pos rfl]; exact h
theorem e_nT {A B : Prop} (h : B) : if (!true) = true then A else B := by rw [if_neg (by decide)]; exact h
theorem e_nF {A B : Prop} (h : A) : if (!false) = true then A else B := by rw [if_pos (by decide)]; exact h
theorem e_F {A B : Prop} (h : B) : if false = true then A else B := by rw [if_neg (by decide)]; exact h
end
/-! ### extensions -/
abbrev Ext (H H' : Hp) : Prop := ∀ a o, H a = some o → H' a = some o
/-- all but the object at p is kept -/
def ExtB (p : Addr) (H H' : Hp) : Prop := ∀ a o, a ≠ p → H a = some o → H' a = some o
theorem Ext.rfl' {H : Hp} : Ext H H := fun _ _ h => h
theorem Ext.tr {H H1 H2 : Hp} (a : Ext H H1) (b : Ext H1 H2) : Ext H H2 := fun x o h => b x o (a x o h)
theorem Ext.new {H : Hp} {p : Addr} {o : HO} (h : H p = none) : Ext H (upd H p o) := fun a u e => by
  rw [upd_ne (ne_of_none e h)]; exact e
theorem Ext.non {H H' : Hp} {p : Addr} (e : Ext H H') (h : H' p = none) : H p = none := by
  cases q : H p with
  | none => rfl
  | some o => rw [e p o q] at h; cases h
theorem Ext.sqL {K : PySem.W.Frag} {H H' : Hp} {a : Addr} {xs : List V} (e : Ext H H') (h : SqL K H a xs) : SqL K H' a xs := Evl.ex_l e h
theorem Ext.sqT {K : PySem.W.Frag} {H H' : Hp} {a : Addr} {xs : List V} (e : Ext H H') (h : SqT K H a xs) : SqT K H' a xs := Evl.ex_t e h
theorem ExtB.of {p : Addr} {H H' : Hp} (e : Ext H H') : ExtB p H H' := fun a o _ h => e a o h
theorem ExtB.tr {p : Addr} {H H1 H2 : Hp} (a : ExtB p H H1) (b : ExtB p H1 H2) : ExtB p H H2 := fun x o n h => b x o n (a x o n h)
theorem ExtB.upd {p : Addr} {H : Hp} {o : HO} : ExtB p H (upd H p o) := fun a u n e => by rw [upd_ne n]; exact e
theorem Ext.upds {H H' : Hp} {p : Addr} {o : HO} (e : Ext H H') (h : H p = Option.none) : Ext H (upd H' p o) := fun a u q => by
  rw [upd_ne (ne_of_none q h)]; exact e a u q
end FW
/-! own errors: class X(FloorError): def __init__(self, f): super().__init__('..'); self.f = f -/
namespace PySem
namespace ErrX
open PySem.W PySem.Calls PyProof.Rows PySem.HandSPX
def eA1 (f : Str) (p1 p2 : Pos) : Arguments := { posonlyargs := [], args := [{ arg := "self", annotation := none, pos := p1 }, { arg := f, annotation := none, pos := p2 }], vararg := none, kwonlyargs := [], kw_defaults := [], kwarg := none, defaults := [] }
def eB1 (f txt : Str) (q1 q2 q3 q4 q5 q6 q7 q8 q9 q10 : Pos) : List Stmt := [.Expr (.Call (.Attribute (.Call (.Name "super" q1) [] [] q2) "__init__" q3) [.Constant (.str txt) 0 q4] [] q5) q6, .Assign [.Attribute (.Name "self" q7) f q8] (.Name f q9) q10]
def eS1 (f : Str) : Scope := { kind := .function, names := [("self", .local), (f, .local), ("__class__", .free), ("super", .globalImplicit)], isGenerator := false, isCoroutine := false, more := [] }
/-- what the written part says of a class at C and of its __init__ at fI -/
structure ErrC (prog : Program) (K : Frag) (C fI : Addr) (f : Str) : Prop where
  cls : ∃ nm q N bs bm sn sub ab col dd k0 k1 k2 k3 k5, K.lookup C = some (excClassObj nm q C N bs bm true sn sub ab col dd k0 k1 k2 k3 k5 "ValueError.__new__") ∧ refsVE bm = true
  sa : findIn K (.ref C) "__setattr__" = some (some (.builtin "object.__setattr__"))
  ga : findIn K (.ref C) "__getattribute__" = some (some (.builtin "BaseException.__getattribute__"))
  gg : findIn K (.ref C) "__getattr__" = some none
  noN : findIn K (.ref C) f = some none
  iC : findIn K (.ref C) "__init__" = some (some (.ref fI))
  tC : typeIn K (.ref fI) = some (.type "function")
  kC : keepIn K (.ref C) = true
  exC : subIn K (.ref C) (.type "BaseException") = some true
  veC : subIn K (.ref C) (.type "ValueError") = some true
  tyC : typeIn K (.ref C) = some (.type "type")
  hdC : hasDictIn K C = true
  mro : mroIn K C (.ref C) = some true
  sup : nsIn K mainGlobals "super" = some none
  tp : nsIn K cStatics "thirdparty.any" = some none
  si : ks_superIn K C C "__init__" = some (some (.builtin "ValueError.__init__"))
  top : (prog.main.scope.names.lookup ("super" : Str)).isSome = false
  fn : ∃ (cc cda : Addr) (qual : Str) (oc : Value) (od : Option Addr) (kV doc pm : Value) (an : Option Addr) (ct : Value) (osl : Array (Option Value)) (txt : Str) (p1 p2 q1 q2 q3 q4 q5 q6 q7 q8 q9 q10 : Pos) (cl ccl : Value) (cld cdd : Option Addr) (csl ccs : Array (Option Value)) (vs : Array Value) (tf : Tok), (q3.endLine == q5.line) = true ∧
    K.lookup fI = some ⟨oc, od, .func (ksFn "__init__" qual (eA1 f p1 p2) (eB1 f txt q1 q2 q3 q4 q5 q6 q7 q8 q9 q10) (eS1 f) .none kV doc pm an (.ref cda) ct cc), osl⟩ ∧ codeIn K (.ref cda) qual = true ∧
    K.lookup cc = some ⟨cl, cld, .cell (some (.ref C)), csl⟩ ∧ K.lookup cda = some ⟨ccl, cdd, .fields vs, ccs⟩ ∧ vs[2]? = some (.str prog.main.file tf)
/-- what __init__ leaves of a fresh exception at x -/
structure InitEnd (h h' : Heap) (x C dx t1 : Addr) (f : Str) (v : Value) : Prop where
  keep : ∀ b o, b ≠ x → h.get? b = some o → h'.get? b = some o
  obj : h'.get? x = some { cls := .ref C, dict := some dx, data := .fields #[.ref t1, .none, .none, .none, .bool false, .none] }
  dbig : h.objs.size ≤ dx
  dne : dx ≠ x
  ns : h'.Ns1 dx (fun y => if y = f then some v else none)
/-- a made one -/
structure OwnMade (h h' : Heap) (e C d : Addr) (f : Str) (v : Value) : Prop where
  keep : ∀ b o, h.get? b = some o → h'.get? b = some o
  new : h.objs.size ≤ e
  obj : ∃ oe vs, h'.get? e = some oe ∧ oe.cls = .ref C ∧ oe.dict = some d ∧ oe.data = .fields vs ∧ vs[1]? = some .none
  dbig : h.objs.size ≤ d
  dne : d ≠ e
  ns : h'.Ns1 d (fun y => if y = f then some v else none)
section
variable {prog : Program} {w : World} {A : Around} {E : Value → Shared → Prop} {R : Result → Shared → Prop} {s : Shared} {K : Frag} {mg mb : Str → Option Value} {C fI : Addr} {f : Str}
/-- the bound __init__ called -/
theorem call_mw {h : Heap} {g : Array GenState} {d : Drawn} {tk : Nat} {os : OsState} {u x t0 : Addr} {rest : List Value} {Q : Value → Shared → Prop} {nm q : Str} {N : Addr} {bs bm : List Value} {sn : List Str} {sub : List Value} {ab : Bool} {col : Option Bool} {dd : Option Addr} {k0 k1 k2 k3 k5 : Option Value}
    (hC : h.get? C = some (excClassObj nm q C N bs bm true sn sub ab col dd k0 k1 k2 k3 k5 "ValueError.__new__")) (hx : h.get? x = some (excO C t0)) (hu : h.get? u = some (kxs_mw "ValueError.__init__" x)) (hz : rest.length ≤ sizeLine)
    (hq : ∀ h' t1, (∀ b o, b ≠ x → h.get? b = some o → h'.get? b = some o) → h'.get? x = some (excO C t1) → Q .none ⟨h', g, d, tk, os⟩) :
    wpAny (model prog w) A (call (.ref u) rest) Q E ⟨h, g, d, tk, os⟩ := by
  refine wpAny_call (codeAny_of_tree ?_)
  show wpAny _ A.in1 (callAny (.ref u) ⟨rest, []⟩) _ _ _
  simp only [callAny]
  refine wpAny_bind (wpAny_load hu ?_)
  simp only [kxs_mw, show (Value.type "method-wrapper" == Value.type "method" || Value.type "method-wrapper" == Value.type "builtin_function_or_method" || Value.type "method-wrapper" == Value.type "method-wrapper") = true by decide, if_true]
  refine KFB.if_so (by decide) ?_
  refine wpAny_bind (check_bound_init F.excBase_ValueError.toExcCallFacts hC hx rfl ?_)
  refine wpAny_bind (wpAny_pure (wpAny_pure ?_))
  refine ⟨plainId_quiet F.excBase_ValueError.init.plain _, codeAny_builtin F.excBase_ValueError.initEntry ?_⟩
  exact exc_init_tree (cls := .ref C) (t0 := t0) (dv := none) (c2 := .none) (c3 := .none) (b4 := .bool false) hx hz fun h' k e' _ => hq h' _ k e'
theorem ns_keep {h h' : Heap} {L : Addr} {m : Str → Option Value} (hn : h.Ns L m) (k : ∀ o, h.get? L = some o → h'.get? L = some o) : h'.Ns L m := by
  obtain ⟨oL, esL, epL, eL, rL⟩ := hn
  exact ⟨oL, esL, epL, k _ eL, rL⟩
/-- a method call whose name stands in the row of the call -/
theorem eval_mc {env : Env} {o : Expr} {name txt : Str} {q3 q4 q5 : Pos} (hl : (q3.endLine == q5.line) = true) : eval (.Call (.Attribute o name q3) [.Constant (.str txt) 0 q4] [] q5) env = (do
    let ov ← attributeBase o name env (eval o env)
    standAt q3.atName
    let (f, first) ← holding [ov] (getMethod ov name (do return (← importBound o env).getD true))
    callWith q5 f first (backTo q5 (starEach [.Constant (.str txt) 0 q4] env)) []) := by
  show (do
    let ov ← attributeBase o name env (eval o env)
    standAt q3.atName
    methodCall o name q3 q5 env ov 1 (backTo q5 (starEach [.Constant (.str txt) 0 q4] env)) []) = _
  have hf : methodCallForm 1 (backTo q5 (starEach [.Constant (.str txt) 0 q4] env)) [] = true := rfl
  have hp : methodCallPos true o env q3 q5 = pure q5 := by
    unfold methodCallPos
    rw [hl]
    rfl
  unfold methodCall calleeOf
  rw [hf, hp]
  rfl
theorem err_init (T : ErrC prog K C fI f) (hf : f = "value" ∨ f = "word" ∨ f = "field") {x t0 : Addr} {v : Value} (X : K.In s.heap) (hlim : s.heap.NoLimit) (G : s.heap.Ns mainGlobals mg) (B : s.heap.Ns builtinsNs mb) (hB : ∀ x : Str, x ≠ "__name__" → mb x = bootBuiltins x)
    (hx : s.heap.get? x = some (excO C t0)) (hnx : ¬ (K.lookup x).isSome = true) (hroom : A.depth < recursionLimit)
    (hq : ∀ h' tk dx t1, InitEnd s.heap h' x C dx t1 f v → R (.ok (.ret .none)) { s with heap := h', toks := tk }) :
    codeAny (model prog w) A (.call (.ref fI) ⟨[.ref x, v], []⟩) R s := by
  obtain ⟨cc, cda, qual, oc, od, kV, doc, pm, an, ct, osl, txt, p1, p2, q1, q2, q3, q4, q5, q6, q7, q8, q9, q10, cl, ccl, cld, cdd, csl, ccs, vs, tf, hln, ho, hcd, hcc, hcda, hvs⟩ := T.fn
  obtain ⟨nm, q, N, bs, bm, sn, sub, ab, col, dd, k0, k1, k2, k3, k5, hC, hbm⟩ := T.cls
  have hcl : clsIn K C = some { name := nm, bases := bs, mro := .ref C :: bm, ns := N, qualname := q, hasDict := true, slotNames := sn, subclasses := sub, abstract := ab, collection := col, hasDel := false } := by unfold clsIn; rw [hC] <;> rfl
  obtain ⟨hp, g, d, tk, os⟩ := s
  have hsi : alongIn K "__init__" ((((Value.ref C :: bm)).dropWhile (· != .ref C)).drop 1) = some (some (.builtin "ValueError.__init__")) := by
    have z := T.si
    unfold ks_superIn at z
    rw [hcl] at z
    exact z
  rcases hf with rfl | rfl | rfl
  all_goals
    refine ks_codeAny_call_defAt (fd := ksFn "__init__" qual (eA1 _ p1 p2) (eB1 _ txt q1 q2 q3 q4 q5 q6 q7 q8 q9 q10) (eS1 _) .none kV doc pm an (.ref cda) ct cc) (body := eB1 _ txt q1 q2 q3 q4 q5 q6 q7 q8 q9 q10) (binds := [("self", .ref x), (_, v)])
      hroom (X _ _ ho) rfl hlim (codeRec_of X hcd) rfl (BindsTo.of_eq (by first | rfl | with_unfolding_all rfl)) (fun y hy => (show ∀ y ∈ (eS1 _).names, y.2 ≠ .cell by decide) y hy)
      (fun y hy => by
        rcases List.mem_cons.mp hy with rfl | hy
        · rfl
        · rcases List.mem_cons.mp hy with rfl | hy
          · rfl
          · cases hy) (fun h₁ hns hk₁ => ?_) rfl rfl rfl
    have X₁ : K.In h₁ := X.keeps hk₁
    have hx₁ := hk₁ _ _ hx
    have zL : hp.objs.size < h₁.objs.size := hns.lt
    have hxL : hp.objs.size ≠ x := Nat.ne_of_gt (Heap.lt_size hx)
    -- super().__init__('..')
    show wpAt _ _ _ (execs (_ :: _) _) _ _ _
    refine ks_wpAt_execs_cons (ks_wpAt_Expr_any (ks_wpAt_MethodCall ?_ (eval_mc hln)))
    refine ks_wpAt_super_base (f := fI) (cc := cda) (ar := { arg := "self", annotation := none, pos := p1 }) rfl rfl (by decide) rfl (X₁ _ _ ho) rfl rfl rfl (X₁ _ _ hcda) rfl hvs (beq_self_eq_true _) T.top ?_
    refine ks_loadName_global rfl rfl (loadGlobal_builtin (G.keeps hk₁) (mg_none_of X G T.sup) (B.keeps hk₁) ((hB _ (by decide)).trans (by first | boot_by_name | rfl | kernel_rfl)) ⟨rfl, ?_⟩)
    refine wpAny_loadName_free rfl rfl rfl ⟨_, X₁ _ _ hcc, rfl⟩ ?_
    refine wpAny_loadName_local rfl rfl hns (by rfl) ?_
    refine ks_wpAny_isType_cls (X₁ _ _ hC) rfl ⟨rfl, ?_⟩
    refine ks_wpAny_call_super (X₁ _ _ hC) rfl hx₁ rfl (fun c e => by cases e) (looks_mroIn X₁ T.mro) (fun h₂ hso k₂ => ?_)
    have X₂ : K.In h₂ := X₁.keeps k₂
    have hx₂ := k₂ _ _ hx₁
    have I₂ : InstAt h₂ x (excO C t0) C none := ⟨hx₂, rfl, rfl, trivial⟩
    refine kxs_getMethod kxs_ValueError hso (looks_opaque X₂ T.tp) (l₀ := .ref C :: bm) (fun A Q E s k q => wpAny_bind ((looks_clsIn X₂ hcl) A _ E s k (wpAny_pure q))) rfl X₂ hsi (I₂.type.andThen (looks_subIn X₂ T.veC)) (ks_ne X₂ I₂ hcl) (by decide) ?_
    have k₃ : ∀ b o, h₂.get? b = some o → (h₂.push (kxs_mw "ValueError.__init__" x)).get? b = some o := fun b o e => Heap.get?_push_of_some _ e
    have hmw : (h₂.push (kxs_mw "ValueError.__init__" x)).get? h₂.objs.size = some (kxs_mw "ValueError.__init__" x) := Heap.get?_push_at rfl rfl
    refine kxs_callWith (i := "ValueError.__init__") (x := x) rfl (evalArgs_plain (Calls.spliced_cons ?_))
    show wpAny _ _ (eval (.Constant (.str txt) 0 q4) _) _ _ _
    refine Calls.Constant_str (Calls.spliced_nil ⟨hmw, ?_⟩)
    refine call_mw ((X₂.keeps k₃) _ _ hC) (k₃ _ _ hx₂) hmw (by show 1 ≤ sizeLine; decide) (fun h₄ t1 k₄ hx₄ => ?_)
    -- self.f = f
    have k14 : ∀ b o, b ≠ x → h₁.get? b = some o → h₄.get? b = some o := fun b o hb e => k₄ b o hb (k₃ _ _ (k₂ _ _ e))
    have hn4 := ns_keep hns (k14 _ · hxL)
    have X₄ : K.In h₄ := fun a o e => by
      by_cases ha : a = x
      · subst ha
        have z := X _ _ e
        rw [hx] at z
        exact absurd z (fun z => hnx (by rw [e]; rfl))
      · exact k14 _ _ ha (X₁ _ _ e)
    refine wpAt_of_wpAny ?_
    show wpAny _ _ (execs (_ :: _) _) _ _ _
    refine wpAny_execs_cons (plainObj_wpAny_Assign_Attribute ?_)
    refine wpAny_Name (wpAny_loadName_local rfl rfl hn4 (by rfl) ?_)
    refine wpAny_Name (wpAny_loadName_local rfl rfl hn4 (by rfl) ?_)
    refine set_plain X₄ (ox := excO C t1) (od := none) ⟨hx₄, rfl, rfl, trivial⟩ T.sa ?_
    refine exc_osa X₄ hx₄ hcl (show refsVE (.ref C :: bm) = true from hbm) rfl T.noN (fun h₅ tk₅ dx k₅ dn dne hx₅ hn₅ => ?_)
    show wpAny _ _ (execs _ _) _ _ _
    refine wpAny_execs_nil (hq h₅ tk₅ dx t1 ⟨fun b o hb e => k₅ b o hb (k14 b o hb (hk₁ b o e)), hx₅, ?_, dne, hn₅⟩)
    have z4 : hp.objs.size < h₄.objs.size := hn4.lt
    exact Nat.le_of_lt (Nat.lt_of_lt_of_le z4 dn)
theorem err_made (T : ErrC prog K C fI f) (hf : f = "value" ∨ f = "word" ∨ f = "field") {v : Value} (X : K.In s.heap) (hlim : s.heap.NoLimit) (G : s.heap.Ns mainGlobals mg) (B : s.heap.Ns builtinsNs mb) (hB : ∀ x : Str, x ≠ "__name__" → mb x = bootBuiltins x) (hroom : A.depth + 1 < recursionLimit)
    (hq : ∀ h' tk e d, OwnMade s.heap h' e C d f v → R (.ok (.ret (.ref e))) { s with heap := h', toks := tk }) :
    codeAny (model prog w) A (.call (.ref C) ⟨[v], []⟩) R s := by
  obtain ⟨nm, q, N, bs, bm, sn, sub, ab, col, dd, k0, k1, k2, k3, k5, hC, hbm⟩ := T.cls
  obtain ⟨hp, g, dr, tk, os⟩ := s
  have k : ∀ b o, hp.get? b = some o → ((hp.push (kdv_tup [v])).push (excO C hp.objs.size)).get? b = some o := fun b o e => Heap.get?_push_of_some _ (Heap.get?_push_of_some _ e)
  have hget : ((hp.push (kdv_tup [v])).push (excO C hp.objs.size)).get? (hp.objs.size + 1) = some (excO C hp.objs.size) := by heap_get
  have hnx : ¬ (K.lookup (hp.objs.size + 1)).isSome = true := by
    cases e : K.lookup (hp.objs.size + 1) with
    | none => intro z; cases z
    | some o =>
      have z : hp.get? (hp.objs.size + 1) = some o := X _ _ e
      exact absurd (Nat.lt_of_succ_lt (Heap.lt_size z)) (Nat.lt_irrefl _)
  refine call_own F.excBase_ValueError (fun X => refsVE_contains X bm hbm) (X _ _ hC) (looks_findIn X T.iC) (fun self => bind_fn X self T.tC) (by show 1 ≤ sizeLine; decide) ?_
  refine err_init (s := ⟨(hp.push (kdv_tup [v])).push (excO C hp.objs.size), g, dr, tk, os⟩) T hf (X.keeps k) (hlim.keeps k) (G.keeps k) (B.keeps k) hB hget hnx ?_ fun h' tk' dx t1 ⟨k', hx, dn, dne, hns⟩ => ?_
  · show A.depth + 1 < recursionLimit
    exact hroom
  · have old : ∀ b o, hp.get? b = some o → h'.get? b = some o := fun b o e => k' b o (Nat.ne_of_lt (Nat.lt_succ_of_lt (Heap.lt_size e))) (k b o e)
    have z : hp.objs.size + 1 + 1 ≤ dx := by
      have q := dn
      rw [Heap.size_push, Heap.size_push] at q
      exact q
    exact ⟨rfl, hq h' tk' (hp.objs.size + 1) dx ⟨old, Nat.le_succ _, ⟨_, _, hx, rfl, rfl, rfl, rfl⟩, Nat.le_trans (Nat.le_trans (Nat.le_succ _) (Nat.le_succ _)) z, dne, hns⟩⟩
end
end ErrX
end PySem
namespace FW
open PySem PySem.Spec PyProof.Rows L2
theorem relO_err {f : Str} {v : V} {v' : Value} (r : RelV v v') (g : Str) : RelO (List.lookup g [(f, v)]) (if g = f then some v' else none) := by
  by_cases hw : g = f
  · subst hw
    rw [if_pos rfl]
    have q : List.lookup g [(g, v)] = some v := by simp [List.lookup]
    rw [q]
    exact r
  · rw [if_neg hw]
    have qw : (g == f) = false := by simpa using hw
    have q2 : List.lookup g [(f, v)] = none := by simp [List.lookup, qw]
    rw [q2]
    trivial
/-- the fields' names -/
def ErrF (f : Str) : Prop := f = "value" ∨ f = "word" ∨ f = "field"
/-- C(e), C an own error with the field f -/
def tMkE (C : Addr) (f : Str) (ta : TA) : L2.St → Hp → XK → Prop := fun σ H Q => ta σ H fun vs H1 => ∃ v, vs = [v] ∧ ∀ d, H1 d = none → Q (.ref C) (some d) (upd H1 d (.xd [(f, v)]))
section
variable {X : Cx} {C fI : Addr} {f x : Str}
theorem pmk_err {a : Expr} {ta : TA} {p pos : Pos} {k : Nat} (T : PySem.ErrX.ErrC X.prog X.K C fI f) (hf : ErrF f) (gC : X.mg x = some (.ref C)) (hr : Room k X.A) (ha : PA X [a] ta) (hg : Gl X x) (hdb : (x == ("__debug__" : Str)) = false := by decide)
    (he : starEach (a :: []) X.env = (false, eval a X.env) :: starEach [] X.env := by rfl) (hpl : (backTo pos (starEach [] X.env)).any (·.1) = false := by rfl) :
    PMk X (.Call (.Name x p) [a] [] pos) (tMkE C f ta) := by
  intro pins s σ H Q I h
  refine wpAny_Call_Name_kw (ld_glob I hg gC ?_ hdb)
  refine PySem.W.callWith_K (h₀ := X.base) I.ok.mod.kin T.kC (thn (ha.run pos pins s σ H _ I h) fun us s1 hh => ?_) he hpl
  obtain ⟨vs, H1, I1, r1, v, ev, q1⟩ := hh
  subst ev
  refine ⟨I1.kIn, ?_⟩
  cases r1 with
  | cons rv rn =>
    rename_i v' us'
    cases rn
    show wpAny _ _ (call (.ref C) [v']) _ _ _
    have hlim := I1.nolimit
    have hG := I1.mod.glob.keeps I1.bk
    obtain ⟨mb, hb1, hb2⟩ := I1.mod.blt
    have hB := hb1.keeps I1.bk
    obtain ⟨hp, g, dr, tk, os⟩ := s1
    refine wpAny_call (PySem.ErrX.err_made T hf I1.kIn hlim hG hB hb2 (by have := hr.dp; omega) fun h' tk' e d M => ?_)
    show MkP X pins σ Q (.ref e) ⟨h', g, dr, tk', os⟩
    obtain ⟨oe, fv, hoe, hc, hd, hdat, h1⟩ := M.obj
    have hns := M.ns
    obtain ⟨G', g1, g2⟩ := restrict h' fun b => decide (b ≠ e)
    have gk : ∀ b, b ≠ e → G'.get? b = h'.get? b := fun b hb => g1 b (decide_eq_true hb)
    have ge : G'.get? e = none := g2 e (by simp)
    have old : ∀ b o, hp.get? b = some o → G'.get? b = some o := fun b o q => (gk b (Nat.ne_of_lt (Nat.lt_of_lt_of_le (Heap.lt_size q) M.new))).trans (M.keep b o q)
    have ob : ObjOk X.prog X.w (upd H1 d (.xd [(f, v)])) G' d (.xd [(f, v)]) :=
      ⟨_, hns.at (fun o q => (gk d M.dne).trans q), fun f => relO_err rv f⟩
    have J : Inv X pins σ (upd H1 d (.xd [(f, v)])) ⟨G', g, dr, tk', os⟩ := I1.laid (t' := tk') old M.dbig ob
    refine ⟨e, oe, fv, ⟨G', g, dr, tk', os⟩, _, .ref C, some d, rfl, J, fun b o q => ?_, ge, hoe, ⟨hc, hd⟩, hdat, h1, ?_, rfl, I1.bare, raises_own T.exC T.tyC, q1 d (I1.hok.fresh M.dbig)⟩
    · by_cases hb : b = e
      · have q' : G'.get? b = some o := q
        rw [hb, ge] at q'; cases q'
      · exact (gk b hb).symm.trans q
    · rw [upd_ne (Ne.symm M.dne)]
      exact I1.hok.fresh M.new
/-- raise C(e) -/
def tRaiseE (C : Addr) (f : Str) (W : WX) (ta : TA) : TS := fun _ σ H => tMkE C f ta σ H fun cls d H' => W cls d σ H'
theorem ps_raiseE {a : Expr} {ta : TA} {W : WX} {p pos pos2 : Pos} {k : Nat} (hc : X.calm = true) (T : PySem.ErrX.ErrC X.prog X.K C fI f) (hf : ErrF f) (gC : X.mg x = some (.ref C)) (hr : Room k X.A) (tk : Takes X W) (ha : PA X [a] ta) (hg : Gl X x) (hdb : (x == ("__debug__" : Str)) = false := by decide)
    (he : starEach (a :: []) X.env = (false, eval a X.env) :: starEach [] X.env := by rfl) (hpl : (backTo pos (starEach [] X.env)).any (·.1) = false := by rfl) :
    PS X (.Raise (some (.Call (.Name x p) [a] [] pos)) none pos2) (tRaiseE C f W ta) := ps_raise hc tk (pmk_err T hf gC hr ha hg hdb he hpl)
/-- e.f, e the exception that the suite holds (at a; its class cls, its dict d) -/
def tByE (C : Addr) (f : Str) (a : Addr) (cls : Value) (d : Option Addr) (te : TE) : TE := fun σ H Q => te σ H fun x H1 => x = .ref a ∧ cls = .ref C ∧ ∃ (dd : Addr) (v : V), d = some dd ∧ H1 dd = some (.xd [(f, v)]) ∧ Q v H1
theorem pe_byE {prog : Program} {a : Addr} {oe : Obj} {cls : Value} {d : Option Addr} {pn : List (Addr × Obj)} {e : Expr} {te : TE} {pos : Pos} (T : PySem.ErrX.ErrC prog X.K C fI f) (hz : Zc cls d oe) (hfl : ∃ vs, oe.data = .fields vs) (he : PE (X.suite a ((a, oe) :: pn)) e te)
    (hb : attributeBase e f X.env (eval e X.env) = eval e X.env := by rfl) :
    PE (X.suite a ((a, oe) :: pn)) (.Attribute e f pos) (tByE C f a cls d te) := by
  refine ⟨fun pins s σ H Q I h => ?_⟩
  refine attr_of hb (thn (he.run pins s σ H _ I h) fun u s1 hh => ?_)
  obtain ⟨x, H1, I1, rx, ex, ec, dd, v, ed, ea, q⟩ := hh
  subst ex
  obtain rfl : u = Value.ref a := rx
  subst ec
  subst ed
  obtain ⟨ha, _⟩ := I1.pin (a, oe) (List.mem_append_left _ List.mem_cons_self)
  obtain ⟨vs, hd⟩ := hfl
  have hx : ObjOk X.prog X.w H1 s1.heap dd (.xd [(f, v)]) := I1.hok dd _ ea
  obtain ⟨mA, hns, hr⟩ := hx
  obtain ⟨od, ho, hl⟩ := lookIn_ns hns
  have l : List.lookup f [(f, v)] = some v := by simp [List.lookup]
  obtain ⟨u, hu, ru⟩ := RelO.some_of (v := v) (o := mA f) (by rw [← l]; exact hr f)
  have J : PySem.W.InstAt s1.heap a oe C (some od) := ⟨ha, hz.1, by unfold PySem.W.notCls; rw [hd] <;> rfl, by rw [hz.2]; exact ho⟩
  exact HandSPX.exc_get I1.kIn J T.ga T.gg T.exC (PySem.W.findObj_own T.hdC T.noN rfl (by rw [hl, hu])) (handed_of ru) ⟨v, H1, I1.tok _, ru, q⟩
end
end FW
namespace FW
open PySem PySem.Spec PyProof.Rows L2 PySem.W PySem.HandSPX PySem.ErrX
/-! ### what the head looks at of an own error -/
abbrev FnE : Type := Option (Str × Str × Arguments × FuncBody × Scope × Addr × Value × Addr)
def fnE (K : Frag) (x : Str) : FnE := match K.lookup (He.ma K (He.ga K x) "__init__") with
  | some ⟨_, _, .func fd, _⟩ => some (fd.name, fd.qualname, fd.params, fd.body, fd.scope, fd.globals, fd.defaults, fd.builtins)
  | _ => none
def clsE (K : Frag) (C : Addr) : Bool := match K.lookup C with
  | some ⟨.type "type", _, .cls cd, sl⟩ => (match cd.mro, sl.toList with
    | .ref C' :: bm, [_, _, _, _, some (.builtin n), _] => C' == C && n == "ValueError.__new__" && !cd.hasDel && cd.hasDict && refsVE bm
    | _, _ => false)
  | _ => false
theorem clsE_ok {K : Frag} {C : Addr} (q : clsE K C = true) : ∃ nm q N bs bm sn sub ab col dd k0 k1 k2 k3 k5, K.lookup C = some (excClassObj nm q C N bs bm true sn sub ab col dd k0 k1 k2 k3 k5 "ValueError.__new__") ∧ refsVE bm = true := by
  unfold clsE at q
  split at q
  · rename_i dd cd sl ho
    split at q
    · rename_i C' bm k0 k1 k2 k3 n k5 hm hs
      simp only [Bool.and_eq_true, beq_iff_eq, Bool.not_eq_true'] at q
      obtain ⟨⟨⟨⟨rfl, rfl⟩, hdel⟩, hdd⟩, ht⟩ := q
      obtain ⟨nm, bs, mro, ns, qn, hd, sn, sub, ab, col, del⟩ := cd
      dsimp only at hm hdel hdd
      subst hm hdel hdd
      have hsl : sl = #[k0, k1, k2, k3, some (.builtin "ValueError.__new__"), k5] := by
        obtain ⟨l⟩ := sl
        simp only at hs
        rw [hs]
      subst hsl
      exact ⟨nm, qn, ns, bs, bm, sn, sub, ab, col, dd, k0, k1, k2, k3, k5, ho, ht⟩
    · cases q
  · cases q
def codeE (K : Frag) (file : Str) (x : Str) : Bool := match K.lookup (He.ma K (He.ga K x) "__init__") with
  | some ⟨_, _, .func fd, _⟩ => (match fd.code, fd.closure with
    | .ref cda, [(n, cc)] => codeIn K (.ref cda) fd.qualname && (decide (n = "__class__") && ((match K.lookup cda with
        | some ⟨_, _, .fields vs, _⟩ => (match (vs[2]? : Option Value) with
          | some (Value.str z _) => decide (z = file)
          | _ => false)
        | _ => false) && (match K.lookup cc with
        | some ⟨_, _, .cell (some (.ref D)), _⟩ => decide (D = He.ga K x)
        | _ => false)))
    | _, _ => false)
  | _ => false
def errB (K : Frag) (file x f : Str) : Bool := ([clsE K (He.ga K x), He.eqO (findIn K (.ref (He.ga K x)) "__setattr__") (some (some (.builtin "object.__setattr__"))), He.eqO (findIn K (.ref (He.ga K x)) "__getattribute__") (some (some (.builtin "BaseException.__getattribute__"))),
  He.eqO (findIn K (.ref (He.ga K x)) "__getattr__") (some none), He.eqO (findIn K (.ref (He.ga K x)) f) (some none), He.eqO (findIn K (.ref (He.ga K x)) "__init__") (some (some (.ref (He.ma K (He.ga K x) "__init__")))), decide (typeIn K (.ref (He.ma K (He.ga K x) "__init__")) = some (.type "function")),
  keepIn K (.ref (He.ga K x)), decide (subIn K (.ref (He.ga K x)) (.type "BaseException") = some true), decide (subIn K (.ref (He.ga K x)) (.type "ValueError") = some true), decide (typeIn K (.ref (He.ga K x)) = some (.type "type")), hasDictIn K (He.ga K x), decide (mroIn K (He.ga K x) (.ref (He.ga K x)) = some true),
  He.eqO (nsIn K mainGlobals "super") (some none), He.eqO (nsIn K cStatics "thirdparty.any") (some none), He.eqO (ks_superIn K (He.ga K x) (He.ga K x) "__init__") (some (some (.builtin "ValueError.__init__"))), codeE K file x] : List Bool).all id
theorem errB_at {K : Frag} {file x f : Str} (h : errB K file x f = true) {b : Bool} (i : Nat) (hb : ([clsE K (He.ga K x), He.eqO (findIn K (.ref (He.ga K x)) "__setattr__") (some (some (.builtin "object.__setattr__"))), He.eqO (findIn K (.ref (He.ga K x)) "__getattribute__") (some (some (.builtin "BaseException.__getattribute__"))),
  He.eqO (findIn K (.ref (He.ga K x)) "__getattr__") (some none), He.eqO (findIn K (.ref (He.ga K x)) f) (some none), He.eqO (findIn K (.ref (He.ga K x)) "__init__") (some (some (.ref (He.ma K (He.ga K x) "__init__")))), decide (typeIn K (.ref (He.ma K (He.ga K x) "__init__")) = some (.type "function")),
  keepIn K (.ref (He.ga K x)), decide (subIn K (.ref (He.ga K x)) (.type "BaseException") = some true), decide (subIn K (.ref (He.ga K x)) (.type "ValueError") = some true), decide (typeIn K (.ref (He.ga K x)) = some (.type "type")), hasDictIn K (He.ga K x), decide (mroIn K (He.ga K x) (.ref (He.ga K x)) = some true),
  He.eqO (nsIn K mainGlobals "super") (some none), He.eqO (nsIn K cStatics "thirdparty.any") (some none), He.eqO (ks_superIn K (He.ga K x) (He.ga K x) "__init__") (some (some (.builtin "ValueError.__init__"))), codeE K file x] : List Bool)[i]? = some b) : b = true :=
  List.all_eq_true.mp h b (List.mem_of_getElem? hb)
theorem errC_of {prog : Program} {K : Frag} {x f qual : Str} {params : Arguments} {body : List Stmt} {scope : Scope} (e : fnE K x = (some (("__init__" : Str), qual, params, FuncBody.stmts body, scope, mainGlobals, Value.none, builtinsNs) : FnE)) (h : errB K prog.main.file x f = true)
    (h1 : ∃ p1 p2, params = eA1 f p1 p2) (h2 : ∃ txt q1 q2 q3 q4 q5 q6 q7 q8 q9 q10, body = eB1 f txt q1 q2 q3 q4 q5 q6 q7 q8 q9 q10 ∧ (q3.endLine == q5.line) = true) (h3 : scope = eS1 f) (top : (prog.main.scope.names.lookup ("super" : Str)).isSome = false) :
    ErrC prog K (He.ga K x) (He.ma K (He.ga K x) "__init__") f := by
  have hc : codeE K prog.main.file x = true := errB_at h 16 rfl
  refine ⟨clsE_ok (errB_at h 0 rfl), He.eqO_ok (errB_at h 1 rfl), He.eqO_ok (errB_at h 2 rfl), He.eqO_ok (errB_at h 3 rfl), He.eqO_ok (errB_at h 4 rfl), He.eqO_ok (errB_at h 5 rfl), of_decide_eq_true (errB_at h 6 rfl), errB_at h 7 rfl, of_decide_eq_true (errB_at h 8 rfl), of_decide_eq_true (errB_at h 9 rfl),
    of_decide_eq_true (errB_at h 10 rfl), errB_at h 11 rfl, of_decide_eq_true (errB_at h 12 rfl), He.eqO_ok (errB_at h 13 rfl), He.eqO_ok (errB_at h 14 rfl), He.eqO_ok (errB_at h 15 rfl), top, ?_⟩
  obtain ⟨p1, p2, rfl⟩ := h1
  obtain ⟨txt, q1, q2, q3, q4, q5, q6, q7, q8, q9, q10, rfl, hl⟩ := h2
  subst h3
  unfold codeE at hc
  unfold fnE at e
  cases q : K.lookup (He.ma K (He.ga K x) "__init__") with
  | none => rw [q] at hc; cases hc
  | some o =>
    obtain ⟨oc, od, dt, osl⟩ := o
    rw [q] at hc e
    cases dt with
    | func fd =>
      obtain ⟨n1, n2, n3, n4, n5, n6, n7, n8, n9, n10, n11, n12, n13, n14, n15⟩ := fd
      have e2 : (some (n1, n2, n3, n4, n5, n6, n8, n15) : FnE) = (some (("__init__" : Str), qual, eA1 f p1 p2, FuncBody.stmts (eB1 f txt q1 q2 q3 q4 q5 q6 q7 q8 q9 q10), eS1 f, mainGlobals, Value.none, builtinsNs) : FnE) := e
      simp only [Option.some.injEq, Prod.mk.injEq] at e2
      obtain ⟨g1, g2, g3, g4, g5, g6, g7, g8⟩ := e2
      subst g1 g2 g3 g4 g5 g6 g7 g8
      dsimp only at hc
      split at hc
      · rename_i c0 l0 cda n cc
        simp only [Bool.and_eq_true, decide_eq_true_eq] at hc
        obtain ⟨hc1, rfl, hc2, hc3⟩ := hc
        split at hc2
        · rename_i ccl cdd vs ccs hcda
          split at hc2
          · rename_i z tf hvs
            have hz := of_decide_eq_true hc2
            subst hz
            split at hc3
            · rename_i cl cld D csl hcc
              have hD := of_decide_eq_true hc3
              subst hD
              exact ⟨cc, cda, _, oc, od, n9, n10, n11, n12, n14, osl, txt, p1, p2, q1, q2, q3, q4, q5, q6, q7, q8, q9, q10, cl, ccl, cld, cdd, csl, ccs, vs, tf, hl, rfl, hc1, hcc, hcda, hvs⟩
            · cases hc3
          · cases hc2
        · cases hc2
      · cases hc
    | _ => cases hc
/-- an own error's __init__, as the text has it -/
structure ErrD where
  x : Str
  qual : Str
  params : Arguments
  body : List Stmt
  scope : Scope
def ErrD.val (d : ErrD) : FnE := some (("__init__" : Str), d.qual, d.params, FuncBody.stmts d.body, d.scope, mainGlobals, Value.none, builtinsNs)
abbrev AlY : Type := He.AlD × Bool × List FnE
def obsY (fa : List He.Fa) (fn : List He.DefD) (ex : Frag → Bool) (er : List ErrD) (K : Frag) : AlY := (He.obsD fa fn K, ex K, er.map fun d => fnE K d.x)
def obsYG (n : Nat) (fa : List He.Fa) (fn : List He.DefD) (ex : Frag → Bool) (er : List ErrD) (g : Addr → Option Obj) : AlY := obsY fa fn ex er (He.frG g (He.asD g n ++ [cStatics]))
def hookY (n : Nat) (fa : List He.Fa) (fn : List He.DefD) (ex : Frag → Bool) (er : List ErrD) : PySem.W.Hook where
  α := AlY
  obs := fun s => obsYG n fa fn ex er s.heap.get?
  val := fun _ => (He.valD fn, true, er.map ErrD.val)
  says := fun _ h => ∃ K : Frag, K.In h ∧ He.SaysD fa fn K ∧ ex K = true ∧ er.map (fun d => fnE K d.x) = er.map ErrD.val
  of := fun _ _ e => ⟨_, He.frG_in, congrArg (fun z : AlY => z.1) e, congrArg (fun z : AlY => z.2.1) e, congrArg (fun z : AlY => z.2.2) e⟩
  keeps := fun _ _ _ ⟨K, hK, c⟩ k => ⟨K, PySem.W.Frag.In.keeps hK k, c⟩
theorem obsYG_eq {n : Nat} {fa : List He.Fa} {fn : List He.DefD} {ex : Frag → Bool} {er : List ErrD} {g : Addr → Option Obj} {s : Shared} (h : ∀ a, g a = s.heap.get? a) : obsYG n fa fn ex er g = (hookY n fa fn ex er).obs s := by
  have e : g = s.heap.get? := funext h
  rw [e] <;> rfl
theorem errs_at {K : Frag} {er : List ErrD} (h : er.map (fun d => fnE K d.x) = er.map ErrD.val) (i : Nat) {d : ErrD} (hd : er[i]? = some d) : fnE K d.x = d.val := by
  have e2 : (er.map fun d => fnE K d.x)[i]? = (er.map ErrD.val)[i]? := by rw [h]
  rw [List.getElem?_map, List.getElem?_map, hd] at e2
  exact Option.some.inj e2
end FW
namespace FW
open PySem PySem.Spec PyProof.Rows L2
/-! ### several clauses «except X as n» -/
/-- an exception that a try of X has caught; s: the state in which the clauses are asked -/
structure Cau (X : Cx) (pins : List (Addr × Obj)) (a : Addr) (B : Heap) (sI : Shared) (σ : L2.St) (H : Hp) (cls : Value) (d : Option Addr) (s : Shared) : Prop where
  hs : X.stack = X.env :: X.outer
  hf : X.env.frame = some X.env.locals
  inv : Inv X pins σ H sI
  nb : ∀ b o, sI.heap.get? b = some o → b ∉ frs X.stack → B.get? b = some o
  up : sI.heap.UpToSlots s.heap
  fly : HandSPX.FlyingZ B (X.env :: X.outer) a (Zc cls d) s.heap
  na : H a = none
  os : s.os = sI.os
  ag : AllBare s.gens
section
variable {X : Cx} {pins : List (Addr × Obj)} {a : Addr} {B : Heap} {sI s : Shared} {σ : L2.St} {H : Hp} {cls : Value} {d : Option Addr}
theorem Cau.now (c : Cau X pins a B sI σ H cls d s) : Inv X pins σ H s := c.inv.landed c.nb c.fly.1 c.up c.os c.ag
theorem Cau.on (c : Cau X pins a B sI σ H cls d s) {g : Heap} (f : HandSPX.FlyingZ B (X.env :: X.outer) a (Zc cls d) g) (u : s.heap.UpToSlots g) : Cau X pins a B sI σ H cls d { s with heap := g } :=
  ⟨c.hs, c.hf, c.inv, c.nb, c.up.trans u, f, c.na, c.os, c.ag⟩
theorem Cau.apart (c : Cau X pins a B sI σ H cls d s) : a ≠ X.env.locals ∧ a ∉ X.fs := by
  have no : a ∉ frs (X.env :: X.outer) := fun m => by
    obtain ⟨ox, vx, hx, _, dx⟩ := c.fly.there
    obtain ⟨_, ox', hx', nx⟩ := c.fly.2.2.1.mem m
    rw [hx] at hx'
    cases hx'
    exact nx _ dx
  have m0 : X.env.locals ∈ frs (X.env :: X.outer) := List.mem_filterMap.mpr ⟨X.env, List.mem_cons_self, c.hf⟩
  refine ⟨fun z => no (by rw [z]; exact m0), fun m => no ?_⟩
  obtain ⟨en, me, q⟩ := List.mem_filterMap.mp m
  exact List.mem_filterMap.mpr ⟨en, List.mem_cons_of_mem _ me, q⟩
theorem Cau.hold (c : Cau X pins a B sI σ H cls d s) : ∃ oe, Zc cls d oe ∧ (∃ vs, oe.data = .fields vs) ∧ s.heap.get? a = some oe ∧ Inv (X.suite a ((a, oe) :: (X.pn ++ pins))) [] σ H s := by
  obtain ⟨oe, vs, he, hz, hd⟩ := c.fly.there
  exact ⟨oe, hz, ⟨vs, hd⟩, he, c.now.suite he hd c.na c.apart.1 c.apart.2⟩
/-- a clause: its class, the slot of its name, its suite's reading -/
structure Cl where
  c : Value
  i : Nat
  ts : Addr → Value → Option Addr → TS
/-- what is wanted where clause after clause is asked -/
def wCls (K : PySem.W.Frag) (Wout : WX) (D : Ends) : List Cl → WX
  | [] => Wout
  | k :: r => fun cls d σ H => ∃ b, PySem.W.exmOne K cls k.c = some b ∧
      (b = true → ∀ a, H a = none → k.ts a cls d { nx := fun τ G => D.nx (τ.set k.i none) G, rt := D.rt, bk := fun τ G => D.bk (τ.set k.i none) G, ct := fun τ G => D.ct (τ.set k.i none) G } (σ.set k.i (some (.ref a))) H) ∧
      (b = false → wCls K Wout D r cls d σ H)
inductive Hds (X : Cx) : List ExceptHandler → List Cl → Prop
  | nil : Hds X [] []
  | cons {x n : Str} {k : Cl} {b₀ : Stmt} {suite : List Stmt} {np pos' : Pos} {hds : List ExceptHandler} {l : List Cl} (hN : X.N.Nodup) (hi : X.N[k.i]? = some n) (hln : X.env.kindOf n = some .local) (hc : Names X x k.c)
      (hsu : ∀ (a : Addr) (oe : Obj) (cls : Value) (d : Option Addr) (pn : List (Addr × Obj)), Zc cls d oe → (∃ vs, oe.data = .fields vs) → PSs (X.suite a ((a, oe) :: pn)) (b₀ :: suite) (k.ts a cls d)) (r : Hds X hds l) :
      Hds X (.ExceptHandler (some (.Name x np)) (some n) (b₀ :: suite) pos' :: hds) (k :: l)
/-- no clause takes it: it goes on -/
theorem Cau.pass (c : Cau X pins a B sI σ H cls d s) {Wout : WX} {Q : Flow → Shared → Prop} (tk : Takes X Wout) (w : Wout cls d σ H) : wpAny (model X.prog X.w) X.A (handleBy (.ref a) X.env []) Q X.xe s := by
  refine wpAny_handleBy_nil ?_
  have up0 : wpAny (model X.prog X.w) X.A (setFlight (.ref a) X.env.frame) (fun _ s4 => wpAny (model X.prog X.w) X.A (throw (.ref a) : Sem Flow) Q X.xe s4) X.xe s := by
    rw [c.hf]
    refine HandSPX.setFlight_upZ c.fly fun g gh gu => wpAny_throw (tk _ _ ?_)
    exact ⟨a, B, sI, pins, σ, H, cls, d, rfl, c.inv, c.nb, c.up.trans gu, .inr (.inr (by rw [c.hs]; exact gh)), c.na, c.os, c.ag, w⟩
  obtain ⟨_, _, _, oe, vs, Tb, oT, us, he, _, hd, h1, _⟩ := c.fly
  unfold PySem.passOn
  refine wpAny_bind (wpAny_field he hd h1 ?_)
  rw [if_neg (by simp)]
  first
    | exact wpAny_bind (wpAny_pure (wpAny_bind up0))
    | exact wpAny_bind up0
/-- the clauses, one behind the other -/
theorem Cau.ask {D : Ends} {Wout : WX} (tk : Takes X Wout) : ∀ {hds : List ExceptHandler} {l : List Cl}, Hds X hds l → Cau X pins a B sI σ H cls d s → wCls X.K Wout D l cls d σ H →
    wpAny (model X.prog X.w) X.A (handleBy (.ref a) X.env hds) (SP X pins D) X.xe s := by
  intro hds l hk c
  induction hk with
  | nil => exact fun w => c.pass tk w
  | @cons x n k b₀ suite np pos' hds' l' hN hi hln hc hsu _ ih =>
    rintro ⟨b, hb, yes, no⟩
    obtain ⟨oe, hz, hfl, he, S⟩ := c.hold
    refine wpAny_handleBy_cons (codeAny_handlers_test ?_) (by intro q; cases q)
    have lt : PySem.W.Looks (model X.prog X.w) s.heap (typeOf (.ref a)) cls := fun _ _ _ _ kp q => wpAny_typeOf_ref (kp _ _ he) (by rw [hz.1]; exact q)
    have lm := PySem.W.exm_one (M := model X.prog X.w) c.now.kIn lt hb
    have name : ∀ {Q : Value → Shared → Prop} {E : Value → Shared → Prop}, Q k.c s → wpAny (model X.prog X.w) (X.A.mark (some (.ref a))) (eval (.Name x np) X.env) Q E s := fun {Q E} q => by
      rcases hc with ⟨hg, hdb, hm | ⟨hm, hv, hnn⟩⟩
      · exact ld_glob (X := X.suite a ((a, oe) :: (X.pn ++ pins))) S hg hm q hdb
      · exact ld_blt (X := X.suite a ((a, oe) :: (X.pn ++ pins))) S hg hm hv q hnn hdb
    refine name (lm.here ?_)
    cases b with
    | false =>
      show wpAny _ X.A (handleBy (.ref a) X.env hds') _ _ _
      exact ih (no rfl)
    | true =>
      refine codeAny_handlers_suite_as (HandSPX.lands_againZ c.fly fun g gf gu => ?_)
      have c' := c.on gf gu
      obtain ⟨o2, z2, f2, e2, S2⟩ := c'.hold
      refine store_ok (X := X.suite a ((a, o2) :: (X.pn ++ pins))) (v := .ref a) S2 hN hi (.inl hln) rfl (fun s5 S5 => ?_) (.inr hln)
      refine wpAny_mono ((hsu a o2 cls d (X.pn ++ pins) z2 f2).run [] s5 _ H _ S5 (yes rfl a c.na)) (fun fl s6 hsp => ?_) (fun _ _ z => False.elim z)
      have leave : ∀ {τ : L2.St} {G : Hp} {Q : Shared → Prop}, Inv (X.suite a ((a, o2) :: (X.pn ++ pins))) [] τ G s6 → (∀ s7, Inv X pins (τ.set k.i none) G s7 → Q s7) →
          wpAny (model X.prog X.w) X.A (do bindName X.env n .none; unbindBehindTheSuite X.env n pos') (fun _ s7 => Q s7) X.xe s6 := fun {τ G Q} S6 hq => gone_ok (S6.unsuite c.inv.ok) hN hi hln hq
      cases fl with
      | ret u =>
        obtain ⟨v6, τ, G, S6, r6, q6⟩ := hsp
        exact leave S6 fun s7 J7 => ⟨_, _, _, J7, r6, q6⟩
      | next =>
        obtain ⟨τ, G, S6, q6⟩ := hsp
        exact leave S6 fun s7 J7 => ⟨_, _, J7, q6⟩
      | brk =>
        obtain ⟨τ, G, S6, q6⟩ := hsp
        exact leave S6 fun s7 J7 => ⟨_, _, J7, q6⟩
      | cont =>
        obtain ⟨τ, G, S6, q6⟩ := hsp
        exact leave S6 fun s7 J7 => ⟨_, _, J7, q6⟩
end
section
variable {X : Cx} {body : List Stmt} {h₀ : ExceptHandler} {hds : List ExceptHandler} {l : List Cl} {pos : Pos} {tb : WX → TS} {Wout : WX}
/-- try: body except X1 as n1: .. except X2 as n2: .. -/
def tTryA (K : PySem.W.Frag) (tb : WX → TS) (l : List Cl) (Wout : WX) : TS := fun D σ H => tb (wCls K Wout D l) D σ H
theorem ps_tryA (hs : X.stack = X.env :: X.outer) (hf : X.env.frame = some X.env.locals) (tk : Takes X Wout)
    (hb : ∀ (W : WX) (pn : List (Addr × Obj)) (xe : Value → Shared → Prop), Takes (X.tr pn xe) W → PassesOwn (model X.prog X.w) X.A X.env xe → PSs (X.tr pn xe) body (tb W))
    (hh : Hds X (h₀ :: hds) l) : PS X (.Try body (h₀ :: hds) [] [] pos) (tTryA X.K tb l Wout) := by
  refine ⟨fun pins s σ H D I h => wpAny_Try_except ?_⟩
  have fr : X.A.frames = some (X.env :: X.outer) := by rw [I.ok.frames, hs]
  have run := (hb (wCls X.K Wout D l) (X.pn ++ pins) (fun e s₁ => wpAny (model X.prog X.w) X.A (noteFrame e X.env) (fun _ s₂ => wpAny (model X.prog X.w) X.A (setFlight e none)
    (fun _ s₃ => wpAny (model X.prog X.w) X.A (handleBy e X.env (h₀ :: hds)) (SP X pins D) X.xe s₃) X.xe s₂) X.xe s₁) ?_ PassesOwn.looking).run [] s σ H D (I.toTry _) h
  · refine wpAny_mono run (fun fl s1 hsp => ?_) (fun _ _ he => he)
    cases fl with
    | ret u =>
      obtain ⟨v, τ, G, J, r, q⟩ := hsp
      exact ⟨v, τ, G, J.ofTry I.ok, r, q⟩
    | next =>
      obtain ⟨τ, G, J, q⟩ := hsp
      exact wpAny_execs_nil ⟨τ, G, J.ofTry I.ok, q⟩
    | brk =>
      obtain ⟨τ, G, J, q⟩ := hsp
      exact ⟨τ, G, J.ofTry I.ok, q⟩
    | cont =>
      obtain ⟨τ, G, J, q⟩ := hsp
      exact ⟨τ, G, J.ofTry I.ok, q⟩
  · rintro u s1 ⟨a, B, sI, ps, τ, G, cls, d, rfl, J, nb, up, sky, na, os, ag, w⟩
    have sky' : Sky B (X.env :: X.outer) a (Zc cls d) X.env.locals s1.heap := by rw [← hs]; exact sky
    show wpAny (model X.prog X.w) X.A (noteFrame (.ref a) X.env) _ _ _
    refine Sky.land Zc.steady fr hf sky' fun g gf gu => ?_
    exact Cau.ask (s := { s1 with heap := g }) tk hh ⟨hs, hf, J.ofTry I.ok, nb, up.trans gu, gf, na, os, ag⟩ w
/-- no exception leaves: a def that may raise, called where E0 is wanted -/
theorem passNo {P : Program} {w : World} {X : Cx} : Passes (L2.CX P w) X E0 := fun _ _ _ _ _ _ _ ⟨_, _, _, _, _, _, _, _, _, _, _, _, z⟩ => z.elim
theorem takesNo {X : Cx} : Takes X (fun _ _ _ _ => False) := fun _ _ ⟨_, _, _, _, _, _, _, _, _, _, _, _, _, _, _, _, z⟩ => z.elim
end
/-! ### calls of defs that may raise -/
section
variable {X : Cx} {k j : Nat} {C : Addr} {x m : Str} {sp : Sp} {dvs : List V} {p pos apos : Pos} {e o : Expr} {es : List Expr} {ta : TE} {t : TA} {E : XK} {W : WX}
abbrev CXX (X : Cx) : CXT := L2.CX X.prog X.w
/-- where nothing is raised -/
theorem pe_fN (c : Fn X.prog X.w X.K X.mg X.base (CXX X) k x sp dvs) (hr : Room j X.A) (hk : k ≤ j) (hg : Gl X x) (ha : PA X (e :: es) t)
    (hdb : (x == ("__debug__" : Str)) = false := by decide) (he : starEach (e :: es) X.env = (false, eval e X.env) :: starEach es X.env := by rfl) (hpl : (backTo pos (starEach es X.env)).any (·.1) = false := by rfl) :
    PE X (.Call (.Name x p) (e :: es) [] pos) (tCall sp dvs E0 t) := by
  obtain ⟨f, fd, ps, ds, F, hm, kp, b, d⟩ := c.ex
  exact pe_call F (hr.mono hk) hg hm kp b d passNo ha hdb he hpl
theorem pe_fX (tk : Takes X (fun cls d _ H => E cls d H)) (c : Fn X.prog X.w X.K X.mg X.base (CXX X) k x sp dvs) (hr : Room j X.A) (hk : k ≤ j) (hg : Gl X x) (ha : PA X (e :: es) t)
    (hdb : (x == ("__debug__" : Str)) = false := by decide) (he : starEach (e :: es) X.env = (false, eval e X.env) :: starEach es X.env := by rfl) (hpl : (backTo pos (starEach es X.env)).any (·.1) = false := by rfl) :
    PE X (.Call (.Name x p) (e :: es) [] pos) (tCall sp dvs E t) := by
  obtain ⟨f, fd, ps, ds, F, hm, kp, b, d⟩ := c.ex
  exact pe_call F (hr.mono hk) hg hm kp b d (passes_call tk fun _ _ _ _ h => h) ha hdb he hpl
theorem pe_fS (tk : Takes X W) (c : Fn X.prog X.w X.K X.mg X.base (CXX X) k x sp []) (hr : Room j X.A) (hk : k ≤ j) (hg : Gl X x) (ha : PA X (e :: es) t)
    (hdb : (x == ("__debug__" : Str)) = false := by decide) (he : starEach (e :: es) X.env = (false, eval e X.env) :: starEach es X.env := by rfl) (hpl : (backTo pos (starEach es X.env)).any (·.1) = false := by rfl) :
    PE X (.Call (.Name x p) (e :: es) [] pos) (tCallS sp (WE W) t) := by
  obtain ⟨f, fd, ps, ds, F, hm, kp, b, d⟩ := c.ex
  cases d
  exact pe_callS F (hr.mono hk) hg hm kp b (fun σ => passAt tk σ) ha hdb he hpl
theorem pe_mN (c : Mkr X.prog X.w X.K X.mg X.base (CXX X) k x C sp dvs) (hr : Room j X.A) (hk : k + 1 ≤ j) (hg : Gl X x) (ha : PA X (e :: es) t)
    (hdb : (x == ("__debug__" : Str)) = false := by decide) (he : starEach (e :: es) X.env = (false, eval e X.env) :: starEach es X.env := by rfl) (hpl : (backTo pos (starEach es X.env)).any (·.1) = false := by rfl) :
    PE X (.Call (.Name x p) (e :: es) [] pos) (tMake C sp dvs E0 t) := by
  obtain ⟨f, fd, ps, ds, M, F, hm, b, d⟩ := c.ex
  exact pe_make M F (hr.mono hk) hg hm b d passNo ha hdb he hpl
theorem pe_mX (tk : Takes X (fun cls d _ H => E cls d H)) (c : Mkr X.prog X.w X.K X.mg X.base (CXX X) k x C sp dvs) (hr : Room j X.A) (hk : k + 1 ≤ j) (hg : Gl X x) (ha : PA X (e :: es) t)
    (hdb : (x == ("__debug__" : Str)) = false := by decide) (he : starEach (e :: es) X.env = (false, eval e X.env) :: starEach es X.env := by rfl) (hpl : (backTo pos (starEach es X.env)).any (·.1) = false := by rfl) :
    PE X (.Call (.Name x p) (e :: es) [] pos) (tMake C sp dvs E t) := by
  obtain ⟨f, fd, ps, ds, M, F, hm, b, d⟩ := c.ex
  exact pe_make M F (hr.mono hk) hg hm b d (passes_call tk fun _ _ _ _ h => h) ha hdb he hpl
/-- the shape of o.m(..) in the model's words -/
abbrev MTree (X : Cx) (o : Expr) (m : Str) (apos pos : Pos) (args : List Expr) (pl : Sem Bool) : Prop := eval (.Call (.Attribute o m apos) args [] pos) X.env = (do
  let ov ← eval o X.env; standAt apos.atName; let (f, first) ← holding [ov] (getMethod ov m pl); callWith pos f first (backTo pos (starEach args X.env)) (backToKw pos (keywordEach [] X.env)))
theorem pe_oN {pl : Sem Bool} (c : Mt X.prog X.w X.K X.mg X.base (CXX X) k C m sp dvs) (hr : Room j X.A) (hk : k ≤ j) (he : PE X o ta) (ha : PA X (e :: es) t)
    (hst : starEach (e :: es) X.env = (false, eval e X.env) :: starEach es X.env := by rfl) (hpl : (backTo pos (starEach es X.env)).any (·.1) = false := by rfl) (ht : MTree X o m apos pos (e :: es) pl := by rfl) :
    PE X (.Call (.Attribute o m apos) (e :: es) [] pos) (tMeth C m sp dvs E0 ta t) := by
  obtain ⟨f, fd, ps, ds, hc, hm, F, b, d⟩ := c.ex
  exact pe_meth (pl := pl) he hc hm F (hr.mono hk) b d passNo ha hst hpl ht
theorem pe_oX {pl : Sem Bool} (tk : Takes X (fun cls d _ H => E cls d H)) (c : Mt X.prog X.w X.K X.mg X.base (CXX X) k C m sp dvs) (hr : Room j X.A) (hk : k ≤ j) (he : PE X o ta) (ha : PA X (e :: es) t)
    (hst : starEach (e :: es) X.env = (false, eval e X.env) :: starEach es X.env := by rfl) (hpl : (backTo pos (starEach es X.env)).any (·.1) = false := by rfl) (ht : MTree X o m apos pos (e :: es) pl := by rfl) :
    PE X (.Call (.Attribute o m apos) (e :: es) [] pos) (tMeth C m sp dvs E ta t) := by
  obtain ⟨f, fd, ps, ds, hc, hm, F, b, d⟩ := c.ex
  exact pe_meth (pl := pl) he hc hm F (hr.mono hk) b d (passes_call tk fun _ _ _ _ h => h) ha hst hpl ht
/-- in a try's body: what is raised is wished for at the slots as they stand -/
def tMethW (C : Addr) (m : Str) (sp : Sp) (W : WX) (ta : TE) (t : TA) : TE := fun σ H Q => ta σ H fun x H1 => ∃ a dx fs, x = .ref a ∧ H1 a = some (.ins C dx fs) ∧ fs.lookup m = none ∧ t σ H1 fun vs H2 => sp (x :: vs) H2 Q (WE W σ)
theorem pe_oS {pl : Sem Bool} (tk : Takes X W) (c : Mt X.prog X.w X.K X.mg X.base (CXX X) k C m sp []) (hr : Room j X.A) (hk : k ≤ j) (he : PE X o ta) (ha : PA X (e :: es) t)
    (hst : starEach (e :: es) X.env = (false, eval e X.env) :: starEach es X.env := by rfl) (hpl : (backTo pos (starEach es X.env)).any (·.1) = false := by rfl) (ht : MTree X o m apos pos (e :: es) pl := by rfl) :
    PE X (.Call (.Attribute o m apos) (e :: es) [] pos) (tMethW C m sp W ta t) := by
  obtain ⟨f, fd, ps, ds, hc, hm, F, b, d⟩ := c.ex
  cases d
  refine ⟨fun pins s σ H Q I h => PySem.W.methodCall_KW (pl := pl) (thn (he.run pins s σ H _ I h) ?_) ht⟩
  rintro u s1 ⟨x, H1, I1, rx, a, dx, fs, rfl, ea, l, q⟩
  obtain rfl : u = Value.ref a := rx
  refine getmeth_ok I1 ea hc hm l (PySem.W.callWith_K (first := [.ref a]) (h₀ := X.base) I.ok.mod.kin hm.kp (thn (ha.run pos pins s1 σ H1 _ I1 q) ?_) hst hpl)
  rintro us s2 ⟨vs, H2, I2, r, q2⟩
  exact ⟨I2.kIn, run_fnS (us := .ref a :: us) (vs := .ref a :: vs) F (hr.mono hk) b (passAt tk σ) I2 (.cons rfl r) q2⟩
end
section
variable {P : Program} {w : World} {K : PySem.W.Frag} {mg : Str → Option Value} {base : Heap}
abbrev CXP (P : Program) (w : World) : CXT := L2.CX P w
theorem Fn.mkX {x : Str} {params : Arguments} {body : List Stmt} {scope : Scope} {f : Addr} {N ps : List Str} {k : Nat} {sp : Sp}
    (F : ∃ fd, FunD K x x params body scope [] [] f fd) (g : mg x = some (.ref f)) (S : FnScope N ps scope)
    (hb : ∀ (kV doc pm : Value) (an : Option Addr) (cdv ct : Value) (us : List Value), us.length = ps.length → bindArgs (PySem.W.fnOf x x params body scope .none kV doc pm an cdv ct) ⟨us, []⟩ = pure (ps.zip us))
    (len : ∀ vs H Q E, sp vs H Q E → vs.length = ps.length)
    (hbody : ∀ (cdv : Value) (A : Around) (outer : List Env) (s : Shared) (H : Hp) (vs : List V) (Q : VK) (E : XK), Room k (A.deeper (envOfC x scope s.heap.objs.size f cdv)) → sp vs H Q E →
      ∃ t, PSs (cxOf (CXP P w) P w K mg base N x scope f cdv A outer s H E) body t ∧ t { nx := fun _ H' => Q .non H', rt := Q } (start N vs) H) : Fn P w K mg base (CXP P w) (k + 1) x sp [] := by
  obtain ⟨fd, F⟩ := F
  exact ⟨f, fd, ps, [], F.ok S len hbody, g, F.kp, F.bindsN hb, .nil⟩
theorem Mt.mkX {m qual : Str} {C : Addr} {params : Arguments} {body : List Stmt} {scope : Scope} {f : Addr} {N ps : List Str} {k : Nat} {sp : Sp}
    (c : Cls K C) (me : Meth K C m f) (F : ∃ fd, FunD K m qual params body scope [] [] f fd) (S : FnScope N ps scope)
    (hb : ∀ (kV doc pm : Value) (an : Option Addr) (cdv ct : Value) (us : List Value), us.length = ps.length → bindArgs (PySem.W.fnOf m qual params body scope .none kV doc pm an cdv ct) ⟨us, []⟩ = pure (ps.zip us))
    (len : ∀ vs H Q E, sp vs H Q E → vs.length = ps.length)
    (hbody : ∀ (cdv : Value) (A : Around) (outer : List Env) (s : Shared) (H : Hp) (vs : List V) (Q : VK) (E : XK), Room k (A.deeper (envOfC qual scope s.heap.objs.size f cdv)) → sp vs H Q E →
      ∃ t, PSs (cxOf (CXP P w) P w K mg base N qual scope f cdv A outer s H E) body t ∧ t { nx := fun _ H' => Q .non H', rt := Q } (start N vs) H) : Mt P w K mg base (CXP P w) (k + 1) C m sp [] := by
  obtain ⟨fd, F⟩ := F
  exact ⟨f, fd, ps, [], c, me, F.ok S len hbody, F.bindsN hb, .nil⟩
theorem Mkr.mkX {x qual : Str} {C : Addr} {params : Arguments} {body : List Stmt} {scope : Scope} {f : Addr} {N ps : List Str} {k : Nat} {sp : Sp} {dvs : List V}
    (n j : Nat) (M : Mk K C f) (g : mg x = some (.ref C)) (F : ∃ fd, FunD K "__init__" qual params body scope dvs [] f fd) (S : FnScope N ps scope) (hd : dvs ≠ []) (hn : n + (dvs.length - j) = ps.length)
    (hb : ∀ (T : Addr) (kV doc pm : Value) (an : Option Addr) (cdv ct : Value) (us its : List Value), us.length = n → its.length = dvs.length →
      ∃ k, bindArgs (PySem.W.fnOf "__init__" qual params body scope (.ref T) kV doc pm an cdv ct) ⟨us, []⟩ = seqItems? (.ref T) >>= k ∧ k (some its.toArray) = pure (ps.zip (us ++ its.drop j)))
    (len : ∀ vs H Q E, sp vs H Q E → vs.length = ps.length)
    (hbody : ∀ (cdv : Value) (A : Around) (outer : List Env) (s : Shared) (H : Hp) (vs : List V) (Q : VK) (E : XK), Room k (A.deeper (envOfC qual scope s.heap.objs.size f cdv)) → sp vs H Q E →
      ∃ t, PSs (cxOf (CXP P w) P w K mg base N qual scope f cdv A outer s H E) body t ∧ t { nx := fun _ H' => Q .non H', rt := Q } (start N vs) H) : Mkr P w K mg base (CXP P w) (k + 1) x C sp (dvs.drop j) := by
  obtain ⟨fd, F⟩ := F
  obtain ⟨ds, hv, hbn⟩ := F.binds1 (ps := ps) n j hd hn hb
  exact ⟨f, fd, ps, ds, M, F.ok S len hbody, g, hbn, hv⟩
theorem Mkr.mkX0 {x qual : Str} {C : Addr} {params : Arguments} {body : List Stmt} {scope : Scope} {f : Addr} {N ps : List Str} {k : Nat} {sp : Sp}
    (M : Mk K C f) (g : mg x = some (.ref C)) (F : ∃ fd, FunD K "__init__" qual params body scope [] [] f fd) (S : FnScope N ps scope)
    (hb : ∀ (kV doc pm : Value) (an : Option Addr) (cdv ct : Value) (us : List Value), us.length = ps.length → bindArgs (PySem.W.fnOf "__init__" qual params body scope .none kV doc pm an cdv ct) ⟨us, []⟩ = pure (ps.zip us))
    (len : ∀ vs H Q E, sp vs H Q E → vs.length = ps.length)
    (hbody : ∀ (cdv : Value) (A : Around) (outer : List Env) (s : Shared) (H : Hp) (vs : List V) (Q : VK) (E : XK), Room k (A.deeper (envOfC qual scope s.heap.objs.size f cdv)) → sp vs H Q E →
      ∃ t, PSs (cxOf (CXP P w) P w K mg base N qual scope f cdv A outer s H E) body t ∧ t { nx := fun _ H' => Q .non H', rt := Q } (start N vs) H) : Mkr P w K mg base (CXP P w) (k + 1) x C sp [] := by
  obtain ⟨fd, F⟩ := F
  exact ⟨f, fd, ps, [], M, F.ok S len hbody, g, F.bindsN hb, .nil⟩
end
end FW
local macro_rules | `(tactic| walk_at "re1") => `(tactic| with_reducible first
  | refine FW.e_var ?_ (by with_unfolding_all rfl) | refine FW.e_c ?_ | refine FW.e_op ?_ | refine FW.e_un ?_ | refine FW.e_U ?_ | refine FW.e_I0 ?_ | refine FW.e_I ?_ ?_ | refine FW.e_ip ?_
  | refine FW.e_test ?_ | refine FW.e_tB ?_ | refine FW.e_bl ?_ | refine FW.e_not ?_ | refine FW.e_and ?_ | refine FW.e_or ?_ | refine FW.e_andV ?_ | refine FW.e_orV ?_ | refine FW.e_notV ?_ | refine FW.e_ifx ?_
  | refine FW.e_nil ?_ | refine FW.e_cons ?_ | refine FW.e_call ?_ | refine FW.e_cb ?_ | refine FW.e_lst ?_ | refine FW.e_tup ?_ | refine FW.e_int ?_ | refine FW.e_intB ?_ | refine FW.e_abs ?_ | refine FW.e_max2 ?_ | refine FW.e_min2 ?_
  | refine FW.e_eq ?_ rfl | refine FW.e_ne ?_ rfl | refine FW.e_isN ?_ | refine FW.e_notN ?_ | refine FW.e_chain ?_ | refine FW.e_T ?_ | refine FW.e_F ?_ | refine FW.e_nT ?_ | refine FW.e_nF ?_ | refine FW.s_par2 ?_ | refine FW.i_rng1' ?_ ?_ | refine FW.i_rng2' ?_ ?_ | refine FW.g_sub ?_ | refine FW.e_lc ?_ | refine FW.e_yes ?_ | refine FW.e_bm ?_ | refine FW.e_bm0 ?_ | refine FW.e_mk ?_ | refine FW.e_mt ?_ | refine FW.e_fldk ?_ | refine FW.g_name ?_ | refine FW.g_nil ?_ | refine FW.g_cons ?_)
local macro_rules | `(tactic| walk_at "rs1") => `(tactic| with_reducible first
  | refine FW.s_seq ?_ | refine FW.s_asg ?_ | refine FW.s_ret ?_ | refine FW.s_if ?_ | refine FW.s_next ?_ | refine FW.s_drop ?_ | refine FW.s_fld ?_ | refine FW.s_par ?_ | refine FW.s_aug ?_ (by with_unfolding_all rfl) | refine FW.s_asgG ?_ | refine FW.s_for ?_ | refine FW.i_rng1 ?_ | refine FW.i_rng2 ?_ | refine FW.i_list ?_ | refine FW.i_tup ?_)
local macro_rules | `(tactic| walk_at "re") => `(tactic| repeat (walk_at "re1"))
local macro_rules | `(tactic| walk_at "rd") => `(tactic| repeat (first | walk_at "rs1" | walk_at "re1"))
namespace FWL
open PySem PySem.Spec PyProof.Rows L2 FW
/-! ### is_whole, is_whole_from -/
def tyNames : List String := ["NoneType", "bool", "int", "str", "float", "list", "tuple", "dict"]
/-- a thing of a built-in kind -/
def WT (K : PySem.W.Frag) (H : Hp) (v : V) (n : String) : Prop := TyX K H v (.type n) ∧ n ∈ tyNames
def isInt : V → Bool
  | .int _ => true
  | _ => false
def isStr : V → Bool
  | .str _ => true
  | _ => false
def iv : V → Int
  | .int i => i
  | _ => 0
def fromI (v : V) (l : Int) : Bool := isInt v && decide (l ≤ iv v)
theorem WT.isInt {K : PySem.W.Frag} {H : Hp} {v : V} {n : String} (h : WT K H v n) : isInt v = decide (n = "int") := by
  obtain ⟨h, _⟩ := h
  generalize ht : Value.type n = t at h
  cases h with
  | base b => cases b <;> first | (cases ht; rfl) | (injection ht with e; subst e; rfl) | cases ht
  | _ => injection ht with e; subst e; rfl
theorem WT.isStr {K : PySem.W.Frag} {H : Hp} {v : V} {n : String} (h : WT K H v n) : isStr v = decide (n = "str") := by
  obtain ⟨h, _⟩ := h
  generalize ht : Value.type n = t at h
  cases h with
  | base b => cases b <;> first | (cases ht; rfl) | (injection ht with e; subst e; rfl) | cases ht
  | _ => injection ht with e; subst e; rfl
theorem isInt_of {v : V} (h : isInt v = true) : ∃ i, v = .int i := by cases v <;> first | exact ⟨_, rfl⟩ | cases h
theorem isStr_of {v : V} (h : isStr v = true) : ∃ i, v = .str i := by cases v <;> first | exact ⟨_, rfl⟩ | cases h
theorem WT.i {K : PySem.W.Frag} {H : Hp} (i : Int) : WT K H (.int i) "int" := ⟨.base (.int i), by decide⟩
theorem WT.s {K : PySem.W.Frag} {H : Hp} (i : Str) : WT K H (.str i) "str" := ⟨.base (.str i), by decide⟩
theorem WT.non {K : PySem.W.Frag} {H : Hp} : WT K H .non "NoneType" := ⟨.base .non, by decide⟩
theorem WT.bl {K : PySem.W.Frag} {H : Hp} (b : Bool) : WT K H (.bl b) "bool" := ⟨.base (.bl b), by decide⟩
theorem WT.lst {K : PySem.W.Frag} {H : Hp} {a : Addr} {xs : List V} (h : H a = some (.lst xs)) : WT K H (.ref a) "list" := ⟨.base (.lst h), by decide⟩
theorem WT.tup {K : PySem.W.Frag} {H : Hp} {a : Addr} {xs : List V} (h : H a = some (.tup xs)) : WT K H (.ref a) "tuple" := ⟨.base (.tup h), by decide⟩
theorem kitI {n : String} (h : n ∈ tyNames) : kitB n "int" = some (decide (n = "int" ∨ n = "bool")) := by
  simp only [tyNames, List.mem_cons, List.not_mem_nil, or_false] at h
  rcases h with rfl | rfl | rfl | rfl | rfl | rfl | rfl | rfl <;> decide +kernel
theorem kitBl {n : String} (h : n ∈ tyNames) : kitB n "bool" = some (decide (n = "bool")) := by
  simp only [tyNames, List.mem_cons, List.not_mem_nil, or_false] at h
  rcases h with rfl | rfl | rfl | rfl | rfl | rfl | rfl | rfl <;> decide +kernel
theorem kitS {n : String} (h : n ∈ tyNames) : kitB n "str" = some (decide (n = "str")) := by
  simp only [tyNames, List.mem_cons, List.not_mem_nil, or_false] at h
  rcases h with rfl | rfl | rfl | rfl | rfl | rfl | rfl | rfl <;> decide +kernel
theorem e_isi {K : PySem.W.Frag} {H : Hp} {Q : VK} {v : V} {n m : String} {b : Bool} (k : Q (.bl b) H) (h : WT K H v n) (hk : kitB n m = some b) : rIsi K [v, .ty m] H Q :=
  ⟨v, .ty m, .type n, .type m, b, rfl, .ty m, h.1, kit_ty hk, k⟩
def sp_is_whole (K : PySem.W.Frag) : Sp := fun vs H Q _ => ∃ (v : V) (n : String), vs = [v] ∧ WT K H v n ∧ Q (.bl (isInt v)) H
def rd_is_whole (K : PySem.W.Frag) : TS := tRet (tAndV (tCB (rIsi K) (tCons (tVar 0) (tCons (tC (.ty "int")) (tNil)))) (tNotV (tCB (rIsi K) (tCons (tVar 0) (tCons (tC (.ty "bool")) (tNil))))))
theorem pure_is_whole (K : PySem.W.Frag) (vs : List V) (H : Hp) (Q : VK) (E : XK) (h : sp_is_whole K vs H Q E) : rd_is_whole K { nx := fun _ H' => Q .non H', rt := Q } (start ["thing"] vs) H := by
  obtain ⟨v, n, rfl, hv, q⟩ := h
  have e := hv.isInt
  unfold rd_is_whole
  walk_at "rd"
  refine e_isi ?_ hv (kitI hv.2)
  refine ?_
  walk_at "rd"
  refine e_ite (fun h => ?_) (fun h => ?_)
  · walk_at "rd"
    refine e_isi ?_ hv (kitBl hv.2)
    walk_at "rd"
    show Q (.bl (!decide (n = "bool"))) H
    have : (!decide (n = "bool")) = isInt v := by
      rw [e]
      rcases h with rfl | rfl <;> decide
    rw [this]; exact q
  · have : isInt v = false := by
      rw [e]; exact decide_eq_false fun z => h (.inl z)
    rw [this] at q; exact q
def sp_is_whole_from (K : PySem.W.Frag) : Sp := fun vs H Q _ => ∃ (v : V) (n : String) (l : Int), vs = [v, .int l] ∧ WT K H v n ∧ Q (.bl (fromI v l)) H
def rd_is_whole_from (K : PySem.W.Frag) : TS := tRet (tAndV (tCall (sp_is_whole K) [] E0 (tCons (tVar 0) (tNil))) (tOp FW.rGe (tVar 0) (tVar 1)))
theorem pure_is_whole_from (K : PySem.W.Frag) (vs : List V) (H : Hp) (Q : VK) (E : XK) (h : sp_is_whole_from K vs H Q E) : rd_is_whole_from K { nx := fun _ H' => Q .non H', rt := Q } (start ["thing", "least"] vs) H := by
  obtain ⟨v, n, l, rfl, hv, q⟩ := h
  unfold rd_is_whole_from
  walk_at "rd"
  refine ⟨v, n, rfl, hv, ?_⟩
  walk_at "rd"
  refine e_iteB (fun h => ?_) (fun h => ?_)
  · obtain ⟨i, rfl⟩ := isInt_of h
    walk_at "rd"
    have : fromI (.int i) l = decide (l ≤ i) := Bool.true_and _
    rw [this] at q; exact q
  · have : fromI v l = false := by simp [fromI, h]
    rw [this] at q; exact q
/-! ### check_number, check_start where nothing is raised -/
def sp_check_number (K : PySem.W.Frag) : Sp := fun vs H Q _ => ∃ n : Int, vs = [.int n] ∧ 0 ≤ n ∧ Q .non H
def sp_check_start (K : PySem.W.Frag) : Sp := fun vs H Q _ => ∃ n : Int, vs = [.int n] ∧ 1 ≤ n ∧ Q .non H
def rd_check_number (K : PySem.W.Frag) : TS := tIfS (tNot (tB (tCall (sp_is_whole_from K) [] E0 (tCons (tVar 0) (tCons (tC (.int 0)) (tNil)))))) (tNever) (tNext)
def rd_check_start (K : PySem.W.Frag) : TS := tIfS (tNot (tB (tCall (sp_is_whole_from K) [] E0 (tCons (tVar 0) (tCons (tC (.int 1)) (tNil)))))) (tNever) (tNext)
theorem pure_check_number (K : PySem.W.Frag) (vs : List V) (H : Hp) (Q : VK) (E : XK) (h : sp_check_number K vs H Q E) : rd_check_number K { nx := fun _ H' => Q .non H', rt := Q } (start ["n"] vs) H := by
  obtain ⟨n, rfl, hn, q⟩ := h
  unfold rd_check_number
  walk_at "rd"
  refine ⟨_, _, _, rfl, WT.i n, ?_⟩
  have : fromI (.int n) 0 = true := by simp [fromI, isInt, iv, hn]
  rw [this]
  walk_at "rd"
  exact q
theorem pure_check_start (K : PySem.W.Frag) (vs : List V) (H : Hp) (Q : VK) (E : XK) (h : sp_check_start K vs H Q E) : rd_check_start K { nx := fun _ H' => Q .non H', rt := Q } (start ["x"] vs) H := by
  obtain ⟨n, rfl, hn, q⟩ := h
  unfold rd_check_start
  walk_at "rd"
  refine ⟨_, _, _, rfl, WT.i n, ?_⟩
  have : fromI (.int n) 1 = true := by simp [fromI, isInt, iv, hn]
  rw [this]
  walk_at "rd"
  exact q

def rd_power_L1 (K : PySem.W.Frag) : TS := tAug 2 (tVar 0) FW.iMul
def rd_power (K : PySem.W.Frag) : TS := tSeq (tAsg (tC (.int 1)) (gName 2)) (tSeq (tFor (iRng1 (tCons (tVar 1) (tNil))) (gName 3) (rd_power_L1 K)) (tRet (tVar 2)))
/-- x ^ k, x below 2 ^ b -/
def sp_power (K : PySem.W.Frag) : Sp := fun vs H Q _ => ∃ (x k : Int) (b : Nat), vs = [.int x, .int k] ∧ 0 ≤ k ∧ x.natAbs < 2 ^ b ∧ 0 < b ∧ (k.toNat + 1) * b ≤ 900000 ∧ Q (.int (x ^ k.toNat)) H
theorem pow_lt {x : Int} {b : Nat} (h : x.natAbs < 2 ^ b) (hb : 0 < b) : ∀ n : Nat, (x ^ n).natAbs < 2 ^ (n * b + 1)
  | 0 => by simp
  | n + 1 => by
    have ih := pow_lt h hb n
    rw [Int.pow_succ, Int.natAbs_mul, Nat.add_mul, Nat.one_mul, Nat.add_right_comm, Nat.pow_add]
    exact Nat.mul_lt_mul'' ih h
theorem pure_power (K : PySem.W.Frag) (vs : List V) (H : Hp) (Q : VK) (E : XK) (h : sp_power K vs H Q E) : rd_power K { nx := fun _ H' => Q .non H', rt := Q } (start ["x", "k", "found", "turn"] vs) H := by
  obtain ⟨x, k, b, rfl, hk, hx, hb, hz, q⟩ := h
  unfold rd_power
  walk_at "rd"
  refine for_range (lo := 0) (n := k.toNat) (fun i σ H' => H' = H ∧ ∃ v, σ = [some (.int x), some (.int k), some (.int (x ^ i)), v]) ⟨rfl, _, by rw [Int.pow_zero]; rfl⟩ ?_ ?_
  · rintro i σ H' hi ⟨rfl, v, rfl⟩
    show rd_power_L1 K _ _ _
    unfold rd_power_L1
    walk_at "rd"
    · exact ⟨rfl, _, by rw [Int.pow_succ]; rfl⟩
    · refine wide_mul (pow_lt hx hb i) hx (by omega) hb ?_
      have : (i + 1) * b ≤ (k.toNat + 1) * b := Nat.mul_le_mul_right _ (by omega)
      rw [Nat.add_mul] at this
      omega
  · rintro σ H' ⟨rfl, v, rfl⟩
    walk_at "rd"
    exact q
  · have : k.toNat * 1 ≤ k.toNat * b := Nat.mul_le_mul_left _ hb
    rw [Nat.add_mul] at hz
    omega

/-! ### words -/
def wordOf (v : V) (ws : List V) : Bool := isStr v && inV v ws
def sp_is_word_of (K : PySem.W.Frag) : Sp := fun vs H Q _ => ∃ (v : V) (n : String) (a : Addr) (ws : List V), vs = [v, .ref a] ∧ WT K H v n ∧ SqT K H a ws ∧ ws.all flatV = true ∧ Q (.bl (wordOf v ws)) H
def rd_is_word_of (K : PySem.W.Frag) : TS := tRet (tAndV (tCB (rIsi K) (tCons (tVar 0) (tCons (tC (.ty "str")) (tNil)))) (tOp (rIn K false) (tVar 0) (tVar 1)))
theorem pure_is_word_of (K : PySem.W.Frag) (vs : List V) (H : Hp) (Q : VK) (E : XK) (h : sp_is_word_of K vs H Q E) : rd_is_word_of K { nx := fun _ H' => Q .non H', rt := Q } (start ["thing", "words"] vs) H := by
  obtain ⟨v, n, a, ws, rfl, hv, hw, hf, q⟩ := h
  have e := hv.isStr
  unfold rd_is_word_of
  walk_at "rd"
  refine e_isi ?_ hv (kitS hv.2)
  refine ?_
  walk_at "rd"
  refine e_ite (fun h => ?_) (fun h => ?_)
  · rw [decide_eq_true h] at e
    obtain ⟨x, rfl⟩ := isStr_of e
    walk_at "rd"
    refine e_in ?_ (.inr hw) rfl hf
    exact q
  · rw [decide_eq_false h] at e
    have : wordOf v ws = false := by simp [wordOf, e]
    rw [this] at q; exact q
def stopsV : List V := [.str "notless", .str "equal", .str "near1", .str "near2", .str "back", .str "under", .str "held"]
def toldsV : List V := [.str "old", .str "new", .str "less", .str "more"]
def mendsV : List V := [.str "none", .str "down", .str "up", .str "both"]
def looksV : List V := [.str "under", .str "held"]
/-- what the text's top holds for averages -/
structure AvK (K : PySem.W.Frag) : Prop where
  cls : Cls K (He.ga K "Average")
  n_k : NoAttr K (He.ga K "Average") "k"
  n_a : NoAttr K (He.ga K "Average") "a"
  n_c : NoAttr K (He.ga K "Average") "c"
  n_d : NoAttr K (He.ga K "Average") "d"
  n_stop : NoAttr K (He.ga K "Average") "stop"
  n_told : NoAttr K (He.ga K "Average") "told"
  n_mend : NoAttr K (He.ga K "Average") "mend"
  stops : ∀ H, SqT K H (He.ga K "STOPS") stopsV
  tolds : ∀ H, SqT K H (He.ga K "TOLDS") toldsV
  mends : ∀ H, SqT K H (He.ga K "MENDS") mendsV
  looks : ∀ H, SqT K H (He.ga K "LOOKS") looksV
/-- the first part that is not so -/
def wrongP (k a c d s t m : V) : V :=
  if (!isInt k || !inV k [.int 2, .int 3, .int 4]) = true then .str "k"
  else if (!isInt a || !(decide (1 ≤ iv a) && decide (iv a ≤ 5))) = true then .str "a"
  else if (!fromI c 1 || (decide (iv a < iv c * (iv k - 1)) || decide (6 < iv a + iv c))) = true then .str "c"
  else if (!isInt d || !(decide (-iv a ≤ iv d) && decide (iv d ≤ iv a + iv c))) = true then .str "d"
  else if (!wordOf s stopsV) = true then .str "stop"
  else if (!wordOf t toldsV || (inV s looksV && !decide (t = .str "old"))) = true then .str "told"
  else if wordOf m mendsV = true then .non else .str "mend"
def sp_wrong_part (K : PySem.W.Frag) : Sp := fun vs H Q _ => ∃ k a c d s t m : V, vs = [k, a, c, d, s, t, m] ∧ (∀ v ∈ [k, a, c, d, s, t, m], ∃ n, WT K H v n) ∧ (iv c).natAbs < 2 ^ 900 ∧
  ∀ H', Ext H H' → Q (wrongP k a c d s t m) H'
theorem WT.ext {K : PySem.W.Frag} {H H' : Hp} {v : V} {n : String} (e : Ext H H') (h : WT K H v n) : WT K H' v n := by
  obtain ⟨h, hn⟩ := h
  refine ⟨?_, hn⟩
  cases h with
  | base b =>
    refine .base ?_
    cases b with
    | non => exact .non
    | bl x => exact .bl x
    | int x => exact .int x
    | str x => exact .str x
    | flt x => exact .flt x
    | lst q => exact .lst (e _ _ q)
    | frz q => exact .frz (e _ _ q)
    | tup q => exact .tup (e _ _ q)
    | dK q => exact .dK (e _ _ q)
    | dT q => exact .dT (e _ _ q)
  | byt x => exact .byt x
  | set q => exact .set (e _ _ q)
  | kList q c => exact .kList q c
  | kTuple q c => exact .kTuple q c
  | kDict q c => exact .kDict q c
  | fTuple q => exact .fTuple (e _ _ q)
  | fDict q => exact .fDict (e _ _ q)
theorem or_ite {a b : Bool} {A B C : Prop} (h1 : (a || b) = true → A) (h2 : (a || b) = false → B) : if a = true then A else (if b = true then A else B) := by
  cases a <;> cases b <;> simp_all
def rd_wrong_part (K : PySem.W.Frag) : TS := tSeq (tIfS (tOr (tNot (tB (tCall (sp_is_whole K) [] E0 (tCons (tVar 0) (tNil))))) (tTest (tOp (rIn K true) (tVar 0) (tTup (tCons (tC (.int 2)) (tCons (tC (.int 3)) (tCons (tC (.int 4)) (tNil)))))))) (tRet (tC (.str "k"))) (tNext)) (tSeq (tIfS (tOr (tNot (tB (tCall (sp_is_whole K) [] E0 (tCons (tVar 1) (tNil))))) (tNot (tTest (tChain FW.rLe FW.rLe (tC (.int 1)) (tVar 1) (tC (.int 5)))))) (tRet (tC (.str "a"))) (tNext)) (tSeq (tIfS (tOr (tNot (tB (tCall (sp_is_whole_from K) [] E0 (tCons (tVar 2) (tCons (tC (.int 1)) (tNil)))))) (tOr (tTest (tOp FW.rLt (tVar 1) (tOp FW.rMul (tVar 2) (tOp FW.rSub (tVar 0) (tC (.int 1)))))) (tTest (tOp FW.rGt (tOp FW.rAdd (tVar 1) (tVar 2)) (tC (.int 6)))))) (tRet (tC (.str "c"))) (tNext)) (tSeq (tIfS (tOr (tNot (tB (tCall (sp_is_whole K) [] E0 (tCons (tVar 3) (tNil))))) (tNot (tTest (tChain FW.rLe FW.rLe (tUn FW.rNeg (tVar 1)) (tVar 3) (tOp FW.rAdd (tVar 1) (tVar 2)))))) (tRet (tC (.str "d"))) (tNext)) (tSeq (tIfS (tNot (tB (tCall (sp_is_word_of K) [] E0 (tCons (tVar 4) (tCons (tC (.ref (He.ga K "STOPS"))) (tNil)))))) (tRet (tC (.str "stop"))) (tNext)) (tSeq (tIfS (tOr (tNot (tB (tCall (sp_is_word_of K) [] E0 (tCons (tVar 5) (tCons (tC (.ref (He.ga K "TOLDS"))) (tNil)))))) (tAnd (tTest (tOp (rIn K false) (tVar 4) (tC (.ref (He.ga K "LOOKS"))))) (tTest (tOp rNe (tVar 5) (tC (.str "old")))))) (tRet (tC (.str "told"))) (tNext)) (tRet (tIf (tB (tCall (sp_is_word_of K) [] E0 (tCons (tVar 6) (tCons (tC (.ref (He.ga K "MENDS"))) (tNil))))) (tC .non) (tC (.str "mend")))))))))
set_option maxHeartbeats 8000000 in
theorem pure_wrong_part (K : PySem.W.Frag) (A : AvK K) (vs : List V) (H : Hp) (Q : VK) (E : XK) (h : sp_wrong_part K vs H Q E) : rd_wrong_part K { nx := fun _ H' => Q .non H', rt := Q } (start ["k", "a", "c", "d", "stop", "told", "mend"] vs) H := by
  obtain ⟨k, a, c, d, s, t, m, rfl, hW, hc, q⟩ := h
  obtain ⟨nk, wk⟩ := hW k (by simp)
  obtain ⟨na, wa⟩ := hW a (by simp)
  obtain ⟨nc, wc⟩ := hW c (by simp)
  obtain ⟨nd, wd⟩ := hW d (by simp)
  obtain ⟨ns, ws⟩ := hW s (by simp)
  obtain ⟨nt, wt⟩ := hW t (by simp)
  obtain ⟨nm, wm⟩ := hW m (by simp)
  unfold wrongP at q
  unfold rd_wrong_part
  walk_at "rd"
  refine ⟨_, _, rfl, wk, ?_⟩
  walk_at "rd"
  refine e_iteB (fun h1 => ?_) (fun h1 => ?_)
  · walk_at "rd"
    rw [if_pos (by rw [h1]; rfl)] at q
    exact q _ Ext.rfl'
  rw [h1, Bool.false_or] at q
  have h1' : isInt k = true := by simpa using h1
  obtain ⟨k, rfl⟩ := isInt_of h1'
  walk_at "rd"
  refine ⟨by show 3 ≤ sizeLine; decide, fun p hp => ?_⟩
  refine e_in ?_ (.inr (SqT.of upd_same)) rfl rfl
  have eH : Ext H (upd H p (.tup [.int 2, .int 3, .int 4])) := Ext.new hp
  generalize upd H p (.tup [.int 2, .int 3, .int 4]) = H1 at *
  rw [if_pos rfl]
  refine ?_
  walk_at "rd"
  refine e_iteB (fun h2 => ?_) (fun h2 => ?_)
  · walk_at "rd"
    rw [if_pos h2] at q
    exact q _ eH
  rw [if_neg (by rw [h2]; decide)] at q
  have hk : k = 2 ∨ k = 3 ∨ k = 4 := by
    simp [inV, eqV] at h2
    omega
  walk_at "rd"
  refine ⟨_, _, rfl, wa.ext eH, ?_⟩
  walk_at "rd"
  refine e_iteB (fun h3 => ?_) (fun h3 => ?_)
  · walk_at "rd"
    rw [if_pos (by rw [h3]; rfl)] at q
    exact q _ eH
  rw [h3, Bool.false_or] at q
  have h3' : isInt a = true := by simpa using h3
  obtain ⟨a, rfl⟩ := isInt_of h3'
  walk_at "rd"
  have ha : (1 ≤ a ∧ a ≤ 5) ∨ ¬ (1 ≤ a ∧ a ≤ 5) := Classical.em _
  rcases ha with ha | ha
  · rw [decide_eq_true ha.1]
    walk_at "rd"
    rw [decide_eq_true ha.2]
    walk_at "rd"
    rw [if_neg (by simp [iv, ha.1, ha.2])] at q
    refine ⟨_, _, _, rfl, wc.ext eH, ?_⟩
    walk_at "rd"
    refine e_iteB (fun h4 => ?_) (fun h4 => ?_)
    · walk_at "rd"
      rw [if_pos (by rw [h4]; rfl)] at q
      exact q _ eH
    rw [h4, Bool.false_or] at q
    have h4' : fromI c 1 = true := by simpa using h4
    have h4i : isInt c = true := by
      unfold fromI at h4'
      rw [Bool.and_eq_true] at h4'
      exact h4'.1
    obtain ⟨c, rfl⟩ := isInt_of h4i
    walk_at "rd"
    rotate_left 1
    · exact wide_mul (a := 900) (b := 10) hc (by omega) (by decide) (by decide) (by decide)
    refine e_ite (fun h5 => ?_) (fun h5 => ?_)
    · walk_at "rd"
      rw [if_pos (by rw [decide_eq_true (by exact h5)]; rfl)] at q
      exact q _ eH
    rw [decide_eq_false (by exact h5), Bool.false_or] at q
    walk_at "rd"
    refine e_ite (fun h6 => ?_) (fun h6 => ?_)
    · walk_at "rd"
      rw [if_pos (decide_eq_true (by exact h6))] at q
      exact q _ eH
    rw [if_neg (by rw [decide_eq_false (by exact h6)]; decide)] at q
    walk_at "rd"
    refine ⟨_, _, rfl, wd.ext eH, ?_⟩
    walk_at "rd"
    refine e_iteB (fun h7 => ?_) (fun h7 => ?_)
    · walk_at "rd"
      rw [if_pos (by rw [h7]; rfl)] at q
      exact q _ eH
    rw [h7, Bool.false_or] at q
    have h7' : isInt d = true := by simpa using h7
    obtain ⟨d, rfl⟩ := isInt_of h7'
    walk_at "rd"
    have hd : (-a ≤ d ∧ d ≤ a + c) ∨ ¬ (-a ≤ d ∧ d ≤ a + c) := Classical.em _
    rcases hd with hd | hd
    · rw [decide_eq_true hd.1]
      walk_at "rd"
      rw [decide_eq_true hd.2]
      walk_at "rd"
      rw [if_neg (by simp [iv, hd.1, hd.2])] at q
      refine ⟨_, _, _, _, rfl, ws.ext eH, A.stops _, by decide, ?_⟩
      walk_at "rd"
      refine e_iteB (fun h8 => ?_) (fun h8 => ?_)
      · walk_at "rd"
        rw [if_pos h8] at q
        exact q _ eH
      rw [if_neg (by rw [h8]; decide)] at q
      have h8' : wordOf s stopsV = true := by simpa using h8
      have h8s : isStr s = true := by
        unfold wordOf at h8'
        rw [Bool.and_eq_true] at h8'
        exact h8'.1
      obtain ⟨s, rfl⟩ := isStr_of h8s
      walk_at "rd"
      refine ⟨_, _, _, _, rfl, wt.ext eH, A.tolds _, by decide, ?_⟩
      walk_at "rd"
      refine e_iteB (fun h9 => ?_) (fun h9 => ?_)
      · walk_at "rd"
        rw [if_pos (by rw [h9]; rfl)] at q
        exact q _ eH
      rw [h9, Bool.false_or] at q
      have h9' : wordOf t toldsV = true := by simpa using h9
      have h9s : isStr t = true := by
        unfold wordOf at h9'
        rw [Bool.and_eq_true] at h9'
        exact h9'.1
      obtain ⟨t, rfl⟩ := isStr_of h9s
      walk_at "rd"
      refine e_in ?_ (.inr (A.looks _)) rfl (by decide)
      rw [if_neg (by decide)]
      refine ?_
      walk_at "rd"
      refine e_iteB (fun h10 => ?_) (fun h10 => ?_)
      · rw [h10, Bool.true_and] at q
        walk_at "rd"
        refine e_iteB (fun h11 => ?_) (fun h11 => ?_)
        · walk_at "rd"
          rw [if_pos h11] at q
          exact q _ eH
        rw [if_neg (by rw [h11]; decide)] at q
        walk_at "rd"
        refine ⟨_, _, _, _, rfl, wm.ext eH, A.mends _, by decide, ?_⟩
        walk_at "rd"
        refine e_iteB (fun h12 => ?_) (fun h12 => ?_)
        · walk_at "rd"
          rw [if_pos h12] at q
          exact q _ eH
        · walk_at "rd"
          rw [if_neg (by rw [h12]; decide)] at q
          exact q _ eH
      · rw [h10, Bool.false_and, if_neg (by decide)] at q
        walk_at "rd"
        refine ⟨_, _, _, _, rfl, wm.ext eH, A.mends _, by decide, ?_⟩
        walk_at "rd"
        refine e_iteB (fun h12 => ?_) (fun h12 => ?_)
        · walk_at "rd"
          rw [if_pos h12] at q
          exact q _ eH
        · walk_at "rd"
          rw [if_neg (by rw [h12]; decide)] at q
          exact q _ eH
    · by_cases h : -a ≤ d
      · have h' : ¬ d ≤ a + c := fun z => hd ⟨h, z⟩
        rw [if_pos (by show (!(decide (-a ≤ d) && decide (d ≤ a + c))) = true; rw [decide_eq_false h', Bool.and_false]; rfl)] at q
        rw [decide_eq_true h]
        walk_at "rd"
        rw [decide_eq_false h']
        walk_at "rd"
        exact q _ eH
      · rw [if_pos (by show (!(decide (-a ≤ d) && decide (d ≤ a + c))) = true; rw [decide_eq_false h]; rfl)] at q
        rw [decide_eq_false h]
        walk_at "rd"
        exact q _ eH
  · by_cases h : 1 ≤ a
    · have h' : ¬ a ≤ 5 := fun z => ha ⟨h, z⟩
      rw [if_pos (by show (!(decide (1 ≤ a) && decide (a ≤ 5))) = true; rw [decide_eq_false h', Bool.and_false]; rfl)] at q
      rw [decide_eq_true h]
      walk_at "rd"
      rw [decide_eq_false h']
      walk_at "rd"
      exact q _ eH
    · rw [if_pos (by show (!(decide (1 ≤ a) && decide (a ≤ 5))) = true; rw [decide_eq_false h]; rfl)] at q
      rw [decide_eq_false h]
      walk_at "rd"
      exact q _ eH
end FWL
namespace FWL
open PySem PySem.Spec PyProof.Rows L2 FW
/-! ### a stream: three ints; n bounds the draws so far -/
def Strm (H : Hp) (p : Addr) (n : Nat) : Prop := ∃ a b c : Int, H p = some (.lst [.int a, .int b, .int c]) ∧ 0 ≤ a ∧ 0 ≤ b ∧ b < 2 ^ 40 ∧ 0 ≤ c ∧ c ≤ n
theorem Strm.mono {H : Hp} {p : Addr} {n m : Nat} (h : Strm H p n) (l : n ≤ m) : Strm H p m := by
  obtain ⟨a, b, c, h1, h2, h3, h4, h5, h6⟩ := h
  exact ⟨a, b, c, h1, h2, h3, h4, h5, by omega⟩
theorem Strm.ext {H H' : Hp} {p : Addr} {n : Nat} (h : Strm H p n) (e : Ext H H') : Strm H' p n := by
  obtain ⟨a, b, c, h1, h2⟩ := h
  exact ⟨a, b, c, e _ _ h1, h2⟩
theorem Strm.ne {H : Hp} {p q : Addr} {n : Nat} (h : Strm H p n) (e : H q = none) : q ≠ p := by
  obtain ⟨a, b, c, h1, h2⟩ := h
  exact (ne_of_none h1 e).symm
def sp_l_stream (K : PySem.W.Frag) : Sp := fun vs H Q _ => ∃ (a : Addr) (ns : List Int) (k : Int), vs = [.ref a, .int k] ∧ SqL K H a (ns.map V.int) ∧ 0 ≤ k ∧ k < 1000 ∧
  ∀ p H', H p = none → Ext H H' → Strm H' p 0 → Q (.ref p) H'
def sp_l_draw (K : PySem.W.Frag) : Sp := fun vs H Q _ => ∃ (p : Addr) (many : Int) (n : Nat), vs = [.ref p, .int many] ∧ Strm H p n ∧ n < 1000000 ∧ 0 < many ∧ many.natAbs.log2 < 9000 ∧
  ∀ d H', 0 ≤ d → d < many → ExtB p H H' → Strm H' p (n + 1) → Q (.int d) H'
def sp_l_pick (K : PySem.W.Frag) : Sp := fun vs H Q _ => ∃ (p q : Addr) (xs : List V) (n : Nat), vs = [.ref p, .ref q] ∧ Strm H p n ∧ n < 1000000 ∧ q ≠ p ∧ H q = some (.lst xs) ∧ xs ≠ [] ∧ xs.length < 1000 ∧
  ∀ v H', v ∈ xs → ExtB p H H' → Strm H' p (n + 1) → Q v H'
def rd_l_stream (K : PySem.W.Frag) : TS := tSeq (tAsg (tIf (tTest (tOp FW.rLt (tVar 1) (tCB (Evl.rLenS K) (tCons (tVar 0) (tNil))))) (tCB FW.rAbs (tCons (tOp (rIxL K) (tVar 0) (tVar 1)) (tNil))) (tC (.int 0))) (gName 2)) (tRet (tLst (tCons (tIf (tTest (tOp FW.rGe (tVar 2) (tOp FW.rPow (tC (.int 10)) (tC (.int 18))))) (tVar 2) (tC (.int 0))) (tCons (tOp FW.rAdd (tOp FW.rMod (tCB FW.rInt1 (tCons (tVar 2) (tNil))) (tC (.int 2147483647))) (tOp FW.rMul (tC (.int 31)) (tVar 1))) (tCons (tC (.int 0)) (tNil))))))
def rd_l_draw (K : PySem.W.Frag) : TS := tSeq (tIfS (tTest (tOp FW.rGt (tOp (rIxL K) (tVar 0) (tC (.int 0))) (tC (.int 0)))) (tSeq (tAsg (tOp FW.rMod (tCB FW.rInt1 (tCons (tOp (rIxL K) (tVar 0) (tC (.int 0))) (tNil))) (tVar 1)) (gName 2)) (tSeq (tAsg (tOp FW.rDiv (tOp (rIxL K) (tVar 0) (tC (.int 0))) (tVar 1)) (gSub (tVar 0) (tC (.int 0)) rSetL)) (tRet (tVar 2)))) (tNext)) (tSeq (tAsg (tOp FW.rAdd (tOp (rIxL K) (tVar 0) (tC (.int 2))) (tC (.int 1))) (gSub (tVar 0) (tC (.int 2)) rSetL)) (tSeq (tAsg (tOp FW.rMod (tOp FW.rPow (tCB FW.rInt1 (tCons (tOp FW.rAdd (tOp FW.rAdd (tOp (rIxL K) (tVar 0) (tC (.int 1))) (tOp FW.rMul (tC (.int 7919)) (tOp (rIxL K) (tVar 0) (tC (.int 2))))) (tC (.int 104729))) (tNil))) (tC (.int 5))) (tC (.int 2147483647))) (gName 3)) (tRet (tOp FW.rMod (tOp FW.rDiv (tOp FW.rMod (tCB FW.rInt1 (tCons (tOp FW.rMul (tOp FW.rAdd (tVar 3) (tOp (rIxL K) (tVar 0) (tC (.int 2)))) (tC (.int 40692))) (tNil))) (tC (.int 2147483629))) (tC (.int 7))) (tVar 1)))))
def rd_l_pick (K : PySem.W.Frag) : TS := tRet (tOp (rIxL K) (tVar 1) (tCall (sp_l_draw K) [] E0 (tCons (tVar 0) (tCons (tCB (Evl.rLenS K) (tCons (tVar 1) (tNil))) (tNil)))))
theorem at_map {ns : List Int} {k : Int} (h0 : 0 ≤ k) (h : k < (ns.length : Int)) : ∃ i, atI (ns.map V.int) k = some (.int i) := by
  obtain ⟨k, rfl⟩ := Int.eq_ofNat_of_zero_le h0
  have hk : k < ns.length := by omega
  refine ⟨ns[k], atI_nat ?_⟩
  rw [List.getElem?_map, List.getElem?_eq_getElem hk]
  rfl
theorem pure_l_stream (K : PySem.W.Frag) (vs : List V) (H : Hp) (Q : VK) (E : XK) (h : sp_l_stream K vs H Q E) : rd_l_stream K { nx := fun _ H' => Q .non H', rt := Q } (start ["_law_script", "_law_k", "_law_cell"] vs) H := by
  obtain ⟨a, ns, k, rfl, hS, h0, hk, q⟩ := h
  have fin : ∀ cell : Int, 0 ≤ cell → (tRet (tLst (tCons (tIf (tTest (tOp FW.rGe (tVar 2) (tOp FW.rPow (tC (.int 10)) (tC (.int 18))))) (tVar 2) (tC (.int 0))) (tCons (tOp FW.rAdd (tOp FW.rMod (tCB FW.rInt1 (tCons (tVar 2) (tNil))) (tC (.int 2147483647))) (tOp FW.rMul (tC (.int 31)) (tVar 1))) (tCons (tC (.int 0)) (tNil)))))) { nx := fun _ H' => Q .non H', rt := Q } [some (.ref a), some (.int k), some (.int cell)] H := by
    intro cell hc
    have hm : 0 ≤ cell % 2147483647 := Int.emod_nonneg _ (by decide)
    have hm2 : cell % 2147483647 < 2147483647 := Int.emod_lt_of_pos _ (by decide)
    walk_at "rd"
    · refine e_ite (fun h => ?_) (fun h => ?_)
      · walk_at "rd"
        · refine ⟨by show 3 ≤ sizeLine; decide, fun p hp => q p _ hp (Ext.new hp) ⟨_, _, _, upd_same, hc, by omega, by omega, by decide, by decide⟩⟩
        · exact wide_mul (a := 10) (b := 10) (by decide) (by omega) (by decide) (by decide) (by decide)
        · decide
      · walk_at "rd"
        · refine ⟨by show 3 ≤ sizeLine; decide, fun p hp => q p _ hp (Ext.new hp) ⟨_, _, _, upd_same, by decide, by omega, by omega, by decide, by decide⟩⟩
        · exact wide_mul (a := 10) (b := 10) (by decide) (by omega) (by decide) (by decide) (by decide)
        · decide
    · exact ⟨by decide, by decide, by decide⟩
  unfold rd_l_stream
  walk_at "rd"
  refine e_len ?_ (.inl hS)
  walk_at "rd"
  refine e_ite (fun h => ?_) (fun h => ?_)
  · rw [List.length_map] at h
    obtain ⟨i, hi⟩ := at_map h0 h
    walk_at "rd"
    refine e_ixL ?_ hS hi
    walk_at "re"
    exact fin (if i < 0 then -i else i) (by split <;> omega)
  · walk_at "re"
    exact fin 0 (by decide)
theorem pure_l_draw (K : PySem.W.Frag) (vs : List V) (H : Hp) (Q : VK) (E : XK) (h : sp_l_draw K vs H Q E) : rd_l_draw K { nx := fun _ H' => Q .non H', rt := Q } (start ["_law_stream_here", "_law_many", "_law_digit", "_law_spread"] vs) H := by
  obtain ⟨p, many, n, rfl, ⟨a, b, c, hp, ha, hb, hb2, hc, hcn⟩, hn, hm, hml, q⟩ := h
  unfold rd_l_draw
  walk_at "rd"
  refine e_ixL ?_ (SqL.of hp) rfl
  walk_at "rd"
  refine e_ite (fun h => ?_) (fun h => ?_)
  · walk_at "rd"
    refine e_ixL ?_ (SqL.of hp) rfl
    walk_at "rd"
    · refine e_ixL ?_ (SqL.of hp) rfl
      walk_at "rd"
      · refine e_setL (m := 0) ?_ hp rfl
        walk_at "rd"
        refine q _ _ (Int.emod_nonneg _ (by omega)) (Int.emod_lt_of_pos _ hm) ExtB.upd ⟨_, _, _, upd_same, Int.ediv_nonneg ha (by omega), hb, hb2, hc, by omega⟩
      · exact ⟨hm, hml⟩
    · exact hm
  · walk_at "rd"
    refine e_ixL ?_ (SqL.of hp) rfl
    walk_at "rd"
    refine e_setL (m := 2) ?_ hp rfl
    have hp' : (upd H p (.lst ([V.int a, V.int b, V.int c].set 2 (.int (c + 1))))) p = some (.lst [.int a, .int b, .int (c + 1)]) := upd_same
    have eB : ExtB p H (upd H p (.lst ([V.int a, V.int b, V.int c].set 2 (.int (c + 1))))) := ExtB.upd
    generalize upd H p (.lst ([V.int a, V.int b, V.int c].set 2 (.int (c + 1)))) = H1 at *
    walk_at "rd"
    refine e_ixL ?_ (SqL.of hp') rfl
    walk_at "rd"
    refine e_ixL ?_ (SqL.of hp') rfl
    walk_at "rd"
    · refine e_ixL ?_ (SqL.of hp') rfl
      have hs : 0 ≤ ((b + 7919 * (c + 1) + 104729) ^ (5 : Int).toNat) % 2147483647 := Int.emod_nonneg _ (by decide)
      have hs2 : ((b + 7919 * (c + 1) + 104729) ^ (5 : Int).toNat) % 2147483647 < 2147483647 := Int.emod_lt_of_pos _ (by decide)
      walk_at "rd"
      · refine q _ _ (Int.emod_nonneg _ (by omega)) (Int.emod_lt_of_pos _ hm) eB ⟨_, _, _, hp', ha, hb, hb2, by omega, by omega⟩
      · exact hm
      · exact ⟨by decide, by decide⟩
      · decide
      · exact wide_mul (a := 60) (b := 20) (by omega) (by decide) (by decide) (by decide) (by decide)
    · decide
    · exact ⟨by decide, by decide, by omega⟩
    · exact wide_mul (a := 20) (b := 40) (by decide) (by omega) (by decide) (by decide) (by decide)
theorem log2_small {n : Nat} (h : n < 1000) : n.log2 < 9000 := by
  have : n.log2 ≤ n := Nat.log2_le_self n
  omega
theorem pure_l_pick (K : PySem.W.Frag) (vs : List V) (H : Hp) (Q : VK) (E : XK) (h : sp_l_pick K vs H Q E) : rd_l_pick K { nx := fun _ H' => Q .non H', rt := Q } (start ["_law_stream_here", "_law_things"] vs) H := by
  obtain ⟨p, a, xs, n, rfl, hS, hn, hne, ha, hx, hl, q⟩ := h
  have h0 : 0 < xs.length := List.length_pos_iff.mpr hx
  unfold rd_l_pick
  walk_at "rd"
  refine e_len ?_ (.inl (SqL.of ha))
  walk_at "rd"
  refine ⟨p, _, n, rfl, hS, hn, by omega, by rw [Int.natAbs_natCast]; exact log2_small hl, fun d H' d0 d1 e s => ?_⟩
  obtain ⟨d, rfl⟩ := Int.eq_ofNat_of_zero_le d0
  have hd : d < xs.length := by omega
  refine e_ixL (v := xs[d]) ?_ (SqL.of (e _ _ hne ha)) (atI_nat (List.getElem?_eq_getElem hd))
  exact q _ _ (List.getElem_mem _) e s
end FWL
namespace FWL
open PySem PySem.Spec PyProof.Rows L2 FW

/-! ### weights -/
def okW (k a c : Int) : Bool := decide (c * (k - 1) ≤ a) && decide (a + c ≤ 6)
def wRow (k a : Int) (cs : List Int) : List (Int × Int) := (cs.filter (okW k a)).map fun c => (a, c)
def wAll (k : Int) : Nat → List (Int × Int)
  | 0 => []
  | n + 1 => wAll k n ++ wRow k (1 + (n : Int)) [1, 2, 3]
def weightsL (k : Int) : List (Int × Int) := wAll k 5
/-- tuples of two ints -/
def Prs (H : Hp) : List V → List (Int × Int) → Prop
  | [], [] => True
  | v :: vs, w :: ws => (∃ t, v = .ref t ∧ H t = some (.tup [.int w.1, .int w.2])) ∧ Prs H vs ws
  | _, _ => False
theorem Prs.ext {H H' : Hp} (e : Ext H H') : ∀ {vs : List V} {ws : List (Int × Int)}, Prs H vs ws → Prs H' vs ws
  | [], [], _ => True.intro
  | _ :: _, _ :: _, ⟨⟨t, h1, h2⟩, r⟩ => ⟨⟨t, h1, e _ _ h2⟩, Prs.ext e r⟩
theorem Prs.upd {H : Hp} {D : Addr} {xs ys : List V} (hD : H D = some (.lst xs)) : ∀ {vs : List V} {ws : List (Int × Int)}, Prs H vs ws → Prs (upd H D (.lst ys)) vs ws
  | [], [], _ => True.intro
  | _ :: _, _ :: _, ⟨⟨t, h1, h2⟩, r⟩ => ⟨⟨t, h1, by rw [upd_ne (ne_of h2 hD (by intro z; cases z))]; exact h2⟩, Prs.upd hD r⟩
theorem Prs.app {H : Hp} : ∀ {vs vs' : List V} {ws ws' : List (Int × Int)}, Prs H vs ws → Prs H vs' ws' → Prs H (vs ++ vs') (ws ++ ws')
  | [], _, [], _, _, h => h
  | _ :: _, _, _ :: _, _, ⟨a, r⟩, h => ⟨a, Prs.app r h⟩
theorem Prs.len {H : Hp} : ∀ {vs : List V} {ws : List (Int × Int)}, Prs H vs ws → vs.length = ws.length
  | [], [], _ => rfl
  | _ :: _, _ :: _, ⟨_, r⟩ => congrArg Nat.succ (Prs.len r)
theorem Prs.mem {H : Hp} {v : V} : ∀ {vs : List V} {ws : List (Int × Int)}, Prs H vs ws → v ∈ vs → ∃ w ∈ ws, ∃ t, v = .ref t ∧ H t = some (.tup [.int w.1, .int w.2])
  | [], [], _, h => by cases h
  | x :: xs, w :: ws, ⟨a, r⟩, h => by
    rcases List.mem_cons.mp h with rfl | h
    · exact ⟨w, List.mem_cons_self, a⟩
    · obtain ⟨w', m, q⟩ := Prs.mem r h
      exact ⟨w', List.mem_cons_of_mem _ m, q⟩
theorem wRow_snoc (k a c : Int) (cs : List Int) : wRow k a (cs ++ [c]) = if okW k a c = true then wRow k a cs ++ [(a, c)] else wRow k a cs := by
  unfold wRow
  rw [List.filter_append]
  cases h : okW k a c <;> simp [List.filter_cons, h]
theorem wRow_len (k a : Int) (cs : List Int) : (wRow k a cs).length ≤ cs.length := by
  unfold wRow
  rw [List.length_map]
  exact List.length_filter_le _ _
theorem wAll_len (k : Int) : ∀ n, (wAll k n).length ≤ 3 * n
  | 0 => by simp [wAll]
  | n + 1 => by
    have := wAll_len k n
    have := wRow_len k (1 + (n : Int)) [1, 2, 3]
    simp only [wAll, List.length_append, List.length_cons, List.length_nil] at *
    omega
def sp_l_weights (K : PySem.W.Frag) : Sp := fun vs H Q _ => ∃ k : Int, vs = [.int k] ∧ 2 ≤ k ∧ k ≤ 4 ∧
  ∀ l ts H', H l = none → Ext H H' → H' l = some (.lst ts) → Prs H' ts (weightsL k) → Q (.ref l) H'
def rd_l_weights_L1 (K : PySem.W.Frag) : TS := tDrop (tBM K "list" rExtend (tVar 1) (tCons (tLc (iTup K (tTup (tCons (tC (.int 1)) (tCons (tC (.int 2)) (tCons (tC (.int 3)) (tNil)))))) (gName 3) (tAnd (tTest (tOp FW.rGe (tVar 2) (tOp FW.rMul (tVar 3) (tOp FW.rSub (tVar 0) (tC (.int 1)))))) (tTest (tOp FW.rLe (tOp FW.rAdd (tVar 2) (tVar 3)) (tC (.int 6))))) (tTup (tCons (tVar 2) (tCons (tVar 3) (tNil)))) [3]) (tNil)))
def rd_l_weights (K : PySem.W.Frag) : TS := tSeq (tAsg (tLst (tNil)) (gName 1)) (tSeq (tFor (iRng2 (tCons (tC (.int 1)) (tCons (tC (.int 6)) (tNil)))) (gName 2) (rd_l_weights_L1 K)) (tRet (tVar 1)))
theorem pure_l_weights (K : PySem.W.Frag) (vs : List V) (H : Hp) (Q : VK) (E : XK) (h : sp_l_weights K vs H Q E) : rd_l_weights K { nx := fun _ H' => Q .non H', rt := Q } (start ["_law_k", "_law_found", "_law_a", "_law_c"] vs) H := by
  obtain ⟨k, rfl, h2, h4, q⟩ := h
  unfold rd_l_weights
  walk_at "rd"
  refine ⟨by decide, fun l hl => ?_⟩
  walk_at "rd"
  · refine for_range (lo := 1) (n := 5) (fun i σ H' => Ext H H' ∧ (∃ ts, H' l = some (.lst ts) ∧ Prs H' ts (wAll k i)) ∧ ∃ u v, σ = [some (.int k), some (.ref l), u, v]) ⟨Ext.new hl, ⟨[], upd_same, True.intro⟩, _, _, rfl⟩ ?_ ?_
    · rintro i σ H' hi ⟨e, ⟨ts, hts, hp⟩, u, v, rfl⟩
      have hlen := hp.len
      have hwl := wAll_len k i
      walk_at "re"
      unfold rd_l_weights_L1
      walk_at "rd"
      refine ⟨.inl ⟨rfl, _, SqL.of hts⟩, ?_⟩
      walk_at "rd"
      refine ⟨by decide, fun c hc => ?_⟩
      have eC : Ext H' (upd H' c (.tup [.int 1, .int 2, .int 3])) := Ext.new hc
      have hC : (upd H' c (.tup [.int 1, .int 2, .int 3])) c = some (.tup [.int 1, .int 2, .int 3]) := upd_same
      generalize upd H' c (.tup [.int 1, .int 2, .int 3]) = H1 at *
      refine i_tup' [.int 1, .int 2, .int 3] ?_ (SqT.of hC)
      intro D hD
      refine lc_tup (xs := [.int 1, .int 2, .int 3]) (fun j H2 => Ext H1 H2 ∧ ∃ as, H2 D = some (.lst as) ∧ Prs H2 as (wRow k (1 + (i : Int)) ([(1 : Int), 2, 3].take j))) ⟨Ext.new hD, [], upd_same, True.intro⟩ (fun j H2 _ p => SqT.of (p.1 _ _ hC)) ?_ ?_
      · rintro j x H2 hx ⟨e2, as, has, hpr⟩
        have hal : as.length ≤ 3 := by
          rw [hpr.len]
          exact Nat.le_trans (wRow_len _ _ _) (by rw [List.length_take]; exact Nat.min_le_right _ _)
        obtain ⟨c0, hc0, rfl, hb⟩ : ∃ c0 : Int, [(1 : Int), 2, 3].take (j + 1) = [(1 : Int), 2, 3].take j ++ [c0] ∧ x = .int c0 ∧ 1 ≤ c0 ∧ c0 ≤ 3 := by
          match j, hx with
          | 0, hx => exact ⟨1, rfl, (Option.some.inj hx).symm, by decide, by decide⟩
          | 1, hx => exact ⟨2, rfl, (Option.some.inj hx).symm, by decide, by decide⟩
          | 2, hx => exact ⟨3, rfl, (Option.some.inj hx).symm, by decide, by decide⟩
          | (n + 3), hx => simp at hx
        have fin : ∀ b : Bool, okW k (1 + (i : Int)) c0 = b → (if b = true then tTup (tCons (tVar 2) (tCons (tVar 3) tNil)) [some (.int k), some (.ref l), some (.int (1 + (i : Int))), some (.int c0)] H2 fun y H4 => ∃ acc, H4 D = some (.lst acc) ∧ acc.length < sizeLine ∧ (Ext H1 (L2.upd H4 D (.lst (acc ++ [y]))) ∧ ∃ as, (L2.upd H4 D (.lst (acc ++ [y]))) D = some (.lst as) ∧ Prs (L2.upd H4 D (.lst (acc ++ [y]))) as (wRow k (1 + (i : Int)) ([(1 : Int), 2, 3].take (j + 1)))) else (Ext H1 H2 ∧ ∃ as, H2 D = some (.lst as) ∧ Prs H2 as (wRow k (1 + (i : Int)) ([(1 : Int), 2, 3].take (j + 1))))) := by
          intro b hb'
          rw [hc0, wRow_snoc, hb']
          cases b with
          | true =>
            rw [if_pos rfl, if_pos rfl]
            walk_at "rd"
            refine ⟨by show 2 ≤ sizeLine; decide, fun t ht => ⟨as, (Ext.new ht) _ _ has, Nat.lt_of_le_of_lt hal (by decide), (e2.tr (Ext.new ht)).upds hD, _, upd_same, ?_⟩⟩
            refine Prs.upd ((Ext.new ht) _ _ has) (Prs.app (hpr.ext (Ext.new ht)) ⟨⟨t, rfl, upd_same⟩, True.intro⟩)
          | false =>
            rw [if_neg (by decide), if_neg (by decide)]
            exact ⟨e2, as, has, hpr⟩
        walk_at "re"
        refine ⟨rfl, ?_⟩
        walk_at "re"
        · refine e_ite (fun h1 => ?_) (fun h1 => ?_)
          · walk_at "re"
            exact fin _ (by unfold okW; rw [decide_eq_true h1, Bool.true_and])
          · exact fin false (by unfold okW; rw [decide_eq_false h1, Bool.false_and])
        · exact wide_mul (a := 10) (b := 10) (by omega) (by omega) (by decide) (by decide) (by decide)
      · rintro H2 ⟨e2, as, has, hpr⟩
        have el : H2 l = some (.lst ts) := e2 _ _ (eC _ _ hts)
        have hne : D ≠ l := ((ne_of_none (eC _ _ hts) hD)).symm
        refine ⟨l, D, ts, as, rfl, rfl, el, has, ?_, ?_⟩
        · have hpr' : Prs H2 as (wRow k (1 + (i : Int)) [1, 2, 3]) := hpr
          have := hpr'.len
          have := wRow_len k (1 + (i : Int)) [1, 2, 3]
          simp only [List.length_cons, List.length_nil] at *
          exact Nat.le_trans (show ts.length + as.length ≤ 100 by omega) (by decide)
        · walk_at "rd"
          refine ⟨((e.tr eC).tr e2).upds hl, ⟨_, upd_same, ?_⟩, _, _, rfl⟩
          exact Prs.upd el (Prs.app ((hp.ext eC).ext e2) hpr)
    · rintro σ H' ⟨e, ⟨ts, hts, hp⟩, u, v, rfl⟩
      walk_at "rd"
      exact q _ _ _ hl e hts hp
  · decide
theorem weights_ok {k : Int} (h2 : 2 ≤ k) (h4 : k ≤ 4) : ∀ w ∈ weightsL k, 1 ≤ w.2 ∧ w.2 ≤ 3 ∧ w.2 * (k - 1) ≤ w.1 ∧ w.1 + w.2 ≤ 6 ∧ 1 ≤ w.1 ∧ w.1 ≤ 5 := by
  have : k = 2 ∨ k = 3 ∨ k = 4 := by omega
  rcases this with rfl | rfl | rfl <;> decide
theorem weights_ne {k : Int} (h2 : 2 ≤ k) (h4 : k ≤ 4) : weightsL k ≠ [] ∧ (weightsL k).length ≤ 15 := by
  have : k = 2 ∨ k = 3 ∨ k = 4 := by omega
  rcases this with rfl | rfl | rfl <;> decide
end FWL
namespace FWL
open PySem PySem.Spec PyProof.Rows L2 FW

/-! ### a loop's parts -/
structure Lp where
  k : Int
  a : Int
  c : Int
  d : Int
  stop : Str
  told : Str
  mend : Str
structure Lp.Ok (l : Lp) : Prop where
  hk : l.k = 2 ∨ l.k = 3 ∨ l.k = 4
  a1 : 1 ≤ l.a
  a5 : l.a ≤ 5
  c1 : 1 ≤ l.c
  c3 : l.c ≤ 3
  ca : l.c * (l.k - 1) ≤ l.a
  ac : l.a + l.c ≤ 6
  d0 : -l.a ≤ l.d
  d1 : l.d ≤ l.a + l.c
  hs : V.str l.stop ∈ stopsV
  ht : V.str l.told ∈ toldsV
  hl : V.str l.stop ∈ looksV → l.told = "old"
  hm : V.str l.mend ∈ mendsV
abbrev Lp.V (l : Lp) : List V := [.int l.k, .int l.a, .int l.c, .int l.d, .str l.stop, .str l.told, .str l.mend]
abbrev Lp.F (l : Lp) : List (Str × L2.V) := [("k", .int l.k), ("a", .int l.a), ("c", .int l.c), ("d", .int l.d), ("stop", .str l.stop), ("told", .str l.told), ("mend", .str l.mend)]
theorem eqV_str (a b : Str) : eqV (.str a) (.str b) = decide (a = b) := by
  show (a == b) = decide (a = b)
  by_cases h : a = b
  · subst h; simp
  · rw [decide_eq_false h]; exact beq_eq_false_iff_ne.mpr h
theorem inV_str (s : Str) : ∀ {xs : List V}, (∀ v ∈ xs, ∃ x, v = V.str x) → inV (.str s) xs = decide (V.str s ∈ xs)
  | [], _ => rfl
  | v :: vs, h => by
    obtain ⟨x, rfl⟩ := h v List.mem_cons_self
    have ih := inV_str s fun v hv => h v (List.mem_cons_of_mem _ hv)
    show (eqV (.str x) (.str s) || inV (.str s) vs) = _
    rw [ih, eqV_str]
    by_cases e : x = s
    · subst e; simp
    · have e' : ¬ s = x := fun z => e z.symm
      simp [e, e']
theorem strs_stops : ∀ v ∈ stopsV, ∃ x, v = V.str x := by
  intro v h
  simp only [stopsV, List.mem_cons, List.not_mem_nil, or_false] at h
  rcases h with rfl | rfl | rfl | rfl | rfl | rfl | rfl <;> exact ⟨_, rfl⟩
theorem strs_tolds : ∀ v ∈ toldsV, ∃ x, v = V.str x := by
  intro v h
  simp only [toldsV, List.mem_cons, List.not_mem_nil, or_false] at h
  rcases h with rfl | rfl | rfl | rfl <;> exact ⟨_, rfl⟩
theorem strs_mends : ∀ v ∈ mendsV, ∃ x, v = V.str x := by
  intro v h
  simp only [mendsV, List.mem_cons, List.not_mem_nil, or_false] at h
  rcases h with rfl | rfl | rfl | rfl <;> exact ⟨_, rfl⟩
theorem strs_looks : ∀ v ∈ looksV, ∃ x, v = V.str x := by
  intro v h
  simp only [looksV, List.mem_cons, List.not_mem_nil, or_false] at h
  rcases h with rfl | rfl <;> exact ⟨_, rfl⟩
theorem Lp.Ok.right {l : Lp} (o : l.Ok) : wrongP (.int l.k) (.int l.a) (.int l.c) (.int l.d) (.str l.stop) (.str l.told) (.str l.mend) = .non := by
  have h1 : inV (.int l.k) [.int 2, .int 3, .int 4] = true := by
    rcases o.hk with e | e | e <;> rw [e] <;> decide
  have h2 : wordOf (.str l.stop) stopsV = true := by
    show (true && inV (.str l.stop) stopsV) = true
    rw [Bool.true_and, inV_str _ strs_stops]; exact decide_eq_true o.hs
  have h3 : wordOf (.str l.told) toldsV = true := by
    show (true && inV (.str l.told) toldsV) = true
    rw [Bool.true_and, inV_str _ strs_tolds]; exact decide_eq_true o.ht
  have h4 : wordOf (.str l.mend) mendsV = true := by
    show (true && inV (.str l.mend) mendsV) = true
    rw [Bool.true_and, inV_str _ strs_mends]; exact decide_eq_true o.hm
  have h5 : (inV (.str l.stop) looksV && !decide (V.str l.told = .str "old")) = false := by
    rw [inV_str _ strs_looks]
    by_cases h : V.str l.stop ∈ looksV
    · rw [o.hl h]; simp
    · simp [h]
  have a1 := o.a1; have a5 := o.a5; have c1 := o.c1; have ca := o.ca; have ac := o.ac; have d0 := o.d0; have d1 := o.d1
  have e3 : ((decide (l.a < l.c * (l.k - 1)) || decide (6 < l.a + l.c))) = false := by
    rw [decide_eq_false (by omega), decide_eq_false (by omega)]; rfl
  have e1 : (decide (1 ≤ l.a) && decide (l.a ≤ 5)) = true := by rw [decide_eq_true a1, decide_eq_true a5]; rfl
  have e2 : (decide (-l.a ≤ l.d) && decide (l.d ≤ l.a + l.c)) = true := by rw [decide_eq_true d0, decide_eq_true d1]; rfl
  have e4 : fromI (.int l.c) 1 = true := by show (true && decide (1 ≤ l.c)) = true; rw [decide_eq_true c1]; rfl
  unfold wrongP
  rw [if_neg (by rw [h1]; show ¬ ((!true || !true) = true); decide), if_neg (by show ¬ ((!true || !(decide (1 ≤ l.a) && decide (l.a ≤ 5))) = true); rw [e1]; decide),
    if_neg (by show ¬ ((!fromI (.int l.c) 1 || (decide (l.a < l.c * (l.k - 1)) || decide (6 < l.a + l.c))) = true); rw [e4, e3]; decide),
    if_neg (by show ¬ ((!true || !(decide (-l.a ≤ l.d) && decide (l.d ≤ l.a + l.c))) = true); rw [e2]; decide),
    if_neg (by rw [h2]; decide), if_neg (by rw [h3, h5]; decide), if_pos h4]
/-- a loop as an object -/
def IsLp (K : PySem.W.Frag) (H : Hp) (x : Addr) (l : Lp) : Prop := ∃ dx, H x = some (.ins (He.ga K "Average") dx l.F)
theorem IsLp.ext {K : PySem.W.Frag} {H H' : Hp} {x : Addr} {l : Lp} (e : Ext H H') : IsLp K H x l → IsLp K H' x l
  | ⟨dx, h⟩ => ⟨dx, e _ _ h⟩
def sp_Average_init (K : PySem.W.Frag) : Sp := fun vs H Q _ => ∃ (x dx : Addr) (l : Lp), vs = .ref x :: l.V ∧ l.Ok ∧ H x = some (.ins (He.ga K "Average") dx []) ∧
  ∀ H', ExtB x H H' → H' x = some (.ins (He.ga K "Average") dx l.F) → Q .non H'
def rd_Average_init (K : PySem.W.Frag) : TS := tSeq (tAsg (tCall (sp_wrong_part K) [] E0 (tCons (tVar 1) (tCons (tVar 2) (tCons (tVar 3) (tCons (tVar 4) (tCons (tVar 5) (tCons (tVar 6) (tCons (tVar 7) (tNil))))))))) (gName 8)) (tSeq (tIfS (tTest (tOp FW.rNotN (tVar 8) (tC .non))) (tNever) (tNext)) (tSeq (sFld K (tVar 0) (tVar 1) "k") (tSeq (sFld K (tVar 0) (tVar 2) "a") (tSeq (sFld K (tVar 0) (tVar 3) "c") (tSeq (sFld K (tVar 0) (tVar 4) "d") (tSeq (sFld K (tVar 0) (tVar 5) "stop") (tSeq (sFld K (tVar 0) (tVar 6) "told") (sFld K (tVar 0) (tVar 7) "mend"))))))))
theorem e_sF {K : PySem.W.Frag} {H : Hp} {a C dx : Addr} {f : Str} {fs : List (Str × V)} {R : Hp → Prop} {y : V} (k : R (upd H a (.ins C dx (putF f y fs)))) (h : H a = some (.ins C dx fs)) (c : Cls K C) (n : NoAttr K C f) (hl : fs.length < 1000) :
    ∃ a' C dx fs, V.ref a = .ref a' ∧ H a' = some (.ins C dx fs) ∧ Cls K C ∧ NoAttr K C f ∧ fs.length < 1000 ∧ R (upd H a' (.ins C dx (putF f y fs))) := ⟨a, C, dx, fs, rfl, h, c, n, hl, k⟩
theorem pure_Average_init (K : PySem.W.Frag) (A : AvK K) (vs : List V) (H : Hp) (Q : VK) (E : XK) (h : sp_Average_init K vs H Q E) : rd_Average_init K { nx := fun _ H' => Q .non H', rt := Q } (start ["self", "k", "a", "c", "d", "stop", "told", "mend", "wrong"] vs) H := by
  obtain ⟨x, dx, l, rfl, o, hx, q⟩ := h
  unfold rd_Average_init
  walk_at "rd"
  refine ⟨_, _, _, _, _, _, _, rfl, ?_, ?_, fun H1 e1 => ?_⟩
  · intro v hv
    simp only [List.mem_cons, List.not_mem_nil, or_false] at hv
    rcases hv with rfl | rfl | rfl | rfl | rfl | rfl | rfl
    · exact ⟨_, WT.i _⟩
    · exact ⟨_, WT.i _⟩
    · exact ⟨_, WT.i _⟩
    · exact ⟨_, WT.i _⟩
    · exact ⟨_, WT.s _⟩
    · exact ⟨_, WT.s _⟩
    · exact ⟨_, WT.s _⟩
  · have := o.c1; have := o.c3
    exact Nat.lt_of_lt_of_le (show (iv (.int l.c)).natAbs < 2 ^ 3 by show l.c.natAbs < 8; omega) (Nat.pow_le_pow_right (by decide) (by decide))
  · rw [o.right]
    walk_at "rd"
    refine e_iteN (fun h => absurd rfl h) (fun _ => ?_)
    walk_at "rd"
    refine e_sF ?_ (e1 _ _ hx) A.cls A.n_k (by decide)
    walk_at "rd"
    refine e_sF ?_ upd_same A.cls A.n_a (by show 1 < 1000; decide)
    walk_at "rd"
    refine e_sF ?_ upd_same A.cls A.n_c (by show 2 < 1000; decide)
    walk_at "rd"
    refine e_sF ?_ upd_same A.cls A.n_d (by show 3 < 1000; decide)
    walk_at "rd"
    refine e_sF ?_ upd_same A.cls A.n_stop (by show 4 < 1000; decide)
    walk_at "rd"
    refine e_sF ?_ upd_same A.cls A.n_told (by show 5 < 1000; decide)
    walk_at "rd"
    refine e_sF ?_ upd_same A.cls A.n_mend (by show 6 < 1000; decide)
    refine q _ ?_ upd_same
    intro a o' ne h
    rw [upd_ne ne, upd_ne ne, upd_ne ne, upd_ne ne, upd_ne ne, upd_ne ne, upd_ne ne]
    exact e1 _ _ h
/-! ### led, step -/
theorem e_fL {K : PySem.W.Frag} {H : Hp} {x : Addr} {l : Lp} {f : Str} {R : V → Prop} {v : V} (k : R v) (A : AvK K) (h : IsLp K H x l) (n : NoAttr K (He.ga K "Average") f) (hl : l.F.lookup f = some v) :
    ∃ a C dx fs v, V.ref x = .ref a ∧ H a = some (.ins C dx fs) ∧ Cls K C ∧ NoAttr K C f ∧ fs.lookup f = some v ∧ R v := by
  obtain ⟨dx, h⟩ := h
  exact ⟨x, _, dx, _, v, rfl, h, A.cls, n, hl, k⟩
/-- the guess to which the step leads -/
def Lp.led (l : Lp) (n x : Int) : Int := (l.a * x + l.c * (n / x ^ (l.k - 1).toNat) + l.d) / (l.a + l.c)
def sp_Average_led (K : PySem.W.Frag) : Sp := fun vs H Q _ => ∃ (p : Addr) (l : Lp) (n x : Int), vs = [.ref p, .int n, .int x] ∧ IsLp K H p l ∧ l.Ok ∧ 1 ≤ x ∧ 0 ≤ n ∧ n.natAbs < 2 ^ 2000 ∧ x.natAbs < 2 ^ 2000 ∧ Q (.int (l.led n x)) H
def rd_Average_led (K : PySem.W.Frag) : TS := tSeq (tAsg (tOp FW.rDiv (tVar 1) (tCall (sp_power K) [] E0 (tCons (tVar 2) (tCons (tOp FW.rSub (tFld K (tVar 0) "k") (tC (.int 1))) (tNil))))) (gName 3)) (tRet (tOp FW.rDiv (tOp FW.rAdd (tOp FW.rAdd (tOp FW.rMul (tFld K (tVar 0) "a") (tVar 2)) (tOp FW.rMul (tFld K (tVar 0) "c") (tVar 3))) (tFld K (tVar 0) "d")) (tOp FW.rAdd (tFld K (tVar 0) "a") (tFld K (tVar 0) "c"))))
theorem pow_pos' {x : Int} (h : 1 ≤ x) : ∀ n : Nat, 1 ≤ x ^ n
  | 0 => by rw [Int.pow_zero]; omega
  | n + 1 => by
    have ih := pow_pos' h n
    rw [Int.pow_succ]
    have : 1 * 1 ≤ x ^ n * x := Int.mul_le_mul ih h (by decide) (by omega)
    simpa using this
theorem ediv_abs {a b : Int} (ha : 0 ≤ a) (hb : 1 ≤ b) : (a / b).natAbs ≤ a.natAbs := by
  have h1 : 0 ≤ a / b := Int.ediv_nonneg ha (by omega)
  have h2 : a / b ≤ a := Int.ediv_le_self _ ha
  omega
theorem pure_Average_led (K : PySem.W.Frag) (A : AvK K) (vs : List V) (H : Hp) (Q : VK) (E : XK) (h : sp_Average_led K vs H Q E) : rd_Average_led K { nx := fun _ H' => Q .non H', rt := Q } (start ["self", "n", "x", "quotient"] vs) H := by
  obtain ⟨p, l, n, x, rfl, hp, o, hx, hn, hnb, hxb, q⟩ := h
  have hk := o.hk; have a1 := o.a1; have a5 := o.a5; have c1 := o.c1; have c3 := o.c3
  have hk1 : 0 ≤ l.k - 1 ∧ l.k - 1 ≤ 3 := by omega
  have hpw := pow_lt hxb (by decide) (l.k - 1).toNat
  have hpp := pow_pos' hx (l.k - 1).toNat
  have hq : (n / x ^ (l.k - 1).toNat).natAbs < 2 ^ 2000 := Nat.lt_of_le_of_lt (ediv_abs hn hpp) hnb
  unfold rd_Average_led
  walk_at "rd"
  refine e_fL ?_ A hp A.n_k rfl
  walk_at "rd"
  refine ⟨x, l.k - 1, 2000, rfl, hk1.1, hxb, by decide, ?_, ?_⟩
  · have : (l.k - 1).toNat + 1 ≤ 4 := by omega
    have := Nat.mul_le_mul_right 2000 this
    omega
  walk_at "rd"
  · refine e_fL ?_ A hp A.n_a rfl
    walk_at "rd"
    · refine e_fL ?_ A hp A.n_c rfl
      walk_at "rd"
      · refine e_fL ?_ A hp A.n_d rfl
        walk_at "rd"
        refine e_fL ?_ A hp A.n_a rfl
        walk_at "rd"
        refine e_fL ?_ A hp A.n_c rfl
        walk_at "rd"
        · exact q
        · refine wide_div (b := 10) (by omega) ?_ (by decide) (by decide)
          show (l.a + l.c).natAbs < 1024
          omega
      · exact wide_mul (a := 10) (b := 2000) (by show l.c.natAbs < 1024; omega) hq (by decide) (by decide) (by decide)
    · exact wide_mul (a := 10) (b := 2000) (by show l.a.natAbs < 1024; omega) hxb (by decide) (by decide) (by decide)
  · refine wide_div (b := (l.k - 1).toNat * 2000 + 1) (by omega) hpw (by omega) ?_
    have : (l.k - 1).toNat ≤ 3 := by omega
    have := Nat.mul_le_mul_right 2000 this
    omega
def sp_Average_step (K : PySem.W.Frag) : Sp := sp_Average_led K
def rd_Average_step (K : PySem.W.Frag) : TS := tSeq (tDrop (tCall (sp_check_number K) [] E0 (tCons (tVar 1) (tNil)))) (tSeq (tDrop (tCall (sp_check_start K) [] E0 (tCons (tVar 2) (tNil)))) (tRet (tMeth (He.ga K "Average") "led" (sp_Average_led K) [] E0 (tVar 0) (tCons (tVar 1) (tCons (tVar 2) (tNil))))))
theorem pure_Average_step (K : PySem.W.Frag) (vs : List V) (H : Hp) (Q : VK) (E : XK) (h : sp_Average_step K vs H Q E) : rd_Average_step K { nx := fun _ H' => Q .non H', rt := Q } (start ["self", "n", "x"] vs) H := by
  obtain ⟨p, l, n, x, rfl, hp, o, hx, hn, hnb, hxb, q⟩ := h
  unfold rd_Average_step
  walk_at "rd"
  refine ⟨_, rfl, hn, ?_⟩
  walk_at "rd"
  refine ⟨_, rfl, hx, ?_⟩
  walk_at "rd"
  have hp' := hp
  obtain ⟨dx, hp'⟩ := hp'
  refine ⟨p, dx, _, rfl, hp', rfl, ?_⟩
  walk_at "rd"
  exact ⟨p, l, n, x, rfl, hp, o, hx, hn, hnb, hxb, q⟩
/-! ### parts drawn -/
theorem Strm.neT {H : Hp} {p t : Addr} {n : Nat} {xs : List V} (h : Strm H p n) (ht : H t = some (.tup xs)) : t ≠ p := by
  obtain ⟨a, b, c, h1, _⟩ := h
  exact ne_of ht h1 (by intro z; cases z)
theorem ExtB.non {p t : Addr} {H H' : Hp} {n : Nat} (e : ExtB p H H') (s : Strm H' p n) (h : H' t = none) : H t = none := by
  cases q : H t with
  | none => rfl
  | some o => rw [e t o (s.ne h) q] at h; cases h
def sp_l_parts (K : PySem.W.Frag) : Sp := fun vs H Q _ => ∃ (p : Addr) (n : Nat), vs = [.ref p] ∧ Strm H p n ∧ n + 10 < 1000000 ∧
  ∀ t l H', l.Ok → H t = none → ExtB p H H' → Strm H' p (n + 7) → H' t = some (.tup (Lp.V l)) → Q (.ref t) H'
def rd_l_parts (K : PySem.W.Frag) : TS := tSeq (tAsg (tOp FW.rAdd (tC (.int 2)) (tCall (sp_l_draw K) [] E0 (tCons (tVar 0) (tCons (tC (.int 3)) (tNil))))) (gName 1)) (tSeq (tAsg (tCall (sp_l_pick K) [] E0 (tCons (tVar 0) (tCons (tCall (sp_l_weights K) [] E0 (tCons (tVar 1) (tNil))) (tNil)))) (gTup K 2 (gCons (gName 2) (gCons (gName 3) (gNil))))) (tSeq (tAsg (tCall (sp_l_pick K) [] E0 (tCons (tVar 0) (tCons (tLst (tCons (tC (.int 0)) (tCons (tC (.int 0)) (tCons (tC (.int 1)) (tCons (tOp FW.rSub (tVar 3) (tC (.int 1))) (tCons (tVar 3) (tCons (tUn FW.rNeg (tC (.int 1))) (tCons (tOp FW.rSub (tCall (sp_l_draw K) [] E0 (tCons (tVar 0) (tCons (tOp FW.rAdd (tOp FW.rAdd (tOp FW.rMul (tC (.int 2)) (tVar 2)) (tVar 3)) (tC (.int 1))) (tNil)))) (tVar 2)) (tNil))))))))) (tNil)))) (gName 4)) (tSeq (tAsg (tCall (sp_l_pick K) [] E0 (tCons (tVar 0) (tCons (tLst (tCons (tC (.str "notless")) (tCons (tC (.str "equal")) (tCons (tC (.str "near1")) (tCons (tC (.str "near2")) (tCons (tC (.str "back")) (tCons (tC (.str "under")) (tCons (tC (.str "held")) (tNil))))))))) (tNil)))) (gName 5)) (tSeq (tAsg (tCall (sp_l_pick K) [] E0 (tCons (tVar 0) (tCons (tLst (tCons (tC (.str "old")) (tCons (tC (.str "new")) (tCons (tC (.str "less")) (tCons (tC (.str "more")) (tNil)))))) (tNil)))) (gName 6)) (tSeq (tAsg (tCall (sp_l_pick K) [] E0 (tCons (tVar 0) (tCons (tLst (tCons (tC (.str "none")) (tCons (tC (.str "none")) (tCons (tC (.str "down")) (tCons (tC (.str "up")) (tCons (tC (.str "both")) (tNil))))))) (tNil)))) (gName 7)) (tRet (tTup (tCons (tVar 1) (tCons (tVar 2) (tCons (tVar 3) (tCons (tVar 4) (tCons (tVar 5) (tCons (tIf (tTest (tOp (rIn K false) (tVar 5) (tTup (tCons (tC (.str "under")) (tCons (tC (.str "held")) (tNil)))))) (tC (.str "old")) (tVar 6)) (tCons (tVar 7) (tNil)))))))))))))))
theorem pure_l_parts (K : PySem.W.Frag) (vs : List V) (H : Hp) (Q : VK) (E : XK) (h : sp_l_parts K vs H Q E) : rd_l_parts K { nx := fun _ H' => Q .non H', rt := Q } (start ["_law_stream_here", "_law_k", "_law_a", "_law_c", "_law_d", "_law_stop", "_law_told", "_law_mend"] vs) H := by
  obtain ⟨p, n, rfl, hS, hn, q⟩ := h
  unfold rd_l_parts
  walk_at "rd"
  refine ⟨p, 3, n, rfl, hS, by omega, by decide, by decide, fun d H1 d0 d1 e1 s1 => ?_⟩
  walk_at "rd"
  refine ⟨2 + d, rfl, by omega, by omega, fun l ts H2 hl e2 hts hpr => ?_⟩
  obtain ⟨w1, w2⟩ := weights_ne (k := 2 + d) (by omega) (by omega)
  have hlen := hpr.len
  walk_at "rd"
  refine ⟨p, l, ts, n + 1, rfl, s1.ext e2, by omega, s1.ne hl, hts, ?_, by omega, fun v H3 hv e3 s3 => ?_⟩
  · intro z; rw [z] at hlen; exact w1 (List.length_eq_zero_iff.mp hlen.symm)
  obtain ⟨⟨a, c⟩, hw, t, rfl, ht⟩ := hpr.mem hv
  obtain ⟨c1, c3, ca, ac, a1, a5⟩ := weights_ok (k := 2 + d) (by omega) (by omega) _ hw
  dsimp only at c1 c3 ca ac a1 a5 ht
  refine g_tup ?_ (SqT.of (e3 _ _ ((s1.ext e2).neT ht) ht)) rfl
  walk_at "rd"
  · refine ⟨p, 2 * a + c + 1, n + 2, rfl, s3, by omega, by omega, log2_small (by omega), fun d' H4 d0' d1' e4 s4 => ?_⟩
    walk_at "rd"
    refine ⟨by show 7 ≤ sizeLine; decide, fun ql hq => ?_⟩
    walk_at "rd"
    refine ⟨p, ql, _, n + 3, rfl, s4.ext (Ext.new hq), by omega, s4.ne hq, upd_same, by simp, by show 7 < 1000; decide, fun v H5 hv5 e5 s5 => ?_⟩
    obtain ⟨dd, rfl, dd0, dd1⟩ : ∃ dd : Int, v = .int dd ∧ -a ≤ dd ∧ dd ≤ a + c := by
      simp only [List.mem_cons, List.not_mem_nil, or_false] at hv5
      rcases hv5 with rfl | rfl | rfl | rfl | rfl | rfl | rfl
      · exact ⟨_, rfl, by omega, by omega⟩
      · exact ⟨_, rfl, by omega, by omega⟩
      · exact ⟨_, rfl, by omega, by omega⟩
      · exact ⟨_, rfl, by omega, by omega⟩
      · exact ⟨_, rfl, by omega, by omega⟩
      · exact ⟨_, rfl, by omega, by omega⟩
      · exact ⟨_, rfl, by omega, by omega⟩
    walk_at "rd"
    refine ⟨by show 7 ≤ sizeLine; decide, fun q6 hq6 => ?_⟩
    walk_at "rd"
    refine ⟨p, q6, stopsV, n + 4, rfl, s5.ext (Ext.new hq6), by omega, s5.ne hq6, upd_same, by simp [stopsV], by show 7 < 1000; decide, fun v H7 hv7 e7 s7 => ?_⟩
    obtain ⟨ws, rfl⟩ := strs_stops v hv7
    walk_at "rd"
    refine ⟨by show 4 ≤ sizeLine; decide, fun q8 hq8 => ?_⟩
    walk_at "rd"
    refine ⟨p, q8, toldsV, n + 5, rfl, s7.ext (Ext.new hq8), by omega, s7.ne hq8, upd_same, by simp [toldsV], by show 4 < 1000; decide, fun v H9 hv9 e9 s9 => ?_⟩
    obtain ⟨wt, rfl⟩ := strs_tolds v hv9
    walk_at "rd"
    refine ⟨by show 5 ≤ sizeLine; decide, fun q10 hq10 => ?_⟩
    walk_at "rd"
    refine ⟨p, q10, _, n + 6, rfl, s9.ext (Ext.new hq10), by omega, s9.ne hq10, upd_same, by simp, by show 5 < 1000; decide, fun v H11 hv11 e11 s11 => ?_⟩
    obtain ⟨wm, rfl, hwm⟩ : ∃ x, v = .str x ∧ V.str x ∈ mendsV := by
      simp only [List.mem_cons, List.not_mem_nil, or_false] at hv11
      rcases hv11 with rfl | rfl | rfl | rfl | rfl <;> exact ⟨_, rfl, by simp [mendsV]⟩
    walk_at "rd"
    refine ⟨by show 2 ≤ sizeLine; decide, fun q12 hq12 => ?_⟩
    have eB : ExtB p H H11 := e1.tr ((ExtB.of e2).tr (e3.tr (e4.tr ((ExtB.of (Ext.new hq)).tr (e5.tr ((ExtB.of (Ext.new hq6)).tr (e7.tr ((ExtB.of (Ext.new hq8)).tr (e9.tr ((ExtB.of (Ext.new hq10)).tr e11))))))))))
    refine e_in ?_ (.inr (SqT.of upd_same)) rfl rfl
    rw [if_neg (by decide)]
    have fin : ∀ tt : Str, V.str tt ∈ toldsV → (V.str ws ∈ looksV → tt = "old") → ∀ r, (upd H11 q12 (.tup [.str "under", .str "held"])) r = none → Q (.ref r) (upd (upd H11 q12 (.tup [.str "under", .str "held"])) r (.tup [.int (2 + d), .int a, .int c, .int dd, .str ws, .str tt, .str wm])) := by
      intro tt htt hlk r hr
      have s12 : Strm (upd H11 q12 (.tup [.str "under", .str "held"])) p (n + 7) := s11.ext (Ext.new hq12)
      have eB12 : ExtB p H (upd H11 q12 (.tup [.str "under", .str "held"])) := eB.tr (ExtB.of (Ext.new hq12))
      exact q r ⟨2 + d, a, c, dd, ws, tt, wm⟩ _ ⟨by show 2 + d = 2 ∨ 2 + d = 3 ∨ 2 + d = 4; omega, a1, a5, c1, c3, ca, ac, dd0, dd1, hv7, htt, hlk, hwm⟩ (FWL.ExtB.non eB12 s12 hr) (eB12.tr (ExtB.of (Ext.new hr))) (s12.ext (Ext.new hr)) upd_same
    walk_at "rd"
    refine e_iteB (fun hb => ?_) (fun hb => ?_)
    · walk_at "rd"
      exact ⟨by show 7 ≤ sizeLine; decide, fin "old" (by simp [toldsV]) (fun _ => rfl)⟩
    · walk_at "rd"
      refine ⟨by show 7 ≤ sizeLine; decide, fin wt hv9 (fun hx => ?_)⟩
      have e := inV_str ws strs_looks
      rw [decide_eq_true hx] at e
      rw [show inV (V.str ws) [V.str "under", V.str "held"] = inV (V.str ws) looksV from rfl, e] at hb
      cases hb
  · exact wide_mul (a := 10) (b := 10) (by decide) (by omega) (by decide) (by decide) (by decide)
end FWL
namespace FWL
open PySem PySem.Spec PyProof.Rows L2 FW

/-! ### the law's power -/
def sp_l_power (K : PySem.W.Frag) : Sp := sp_power K
def rd_l_power_L1 (K : PySem.W.Frag) : TS := tAsg (tOp FW.rMul (tVar 2) (tVar 0)) (gName 2)
def rd_l_power (K : PySem.W.Frag) : TS := tSeq (tAsg (tC (.int 1)) (gName 2)) (tSeq (tFor (iRng1 (tCons (tVar 1) (tNil))) (gName 3) (rd_l_power_L1 K)) (tRet (tVar 2)))
theorem pure_l_power (K : PySem.W.Frag) (vs : List V) (H : Hp) (Q : VK) (E : XK) (h : sp_l_power K vs H Q E) : rd_l_power K { nx := fun _ H' => Q .non H', rt := Q } (start ["_law_x", "_law_k", "_law_found", "_law_turn"] vs) H := by
  obtain ⟨x, k, b, rfl, hk, hx, hb, hz, q⟩ := h
  unfold rd_l_power
  walk_at "rd"
  refine for_range (lo := 0) (n := k.toNat) (fun i σ H' => H' = H ∧ ∃ v, σ = [some (.int x), some (.int k), some (.int (x ^ i)), v]) ⟨rfl, _, by rw [Int.pow_zero]; rfl⟩ ?_ ?_
  · rintro i σ H' hi ⟨rfl, v, rfl⟩
    walk_at "re"
    unfold rd_l_power_L1
    walk_at "rd"
    · exact ⟨rfl, _, by rw [Int.pow_succ]; rfl⟩
    · refine wide_mul (pow_lt hx hb i) hx (by omega) hb ?_
      have : (i + 1) * b ≤ (k.toNat + 1) * b := Nat.mul_le_mul_right _ (by omega)
      rw [Nat.add_mul] at this
      omega
  · rintro σ H' ⟨rfl, v, rfl⟩
    walk_at "rd"
    exact q
  · have : k.toNat * 1 ≤ k.toNat * b := Nat.mul_le_mul_left _ hb
    rw [Nat.add_mul] at hz
    omega
end FWL
namespace FWL
open PySem PySem.Spec PyProof.Rows L2 FW
/-! ### sizes -/
abbrev Sz (b : Nat) (x : Int) : Prop := x.natAbs < 2 ^ b
theorem Sz.mono {a b : Nat} {x : Int} (h : Sz a x) (l : a ≤ b) : Sz b x := Nat.lt_of_lt_of_le h (Nat.pow_le_pow_right (by decide) l)
theorem Sz.add {a : Nat} {x y : Int} (h : Sz a x) (h' : Sz a y) : Sz (a + 1) (x + y) := by
  show (x + y).natAbs < 2 ^ (a + 1)
  rw [Nat.pow_succ]
  have h1 : x.natAbs < 2 ^ a := h
  have h2 : y.natAbs < 2 ^ a := h'
  omega
theorem Sz.sub {a : Nat} {x y : Int} (h : Sz a x) (h' : Sz a y) : Sz (a + 1) (x - y) := by
  show (x - y).natAbs < 2 ^ (a + 1)
  rw [Nat.pow_succ]
  have h1 : x.natAbs < 2 ^ a := h
  have h2 : y.natAbs < 2 ^ a := h'
  omega
theorem Sz.mul {a b : Nat} {x y : Int} (h : Sz a x) (h' : Sz b y) : Sz (a + b) (x * y) := wide_lt h h'
theorem Sz.of_le {a : Nat} {x y : Int} (h0 : 0 ≤ x) (h : x ≤ y) (hy : Sz a y) : Sz a x := wide_le h0 h hy
theorem Sz.pow {b : Nat} {x : Int} (h : Sz b x) (hb : 0 < b) (n : Nat) : Sz (n * b + 1) (x ^ n) := pow_lt h hb n
theorem Sz.log2 {b : Nat} {x : Int} (h : Sz b x) (hb : 0 < b) (h9 : b ≤ 9000) : x.natAbs.log2 < 9000 := Nat.lt_of_lt_of_le (PySem.Flt.log2_lt_of hb h) h9
theorem Sz.powk {b : Nat} {x k : Int} (h : Sz b x) (hb : 0 < b) (hk : k ≤ 4) : Sz (4 * b + 1) (x ^ k.toNat) :=
  (h.pow hb k.toNat).mono (by have : k.toNat ≤ 4 := by omega
                              have := Nat.mul_le_mul_right b this
                              omega)
theorem pow_room {k : Int} {b : Nat} (hk : k ≤ 4) (hb : b ≤ 1000) : (k.toNat + 1) * b ≤ 900000 := by
  have : k.toNat + 1 ≤ 5 := by omega
  have := Nat.mul_le_mul this hb
  omega
end FWL
namespace FWL
open PySem PySem.Spec PyProof.Rows L2 FW

/-! ### the law's own root: the greatest number whose power is at most n -/
def sp_l_root (K : PySem.W.Frag) : Sp := fun vs H Q _ => ∃ n k : Int, vs = [.int n, .int k] ∧ 0 ≤ n ∧ 1 ≤ k ∧ k ≤ 4 ∧ Sz 2000 n ∧ ∀ (r : Int) H', 0 ≤ r → r ^ k.toNat ≤ n → n < (r + 1) ^ k.toNat → Ext H H' → Q (.int r) H'
def rd_l_root_L1 (K : PySem.W.Frag) : TS := tAsg (tOp FW.rMul (tVar 3) (tC (.int 2))) (gName 3)
def rd_l_root_L2 (K : PySem.W.Frag) : TS := tSeq (tAsg (tOp FW.rDiv (tOp FW.rAdd (tVar 2) (tVar 3)) (tC (.int 2))) (gName 4)) (tIfS (tTest (tOp FW.rLe (tCall (sp_l_power K) [] E0 (tCons (tVar 4) (tCons (tVar 1) (tNil)))) (tVar 0))) (tAsg (tVar 4) (gName 2)) (tAsg (tVar 4) (gName 3)))
def rd_l_root (K : PySem.W.Frag) : TS := tSeq (tAsg (tTup (tCons (tC (.int 0)) (tCons (tC (.int 1)) (tNil)))) (gTup K 2 (gCons (gName 2) (gCons (gName 3) (gNil))))) (tSeq (tWhile (tTest (tOp FW.rLe (tCall (sp_l_power K) [] E0 (tCons (tVar 3) (tCons (tVar 1) (tNil)))) (tVar 0))) (rd_l_root_L1 K)) (tSeq (tWhile (tTest (tOp FW.rGt (tOp FW.rSub (tVar 3) (tVar 2)) (tC (.int 1)))) (rd_l_root_L2 K)) (tRet (tVar 2))))
theorem pow_ge_self {x : Int} (h : 1 ≤ x) (n : Nat) (hn : 1 ≤ n) : x ≤ x ^ n := by
  obtain ⟨m, rfl⟩ : ∃ m, n = m + 1 := ⟨n - 1, by omega⟩
  have hp := pow_pos' h m
  rw [Int.pow_succ]
  have : 1 * x ≤ x ^ m * x := Int.mul_le_mul_of_nonneg_right hp (by omega)
  omega
theorem pow_mono {x y : Int} (h0 : 0 ≤ x) (h : x ≤ y) : ∀ n : Nat, x ^ n ≤ y ^ n
  | 0 => by simp
  | n + 1 => by
    have ih := pow_mono h0 h n
    have hx : 0 ≤ x ^ n := Int.pow_nonneg h0
    rw [Int.pow_succ, Int.pow_succ]
    exact Int.mul_le_mul ih h h0 (by omega)
theorem pow_lt_inv {x y : Int} (h0 : 0 ≤ y) {n : Nat} (h : x ^ n < y ^ n) (hx : 0 ≤ x) : x < y := by
  rcases Int.lt_or_le x y with h1 | h1
  · exact h1
  · have := pow_mono h0 h1 n
    omega
theorem pure_l_root (K : PySem.W.Frag) (vs : List V) (H : Hp) (Q : VK) (E : XK) (h : sp_l_root K vs H Q E) : rd_l_root K { nx := fun _ H' => Q .non H', rt := Q } (start ["_law_n", "_law_k", "_law_least", "_law_most", "_law_middle"] vs) H := by
  obtain ⟨n, k, rfl, hn, hk1, hk4, hs, q⟩ := h
  have hnb : n.natAbs < 2 ^ 2000 := hs
  unfold rd_l_root
  walk_at "rd"
  refine ⟨by show 2 ≤ sizeLine; decide, fun q1 hq1 => ?_⟩
  refine g_tup ?_ (SqT.of upd_same) rfl
  have eE := Ext.new (o := .tup [V.int 0, V.int 1]) hq1
  generalize upd H q1 (.tup [V.int 0, V.int 1]) = H at *
  walk_at "rd"
  refine s_while (fun m σ H' => H' = H ∧ ∃ (most : Int) (v : Option V), 1 ≤ most ∧ most ≤ 2 * n + 1 ∧ m = (n + 1 - most).toNat + 1 ∧ σ = [some (.int n), some (.int k), some (.int 0), some (.int most), v]) _ ⟨rfl, 1, none, by decide, by omega, rfl, rfl⟩ ?_
  rintro m σ H' ⟨rfl, most, v, h1, h2, rfl, rfl⟩
  have hms : Sz 2002 most := by
    show most.natAbs < 2 ^ 2002
    rw [show (2 : Nat) ^ 2002 = 4 * 2 ^ 2000 from by rw [Nat.pow_add 2 2000 2, Nat.mul_comm]]
    have : 0 < 2 ^ 2000 := Nat.pow_pos (by decide)
    omega
  walk_at "rd"
  refine ⟨most, k, 2002, rfl, by omega, hms, by decide, ?_, ?_⟩
  · have : k.toNat + 1 ≤ 5 := by omega
    have := Nat.mul_le_mul_right 2002 this
    omega
  walk_at "rd"
  refine e_ite (fun hle => ?_) (fun hgt => ?_)
  · have hself := pow_ge_self h1 k.toNat (by omega)
    refine ⟨fun σ' H'' => ∃ m', m' < (n + 1 - most).toNat + 1 ∧ (H'' = H' ∧ ∃ (most : Int) (v : Option V), 1 ≤ most ∧ most ≤ 2 * n + 1 ∧ m' = (n + 1 - most).toNat + 1 ∧ σ' = [some (.int n), some (.int k), some (.int 0), some (.int most), v]), fun _ _ h => h, ?_⟩
    unfold rd_l_root_L1
    walk_at "rd"
    · exact ⟨_, by omega, rfl, most * 2, v, by omega, by omega, rfl, rfl⟩
    · exact wide_mul hms (b := 10) (by decide) (by decide) (by decide) (by decide)
  · walk_at "rd"
    have h0k : (0 : Int) ^ k.toNat ≤ n := by
      rw [Int.zero_pow (by omega)]; exact hn
    refine s_while (fun m σ H'' => H'' = H' ∧ ∃ (lo hi : Int) (v : Option V), 0 ≤ lo ∧ lo < hi ∧ hi ≤ most ∧ lo ^ k.toNat ≤ n ∧ n < hi ^ k.toNat ∧ m = (hi - lo).toNat ∧ σ = [some (.int n), some (.int k), some (.int lo), some (.int hi), v]) _ ⟨rfl, 0, most, v, by decide, by omega, by omega, h0k, by omega, rfl, rfl⟩ ?_
    rintro m σ H'' ⟨rfl, lo, hi, v, l0, llt, lm, p1, p2, rfl, rfl⟩
    walk_at "rd"
    refine e_ite (fun hgo => ?_) (fun hno => ?_)
    · refine ⟨fun σ' H2 => ∃ m', m' < (hi - lo).toNat ∧ (H2 = H'' ∧ ∃ (lo hi : Int) (v : Option V), 0 ≤ lo ∧ lo < hi ∧ hi ≤ most ∧ lo ^ k.toNat ≤ n ∧ n < hi ^ k.toNat ∧ m' = (hi - lo).toNat ∧ σ' = [some (.int n), some (.int k), some (.int lo), some (.int hi), v]), fun _ _ h => h, ?_⟩
      unfold rd_l_root_L2
      walk_at "rd"
      · have hmid : lo < (lo + hi) / 2 ∧ (lo + hi) / 2 < hi := by omega
        generalize (lo + hi) / 2 = mid at *
        have hmds : Sz 2002 mid := Sz.of_le (by omega) (by omega : mid ≤ most) hms
        refine ⟨mid, k, 2002, rfl, by omega, hmds, by decide, ?_, ?_⟩
        · have : k.toNat + 1 ≤ 5 := by omega
          have := Nat.mul_le_mul_right 2002 this
          omega
        walk_at "rd"
        refine e_ite (fun hle => ?_) (fun hgt => ?_)
        · walk_at "rd"
          exact ⟨_, by omega, rfl, mid, hi, _, by omega, by omega, by omega, hle, p2, rfl, rfl⟩
        · walk_at "rd"
          exact ⟨_, by omega, rfl, lo, mid, _, by omega, by omega, by omega, p1, by omega, rfl, rfl⟩
      · exact ⟨by decide, by decide⟩
    · walk_at "rd"
      have e : hi = lo + 1 := by omega
      subst e
      exact q lo _ l0 p1 p2 eE
/-! ### led over a tuple of parts, a loop made of it -/
def sp_l_led (K : PySem.W.Frag) : Sp := fun vs H Q _ => ∃ (t : Addr) (l : Lp) (n x : Int), vs = [.ref t, .int n, .int x] ∧ H t = some (.tup l.V) ∧ l.Ok ∧ 1 ≤ x ∧ 0 ≤ n ∧ n.natAbs < 2 ^ 2000 ∧ x.natAbs < 2 ^ 2000 ∧ Q (.int (l.led n x)) H
def rd_l_led (K : PySem.W.Frag) : TS := tRet (tOp FW.rDiv (tOp FW.rAdd (tOp FW.rAdd (tOp FW.rMul (tOp (rIxT K) (tVar 0) (tC (.int 1))) (tVar 2)) (tOp FW.rMul (tOp (rIxT K) (tVar 0) (tC (.int 2))) (tOp FW.rDiv (tVar 1) (tCall (sp_l_power K) [] E0 (tCons (tVar 2) (tCons (tOp FW.rSub (tOp (rIxT K) (tVar 0) (tC (.int 0))) (tC (.int 1))) (tNil))))))) (tOp (rIxT K) (tVar 0) (tC (.int 3)))) (tOp FW.rAdd (tOp (rIxT K) (tVar 0) (tC (.int 1))) (tOp (rIxT K) (tVar 0) (tC (.int 2)))))
theorem pure_l_led (K : PySem.W.Frag) (vs : List V) (H : Hp) (Q : VK) (E : XK) (h : sp_l_led K vs H Q E) : rd_l_led K { nx := fun _ H' => Q .non H', rt := Q } (start ["_law_parts_here", "_law_n", "_law_x"] vs) H := by
  obtain ⟨t, l, n, x, rfl, ht, o, hx, hn, hnb, hxb, q⟩ := h
  have hk := o.hk; have a1 := o.a1; have a5 := o.a5; have c1 := o.c1; have c3 := o.c3
  have hpw := pow_lt hxb (by decide) (l.k - 1).toNat
  have hpp := pow_pos' hx (l.k - 1).toNat
  have hq : (n / x ^ (l.k - 1).toNat).natAbs < 2 ^ 2000 := Nat.lt_of_le_of_lt (ediv_abs hn hpp) hnb
  unfold rd_l_led
  walk_at "rd"
  refine e_ixT ?_ (SqT.of ht) rfl
  walk_at "rd"
  · refine e_ixT ?_ (SqT.of ht) rfl
    walk_at "rd"
    refine e_ixT ?_ (SqT.of ht) rfl
    walk_at "rd"
    refine ⟨x, l.k - 1, 2000, rfl, by omega, hxb, by decide, ?_, ?_⟩
    · have : (l.k - 1).toNat + 1 ≤ 4 := by omega
      have := Nat.mul_le_mul_right 2000 this
      omega
    walk_at "rd"
    · refine e_ixT ?_ (SqT.of ht) rfl
      walk_at "rd"
      refine e_ixT ?_ (SqT.of ht) rfl
      walk_at "rd"
      refine e_ixT ?_ (SqT.of ht) rfl
      walk_at "rd"
      · exact q
      · refine wide_div (b := 10) (by omega) ?_ (by decide) (by decide)
        show (l.a + l.c).natAbs < 1024
        omega
    · exact wide_mul (a := 10) (b := 2000) (by show l.c.natAbs < 1024; omega) hq (by decide) (by decide) (by decide)
    · refine wide_div (b := (l.k - 1).toNat * 2000 + 1) (by omega) hpw (by omega) ?_
      have : (l.k - 1).toNat ≤ 3 := by omega
      have := Nat.mul_le_mul_right 2000 this
      omega
  · exact wide_mul (a := 10) (b := 2000) (by show l.a.natAbs < 1024; omega) hxb (by decide) (by decide) (by decide)
def sp_l_loop (K : PySem.W.Frag) : Sp := fun vs H Q _ => ∃ (t : Addr) (l : Lp), vs = [.ref t] ∧ H t = some (.tup l.V) ∧ l.Ok ∧ ∀ x H', H x = none → Ext H H' → IsLp K H' x l → Q (.ref x) H'
def rd_l_loop (K : PySem.W.Frag) : TS := tRet (tMake (He.ga K "Average") (sp_Average_init K) [] E0 (tCons (tOp (rIxT K) (tVar 0) (tC (.int 0))) (tCons (tOp (rIxT K) (tVar 0) (tC (.int 1))) (tCons (tOp (rIxT K) (tVar 0) (tC (.int 2))) (tCons (tOp (rIxT K) (tVar 0) (tC (.int 3))) (tCons (tOp (rIxT K) (tVar 0) (tC (.int 4))) (tCons (tOp (rIxT K) (tVar 0) (tC (.int 5))) (tCons (tOp (rIxT K) (tVar 0) (tC (.int 6))) (tNil)))))))))
theorem pure_l_loop (K : PySem.W.Frag) (vs : List V) (H : Hp) (Q : VK) (E : XK) (h : sp_l_loop K vs H Q E) : rd_l_loop K { nx := fun _ H' => Q .non H', rt := Q } (start ["_law_parts_here"] vs) H := by
  obtain ⟨t, l, rfl, ht, o, q⟩ := h
  unfold rd_l_loop
  walk_at "rd"
  refine e_ixT ?_ (SqT.of ht) rfl
  walk_at "rd"
  refine e_ixT ?_ (SqT.of ht) rfl
  walk_at "rd"
  refine e_ixT ?_ (SqT.of ht) rfl
  walk_at "rd"
  refine e_ixT ?_ (SqT.of ht) rfl
  walk_at "rd"
  refine e_ixT ?_ (SqT.of ht) rfl
  walk_at "rd"
  refine e_ixT ?_ (SqT.of ht) rfl
  walk_at "rd"
  refine e_ixT ?_ (SqT.of ht) rfl
  walk_at "rd"
  intro x dx hx hdx hne
  have e3 : Ext H (upd (upd H dx (.own x)) x (.ins (He.ga K "Average") dx [])) := (Ext.new hdx).tr (Ext.new (by rw [upd_ne hne.symm]; exact hx))
  refine ⟨x, dx, l, rfl, o, upd_same, fun H4 e4 h4 => ⟨rfl, q x H4 hx (fun b ob q => e4 _ _ (ne_of_none q hx) (e3 _ _ q)) ⟨dx, h4⟩⟩⟩
end FWL
namespace FWL
open PySem PySem.Spec PyProof.Rows L2 FW
/-! ### the checks that may raise -/
abbrev clsN (K : PySem.W.Frag) : Value := .ref (He.ga K "BadNumber")
abbrev clsS (K : PySem.W.Frag) : Value := .ref (He.ga K "BadStart")
def sp_check_numberX (K : PySem.W.Frag) : Sp := fun vs H Q E => ∃ (v : V) (n : String), vs = [v] ∧ WT K H v n ∧ (fromI v 0 = true → Q .non H) ∧ (fromI v 0 = false → ∀ d, H d = none → E (clsN K) (some d) (upd H d (.xd [("value", v)])))
def sp_check_startX (K : PySem.W.Frag) : Sp := fun vs H Q E => ∃ (v : V) (n : String), vs = [v] ∧ WT K H v n ∧ (fromI v 1 = true → Q .non H) ∧ (fromI v 1 = false → ∀ d, H d = none → E (clsS K) (some d) (upd H d (.xd [("value", v)])))
def rd_check_numberX (K : PySem.W.Frag) (E : XK) : TS := tIfS (tNot (tB (tCall (sp_is_whole_from K) [] E0 (tCons (tVar 0) (tCons (tC (.int 0)) (tNil)))))) (FW.tRaiseE (He.ga K "BadNumber") "value" (fun cls d _ H => E cls d H) (tCons (tVar 0) (tNil))) (tNext)
def rd_check_startX (K : PySem.W.Frag) (E : XK) : TS := tIfS (tNot (tB (tCall (sp_is_whole_from K) [] E0 (tCons (tVar 0) (tCons (tC (.int 1)) (tNil)))))) (FW.tRaiseE (He.ga K "BadStart") "value" (fun cls d _ H => E cls d H) (tCons (tVar 0) (tNil))) (tNext)
theorem pure_check_numberX (K : PySem.W.Frag) (vs : List V) (H : Hp) (Q : VK) (E : XK) (h : sp_check_numberX K vs H Q E) : rd_check_numberX K E { nx := fun _ H' => Q .non H', rt := Q } (start ["n"] vs) H := by
  obtain ⟨v, n, rfl, hv, q1, q2⟩ := h
  unfold rd_check_numberX
  walk_at "rd"
  refine ⟨v, n, 0, rfl, hv, ?_⟩
  walk_at "rd"
  cases hb : fromI v 0 with
  | true =>
    walk_at "rd"
    exact q1 hb
  | false =>
    walk_at "rd"
    unfold tRaiseE tMkE
    walk_at "rd"
    exact ⟨v, rfl, q2 hb⟩
theorem pure_check_startX (K : PySem.W.Frag) (vs : List V) (H : Hp) (Q : VK) (E : XK) (h : sp_check_startX K vs H Q E) : rd_check_startX K E { nx := fun _ H' => Q .non H', rt := Q } (start ["x"] vs) H := by
  obtain ⟨v, n, rfl, hv, q1, q2⟩ := h
  unfold rd_check_startX
  walk_at "rd"
  refine ⟨v, n, 1, rfl, hv, ?_⟩
  walk_at "rd"
  cases hb : fromI v 1 with
  | true =>
    walk_at "rd"
    exact q1 hb
  | false =>
    walk_at "rd"
    unfold tRaiseE tMkE
    walk_at "rd"
    exact ⟨v, rfl, q2 hb⟩
theorem fromI_of {v : V} {l : Int} (h : fromI v l = true) : ∃ i, v = .int i ∧ l ≤ i := by
  cases v <;> first | (simp [fromI, isInt] at h; done) | skip
  rename_i i
  exact ⟨i, rfl, of_decide_eq_true h⟩
theorem fromI_int {i l : Int} (h : l ≤ i) : fromI (.int i) l = true := by simp [fromI, isInt, iv, h]
def sp_Average_stepX (K : PySem.W.Frag) : Sp := fun vs H Q E => ∃ (p : Addr) (l : Lp) (vn vx : V) (nn nx : String), vs = [.ref p, vn, vx] ∧ IsLp K H p l ∧ l.Ok ∧ WT K H vn nn ∧ WT K H vx nx ∧
  (fromI vn 0 = false → ∀ d, H d = none → E (clsN K) (some d) (upd H d (.xd [("value", vn)]))) ∧
  (fromI vn 0 = true → fromI vx 1 = false → ∀ d, H d = none → E (clsS K) (some d) (upd H d (.xd [("value", vx)]))) ∧
  (fromI vn 0 = true → fromI vx 1 = true → Sz 2000 (iv vn) ∧ Sz 2000 (iv vx) ∧ Q (.int (l.led (iv vn) (iv vx))) H)
def rd_Average_stepX (K : PySem.W.Frag) (E : XK) : TS := tSeq (tDrop (tCall (sp_check_numberX K) [] E (tCons (tVar 1) (tNil)))) (tSeq (tDrop (tCall (sp_check_startX K) [] E (tCons (tVar 2) (tNil)))) (tRet (tMeth (He.ga K "Average") "led" (sp_Average_led K) [] E0 (tVar 0) (tCons (tVar 1) (tCons (tVar 2) (tNil))))))
theorem pure_Average_stepX (K : PySem.W.Frag) (vs : List V) (H : Hp) (Q : VK) (E : XK) (h : sp_Average_stepX K vs H Q E) : rd_Average_stepX K E { nx := fun _ H' => Q .non H', rt := Q } (start ["self", "n", "x"] vs) H := by
  obtain ⟨p, l, vn, vx, nn, nx, rfl, hp, o, wn, wx, q1, q2, q3⟩ := h
  unfold rd_Average_stepX
  walk_at "rd"
  refine ⟨vn, nn, rfl, wn, fun h1 => ?_, q1⟩
  walk_at "rd"
  refine ⟨vx, nx, rfl, wx, fun h2 => ?_, q2 h1⟩
  obtain ⟨n, rfl, hn⟩ := fromI_of h1
  obtain ⟨x, rfl, hx⟩ := fromI_of h2
  obtain ⟨s1, s2, q⟩ := q3 h1 h2
  obtain ⟨dx, hp'⟩ := id hp
  walk_at "rd"
  refine ⟨p, dx, _, rfl, hp', rfl, ?_⟩
  walk_at "rd"
  exact ⟨p, l, n, x, rfl, hp, o, hx, hn, s1, s2, q⟩
theorem stepX_ok {K : PySem.W.Frag} {H : Hp} {Q : VK} {E : XK} {p : Addr} {l : Lp} {n x : Int} (hp : IsLp K H p l) (o : l.Ok) (hn : 0 ≤ n) (hx : 1 ≤ x) (s1 : Sz 2000 n) (s2 : Sz 2000 x) (q : Q (.int (l.led n x)) H) : sp_Average_stepX K [.ref p, .int n, .int x] H Q E :=
  ⟨p, l, _, _, _, _, rfl, hp, o, WT.i n, WT.i x, (fun h => by rw [fromI_int hn] at h; cases h), (fun _ h => by rw [fromI_int hx] at h; cases h), fun _ _ => ⟨s1, s2, q⟩⟩
/-- which class a clause takes -/
structure ExK (K : PySem.W.Frag) : Prop where
  nn : PySem.W.exmOne K (clsN K) (clsN K) = some true
  sn : PySem.W.exmOne K (clsS K) (clsN K) = some false
  ss : PySem.W.exmOne K (clsS K) (clsS K) = some true
def sp_l_refused (K : PySem.W.Frag) : Sp := fun vs H Q _ => ∃ (p : Addr) (l : Lp) (vn vx : V) (nn nx : String), vs = [.ref p, vn, vx] ∧ IsLp K H p l ∧ l.Ok ∧ WT K H vn nn ∧ WT K H vx nx ∧
  (fromI vn 0 = false → ∀ t H', H t = none → Ext H H' → H' t = some (.tup [.str "number", vn]) → Q (.ref t) H') ∧
  (fromI vn 0 = true → fromI vx 1 = false → ∀ t H', H t = none → Ext H H' → H' t = some (.tup [.str "start", vx]) → Q (.ref t) H') ∧
  (fromI vn 0 = true → fromI vx 1 = true → Sz 2000 (iv vn) ∧ Sz 2000 (iv vx) ∧ Q .non H)
def rd_l_refused (K : PySem.W.Frag) : TS := tSeq (FW.tTryA K (fun W => tDrop (FW.tMethW (He.ga K "Average") "step" (sp_Average_stepX K) W (tVar 0) (tCons (tVar 1) (tCons (tVar 2) (tNil))))) [⟨.ref (He.ga K "BadNumber"), 3, fun a cls d => tRet (tTup (tCons (tC (.str "number")) (tCons (FW.tByE (He.ga K "BadNumber") "value" a cls d (tVar 3)) (tNil))))⟩, ⟨.ref (He.ga K "BadStart"), 3, fun a cls d => tRet (tTup (tCons (tC (.str "start")) (tCons (FW.tByE (He.ga K "BadStart") "value" a cls d (tVar 3)) (tNil))))⟩] (fun _ _ _ _ => False)) (tRet (tC .non))
theorem e_byE {C : Addr} {f : Str} {a : Addr} {cls : Value} {d : Option Addr} {te : TE} {σ : L2.St} {H : Hp} {Q : VK} (k : te σ H fun x H1 => x = .ref a ∧ cls = .ref C ∧ ∃ (dd : Addr) (v : V), d = some dd ∧ H1 dd = some (.xd [(f, v)]) ∧ Q v H1) : tByE C f a cls d te σ H Q := k
theorem pure_l_refused (K : PySem.W.Frag) (X : ExK K) (vs : List V) (H : Hp) (Q : VK) (E : XK) (h : sp_l_refused K vs H Q E) : rd_l_refused K { nx := fun _ H' => Q .non H', rt := Q } (start ["_law_loop_here", "_law_n", "_law_x", "e"] vs) H := by
  obtain ⟨p, l, vn, vx, nn, nx, rfl, hp, o, wn, wx, q1, q2, q3⟩ := h
  obtain ⟨dx, hp'⟩ := id hp
  unfold rd_l_refused
  walk_at "rd"
  unfold tTryA
  walk_at "rd"
  unfold tMethW
  walk_at "rd"
  refine ⟨p, dx, _, rfl, hp', rfl, ?_⟩
  walk_at "rd"
  refine ⟨p, l, vn, vx, nn, nx, rfl, hp, o, wn, wx, fun h1 d hd => ?_, fun h1 h2 d hd => ?_, fun h1 h2 => ?_⟩
  · refine ⟨true, X.nn, fun _ a ha => ?_, fun z => by cases z⟩
    walk_at "rd"
    refine e_byE ?_
    walk_at "rd"
    refine ⟨rfl, rfl, d, vn, rfl, upd_same, ?_⟩
    walk_at "rd"
    refine ⟨by show 2 ≤ sizeLine; decide, fun t ht => ?_⟩
    have e1 : Ext H (upd H d (.xd [("value", vn)])) := Ext.new hd
    exact q1 h1 t _ (e1.non ht) (e1.tr (Ext.new ht)) upd_same
  · refine ⟨false, X.sn, (fun z => by cases z), fun _ => ⟨true, X.ss, fun _ a ha => ?_, fun z => by cases z⟩⟩
    walk_at "rd"
    refine e_byE ?_
    walk_at "rd"
    refine ⟨rfl, rfl, d, vx, rfl, upd_same, ?_⟩
    walk_at "rd"
    refine ⟨by show 2 ≤ sizeLine; decide, fun t ht => ?_⟩
    have e1 : Ext H (upd H d (.xd [("value", vx)])) := Ext.new hd
    exact q2 h1 h2 t _ (e1.non ht) (e1.tr (Ext.new ht)) upd_same
  · obtain ⟨s1, s2, q⟩ := q3 h1 h2
    refine ⟨s1, s2, ?_⟩
    walk_at "rd"
    exact q
end FWL
/-! tuples turned about, counted, and things that are a list or a tuple -/
namespace PySem
namespace SeqX
open PyProof.Rows PySem.W
theorem adjust_rev (n : Nat) : Builtin.Slice.sliceAdjust none none (-1) (n : Int) = ((n : Int) - 1, -1) := by
  unfold Builtin.Slice.sliceAdjust
  rfl
theorem places_rev (n : Nat) : Builtin.Slice.slicePlaces ((n : Int) - 1) (-1) (-1) = n := by
  unfold Builtin.Slice.slicePlaces
  have h1 : ¬ ((-1 : Int) > 0) := by omega
  simp only [h1, if_false, show (- -1 : Int) = 1 from rfl, Int.ediv_one]
  split <;> omega
section
variable {prog : Program} {w : World} {A : Around} {E : Value → Shared → Prop} {s : Shared}
theorem sliceApplied_rev {sl : Addr} {vl vu vs : Value} {n : Nat} {Q : Int × Int × Nat → Shared → Prop} (hs : s.heap.IsSliceOf sl vl vu vs) (pl : IsPart vl none) (pu : IsPart vu none) (ps : IsPart vs (some (-1)))
    (h : Q ((n : Int) - 1, -1, n) s) : wpAny (model prog w) A (Builtin.Slice.sliceApplied (.ref sl) (pure (n : Int))) Q E s := by
  obtain ⟨os, hos, hcs, hds⟩ := id hs
  unfold Builtin.Slice.sliceApplied Builtin.Slice.sliceFields
  refine wpAny_bind (wpAny_bind (wpAny_field hos hds (x := vl) rfl (wpAny_bind (wpAny_field hos hds (x := vu) rfl (wpAny_bind (wpAny_field hos hds (x := vs) rfl (wpAny_pure ?_)))))))
  refine wpAny_bind (HT.slicePart_ ps ?_)
  show wpAny _ _ (if ((-1 : Int) == 0) = true then _ else _) _ _ s
  rw [if_neg (by decide)]
  refine wpAny_bind (HT.slicePart_ pl (wpAny_bind (HT.slicePart_ pu (wpAny_bind (wpAny_pure ?_)))))
  show wpAny _ _ (match Builtin.Slice.sliceAdjust none none (-1) (n : Int) with | (lo, hi) => pure (lo, (-1 : Int), Builtin.Slice.slicePlaces lo hi (-1))) _ _ s
  rw [adjust_rev n]
  show wpAny _ _ (pure ((n : Int) - 1, (-1 : Int), Builtin.Slice.slicePlaces ((n : Int) - 1) (-1) (-1))) _ _ s
  rw [places_rev]
  exact wpAny_pure h
theorem pick_rev (xs : Array Value) : ((List.range xs.size).filterMap fun (m : Nat) => xs[(((xs.size : Nat) : Int) - 1 + (m : Int) * (-1)).toNat]?).toArray = xs.toList.reverse.toArray := by
  have e : (List.range xs.size).filterMap (fun (m : Nat) => xs[(((xs.size : Nat) : Int) - 1 + (m : Int) * (-1)).toNat]?) = ((List.range xs.size).map fun k => xs.size - 1 - k).filterMap (xs[·]?) := by
    rw [List.filterMap_map]
    congr 1
    funext m
    show xs[(((xs.size : Nat) : Int) - 1 + (m : Int) * (-1)).toNat]? = xs[xs.size - 1 - m]?
    have q : (((xs.size : Nat) : Int) - 1 + (m : Int) * (-1)).toNat = xs.size - 1 - m := by omega
    rw [q]
  rw [e, krv_range, List.filterMap_reverse, krv_all]
theorem getItem_tuple_rev {t sl : Addr} {items : Array Value} {vl vu vs : Value} {Q : Value → Shared → Prop} (ht : IsTup s.heap t items) (hs : s.heap.IsSliceOf sl vl vu vs) (pl : IsPart vl none) (pu : IsPart vu none) (ps : IsPart vs (some (-1)))
    (h : Q (.ref s.heap.objs.size) { s with heap := s.heap.push { cls := .type "tuple", data := .seq items.toList.reverse.toArray } })
    (hsz : items.size ≤ sizeLine) : wpAny (model prog w) A (getItem (.ref t) (.ref sl)) Q E s := by
  have htake : sizeOk (.seq items.toList.reverse.toArray) := by
    show items.toList.reverse.toArray.size ≤ sizeLine
    rw [List.size_toArray, List.length_reverse, Array.length_toList]
    exact hsz
  obtain ⟨os, hos, hcs, hds⟩ := id hs
  have hTs : s.TypeIs (.ref sl) "slice" := ⟨os, hos, hcs⟩
  unfold getItem
  try with_reducible refine wpAny_holding ?_
  first | refine wpAny_bind (wpAny_pure ?_) | skip
  refine wpAny_bind (wpAny_sequenceKey ht.typeIs (by decide) ?_)
  refine wpAny_bind (wpAny_callSpecial?_slot (name := Str.ofString "__getitem__") ht.typeIs PyProof.Rows.slot_tuple_getitem
    (wpAny_call_entry PyProof.Rows.slot_tuple_getitem ht.typeIs entry_tuple_getitem ?_ (args_tuple_getitem _ _)))
  show wpAny _ _ (Builtin.Tuple.tupleItemsOf (.ref t) >>= _) _ _ s
  refine wpAny_bind (tupleItemsOf_ ht ?_)
  refine wpAny_bind (wpAny_typeOf hTs ?_)
  rw [if_pos (by decide)]
  refine wpAny_bind (sliceApplied_rev hs pl pu ps ?_)
  show wpAny _ _ (if ((((items.size : Nat) : Int) - 1) == 0 && (-1 : Int) == 1 && items.size == items.size) = true then _ else _) _ _ s
  rw [if_neg (by rw [show ((-1 : Int) == 1) = false from rfl, Bool.and_false, Bool.false_and]; exact Bool.false_ne_true), pick_rev]
  first
    | exact wpAny_bind (m := Builtin.Tuple.tupleExact _) (wpAny_newObj_type (wpAny_pure ⟨_, rfl, wpAny_pure h⟩) htake)
    | exact wpAny_bind (m := Builtin.Tuple.tupleExact _) (wpAny_newObj_type (wpAny_bind (wpAny_pure (wpAny_pure ⟨_, rfl, wpAny_pure h⟩))) htake)
    | exact wpAny_bind (wpAny_bind (m := Builtin.Tuple.tupleExact _) (wpAny_newObj_type (wpAny_pure (wpAny_pure ⟨_, rfl, wpAny_pure h⟩)) htake))
    | exact wpAny_bind (wpAny_bind (m := Builtin.Tuple.tupleExact _) (wpAny_newObj_type (wpAny_pure ⟨_, rfl, wpAny_pure h⟩) htake))
end
set_option maxHeartbeats 1000000 in
theorem meets_enumerate_newT {v : Value} {o : Obj} {H : Heap → Prop} (B : Begins v o H) :
    Meets (Builtin.«enumerate.__new__» ⟨[.type "enumerate", v], []⟩) (fun _ R s => H s.heap ∧
      R (.ok (.ret (.ref (s.heap.push o).objs.size))) { s with heap := (s.heap.push o).push { cls := .type "enumerate", data := .fields #[.none, .bool false, .ref s.heap.objs.size, rawInt 0, .none, .none] } }) :=
  .of_wp fun prog w A R s h => by
    obtain ⟨hp, g, d, tk, os⟩ := s; obtain ⟨h1, h⟩ := h
    have hsub := sub_enumerate
    have q1 : ∀ {A' : Around} {E : Value → Shared → Prop} {Q : Value → Shared → Prop}, Q (.ref hp.objs.size) ⟨hp.push o, g, d, tk, os⟩ → wpAny (model prog w) A' (pyIter v) Q E ⟨hp, g, d, tk, os⟩ :=
      fun q => B.iter prog w _ _ ⟨hp, g, d, tk, os⟩ _ h1 q
    wp_walk using q1
    refine wpAny_stack_any fun st => wpAny_pure ?_
    split
    · rename_i c _ _ _ _ _
      cases (c == Value.type "enumerate")
      · wp_walk using q1
        exact ⟨_, rfl, h⟩
      · wp_walk using q1
        exact ⟨_, rfl, h⟩
    · wp_walk using q1
      exact ⟨_, rfl, h⟩
section
variable {prog : Program} {w : World} {A : Around} {E : Value → Shared → Prop} {s : Shared}
theorem call_enumerate_tuple {t : Addr} {items : Array Value} {Q : Value → Shared → Prop} (hL : s.heap.IsTuple t items)
    (h : ∀ h', IsEnum h' (s.heap.objs.size + 1) s.heap.objs.size 0 .none → h'.IsTupleIter s.heap.objs.size t 0 → h'.objs.size = s.heap.objs.size + 2 →
      (∀ b o, s.heap.get? b = some o → h'.get? b = some o) → Q (.ref (s.heap.objs.size + 1)) { s with heap := h' }) :
    wpAny (model prog w) A (call (.type "enumerate") [.ref t]) Q E s := by
  refine callType_new F.called_enumerate (by decide) (F.typeCall_enumerate_1 _) (F.newCall_enumerate_1 _) (fun obj => F.args_object_init_2 obj _) F.entry_enumerate_new
    (meets_enumerate_newT (begins_tuple t items)) ⟨hL, ?_⟩
  have hz : (s.heap.push { cls := .type "tuple_iterator", data := .fields #[.ref t, .int 0 0] }).objs.size = s.heap.objs.size + 1 := Heap.size_push ..
  show _ ∧ _
  rw [hz]
  have he : IsEnum ((s.heap.push { cls := .type "tuple_iterator", data := .fields #[.ref t, .int 0 0] }).push
      { cls := .type "enumerate", data := .fields #[.none, .bool false, .ref s.heap.objs.size, rawInt 0, .none, .none] }) (s.heap.objs.size + 1) s.heap.objs.size 0 .none := by
    have := Heap.get?_push_size (s.heap.push { cls := .type "tuple_iterator", data := .fields #[.ref t, .int 0 0] })
      (o := { cls := .type "enumerate", data := .fields #[.none, .bool false, .ref s.heap.objs.size, rawInt 0, .none, .none] }) rfl
    rw [hz] at this; exact this
  refine ⟨⟨_, he, rfl⟩, h _ he ⟨_, Heap.get?_push_of_some _ (Heap.get?_push_size _ rfl), rfl, rfl⟩ (by rw [Heap.size_push, hz]) fun b o x => Heap.get?_push_of_some _ (Heap.get?_push_of_some _ x)⟩
end
end SeqX
end PySem
namespace FW
open PySem PySem.Spec PyProof.Rows L2
section
variable {X : Cx}
/-- t[::-1] of a tuple -/
def tRevT (K : PySem.W.Frag) (te : TE) : TE := fun σ H Q => te σ H fun x H1 => ∃ a xs, x = .ref a ∧ SqT K H1 a xs ∧ ∀ p, H1 p = none → Q (.ref p) (upd H1 p (.tup xs.reverse))
theorem pe_revT {e : Expr} {te : TE} {k : Nat} {p1 p2 p3 pos : Pos} (he : PE X e te) : PE X (.Subscript e (.Slice none none (some (.UnaryOp .USub (.Constant (.int 1) k p1) p2)) p3) pos) (tRevT X.K te) := by
  refine ⟨fun pins s σ H Q I h => ?_⟩
  refine Subscript_ (thn (he.run pins s σ H _ I h) fun v s1 ⟨x, H1, I1, r1, q1⟩ => ?_)
  obtain ⟨a, xs, ex, hx, q⟩ := q1
  subst ex
  cases r1
  have hst : PO X (some (.UnaryOp .USub (.Constant (.int 1) k p1) p2)) (tPart (tUn (rU fun i => .int (-i)) (tC (.int 1)))) := po_some (pe_un un_neg pe_int)
  refine wpAny_Slice (thn (po_none.run pins s1 σ H1 (fun o H2 => o = none ∧ H2 = H1) I1 ⟨rfl, rfl⟩) fun vl s2 ⟨l, H2, I2, pl, el, e2⟩ => ?_)
  subst el e2
  refine thn (po_none.run pins s2 σ H2 (fun o H3 => o = none ∧ H3 = H2) I2 ⟨rfl, rfl⟩) fun vu s3 ⟨u, H3, I3, pu, eu, e3⟩ => ?_
  subst eu e3
  refine thn (hst.run pins s3 σ H3 (fun o H4 => o = some (-1) ∧ H4 = H3) I3 ⟨1, rfl, -1, rfl, rfl, rfl⟩) fun vs s4 ⟨o, H4, I4, ps, eo, e4⟩ => ?_
  subst eo e4
  have I5 : Inv X pins σ H4 { s4 with heap := s4.heap.push { cls := .type "slice", data := .fields #[vl, vu, vs] } } := I4.kept (t' := s4.toks) fun b ob q => Heap.get?_push_of_some _ q
  obtain ⟨its, r, ht, hz⟩ := I5.tuple hx
  have hlen := r.length
  show wpAny (model X.prog X.w) X.A (subscriptTail e (.Slice none none (some (.UnaryOp .USub (.Constant (.int 1) k p1) p2)) p3) (.ref a) (.ref s4.heap.objs.size)) (EP X pins σ Q) X.xe { s4 with heap := s4.heap.push { cls := .type "slice", data := .fields #[vl, vu, vs] } }
  refine tail_any (ops := [.ref a, .ref s4.heap.objs.size]) ht.typeIs (PyProof.Rows.slot_tuple_getitem.lookup) ?_ (by with_unfolding_all rfl)
  refine SeqX.getItem_tuple_rev ht (Heap.IsSliceOf.new _ vl vu vs) pl pu ps ?_ (by rw [List.size_toArray]; omega)
  refine ⟨.ref _, _, I5.laid (t' := s4.toks) (o := .tup xs.reverse) (fun b ob q => Heap.get?_push_of_some _ q) (Nat.le_refl _) ?_, rfl, q _ (I5.hok.fresh (Nat.le_refl _))⟩
  exact ⟨by rw [List.length_reverse]; exact hz, _, r.reverse, IsTup.new _ _⟩
/-- one reading or another -/
def tEither (t u : TE) : TE := fun σ H Q => t σ H Q ∨ u σ H Q
theorem pe_either {e : Expr} {t u : TE} (h1 : PE X e t) (h2 : PE X e u) : PE X e (tEither t u) := ⟨fun pins s σ H Q I h => by
  rcases h with h | h
  · exact h1.run pins s σ H Q I h
  · exact h2.run pins s σ H Q I h⟩
def iEither (t u : TI) : TI := fun σ H Q => t σ H Q ∨ u σ H Q
theorem pi_either {tg e : Expr} {t u : TI} (h1 : PI X tg e t) (h2 : PI X tg e u) : PI X tg e (iEither t u) := ⟨fun pins s σ H Q I h => by
  rcases h with h | h
  · exact h1.run pins s σ H Q I h
  · exact h2.run pins s σ H Q I h⟩
/-! ### enumerate(tuple) -/
def IteT (K : PySem.W.Frag) (a : Addr) : It :=
  ⟨fun i H => ∃ (xs : List V) (x : V), SqT K H a xs ∧ xs[i]? = some x, fun i H v H' => ∃ T x, v = .ref T ∧ H T = none ∧ H' = upd H T (.tup [.int (i : Nat), x]) ∧ ∀ xs, SqT K H a xs → xs[i]? = some x, fun i H => ∃ xs : List V, SqT K H a xs ∧ xs.length = i⟩
theorem turn_enumT {P : Program} {w : World} {K : PySem.W.Frag} {elts : List Expr} {kk : Nat} {tpos : Pos} (a e it : Addr) :
    Turn P w K (.Tuple elts kk tpos) (IteT K a) [e, it] e (fun i h => (∃ old, IsEnum h e it ((i : Nat) : Int) old) ∧ h.IsTupleIter it a i ∧ e ≠ it) where
  mem := by simp
  obj := fun i h st b hb => by
    obtain ⟨⟨old, he⟩, ⟨o, ho, hc, hd⟩, _⟩ := st
    have e' : b = e ∨ b = it := by simpa using hb
    rcases e' with z | z
    · rw [z]; exact ⟨_, he, fun v q => nomatch q⟩
    · rw [z]; exact ⟨o, ho, fun v q => by rw [hd] at q; cases q⟩
  keep := fun i h h' st k => let ⟨⟨old, he⟩, hi, hne⟩ := st; ⟨⟨old, k e (by simp) _ he⟩, hi.at fun o q => k it (by simp) o q, hne⟩
  item := by
    intro X hP hw hK hc i pins s σ H E I hf st hg
    subst hP hw hK
    obtain ⟨⟨old, he⟩, hit, hne⟩ := st
    obtain ⟨xs, x, hq, hx⟩ := hg
    obtain ⟨its, rv, p, hz⟩ := I.tuple hq
    obtain ⟨u, hu, ru⟩ := rv.get hx
    have hel : e < s.heap.objs.size := Heap.lt_size he
    have hil : it < s.heap.objs.size := by obtain ⟨_, q, _⟩ := hit; exact Heap.lt_size q
    have hia : a ≠ it := by
      obtain ⟨o1, q1, c1, _⟩ := hit
      obtain ⟨o2, q2, c2, _⟩ := p
      intro z
      rw [z, q1] at q2
      cases q2
      rw [c1] at c2
      exact absurd c2 (by decide)
    have hea : e ∉ [it, a] := by
      intro z
      rcases List.mem_cons.mp z with z | z
      · exact hne z
      · have z := List.mem_singleton.mp z
        obtain ⟨o2, q2, c2, _⟩ := p
        rw [← z, he] at q2
        cases q2
        exact absurd (show Value.type "enumerate" = Value.type "tuple" from c2) (by decide)
    have hilen : i < its.toArray.size := by
      have := (List.getElem?_eq_some_iff.mp hu).1
      rw [List.size_toArray]; exact this
    refine wpAny_pyNext_enum_itemD (Draws.tuple (A := X.A.in1) (show X.A.in1.handled = none from I.ok.hd hc) it a hia its.toArray) he ⟨hit, p⟩ hilen hne hea fun y h' tk hy ho hst hT hsz hk => ?_
    obtain ⟨hit', _⟩ := hst
    have ey : y = u := by
      have : its[i]? = some y := by simpa using hy
      rw [hu] at this; injection this with z; exact z.symm
    subst ey
    refine ⟨_, rfl, wpAny_letOwnedTupleGo_enum (s := { s with heap := h', toks := tk + 1 }) ho fun h'' he' sb => ?_⟩
    have hT2 : h''.get? s.heap.objs.size = some { cls := .type "tuple", data := .seq #[.int i tk, y] } := (sb.2 _ (Nat.ne_of_gt hel)).trans hT
    have new : ObjOk X.prog X.w (upd H s.heap.objs.size (.tup [.int (i : Nat), x])) h'' s.heap.objs.size (.tup [.int (i : Nat), x]) :=
      ⟨by show 2 ≤ sizeLine; decide, [.int i tk, y], .cons ⟨_, rfl⟩ (.cons ru .nil), ⟨_, hT2, rfl, _, rfl⟩⟩
    have I1 : Inv X pins σ (upd H s.heap.objs.size (.tup [.int (i : Nat), x])) { s with heap := h'', toks := tk + 1 } :=
      I.turnedNew (ch := [e, it]) (fun b ob hb q => (sb.2 b (fun z => hb (by simp [z]))).trans (hk b ob (fun z => hb (by simp [z])) (fun z => hb (by simp [z])) q)) hf (Nat.le_refl _) new
    refine ⟨.ref s.heap.objs.size, _, I1, rfl, ⟨_, x, rfl, I.hok.fresh (Nat.le_refl _), rfl, fun ys hy => by rw [I.tuple_inj hy hq]; exact hx⟩, ⟨⟨y, ?_⟩, hit'.at fun o q => (sb.2 it (Ne.symm hne)).trans q, hne⟩, fun b hb => ?_⟩
    · have e1 : ((i + 1 : Nat) : Int) = (i : Int) + 1 := by omega
      rw [e1]; exact he'
    · have hb' : b < s.heap.objs.size := by
        have e' : b = e ∨ b = it := by simpa using hb
        rcases e' with z | z
        · rw [z]; exact hel
        · rw [z]; exact hil
      rw [upd_ne (Nat.ne_of_lt hb')]
      exact (hf b hb).1
  done := by
    intro X hP hw hK hc i pins s σ H E I hf st hg
    subst hP hw hK
    obtain ⟨⟨old, he⟩, hit, hne⟩ := st
    obtain ⟨xs, hq, hx⟩ := hg
    obtain ⟨its, rv, p, hz⟩ := I.tuple hq
    obtain ⟨f0, f1, f2, f3, f4, f5⟩ := hf it (by simp)
    have hl := rv.length
    have hia : a ≠ it := by
      obtain ⟨o1, q1, c1, _⟩ := hit
      obtain ⟨o2, q2, c2, _⟩ := p
      intro z
      rw [z, q1] at q2
      cases q2
      rw [c1] at c2
      exact absurd c2 (by decide)
    have hn : its.toArray.size = i := by rw [List.size_toArray]; omega
    exact wpAny_pyNext_enum_endD (Draws.tuple (A := X.A.in1) (show X.A.in1.handled = none from I.ok.hd hc) it a hia its.toArray) he ⟨by rw [hn]; exact hit, p⟩ fun h' eb => ⟨rfl, I.turned (t' := s.toks) (fun b o hb q => eb b o hb q) f0 f1 f3 f4 f5⟩
  self := fun A i s Q E st h => let ⟨⟨_, he⟩, _⟩ := st; wpAny_pyIter_enum he h
def iEnumT (K : PySem.W.Frag) (ta : TA) : TI := fun σ H R => ta σ H fun vs H1 => ∃ a xs, vs = [.ref a] ∧ SqT K H1 a xs ∧ R (IteT K a) H1
theorem pi_enumT {e : Expr} {ta : TA} {p pos tpos : Pos} {elts : List Expr} {kk : Nat} (hg : Gl X "enumerate") (hm : X.mg "enumerate" = none) (ha : PA X [e] ta) (hs : starEach [e] X.env = [(false, eval e X.env)] := by rfl) :
    PI X (.Tuple elts kk tpos) (.Call (.Name "enumerate" p) [e] [] pos) (iEnumT X.K ta) := by
  refine ⟨fun pins s σ H R I h => ?_⟩
  refine Call_ (ld_blt I hg hm boot_enumerate (PyProof.Rows.callWith_type1 (thn (ha.run pos pins s σ H _ I h) fun us s1 ⟨vs, H1, I1, r1, q1⟩ => ?_) hs rfl))
  obtain ⟨a, xs, ex, hq, q⟩ := q1
  subst ex
  cases r1 with
  | cons r rr =>
    cases rr
    cases r
    obtain ⟨its, rv, p', hz⟩ := I1.tuple hq
    refine SeqX.call_enumerate_tuple p' fun h' he hit hsz hk => wpAny_pyIter_enum he ?_
    have I2 : Inv X pins σ H1 { s1 with heap := h' } := I1.kept (t' := s1.toks) hk
    refine ⟨s1.heap.objs.size + 1, [s1.heap.objs.size + 1, s1.heap.objs.size], _, _, H1, rfl, I2, turn_enumT a (s1.heap.objs.size + 1) s1.heap.objs.size, ⟨⟨.none, he⟩, hit, Nat.succ_ne_self _⟩, fun b hb => ?_, q⟩
    have e' : b = s1.heap.objs.size + 1 ∨ b = s1.heap.objs.size := by simpa using hb
    have hle : s1.heap.objs.size ≤ b := by
      rcases e' with z | z
      · rw [z]; exact Nat.le_add_right _ _
      · rw [z]; exact Nat.le_refl _
    exact I1.fpOk hle (I1.hok.fresh hle)
end
end FW
namespace FW
open PySem PySem.Spec PyProof.Rows L2
section
variable {X : Cx}
theorem get_list : PGet X (rIxL X.K) := by
  intro pins s σ H x y v u Q I rx ry h
  obtain ⟨p, xs, i, z, rfl, rfl, hq, he, q⟩ := h
  cases rx
  obtain ⟨t, rfl⟩ := ry
  obtain ⟨its, r, pl, hz⟩ := I.list hq
  obtain ⟨j, h1, h2, h3, h4, h5⟩ := atI_get he
  obtain ⟨w, ew, rw'⟩ := r.get h2
  have hl := r.length
  have hn := line63
  have fin : EP X pins σ Q w s := ⟨z, H, I, rw', q⟩
  by_cases h0 : 0 ≤ i
  · have hj : i.toNat = j := by
      rw [seqIndex_of h0 h5] at h1
      exact Option.some.inj h1
    exact wpAny_getItem_list pl.isList h0 (by omega) (by rw [hj]; simpa using ew) fin
  · have hj : (i + (its.toArray.size : Int)).toNat = j := by
      rw [seqIndex_neg (by omega) h4] at h1
      rw [List.size_toArray, ← hl]
      exact Option.some.inj h1
    exact wpAny_getItem_list_neg pl.isList (by omega) (by rw [List.size_toArray] <;> omega) (by omega) (by rw [hj]; simpa using ew) fin
theorem walk_enumT {K : PySem.W.Frag} {a : Addr} {xs : List V} : Walk (IteT K a) xs.length (fun H => SqT K H a xs) (YPair (fun i => some (.int (i : Nat))) (fun i => xs[i]?)) := by
  refine ⟨fun i _ hi q => ⟨xs, xs[i], q, by simp [hi]⟩, fun _ q => ⟨xs, q, rfl⟩, fun i H v H' _ q y => ?_⟩
  obtain ⟨T, x, h1, h2, h3, h4⟩ := y
  exact ⟨T, .int (i : Nat), x, h1, h2, h3, rfl, h4 xs q⟩
end
abbrev rShl : R2 := rI CPow fun i j => .int (i * 2 ^ j.toNat)
theorem opShl {X : Cx} : OpR X (binaryOp .LShift) rShl := op_shl
end FW
namespace FWL
open PySem PySem.Spec PyProof.Rows L2 FW
/-! ### more readings -/
section
variable {K : PySem.W.Frag} {σ : L2.St} {H : Hp} {Q : VK} {D : Ends} {ta tb tc te : TE} {tA : TA} {v : V} {i j : Int} {n : Nat} {a b : Addr} {xs ys : List V}
theorem e_rep (q : ∀ p, H p = none → Q (.ref p) (upd H p (.lst (List.replicate i.toNat v)))) (h : H a = some (.lst [v])) (hz : i ≤ 1000) (h0 : -1000 ≤ i) : rRep (.ref a) (.int i) H Q := by
  refine ⟨a, i, [v], rfl, rfl, h, by omega, by omega, ?_, fun p hp => ?_⟩
  · show 1 * i.toNat ≤ 2 ^ 24
    omega
  · have e : (List.replicate i.toNat [v]).flatten = List.replicate i.toNat v := by
      induction i.toNat with
      | zero => rfl
      | succ m ih => rw [List.replicate_succ, List.flatten_cons, ih, List.replicate_succ]; rfl
    rw [e]
    exact q p hp
theorem e_cat (q : ∀ p, H p = none → Q (.ref p) (upd H p (.lst (xs ++ ys)))) (h : H a = some (.lst xs)) (h' : H b = some (.lst ys)) (hz : xs.length + ys.length ≤ sizeLine) : rCat (.ref a) (.ref b) H Q := ⟨a, b, xs, ys, rfl, rfl, h, h', hz, q⟩
theorem e_listS (q : ∀ p, H p = none → Q (.ref p) (upd H p (.lst xs))) (h : SqL K H a xs ∨ SqT K H a xs) : Evl.rListS K [.ref a] H Q := ⟨a, xs, rfl, h, q⟩
theorem e_tupL (q : ∀ p, H p = none → Q (.ref p) (upd H p (.tup xs))) (h : SqL K H a xs) : FW.rTupS K [.ref a] H Q := ⟨a, xs, rfl, .inl ⟨h, q⟩⟩
theorem e_sl {r : V → Option Int → Option Int → Hp → VK → Prop} {tl th : L2.TO} (k : te σ H fun x H1 => tl σ H1 fun l H2 => th σ H2 fun u H3 => r x l u H3 Q) : L2.tSl r te tl th σ H Q := k
theorem e_noP {R : Option Int → Hp → Prop} (k : R none H) : tNoPart σ H R := k
theorem e_part {R : Option Int → Hp → Prop} (k : te σ H fun x H1 => ∃ i, x = .int i ∧ R (some i) H1) : tPart te σ H R := k
theorem e_part' {R : Int → Prop} (k : R i) : ∃ j, V.int i = .int j ∧ R j := ⟨i, rfl, k⟩
theorem e_slL {lo hi : Option Int} (q : ∀ p, H p = none → Q (.ref p) (upd H p (.lst (cutV xs lo hi)))) (h : SqL K H a xs) : rSlL K (.ref a) lo hi H Q := ⟨a, xs, rfl, h, q⟩
theorem e_sum {ns : List Int} (q : Q (.int ns.sum) H) (h : SqL K H a (ns.map V.int)) : rSum K [.ref a] H Q := ⟨a, ns, rfl, h, q⟩
theorem e_all {bs : List Bool} (q : Q (.bl (bs.all id)) H) (h : SqL K H a (bs.map V.bl)) : rAll K [.ref a] H Q := ⟨a, bs, rfl, h, q⟩
theorem e_eqD {d e : PyData} (q : Q (.bl (PyData.eqv d e)) H) {x y : V} (h1 : Dp K H x d) (h2 : Dp K H y e) (s1 : SeqAt.shaped d = true) (s2 : SeqAt.shaped e = true) : rEqD K x y H Q := ⟨d, e, h1, h2, s1, s2, q⟩
theorem e_neD {d e : PyData} (q : Q (.bl (!PyData.eqv d e)) H) {x y : V} (h1 : Dp K H x d) (h2 : Dp K H y e) (s1 : SeqAt.shaped d = true) (s2 : SeqAt.shaped e = true) : rNeD K x y H Q := ⟨d, e, h1, h2, s1, s2, q⟩
theorem e_rev (q : ∀ p, H p = none → Q (.ref p) (upd H p (.lst xs.reverse))) (q' : ∀ p, H p = none → Q (.ref p) (upd H p (.tup xs.reverse))) (hv : σ[n]? = some (some (.ref a))) (h : SqL K H a xs ∨ SqT K H a xs) : FW.tEither (tRevL K (tVar n)) (FW.tRevT K (tVar n)) σ H Q := by
  rcases h with h | h
  · exact .inl ⟨_, hv, a, xs, rfl, h, q⟩
  · exact .inr ⟨_, hv, a, xs, rfl, h, q'⟩
theorem i_zip {R : It → Hp → Prop} (k : tA σ H fun vs H1 => ∃ a b xs ys, vs = [.ref a, .ref b] ∧ SqL K H1 a xs ∧ SqL K H1 b ys ∧ R (Itz K a b) H1) : iZip K tA σ H R := k
theorem i_enum {R : It → Hp → Prop} (k : tA σ H fun vs H1 => ∃ a xs, vs = [.ref a] ∧ SqL K H1 a xs ∧ R (Ite K a) H1) : iEnum K tA σ H R := k
theorem i_enumT {R : It → Hp → Prop} (k : tA σ H fun vs H1 => ∃ a xs, vs = [.ref a] ∧ SqT K H1 a xs ∧ R (FW.IteT K a) H1) : FW.iEnumT K tA σ H R := k
theorem s_augS {to ti : TE} {tget : V → V → Hp → VK → Prop} {tip : TIp} {tset : TSet} (k : to σ H fun o H1 => ti σ H1 fun i H2 => tget o i H2 fun x H3 => te σ H3 fun y H4 => tip x y H4 fun z H5 => tset o i z H5 fun H6 => D.nx σ H6) : tAugS to ti te tget tip tset D σ H := k
end
/-- a list or a tuple -/
abbrev SqA (K : PySem.W.Frag) (H : Hp) (a : Addr) (xs : List V) : Prop := SqL K H a xs ∨ SqT K H a xs
theorem SqA.ext {K : PySem.W.Frag} {H H' : Hp} {a : Addr} {xs : List V} (e : Ext H H') (h : SqA K H a xs) : SqA K H' a xs := h.elim (fun h => .inl (e.sqL h)) (fun h => .inr (e.sqT h))
/-- for x in s, s a list or a tuple -/
theorem for_seq {K : PySem.W.Frag} {tl : TE} {g : TG} {tb : TS} {D : Ends} {σ : L2.St} {H H1 : Hp} {a : Addr} {xs : List V} (Pv : Nat → L2.St → Hp → Prop)
    (hl : ∀ R : V → Hp → Prop, R (.ref a) H1 → tl σ H R) (hq : SqA K H1 a xs) (h0 : Pv 0 σ H1) (hk : ∀ i σ H', Pv i σ H' → Ext H1 H')
    (hs : ∀ i x σ H', xs[i]? = some x → Pv i σ H' → g x σ H' fun σ2 H2 => tb { D with nx := Pv (i + 1), ct := Pv (i + 1), bk := D.nx } σ2 H2) (hd : ∀ σ H', Pv xs.length σ H' → D.nx σ H') :
    tFor (FW.iEither (iList K tl) (iTup K tl)) g tb D σ H := by
  rcases hq with hq | hq
  · refine s_for (.inl (i_list (hl _ (i_list' xs ?_ hq))))
    exact for_list (xs := xs) Pv h0 (fun i σ H' _ p => (hk i σ H' p).sqL hq) hs hd
  · refine s_for (.inr (i_tup (hl _ (i_tup' xs ?_ hq))))
    exact for_tup (xs := xs) Pv h0 (fun i σ H' _ p => (hk i σ H' p).sqT hq) hs hd
/-- for i, x in enumerate(s), s a list or a tuple at slot n -/
theorem for_enumA {K : PySem.W.Frag} {n : Nat} {g : TG} {tb : TS} {D : Ends} {σ : L2.St} {H0 H : Hp} {a : Addr} {xs : List V} (Pv : Nat → L2.St → Hp → Prop)
    (hv : σ[n]? = some (some (.ref a))) (hq : SqA K H0 a xs) (h0 : Pv 0 σ H) (hk : ∀ i σ H', Pv i σ H' → Ext H0 H')
    (hs : ∀ i x σ H' T, xs[i]? = some x → Pv i σ H' → H' T = none → g (.ref T) σ (upd H' T (.tup [.int (i : Nat), x])) fun σ2 H2 => tb { D with nx := Pv (i + 1), ct := Pv (i + 1), bk := D.nx } σ2 H2) (hd : ∀ σ H', Pv xs.length σ H' → D.nx σ H') :
    tFor (FW.iEither (iEnum K (tCons (tVar n) tNil)) (FW.iEnumT K (tCons (tVar n) tNil))) g tb D σ H := by
  rcases hq with hq | hq
  · refine s_for (.inl ?_)
    refine ⟨_, hv, a, xs, rfl, (hk _ _ _ h0).sqL hq, ?_⟩
    refine for_it (walk_enum (K := K) (a := a) (xs := xs)) Pv h0 (fun i σ H' _ p => (hk i σ H' p).sqL hq) ?_ hd
    rintro i x σ H' H'' hi p ⟨T, y, z, rfl, hT, rfl, e1, e2⟩
    cases e1
    exact hs i z σ H' T e2 p hT
  · refine s_for (.inr ?_)
    refine ⟨_, hv, a, xs, rfl, (hk _ _ _ h0).sqT hq, ?_⟩
    refine for_it (FW.walk_enumT (K := K) (a := a) (xs := xs)) Pv h0 (fun i σ H' _ p => (hk i σ H' p).sqT hq) ?_ hd
    rintro i x σ H' H'' hi p ⟨T, y, z, rfl, hT, rfl, e1, e2⟩
    cases e1
    exact hs i z σ H' T e2 p hT
/-! data of ints -/
theorem dpI {K : PySem.W.Frag} {H : Hp} : ∀ ns : List Int, DpAll K H (ns.map V.int) (ns.map PyData.int)
  | [] => .nil
  | n :: ns => .cons (.int n) (dpI ns)
theorem layI : ∀ ns : List Int, PyData.canLayAll0 (ns.map PyData.int) = true
  | [] => rfl
  | n :: ns => by rw [List.map_cons, PyData.canLayAll0, layI ns]; rfl
theorem depI : ∀ ns : List Int, PyData.depthAll (ns.map PyData.int) = 0
  | [] => rfl
  | n :: ns => by rw [List.map_cons, PyData.depthAll, depI ns]; rfl
theorem shL (ns : List Int) : SeqAt.shaped (.list (ns.map PyData.int)) = true := by
  unfold SeqAt.shaped
  rw [PyData.canLay0, layI, PyData.depth, depI]; rfl
theorem shT (ns : List Int) : SeqAt.shaped (.tuple (ns.map PyData.int)) = true := by
  unfold SeqAt.shaped
  rw [PyData.canLay0, layI, PyData.depth, depI]; rfl
theorem eqvI (ns ms : List Int) : PyData.eqvAll (ns.map PyData.int) (ms.map PyData.int) = decide (ns = ms) := by
  induction ns generalizing ms with
  | nil => cases ms <;> simp [PyData.eqvAll]
  | cons n ns ih =>
    cases ms with
    | nil => simp [PyData.eqvAll]
    | cons m ms =>
      simp [PyData.eqvAll, PyData.eqv, ih, Bool.and_comm]
      rfl
end FWL
namespace FWL
open PySem PySem.Spec PyProof.Rows L2 FW
/-! ### polynomials: their values -/
def pvl : List Int → Int → Int
  | [], _ => 0
  | c :: cs, r => c + r * pvl cs r
theorem pv_append (xs ys : List Int) (r : Int) : pvl (xs ++ ys) r = pvl xs r + r ^ xs.length * pvl ys r := by
  induction xs with
  | nil => simp [pvl]
  | cons x xs ih => simp only [List.cons_append, pvl, ih, List.length_cons]; grind
theorem pv_zeros {xs : List Int} (h : ∀ c ∈ xs, c = 0) (r : Int) : pvl xs r = 0 := by
  induction xs with
  | nil => rfl
  | cons x xs ih => rw [pvl, ih fun c hc => h c (List.mem_cons_of_mem _ hc), h x List.mem_cons_self]; simp
theorem pv_zip : ∀ (xs ys : List Int), xs.length = ys.length → ∀ r, pvl (List.zipWith (· + ·) xs ys) r = pvl xs r + pvl ys r
  | [], [], _, r => by simp [pvl]
  | x :: xs, y :: ys, h, r => by
    have ih := pv_zip xs ys (by simpa using h) r
    simp only [List.zipWith_cons_cons, pvl, ih]; grind
  | [], _ :: _, h, _ => by simp at h
  | _ :: _, [], h, _ => by simp at h
theorem pv_set : ∀ (xs : List Int) (k : Nat) (c d r : Int), xs[k]? = some c → pvl (xs.set k (c + d)) r = pvl xs r + d * r ^ k
  | x :: xs, 0, c, d, r, h => by
    simp only [List.getElem?_cons_zero, Option.some.injEq] at h
    subst h
    simp only [List.set_cons_zero, pvl]; grind
  | x :: xs, k + 1, c, d, r, h => by
    have ih := pv_set xs k c d r (by simpa using h)
    simp only [List.set_cons_succ, pvl, ih, Int.pow_succ]; grind
  | [], k, c, d, r, h => by simp at h
/-! trimmed -/
def sp_trimmed (K : PySem.W.Frag) : Sp := fun vs H Q _ => ∃ (a : Addr) (ns : List Int), vs = [.ref a] ∧ SqL K H a (ns.map V.int) ∧
  ∀ t cs H', H t = none → Ext H H' → H' t = some (.tup (cs.map V.int)) → (∀ r, pvl cs r = pvl ns r) → cs.getLast? ≠ some 0 → (∀ c ∈ cs, c ∈ ns) → cs.length ≤ ns.length → Q (.ref t) H'
def rd_trimmed_L1 (K : PySem.W.Frag) : TS := tAug 1 (tC (.int 1)) FW.iSub
def rd_trimmed (K : PySem.W.Frag) : TS := tSeq (tAsg (tCB (Evl.rLenS K) (tCons (tVar 0) (tNil))) (gName 1)) (tSeq (tWhile (tAnd (tTest (tOp FW.rGt (tVar 1) (tC (.int 0)))) (tTest (tOp rEq (tOp (rIxL K) (tVar 0) (tOp FW.rSub (tVar 1) (tC (.int 1)))) (tC (.int 0))))) (rd_trimmed_L1 K)) (tRet (tCB (FW.rTupS K) (tCons (tSl (rSlL K) (tVar 0) (tNoPart) (tPart (tVar 1))) (tNil)))))
theorem cut_take (ns : List Int) (m : Nat) : cutV (ns.map V.int) none (some (m : Int)) = (ns.take m).map V.int := by
  unfold cutV
  rw [HT.sIx_none, HT.sIx_nat]
  rw [List.drop_zero, List.length_map, Nat.sub_zero, List.map_take]
  rcases Nat.le_total m ns.length with h | h
  · rw [Nat.min_eq_left h]
  · rw [Nat.min_eq_right h, List.take_of_length_le (by simp), List.take_of_length_le (by simpa using h)]
theorem at_int {ns : List Int} {k : Nat} (h : k < ns.length) : atI (ns.map V.int) (k : Int) = some (.int ns[k]) := atI_nat (by simp [h])
theorem pure_trimmed (K : PySem.W.Frag) (vs : List V) (H : Hp) (Q : VK) (E : XK) (h : sp_trimmed K vs H Q E) : rd_trimmed K { nx := fun _ H' => Q .non H', rt := Q } (start ["coefficients", "many"] vs) H := by
  obtain ⟨a, ns, rfl, hA, q⟩ := h
  unfold rd_trimmed
  walk_at "rd"
  refine e_len ?_ (.inl hA)
  walk_at "rd"
  rw [List.length_map]
  refine s_while (fun m σ H' => H' = H ∧ m ≤ ns.length ∧ (∀ c ∈ ns.drop m, c = 0) ∧ σ = [some (.ref a), some (.int (m : Int))]) ns.length ⟨rfl, Nat.le_refl _, by simp, rfl⟩ ?_
  rintro m σ H' ⟨rfl, hm, hz, rfl⟩
  have fin : (ns.take m).getLast? ≠ some 0 → tRet (tCB (FW.rTupS K) (tCons (tSl (rSlL K) (tVar 0) (tNoPart) (tPart (tVar 1))) (tNil))) { nx := fun _ H' => Q .non H', rt := Q } [some (.ref a), some (.int (m : Int))] H' := by
    intro hl
    walk_at "rd"
    refine e_sl ?_
    walk_at "rd"
    refine e_noP ?_
    refine e_part ?_
    walk_at "rd"
    refine e_part' ?_
    refine e_slL (fun p hp => ?_) hA
    rw [cut_take]
    walk_at "rd"
    refine e_tupL (fun t ht => ?_) (SqL.of upd_same)
    have e1 := Ext.new (o := .lst ((ns.take m).map V.int)) hp
    refine q t (ns.take m) _ (e1.non ht) (e1.tr (Ext.new ht)) upd_same (fun r => ?_) hl (fun c hc => List.mem_of_mem_take hc) (by rw [List.length_take]; omega)
    have := pv_append (ns.take m) (ns.drop m) r
    rw [List.take_append_drop, pv_zeros hz r] at this
    simp at this
    exact this.symm
  walk_at "rd"
  refine e_ite (fun hpos => ?_) (fun hno => ?_)
  · obtain ⟨k, rfl⟩ : ∃ k, m = k + 1 := ⟨m - 1, by omega⟩
    have hk : k < ns.length := by omega
    walk_at "rd"
    rw [show (((k + 1 : Nat) : Int) - 1) = (k : Int) by omega]
    refine e_ixL ?_ hA (at_int hk)
    walk_at "rd"
    have hd : decide (V.int ns[k] = V.int 0) = decide (ns[k] = 0) := decide_eq_decide.mpr ⟨fun z => by injection z, fun z => by rw [z]⟩
    rw [hd]
    refine e_ite (fun h0 => ?_) (fun h0 => ?_)
    · refine ⟨fun σ' H'' => H'' = H' ∧ k ≤ ns.length ∧ (∀ c ∈ ns.drop k, c = 0) ∧ σ' = [some (.ref a), some (.int (k : Int))], fun σ' H'' h => ⟨k, by omega, h⟩, ?_⟩
      unfold rd_trimmed_L1
      walk_at "rd"
      refine ⟨rfl, by omega, ?_, by rw [show (((k + 1 : Nat) : Int) - 1) = (k : Int) by omega]; rfl⟩
      intro c hc
      rw [List.drop_eq_getElem_cons hk] at hc
      rcases List.mem_cons.mp hc with rfl | hc
      · exact h0
      · exact hz c hc
    · refine fin ?_
      rw [List.getLast?_eq_getElem?, List.length_take, Nat.min_eq_left hm, Nat.add_sub_cancel, List.getElem?_take]
      simp [hk]
      exact h0
  · have : m = 0 := by omega
    subst this
    exact fin (by simp)
/-! the value of a polynomial -/
theorem pv_sz : ∀ (cs : List Int) (r : Int) (b : Nat), (∀ c ∈ cs, Sz b c) → Sz b r → Sz (cs.length * (b + 1)) (pvl cs r)
  | [], r, b, _, _ => by show Sz (0 * (b + 1)) 0; rw [Nat.zero_mul]; decide
  | c :: cs, r, b, h, hr => by
    have ih := pv_sz cs r b (fun c hc => h c (List.mem_cons_of_mem _ hc)) hr
    have hm := Sz.mul hr ih
    have hc := h c List.mem_cons_self
    have e : (c :: cs).length * (b + 1) = (b + cs.length * (b + 1)) + 1 := by rw [List.length_cons, Nat.add_mul]; omega
    rw [e, pvl]
    exact (hc.mono (by omega)).add hm
def sp_poly_value (K : PySem.W.Frag) : Sp := fun vs H Q _ => ∃ (a : Addr) (ns : List Int) (r : Int) (b : Nat), vs = [.ref a, .int r] ∧ SqA K H a (ns.map V.int) ∧ (∀ c ∈ ns, Sz b c) ∧ Sz b r ∧ (ns.length + 2) * (b + 1) ≤ 900000 ∧
  ∀ H', Ext H H' → Q (.int (pvl ns r)) H'
def rd_poly_value_L1 (K : PySem.W.Frag) : TS := tAsg (tOp FW.rAdd (tOp FW.rMul (tVar 2) (tVar 1)) (tVar 3)) (gName 2)
def rd_poly_value (K : PySem.W.Frag) : TS := tSeq (tAsg (tC (.int 0)) (gName 2)) (tSeq (tFor (FW.iEither (iList K (FW.tEither (tRevL K (tVar 0)) (FW.tRevT K (tVar 0)))) (iTup K (FW.tEither (tRevL K (tVar 0)) (FW.tRevT K (tVar 0))))) (gName 3) (rd_poly_value_L1 K)) (tRet (tVar 2)))
theorem take_succ' {xs : List Int} {i : Nat} {x : Int} (h : xs[i]? = some x) : xs.take (i + 1) = xs.take i ++ [x] := by
  rw [List.take_add_one, h]; rfl
theorem rev_take {ns : List Int} {i : Nat} {x : Int} (h : ns.reverse[i]? = some x) : (ns.reverse.take (i + 1)).reverse = x :: (ns.reverse.take i).reverse := by
  rw [take_succ' h, List.reverse_append]; rfl
theorem rev_all {ns : List Int} {n : Nat} (h : n = ns.length) : (ns.reverse.take n).reverse = ns := by
  rw [h, List.take_of_length_le (by simp), List.reverse_reverse]
theorem int_at {ns : List Int} {i : Nat} {x : V} (h : (ns.map V.int).reverse[i]? = some x) : ∃ c, x = .int c ∧ ns.reverse[i]? = some c := by
  rw [← List.map_reverse, List.getElem?_map] at h
  cases e : ns.reverse[i]? with
  | none => rw [e] at h; cases h
  | some c => rw [e] at h; cases h; exact ⟨c, rfl, rfl⟩
theorem pure_poly_value (K : PySem.W.Frag) (vs : List V) (H : Hp) (Q : VK) (E : XK) (h : sp_poly_value K vs H Q E) : rd_poly_value K { nx := fun _ H' => Q .non H', rt := Q } (start ["poly", "r", "found", "coefficient"] vs) H := by
  obtain ⟨a, ns, r, b, rfl, hA, hc, hr, hsz, q⟩ := h
  unfold rd_poly_value
  walk_at "rd"
  have main : ∀ p o H1, H p = none → (o = HO.lst (ns.map V.int).reverse ∨ o = HO.tup (ns.map V.int).reverse) → H1 = upd H p o → ∃ Pv : Nat → L2.St → Hp → Prop, Pv 0 [some (.ref a), some (.int r), some (.int 0), none] H1 ∧ (∀ i σ H', Pv i σ H' → H' = H1) ∧
      (∀ i x σ H', (ns.map V.int).reverse[i]? = some x → Pv i σ H' → gName 3 x σ H' fun σ2 H2 => rd_poly_value_L1 K { nx := Pv (i + 1), ct := Pv (i + 1), bk := fun σ' H' => tRet (tVar 2) { nx := fun _ H' => Q .non H', rt := Q } σ' H', rt := Q } σ2 H2) ∧
      (∀ σ H', Pv (ns.map V.int).reverse.length σ H' → tRet (tVar 2) { nx := fun _ H' => Q .non H', rt := Q } σ H') := by
    intro p o H1 hp ho e1
    refine ⟨fun i σ H' => H' = H1 ∧ i ≤ ns.length ∧ ∃ v, σ = [some (.ref a), some (.int r), some (.int (pvl (ns.reverse.take i).reverse r)), v], ⟨rfl, Nat.zero_le _, none, rfl⟩, fun _ _ _ h => h.1, ?_, ?_⟩
    · rintro i x σ H' hx ⟨rfl, hi, v, rfl⟩
      obtain ⟨c, rfl, hci⟩ := int_at hx
      have hlt : i < ns.length := by
        have := (List.getElem?_eq_some_iff.mp hci).1
        simpa using this
      unfold rd_poly_value_L1
      walk_at "rd"
      · refine ⟨rfl, by omega, some (.int c), ?_⟩
        rw [rev_take hci, pvl]
        rw [show pvl (ns.reverse.take i).reverse r * r + c = c + r * pvl (ns.reverse.take i).reverse r by grind]
        rfl
      · have hs := pv_sz (ns.reverse.take i).reverse r b (fun c hc' => hc c (by
          have := List.mem_reverse.mp hc'
          exact List.mem_reverse.mp (List.mem_of_mem_take this))) hr
        have hlen : (ns.reverse.take i).reverse.length = i := by simp; omega
        rw [hlen] at hs
        have h1 : (i + 1) * (b + 1) ≤ (ns.length + 1) * (b + 1) := Nat.mul_le_mul_right _ (by omega)
        have h2 : (ns.length + 2) * (b + 1) = (ns.length + 1) * (b + 1) + (b + 1) := by rw [Nat.add_mul (ns.length + 1) 1, Nat.one_mul]
        have h3 : (i + 1) * (b + 1) = i * (b + 1) + (b + 1) := by rw [Nat.add_mul, Nat.one_mul]
        refine wide_mul (a := i * (b + 1) + 1) (b := b + 1) (hs.mono (by omega)) (hr.mono (by omega)) (by omega) (by omega) (by omega)
    · rintro σ H' ⟨rfl, _, v, rfl⟩
      walk_at "rd"
      rw [rev_all (by simp)]
      rw [e1]
      exact q _ (Ext.new hp)
  have hl0 : [some (V.ref a), some (V.int r), some (V.int 0), (none : Option V)][0]? = some (some (.ref a)) := rfl
  rcases hA with hA | hA
  · refine Or.inl (i_list (Or.inl ⟨_, hl0, a, _, rfl, hA, fun p hp => ?_⟩))
    obtain ⟨Pv, h0, hk, hs, hd⟩ := main p _ _ hp (.inl rfl) rfl
    refine i_list' _ ?_ (SqL.of upd_same)
    exact for_list (xs := (ns.map V.int).reverse) Pv h0 (fun i σ H' _ p => by rw [hk i σ H' p]; exact SqL.of upd_same) hs hd
  · refine Or.inr (i_tup (Or.inr ⟨_, hl0, a, _, rfl, hA, fun p hp => ?_⟩))
    obtain ⟨Pv, h0, hk, hs, hd⟩ := main p _ _ hp (.inr rfl) rfl
    refine i_tup' _ ?_ (SqT.of upd_same)
    exact for_tup (xs := (ns.map V.int).reverse) Pv h0 (fun i σ H' _ p => by rw [hk i σ H' p]; exact SqT.of upd_same) hs hd
end FWL
namespace FWL
open PySem PySem.Spec PyProof.Rows L2 FW
/-! ### cells and rows -/
theorem list_at {xs : List V} {i : Int} (h0 : 0 ≤ i) (h : i < (xs.length : Int)) : ∃ v, v ∈ xs ∧ atI xs i = some v := by
  obtain ⟨k, rfl⟩ := Int.eq_ofNat_of_zero_le h0
  have hk : k < xs.length := by omega
  exact ⟨xs[k], List.getElem_mem _, atI_nat (List.getElem?_eq_getElem hk)⟩
def sp_l_cell_at (K : PySem.W.Frag) : Sp := fun vs H Q _ => ∃ (a : Addr) (ns : List Int) (k : Int), vs = [.ref a, .int k] ∧ SqL K H a (ns.map V.int) ∧ 0 ≤ k ∧ ∀ c, Q (.int c) H
def rd_l_cell_at (K : PySem.W.Frag) : TS := tSeq (tIfS (tTest (tOp FW.rLt (tVar 1) (tCB (Evl.rLenS K) (tCons (tVar 0) (tNil))))) (tRet (tOp (rIxL K) (tVar 0) (tVar 1))) (tNext)) (tRet (tC (.int 0)))
theorem pure_l_cell_at (K : PySem.W.Frag) (vs : List V) (H : Hp) (Q : VK) (E : XK) (h : sp_l_cell_at K vs H Q E) : rd_l_cell_at K { nx := fun _ H' => Q .non H', rt := Q } (start ["_law_script", "_law_k"] vs) H := by
  obtain ⟨a, ns, k, rfl, hA, hk, q⟩ := h
  unfold rd_l_cell_at
  walk_at "rd"
  refine e_len ?_ (.inl hA)
  walk_at "rd"
  refine e_ite (fun h => ?_) (fun h => ?_)
  · rw [List.length_map] at h
    obtain ⟨i, hi⟩ := at_map hk h
    walk_at "rd"
    refine e_ixL ?_ hA hi
    exact q _
  · walk_at "rd"
    exact q _
def sp_l_mixed (K : PySem.W.Frag) : Sp := fun vs H Q _ => ∃ c k : Int, vs = [.int c, .int k] ∧ 0 ≤ k ∧ k < 100000 ∧ ∀ v, 0 ≤ v → Q (.int v) H
def rd_l_mixed (K : PySem.W.Frag) : TS := tSeq (tAsg (tOp FW.rMod (tCB FW.rInt1 (tCons (tOp FW.rPow (tOp FW.rAdd (tOp FW.rAdd (tOp FW.rMod (tCB FW.rInt1 (tCons (tVar 0) (tNil))) (tC (.int 2147483647))) (tOp FW.rMul (tC (.int 7919)) (tVar 1))) (tC (.int 104729))) (tC (.int 5))) (tNil))) (tC (.int 2147483647))) (gName 2)) (tRet (tOp FW.rMod (tCB FW.rInt1 (tCons (tOp FW.rMul (tOp FW.rAdd (tVar 2) (tVar 1)) (tC (.int 40692))) (tNil))) (tC (.int 2147483629))))
theorem pure_l_mixed (K : PySem.W.Frag) (vs : List V) (H : Hp) (Q : VK) (E : XK) (h : sp_l_mixed K vs H Q E) : rd_l_mixed K { nx := fun _ H' => Q .non H', rt := Q } (start ["_law_cell", "_law_k", "_law_spread"] vs) H := by
  obtain ⟨c, k, rfl, hk, hk1, q⟩ := h
  have h0 : 0 ≤ c % 2147483647 := Int.emod_nonneg _ (by decide)
  have h1 : c % 2147483647 < 2147483647 := Int.emod_lt_of_pos _ (by decide)
  have hs : 0 ≤ ((c % 2147483647 + 7919 * k + 104729) ^ (5 : Int).toNat) % 2147483647 := Int.emod_nonneg _ (by decide)
  have hs2 : ((c % 2147483647 + 7919 * k + 104729) ^ (5 : Int).toNat) % 2147483647 < 2147483647 := Int.emod_lt_of_pos _ (by decide)
  unfold rd_l_mixed
  walk_at "rd"
  · walk_at "rd"
    · exact q _ (Int.emod_nonneg _ (by decide))
  · decide
  · exact wide_mul (a := 60) (b := 20) (by omega) (by decide) (by decide) (by decide) (by decide)
  · decide
  · refine ⟨by decide, by decide, ?_⟩
    have : (2 : Nat) ^ 64 = 18446744073709551616 := by decide
    omega
  · exact wide_mul (a := 20) (b := 40) (by decide) (by omega) (by decide) (by decide) (by decide)
  · decide
def sp_l_apart (K : PySem.W.Frag) : Sp := fun vs H Q _ => ∃ c k : Int, vs = [.int c, .int k] ∧ 0 ≤ k ∧ k < 100000 ∧ ∀ v, Q (.int v) H
def rd_l_apart (K : PySem.W.Frag) : TS := tSeq (tIfS (tTest (tOp FW.rGe (tCB FW.rAbs (tCons (tVar 0) (tNil))) (tOp FW.rPow (tC (.int 10)) (tC (.int 18))))) (tRet (tVar 0)) (tNext)) (tRet (tOp FW.rAdd (tVar 0) (tOp FW.rMul (tC (.int 1000003)) (tVar 1))))
theorem pure_l_apart (K : PySem.W.Frag) (vs : List V) (H : Hp) (Q : VK) (E : XK) (h : sp_l_apart K vs H Q E) : rd_l_apart K { nx := fun _ H' => Q .non H', rt := Q } (start ["_law_cell", "_law_k"] vs) H := by
  obtain ⟨c, k, rfl, hk, hk1, q⟩ := h
  unfold rd_l_apart
  walk_at "rd"
  · refine e_ite (fun h => ?_) (fun h => ?_)
    · walk_at "rd"
      exact q _
    · walk_at "rd"
      · exact q _
      · exact wide_mul (a := 20) (b := 40) (by decide) (by omega) (by decide) (by decide) (by decide)
  · exact ⟨by decide, by decide, by decide⟩
/-- a row: numbers from 0 to 999 -/
def Row (xs : List Int) (n : Nat) : Prop := xs.length = n ∧ ∀ x ∈ xs, 0 ≤ x ∧ x < 1000
def sp_l_row (K : PySem.W.Frag) : Sp := fun vs H Q _ => ∃ (c : Int) (m : Nat), vs = [.int c, .int (m : Int)] ∧ m < 1000 ∧ ∀ (L : Addr) (xs : List Int) (H' : Hp), H L = none → Ext H H' → H' L = some (.lst (xs.map V.int)) → Row xs m → Q (.ref L) H'
def rd_l_row_L1 (K : PySem.W.Frag) : TS := tSeq (tDrop (tBM K "list" rAppend (tVar 3) (tCons (tOp FW.rMod (tCB FW.rInt1 (tCons (tIf (tTest (tOp FW.rGt (tVar 2) (tC (.int 0)))) (tVar 2) (tCall (sp_l_mixed K) [] E0 (tCons (tVar 0) (tCons (tVar 4) (tNil))))) (tNil))) (tC (.int 1000))) (tNil)))) (tAsg (tOp FW.rDiv (tVar 2) (tC (.int 1000))) (gName 2))
def rd_l_row (K : PySem.W.Frag) : TS := tSeq (tAsg (tIf (tTest (tOp FW.rGe (tCB FW.rAbs (tCons (tVar 0) (tNil))) (tOp FW.rPow (tC (.int 10)) (tC (.int 18))))) (tCB FW.rAbs (tCons (tVar 0) (tNil))) (tC (.int 0))) (gName 2)) (tSeq (tAsg (tLst (tNil)) (gName 3)) (tSeq (tFor (iRng1 (tCons (tVar 1) (tNil))) (gName 4) (rd_l_row_L1 K)) (tRet (tVar 3))))
theorem pure_l_row (K : PySem.W.Frag) (vs : List V) (H : Hp) (Q : VK) (E : XK) (h : sp_l_row K vs H Q E) : rd_l_row K { nx := fun _ H' => Q .non H', rt := Q } (start ["_law_cell", "_law_many", "_law_left", "_law_row_here", "_law_k"] vs) H := by
  obtain ⟨c, m, rfl, hm, q⟩ := h
  have main : ∀ left : Int, 0 ≤ left → (tSeq (tAsg (tLst (tNil)) (gName 3)) (tSeq (tFor (iRng1 (tCons (tVar 1) (tNil))) (gName 4) (rd_l_row_L1 K)) (tRet (tVar 3)))) { nx := fun _ H' => Q .non H', rt := Q } [some (.int c), some (.int (m : Int)), some (.int left), none, none] H := by
    intro left hleft
    walk_at "rd"
    refine ⟨by show 0 ≤ sizeLine; decide, fun L hL => ?_⟩
    walk_at "rd"
    · refine for_range (lo := 0) (n := (m : Int).toNat) (fun i σ H' => Ext H H' ∧ ∃ (left : Int) (xs : List Int) (v : Option V), 0 ≤ left ∧ H' L = some (.lst (xs.map V.int)) ∧ Row xs i ∧ σ = [some (.int c), some (.int (m : Int)), some (.int left), some (.ref L), v]) ⟨Ext.new hL, left, [], _, hleft, upd_same, ⟨rfl, by simp⟩, rfl⟩ ?_ ?_
      · rintro i σ H' hi ⟨e, left, xs, v, hl, hx, hr, rfl⟩
        have fin : ∀ y : Int, 0 ≤ y → y < 1000 → rAppend (.ref L) [.int y] H' fun _ H1 => (tAsg (tOp FW.rDiv (tVar 2) (tC (.int 1000))) (gName 2)) { nx := fun σ H' => Ext H H' ∧ ∃ (left : Int) (xs : List Int) (v : Option V), 0 ≤ left ∧ H' L = some (.lst (xs.map V.int)) ∧ Row xs (i + 1) ∧ σ = [some (.int c), some (.int (m : Int)), some (.int left), some (.ref L), v], ct := fun σ H' => Ext H H' ∧ ∃ (left : Int) (xs : List Int) (v : Option V), 0 ≤ left ∧ H' L = some (.lst (xs.map V.int)) ∧ Row xs (i + 1) ∧ σ = [some (.int c), some (.int (m : Int)), some (.int left), some (.ref L), v], bk := fun σ' H' => tRet (tVar 3) { nx := fun _ H' => Q .non H', rt := Q } σ' H', rt := Q } [some (.int c), some (.int (m : Int)), some (.int left), some (.ref L), some (.int (0 + (i : Int)))] H1 := by
          intro y y0 y1
          refine ⟨L, _, _, rfl, rfl, hx, ?_, ?_⟩
          · rw [List.length_map, hr.1]; show _ < 2 ^ 24; omega
          walk_at "rd"
          · refine ⟨e.upds hL, left / 1000, xs ++ [y], _, by omega, by rw [upd_same, List.map_append]; rfl, ⟨by simp [hr.1], fun x hx' => ?_⟩, rfl⟩
            rcases List.mem_append.mp hx' with h | h
            · exact hr.2 x h
            · rw [List.mem_singleton.mp h]; exact ⟨y0, y1⟩
          · exact ⟨by decide, by decide⟩
        walk_at "re"
        unfold rd_l_row_L1
        walk_at "rd"
        refine ⟨Or.inl ⟨rfl, _, SqL.of hx⟩, ?_⟩
        walk_at "rd"
        refine e_ite (fun h => ?_) (fun h => ?_)
        · walk_at "re"
          · exact fin _ (Int.emod_nonneg _ (by decide)) (Int.emod_lt_of_pos _ (by decide))
          · decide
        · walk_at "re"
          refine ⟨c, 0 + (i : Int), rfl, by omega, by omega, fun w hw => ?_⟩
          walk_at "re"
          · exact fin _ (Int.emod_nonneg _ (by decide)) (Int.emod_lt_of_pos _ (by decide))
          · decide
      · rintro σ H' ⟨e, left, xs, v, hl, hx, hr, rfl⟩
        walk_at "rd"
        exact q L xs H' hL e hx (by simpa using hr)
    · omega
  unfold rd_l_row
  walk_at "rd"
  · refine e_ite (fun h => ?_) (fun h => ?_)
    · walk_at "re"
      refine main (if c < 0 then -c else c) (by split <;> omega)
    · walk_at "re"
      exact main 0 (by decide)
  · exact ⟨by decide, by decide, by decide⟩
theorem row_at {xs : List Int} {n : Nat} {i : Int} (h : Row xs n) (h0 : 0 ≤ i) (h1 : i < n) : ∃ x, 0 ≤ x ∧ x < 1000 ∧ atI (xs.map V.int) i = some (.int x) := by
  obtain ⟨k, rfl⟩ := Int.eq_ofNat_of_zero_le h0
  have hk : k < xs.length := by rw [h.1]; omega
  obtain ⟨a, b⟩ := h.2 xs[k] (List.getElem_mem _)
  exact ⟨xs[k], a, b, at_int hk⟩
def sp_l_great (K : PySem.W.Frag) : Sp := fun vs H Q _ => ∃ (L : Addr) (xs : List Int) (n : Nat) (a m : Int), vs = [.ref L, .int a, .int m] ∧ H L = some (.lst (xs.map V.int)) ∧ Row xs n ∧ 0 ≤ a ∧ 0 ≤ m ∧ m ≤ 100 ∧ a + m ≤ n ∧ ∀ v : Int, 0 ≤ v → v < 1000 ^ m.toNat → Q (.int v) H
def rd_l_great_L1 (K : PySem.W.Frag) : TS := tAsg (tOp FW.rAdd (tOp FW.rMul (tC (.int 1000)) (tVar 3)) (tCB FW.rInt1 (tCons (tOp (rIxL K) (tVar 0) (tOp FW.rAdd (tVar 1) (tVar 4))) (tNil)))) (gName 3)
def rd_l_great (K : PySem.W.Frag) : TS := tSeq (tAsg (tC (.int 0)) (gName 3)) (tSeq (tFor (iRng1 (tCons (tVar 2) (tNil))) (gName 4) (rd_l_great_L1 K)) (tRet (tVar 3)))
theorem pure_l_great (K : PySem.W.Frag) (vs : List V) (H : Hp) (Q : VK) (E : XK) (h : sp_l_great K vs H Q E) : rd_l_great K { nx := fun _ H' => Q .non H', rt := Q } (start ["_law_row_here", "_law_at", "_law_many", "_law_found", "_law_k"] vs) H := by
  obtain ⟨L, xs, n, a, m, rfl, hL, hr, ha, hm, hm1, ham, q⟩ := h
  unfold rd_l_great
  walk_at "rd"
  · refine for_range (lo := 0) (n := m.toNat) (fun i σ H' => H' = H ∧ ∃ (f : Int) (v : Option V), 0 ≤ f ∧ f < 1000 ^ i ∧ σ = [some (.ref L), some (.int a), some (.int m), some (.int f), v]) ⟨rfl, 0, _, by decide, by decide, rfl⟩ ?_ ?_
    · rintro i σ H' hi ⟨rfl, f, v, f0, f1, rfl⟩
      obtain ⟨x, x0, x1, hx⟩ := row_at (i := a + (0 + (i : Int))) hr (by omega) (by omega)
      have hp : (1000 : Int) ^ (i + 1) = 1000 ^ i * 1000 := Int.pow_succ ..
      walk_at "re"
      unfold rd_l_great_L1
      walk_at "rd"
      · refine e_ixL ?_ (SqL.of hL) hx
        walk_at "rd"
        refine ⟨rfl, 1000 * f + x, _, by omega, ?_, rfl⟩
        rw [hp]; omega
      · refine wide_mul (a := 10) (b := 1001) (by decide) ?_ (by decide) (by decide) (by decide)
        exact (Sz.of_le f0 (by omega : f ≤ 1000 ^ i) (Sz.pow (b := 10) (by decide) (by decide) i)).mono (by omega)
    · rintro σ H' ⟨rfl, f, v, f0, f1, rfl⟩
      walk_at "rd"
      exact q f f0 f1
  · omega
theorem e_max1 {K : PySem.W.Frag} {H : Hp} {Q : VK} {a : Addr} {i j : Int} (k : ∀ m, (m = i ∨ m = j) → i ≤ m → j ≤ m → Q (.int m) H) (h : H a = some (.lst [.int i, .int j])) : rMax K [.ref a] H Q :=
  ⟨a, [i, j], rfl, SqL.of h, by show 0 < 2; decide, fun m hm hy => k m (by simpa using hm) (hy i (by simp)) (hy j (by simp))⟩
theorem e_min1 {K : PySem.W.Frag} {H : Hp} {Q : VK} {a : Addr} {i j : Int} (k : ∀ m, (m = i ∨ m = j) → m ≤ i → m ≤ j → Q (.int m) H) (h : H a = some (.lst [.int i, .int j])) : rMin K [.ref a] H Q :=
  ⟨a, [i, j], rfl, SqL.of h, by show 0 < 2; decide, fun m hm hy => k m (by simpa using hm) (hy i (by simp)) (hy j (by simp))⟩
end FWL
namespace FWL
open PySem PySem.Spec PyProof.Rows L2 FW
/-! ### sign, bits -/
def sgn (i : Int) : Int := (if i > 0 then 1 else 0) - (if i < 0 then 1 else 0)
def sp_sign (K : PySem.W.Frag) : Sp := fun vs H Q _ => ∃ i : Int, vs = [.int i] ∧ Q (.int (sgn i)) H
def rd_sign (K : PySem.W.Frag) : TS := tRet (tOp FW.rSub (tCB FW.rInt1 (tCons (tOp FW.rGt (tVar 0) (tC (.int 0))) (tNil))) (tCB FW.rInt1 (tCons (tOp FW.rLt (tVar 0) (tC (.int 0))) (tNil))))
theorem ite_dec (p : Prop) [Decidable p] : (if decide p = true then (1 : Int) else 0) = if p then 1 else 0 := by
  by_cases h : p <;> simp [h]
theorem pure_sign (K : PySem.W.Frag) (vs : List V) (H : Hp) (Q : VK) (E : XK) (h : sp_sign K vs H Q E) : rd_sign K { nx := fun _ H' => Q .non H', rt := Q } (start ["number"] vs) H := by
  obtain ⟨i, rfl, q⟩ := h
  unfold rd_sign
  walk_at "rd"
  rw [ite_dec, ite_dec]
  exact q
theorem two_pow_pos (n : Nat) : (1 : Int) ≤ 2 ^ n := pow_pos' (by decide) n
theorem shr_pos {n : Int} {j : Nat} : (0 < n / 2 ^ j) ↔ 2 ^ j ≤ n := by
  have := two_pow_pos j
  constructor
  · intro h
    have h1 : (1 : Int) ≤ n / 2 ^ j := h
    rw [Int.le_ediv_iff_mul_le (by omega)] at h1
    omega
  · intro h
    have : (1 : Int) ≤ n / 2 ^ j := by
      rw [Int.le_ediv_iff_mul_le (by omega)]
      omega
    omega
theorem pow_le_right {x : Int} (hx : 1 ≤ x) {a b : Nat} (h : a ≤ b) : x ^ a ≤ x ^ b := by
  obtain ⟨c, rfl⟩ := Nat.le.dest h
  rw [Int.pow_add]
  have h1 := pow_pos' hx a
  have h2 := pow_pos' hx c
  have : x ^ a * 1 ≤ x ^ a * x ^ c := Int.mul_le_mul_of_nonneg_left h2 (by omega)
  omega
theorem two_le_inv {a b : Nat} (h : (2 : Int) ^ a < 2 ^ b) : a < b := by
  rcases Nat.lt_or_ge a b with h1 | h1
  · exact h1
  · have : (2 : Int) ^ b ≤ 2 ^ a := pow_le_right (by decide) h1
    omega
def sp_bits (K : PySem.W.Frag) : Sp := fun vs H Q _ => ∃ n : Int, vs = [.int n] ∧ 0 ≤ n ∧ Sz 2000 n ∧ ∀ (b : Nat) H', n < 2 ^ b → (b = 0 ∨ 2 ^ (b - 1) ≤ n) → Ext H H' → Q (.int (b : Int)) H'
def rd_bits_L1 (K : PySem.W.Frag) : TS := tAug 2 (tC (.int 2)) FW.iMul
def rd_bits_L2 (K : PySem.W.Frag) : TS := tSeq (tAsg (tOp FW.rDiv (tOp FW.rAdd (tVar 1) (tVar 2)) (tC (.int 2))) (gName 3)) (tIfS (tTest (tOp FW.rGt (tOp FW.rShr (tVar 0) (tVar 3)) (tC (.int 0)))) (tAsg (tOp FW.rAdd (tVar 3) (tC (.int 1))) (gName 1)) (tAsg (tVar 3) (gName 2)))
def rd_bits (K : PySem.W.Frag) : TS := tSeq (tAsg (tTup (tCons (tC (.int 0)) (tCons (tC (.int 1)) (tNil)))) (gTup K 2 (gCons (gName 1) (gCons (gName 2) (gNil))))) (tSeq (tWhile (tTest (tOp FW.rGt (tOp FW.rShr (tVar 0) (tVar 2)) (tC (.int 0)))) (rd_bits_L1 K)) (tSeq (tWhile (tTest (tOp FW.rLt (tVar 1) (tVar 2))) (rd_bits_L2 K)) (tRet (tVar 1))))
theorem pure_bits (K : PySem.W.Frag) (vs : List V) (H : Hp) (Q : VK) (E : XK) (h : sp_bits K vs H Q E) : rd_bits K { nx := fun _ H' => Q .non H', rt := Q } (start ["n", "low", "high", "middle"] vs) H := by
  obtain ⟨n, rfl, hn, hs, q⟩ := h
  have hnb : n < 2 ^ 2000 := by
    have : n.natAbs < 2 ^ 2000 := hs
    have e : ((2 ^ 2000 : Nat) : Int) = 2 ^ 2000 := by rw [Int.natCast_pow]; rfl
    omega
  unfold rd_bits
  walk_at "rd"
  refine ⟨by show 2 ≤ sizeLine; decide, fun q1 hq1 => ?_⟩
  refine g_tup ?_ (SqT.of upd_same) rfl
  have eE := Ext.new (o := .tup [V.int 0, V.int 1]) hq1
  generalize upd H q1 (.tup [V.int 0, V.int 1]) = H at *
  walk_at "rd"
  refine s_while (fun m σ H' => H' = H ∧ ∃ (j : Nat) (v : Option V), 1 ≤ j ∧ j ≤ 4000 ∧ m = 4000 - j ∧ σ = [some (.int n), some (.int 0), some (.int (j : Int)), v]) _ ⟨rfl, 1, none, by decide, by decide, rfl, rfl⟩ ?_
  rintro m σ H' ⟨rfl, j, v, j1, j2, rfl, rfl⟩
  walk_at "rd"
  · rw [Int.toNat_natCast]
    refine e_ite (fun hgo => ?_) (fun hno => ?_)
    · have hle : (2 : Int) ^ j ≤ n := shr_pos.mp hgo
      have hj : j < 2000 := two_le_inv (by omega)
      refine ⟨fun σ' H'' => H'' = H' ∧ ∃ (j' : Nat) (v : Option V), 1 ≤ j' ∧ j' ≤ 4000 ∧ j < j' ∧ σ' = [some (.int n), some (.int 0), some (.int (j' : Int)), v], fun σ' H'' h => ?_, ?_⟩
      · obtain ⟨h1, j', v', a1, a2, a3, a4⟩ := h
        exact ⟨4000 - j', by omega, h1, j', v', a1, a2, rfl, a4⟩
      unfold rd_bits_L1
      walk_at "rd"
      · refine ⟨rfl, 2 * j, v, by omega, by omega, by omega, ?_⟩
        rw [show ((j : Int) * 2) = ((2 * j : Nat) : Int) by omega]; rfl
      · exact wide_mul (a := 20) (b := 10) (by omega) (by decide) (by decide) (by decide) (by decide)
    · have hlt : n < 2 ^ j := by
        rcases Int.lt_or_le n (2 ^ j) with h | h
        · exact h
        · exact absurd (shr_pos.mpr h) hno
      walk_at "rd"
      refine s_while (fun m σ H'' => H'' = H' ∧ ∃ (lo hi : Nat) (v : Option V), lo ≤ hi ∧ hi ≤ 4000 ∧ n < 2 ^ hi ∧ (lo = 0 ∨ 2 ^ (lo - 1) ≤ n) ∧ m = hi - lo ∧ σ = [some (.int n), some (.int (lo : Int)), some (.int (hi : Int)), v]) _ ⟨rfl, 0, j, v, by omega, by omega, hlt, .inl rfl, rfl, rfl⟩ ?_
      rintro m σ H'' ⟨rfl, lo, hi, v, l1, l2, p1, p2, rfl, rfl⟩
      walk_at "rd"
      refine e_ite (fun hgo => ?_) (fun hno => ?_)
      · refine ⟨fun σ' H2 => H2 = H'' ∧ ∃ (lo' hi' : Nat) (v : Option V), lo' ≤ hi' ∧ hi' ≤ 4000 ∧ n < 2 ^ hi' ∧ (lo' = 0 ∨ 2 ^ (lo' - 1) ≤ n) ∧ hi' - lo' < hi - lo ∧ σ' = [some (.int n), some (.int (lo' : Int)), some (.int (hi' : Int)), v], fun σ' H2 h => ?_, ?_⟩
        · obtain ⟨h1, lo', hi', v', a1, a2, a3, a4, a5, a6⟩ := h
          exact ⟨_, a5, h1, lo', hi', v', a1, a2, a3, a4, rfl, a6⟩
        unfold rd_bits_L2
        walk_at "rd"
        · have em : ((lo : Int) + (hi : Int)) / 2 = (((lo + hi) / 2 : Nat) : Int) := by omega
          rw [em, Int.toNat_natCast]
          refine e_ite (fun hg => ?_) (fun hg => ?_)
          · have hle := shr_pos.mp hg
            walk_at "rd"
            refine ⟨rfl, (lo + hi) / 2 + 1, hi, some (.int (((lo + hi) / 2 : Nat) : Int)), by omega, l2, p1, .inr ?_, by omega, ?_⟩
            · rw [Nat.add_sub_cancel]; exact hle
            · rw [show ((((lo + hi) / 2 : Nat) : Int) + 1) = (((lo + hi) / 2 + 1 : Nat) : Int) by omega]; rfl
          · have hlt' : n < 2 ^ ((lo + hi) / 2) := by
              rcases Int.lt_or_le n (2 ^ ((lo + hi) / 2)) with h | h
              · exact h
              · exact absurd (shr_pos.mpr h) hg
            walk_at "rd"
            exact ⟨rfl, lo, (lo + hi) / 2, _, by omega, by omega, hlt', p2, by omega, rfl⟩
        · omega
        · exact ⟨by decide, by decide⟩
      · walk_at "rd"
        have : lo = hi := by omega
        subst this
        exact q lo _ p1 p2 eE
  · omega
/-! ### the whole root, by Newton's steps -/
theorem conv (g r : Int) (hg : 0 ≤ g) (hr : 0 ≤ r) : ∀ k : Nat, g ^ (k + 1) + (k + 1 : Int) * g ^ k * (r - g) ≤ r ^ (k + 1)
  | 0 => by
    have e1 : g ^ (0 + 1) = g := by rw [Int.pow_succ, Int.pow_zero, Int.one_mul]
    have e2 : r ^ (0 + 1) = r := by rw [Int.pow_succ, Int.pow_zero, Int.one_mul]
    rw [e1, e2, Int.pow_zero]; simp; omega
  | k + 1 => by
    have ih := conv g r hg hr k
    have h1 : r * (g ^ (k + 1) + (k + 1 : Int) * g ^ k * (r - g)) ≤ r * r ^ (k + 1) := Int.mul_le_mul_of_nonneg_left ih hr
    have h2 : 0 ≤ (k + 1 : Int) * g ^ k * ((r - g) * (r - g)) := by
      have a1 : 0 ≤ g ^ k := Int.pow_nonneg hg
      have a2 : 0 ≤ (r - g) * (r - g) := by
        rcases Int.le_total 0 (r - g) with h | h
        · exact Int.mul_nonneg h h
        · exact Int.mul_nonneg_of_nonpos_of_nonpos h h
      exact Int.mul_nonneg (Int.mul_nonneg (by omega) a1) a2
    have e1 : r ^ (k + 1 + 1) = r * r ^ (k + 1) := by rw [Int.pow_succ, Int.mul_comm]
    have e2 : g ^ (k + 1 + 1) = g * g * g ^ k := by rw [Int.pow_succ, Int.pow_succ]; grind
    have e3 : g ^ (k + 1) = g * g ^ k := by rw [Int.pow_succ, Int.mul_comm]
    rw [e1]
    have e4 : g ^ (k + 1 + 1) + ((k + 1 : Nat) + 1 : Int) * g ^ (k + 1) * (r - g) = r * (g ^ (k + 1) + (k + 1 : Int) * g ^ k * (r - g)) - (k + 1 : Int) * g ^ k * ((r - g) * (r - g)) := by
      rw [e2, e3]; push_cast; grind
    rw [e4]
    omega
/-- a step of Newton's leads to no guess below the root -/
theorem newton_ge {n g r : Int} {k : Nat} (hg : 1 ≤ g) (hr : 0 ≤ r) (hn : r ^ (k + 1) ≤ n) : r ≤ ((k : Int) * g + n / g ^ k) / (k + 1) := by
  have hp : 1 ≤ g ^ k := pow_pos' hg k
  rw [Int.le_ediv_iff_mul_le (by omega)]
  have h := conv g r (by omega) hr k
  have hq : (k + 1 : Int) * (r - g) + g ≤ n / g ^ k := by
    rw [Int.le_ediv_iff_mul_le (by omega)]
    have e : ((k + 1 : Int) * (r - g) + g) * g ^ k = g ^ (k + 1) + (k + 1 : Int) * g ^ k * (r - g) := by rw [Int.pow_succ]; grind
    rw [e]; omega
  have e : r * (k + 1 : Int) = (k : Int) * g + ((k + 1 : Int) * (r - g) + g) := by grind
  rw [e]; omega
theorem newton_stop {n g : Int} {k : Nat} (hg : 1 ≤ g) (h : g ≤ ((k : Int) * g + n / g ^ k) / (k + 1)) : g ^ (k + 1) ≤ n := by
  have hp : 1 ≤ g ^ k := pow_pos' hg k
  rw [Int.le_ediv_iff_mul_le (by omega)] at h
  have e : g * (k + 1 : Int) = (k : Int) * g + g := by grind
  rw [e] at h
  have hq : g ≤ n / g ^ k := by omega
  rw [Int.le_ediv_iff_mul_le (by omega)] at hq
  rw [Int.pow_succ, Int.mul_comm]; exact hq
theorem root_exists (n : Int) (hn : 0 ≤ n) (k : Nat) : ∃ r : Int, 0 ≤ r ∧ r ^ (k + 1) ≤ n ∧ n < (r + 1) ^ (k + 1) := by
  have key : ∀ m : Nat, (∃ r : Int, 0 ≤ r ∧ r ^ (k + 1) ≤ n ∧ n < (r + 1) ^ (k + 1)) ∨ ((m : Int) ^ (k + 1) ≤ n) := by
    intro m
    induction m with
    | zero =>
      refine .inr ?_
      show (0 : Int) ^ (k + 1) ≤ n
      rw [Int.zero_pow (by omega)]; exact hn
    | succ m ih =>
      rcases ih with h | h
      · exact .inl h
      · rcases Int.lt_or_le n (((m : Int) + 1) ^ (k + 1)) with h1 | h1
        · exact .inl ⟨m, by omega, h, h1⟩
        · exact .inr (by push_cast; exact h1)
  rcases key (n.toNat + 1) with h | h
  · exact h
  · have := pow_ge_self (x := ((n.toNat + 1 : Nat) : Int)) (by omega) (k + 1) (by omega)
    omega
theorem root_unique {n r s : Int} {k : Nat} (hr : 0 ≤ r) (hs : 0 ≤ s) (r1 : r ^ k ≤ n) (r2 : n < (r + 1) ^ k) (s1 : s ^ k ≤ n) (s2 : n < (s + 1) ^ k) : r = s := by
  have h1 := pow_lt_inv (x := r) (y := s + 1) (n := k) (by omega) (by omega) hr
  have h2 := pow_lt_inv (x := s) (y := r + 1) (n := k) (by omega) (by omega) hs
  omega
def sp_whole_root (K : PySem.W.Frag) : Sp := fun vs H Q _ => ∃ n k : Int, vs = [.int n, .int k] ∧ 0 ≤ n ∧ 1 ≤ k ∧ k ≤ 64 ∧ Sz 2000 n ∧ ∀ (r : Int) H', 0 ≤ r → r ^ k.toNat ≤ n → n < (r + 1) ^ k.toNat → Ext H H' → Q (.int r) H'
def rd_whole_root_L1 (K : PySem.W.Frag) : TS := tSeq (tAsg (tVar 3) (gName 2)) (tAsg (tOp FW.rDiv (tOp FW.rAdd (tOp FW.rMul (tOp FW.rSub (tVar 1) (tC (.int 1))) (tVar 2)) (tOp FW.rDiv (tVar 0) (tCall (sp_power K) [] E0 (tCons (tVar 2) (tCons (tOp FW.rSub (tVar 1) (tC (.int 1))) (tNil)))))) (tVar 1)) (gName 3))
def rd_whole_root (K : PySem.W.Frag) : TS := tSeq (tIfS (tOr (tTest (tOp rEq (tVar 0) (tC (.int 0)))) (tTest (tOp rEq (tVar 1) (tC (.int 1))))) (tRet (tVar 0)) (tNext)) (tSeq (tAsg (tOp FW.rShl (tC (.int 1)) (tOp FW.rDiv (tOp FW.rSub (tOp FW.rAdd (tCall (sp_bits K) [] E0 (tCons (tVar 0) (tNil))) (tVar 1)) (tC (.int 1))) (tVar 1))) (gName 2)) (tSeq (tAsg (tOp FW.rDiv (tOp FW.rAdd (tOp FW.rMul (tOp FW.rSub (tVar 1) (tC (.int 1))) (tVar 2)) (tOp FW.rDiv (tVar 0) (tCall (sp_power K) [] E0 (tCons (tVar 2) (tCons (tOp FW.rSub (tVar 1) (tC (.int 1))) (tNil)))))) (tVar 1)) (gName 3)) (tSeq (tWhile (tTest (tOp FW.rLt (tVar 3) (tVar 2))) (rd_whole_root_L1 K)) (tRet (tVar 2)))))
theorem ceil_pow {n : Int} {b k : Nat} (hk : 1 ≤ k) (h : n < 2 ^ b) : n < (2 ^ ((b + k - 1) / k)) ^ k := by
  rw [← Int.pow_mul]
  refine Int.lt_of_lt_of_le h (pow_le_right (by decide) ?_)
  have h1 := Nat.div_add_mod (b + k - 1) k
  have h2 := Nat.mod_lt (b + k - 1) hk
  rw [Nat.mul_comm]
  omega
theorem pure_whole_root (K : PySem.W.Frag) (vs : List V) (H : Hp) (Q : VK) (E : XK) (h : sp_whole_root K vs H Q E) : rd_whole_root K { nx := fun _ H' => Q .non H', rt := Q } (start ["n", "k", "guess", "below"] vs) H := by
  obtain ⟨n, k, rfl, hn, hk1, hk64, hs, q⟩ := h
  have hd1 : decide (V.int n = V.int 0) = decide (n = 0) := decide_eq_decide.mpr ⟨fun z => by injection z, fun z => by rw [z]⟩
  have hd2 : decide (V.int k = V.int 1) = decide (k = 1) := decide_eq_decide.mpr ⟨fun z => by injection z, fun z => by rw [z]⟩
  unfold rd_whole_root
  walk_at "rd"
  rw [hd1]
  refine e_ite (fun h0 => ?_) (fun h0 => ?_)
  · walk_at "rd"
    subst h0
    refine q 0 H (by decide) ?_ ?_ Ext.rfl'
    · rw [Int.zero_pow (by omega)]; decide
    · show (0 : Int) < (0 + 1) ^ k.toNat
      rw [show (0 : Int) + 1 = 1 by decide, Int.one_pow]; decide
  walk_at "rd"
  rw [hd2]
  refine e_ite (fun h1 => ?_) (fun h1 => ?_)
  · walk_at "rd"
    subst h1
    refine q n H hn ?_ ?_ Ext.rfl'
    · show n ^ 1 ≤ n
      rw [Int.pow_succ, Int.pow_zero, Int.one_mul]; exact Int.le_refl _
    · show n < (n + 1) ^ 1
      rw [Int.pow_succ, Int.pow_zero, Int.one_mul]; omega
  obtain ⟨j, rfl⟩ : ∃ j : Nat, k = (j : Int) + 1 := ⟨(k - 1).toNat, by omega⟩
  have hj1 : 1 ≤ j := by omega
  have hj64 : j ≤ 63 := by omega
  have hkn : ((j : Int) + 1).toNat = j + 1 := by omega
  rw [hkn] at q
  have e1 : ((j : Int) + 1 - 1) = (j : Int) := by omega
  obtain ⟨r, r0, rle, rlt⟩ := root_exists n hn j
  walk_at "rd"
  refine ⟨n, rfl, hn, hs, fun b H1 hb hb2 eb => ?_⟩
  · have hbn : b ≤ 2000 := by
      rcases hb2 with rfl | hb2
      · decide
      · have hnb : n < 2 ^ 2000 := by
          have : n.natAbs < 2 ^ 2000 := hs
          have e : ((2 ^ 2000 : Nat) : Int) = 2 ^ 2000 := by rw [Int.natCast_pow]; rfl
          omega
        have := two_le_inv (a := b - 1) (b := 2000) (by omega)
        omega
    have ec : (((b : Int) + ((j : Int) + 1) - 1) / ((j : Int) + 1)) = (((b + (j + 1) - 1) / (j + 1) : Nat) : Int) := by
      rw [Int.natCast_ediv]; congr 1
      all_goals omega
    have hcp := ceil_pow (k := j + 1) (by omega) hb
    have hck : (b + (j + 1) - 1) / (j + 1) * (j + 1) ≤ b + j := by
      have := Nat.div_mul_le_self (b + (j + 1) - 1) (j + 1)
      omega
    have hc1 : (b + (j + 1) - 1) / (j + 1) ≤ 2100 := by
      have : (b + (j + 1) - 1) / (j + 1) * 1 ≤ (b + (j + 1) - 1) / (j + 1) * (j + 1) := Nat.mul_le_mul_left _ (by omega)
      omega
    have hc2 : (b + (j + 1) - 1) / (j + 1) * j ≤ 2100 := by
      have : (b + (j + 1) - 1) / (j + 1) * j ≤ (b + (j + 1) - 1) / (j + 1) * (j + 1) := Nat.mul_le_mul_left _ (by omega)
      omega
    generalize (b + (j + 1) - 1) / (j + 1) = c at *
    have hGp : (1 : Int) ≤ 2 ^ c := two_pow_pos _
    have two_sz : ∀ x : Nat, x ≤ 2100 → Sz 2101 ((2 : Int) ^ x) := fun x hx => by
      show ((2 : Int) ^ x).natAbs < 2 ^ 2101
      rw [Int.natAbs_pow]
      exact Nat.pow_lt_pow_right (by decide) (by omega)
    have hGs := two_sz c hc1
    have hGj : Sz 2101 (((2 : Int) ^ c) ^ j) := by rw [← Int.pow_mul]; exact two_sz _ hc2
    obtain ⟨G, eG⟩ : ∃ G : Int, G = 2 ^ c := ⟨_, rfl⟩
    rw [← eG] at hGp hGs hGj hcp
    have hrG : r ≤ G := by
      have := pow_lt_inv (x := r) (y := G) (n := j + 1) (by omega) (by omega) r0
      omega
    have hr1 : 1 ≤ r := by
      rcases Int.lt_or_le r 1 with z | z
      · have : r = 0 := by omega
        subst this
        rw [show (0 : Int) + 1 = 1 by decide, Int.one_pow] at rlt
        omega
      · exact z
    have room : ((j : Int).toNat + 1) * 2101 ≤ 900000 := by
      have : (j : Int).toNat + 1 ≤ 64 := by omega
      have := Nat.mul_le_mul_right 2101 this
      omega
    have gpow : ∀ g : Int, 1 ≤ g → g ≤ G → 1 ≤ g ^ j ∧ Sz 2101 (g ^ j) := fun g g1 g2 => ⟨pow_pos' g1 j, Sz.of_le (by have := pow_pos' g1 j; omega) (pow_mono (by omega) g2 j) hGj⟩
    have gsz : ∀ g : Int, 1 ≤ g → g ≤ G → Sz 2101 g := fun g g1 g2 => Sz.of_le (by omega) g2 hGs
    have stepOk : ∀ (g : Int) (σ : L2.St) (H' : Hp) (R : VK), 1 ≤ g → g ≤ G → σ[0]? = some (some (.int n)) → σ[1]? = some (some (.int ((j : Int) + 1))) → σ[2]? = some (some (.int g)) → R (.int (((j : Int) * g + n / g ^ j) / ((j : Int) + 1))) H' →
        (tOp FW.rDiv (tOp FW.rAdd (tOp FW.rMul (tOp FW.rSub (tVar 1) (tC (.int 1))) (tVar 2)) (tOp FW.rDiv (tVar 0) (tCall (sp_power K) [] E0 (tCons (tVar 2) (tCons (tOp FW.rSub (tVar 1) (tC (.int 1))) (tNil)))))) (tVar 1)) σ H' R := by
      intro g σ H' R g1 g2 s0 s1 s2 hR
      obtain ⟨pg1, pg2⟩ := gpow g g1 g2
      refine e_op (e_op (e_op (e_op (e_var (e_c (e_I0 ?_)) s1))))
      refine e_var (e_I ?_ ?_) s2
      · refine e_op (e_var (e_call (e_cons (e_var (e_cons (e_op (e_var (e_c (e_I0 (e_nil ?_))) s1))) s2))) s0)
        rw [e1]
        refine ⟨g, (j : Int), 2101, rfl, by omega, gsz g g1 g2, by decide, room, ?_⟩
        rw [Int.toNat_natCast]
        refine e_I (e_I0 (e_var (e_I hR ?_) s1)) ?_
        · exact wide_div (b := 10) (by omega) (by show ((j : Int) + 1).natAbs < 1024; omega) (by decide) (by decide)
        · exact wide_div (b := 2101) (by omega) pg2 (by decide) (by decide)
      · rw [e1]
        exact wide_mul (a := 10) (b := 2101) (by show (j : Int).natAbs < 1024; omega) (gsz g g1 g2) (by decide) (by decide) (by decide)
    walk_at "re"
    · rw [ec, Int.toNat_natCast, Int.one_mul, ← eG]
      with_reducible refine s_seq ?_
      with_reducible refine s_asg ?_
      refine stepOk G _ _ _ hGp (Int.le_refl _) rfl rfl rfl ?_
      with_reducible refine s_seq ?_
      refine s_while (fun m σ H' => H' = H1 ∧ ∃ g : Int, r ≤ g ∧ g ≤ G ∧ m = g.toNat ∧ σ = [some (.int n), some (.int ((j : Int) + 1)), some (.int g), some (.int (((j : Int) * g + n / g ^ j) / ((j : Int) + 1)))]) _ ⟨rfl, G, hrG, Int.le_refl _, rfl, rfl⟩ ?_
      rintro m σ H' ⟨rfl, g, g1, g2, rfl, rfl⟩
      have hnew := newton_ge (n := n) (g := g) (r := r) (k := j) (by omega) r0 rle
      walk_at "rd"
      refine e_ite (fun hgo => ?_) (fun hno => ?_)
      · refine ⟨fun σ' H'' => H'' = H' ∧ ∃ g' : Int, r ≤ g' ∧ g' ≤ G ∧ g' < g ∧ σ' = [some (.int n), some (.int ((j : Int) + 1)), some (.int g'), some (.int (((j : Int) * g' + n / g' ^ j) / ((j : Int) + 1)))], fun σ' H'' h => ?_, ?_⟩
        · obtain ⟨h1, g', a1, a2, a3, a4⟩ := h
          exact ⟨g'.toNat, by omega, h1, g', a1, a2, rfl, a4⟩
        unfold rd_whole_root_L1
        with_reducible refine s_seq ?_
        with_reducible refine s_asg ?_
        refine e_var ?_ rfl
        with_reducible refine s_asg ?_
        refine stepOk _ _ _ _ (Int.le_trans hr1 hnew) (by omega) rfl rfl rfl ?_
        exact ⟨rfl, _, hnew, by omega, hgo, rfl⟩
      · have hst := newton_stop (n := n) (g := g) (k := j) (by omega) (by omega)
        have : g < r + 1 := pow_lt_inv (n := j + 1) (by omega) (by omega) (by omega)
        have e : g = r := by omega
        subst e
        walk_at "rd"
        exact q g _ r0 rle rlt eb
    · exact ⟨by omega, by omega, by decide⟩
    · exact ⟨by omega, by
        have : ((j : Int) + 1).natAbs.log2 ≤ ((j : Int) + 1).natAbs := Nat.log2_le_self _
        omega⟩
end FWL
namespace FWL
open PySem PySem.Spec PyProof.Rows L2 FW
/-! ### things that are sought -/
structure So where
  kind : Str
  by_ : Int
  n : Int
structure So.Ok (s : So) : Prop where
  hk : s.kind = "root" ∨ s.kind = "share" ∨ s.kind = "log"
  b1 : 1 ≤ s.by_
  b64 : s.by_ ≤ 64
  bl : s.kind = "log" → 2 ≤ s.by_
  n0 : 0 ≤ s.n
  nl : s.kind = "log" → 1 ≤ s.n
  ns : Sz 700 s.n
def So.V (s : So) : List V := [.str s.kind, .int s.by_, .int s.n]
def So.F (s : So) : List (Str × L2.V) := [("kind", .str s.kind), ("by", .int s.by_), ("n", .int s.n)]
def So.me (s : So) (x : Int) : Int := if s.kind = "root" then x ^ s.by_.toNat else if s.kind = "share" then s.by_ * x else s.by_ ^ x.toNat
def So.side (s : So) (x : Int) : Int := sgn (s.me x - s.n)
/-- x is the answer -/
def So.Ans (s : So) (x : Int) : Prop := 0 ≤ x ∧ s.me x ≤ s.n ∧ s.n < s.me (x + 1)
theorem So.me_root {s : So} (h : s.kind = "root") (x : Int) : s.me x = x ^ s.by_.toNat := by unfold So.me; rw [if_pos h]
theorem So.me_share {s : So} (h : s.kind = "share") (x : Int) : s.me x = s.by_ * x := by unfold So.me; rw [if_neg (by rw [h]; decide), if_pos h]
theorem So.me_log {s : So} (h : s.kind = "log") (x : Int) : s.me x = s.by_ ^ x.toNat := by unfold So.me; rw [if_neg (by rw [h]; decide), if_neg (by rw [h]; decide)]
theorem So.mono {s : So} (o : s.Ok) {x y : Int} (h0 : 0 ≤ x) (h : x ≤ y) : s.me x ≤ s.me y := by
  have b1 := o.b1
  rcases o.hk with k | k | k
  · rw [So.me_root k, So.me_root k]; exact pow_mono h0 h _
  · rw [So.me_share k, So.me_share k]; exact Int.mul_le_mul_of_nonneg_left h (by omega)
  · rw [So.me_log k, So.me_log k]; exact pow_le_right b1 (by omega)
theorem So.Ans.unique {s : So} (o : s.Ok) {x y : Int} (hx : s.Ans x) (hy : s.Ans y) : x = y := by
  obtain ⟨x0, x1, x2⟩ := hx
  obtain ⟨y0, y1, y2⟩ := hy
  rcases Int.lt_trichotomy x y with h | h | h
  · have := So.mono o (x := x + 1) (y := y) (by omega) (by omega); omega
  · exact h
  · have := So.mono o (x := y + 1) (y := x) (by omega) (by omega); omega
structure SoK (K : PySem.W.Frag) : Prop where
  cls : Cls K (He.ga K "Sought")
  n_kind : NoAttr K (He.ga K "Sought") "kind"
  n_by : NoAttr K (He.ga K "Sought") "by"
  n_n : NoAttr K (He.ga K "Sought") "n"
  kinds : ∀ H, SqT K H (He.ga K "KINDS") [.str "root", .str "share", .str "log"]
def IsSo (K : PySem.W.Frag) (H : Hp) (x : Addr) (s : So) : Prop := ∃ dx, H x = some (.ins (He.ga K "Sought") dx s.F)
theorem IsSo.ext {K : PySem.W.Frag} {H H' : Hp} {x : Addr} {s : So} (e : Ext H H') : IsSo K H x s → IsSo K H' x s
  | ⟨dx, h⟩ => ⟨dx, e _ _ h⟩
theorem e_fS {K : PySem.W.Frag} {H : Hp} {x : Addr} {s : So} {f : Str} {R : L2.V → Prop} {v : L2.V} (k : R v) (A : SoK K) (h : IsSo K H x s) (n : NoAttr K (He.ga K "Sought") f) (hl : s.F.lookup f = some v) :
    ∃ a C dx fs v, L2.V.ref x = .ref a ∧ H a = some (.ins C dx fs) ∧ Cls K C ∧ NoAttr K C f ∧ fs.lookup f = some v ∧ R v := by
  obtain ⟨dx, h⟩ := h
  exact ⟨x, _, dx, _, v, rfl, h, A.cls, n, hl, k⟩
def sp_check_sought (K : PySem.W.Frag) : Sp := fun vs H Q _ => ∃ s : So, vs = s.V ∧ s.Ok ∧ Q .non H
def rd_check_sought (K : PySem.W.Frag) : TS := tSeq (tIfS (tOr (tNot (tB (tCB (rIsi K) (tCons (tVar 0) (tCons (tC (.ty "str")) (tNil)))))) (tTest (tOp (rIn K true) (tVar 0) (tC (.ref (He.ga K "KINDS")))))) (tNever) (tNext)) (tSeq (tAsg (tIf (tTest (tOp rEq (tVar 0) (tC (.str "log")))) (tC (.int 2)) (tC (.int 1))) (gName 3)) (tSeq (tIfS (tOr (tNot (tB (tCall (sp_is_whole K) [] E0 (tCons (tVar 1) (tNil))))) (tNot (tTest (tChain FW.rLe FW.rLe (tVar 3) (tVar 1) (tC (.int 64)))))) (tNever) (tNext)) (tIfS (tNot (tB (tCall (sp_is_whole_from K) [] E0 (tCons (tVar 2) (tCons (tOp FW.rSub (tVar 3) (tC (.int 1))) (tNil)))))) (tNever) (tNext))))
theorem inKinds {k : Str} (h : k = "root" ∨ k = "share" ∨ k = "log") : inV (.str k) [.str "root", .str "share", .str "log"] = true := by
  rcases h with rfl | rfl | rfl <;> decide +kernel
theorem pure_check_sought (K : PySem.W.Frag) (A : SoK K) (vs : List V) (H : Hp) (Q : VK) (E : XK) (h : sp_check_sought K vs H Q E) : rd_check_sought K { nx := fun _ H' => Q .non H', rt := Q } (start ["kind", "by", "n", "least"] vs) H := by
  obtain ⟨⟨kind, b, n⟩, rfl, ⟨hk, b1, b64, bl, n0, nl, ns⟩, q⟩ := h
  dsimp only at hk b1 b64 bl n0 nl ns
  unfold rd_check_sought So.V
  walk_at "rd"
  refine e_isi ?_ (WT.s kind) (kitS (by decide))
  rw [decide_eq_true rfl]
  walk_at "rd"
  refine e_in ?_ (.inr (A.kinds H)) rfl rfl
  rw [if_pos rfl, inKinds hk]
  walk_at "rd"
  have fin : ∀ least : Int, (least = 1 ∨ least = 2) → least ≤ b → least - 1 ≤ n → (tSeq (tIfS (tOr (tNot (tB (tCall (sp_is_whole K) [] E0 (tCons (tVar 1) (tNil))))) (tNot (tTest (tChain FW.rLe FW.rLe (tVar 3) (tVar 1) (tC (.int 64)))))) (tNever) (tNext)) (tIfS (tNot (tB (tCall (sp_is_whole_from K) [] E0 (tCons (tVar 2) (tCons (tOp FW.rSub (tVar 3) (tC (.int 1))) (tNil)))))) (tNever) (tNext))) { nx := fun _ H' => Q .non H', rt := Q } [some (.str kind), some (.int b), some (.int n), some (.int least)] H := by
    intro least hl h1 h2
    walk_at "rd"
    refine ⟨_, _, rfl, WT.i b, ?_⟩
    walk_at "rd"
    rw [show isInt (.int b) = true from rfl]
    walk_at "rd"
    rw [decide_eq_true h1]
    walk_at "rd"
    rw [decide_eq_true b64]
    walk_at "rd"
    refine ⟨_, _, _, rfl, WT.i n, ?_⟩
    rw [fromI_int h2]
    walk_at "rd"
    exact q
  rcases hk with rfl | rfl | rfl
  · refine e_ite (fun h => absurd (show V.str "root" = V.str "log" from h) (by decide)) (fun _ => ?_)
    walk_at "re"
    exact fin 1 (.inl rfl) b1 (by omega)
  · refine e_ite (fun h => absurd (show V.str "share" = V.str "log" from h) (by decide)) (fun _ => ?_)
    walk_at "re"
    exact fin 1 (.inl rfl) b1 (by omega)
  · refine e_ite (fun _ => ?_) (fun h => absurd rfl h)
    walk_at "re"
    have := bl rfl; have := nl rfl
    exact fin 2 (.inr rfl) (by omega) (by omega)
def sp_Sought_init (K : PySem.W.Frag) : Sp := fun vs H Q _ => ∃ (x dx : Addr) (s : So), vs = .ref x :: s.V ∧ s.Ok ∧ H x = some (.ins (He.ga K "Sought") dx []) ∧
  ∀ H', ExtB x H H' → H' x = some (.ins (He.ga K "Sought") dx s.F) → Q .non H'
def rd_Sought_init (K : PySem.W.Frag) : TS := tSeq (tDrop (tCall (sp_check_sought K) [] E0 (tCons (tVar 1) (tCons (tVar 2) (tCons (tVar 3) (tNil)))))) (tSeq (sFld K (tVar 0) (tVar 1) "kind") (tSeq (sFld K (tVar 0) (tVar 2) "by") (sFld K (tVar 0) (tVar 3) "n")))
theorem pure_Sought_init (K : PySem.W.Frag) (A : SoK K) (vs : List V) (H : Hp) (Q : VK) (E : XK) (h : sp_Sought_init K vs H Q E) : rd_Sought_init K { nx := fun _ H' => Q .non H', rt := Q } (start ["self", "kind", "by", "n"] vs) H := by
  obtain ⟨x, dx, s, rfl, o, hx, q⟩ := h
  unfold rd_Sought_init
  walk_at "rd"
  refine ⟨s, rfl, o, ?_⟩
  walk_at "rd"
  refine e_sF ?_ hx A.cls A.n_kind (by decide)
  walk_at "rd"
  refine e_sF ?_ upd_same A.cls A.n_by (by show 1 < 1000; decide)
  walk_at "rd"
  refine e_sF ?_ upd_same A.cls A.n_n (by show 2 < 1000; decide)
  refine q _ ?_ upd_same
  intro a o' ne h
  rw [upd_ne ne, upd_ne ne, upd_ne ne]
  exact h
def So.In (s : So) (x : Int) : Prop := 0 ≤ x ∧ Sz 710 x ∧ (s.kind = "log" → x ≤ 10000)
def sp_Sought_measure (K : PySem.W.Frag) : Sp := fun vs H Q _ => ∃ (p : Addr) (s : So) (x : Int), vs = [.ref p, .int x] ∧ IsSo K H p s ∧ s.Ok ∧ s.In x ∧ Q (.int (s.me x)) H
def rd_Sought_measure (K : PySem.W.Frag) : TS := tSeq (tIfS (tTest (tOp rEq (tFld K (tVar 0) "kind") (tC (.str "root")))) (tRet (tCall (sp_power K) [] E0 (tCons (tVar 1) (tCons (tFld K (tVar 0) "by") (tNil))))) (tNext)) (tSeq (tIfS (tTest (tOp rEq (tFld K (tVar 0) "kind") (tC (.str "share")))) (tRet (tOp FW.rMul (tFld K (tVar 0) "by") (tVar 1))) (tNext)) (tRet (tCall (sp_power K) [] E0 (tCons (tFld K (tVar 0) "by") (tCons (tVar 1) (tNil))))))
theorem pow_roomS {k : Int} {b : Nat} (hk : k ≤ 64) (hb : b ≤ 1000) : (k.toNat + 1) * b ≤ 900000 := by
  have : k.toNat + 1 ≤ 65 := by omega
  have := Nat.mul_le_mul this hb
  omega
theorem pure_Sought_measure (K : PySem.W.Frag) (A : SoK K) (vs : List V) (H : Hp) (Q : VK) (E : XK) (h : sp_Sought_measure K vs H Q E) : rd_Sought_measure K { nx := fun _ H' => Q .non H', rt := Q } (start ["self", "x"] vs) H := by
  obtain ⟨p, s, x, rfl, hp, o, ⟨x0, xs, xl⟩, q⟩ := h
  have b1 := o.b1; have b64 := o.b64
  have bs : Sz 10 s.by_ := by show s.by_.natAbs < 1024; omega
  unfold rd_Sought_measure
  walk_at "rd"
  refine e_fS ?_ A hp A.n_kind rfl
  walk_at "rd"
  rcases o.hk with k | k | k
  · rw [So.me_root k] at q
    rw [k]
    refine e_ite (fun _ => ?_) (fun h => absurd rfl h)
    walk_at "rd"
    refine e_fS ?_ A hp A.n_by rfl
    walk_at "rd"
    exact ⟨x, s.by_, 710, rfl, by omega, xs, by decide, pow_roomS b64 (by decide), q⟩
  · rw [So.me_share k] at q
    rw [k]
    refine e_ite (fun h => absurd h (by decide)) (fun _ => ?_)
    walk_at "rd"
    refine e_fS ?_ A hp A.n_kind rfl
    walk_at "rd"
    rw [k]
    refine e_ite (fun _ => ?_) (fun h => absurd rfl h)
    walk_at "rd"
    refine e_fS ?_ A hp A.n_by rfl
    walk_at "rd"
    · exact q
    · exact wide_mul bs xs (by decide) (by decide) (by decide)
  · rw [So.me_log k] at q
    have xl' := xl k
    rw [k]
    refine e_ite (fun h => absurd h (by decide)) (fun _ => ?_)
    walk_at "rd"
    refine e_fS ?_ A hp A.n_kind rfl
    walk_at "rd"
    rw [k]
    refine e_ite (fun h => absurd h (by decide)) (fun _ => ?_)
    walk_at "rd"
    refine e_fS ?_ A hp A.n_by rfl
    walk_at "rd"
    refine ⟨s.by_, x, 10, rfl, by omega, bs, by decide, by omega, q⟩
def sp_Sought_compare (K : PySem.W.Frag) : Sp := fun vs H Q _ => ∃ (p : Addr) (s : So) (x : Int), vs = [.ref p, .int x] ∧ IsSo K H p s ∧ s.Ok ∧ s.In x ∧ Q (.int (s.side x)) H
def rd_Sought_compare (K : PySem.W.Frag) : TS := tRet (tCall (sp_sign K) [] E0 (tCons (tOp FW.rSub (tMeth (He.ga K "Sought") "measure" (sp_Sought_measure K) [] E0 (tVar 0) (tCons (tVar 1) (tNil))) (tFld K (tVar 0) "n")) (tNil)))
theorem pure_Sought_compare (K : PySem.W.Frag) (A : SoK K) (vs : List V) (H : Hp) (Q : VK) (E : XK) (h : sp_Sought_compare K vs H Q E) : rd_Sought_compare K { nx := fun _ H' => Q .non H', rt := Q } (start ["self", "x"] vs) H := by
  obtain ⟨p, s, x, rfl, hp, o, hi, q⟩ := h
  obtain ⟨dx, hp'⟩ := id hp
  unfold rd_Sought_compare
  walk_at "rd"
  refine ⟨p, dx, _, rfl, hp', rfl, ?_⟩
  walk_at "rd"
  refine ⟨p, s, x, rfl, hp, o, hi, ?_⟩
  walk_at "rd"
  refine e_fS ?_ A hp A.n_n rfl
  walk_at "rd"
  exact ⟨_, rfl, q⟩
def sp_Sought_answer (K : PySem.W.Frag) : Sp := fun vs H Q _ => ∃ (p : Addr) (s : So), vs = [.ref p] ∧ IsSo K H p s ∧ s.Ok ∧ ∀ (x : Int) H', s.Ans x → Ext H H' → Q (.int x) H'
def rd_Sought_answer_L1 (K : PySem.W.Frag) : TS := tSeq (tAug 2 (tFld K (tVar 0) "by") FW.iMul) (tAug 1 (tC (.int 1)) FW.iAdd)
def rd_Sought_answer (K : PySem.W.Frag) : TS := tSeq (tIfS (tTest (tOp rEq (tFld K (tVar 0) "kind") (tC (.str "root")))) (tRet (tCall (sp_whole_root K) [] E0 (tCons (tFld K (tVar 0) "n") (tCons (tFld K (tVar 0) "by") (tNil))))) (tNext)) (tSeq (tIfS (tTest (tOp rEq (tFld K (tVar 0) "kind") (tC (.str "share")))) (tRet (tOp FW.rDiv (tFld K (tVar 0) "n") (tFld K (tVar 0) "by"))) (tNext)) (tSeq (tAsg (tC (.int 0)) (gName 1)) (tSeq (tAsg (tFld K (tVar 0) "by") (gName 2)) (tSeq (tWhile (tTest (tOp FW.rLe (tVar 2) (tFld K (tVar 0) "n"))) (rd_Sought_answer_L1 K)) (tRet (tVar 1))))))
theorem pure_Sought_answer (K : PySem.W.Frag) (A : SoK K) (vs : List V) (H : Hp) (Q : VK) (E : XK) (h : sp_Sought_answer K vs H Q E) : rd_Sought_answer K { nx := fun _ H' => Q .non H', rt := Q } (start ["self", "found", "above"] vs) H := by
  obtain ⟨p, s, rfl, hp, o, q⟩ := h
  have b1 := o.b1; have b64 := o.b64; have n0 := o.n0; have ns := o.ns
  have bs : Sz 10 s.by_ := by show s.by_.natAbs < 1024; omega
  unfold rd_Sought_answer
  walk_at "rd"
  refine e_fS ?_ A hp A.n_kind rfl
  walk_at "rd"
  rcases o.hk with k | k | k
  · rw [k]
    refine e_ite (fun _ => ?_) (fun h => absurd rfl h)
    walk_at "rd"
    refine e_fS ?_ A hp A.n_n rfl
    walk_at "rd"
    refine e_fS ?_ A hp A.n_by rfl
    walk_at "rd"
    refine ⟨s.n, s.by_, rfl, n0, b1, b64, ns.mono (by decide), fun r H' r0 r1 r2 e => q r H' ⟨r0, ?_, ?_⟩ e⟩
    · rw [So.me_root k]; exact r1
    · rw [So.me_root k]; exact r2
  · rw [k]
    refine e_ite (fun h => absurd h (by decide)) (fun _ => ?_)
    walk_at "rd"
    refine e_fS ?_ A hp A.n_kind rfl
    walk_at "rd"
    rw [k]
    refine e_ite (fun _ => ?_) (fun h => absurd rfl h)
    walk_at "rd"
    refine e_fS ?_ A hp A.n_n rfl
    walk_at "rd"
    refine e_fS ?_ A hp A.n_by rfl
    walk_at "rd"
    · have h1 := Int.mul_ediv_self_le (x := s.n) (k := s.by_) (by omega)
      have h2 := Int.lt_mul_ediv_self_add (x := s.n) (k := s.by_) (by omega)
      refine q _ H ⟨Int.ediv_nonneg n0 (by omega), ?_, ?_⟩ Ext.rfl'
      · rw [So.me_share k]; exact h1
      · rw [So.me_share k, Int.mul_add, Int.mul_one]; exact h2
    · exact wide_div (b := 10) (by omega) bs (by decide) (by decide)
  · have b2 := o.bl k; have n1 := o.nl k
    rw [k]
    refine e_ite (fun h => absurd h (by decide)) (fun _ => ?_)
    walk_at "rd"
    refine e_fS ?_ A hp A.n_kind rfl
    walk_at "rd"
    rw [k]
    refine e_ite (fun h => absurd h (by decide)) (fun _ => ?_)
    walk_at "rd"
    refine e_fS ?_ A hp A.n_by rfl
    walk_at "rd"
    have small : ∀ j : Nat, s.by_ ^ j ≤ s.n → j < 700 := by
      intro j hj
      have hnb : s.n < 2 ^ 700 := by
        have : s.n.natAbs < 2 ^ 700 := ns
        have e : ((2 ^ 700 : Nat) : Int) = 2 ^ 700 := by rw [Int.natCast_pow]; rfl
        omega
      have h2 : (2 : Int) ^ j ≤ s.by_ ^ j := pow_mono (by decide) b2 j
      exact two_le_inv (by omega)
    refine s_while (fun m σ H' => H' = H ∧ ∃ f : Nat, s.by_ ^ f ≤ s.n ∧ m = 700 - f ∧ σ = [some (.ref p), some (.int (f : Int)), some (.int (s.by_ ^ (f + 1)))]) _ ⟨rfl, 0, by rw [Int.pow_zero]; exact n1, rfl, by rw [Int.pow_succ, Int.pow_zero, Int.one_mul]; rfl⟩ ?_
    rintro m σ H' ⟨rfl, f, hf, rfl, rfl⟩
    have hf7 := small f hf
    walk_at "rd"
    refine e_fS ?_ A hp A.n_n rfl
    walk_at "rd"
    refine e_ite (fun hgo => ?_) (fun hno => ?_)
    · have hf8 := small (f + 1) hgo
      refine ⟨fun σ' H'' => H'' = H' ∧ σ' = [some (.ref p), some (.int ((f + 1 : Nat) : Int)), some (.int (s.by_ ^ (f + 1 + 1)))], fun σ' H'' h => ⟨700 - (f + 1), by omega, h.1, f + 1, hgo, rfl, h.2⟩, ?_⟩
      unfold rd_Sought_answer_L1
      walk_at "rd"
      refine e_fS ?_ A hp A.n_by rfl
      walk_at "rd"
      · refine ⟨rfl, ?_⟩
        rw [← Int.pow_succ, show ((f : Int) + 1) = ((f + 1 : Nat) : Int) by omega]; rfl
      · refine wide_mul (a := 10000) (b := 10) ((Sz.pow bs (by decide) (f + 1)).mono (by omega)) bs (by decide) (by decide) (by decide)
    · walk_at "rd"
      refine q f H' ⟨by omega, ?_, ?_⟩ Ext.rfl'
      · rw [So.me_log k, Int.toNat_natCast]; exact hf
      · rw [So.me_log k, show ((f : Int) + 1).toNat = f + 1 by omega]; omega
theorem So.Ans.le {s : So} (o : s.Ok) {x : Int} (h : s.Ans x) : x ≤ s.n := by
  obtain ⟨x0, x1, x2⟩ := h
  have b1 := o.b1
  rcases Int.lt_or_le x 1 with hx | hx
  · have := o.n0; omega
  refine Int.le_trans ?_ x1
  rcases o.hk with k | k | k
  · rw [So.me_root k]; exact pow_ge_self hx _ (by omega)
  · rw [So.me_share k]
    have : 1 * x ≤ s.by_ * x := Int.mul_le_mul_of_nonneg_right b1 (by omega)
    omega
  · rw [So.me_log k]
    have b2 := o.bl k
    have h2 : (2 : Int) ^ x.toNat ≤ s.by_ ^ x.toNat := pow_mono (by decide) b2 _
    have h3 : ((x.toNat : Nat) : Int) < 2 ^ x.toNat := by
      have := Nat.lt_two_pow_self (n := x.toNat)
      have e : ((2 ^ x.toNat : Nat) : Int) = 2 ^ x.toNat := by rw [Int.natCast_pow]; rfl
      omega
    omega
theorem So.Ans.log {s : So} (o : s.Ok) {x : Int} (h : s.Ans x) (k : s.kind = "log") : x < 700 := by
  obtain ⟨x0, x1, x2⟩ := h
  rw [So.me_log k] at x1
  have hnb : s.n < 2 ^ 700 := by
    have : s.n.natAbs < 2 ^ 700 := o.ns
    have e : ((2 ^ 700 : Nat) : Int) = 2 ^ 700 := by rw [Int.natCast_pow]; rfl
    omega
  have h2 : (2 : Int) ^ x.toNat ≤ s.by_ ^ x.toNat := pow_mono (by decide) (o.bl k) _
  have := two_le_inv (a := x.toNat) (b := 700) (by omega)
  omega
theorem So.Ans.in {s : So} (o : s.Ok) {x : Int} (h : s.Ans x) : s.In x := ⟨h.1, (Sz.of_le h.1 (h.le o) o.ns).mono (by decide), fun k => by have := h.log o k; omega⟩
def sp_Sought_is_hit (K : PySem.W.Frag) : Sp := fun vs H Q _ => ∃ (p : Addr) (s : So), vs = [.ref p] ∧ IsSo K H p s ∧ s.Ok ∧ ∀ (x : Int) H', s.Ans x → Ext H H' → Q (.bl (decide (s.side x = 0))) H'
def rd_Sought_is_hit (K : PySem.W.Frag) : TS := tRet (tOp rEq (tMeth (He.ga K "Sought") "compare" (sp_Sought_compare K) [] E0 (tVar 0) (tCons (tMeth (He.ga K "Sought") "answer" (sp_Sought_answer K) [] E0 (tVar 0) tNil) (tNil))) (tC (.int 0)))
theorem dec_int (i j : Int) : decide (V.int i = V.int j) = decide (i = j) := decide_eq_decide.mpr ⟨fun z => by injection z, fun z => by rw [z]⟩
theorem pure_Sought_is_hit (K : PySem.W.Frag) (vs : List V) (H : Hp) (Q : VK) (E : XK) (h : sp_Sought_is_hit K vs H Q E) : rd_Sought_is_hit K { nx := fun _ H' => Q .non H', rt := Q } (start ["self"] vs) H := by
  obtain ⟨p, s, rfl, hp, o, q⟩ := h
  obtain ⟨dx, hp'⟩ := id hp
  unfold rd_Sought_is_hit
  walk_at "rd"
  refine ⟨p, dx, _, rfl, hp', rfl, ?_⟩
  walk_at "rd"
  refine ⟨p, dx, _, rfl, hp', rfl, ?_⟩
  walk_at "rd"
  refine ⟨p, s, rfl, hp, o, fun x H' hx e => ?_⟩
  walk_at "rd"
  refine ⟨p, s, x, rfl, hp.ext e, o, hx.in o, ?_⟩
  walk_at "rd"
  rw [dec_int]
  exact q x H' hx e
end FWL
namespace FWL
open PySem PySem.Spec PyProof.Rows L2 FW
/-! ### beginnings: the plain law -/
def bl (n : Nat) : Nat := if n = 0 then 0 else n.log2 + 1
theorem bl_le {n m : Nat} : bl n ≤ m ↔ n < 2 ^ m := by
  unfold bl
  by_cases h : n = 0
  · rw [if_pos h, h]; exact ⟨fun _ => Nat.two_pow_pos m, fun _ => Nat.zero_le _⟩
  · rw [if_neg h]; exact (Nat.log2_lt h)
theorem bl_eq {n : Int} {b : Nat} (n0 : 0 ≤ n) (h1 : n < 2 ^ b) (h2 : b = 0 ∨ 2 ^ (b - 1) ≤ n) : b = bl n.toNat := by
  have c : ∀ m : Nat, ((2 ^ m : Nat) : Int) = 2 ^ m := fun m => by rw [Int.natCast_pow]; rfl
  have l : bl n.toNat ≤ b := bl_le.mpr (by have := c b; omega)
  rcases h2 with h | h
  · omega
  · have : ¬ bl n.toNat ≤ b - 1 := fun z => by have := bl_le.mp z; have := c (b - 1); omega
    omega
def lenK (n k : Int) : Nat := (bl n.toNat + k.toNat - 1) / k.toNat
theorem lenK_le {n k : Int} (n0 : 0 ≤ n) (hk : 1 ≤ k) {u : Nat} : lenK n k ≤ u ↔ n < 2 ^ (k.toNat * u) := by
  have c : ((2 ^ (k.toNat * u) : Nat) : Int) = 2 ^ (k.toNat * u) := by rw [Int.natCast_pow]; rfl
  have e : (bl n.toNat ≤ k.toNat * u) ↔ n < 2 ^ (k.toNat * u) := by rw [bl_le]; omega
  rw [← e]; unfold lenK
  have hk' : 0 < k.toNat := by omega
  generalize k.toNat = q at *
  generalize bl n.toNat = b
  rw [← Nat.lt_succ_iff, Nat.div_lt_iff_lt_mul hk', Nat.succ_mul, Nat.mul_comm u q]
  omega
theorem lenK_mono {m n k : Int} (m0 : 0 ≤ m) (h : m ≤ n) (hk : 1 ≤ k) : lenK m k ≤ lenK n k :=
  (lenK_le m0 hk).mpr (Int.lt_of_le_of_lt h ((lenK_le (by omega) hk).mp (Nat.le_refl _)))
inductive Bg where
  | sh (b m : Int)
  | pw (m : Int)
def Bg.Ok : Bg → Prop
  | .sh b m => 1 ≤ b ∧ b ≤ 99 ∧ 0 ≤ m ∧ m ≤ 99
  | .pw m => -9 ≤ m ∧ m ≤ 9
def Bg.ns : Bg → List Int
  | .sh b m => [b, m]
  | .pw m => [m]
def Bg.at : Bg → Int → Int → Int
  | .sh b m, n, _ => n / b + m
  | .pw m, n, k => if (lenK n k : Int) + m < 0 then 1 else 2 ^ ((lenK n k : Int) + m).toNat
theorem Bg.at_sh (b m n k : Int) : (Bg.sh b m).at n k = n / b + m := rfl
theorem Bg.at_pw (m n k : Int) : (Bg.pw m).at n k = if (lenK n k : Int) + m < 0 then 1 else 2 ^ ((lenK n k : Int) + m).toNat := rfl
theorem Bg.at0 {b : Bg} (o : b.Ok) {n k : Int} (n0 : 0 ≤ n) : 0 ≤ b.at n k := by
  cases b with
  | sh b m => have := Int.ediv_nonneg n0 (by have := o.1; omega : 0 ≤ b); have := o.2.2.1; rw [Bg.at_sh]; omega
  | pw m => rw [Bg.at_pw]; split
            · decide
            · have := two_pow_pos ((lenK n k : Int) + m).toNat; omega
theorem Bg.mono {b : Bg} (o : b.Ok) {n n' k : Int} (n0 : 0 ≤ n) (h : n ≤ n') (hk : 1 ≤ k) : b.at n k ≤ b.at n' k := by
  cases b with
  | sh b m => have := Int.ediv_le_ediv (by have := o.1; omega : 0 < b) h; rw [Bg.at_sh, Bg.at_sh]; omega
  | pw m =>
    have l := lenK_mono n0 h hk
    rw [Bg.at_pw, Bg.at_pw]
    by_cases h1 : (lenK n k : Int) + m < 0
    · rw [if_pos h1]; split
      · decide
      · exact two_pow_pos _
    · rw [if_neg h1, if_neg (by omega)]; exact pow_le_right (by decide) (by omega)
def Bg.P (b : Bg) (k r : Int) : Prop := b.at (r ^ k.toNat) k < r
instance (b : Bg) (k r : Int) : Decidable (b.P k r) := inferInstanceAs (Decidable (_ < _))
def Bg.low (b : Bg) (k n : Int) : Prop := b.at n k < 1 ∨ (b.at n k + 1) ^ k.toNat ≤ n
theorem pow_lt' {x y : Int} (h0 : 0 ≤ x) (h : x < y) {n : Nat} (hn : 1 ≤ n) : x ^ n < y ^ n := by
  have := pow_mono (by omega) (show x + 1 ≤ y by omega) n
  obtain ⟨m, rfl⟩ : ∃ m, n = m + 1 := ⟨n - 1, by omega⟩
  have h1 : x ^ (m + 1) < (x + 1) ^ (m + 1) := by
    rw [Int.pow_succ, Int.pow_succ, Int.mul_add, Int.mul_one]
    have a := pow_mono h0 (show x ≤ x + 1 by omega) m
    have b := pow_pos' (show 1 ≤ x + 1 by omega) m
    have := Int.mul_le_mul_of_nonneg_right a h0
    omega
  omega
theorem Bg.low_iff {b : Bg} (o : b.Ok) {k r : Int} (hk : 1 ≤ k) (hr : 1 ≤ r) : b.low k (r ^ k.toNat) ↔ b.P k r := by
  have p0 := pow_pos' hr k.toNat
  have a0 := b.at0 o (n := r ^ k.toNat) (k := k) (by omega)
  unfold Bg.low Bg.P
  generalize b.at (r ^ k.toNat) k = a at *
  refine ⟨fun h => ?_, fun h => .inr (pow_mono (by omega) (by omega) _)⟩
  rcases h with h | h
  · omega
  · rcases Int.lt_or_le a r with h' | h'
    · exact h'
    · have := pow_lt' (show 0 ≤ r by omega) (show r < a + 1 by omega) (n := k.toNat) (by omega)
      omega
theorem Bg.not_low {b : Bg} (o : b.Ok) {k n : Int} (hk : 1 ≤ k) (hn : 1 ≤ n) (h : ∀ r : Int, 1 ≤ r → r ^ k.toNat ≤ n → ¬ b.P k r) : ¬ b.low k n := by
  obtain ⟨j, hj⟩ : ∃ j : Nat, k.toNat = j + 1 := ⟨k.toNat - 1, by omega⟩
  obtain ⟨r, r0, r1, r2⟩ := root_exists n (by omega) j
  rw [← hj] at r1 r2
  have hr : 1 ≤ r := by
    rcases Int.lt_or_le r 1 with z | z
    · have : r = 0 := by omega
      subst this
      rw [Int.zero_add, Int.one_pow] at r2
      omega
    · exact z
  have p := h r hr r1
  have m := b.mono o (k := k) (by have := pow_pos' hr k.toNat; omega : (0 : Int) ≤ r ^ k.toNat) r1 hk
  unfold Bg.P at p
  rintro (q | q)
  · omega
  · have := pow_mono (show 0 ≤ r + 1 by omega) (show r + 1 ≤ b.at n k + 1 by omega) k.toNat
    omega
/-- the first r up to m, if any -/
inductive Bg.Fst (b : Bg) (k : Int) (m : Int) : V → Prop where
  | no (h : ∀ r, 1 ≤ r → r ≤ m → ¬ b.P k r) : Bg.Fst b k m .non
  | yes (r : Int) (h1 : 1 ≤ r) (h2 : r ≤ m) (hp : b.P k r) (h : ∀ s, 1 ≤ s → s < r → ¬ b.P k s) : Bg.Fst b k m (.int (r ^ k.toNat))
def Bg.r0 (m : Int) : Int := if m < -1 then 2 else 3
theorem Bg.neg_all : ∀ k ∈ [(2 : Int), 3, 4], ∀ m ∈ [(-9 : Int), -8, -7, -6, -5, -4, -3, -2, -1], (Bg.pw m).P k (Bg.r0 m) ∧ ∀ s ∈ [(1 : Int), 2], s < Bg.r0 m → ¬ (Bg.pw m).P k s := by decide +kernel
theorem Bg.neg {m k : Int} (hk : 2 ≤ k) (hk4 : k ≤ 4) (h1 : -9 ≤ m) (h2 : m < 0) : (Bg.pw m).P k (Bg.r0 m) ∧ ∀ s, 1 ≤ s → s < Bg.r0 m → ¬ (Bg.pw m).P k s := by
  have hk' : k ∈ [(2 : Int), 3, 4] := by simp only [List.mem_cons, List.not_mem_nil, or_false]; omega
  have hm : m ∈ [(-9 : Int), -8, -7, -6, -5, -4, -3, -2, -1] := by simp only [List.mem_cons, List.not_mem_nil, or_false]; omega
  obtain ⟨a, b⟩ := Bg.neg_all k hk' m hm
  refine ⟨a, fun s s1 s2 => b s ?_ s2⟩
  have : Bg.r0 m ≤ 3 := by unfold Bg.r0; split <;> decide
  simp only [List.mem_cons, List.not_mem_nil, or_false]; omega
theorem Bg.pos {m k r : Int} (hk : 1 ≤ k) (h : 0 ≤ m) (hr : 1 ≤ r) : ¬ (Bg.pw m).P k r := by
  intro hp
  unfold Bg.P at hp
  rw [Bg.at_pw, if_neg (by omega)] at hp
  have p0 := pow_pos' hr k.toNat
  have l := (lenK_le (n := r ^ k.toNat) (k := k) (by omega) (by omega)).mp (Nat.le_refl _)
  rw [Nat.mul_comm, Int.pow_mul] at l
  have g := pow_lt_inv (by have := two_pow_pos (lenK (r ^ k.toNat) k); omega) l (by omega)
  have : (2 : Int) ^ (lenK (r ^ k.toNat) k) ≤ 2 ^ ((lenK (r ^ k.toNat) k : Int) + m).toNat := pow_le_right (by decide) (by omega)
  omega
theorem Bg.far {b : Bg} (o : b.Ok) {k : Int} (hk : 2 ≤ k) (hk4 : k ≤ 4) {r : Int} (hr : 102 ≤ r) (hp : b.P k r) : ∃ s, 1 ≤ s ∧ s ≤ 3 ∧ b.P k s := by
  cases b with
  | sh b m =>
    exfalso
    obtain ⟨o1, o2, o3, o4⟩ := o
    unfold Bg.P at hp
    rw [Bg.at_sh] at hp
    have h2 : r ^ 2 ≤ r ^ k.toNat := pow_le_right (by omega) (by omega)
    have h3 : r ^ 2 = r * r := by rw [Int.pow_succ, Int.pow_succ, Int.pow_zero, Int.one_mul]
    have h4 : 102 * r ≤ r * r := Int.mul_le_mul_of_nonneg_right hr (by omega)
    have h5 : r ≤ r ^ k.toNat / b := by
      rw [Int.le_ediv_iff_mul_le (by omega)]
      have : r * b ≤ r * 102 := Int.mul_le_mul_of_nonneg_left (by omega) (by omega)
      omega
    omega
  | pw m =>
    rcases Int.lt_or_le m 0 with h | h
    · refine ⟨Bg.r0 m, ?_, ?_, (Bg.neg hk hk4 o.1 h).1⟩ <;> (unfold Bg.r0; split <;> decide)
    · exact absurd hp (Bg.pos (by omega) h (by omega))
theorem Bg.Fst.same {b : Bg} (o : b.Ok) {k : Int} (hk : 2 ≤ k) (hk4 : k ≤ 4) {v w : V} (h1 : b.Fst k 119 v) (h2 : b.Fst k 101 w) : v = w := by
  cases h1 with
  | no h =>
    cases h2 with
    | no _ => rfl
    | yes r a c hp _ => exact absurd hp (h r a (by omega))
  | yes r a c hp f =>
    have hr : r ≤ 101 := by
      rcases Int.lt_or_le 101 r with z | z
      · obtain ⟨s, s1, s3, sp⟩ := Bg.far o hk hk4 (show 102 ≤ r by omega) hp
        exact absurd sp (f s s1 (by omega))
      · exact z
    cases h2 with
    | no h => exact absurd hp (h r a hr)
    | yes t a' c' hp' f' =>
      have : r = t := by
        rcases Int.lt_trichotomy r t with z | z | z
        · exact absurd hp (f' r a z)
        · exact z
        · exact absurd hp' (f t a' z)
      rw [this]
theorem Bg.Fst.none_all {b : Bg} (o : b.Ok) {k : Int} (hk : 2 ≤ k) (hk4 : k ≤ 4) (h : b.Fst k 119 .non) (r : Int) (hr : 1 ≤ r) : ¬ b.P k r := by
  cases h with
  | no h =>
    intro hp
    rcases Int.lt_or_le r 102 with z | z
    · exact h r hr (by omega) hp
    · obtain ⟨s, s1, s3, sp⟩ := Bg.far o hk hk4 z hp
      exact h s s1 (by omega) sp
theorem Bg.Fst.below {b : Bg} (o : b.Ok) {k : Int} (hk : 2 ≤ k) (hk4 : k ≤ 4) {f : Int} (h : b.Fst k 119 (.int f)) {n : Int} (hn : 1 ≤ n) (hf : n < f) : ¬ b.low k n := by
  cases h with
  | yes r a c hp f =>
    refine Bg.not_low o (by omega) hn fun s s1 s2 => f s s1 ?_
    exact pow_lt_inv (by omega) (Int.lt_of_le_of_lt s2 hf) (by omega)
theorem Bg.Fst.pw {m k : Int} (hk : 2 ≤ k) (hk4 : k ≤ 4) (o : (Bg.pw m).Ok) {v : V} (h : (Bg.pw m).Fst k 119 v) : v = if 0 ≤ m then .non else .int ((Bg.r0 m) ^ k.toNat) := by
  by_cases h0 : 0 ≤ m
  · rw [if_pos h0]
    cases h with
    | no _ => rfl
    | yes r a c hp f => exact absurd hp (Bg.pos (by omega) h0 a)
  · rw [if_neg h0]
    obtain ⟨p, q⟩ := Bg.neg hk hk4 o.1 (show m < 0 by omega)
    have b1 : 1 ≤ Bg.r0 m := by unfold Bg.r0; split <;> decide
    have b3 : Bg.r0 m ≤ 3 := by unfold Bg.r0; split <;> decide
    cases h with
    | no h => exact absurd p (h _ b1 (by omega))
    | yes r a c hp f =>
      rcases Int.lt_trichotomy r (Bg.r0 m) with z | z | z
      · exact absurd hp (q r a z)
      · rw [z]
      · exact absurd p (f _ b1 z)
end FWL
namespace FWL
open PySem PySem.Spec PyProof.Rows L2 FW
/-! ### beginnings: the walk -/
structure BeK (K : PySem.W.Frag) : Prop where
  cS : Cls K (He.ga K "Share")
  cP : Cls K (He.ga K "Power")
  s_by : NoAttr K (He.ga K "Share") "by"
  s_more : NoAttr K (He.ga K "Share") "more"
  p_more : NoAttr K (He.ga K "Power") "more"
def Bg.C (K : PySem.W.Frag) : Bg → Addr
  | .sh _ _ => He.ga K "Share"
  | .pw _ => He.ga K "Power"
def Bg.F : Bg → List (Str × L2.V)
  | .sh b m => [("by", .int b), ("more", .int m)]
  | .pw m => [("more", .int m)]
def IsBg (K : PySem.W.Frag) (H : Hp) (x : Addr) (b : Bg) : Prop := ∃ dx, H x = some (.ins (b.C K) dx b.F)
theorem IsBg.ext {K : PySem.W.Frag} {H H' : Hp} {x : Addr} {b : Bg} (e : Ext H H') : IsBg K H x b → IsBg K H' x b
  | ⟨dx, h⟩ => ⟨dx, e _ _ h⟩
theorem e_fB {K : PySem.W.Frag} {H : Hp} {x C dx : Addr} {fs : List (Str × L2.V)} {f : Str} {R : L2.V → Prop} {v : L2.V} (k : R v) (h : H x = some (.ins C dx fs)) (c : Cls K C) (n : NoAttr K C f) (hl : fs.lookup f = some v) :
    ∃ a C dx fs v, L2.V.ref x = .ref a ∧ H a = some (.ins C dx fs) ∧ Cls K C ∧ NoAttr K C f ∧ fs.lookup f = some v ∧ R v := ⟨x, C, dx, fs, v, rfl, h, c, n, hl, k⟩
def sp_is_between (K : PySem.W.Frag) : Sp := fun vs H Q _ => ∃ i l g : Int, vs = [.int i, .int l, .int g] ∧ l ≤ i ∧ i ≤ g ∧ Q (.bl true) H
def rd_is_between (K : PySem.W.Frag) : TS := tRet (tAndV (tCall (sp_is_whole K) [] E0 (tCons (tVar 0) (tNil))) (tChain FW.rLe FW.rLe (tVar 1) (tVar 0) (tVar 2)))
theorem pure_is_between (K : PySem.W.Frag) (vs : List V) (H : Hp) (Q : VK) (E : XK) (h : sp_is_between K vs H Q E) : rd_is_between K { nx := fun _ H' => Q .non H', rt := Q } (start ["thing", "least", "greatest"] vs) H := by
  obtain ⟨i, l, g, rfl, h1, h2, q⟩ := h
  unfold rd_is_between
  walk_at "rd"
  refine ⟨_, _, rfl, WT.i i, ?_⟩
  rw [show isInt (.int i) = true from rfl]
  walk_at "rd"
  rw [decide_eq_true h1]
  walk_at "rd"
  rw [decide_eq_true h2]
  exact q
def sp_Share_init (K : PySem.W.Frag) : Sp := fun vs H Q _ => ∃ (x dx : Addr) (b m : Int), vs = [.ref x, .int b, .int m] ∧ (Bg.sh b m).Ok ∧ H x = some (.ins (He.ga K "Share") dx []) ∧
  ∀ H', ExtB x H H' → H' x = some (.ins (He.ga K "Share") dx (Bg.sh b m).F) → Q .non H'
def rd_Share_init (K : PySem.W.Frag) : TS := tSeq (tIfS (tNot (tB (tCall (sp_is_between K) [] E0 (tCons (tVar 1) (tCons (tC (.int 1)) (tCons (tC (.int 99)) (tNil))))))) (tNever) (tNext)) (tSeq (tIfS (tNot (tB (tCall (sp_is_between K) [] E0 (tCons (tVar 2) (tCons (tC (.int 0)) (tCons (tC (.int 99)) (tNil))))))) (tNever) (tNext)) (tSeq (sFld K (tVar 0) (tVar 1) "by") (sFld K (tVar 0) (tVar 2) "more")))
theorem pure_Share_init (K : PySem.W.Frag) (A : BeK K) (vs : List V) (H : Hp) (Q : VK) (E : XK) (h : sp_Share_init K vs H Q E) : rd_Share_init K { nx := fun _ H' => Q .non H', rt := Q } (start ["self", "by", "more"] vs) H := by
  obtain ⟨x, dx, b, m, rfl, ⟨o1, o2, o3, o4⟩, hx, q⟩ := h
  unfold rd_Share_init
  walk_at "rd"
  refine ⟨_, _, _, rfl, o1, o2, ?_⟩
  walk_at "rd"
  refine ⟨_, _, _, rfl, o3, o4, ?_⟩
  walk_at "rd"
  refine e_sF ?_ hx A.cS A.s_by (by decide)
  walk_at "rd"
  refine e_sF ?_ upd_same A.cS A.s_more (by show 1 < 1000; decide)
  refine q _ ?_ upd_same
  intro a o' ne h
  rw [upd_ne ne, upd_ne ne]
  exact h
def sp_Power_init (K : PySem.W.Frag) : Sp := fun vs H Q _ => ∃ (x dx : Addr) (m : Int), vs = [.ref x, .int m] ∧ (Bg.pw m).Ok ∧ H x = some (.ins (He.ga K "Power") dx []) ∧
  ∀ H', ExtB x H H' → H' x = some (.ins (He.ga K "Power") dx (Bg.pw m).F) → Q .non H'
def rd_Power_init (K : PySem.W.Frag) : TS := tSeq (tIfS (tNot (tB (tCall (sp_is_between K) [] E0 (tCons (tVar 1) (tCons (tUn FW.rNeg (tC (.int 9))) (tCons (tC (.int 9)) (tNil))))))) (tNever) (tNext)) (sFld K (tVar 0) (tVar 1) "more")
theorem pure_Power_init (K : PySem.W.Frag) (A : BeK K) (vs : List V) (H : Hp) (Q : VK) (E : XK) (h : sp_Power_init K vs H Q E) : rd_Power_init K { nx := fun _ H' => Q .non H', rt := Q } (start ["self", "more"] vs) H := by
  obtain ⟨x, dx, m, rfl, ⟨o1, o2⟩, hx, q⟩ := h
  unfold rd_Power_init
  walk_at "rd"
  refine ⟨_, _, _, rfl, o1, o2, ?_⟩
  walk_at "rd"
  refine e_sF ?_ hx A.cP A.p_more (by decide)
  refine q _ ?_ upd_same
  intro a o' ne h
  rw [upd_ne ne]
  exact h
def sp_Share_at (K : PySem.W.Frag) : Sp := fun vs H Q _ => ∃ (p : Addr) (b m n k : Int), vs = [.ref p, .int n, .int k] ∧ IsBg K H p (.sh b m) ∧ (Bg.sh b m).Ok ∧ Q (.int ((Bg.sh b m).at n k)) H
def rd_Share_at (K : PySem.W.Frag) : TS := tRet (tOp FW.rAdd (tOp FW.rDiv (tVar 1) (tFld K (tVar 0) "by")) (tFld K (tVar 0) "more"))
theorem pure_Share_at (K : PySem.W.Frag) (A : BeK K) (vs : List V) (H : Hp) (Q : VK) (E : XK) (h : sp_Share_at K vs H Q E) : rd_Share_at K { nx := fun _ H' => Q .non H', rt := Q } (start ["self", "n", "k"] vs) H := by
  obtain ⟨p, b, m, n, k, rfl, ⟨dx, hp⟩, ⟨o1, o2, o3, o4⟩, q⟩ := h
  unfold rd_Share_at
  walk_at "rd"
  refine e_fB ?_ hp A.cS A.s_by rfl
  walk_at "rd"
  · refine e_fB ?_ hp A.cS A.s_more rfl
    walk_at "rd"
    exact q
  · exact wide_div (b := 10) (by omega) (show b.natAbs < 1024 by omega) (by decide) (by decide)
def sp_Power_at (K : PySem.W.Frag) : Sp := fun vs H Q _ => ∃ (p : Addr) (m n k : Int), vs = [.ref p, .int n, .int k] ∧ IsBg K H p (.pw m) ∧ (Bg.pw m).Ok ∧ 0 ≤ n ∧ Sz 1000 n ∧ 2 ≤ k ∧ k ≤ 4 ∧ ∀ H', Ext H H' → Q (.int ((Bg.pw m).at n k)) H'
def rd_Power_at (K : PySem.W.Frag) : TS := tSeq (tAsg (tOp FW.rAdd (tOp FW.rDiv (tOp FW.rSub (tOp FW.rAdd (tCall (sp_bits K) [] E0 (tCons (tVar 1) (tNil))) (tVar 2)) (tC (.int 1))) (tVar 2)) (tFld K (tVar 0) "more")) (gName 3)) (tSeq (tIfS (tTest (tOp FW.rLt (tVar 3) (tC (.int 0)))) (tRet (tC (.int 1))) (tNext)) (tRet (tOp FW.rShl (tC (.int 1)) (tVar 3))))
theorem lenK_small {n k : Int} (n0 : 0 ≤ n) (hn : Sz 1000 n) (hk : 2 ≤ k) : lenK n k ≤ 500 := by
  refine (lenK_le n0 (by omega)).mpr ?_
  have e : ((2 ^ 1000 : Nat) : Int) = 2 ^ 1000 := by rw [Int.natCast_pow]; rfl
  have h : n.natAbs < 2 ^ 1000 := hn
  have : (2 : Int) ^ 1000 ≤ 2 ^ (k.toNat * 500) := pow_le_right (by decide) (by omega)
  omega
theorem pure_Power_at (K : PySem.W.Frag) (A : BeK K) (vs : List V) (H : Hp) (Q : VK) (E : XK) (h : sp_Power_at K vs H Q E) : rd_Power_at K { nx := fun _ H' => Q .non H', rt := Q } (start ["self", "n", "k", "length"] vs) H := by
  obtain ⟨p, m, n, k, rfl, ⟨dx, hp⟩, ⟨o1, o2⟩, n0, hn, k2, k4, q⟩ := h
  unfold rd_Power_at
  walk_at "rd"
  refine ⟨n, rfl, n0, hn.mono (by decide), fun b H' b1 b2 e => ?_⟩
  obtain rfl := bl_eq n0 b1 b2
  have el : ((bl n.toNat : Int) + k - 1) / k = (lenK n k : Int) := by
    unfold lenK
    rw [Int.natCast_ediv]
    rw [show ((bl n.toNat + k.toNat - 1 : Nat) : Int) = (bl n.toNat : Int) + k - 1 by omega, show ((k.toNat : Nat) : Int) = k by omega]
  have ls := lenK_small n0 hn k2
  have q := q H' e
  rw [Bg.at_pw] at q
  walk_at "rd"
  · refine e_fB ?_ (e _ _ hp) A.cP A.p_more rfl
    rw [el]
    walk_at "rd"
    refine e_ite (fun hl => ?_) (fun hl => ?_)
    · rw [if_pos hl] at q
      walk_at "rd"
      exact q
    · rw [if_neg hl] at q
      walk_at "rd"
      · rw [Int.one_mul]
        exact q
      · exact ⟨by omega, by omega, by decide⟩
  · exact wide_div (b := 10) (by omega) (show k.natAbs < 1024 by omega) (by decide) (by decide)
theorem e_at {K : PySem.W.Frag} {σ : L2.St} {H : Hp} {Q : VK} {i j l : Nat} {p : Addr} {b : Bg} {n k : Int} (q : ∀ H', Ext H H' → Q (.int (b.at n k)) H') (hi : σ[i]? = some (some (.ref p))) (hj : σ[j]? = some (some (.int n))) (hl : σ[l]? = some (some (.int k)))
    (hb : IsBg K H p b) (o : b.Ok) (n0 : 0 ≤ n) (hn : Sz 1000 n) (k2 : 2 ≤ k) (k4 : k ≤ 4) :
    FW.tEither (tMeth (He.ga K "Share") "at" (sp_Share_at K) [] E0 (tVar i) (tCons (tVar j) (tCons (tVar l) (tNil)))) (tMeth (He.ga K "Power") "at" (sp_Power_at K) [] E0 (tVar i) (tCons (tVar j) (tCons (tVar l) (tNil)))) σ H Q := by
  obtain ⟨dx, hp⟩ := id hb
  cases b with
  | sh b m =>
    refine .inl ⟨_, hi, p, dx, _, rfl, hp, rfl, _, hj, _, hl, ?_⟩
    exact ⟨p, b, m, n, k, rfl, hb, o, q H Ext.rfl'⟩
  | pw m =>
    refine .inr ⟨_, hi, p, dx, _, rfl, hp, rfl, _, hj, _, hl, ?_⟩
    exact ⟨p, m, n, k, rfl, hb, o, n0, hn, k2, k4, q⟩
def sp_too_low (K : PySem.W.Frag) : Sp := fun vs H Q _ => ∃ (p : Addr) (b : Bg) (k : Int), vs = [.ref p, .int k] ∧ IsBg K H p b ∧ b.Ok ∧ 2 ≤ k ∧ k ≤ 4 ∧ ∀ v H', b.Fst k 119 v → Ext H H' → Q v H'
def rd_too_low_L1 (K : PySem.W.Frag) : TS := tSeq (tAsg (tCall (sp_power K) [] E0 (tCons (tVar 2) (tCons (tVar 1) (tNil)))) (gName 3)) (tIfS (tTest (tOp FW.rLt (FW.tEither (tMeth (He.ga K "Share") "at" (sp_Share_at K) [] E0 (tVar 0) (tCons (tVar 3) (tCons (tVar 1) (tNil)))) (tMeth (He.ga K "Power") "at" (sp_Power_at K) [] E0 (tVar 0) (tCons (tVar 3) (tCons (tVar 1) (tNil))))) (tVar 2))) (tRet (tVar 3)) (tNext))
def rd_too_low (K : PySem.W.Frag) : TS := tSeq (tFor (iRng2 (tCons (tC (.int 1)) (tCons (tC (.int 120)) (tNil)))) (gName 2) (rd_too_low_L1 K)) (tRet (tC .non))
theorem szr {r k : Int} (h0 : 0 ≤ r) (hr : r < 1000) (k4 : k ≤ 4) : Sz 100 (r ^ k.toNat) := (Sz.powk (b := 10) (show r.natAbs < 1024 by omega) (by decide) k4).mono (by decide)
theorem pure_too_low (K : PySem.W.Frag) (vs : List V) (H : Hp) (Q : VK) (E : XK) (h : sp_too_low K vs H Q E) : rd_too_low K { nx := fun _ H' => Q .non H', rt := Q } (start ["beginning", "k", "r", "n"] vs) H := by
  obtain ⟨p, b, k, rfl, hb, o, k2, k4, q⟩ := h
  unfold rd_too_low
  walk_at "rd"
  · refine for_range (lo := 1) (n := 119) (fun i σ H' => Ext H H' ∧ (∀ r : Int, 1 ≤ r → r < 1 + i → ¬ b.P k r) ∧ ∃ u w, σ = [some (.ref p), some (.int k), u, w]) ⟨Ext.rfl', fun r a c => by omega, none, none, rfl⟩ ?_ ?_
    · rintro i σ H' hi ⟨e, hf, u, w, rfl⟩
      have p1 := pow_pos' (show (1 : Int) ≤ 1 + i by omega) k.toNat
      unfold rd_too_low_L1
      walk_at "rd"
      refine ⟨1 + i, k, 10, rfl, by omega, show (1 + (i : Int)).natAbs < 1024 by omega, by decide, pow_room k4 (by decide), ?_⟩
      walk_at "rd"
      refine e_at (fun H'' e'' => ?_) rfl rfl rfl (hb.ext e) o (by omega) ((szr (by omega) (by omega) k4).mono (by decide)) k2 k4
      walk_at "rd"
      refine e_ite (fun hp => ?_) (fun hp => ?_)
      · walk_at "rd"
        exact q _ _ (.yes (1 + i) (by omega) (by omega) hp (fun s s1 s2 => hf s s1 s2)) (e.tr e'')
      · walk_at "rd"
        refine ⟨e.tr e'', fun r r1 r2 => ?_, _, _, rfl⟩
        by_cases z : r = 1 + i
        · rw [z]; exact hp
        · exact hf r r1 (by omega)
    · rintro σ H' ⟨e, hf, u, w, rfl⟩
      walk_at "rd"
      exact q _ _ (.no fun r r1 r2 => hf r r1 (by omega)) e
  · decide
def sp_l_length (K : PySem.W.Frag) : Sp := fun vs H Q _ => ∃ n k : Int, vs = [.int n, .int k] ∧ 0 ≤ n ∧ Sz 1000 n ∧ 2 ≤ k ∧ k ≤ 4 ∧ ∀ H', Ext H H' → Q (.int (lenK n k)) H'
def rd_l_length_L1 (K : PySem.W.Frag) : TS := tPar 2 3 (tCons (tOp FW.rAdd (tVar 2) (tC (.int 1))) (tCons (tOp FW.rMul (tVar 3) (tCall (sp_l_power K) [] E0 (tCons (tC (.int 2)) (tCons (tVar 1) (tNil))))) (tNil)))
def rd_l_length (K : PySem.W.Frag) : TS := tSeq (tAsg (tTup (tCons (tC (.int 0)) (tCons (tC (.int 1)) (tNil)))) (gTup K 2 (gCons (gName 2) (gCons (gName 3) (gNil))))) (tSeq (tWhile (tTest (tOp FW.rGe (tVar 0) (tVar 3))) (rd_l_length_L1 K)) (tRet (tVar 2)))
theorem pure_l_length (K : PySem.W.Frag) (vs : List V) (H : Hp) (Q : VK) (E : XK) (h : sp_l_length K vs H Q E) : rd_l_length K { nx := fun _ H' => Q .non H', rt := Q } (start ["_law_n", "_law_k", "_law_u", "_law_over"] vs) H := by
  obtain ⟨n, k, rfl, n0, hn, k2, k4, q⟩ := h
  have ls := lenK_small n0 hn k2
  unfold rd_l_length
  walk_at "rd"
  refine ⟨by show 2 ≤ sizeLine; decide, fun p hp => ?_⟩
  refine g_tup ?_ (SqT.of upd_same) rfl
  have e := Ext.new (o := .tup [V.int 0, V.int 1]) hp
  generalize upd H p (.tup [V.int 0, V.int 1]) = H1 at *
  walk_at "rd"
  refine s_while (fun m σ H' => H' = H1 ∧ ∃ u : Nat, u ≤ lenK n k ∧ m = 501 - u ∧ σ = [some (.int n), some (.int k), some (.int (u : Int)), some (.int (2 ^ (k.toNat * u)))]) _ ⟨rfl, 0, by omega, rfl, rfl⟩ ?_
  rintro m σ H' ⟨rfl, u, hu, rfl, rfl⟩
  walk_at "rd"
  refine e_ite (fun hgo => ?_) (fun hno => ?_)
  · have hlt : u + 1 ≤ lenK n k := by
      have : ¬ lenK n k ≤ u := fun z => by have := (lenK_le n0 (by omega)).mp z; omega
      omega
    refine ⟨fun σ' H'' => H'' = H' ∧ σ' = [some (.int n), some (.int k), some (.int ((u + 1 : Nat) : Int)), some (.int (2 ^ (k.toNat * (u + 1))))], fun σ' H'' h => ⟨501 - (u + 1), by omega, h.1, u + 1, hlt, rfl, h.2⟩, ?_⟩
    unfold rd_l_length_L1
    walk_at "rd"
    refine ⟨2, k, 10, rfl, by omega, by decide, by decide, pow_room k4 (by decide), ?_⟩
    walk_at "rd"
    · refine ⟨rfl, ?_⟩
      rw [Nat.mul_succ, Int.pow_add]; rfl
    · refine wide_mul (a := 2001) (b := 100) ?_ ((Sz.powk (b := 10) (x := 2) (by decide) (by decide) k4).mono (by decide)) (by decide) (by decide) (by decide)
      refine Sz.of_le (by have := two_pow_pos (k.toNat * u); omega) hgo (hn.mono (by decide))
  · walk_at "rd"
    have : lenK n k ≤ u := (lenK_le n0 (by omega)).mpr (by omega)
    have : u = lenK n k := by omega
    rw [this]
    exact q _ e
def sp_l_start (K : PySem.W.Frag) : Sp := fun vs H Q _ => ∃ (a : Addr) (b : Bg) (n k : Int), vs = [.ref a, .int n, .int k] ∧ H a = some (.lst (b.ns.map V.int)) ∧ b.Ok ∧ 0 ≤ n ∧ Sz 1000 n ∧ 2 ≤ k ∧ k ≤ 4 ∧ ∀ H', Ext H H' → Q (.int (b.at n k)) H'
def rd_l_start (K : PySem.W.Frag) : TS := tSeq (tIfS (tTest (tOp rEq (tCB (Evl.rLenS K) (tCons (tVar 0) (tNil))) (tC (.int 2)))) (tRet (tOp FW.rAdd (tOp FW.rDiv (tVar 1) (tOp (rIxL K) (tVar 0) (tC (.int 0)))) (tOp (rIxL K) (tVar 0) (tC (.int 1))))) (tNext)) (tSeq (tAsg (tOp FW.rAdd (tCall (sp_l_length K) [] E0 (tCons (tVar 1) (tCons (tVar 2) (tNil)))) (tOp (rIxL K) (tVar 0) (tC (.int 0)))) (gName 3)) (tRet (tIf (tTest (tOp FW.rLt (tVar 3) (tC (.int 0)))) (tC (.int 1)) (tCall (sp_l_power K) [] E0 (tCons (tC (.int 2)) (tCons (tVar 3) (tNil)))))))
theorem pure_l_start (K : PySem.W.Frag) (vs : List V) (H : Hp) (Q : VK) (E : XK) (h : sp_l_start K vs H Q E) : rd_l_start K { nx := fun _ H' => Q .non H', rt := Q } (start ["_law_parts", "_law_n", "_law_k", "_law_u"] vs) H := by
  obtain ⟨a, b, n, k, rfl, ha, o, n0, hn, k2, k4, q⟩ := h
  unfold rd_l_start
  walk_at "rd"
  refine e_len ?_ (.inl (SqL.of ha))
  walk_at "rd"
  cases b with
  | sh b m =>
    have q := q H Ext.rfl'
    rw [Bg.at_sh] at q
    obtain ⟨o1, o2, o3, o4⟩ := o
    refine e_ite (fun _ => ?_) (fun z => absurd rfl z)
    walk_at "rd"
    refine e_ixL ?_ (SqL.of ha) rfl
    walk_at "rd"
    · refine e_ixL ?_ (SqL.of ha) rfl
      walk_at "rd"
      exact q
    · exact wide_div (b := 10) (by omega) (show b.natAbs < 1024 by omega) (by decide) (by decide)
  | pw m =>
    have ls := lenK_small n0 hn k2
    obtain ⟨o1, o2⟩ := o
    refine e_ite (fun z => absurd (show V.int 1 = V.int 2 from z) (by decide)) (fun _ => ?_)
    walk_at "rd"
    refine ⟨n, k, rfl, n0, hn, k2, k4, fun H' e => ?_⟩
    have q := q H' e
    rw [Bg.at_pw] at q
    walk_at "rd"
    refine e_ixL ?_ (SqL.of (e _ _ ha)) rfl
    walk_at "rd"
    refine e_ite (fun hl => ?_) (fun hl => ?_)
    · rw [if_pos hl] at q
      walk_at "rd"
      exact q
    · rw [if_neg hl] at q
      walk_at "rd"
      refine ⟨2, _, 10, rfl, by omega, by decide, by decide, ?_, q⟩
      have : ((lenK n k : Int) + m).toNat + 1 ≤ 600 := by omega
      have := Nat.mul_le_mul_right 10 this
      omega
theorem Bg.at_sz {b : Bg} (o : b.Ok) {n k : Int} (n0 : 0 ≤ n) (hn : Sz 1000 n) (k2 : 2 ≤ k) : Sz 1100 (b.at n k + 1) := by
  cases b with
  | sh b m =>
    obtain ⟨o1, o2, o3, o4⟩ := o
    rw [Bg.at_sh]
    have h1 : n / b ≤ n := Int.ediv_le_self _ n0
    have h2 := Int.ediv_nonneg n0 (show 0 ≤ b by omega)
    have := (Sz.of_le h2 h1 hn).add (Sz.mono (show (m + 1).natAbs < 2 ^ 10 by omega) (by decide : 10 ≤ 1000))
    rw [Int.add_assoc]
    exact this.mono (by decide)
  | pw m =>
    obtain ⟨o1, o2⟩ := o
    have ls := lenK_small n0 hn k2
    rw [Bg.at_pw]
    split
    · decide
    · have h := (Sz.pow (b := 2) (x := 2) (by decide) (by decide) ((lenK n k : Int) + m).toNat).mono (show _ ≤ 1099 by omega)
      exact h.add (Sz.mono (show (1 : Int).natAbs < 2 ^ 10 by decide) (by decide))
def sp_l_is_low (K : PySem.W.Frag) : Sp := fun vs H Q _ => ∃ (a : Addr) (b : Bg) (n k : Int), vs = [.ref a, .int n, .int k] ∧ H a = some (.lst (b.ns.map V.int)) ∧ b.Ok ∧ 0 ≤ n ∧ Sz 1000 n ∧ 2 ≤ k ∧ k ≤ 4 ∧ ∀ v H', Ext H H' → (v = true ↔ b.low k n) → Q (.bl v) H'
def rd_l_is_low (K : PySem.W.Frag) : TS := tSeq (tAsg (tCall (sp_l_start K) [] E0 (tCons (tVar 0) (tCons (tVar 1) (tCons (tVar 2) (tNil))))) (gName 3)) (tRet (tOrV (tOp FW.rLt (tVar 3) (tC (.int 1))) (tOp FW.rLe (tCall (sp_l_power K) [] E0 (tCons (tOp FW.rAdd (tVar 3) (tC (.int 1))) (tCons (tVar 2) (tNil)))) (tVar 1))))
theorem pure_l_is_low (K : PySem.W.Frag) (vs : List V) (H : Hp) (Q : VK) (E : XK) (h : sp_l_is_low K vs H Q E) : rd_l_is_low K { nx := fun _ H' => Q .non H', rt := Q } (start ["_law_parts", "_law_n", "_law_k", "_law_start_here"] vs) H := by
  obtain ⟨a, b, n, k, rfl, ha, o, n0, hn, k2, k4, q⟩ := h
  unfold rd_l_is_low
  walk_at "rd"
  refine ⟨a, b, n, k, rfl, ha, o, n0, hn, k2, k4, fun H' e => ?_⟩
  walk_at "rd"
  refine e_ite (fun h1 => ?_) (fun h1 => ?_)
  · exact q _ _ e ⟨fun _ => .inl h1, fun _ => rfl⟩
  · walk_at "rd"
    refine ⟨_, k, 1100, rfl, by omega, Bg.at_sz o n0 hn k2, by decide, ?_, ?_⟩
    · have : k.toNat + 1 ≤ 5 := by omega
      have := Nat.mul_le_mul_right 1100 this
      omega
    walk_at "rd"
    refine q _ _ e ?_
    rw [decide_eq_true_iff]
    exact ⟨fun h => .inr h, fun h => h.resolve_left h1⟩
def sp_l_least (K : PySem.W.Frag) : Sp := fun vs H Q _ => ∃ (a : Addr) (b : Bg) (k : Int), vs = [.ref a, .int k] ∧ H a = some (.lst (b.ns.map V.int)) ∧ b.Ok ∧ 2 ≤ k ∧ k ≤ 4 ∧ ∀ v H', b.Fst k 101 v → Ext H H' → Q v H'
def rd_l_least_L1 (K : PySem.W.Frag) : TS := tIfS (tB (tCall (sp_l_is_low K) [] E0 (tCons (tVar 0) (tCons (tCall (sp_l_power K) [] E0 (tCons (tVar 2) (tCons (tVar 1) (tNil)))) (tCons (tVar 1) (tNil)))))) (tRet (tCall (sp_l_power K) [] E0 (tCons (tVar 2) (tCons (tVar 1) (tNil))))) (tNext)
def rd_l_least (K : PySem.W.Frag) : TS := tSeq (tFor (iRng2 (tCons (tC (.int 1)) (tCons (tC (.int 102)) (tNil)))) (gName 2) (rd_l_least_L1 K)) (tRet (tC .non))
theorem pure_l_least (K : PySem.W.Frag) (vs : List V) (H : Hp) (Q : VK) (E : XK) (h : sp_l_least K vs H Q E) : rd_l_least K { nx := fun _ H' => Q .non H', rt := Q } (start ["_law_parts", "_law_k", "_law_r"] vs) H := by
  obtain ⟨a, b, k, rfl, ha, o, k2, k4, q⟩ := h
  unfold rd_l_least
  walk_at "rd"
  · refine for_range (lo := 1) (n := 101) (fun i σ H' => Ext H H' ∧ (∀ r : Int, 1 ≤ r → r < 1 + i → ¬ b.P k r) ∧ ∃ u, σ = [some (.ref a), some (.int k), u]) ⟨Ext.rfl', fun r a c => by omega, none, rfl⟩ ?_ ?_
    · rintro i σ H' hi ⟨e, hf, u, rfl⟩
      have p1 := pow_pos' (show (1 : Int) ≤ 1 + i by omega) k.toNat
      unfold rd_l_least_L1
      walk_at "rd"
      refine ⟨1 + i, k, 10, rfl, by omega, show (1 + (i : Int)).natAbs < 1024 by omega, by decide, pow_room k4 (by decide), ?_⟩
      walk_at "rd"
      refine ⟨a, b, _, k, rfl, e _ _ ha, o, by omega, (szr (by omega) (by omega) k4).mono (by decide), k2, k4, fun v H'' e'' hv => ?_⟩
      rw [Bg.low_iff o (by omega) (by omega)] at hv
      walk_at "rd"
      refine e_iteB (fun ht => ?_) (fun ht => ?_)
      · walk_at "rd"
        refine ⟨1 + i, k, 10, rfl, by omega, show (1 + (i : Int)).natAbs < 1024 by omega, by decide, pow_room k4 (by decide), ?_⟩
        exact q _ _ (.yes (1 + i) (by omega) (by omega) (hv.mp ht) (fun s s1 s2 => hf s s1 s2)) (e.tr e'')
      · walk_at "rd"
        refine ⟨e.tr e'', fun r r1 r2 => ?_, _, rfl⟩
        by_cases z : r = 1 + i
        · rw [z]; intro hp; have := hv.mpr hp; rw [ht] at this; cases this
        · exact hf r r1 (by omega)
    · rintro σ H' ⟨e, hf, u, rfl⟩
      walk_at "rd"
      exact q _ _ (.no fun r r1 r2 => hf r r1 (by omega)) e
  · decide
def sp_l_numbers (K : PySem.W.Frag) : Sp := fun vs H Q _ => ∃ (L : Addr) (xs : List Int) (v : V), vs = [.ref L, v] ∧ H L = some (.lst (xs.map V.int)) ∧ Row xs 30 ∧ (v = .non ∨ ∃ f : Int, v = .int f ∧ 1 ≤ f ∧ Sz 100 f) ∧
  ∀ (P : Addr) (ys : List Int) (H' : Hp), Ext H H' → H' P = some (.lst (ys.map V.int)) → (∀ y ∈ ys, 1 ≤ y ∧ Sz 1000 y ∧ ∀ f : Int, v = .int f → y < f) → Q (.ref P) H'
def rd_l_numbers (K : PySem.W.Frag) : TS := tSeq (tAsg (tLc (iRng1 (tCons (tC (.int 4)) (tNil))) (gName 3) (tYes) (tOp FW.rAdd (tC (.int 1)) (tCall (sp_l_great K) [] E0 (tCons (tVar 0) (tCons (tOp FW.rAdd (tC (.int 10)) (tVar 3)) (tCons (tOp (rIxL K) (tLst (tCons (tC (.int 1)) (tCons (tC (.int 2)) (tCons (tC (.int 5)) (tCons (tC (.int 13)) (tNil)))))) (tVar 3)) (tNil)))))) [3]) (gName 2)) (tSeq (tIfS (tTest (tOp FW.rIsN (tVar 1) (tC .non))) (tRet (tOp rCat (tVar 2) (tLst (tCons (tC (.int 1)) (tCons (tC (.int 2)) (tCons (tC (.int 3)) (tCons (tC (.int 4)) (tCons (tC (.int 8)) (tCons (tC (.int 9)) (tCons (tC (.int 16)) (tNil))))))))))) (tNext)) (tRet (tIf (tTest (tOp FW.rGt (tVar 1) (tC (.int 1)))) (tOp rCat (tLc (iList K (tVar 2)) (gName 4) (tYes) (tOp FW.rAdd (tC (.int 1)) (tOp FW.rMod (tVar 4) (tOp FW.rSub (tVar 1) (tC (.int 1))))) [4]) (tLst (tCons (tOp FW.rSub (tVar 1) (tC (.int 1))) (tNil)))) (tLst (tNil)))))
theorem e_rngL {σ : L2.St} {H : Hp} {R : It → Hp → Prop} {j : Int} (k : R (Itr 0 j.toNat) H) (h : -(2 ^ 62) ≤ j ∧ j < 2 ^ 62) : iRng1 (tCons (tC (.int j)) tNil) σ H R := ⟨j, rfl, h.1, h.2, k⟩
theorem pure_l_numbers (K : PySem.W.Frag) (vs : List V) (H : Hp) (Q : VK) (E : XK) (h : sp_l_numbers K vs H Q E) : rd_l_numbers K { nx := fun _ H' => Q .non H', rt := Q } (start ["_law_row_here", "_law_found", "_law_some", "_law_k", "_law_number"] vs) H := by
  obtain ⟨L, xs, v, rfl, hL, hr, hv, q⟩ := h
  unfold rd_l_numbers
  walk_at "rd"
  · intro D hD
    refine lc_range (lo := 0) (n := 4) (fun i H' => i ≤ 4 ∧ Ext H H' ∧ ∃ ns : List Int, H' D = some (.lst (ns.map V.int)) ∧ ns.length = i ∧ ∀ c ∈ ns, 1 ≤ c ∧ Sz 999 c) ⟨by decide, Ext.new hD, [], upd_same, rfl, by simp⟩ ?_ ?_
    · rintro i H' hi ⟨_, e, ns, gD, hn, hs⟩
      walk_at "re"
      refine ⟨rfl, ?_⟩
      walk_at "re"
      refine ⟨by show 4 ≤ sizeLine; decide, fun p hp => ?_⟩
      have e1 := Ext.new (o := .lst [V.int 1, V.int 2, V.int 5, V.int 13]) hp
      obtain ⟨m, hm, ha⟩ := list_at (xs := [V.int 1, V.int 2, V.int 5, V.int 13]) (i := 0 + (i : Int)) (by omega) (by show (0 + (i : Int)) < 4; omega)
      walk_at "re"
      refine e_ixL ?_ (SqL.of upd_same) ha
      obtain ⟨m', rfl, m0, m13⟩ : ∃ m' : Int, m = .int m' ∧ 0 ≤ m' ∧ m' ≤ 13 := by
        simp only [List.mem_cons, List.not_mem_nil, or_false] at hm
        rcases hm with rfl | rfl | rfl | rfl <;> exact ⟨_, rfl, by decide, by decide⟩
      generalize upd H' p (.lst [V.int 1, V.int 2, V.int 5, V.int 13]) = H2 at *
      walk_at "re"
      refine ⟨L, xs, 30, _, m', rfl, e1 _ _ (e _ _ hL), hr, by omega, m0, by omega, by omega, fun w w0 w1 => ?_⟩
      walk_at "re"
      refine ⟨ns.map V.int, e1 _ _ gD, by rw [List.length_map, hn]; exact Nat.lt_of_lt_of_le hi (by decide), by omega, (e.tr e1).upds hD, ns ++ [1 + w], by rw [upd_same, List.map_append]; rfl, by rw [List.length_append, hn]; rfl, ?_⟩
      intro c hc
      rcases List.mem_append.mp hc with z | z
      · exact hs c z
      · obtain rfl := List.mem_singleton.mp z
        refine ⟨by omega, ?_⟩
        have h1 : (1000 : Int) ^ m'.toNat ≤ 1000 ^ 13 := pow_le_right (by decide) (by omega)
        have h2 : Sz 200 ((1000 : Int) ^ 13) := by decide
        exact ((Sz.mono (show (1 : Int).natAbs < 2 ^ 10 by decide) (by decide : 10 ≤ 200)).add (Sz.of_le w0 (by omega) h2)).mono (by decide)
    · rintro H1 ⟨_, e1, ns, gD, hn, hs⟩
      walk_at "rd"
      rcases hv with rfl | ⟨f, rfl, f1, fs⟩
      · refine e_ite (fun _ => ?_) (fun z => absurd rfl z)
        walk_at "rd"
        refine ⟨by show 7 ≤ sizeLine; decide, fun p hp => ?_⟩
        have e2 := Ext.new (o := .lst [V.int 1, V.int 2, V.int 3, V.int 4, V.int 8, V.int 9, V.int 16]) hp
        refine e_cat (fun p2 hp2 => ?_) (e2 _ _ gD) upd_same (by rw [List.length_map, hn]; show 4 + 7 ≤ 2 ^ 24; decide)
        refine q p2 (ns ++ [1, 2, 3, 4, 8, 9, 16]) _ (e1.tr (e2.tr (Ext.new hp2))) (by rw [upd_same, List.map_append]; rfl) ?_
        intro y hy
        rcases List.mem_append.mp hy with z | z
        · exact ⟨(hs y z).1, (hs y z).2.mono (by decide), fun f hf => by cases hf⟩
        · have : 1 ≤ y ∧ y ≤ 16 := by
            simp only [List.mem_cons, List.not_mem_nil, or_false] at z
            omega
          exact ⟨this.1, Sz.mono (show y.natAbs < 2 ^ 10 by omega) (by decide), fun f hf => by cases hf⟩
      · refine e_ite (fun z => absurd z (by simp)) (fun _ => ?_)
        walk_at "rd"
        refine e_ite (fun hf => ?_) (fun hf => ?_)
        · walk_at "re"
          refine i_list ?_
          walk_at "re"
          refine i_list' _ ?_ (SqL.of gD)
          intro D2 hD2
          refine lc_list (K := K) (a := D) (xs := ns.map V.int) (fun i H' => i ≤ 4 ∧ Ext H1 H' ∧ ∃ ms : List Int, H' D2 = some (.lst (ms.map V.int)) ∧ ms.length = i ∧ ∀ c ∈ ms, 1 ≤ c ∧ c < f) ⟨by decide, Ext.new hD2, [], upd_same, rfl, by simp⟩ (fun i H' _ h => (h.2.1).sqL (SqL.of gD)) ?_ ?_
          · rintro i x H' hx ⟨hi, e, ms, gM, hm, hms⟩
            have hi4 : i < 4 := by
              have := (List.getElem?_eq_some_iff.mp hx).1
              rw [List.length_map, hn] at this; exact this
            obtain ⟨c, hc, rfl⟩ := List.mem_map.mp (List.mem_of_getElem? hx)
            walk_at "re"
            refine ⟨rfl, ?_⟩
            walk_at "re"
            · have m0 := Int.emod_nonneg c (show f - 1 ≠ 0 by omega)
              have m1 := Int.emod_lt_of_pos c (show 0 < f - 1 by omega)
              refine ⟨ms.map V.int, gM, by rw [List.length_map, hm]; exact Nat.lt_of_lt_of_le hi4 (by decide), by omega, e.upds hD2, ms ++ [1 + c % (f - 1)], by rw [upd_same, List.map_append]; rfl, by rw [List.length_append, hm]; rfl, ?_⟩
              intro d hd
              rcases List.mem_append.mp hd with z | z
              · exact hms d z
              · obtain rfl := List.mem_singleton.mp z
                omega
            · show 0 < f - 1
              omega
          · rintro H2 ⟨_, e2, ms, gM, hm, hms⟩
            rw [List.length_map, hn] at hm
            walk_at "re"
            refine ⟨by show 1 ≤ sizeLine; decide, fun p hp => ?_⟩
            have e3 := Ext.new (o := .lst [V.int (f - 1)]) hp
            refine e_cat (fun p2 hp2 => ?_) (e3 _ _ gM) upd_same (by rw [List.length_map, hm]; show 4 + 1 ≤ 2 ^ 24; decide)
            refine q p2 (ms ++ [f - 1]) _ (e1.tr (e2.tr (e3.tr (Ext.new hp2)))) (by rw [upd_same, List.map_append]; rfl) ?_
            intro y hy
            have : 1 ≤ y ∧ y < f := by
              rcases List.mem_append.mp hy with z | z
              · exact hms y z
              · obtain rfl := List.mem_singleton.mp z; omega
            exact ⟨this.1, (Sz.of_le (by omega) (by omega : y ≤ f) fs).mono (by decide), fun f' hf' => by cases hf'; exact this.2⟩
        · walk_at "re"
          refine ⟨by decide, fun p hp => ?_⟩
          exact q p [] _ (e1.tr (Ext.new hp)) upd_same (by simp)
  · decide
def rd_law_L1 (K : PySem.W.Frag) : TS := tIfS (tOr (tB (tCall (sp_l_is_low K) [] E0 (tCons (tVar 4) (tCons (tVar 8) (tCons (tVar 3) (tNil)))))) (tTest (tOp rNe (FW.tEither (tMeth (He.ga K "Share") "at" (sp_Share_at K) [] E0 (tVar 5) (tCons (tVar 8) (tCons (tVar 3) (tNil)))) (tMeth (He.ga K "Power") "at" (sp_Power_at K) [] E0 (tVar 5) (tCons (tVar 8) (tCons (tVar 3) (tNil))))) (tCall (sp_l_start K) [] E0 (tCons (tVar 4) (tCons (tVar 8) (tCons (tVar 3) (tNil)))))))) (tRet (tC (.bl false))) (tNext)
def rd_law_L2 (K : PySem.W.Frag) : TS := tSeq (tAsg (tCall (sp_l_row K) [] E0 (tCons (tCall (sp_l_apart K) [] E0 (tCons (tCall (sp_l_cell_at K) [] E0 (tCons (tVar 0) (tCons (tVar 1) (tNil)))) (tCons (tVar 1) (tNil)))) (tCons (tC (.int 30)) (tNil)))) (gName 2)) (tSeq (tAsg (tOp FW.rAdd (tC (.int 2)) (tOp FW.rMod (tCB FW.rInt1 (tCons (tOp (rIxL K) (tVar 2) (tC (.int 0))) (tNil))) (tC (.int 3)))) (gName 3)) (tSeq (tAsg (tLst (tCons (tOp FW.rAdd (tC (.int 1)) (tOp FW.rMod (tCB FW.rInt1 (tCons (tOp (rIxL K) (tVar 2) (tC (.int 1))) (tNil))) (tOp (rIxL K) (tLst (tCons (tC (.int 5)) (tCons (tC (.int 20)) (tCons (tC (.int 99)) (tNil))))) (tOp FW.rMod (tCB FW.rInt1 (tCons (tOp (rIxL K) (tVar 2) (tC (.int 2))) (tNil))) (tC (.int 3)))))) (tCons (tOp FW.rMod (tCB FW.rInt1 (tCons (tOp (rIxL K) (tVar 2) (tC (.int 3))) (tNil))) (tOp (rIxL K) (tLst (tCons (tC (.int 1)) (tCons (tC (.int 3)) (tCons (tC (.int 100)) (tNil))))) (tOp FW.rMod (tCB FW.rInt1 (tCons (tOp (rIxL K) (tVar 2) (tC (.int 4))) (tNil))) (tC (.int 3))))) (tNil)))) (gName 4)) (tSeq (tIfS (tTest (tOp rEq (tOp FW.rMod (tVar 1) (tC (.int 2))) (tC (.int 1)))) (tAsg (tLst (tCons (tOp FW.rSub (tOp FW.rMod (tCB FW.rInt1 (tCons (tOp (rIxL K) (tVar 2) (tC (.int 1))) (tNil))) (tC (.int 19))) (tC (.int 9))) (tNil))) (gName 4)) (tNext)) (tSeq (tAsg (tIf (tTest (tOp rEq (tOp FW.rMod (tVar 1) (tC (.int 2))) (tC (.int 0)))) (tMake (He.ga K "Share") (sp_Share_init K) [] E0 (tCons (tOp (rIxL K) (tVar 4) (tC (.int 0))) (tCons (tOp (rIxL K) (tVar 4) (tC (.int 1))) (tNil)))) (tMake (He.ga K "Power") (sp_Power_init K) [] E0 (tCons (tOp (rIxL K) (tVar 4) (tC (.int 0))) (tNil)))) (gName 5)) (tSeq (tIfS (tTest (tOp (rNeD K) (tIf (tTest (tOp rEq (tOp FW.rMod (tVar 1) (tC (.int 2))) (tC (.int 0)))) (tLst (tCons (tFld K (tVar 5) "by") (tCons (tFld K (tVar 5) "more") (tNil)))) (tLst (tCons (tFld K (tVar 5) "more") (tNil)))) (tVar 4))) (tRet (tC (.bl false))) (tNext)) (tSeq (tPar 6 7 (tCons (tCall (sp_too_low K) [] E0 (tCons (tVar 5) (tCons (tVar 3) (tNil)))) (tCons (tCall (sp_l_least K) [] E0 (tCons (tVar 4) (tCons (tVar 3) (tNil)))) (tNil)))) (tSeq (tIfS (tTest (tOp rNe (tVar 6) (tVar 7))) (tRet (tC (.bl false))) (tNext)) (tSeq (tFor (iList K (tCall (sp_l_numbers K) [] E0 (tCons (tVar 2) (tCons (tVar 6) (tNil))))) (gName 8) (rd_law_L1 K)) (tSeq (tIfS (tAnd (tTest (tOp FW.rNotN (tVar 6) (tC .non))) (tTest (tOp rNe (FW.tEither (tMeth (He.ga K "Share") "at" (sp_Share_at K) [] E0 (tVar 5) (tCons (tVar 6) (tCons (tVar 3) (tNil)))) (tMeth (He.ga K "Power") "at" (sp_Power_at K) [] E0 (tVar 5) (tCons (tVar 6) (tCons (tVar 3) (tNil))))) (tCall (sp_l_start K) [] E0 (tCons (tVar 4) (tCons (tVar 6) (tCons (tVar 3) (tNil)))))))) (tRet (tC (.bl false))) (tNext)) (tIfS (tAnd (tTest (tOp rEq (tOp FW.rMod (tVar 1) (tC (.int 2))) (tC (.int 1)))) (tTest (tOp rNe (tVar 6) (tIf (tTest (tOp FW.rGe (tOp (rIxL K) (tVar 4) (tC (.int 0))) (tC (.int 0)))) (tC .non) (tCall (sp_l_power K) [] E0 (tCons (tOp FW.rSub (tC (.int 3)) (tCB FW.rInt1 (tCons (tOp FW.rLt (tOp (rIxL K) (tVar 4) (tC (.int 0))) (tUn FW.rNeg (tC (.int 1)))) (tNil)))) (tCons (tVar 3) (tNil)))))))) (tRet (tC (.bl false))) (tNext)))))))))))
def rd_law (K : PySem.W.Frag) : TS := tSeq (tFor (iRng1 (tCons (tC (.int 8)) (tNil))) (gName 1) (rd_law_L2 K)) (tSeq (tIfS (tTest (tOp rNe (tCall (sp_too_low K) [] E0 (tCons (tMake (He.ga K "Share") (sp_Share_init K) [] E0 (tCons (tC (.int 99)) (tCons (tC (.int 24)) (tNil)))) (tCons (tC (.int 2)) (tNil)))) (tC (.int 1681)))) (tRet (tC (.bl false))) (tNext)) (tRet (tOp FW.rIsN (tCall (sp_too_low K) [] E0 (tCons (tMake (He.ga K "Share") (sp_Share_init K) [] E0 (tCons (tC (.int 99)) (tCons (tC (.int 25)) (tNil)))) (tCons (tC (.int 2)) (tNil)))) (tC .non))))
section
variable {K : PySem.W.Frag} {H : Hp} {D : Ends}
theorem e_neI {K : PySem.W.Frag} {H : Hp} {Q : VK} {ns : List Int} {a b : Addr} (q : Q (.bl false) H) (ha : H a = some (.lst (ns.map V.int))) (hb : H b = some (.lst (ns.map V.int))) : rNeD K (.ref a) (.ref b) H Q := by
  refine e_neD (d := .list (ns.map PyData.int)) (e := .list (ns.map PyData.int)) ?_ (.lst (SqL.of ha) (dpI ns)) (.lst (SqL.of hb) (dpI ns)) (shL ns) (shL ns)
  rw [SeqAt.eqv_refl _ (SeqAt.canLay_of_shaped (shL ns))]; exact q
theorem law_L1 {a x : Addr} {b : Bg} {n k : Int} {u0 u1 u2 u6 u7 : Option V} (ha : H a = some (.lst (b.ns.map V.int))) (hx : IsBg K H x b) (o : b.Ok) (n1 : 1 ≤ n) (hn : Sz 1000 n) (k2 : 2 ≤ k) (k4 : k ≤ 4) (hl : ¬ b.low k n)
    (kk : ∀ H', Ext H H' → D.nx [u0, u1, u2, some (.int k), some (.ref a), some (.ref x), u6, u7, some (.int n)] H') :
    rd_law_L1 K D [u0, u1, u2, some (.int k), some (.ref a), some (.ref x), u6, u7, some (.int n)] H := by
  unfold rd_law_L1
  walk_at "rd"
  refine ⟨a, b, n, k, rfl, ha, o, by omega, hn, k2, k4, fun v H1 e1 hv => ?_⟩
  obtain rfl : v = false := by cases v with | false => rfl | true => exact absurd (hv.mp rfl) hl
  walk_at "rd"
  refine e_at (fun H2 e2 => ?_) rfl rfl rfl (hx.ext e1) o (by omega) hn k2 k4
  walk_at "rd"
  refine ⟨a, b, n, k, rfl, e2 _ _ (e1 _ _ ha), o, by omega, hn, k2, k4, fun H3 e3 => ?_⟩
  walk_at "rd"
  refine e_iteN (fun z => absurd rfl z) (fun _ => ?_)
  walk_at "rd"
  exact kk _ (e1.tr (e2.tr e3))
/-- what follows once the parts and the beginning are there -/
theorem law_rest {A0 : Addr} {L a x : Addr} {xs : List Int} {b : Bg} {k j : Int} {u6 u7 u8 : Option V} (A : BeK K) (hL : H L = some (.lst (xs.map V.int))) (hr : Row xs 30) (ha : H a = some (.lst (b.ns.map V.int))) (hx : IsBg K H x b) (o : b.Ok) (k2 : 2 ≤ k) (k4 : k ≤ 4)
    (hj : (j % 2 = 0 ∧ ∃ c m, b = .sh c m) ∨ (j % 2 = 1 ∧ ∃ m, b = .pw m))
    (kk : ∀ H', Ext H H' → ∀ ws : List (Option V), ws.length = 7 → D.nx (some (.ref A0) :: some (.int j) :: ws) H') :
    (tSeq (tIfS (tTest (tOp (rNeD K) (tIf (tTest (tOp rEq (tOp FW.rMod (tVar 1) (tC (.int 2))) (tC (.int 0)))) (tLst (tCons (tFld K (tVar 5) "by") (tCons (tFld K (tVar 5) "more") (tNil)))) (tLst (tCons (tFld K (tVar 5) "more") (tNil)))) (tVar 4))) (tRet (tC (.bl false))) (tNext)) (tSeq (tPar 6 7 (tCons (tCall (sp_too_low K) [] E0 (tCons (tVar 5) (tCons (tVar 3) (tNil)))) (tCons (tCall (sp_l_least K) [] E0 (tCons (tVar 4) (tCons (tVar 3) (tNil)))) (tNil)))) (tSeq (tIfS (tTest (tOp rNe (tVar 6) (tVar 7))) (tRet (tC (.bl false))) (tNext)) (tSeq (tFor (iList K (tCall (sp_l_numbers K) [] E0 (tCons (tVar 2) (tCons (tVar 6) (tNil))))) (gName 8) (rd_law_L1 K)) (tSeq (tIfS (tAnd (tTest (tOp FW.rNotN (tVar 6) (tC .non))) (tTest (tOp rNe (FW.tEither (tMeth (He.ga K "Share") "at" (sp_Share_at K) [] E0 (tVar 5) (tCons (tVar 6) (tCons (tVar 3) (tNil)))) (tMeth (He.ga K "Power") "at" (sp_Power_at K) [] E0 (tVar 5) (tCons (tVar 6) (tCons (tVar 3) (tNil))))) (tCall (sp_l_start K) [] E0 (tCons (tVar 4) (tCons (tVar 6) (tCons (tVar 3) (tNil)))))))) (tRet (tC (.bl false))) (tNext)) (tIfS (tAnd (tTest (tOp rEq (tOp FW.rMod (tVar 1) (tC (.int 2))) (tC (.int 1)))) (tTest (tOp rNe (tVar 6) (tIf (tTest (tOp FW.rGe (tOp (rIxL K) (tVar 4) (tC (.int 0))) (tC (.int 0)))) (tC .non) (tCall (sp_l_power K) [] E0 (tCons (tOp FW.rSub (tC (.int 3)) (tCB FW.rInt1 (tCons (tOp FW.rLt (tOp (rIxL K) (tVar 4) (tC (.int 0))) (tUn FW.rNeg (tC (.int 1)))) (tNil)))) (tCons (tVar 3) (tNil)))))))) (tRet (tC (.bl false))) (tNext))))))) D [some (.ref A0), some (.int j), some (.ref L), some (.int k), some (.ref a), some (.ref x), u6, u7, u8] H := by
  have tail : ∀ (p : Addr) (ns : List Int) (H' : Hp), ns = b.ns → H p = none → H' = upd H p (.lst (ns.map V.int)) → (tSeq (tPar 6 7 (tCons (tCall (sp_too_low K) [] E0 (tCons (tVar 5) (tCons (tVar 3) (tNil)))) (tCons (tCall (sp_l_least K) [] E0 (tCons (tVar 4) (tCons (tVar 3) (tNil)))) (tNil)))) (tSeq (tIfS (tTest (tOp rNe (tVar 6) (tVar 7))) (tRet (tC (.bl false))) (tNext)) (tSeq (tFor (iList K (tCall (sp_l_numbers K) [] E0 (tCons (tVar 2) (tCons (tVar 6) (tNil))))) (gName 8) (rd_law_L1 K)) (tSeq (tIfS (tAnd (tTest (tOp FW.rNotN (tVar 6) (tC .non))) (tTest (tOp rNe (FW.tEither (tMeth (He.ga K "Share") "at" (sp_Share_at K) [] E0 (tVar 5) (tCons (tVar 6) (tCons (tVar 3) (tNil)))) (tMeth (He.ga K "Power") "at" (sp_Power_at K) [] E0 (tVar 5) (tCons (tVar 6) (tCons (tVar 3) (tNil))))) (tCall (sp_l_start K) [] E0 (tCons (tVar 4) (tCons (tVar 6) (tCons (tVar 3) (tNil)))))))) (tRet (tC (.bl false))) (tNext)) (tIfS (tAnd (tTest (tOp rEq (tOp FW.rMod (tVar 1) (tC (.int 2))) (tC (.int 1)))) (tTest (tOp rNe (tVar 6) (tIf (tTest (tOp FW.rGe (tOp (rIxL K) (tVar 4) (tC (.int 0))) (tC (.int 0)))) (tC .non) (tCall (sp_l_power K) [] E0 (tCons (tOp FW.rSub (tC (.int 3)) (tCB FW.rInt1 (tCons (tOp FW.rLt (tOp (rIxL K) (tVar 4) (tC (.int 0))) (tUn FW.rNeg (tC (.int 1)))) (tNil)))) (tCons (tVar 3) (tNil)))))))) (tRet (tC (.bl false))) (tNext)))))) D [some (.ref A0), some (.int j), some (.ref L), some (.int k), some (.ref a), some (.ref x), u6, u7, u8] H' := by
    rintro p ns H1 rfl hp rfl
    have e1 := Ext.new (o := .lst (b.ns.map V.int)) hp
    generalize upd H p (.lst (b.ns.map V.int)) = H1 at *
    walk_at "rd"
    refine ⟨x, b, k, rfl, hx.ext e1, o, k2, k4, fun v H2 hv e2 => ?_⟩
    walk_at "rd"
    refine ⟨a, b, k, rfl, e2 _ _ (e1 _ _ ha), o, k2, k4, fun w H3 hw e3 => ?_⟩
    obtain rfl := hv.same o k2 k4 hw
    have e13 := e1.tr (e2.tr e3)
    have hsc : v = .non ∨ ∃ f : Int, v = .int f ∧ 1 ≤ f ∧ Sz 100 f := by
      cases hv with
      | no _ => exact .inl rfl
      | yes r r1 r2 _ _ => exact .inr ⟨_, rfl, pow_pos' r1 _, szr (by omega) (by omega) k4⟩
    walk_at "rd"
    have hs : scal v v = true := by rcases hsc with rfl | ⟨f, rfl, _⟩ <;> rfl
    refine e_ne ?_ hs
    walk_at "rd"
    refine e_iteN (fun z => absurd rfl z) (fun _ => ?_)
    walk_at "rd"
    refine ⟨L, xs, v, rfl, e13 _ _ hL, hr, hsc, fun P ys H4 e4 gP hys => ?_⟩
    have e14 := e13.tr e4
    refine i_list' _ ?_ (SqL.of gP)
    refine for_list (K := K) (a := P) (xs := ys.map V.int) (fun i σ H' => Ext H4 H' ∧ ∃ w8, σ = [some (.ref A0), some (.int j), some (.ref L), some (.int k), some (.ref a), some (.ref x), some v, some v, w8]) ⟨Ext.rfl', _, rfl⟩ (fun i σ H' _ h => h.1.sqL (SqL.of gP)) ?_ ?_
    · rintro i z σ H' hz ⟨e, w8, rfl⟩
      obtain ⟨n, hm, rfl⟩ := List.mem_map.mp (List.mem_of_getElem? hz)
      obtain ⟨n1, n2, n3⟩ := hys n hm
      walk_at "re"
      refine law_L1 ((e14.tr e) _ _ ha) (hx.ext (e14.tr e)) o n1 n2 k2 k4 ?_ (fun H'' e'' => ⟨e.tr e'', _, rfl⟩)
      cases hv with
      | no h => exact Bg.not_low o (by omega) n1 fun r r1 _ => Bg.Fst.none_all o k2 k4 (.no h) r r1
      | yes r r1 r2 rp rf => exact Bg.Fst.below o k2 k4 (.yes r r1 r2 rp rf) n1 (n3 _ rfl)
    · rintro σ H5 ⟨e5, w8, rfl⟩
      have e15 := e14.tr e5
      have last : ∀ H6, Ext H H6 → (tIfS (tAnd (tTest (tOp rEq (tOp FW.rMod (tVar 1) (tC (.int 2))) (tC (.int 1)))) (tTest (tOp rNe (tVar 6) (tIf (tTest (tOp FW.rGe (tOp (rIxL K) (tVar 4) (tC (.int 0))) (tC (.int 0)))) (tC .non) (tCall (sp_l_power K) [] E0 (tCons (tOp FW.rSub (tC (.int 3)) (tCB FW.rInt1 (tCons (tOp FW.rLt (tOp (rIxL K) (tVar 4) (tC (.int 0))) (tUn FW.rNeg (tC (.int 1)))) (tNil)))) (tCons (tVar 3) (tNil)))))))) (tRet (tC (.bl false))) (tNext)) D [some (.ref A0), some (.int j), some (.ref L), some (.int k), some (.ref a), some (.ref x), some v, some v, w8] H6 := by
        intro H6 e16
        walk_at "rd"
        rotate_left 1
        · decide
        rcases hj with ⟨hj, c, m, rfl⟩ | ⟨hj, m, rfl⟩
        · rw [hj]
          refine e_ite (fun z => absurd (show V.int 0 = V.int 1 from z) (by decide)) (fun _ => ?_)
          walk_at "rd"
          exact kk _ e16 [_, _, _, _, _, _, _] rfl
        · rw [hj]
          refine e_ite (fun _ => ?_) (fun z => absurd rfl z)
          have vv := hv.pw k2 k4 o
          walk_at "rd"
          refine e_ixL ?_ (SqL.of (e16 _ _ ha)) rfl
          walk_at "rd"
          refine e_ite (fun hm => ?_) (fun hm => ?_)
          · rw [if_pos hm] at vv
            subst vv
            walk_at "rd"
            refine e_iteN (fun z => absurd rfl z) (fun _ => ?_)
            walk_at "rd"
            exact kk _ e16 [_, _, _, _, _, _, _] rfl
          · rw [if_neg hm] at vv
            subst vv
            walk_at "rd"
            refine e_ixL ?_ (SqL.of (e16 _ _ ha)) rfl
            walk_at "rd"
            have er : (3 - (if decide (m < -1) = true then 1 else 0) : Int) = Bg.r0 m := by
              unfold Bg.r0
              by_cases z : m < -1
              · rw [if_pos (decide_eq_true z), if_pos z]; rfl
              · rw [if_neg (by rw [decide_eq_false z]; decide), if_neg z]; rfl
            rw [er]
            have b1 : (Bg.r0 m).natAbs < 2 ^ 10 := by unfold Bg.r0; split <;> decide
            refine ⟨_, k, 10, rfl, by omega, b1, by decide, pow_room k4 (by decide), ?_⟩
            walk_at "rd"
            refine e_iteN (fun z => absurd rfl z) (fun _ => ?_)
            walk_at "rd"
            exact kk _ e16 [_, _, _, _, _, _, _] rfl
      walk_at "rd"
      rcases hsc with rfl | ⟨f, rfl, f1, fs⟩
      · refine e_iteN (fun z => absurd rfl z) (fun _ => ?_)
        exact last _ e15
      · refine e_iteN (fun _ => ?_) (fun z => absurd z (by simp))
        walk_at "rd"
        refine e_at (fun H6 e6 => ?_) rfl rfl rfl (hx.ext e15) o (by omega) (fs.mono (by decide)) k2 k4
        walk_at "rd"
        refine ⟨a, b, f, k, rfl, e6 _ _ (e15 _ _ ha), o, by omega, fs.mono (by decide), k2, k4, fun H7 e7 => ?_⟩
        walk_at "rd"
        refine e_iteN (fun z => absurd rfl z) (fun _ => ?_)
        exact last _ (e15.tr (e6.tr e7))
  obtain ⟨dx, hx'⟩ := id hx
  walk_at "rd"
  rotate_left 1
  · decide
  rcases hj with ⟨hj, c, m, rfl⟩ | ⟨hj, m, rfl⟩
  · rw [hj]
    refine e_ite (fun _ => ?_) (fun z => absurd rfl z)
    walk_at "rd"
    refine e_fB ?_ hx' A.cS A.s_by rfl
    walk_at "rd"
    refine e_fB ?_ hx' A.cS A.s_more rfl
    walk_at "rd"
    refine ⟨by show 2 ≤ sizeLine; decide, fun p hp => ?_⟩
    walk_at "rd"
    refine e_neI (ns := [c, m]) ?_ upd_same (Ext.new hp _ _ ha)
    walk_at "re"
    with_reducible refine s_next ?_
    exact tail p [c, m] _ rfl hp rfl
  · rw [hj]
    refine e_ite (fun z => absurd (show V.int 1 = V.int 0 from z) (by decide)) (fun _ => ?_)
    walk_at "rd"
    refine e_fB ?_ hx' A.cP A.p_more rfl
    walk_at "rd"
    refine ⟨by show 1 ≤ sizeLine; decide, fun p hp => ?_⟩
    walk_at "rd"
    refine e_neI (ns := [m]) ?_ upd_same (Ext.new hp _ _ ha)
    walk_at "re"
    with_reducible refine s_next ?_
    exact tail p [m] _ rfl hp rfl
theorem mk_share {x dx : Addr} {b m : Int} {R : Hp → Prop} (o : (Bg.sh b m).Ok) (hx : H x = none) (hdx : H dx = none) (hne : dx ≠ x) (q : ∀ H', Ext H H' → IsBg K H' x (.sh b m) → R H') :
    sp_Share_init K [.ref x, .int b, .int m] (upd (upd H dx (.own x)) x (.ins (He.ga K "Share") dx [])) (fun v H2 => v = .non ∧ R H2) E0 := by
  have e3 : Ext H (upd (upd H dx (.own x)) x (.ins (He.ga K "Share") dx [])) := (Ext.new hdx).tr (Ext.new (by rw [upd_ne hne.symm]; exact hx))
  exact ⟨x, dx, b, m, rfl, o, upd_same, fun H4 e4 h4 => ⟨rfl, q H4 (fun b ob q => e4 _ _ (ne_of_none q hx) (e3 _ _ q)) ⟨dx, h4⟩⟩⟩
theorem mk_power {x dx : Addr} {m : Int} {R : Hp → Prop} (o : (Bg.pw m).Ok) (hx : H x = none) (hdx : H dx = none) (hne : dx ≠ x) (q : ∀ H', Ext H H' → IsBg K H' x (.pw m) → R H') :
    sp_Power_init K [.ref x, .int m] (upd (upd H dx (.own x)) x (.ins (He.ga K "Power") dx [])) (fun v H2 => v = .non ∧ R H2) E0 := by
  have e3 : Ext H (upd (upd H dx (.own x)) x (.ins (He.ga K "Power") dx [])) := (Ext.new hdx).tr (Ext.new (by rw [upd_ne hne.symm]; exact hx))
  exact ⟨x, dx, m, rfl, o, upd_same, fun H4 e4 h4 => ⟨rfl, q H4 (fun b ob q => e4 _ _ (ne_of_none q hx) (e3 _ _ q)) ⟨dx, h4⟩⟩⟩
theorem law_L2 {a : Addr} {ns : List Int} {j : Int} {vs : List (Option V)} (A : BeK K) (hl : vs.length = 7) (hj0 : 0 ≤ j) (hj : j < 8) (hA : SqL K H a (ns.map V.int))
    (k : ∀ H', Ext H H' → ∀ ws : List (Option V), ws.length = 7 → D.nx (some (.ref a) :: some (.int j) :: ws) H') :
    rd_law_L2 K D (some (.ref a) :: some (.int j) :: vs) H := by
  match vs, hl with
  | [v2, v3, v4, v5, v6, v7, v8], _ =>
  unfold rd_law_L2
  walk_at "rd"
  refine ⟨a, ns, j, rfl, hA, hj0, fun c => ?_⟩
  walk_at "rd"
  refine ⟨c, j, rfl, hj0, by omega, fun c' => ?_⟩
  walk_at "rd"
  refine ⟨c', 30, rfl, by decide, fun L xs H1 hL e1 g1 hr => ?_⟩
  obtain ⟨r0, r00, r01, hr0⟩ := row_at (i := 0) hr (by decide) (by decide)
  obtain ⟨r1, r10, r11, hr1⟩ := row_at (i := 1) hr (by decide) (by decide)
  obtain ⟨r2, r20, r21, hr2⟩ := row_at (i := 2) hr (by decide) (by decide)
  obtain ⟨r3, r30, r31, hr3⟩ := row_at (i := 3) hr (by decide) (by decide)
  obtain ⟨r4, r40, r41, hr4⟩ := row_at (i := 4) hr (by decide) (by decide)
  walk_at "rd"
  refine e_ixL ?_ (SqL.of g1) hr0
  walk_at "rd"
  rotate_left 1
  · decide
  refine e_ixL ?_ (SqL.of g1) hr1
  walk_at "rd"
  refine ⟨by show 3 ≤ sizeLine; decide, fun p2 h2 => ?_⟩
  have e2 := Ext.new (o := .lst [V.int 5, V.int 20, V.int 99]) h2
  have g2 : (upd H1 p2 (.lst [V.int 5, V.int 20, V.int 99])) p2 = some (.lst [V.int 5, V.int 20, V.int 99]) := upd_same
  generalize upd H1 p2 (.lst [V.int 5, V.int 20, V.int 99]) = H2 at *
  walk_at "rd"
  refine e_ixL ?_ (SqL.of (e2 _ _ g1)) hr2
  walk_at "rd"
  rotate_left 1
  · decide
  obtain ⟨q1, hq1, ha1⟩ := list_at (xs := [V.int 5, V.int 20, V.int 99]) (i := r2 % 3) (by omega) (by show r2 % 3 < 3; omega)
  refine e_ixL ?_ (SqL.of g2) ha1
  obtain ⟨q1, rfl, q10, q19⟩ : ∃ m' : Int, q1 = .int m' ∧ 1 ≤ m' ∧ m' ≤ 99 := by
    simp only [List.mem_cons, List.not_mem_nil, or_false] at hq1
    rcases hq1 with rfl | rfl | rfl <;> exact ⟨_, rfl, by decide, by decide⟩
  walk_at "rd"
  rotate_left 1
  · (show 0 < q1; omega)
  refine e_ixL ?_ (SqL.of (e2 _ _ g1)) hr3
  walk_at "rd"
  refine ⟨by show 3 ≤ sizeLine; decide, fun p3 h3 => ?_⟩
  have e3 := Ext.new (o := .lst [V.int 1, V.int 3, V.int 100]) h3
  have g3 : (upd H2 p3 (.lst [V.int 1, V.int 3, V.int 100])) p3 = some (.lst [V.int 1, V.int 3, V.int 100]) := upd_same
  generalize upd H2 p3 (.lst [V.int 1, V.int 3, V.int 100]) = H3 at *
  walk_at "rd"
  refine e_ixL ?_ (SqL.of (e3 _ _ (e2 _ _ g1))) hr4
  walk_at "rd"
  rotate_left 1
  · decide
  obtain ⟨q2, hq2, ha2⟩ := list_at (xs := [V.int 1, V.int 3, V.int 100]) (i := r4 % 3) (by omega) (by show r4 % 3 < 3; omega)
  refine e_ixL ?_ (SqL.of g3) ha2
  obtain ⟨q2, rfl, q20, q29⟩ : ∃ m' : Int, q2 = .int m' ∧ 1 ≤ m' ∧ m' ≤ 100 := by
    simp only [List.mem_cons, List.not_mem_nil, or_false] at hq2
    rcases hq2 with rfl | rfl | rfl <;> exact ⟨_, rfl, by decide, by decide⟩
  walk_at "rd"
  rotate_left 1
  · (show 0 < q2; omega)
  refine ⟨by show 2 ≤ sizeLine; decide, fun p4 h4 => ?_⟩
  have b1 := Int.emod_nonneg r1 (show q1 ≠ 0 by omega)
  have b2 := Int.emod_lt_of_pos r1 (show 0 < q1 by omega)
  have b3 := Int.emod_nonneg r3 (show q2 ≠ 0 by omega)
  have b4 := Int.emod_lt_of_pos r3 (show 0 < q2 by omega)
  have o : (Bg.sh (1 + r1 % q1) (r3 % q2)).Ok := ⟨by omega, by omega, by omega, by omega⟩
  have e4 := Ext.new (o := .lst [V.int (1 + r1 % q1), V.int (r3 % q2)]) h4
  have g4 : (upd H3 p4 (.lst [V.int (1 + r1 % q1), V.int (r3 % q2)])) p4 = some (.lst ((Bg.sh (1 + r1 % q1) (r3 % q2)).ns.map V.int)) := upd_same
  generalize upd H3 p4 (.lst [V.int (1 + r1 % q1), V.int (r3 % q2)]) = H4 at *
  have e14 : Ext H1 H4 := e2.tr (e3.tr e4)
  walk_at "rd"
  rotate_left 1
  · decide
  rcases (show j % 2 = 0 ∨ j % 2 = 1 by omega) with hj2 | hj2
  · rw [hj2]
    refine e_ite (fun z => absurd (show V.int 0 = V.int 1 from z) (by decide)) (fun _ => ?_)
    walk_at "rd"
    rotate_left 1
    · decide
    rw [hj2]
    refine e_ite (fun _ => ?_) (fun z => absurd rfl z)
    walk_at "re"
    refine e_ixL ?_ (SqL.of g4) rfl
    walk_at "re"
    refine e_ixL ?_ (SqL.of g4) rfl
    walk_at "re"
    intro x dx hx hdx hne
    refine mk_share o hx hdx hne fun H5 e5 hB => ?_
    exact law_rest A (e5 _ _ (e14 _ _ g1)) hr (e5 _ _ g4) hB o (by omega) (by omega) (.inl ⟨hj2, _, _, rfl⟩) fun H6 e6 ws hw => k H6 (e1.tr (e14.tr (e5.tr e6))) ws hw
  · rw [hj2]
    refine e_ite (fun _ => ?_) (fun z => absurd rfl z)
    walk_at "rd"
    refine e_ixL ?_ (SqL.of (e14 _ _ g1)) hr1
    walk_at "rd"
    rotate_left 1
    · decide
    refine ⟨by show 1 ≤ sizeLine; decide, fun p5 h5 => ?_⟩
    have o : (Bg.pw (r1 % 19 - 9)).Ok := ⟨by omega, by omega⟩
    have e5 := Ext.new (o := .lst [V.int (r1 % 19 - 9)]) h5
    have g5 : (upd H4 p5 (.lst [V.int (r1 % 19 - 9)])) p5 = some (.lst ((Bg.pw (r1 % 19 - 9)).ns.map V.int)) := upd_same
    generalize upd H4 p5 (.lst [V.int (r1 % 19 - 9)]) = H5 at *
    walk_at "rd"
    rotate_left 1
    · decide
    rw [hj2]
    refine e_ite (fun z => absurd (show V.int 1 = V.int 0 from z) (by decide)) (fun _ => ?_)
    walk_at "re"
    refine e_ixL ?_ (SqL.of g5) rfl
    walk_at "re"
    intro x dx hx hdx hne
    refine mk_power o hx hdx hne fun H6 e6 hB => ?_
    exact law_rest A (e6 _ _ (e5 _ _ (e14 _ _ g1))) hr (e6 _ _ g5) hB o (by omega) (by omega) (.inr ⟨hj2, _, rfl⟩) fun H7 e7 ws hw => k H7 (e1.tr (e14.tr (e5.tr (e6.tr e7)))) ws hw
end
def sp_law (K : PySem.W.Frag) : Sp := fun vs H Q _ => ∃ (a : Addr) (ns : List Int), vs = [.ref a] ∧ SqL K H a (ns.map V.int) ∧ ∀ H', Q (.bl true) H'
theorem w24 : (Bg.sh 99 24).P 2 41 ∧ ∀ s : Fin 41, 1 ≤ s.val → ¬ (Bg.sh 99 24).P 2 (s.val : Int) := by decide +kernel
theorem w25 : ∀ s : Fin 120, 1 ≤ s.val → ¬ (Bg.sh 99 25).P 2 (s.val : Int) := by decide +kernel
theorem f24 {v : V} (h : (Bg.sh 99 24).Fst 2 119 v) : v = .int 1681 := by
  obtain ⟨p, q⟩ := w24
  cases h with
  | no h => exact absurd p (h 41 (by decide) (by decide))
  | yes r r1 r2 rp rf =>
    have : r = 41 := by
      rcases Int.lt_trichotomy r 41 with z | z | z
      · have := q ⟨r.toNat, by omega⟩ (by show 1 ≤ r.toNat; omega)
        rw [show ((r.toNat : Nat) : Int) = r by omega] at this
        exact absurd rp this
      · exact z
      · exact absurd p (rf 41 (by decide) z)
    subst this; rfl
theorem f25 {v : V} (h : (Bg.sh 99 25).Fst 2 119 v) : v = .non := by
  cases h with
  | no h => rfl
  | yes r r1 r2 rp rf =>
    have := w25 ⟨r.toNat, by omega⟩ (by show 1 ≤ r.toNat; omega)
    rw [show ((r.toNat : Nat) : Int) = r by omega] at this
    exact absurd rp this
theorem pure_law (K : PySem.W.Frag) (A : BeK K) (vs : List V) (H : Hp) (Q : VK) (E : XK) (h : sp_law K vs H Q E) : rd_law K { nx := fun _ H' => Q .non H', rt := Q } (start ["_law_script", "_law_j", "_law_row_here", "_law_k", "_law_parts", "_law_told", "_law_found", "_law_due", "_law_n"] vs) H := by
  obtain ⟨a, ns, rfl, hA, q⟩ := h
  unfold rd_law
  walk_at "rd"
  · refine for_range (lo := 0) (n := 8) (fun i σ H' => Ext H H' ∧ ∃ (u : Option V) (ws : List (Option V)), ws.length = 7 ∧ σ = some (.ref a) :: u :: ws) ⟨Ext.rfl', none, _, rfl, rfl⟩ ?_ ?_
    · rintro i σ H' hi ⟨e, u, ws, hl, rfl⟩
      walk_at "re"
      refine law_L2 A (j := 0 + (i : Int)) hl (by omega) (by omega) (e.sqL hA) ?_
      · intro H'' e'' ws' hl'
        exact ⟨e.tr e'', _, _, hl', rfl⟩
    · rintro σ H' ⟨e, u, ws, hl, rfl⟩
      walk_at "rd"
      intro x dx hx hdx hne
      refine mk_share ⟨by decide, by decide, by decide, by decide⟩ hx hdx hne fun H1 e1 hB => ?_
      walk_at "rd"
      refine ⟨x, _, 2, rfl, hB, ⟨by decide, by decide, by decide, by decide⟩, by decide, by decide, fun v H2 hv e2 => ?_⟩
      obtain rfl := f24 hv
      walk_at "rd"
      refine e_iteN (fun z => absurd rfl z) (fun _ => ?_)
      walk_at "rd"
      intro x dx hx hdx hne
      refine mk_share ⟨by decide, by decide, by decide, by decide⟩ hx hdx hne fun H1 e1 hB => ?_
      walk_at "rd"
      refine ⟨x, _, 2, rfl, hB, ⟨by decide, by decide, by decide, by decide⟩, by decide, by decide, fun v H2 hv e2 => ?_⟩
      obtain rfl := f25 hv
      walk_at "rd"
      exact q _
  · decide
end FWL
namespace FWL
open PySem PySem.Spec PyProof.Rows L2 FW
local macro_rules | `(tactic| walk_at "ln") => `(tactic| (intro vs H Q E h; repeat (obtain ⟨x', h⟩ := h; first | (rw [x']; rfl) | skip)))
def top (i : Nat) : Stmt := PySem.Challenge.pw_floorward_k48_beginnings.main.body.getD i (.Pass ⟨0, 0, 0, 0⟩)
def clsBody : Stmt → List Stmt | .ClassDef (body := b) .. => b | _ => []
def meth (i j : Nat) : Stmt := (clsBody (top i)).getD j (.Pass ⟨0, 0, 0, 0⟩)
abbrev st_is_whole : Stmt := FWL.top 4
abbrev N_is_whole : List Str := ["thing"]
theorem sc_is_whole : FnScope N_is_whole ["thing"] (defScope st_is_whole) := ⟨rfl, rfl, rfl, by decide +kernel, rfl, by decide +kernel, by decide +kernel⟩
abbrev st_power : Stmt := FWL.top 5
abbrev N_power : List Str := ["x", "k", "found", "turn"]
theorem sc_power : FnScope N_power ["x", "k"] (defScope st_power) := ⟨rfl, rfl, rfl, by decide +kernel, rfl, by decide +kernel, by decide +kernel⟩
abbrev st_bits : Stmt := FWL.top 6
abbrev N_bits : List Str := ["n", "low", "high", "middle"]
theorem sc_bits : FnScope N_bits ["n"] (defScope st_bits) := ⟨rfl, rfl, rfl, by decide +kernel, rfl, by decide +kernel, by decide +kernel⟩
abbrev st_is_between : Stmt := FWL.top 9
abbrev N_is_between : List Str := ["thing", "least", "greatest"]
theorem sc_is_between : FnScope N_is_between ["thing", "least", "greatest"] (defScope st_is_between) := ⟨rfl, rfl, rfl, by decide +kernel, rfl, by decide +kernel, by decide +kernel⟩
abbrev st_Share_init : Stmt := FWL.meth 10 0
abbrev N_Share_init : List Str := ["self", "by", "more"]
theorem sc_Share_init : FnScope N_Share_init ["self", "by", "more"] (defScope st_Share_init) := ⟨rfl, rfl, rfl, by decide +kernel, rfl, by decide +kernel, by decide +kernel⟩
abbrev st_Share_at : Stmt := FWL.meth 10 2
abbrev N_Share_at : List Str := ["self", "n", "k"]
theorem sc_Share_at : FnScope N_Share_at ["self", "n", "k"] (defScope st_Share_at) := ⟨rfl, rfl, rfl, by decide +kernel, rfl, by decide +kernel, by decide +kernel⟩
abbrev st_Power_init : Stmt := FWL.meth 11 0
abbrev N_Power_init : List Str := ["self", "more"]
theorem sc_Power_init : FnScope N_Power_init ["self", "more"] (defScope st_Power_init) := ⟨rfl, rfl, rfl, by decide +kernel, rfl, by decide +kernel, by decide +kernel⟩
abbrev st_Power_at : Stmt := FWL.meth 11 2
abbrev N_Power_at : List Str := ["self", "n", "k", "length"]
theorem sc_Power_at : FnScope N_Power_at ["self", "n", "k"] (defScope st_Power_at) := ⟨rfl, rfl, rfl, by decide +kernel, rfl, by decide +kernel, by decide +kernel⟩
abbrev st_too_low : Stmt := FWL.top 12
abbrev N_too_low : List Str := ["beginning", "k", "r", "n"]
theorem sc_too_low : FnScope N_too_low ["beginning", "k"] (defScope st_too_low) := ⟨rfl, rfl, rfl, by decide +kernel, rfl, by decide +kernel, by decide +kernel⟩
abbrev st_l_cell_at : Stmt := FWL.top 14
abbrev N_l_cell_at : List Str := ["_law_script", "_law_k"]
theorem sc_l_cell_at : FnScope N_l_cell_at ["_law_script", "_law_k"] (defScope st_l_cell_at) := ⟨rfl, rfl, rfl, by decide +kernel, rfl, by decide +kernel, by decide +kernel⟩
abbrev st_l_mixed : Stmt := FWL.top 15
abbrev N_l_mixed : List Str := ["_law_cell", "_law_k", "_law_spread"]
theorem sc_l_mixed : FnScope N_l_mixed ["_law_cell", "_law_k"] (defScope st_l_mixed) := ⟨rfl, rfl, rfl, by decide +kernel, rfl, by decide +kernel, by decide +kernel⟩
abbrev st_l_row : Stmt := FWL.top 16
abbrev N_l_row : List Str := ["_law_cell", "_law_many", "_law_left", "_law_row_here", "_law_k"]
theorem sc_l_row : FnScope N_l_row ["_law_cell", "_law_many"] (defScope st_l_row) := ⟨rfl, rfl, rfl, by decide +kernel, rfl, by decide +kernel, by decide +kernel⟩
abbrev st_l_apart : Stmt := FWL.top 17
abbrev N_l_apart : List Str := ["_law_cell", "_law_k"]
theorem sc_l_apart : FnScope N_l_apart ["_law_cell", "_law_k"] (defScope st_l_apart) := ⟨rfl, rfl, rfl, by decide +kernel, rfl, by decide +kernel, by decide +kernel⟩
abbrev st_l_power : Stmt := FWL.top 18
abbrev N_l_power : List Str := ["_law_x", "_law_k", "_law_found", "_law_turn"]
theorem sc_l_power : FnScope N_l_power ["_law_x", "_law_k"] (defScope st_l_power) := ⟨rfl, rfl, rfl, by decide +kernel, rfl, by decide +kernel, by decide +kernel⟩
abbrev st_l_great : Stmt := FWL.top 19
abbrev N_l_great : List Str := ["_law_row_here", "_law_at", "_law_many", "_law_found", "_law_k"]
theorem sc_l_great : FnScope N_l_great ["_law_row_here", "_law_at", "_law_many"] (defScope st_l_great) := ⟨rfl, rfl, rfl, by decide +kernel, rfl, by decide +kernel, by decide +kernel⟩
abbrev st_l_length : Stmt := FWL.top 20
abbrev N_l_length : List Str := ["_law_n", "_law_k", "_law_u", "_law_over"]
theorem sc_l_length : FnScope N_l_length ["_law_n", "_law_k"] (defScope st_l_length) := ⟨rfl, rfl, rfl, by decide +kernel, rfl, by decide +kernel, by decide +kernel⟩
abbrev st_l_start : Stmt := FWL.top 21
abbrev N_l_start : List Str := ["_law_parts", "_law_n", "_law_k", "_law_u"]
theorem sc_l_start : FnScope N_l_start ["_law_parts", "_law_n", "_law_k"] (defScope st_l_start) := ⟨rfl, rfl, rfl, by decide +kernel, rfl, by decide +kernel, by decide +kernel⟩
abbrev st_l_is_low : Stmt := FWL.top 22
abbrev N_l_is_low : List Str := ["_law_parts", "_law_n", "_law_k", "_law_start_here"]
theorem sc_l_is_low : FnScope N_l_is_low ["_law_parts", "_law_n", "_law_k"] (defScope st_l_is_low) := ⟨rfl, rfl, rfl, by decide +kernel, rfl, by decide +kernel, by decide +kernel⟩
abbrev st_l_least : Stmt := FWL.top 23
abbrev N_l_least : List Str := ["_law_parts", "_law_k", "_law_r"]
theorem sc_l_least : FnScope N_l_least ["_law_parts", "_law_k"] (defScope st_l_least) := ⟨rfl, rfl, rfl, by decide +kernel, rfl, by decide +kernel, by decide +kernel⟩
abbrev st_l_numbers : Stmt := FWL.top 24
abbrev N_l_numbers : List Str := ["_law_row_here", "_law_found", "_law_some", "_law_k", "_law_number"]
theorem sc_l_numbers : FnScope N_l_numbers ["_law_row_here", "_law_found"] (defScope st_l_numbers) := ⟨rfl, rfl, rfl, by decide +kernel, rfl, by decide +kernel, by decide +kernel⟩
abbrev st_law : Stmt := FWL.top 25
abbrev N_law : List Str := ["_law_script", "_law_j", "_law_row_here", "_law_k", "_law_parts", "_law_told", "_law_found", "_law_due", "_law_n"]
theorem sc_law : FnScope N_law ["_law_script"] (defScope st_law) := ⟨rfl, rfl, rfl, by decide +kernel, rfl, by decide +kernel, by decide +kernel⟩
structure Tx (K : PySem.W.Frag) (mg : Str → Option Value) : Prop where
  n_abs : mg "abs" = none
  n_bool : mg "bool" = none
  n_int : mg "int" = none
  n_isinstance : mg "isinstance" = none
  n_len : mg "len" = none
  n_range : mg "range" = none
  i_ROOTS_LOOKED_AT : ∃ t, mg "ROOTS_LOOKED_AT" = some (.int 120 t)
  g_is_whole : mg "is_whole" = some (.ref (He.ga K "is_whole"))
  g_power : mg "power" = some (.ref (He.ga K "power"))
  g_bits : mg "bits" = some (.ref (He.ga K "bits"))
  g_is_between : mg "is_between" = some (.ref (He.ga K "is_between"))
  g_too_low : mg "too_low" = some (.ref (He.ga K "too_low"))
  g__law_cell_at : mg "_law_cell_at" = some (.ref (He.ga K "_law_cell_at"))
  g__law_mixed : mg "_law_mixed" = some (.ref (He.ga K "_law_mixed"))
  g__law_row : mg "_law_row" = some (.ref (He.ga K "_law_row"))
  g__law_apart : mg "_law_apart" = some (.ref (He.ga K "_law_apart"))
  g__law_power : mg "_law_power" = some (.ref (He.ga K "_law_power"))
  g__law_great : mg "_law_great" = some (.ref (He.ga K "_law_great"))
  g__law_length : mg "_law_length" = some (.ref (He.ga K "_law_length"))
  g__law_start : mg "_law_start" = some (.ref (He.ga K "_law_start"))
  g__law_is_low : mg "_law_is_low" = some (.ref (He.ga K "_law_is_low"))
  g__law_least : mg "_law_least" = some (.ref (He.ga K "_law_least"))
  g__law_numbers : mg "_law_numbers" = some (.ref (He.ga K "_law_numbers"))
  g_law : mg "law" = some (.ref (He.ga K "law"))
  g_Share : mg "Share" = some (.ref (He.ga K "Share"))
  g_Power : mg "Power" = some (.ref (He.ga K "Power"))
  d_is_whole : ∃ fd, FunD K "is_whole" "is_whole" (defArgs st_is_whole) (defBody st_is_whole) (defScope st_is_whole) [] [] (He.ga K "is_whole") fd
  d_power : ∃ fd, FunD K "power" "power" (defArgs st_power) (defBody st_power) (defScope st_power) [] [] (He.ga K "power") fd
  d_bits : ∃ fd, FunD K "bits" "bits" (defArgs st_bits) (defBody st_bits) (defScope st_bits) [] [] (He.ga K "bits") fd
  d_is_between : ∃ fd, FunD K "is_between" "is_between" (defArgs st_is_between) (defBody st_is_between) (defScope st_is_between) [] [] (He.ga K "is_between") fd
  d_Share_init : ∃ fd, FunD K "__init__" "Share.__init__" (defArgs st_Share_init) (defBody st_Share_init) (defScope st_Share_init) [] [] (He.ma K (He.ga K "Share") "__init__") fd
  d_Share_at : ∃ fd, FunD K "at" "Share.at" (defArgs st_Share_at) (defBody st_Share_at) (defScope st_Share_at) [] [] (He.ma K (He.ga K "Share") "at") fd
  d_Power_init : ∃ fd, FunD K "__init__" "Power.__init__" (defArgs st_Power_init) (defBody st_Power_init) (defScope st_Power_init) [] [] (He.ma K (He.ga K "Power") "__init__") fd
  d_Power_at : ∃ fd, FunD K "at" "Power.at" (defArgs st_Power_at) (defBody st_Power_at) (defScope st_Power_at) [] [] (He.ma K (He.ga K "Power") "at") fd
  d_too_low : ∃ fd, FunD K "too_low" "too_low" (defArgs st_too_low) (defBody st_too_low) (defScope st_too_low) [] [] (He.ga K "too_low") fd
  d_l_cell_at : ∃ fd, FunD K "_law_cell_at" "_law_cell_at" (defArgs st_l_cell_at) (defBody st_l_cell_at) (defScope st_l_cell_at) [] [] (He.ga K "_law_cell_at") fd
  d_l_mixed : ∃ fd, FunD K "_law_mixed" "_law_mixed" (defArgs st_l_mixed) (defBody st_l_mixed) (defScope st_l_mixed) [] [] (He.ga K "_law_mixed") fd
  d_l_row : ∃ fd, FunD K "_law_row" "_law_row" (defArgs st_l_row) (defBody st_l_row) (defScope st_l_row) [] [] (He.ga K "_law_row") fd
  d_l_apart : ∃ fd, FunD K "_law_apart" "_law_apart" (defArgs st_l_apart) (defBody st_l_apart) (defScope st_l_apart) [] [] (He.ga K "_law_apart") fd
  d_l_power : ∃ fd, FunD K "_law_power" "_law_power" (defArgs st_l_power) (defBody st_l_power) (defScope st_l_power) [] [] (He.ga K "_law_power") fd
  d_l_great : ∃ fd, FunD K "_law_great" "_law_great" (defArgs st_l_great) (defBody st_l_great) (defScope st_l_great) [] [] (He.ga K "_law_great") fd
  d_l_length : ∃ fd, FunD K "_law_length" "_law_length" (defArgs st_l_length) (defBody st_l_length) (defScope st_l_length) [] [] (He.ga K "_law_length") fd
  d_l_start : ∃ fd, FunD K "_law_start" "_law_start" (defArgs st_l_start) (defBody st_l_start) (defScope st_l_start) [] [] (He.ga K "_law_start") fd
  d_l_is_low : ∃ fd, FunD K "_law_is_low" "_law_is_low" (defArgs st_l_is_low) (defBody st_l_is_low) (defScope st_l_is_low) [] [] (He.ga K "_law_is_low") fd
  d_l_least : ∃ fd, FunD K "_law_least" "_law_least" (defArgs st_l_least) (defBody st_l_least) (defScope st_l_least) [] [] (He.ga K "_law_least") fd
  d_l_numbers : ∃ fd, FunD K "_law_numbers" "_law_numbers" (defArgs st_l_numbers) (defBody st_l_numbers) (defScope st_l_numbers) [] [] (He.ga K "_law_numbers") fd
  d_law : ∃ fd, FunD K "law" "law" (defArgs st_law) (defBody st_law) (defScope st_law) [] [] (He.ga K "law") fd
  c_Share : Cls K (He.ga K "Share")
  k_Share : Mk K (He.ga K "Share") (He.ma K (He.ga K "Share") "__init__")
  m_Share_at : Meth K (He.ga K "Share") "at" (He.ma K (He.ga K "Share") "at")
  a_Share_by : NoAttr K (He.ga K "Share") "by"
  a_Share_more : NoAttr K (He.ga K "Share") "more"
  c_Power : Cls K (He.ga K "Power")
  k_Power : Mk K (He.ga K "Power") (He.ma K (He.ga K "Power") "__init__")
  m_Power_at : Meth K (He.ga K "Power") "at" (He.ma K (He.ga K "Power") "at")
  a_Power_more : NoAttr K (He.ga K "Power") "more"
theorem Tx.be {K : PySem.W.Frag} {mg : Str → Option Value} (T : Tx K mg) : BeK K := ⟨T.c_Share, T.c_Power, T.a_Share_by, T.a_Share_more, T.a_Power_more⟩
abbrev PP : Program := PySem.Challenge.pw_floorward_k48_beginnings
section
variable {w : World} {K : PySem.W.Frag} {mg : Str → Option Value} {base : Heap}
theorem dv_is_whole {f : Addr} {cdv : Value} {A : Around} {outer : List Env} {s : Shared} {H : Hp} {E : XK} (T : Tx K mg) (hr : Room 0 (A.deeper (envOfC "is_whole" (defScope st_is_whole) s.heap.objs.size f cdv))) : PSs (cxOf CX0 PP w K mg base N_is_whole "is_whole" (defScope st_is_whole) f cdv A outer s H E).nox (defBody st_is_whole) (rd_is_whole K) := by
  exact pss_one (ps_ret (pe_and (pe_callB call_isi (by rfl) T.n_isinstance (by decide +kernel) (pa_cons (pv 0) (pa_cons (pe_bltn (by rfl) T.n_int (by decide +kernel) rfl) (pa_nil)))) (pe_one (pe_not (pe_callB call_isi (by rfl) T.n_isinstance (by decide +kernel) (pa_cons (pv 0) (pa_cons (pe_bltn (by rfl) T.n_bool (by decide +kernel) rfl) (pa_nil))))))))
theorem ok_is_whole (T : Tx K mg) : Fn PP w K mg base CX0 1 "is_whole" (sp_is_whole K) [] :=
  Fn.mk0 T.d_is_whole T.g_is_whole sc_is_whole (fun _ _ _ _ _ _ us hl => match us, hl with | [_], _ => rfl) (by walk_at "ln") (fun cdv A outer s H vs Q E hr h => ⟨rd_is_whole K, dv_is_whole T hr, pure_is_whole K vs H Q E h⟩)
theorem dv_power {f : Addr} {cdv : Value} {A : Around} {outer : List Env} {s : Shared} {H : Hp} {E : XK} (T : Tx K mg) (hr : Room 0 (A.deeper (envOfC "power" (defScope st_power) s.heap.objs.size f cdv))) : PSs (cxOf CX0 PP w K mg base N_power "power" (defScope st_power) f cdv A outer s H E).nox (defBody st_power) (rd_power K) := by
  exact pss_cons (ps_set (i := 2) sc_power.nd rfl (Or.inl rfl) (pe_int)) (pss_cons (ps_for PassesOwn.never rfl (pi_range1 (by rfl) T.n_range (pa_cons (pv 1) (pa_nil))) (pg_name (i := 3) sc_power.nd rfl (Or.inl rfl)) (pss_one (ps_aug (i := 2) sc_power.nd rfl (Or.inl rfl) (pv 0) FW.ipMul))) (pss_one (ps_ret (pv 2))))
theorem ok_power (T : Tx K mg) : Fn PP w K mg base CX0 1 "power" (sp_power K) [] :=
  Fn.mk0 T.d_power T.g_power sc_power (fun _ _ _ _ _ _ us hl => match us, hl with | [_, _], _ => rfl) (by walk_at "ln") (fun cdv A outer s H vs Q E hr h => ⟨rd_power K, dv_power T hr, pure_power K vs H Q E h⟩)
theorem dv_bits {f : Addr} {cdv : Value} {A : Around} {outer : List Env} {s : Shared} {H : Hp} {E : XK} (T : Tx K mg) (hr : Room 0 (A.deeper (envOfC "bits" (defScope st_bits) s.heap.objs.size f cdv))) : PSs (cxOf CX0 PP w K mg base N_bits "bits" (defScope st_bits) f cdv A outer s H E).nox (defBody st_bits) (rd_bits K) := by
  exact pss_cons (ps_asg (pe_tup (pa_cons (pe_int) (pa_cons (pe_int) (pa_nil)))) (pg_tup rfl (pgs_cons (pg_name (i := 1) sc_bits.nd rfl (Or.inl rfl)) (pgs_cons (pg_name (i := 2) sc_bits.nd rfl (Or.inl rfl)) (pgs_nil))))) (pss_cons (ps_while PassesOwn.never (pt_cmpR op_gt (pe_op FW.opShr (pv 0) (pv 2)) (pe_int) (nomark _)) (pss_one (ps_aug (i := 2) sc_bits.nd rfl (Or.inl rfl) (pe_int) FW.ipMul))) (pss_cons (ps_while PassesOwn.never (pt_cmpR op_lt (pv 1) (pv 2) (nomark _)) (pss_cons (ps_set (i := 3) sc_bits.nd rfl (Or.inl rfl) (pe_op FW.opDiv (pe_op FW.opAdd (pv 1) (pv 2)) (pe_int))) (pss_one (ps_if (pt_cmpR op_gt (pe_op FW.opShr (pv 0) (pv 3)) (pe_int) (nomark _)) (pss_one (ps_set (i := 1) sc_bits.nd rfl (Or.inl rfl) (pe_op FW.opAdd (pv 3) (pe_int)))) (pss_one (ps_set (i := 2) sc_bits.nd rfl (Or.inl rfl) (pv 3))))))) (pss_one (ps_ret (pv 1)))))
theorem ok_bits (T : Tx K mg) : Fn PP w K mg base CX0 1 "bits" (sp_bits K) [] :=
  Fn.mk0 T.d_bits T.g_bits sc_bits (fun _ _ _ _ _ _ us hl => match us, hl with | [_], _ => rfl) (by walk_at "ln") (fun cdv A outer s H vs Q E hr h => ⟨rd_bits K, dv_bits T hr, pure_bits K vs H Q E h⟩)
theorem dv_Share_at {f : Addr} {cdv : Value} {A : Around} {outer : List Env} {s : Shared} {H : Hp} {E : XK} (T : Tx K mg) (hr : Room 0 (A.deeper (envOfC "Share.at" (defScope st_Share_at) s.heap.objs.size f cdv))) : PSs (cxOf CX0 PP w K mg base N_Share_at "Share.at" (defScope st_Share_at) f cdv A outer s H E).nox (defBody st_Share_at) (rd_Share_at K) := by
  exact pss_one (ps_ret (pe_op FW.opAdd (pe_op FW.opDiv (pv 1) (pe_fld (pv 0) rfl)) (pe_fld (pv 0) rfl)))
theorem ok_Share_at (T : Tx K mg) : Mt PP w K mg base CX0 1 (He.ga K "Share") "at" (sp_Share_at K) [] :=
  Mt.mk0 T.c_Share T.m_Share_at T.d_Share_at sc_Share_at (fun _ _ _ _ _ _ us hl => match us, hl with | [_, _, _], _ => rfl) (by walk_at "ln") (fun cdv A outer s H vs Q E hr h => ⟨rd_Share_at K, dv_Share_at T hr, pure_Share_at K T.be vs H Q E h⟩)
theorem dv_l_cell_at {f : Addr} {cdv : Value} {A : Around} {outer : List Env} {s : Shared} {H : Hp} {E : XK} (T : Tx K mg) (hr : Room 0 (A.deeper (envOfC "_law_cell_at" (defScope st_l_cell_at) s.heap.objs.size f cdv))) : PSs (cxOf CX0 PP w K mg base N_l_cell_at "_law_cell_at" (defScope st_l_cell_at) f cdv A outer s H E).nox (defBody st_l_cell_at) (rd_l_cell_at K) := by
  exact pss_cons (ps_if (pt_cmpR op_lt (pv 1) (pe_callB call_len_seq (by rfl) T.n_len (by decide +kernel) (pa_cons (pv 0) (pa_nil))) (nomark _)) (pss_one (ps_ret (pe_ix ix_list (pv 0) (pv 1) (fun _ _ => rfl)))) (pss_nil)) (pss_one (ps_ret (pe_int)))
theorem ok_l_cell_at (T : Tx K mg) : Fn PP w K mg base CX0 1 "_law_cell_at" (sp_l_cell_at K) [] :=
  Fn.mk0 T.d_l_cell_at T.g__law_cell_at sc_l_cell_at (fun _ _ _ _ _ _ us hl => match us, hl with | [_, _], _ => rfl) (by walk_at "ln") (fun cdv A outer s H vs Q E hr h => ⟨rd_l_cell_at K, dv_l_cell_at T hr, pure_l_cell_at K vs H Q E h⟩)
theorem dv_l_mixed {f : Addr} {cdv : Value} {A : Around} {outer : List Env} {s : Shared} {H : Hp} {E : XK} (T : Tx K mg) (hr : Room 0 (A.deeper (envOfC "_law_mixed" (defScope st_l_mixed) s.heap.objs.size f cdv))) : PSs (cxOf CX0 PP w K mg base N_l_mixed "_law_mixed" (defScope st_l_mixed) f cdv A outer s H E).nox (defBody st_l_mixed) (rd_l_mixed K) := by
  exact pss_cons (ps_set (i := 2) sc_l_mixed.nd rfl (Or.inl rfl) (pe_op FW.opMod (pe_callTy call_int1 (by rfl) T.n_int (by decide +kernel) (pa_cons (pe_op FW.opPow (pe_op FW.opAdd (pe_op FW.opAdd (pe_op FW.opMod (pe_callTy call_int1 (by rfl) T.n_int (by decide +kernel) (pa_cons (pv 0) (pa_nil))) (pe_int)) (pe_op FW.opMul (pe_int) (pv 1))) (pe_int)) (pe_int)) (pa_nil))) (pe_int))) (pss_one (ps_ret (pe_op FW.opMod (pe_callTy call_int1 (by rfl) T.n_int (by decide +kernel) (pa_cons (pe_op FW.opMul (pe_op FW.opAdd (pv 2) (pv 1)) (pe_int)) (pa_nil))) (pe_int))))
theorem ok_l_mixed (T : Tx K mg) : Fn PP w K mg base CX0 1 "_law_mixed" (sp_l_mixed K) [] :=
  Fn.mk0 T.d_l_mixed T.g__law_mixed sc_l_mixed (fun _ _ _ _ _ _ us hl => match us, hl with | [_, _], _ => rfl) (by walk_at "ln") (fun cdv A outer s H vs Q E hr h => ⟨rd_l_mixed K, dv_l_mixed T hr, pure_l_mixed K vs H Q E h⟩)
theorem dv_l_apart {f : Addr} {cdv : Value} {A : Around} {outer : List Env} {s : Shared} {H : Hp} {E : XK} (T : Tx K mg) (hr : Room 0 (A.deeper (envOfC "_law_apart" (defScope st_l_apart) s.heap.objs.size f cdv))) : PSs (cxOf CX0 PP w K mg base N_l_apart "_law_apart" (defScope st_l_apart) f cdv A outer s H E).nox (defBody st_l_apart) (rd_l_apart K) := by
  exact pss_cons (ps_if (pt_cmpR op_ge (pe_callB call_abs (by rfl) T.n_abs (by decide +kernel) (pa_cons (pv 0) (pa_nil))) (pe_op FW.opPow (pe_int) (pe_int)) (nomark _)) (pss_one (ps_ret (pv 0))) (pss_nil)) (pss_one (ps_ret (pe_op FW.opAdd (pv 0) (pe_op FW.opMul (pe_int) (pv 1)))))
theorem ok_l_apart (T : Tx K mg) : Fn PP w K mg base CX0 1 "_law_apart" (sp_l_apart K) [] :=
  Fn.mk0 T.d_l_apart T.g__law_apart sc_l_apart (fun _ _ _ _ _ _ us hl => match us, hl with | [_, _], _ => rfl) (by walk_at "ln") (fun cdv A outer s H vs Q E hr h => ⟨rd_l_apart K, dv_l_apart T hr, pure_l_apart K vs H Q E h⟩)
theorem dv_l_power {f : Addr} {cdv : Value} {A : Around} {outer : List Env} {s : Shared} {H : Hp} {E : XK} (T : Tx K mg) (hr : Room 0 (A.deeper (envOfC "_law_power" (defScope st_l_power) s.heap.objs.size f cdv))) : PSs (cxOf CX0 PP w K mg base N_l_power "_law_power" (defScope st_l_power) f cdv A outer s H E).nox (defBody st_l_power) (rd_l_power K) := by
  exact pss_cons (ps_set (i := 2) sc_l_power.nd rfl (Or.inl rfl) (pe_int)) (pss_cons (ps_for PassesOwn.never rfl (pi_range1 (by rfl) T.n_range (pa_cons (pv 1) (pa_nil))) (pg_name (i := 3) sc_l_power.nd rfl (Or.inl rfl)) (pss_one (ps_set (i := 2) sc_l_power.nd rfl (Or.inl rfl) (pe_op FW.opMul (pv 2) (pv 0))))) (pss_one (ps_ret (pv 2))))
theorem ok_l_power (T : Tx K mg) : Fn PP w K mg base CX0 1 "_law_power" (sp_l_power K) [] :=
  Fn.mk0 T.d_l_power T.g__law_power sc_l_power (fun _ _ _ _ _ _ us hl => match us, hl with | [_, _], _ => rfl) (by walk_at "ln") (fun cdv A outer s H vs Q E hr h => ⟨rd_l_power K, dv_l_power T hr, pure_l_power K vs H Q E h⟩)
theorem dv_l_great {f : Addr} {cdv : Value} {A : Around} {outer : List Env} {s : Shared} {H : Hp} {E : XK} (T : Tx K mg) (hr : Room 0 (A.deeper (envOfC "_law_great" (defScope st_l_great) s.heap.objs.size f cdv))) : PSs (cxOf CX0 PP w K mg base N_l_great "_law_great" (defScope st_l_great) f cdv A outer s H E).nox (defBody st_l_great) (rd_l_great K) := by
  exact pss_cons (ps_set (i := 3) sc_l_great.nd rfl (Or.inl rfl) (pe_int)) (pss_cons (ps_for PassesOwn.never rfl (pi_range1 (by rfl) T.n_range (pa_cons (pv 2) (pa_nil))) (pg_name (i := 4) sc_l_great.nd rfl (Or.inl rfl)) (pss_one (ps_set (i := 3) sc_l_great.nd rfl (Or.inl rfl) (pe_op FW.opAdd (pe_op FW.opMul (pe_int) (pv 3)) (pe_callTy call_int1 (by rfl) T.n_int (by decide +kernel) (pa_cons (pe_ix ix_list (pv 0) (pe_op FW.opAdd (pv 1) (pv 4)) (fun _ _ => rfl)) (pa_nil))))))) (pss_one (ps_ret (pv 3))))
theorem ok_l_great (T : Tx K mg) : Fn PP w K mg base CX0 1 "_law_great" (sp_l_great K) [] :=
  Fn.mk0 T.d_l_great T.g__law_great sc_l_great (fun _ _ _ _ _ _ us hl => match us, hl with | [_, _, _], _ => rfl) (by walk_at "ln") (fun cdv A outer s H vs Q E hr h => ⟨rd_l_great K, dv_l_great T hr, pure_l_great K vs H Q E h⟩)
theorem dv_is_between {f : Addr} {cdv : Value} {A : Around} {outer : List Env} {s : Shared} {H : Hp} {E : XK} (T : Tx K mg) (hr : Room 1 (A.deeper (envOfC "is_between" (defScope st_is_between) s.heap.objs.size f cdv))) : PSs (cxOf CX0 PP w K mg base N_is_between "is_between" (defScope st_is_between) f cdv A outer s H E).nox (defBody st_is_between) (rd_is_between K) := by
  exact pss_one (ps_ret (pe_and (FW.pe_f (ok_is_whole T) hr (by decide) (by rfl) (pa_cons (pv 0) (pa_nil))) (pe_one (pe_chain op_le op_le (pv 1) (pv 0) (pv 2)))))
theorem ok_is_between (T : Tx K mg) : Fn PP w K mg base CX0 2 "is_between" (sp_is_between K) [] :=
  Fn.mk0 T.d_is_between T.g_is_between sc_is_between (fun _ _ _ _ _ _ us hl => match us, hl with | [_, _, _], _ => rfl) (by walk_at "ln") (fun cdv A outer s H vs Q E hr h => ⟨rd_is_between K, dv_is_between T hr, pure_is_between K vs H Q E h⟩)
theorem dv_Power_at {f : Addr} {cdv : Value} {A : Around} {outer : List Env} {s : Shared} {H : Hp} {E : XK} (T : Tx K mg) (hr : Room 1 (A.deeper (envOfC "Power.at" (defScope st_Power_at) s.heap.objs.size f cdv))) : PSs (cxOf CX0 PP w K mg base N_Power_at "Power.at" (defScope st_Power_at) f cdv A outer s H E).nox (defBody st_Power_at) (rd_Power_at K) := by
  exact pss_cons (ps_set (i := 3) sc_Power_at.nd rfl (Or.inl rfl) (pe_op FW.opAdd (pe_op FW.opDiv (pe_op FW.opSub (pe_op FW.opAdd (FW.pe_f (ok_bits T) hr (by decide) (by rfl) (pa_cons (pv 1) (pa_nil))) (pv 2)) (pe_int)) (pv 2)) (pe_fld (pv 0) rfl))) (pss_cons (ps_if (pt_cmpR op_lt (pv 3) (pe_int) (nomark _)) (pss_one (ps_ret (pe_int))) (pss_nil)) (pss_one (ps_ret (pe_op FW.opShl (pe_int) (pv 3)))))
theorem ok_Power_at (T : Tx K mg) : Mt PP w K mg base CX0 2 (He.ga K "Power") "at" (sp_Power_at K) [] :=
  Mt.mk0 T.c_Power T.m_Power_at T.d_Power_at sc_Power_at (fun _ _ _ _ _ _ us hl => match us, hl with | [_, _, _], _ => rfl) (by walk_at "ln") (fun cdv A outer s H vs Q E hr h => ⟨rd_Power_at K, dv_Power_at T hr, pure_Power_at K T.be vs H Q E h⟩)
theorem dv_l_row {f : Addr} {cdv : Value} {A : Around} {outer : List Env} {s : Shared} {H : Hp} {E : XK} (T : Tx K mg) (hr : Room 1 (A.deeper (envOfC "_law_row" (defScope st_l_row) s.heap.objs.size f cdv))) : PSs (cxOf CX0 PP w K mg base N_l_row "_law_row" (defScope st_l_row) f cdv A outer s H E).nox (defBody st_l_row) (rd_l_row K) := by
  exact pss_cons (ps_set (i := 2) sc_l_row.nd rfl (Or.inl rfl) (pe_ifExp (pt_cmpR op_ge (pe_callB call_abs (by rfl) T.n_abs (by decide +kernel) (pa_cons (pv 0) (pa_nil))) (pe_op FW.opPow (pe_int) (pe_int)) (nomark _)) (pe_callB call_abs (by rfl) T.n_abs (by decide +kernel) (pa_cons (pv 0) (pa_nil))) (pe_int))) (pss_cons (ps_set (i := 3) sc_l_row.nd rfl (Or.inl rfl) (pe_lst (pa_nil))) (pss_cons (ps_for PassesOwn.never rfl (pi_range1 (by rfl) T.n_range (pa_cons (pv 1) (pa_nil))) (pg_name (i := 4) sc_l_row.nd rfl (Or.inl rfl)) (pss_cons (ps_expr (pe_bm PySem.F.plainAttrs_list PySem.F.slot_list_append PySem.F.type_list_append mt_append (pv 3) (pa_cons (pe_op FW.opMod (pe_callTy call_int1 (by rfl) T.n_int (by decide +kernel) (pa_cons (pe_ifExp (pt_cmpR op_gt (pv 2) (pe_int) (nomark _)) (pv 2) (FW.pe_f (ok_l_mixed T) hr (by decide) (by rfl) (pa_cons (pv 0) (pa_cons (pv 4) (pa_nil))))) (pa_nil))) (pe_int)) (pa_nil)))) (pss_one (ps_set (i := 2) sc_l_row.nd rfl (Or.inl rfl) (pe_op FW.opDiv (pv 2) (pe_int)))))) (pss_one (ps_ret (pv 3)))))
theorem ok_l_row (T : Tx K mg) : Fn PP w K mg base CX0 2 "_law_row" (sp_l_row K) [] :=
  Fn.mk0 T.d_l_row T.g__law_row sc_l_row (fun _ _ _ _ _ _ us hl => match us, hl with | [_, _], _ => rfl) (by walk_at "ln") (fun cdv A outer s H vs Q E hr h => ⟨rd_l_row K, dv_l_row T hr, pure_l_row K vs H Q E h⟩)
theorem dv_l_length {f : Addr} {cdv : Value} {A : Around} {outer : List Env} {s : Shared} {H : Hp} {E : XK} (T : Tx K mg) (hr : Room 1 (A.deeper (envOfC "_law_length" (defScope st_l_length) s.heap.objs.size f cdv))) : PSs (cxOf CX0 PP w K mg base N_l_length "_law_length" (defScope st_l_length) f cdv A outer s H E).nox (defBody st_l_length) (rd_l_length K) := by
  exact pss_cons (ps_asg (pe_tup (pa_cons (pe_int) (pa_cons (pe_int) (pa_nil)))) (pg_tup rfl (pgs_cons (pg_name (i := 2) sc_l_length.nd rfl (Or.inl rfl)) (pgs_cons (pg_name (i := 3) sc_l_length.nd rfl (Or.inl rfl)) (pgs_nil))))) (pss_cons (ps_while PassesOwn.never (pt_cmpR op_ge (pv 0) (pv 3) (nomark _)) (pss_one (ps_par (by rfl) sc_l_length.nd rfl rfl (by decide) rfl rfl (pa_cons (pe_op FW.opAdd (pv 2) (pe_int)) (pa_cons (pe_op FW.opMul (pv 3) (FW.pe_f (ok_l_power T) hr (by decide) (by rfl) (pa_cons (pe_int) (pa_cons (pv 1) (pa_nil))))) (pa_nil))) (by rfl)))) (pss_one (ps_ret (pv 2))))
theorem ok_l_length (T : Tx K mg) : Fn PP w K mg base CX0 2 "_law_length" (sp_l_length K) [] :=
  Fn.mk0 T.d_l_length T.g__law_length sc_l_length (fun _ _ _ _ _ _ us hl => match us, hl with | [_, _], _ => rfl) (by walk_at "ln") (fun cdv A outer s H vs Q E hr h => ⟨rd_l_length K, dv_l_length T hr, pure_l_length K vs H Q E h⟩)
theorem dv_l_numbers {f : Addr} {cdv : Value} {A : Around} {outer : List Env} {s : Shared} {H : Hp} {E : XK} (T : Tx K mg) (hr : Room 1 (A.deeper (envOfC "_law_numbers" (defScope st_l_numbers) s.heap.objs.size f cdv))) : PSs (cxOf CX0 PP w K mg base N_l_numbers "_law_numbers" (defScope st_l_numbers) f cdv A outer s H E).nox (defBody st_l_numbers) (rd_l_numbers K) := by
  exact pss_cons (ps_setLc (i := 2) (own := [("_law_k", 3)]) (g := gName 3) (tt := tYes) rfl sc_l_numbers.nd rfl rfl (sw_true rfl rfl rfl (by decide +kernel)) (pi_range1 (by rfl) T.n_range (pa_cons (pe_int) (pa_nil))) (blkOk_by (own := [("_law_k", 3)]) (N := N_l_numbers) (sc := defScope st_l_numbers) (by decide +kernel)) (fun _ _ _ _ _ => pg_name (i := 3) sc_l_numbers.nd rfl (Or.inl rfl)) (fun _ _ _ _ _ => pts_nil) (fun _ _ _ _ _ => pe_op FW.opAdd (pe_int) (FW.pe_f (ok_l_great T) hr (by decide) (by rfl) (pa_cons (pv 0) (pa_cons (pe_op FW.opAdd (pe_int) (pv 3)) (pa_cons (pe_ix ix_list (pe_lst (pa_cons (pe_int) (pa_cons (pe_int) (pa_cons (pe_int) (pa_cons (pe_int) (pa_nil)))))) (pv 3) (fun _ _ => rfl)) (pa_nil))))))) (pss_cons (ps_if (pt_cmpR op_isN (pv 1) (pe_non) (nomark _)) (pss_one (ps_ret (pe_op op_cat (pv 2) (pe_lst (pa_cons (pe_int) (pa_cons (pe_int) (pa_cons (pe_int) (pa_cons (pe_int) (pa_cons (pe_int) (pa_cons (pe_int) (pa_cons (pe_int) (pa_nil)))))))))))) (pss_nil)) (pss_one (ps_ret (pe_ifExp (pt_cmpR op_gt (pv 1) (pe_int) (nomark _)) (pe_op op_cat (pe_lc (own := [("_law_number", 4)]) (g := gName 4) (tt := tYes) rfl sc_l_numbers.nd (pi_list (pv 2)) (blkOk_by (own := [("_law_number", 4)]) (N := N_l_numbers) (sc := defScope st_l_numbers) (by decide +kernel)) (fun _ _ _ _ _ => pg_name (i := 4) sc_l_numbers.nd rfl (Or.inl rfl)) (fun _ _ _ _ _ => pts_nil) (fun _ _ _ _ _ => pe_op FW.opAdd (pe_int) (pe_op FW.opMod (pv 4) (pe_op FW.opSub (pv 1) (pe_int))))) (pe_lst (pa_cons (pe_op FW.opSub (pv 1) (pe_int)) (pa_nil)))) (pe_lst (pa_nil))))))
theorem ok_l_numbers (T : Tx K mg) : Fn PP w K mg base CX0 2 "_law_numbers" (sp_l_numbers K) [] :=
  Fn.mk0 T.d_l_numbers T.g__law_numbers sc_l_numbers (fun _ _ _ _ _ _ us hl => match us, hl with | [_, _], _ => rfl) (by walk_at "ln") (fun cdv A outer s H vs Q E hr h => ⟨rd_l_numbers K, dv_l_numbers T hr, pure_l_numbers K vs H Q E h⟩)
theorem dv_Share_init {f : Addr} {cdv : Value} {A : Around} {outer : List Env} {s : Shared} {H : Hp} {E : XK} (T : Tx K mg) (hr : Room 2 (A.deeper (envOfC "Share.__init__" (defScope st_Share_init) s.heap.objs.size f cdv))) : PSs (cxOf CX0 PP w K mg base N_Share_init "Share.__init__" (defScope st_Share_init) f cdv A outer s H E).nox (defBody st_Share_init) (rd_Share_init K) := by
  exact pss_cons (ps_if (pt_not (pt_val (FW.pe_f (ok_is_between T) hr (by decide) (by rfl) (pa_cons (pv 1) (pa_cons (pe_int) (pa_cons (pe_int) (pa_nil))))))) (pss_one (ps_never)) (pss_nil)) (pss_cons (ps_if (pt_not (pt_val (FW.pe_f (ok_is_between T) hr (by decide) (by rfl) (pa_cons (pv 2) (pa_cons (pe_int) (pa_cons (pe_int) (pa_nil))))))) (pss_one (ps_never)) (pss_nil)) (pss_cons (ps_fld (pv 0) (pv 1) rfl) (pss_one (ps_fld (pv 0) (pv 2) rfl))))
theorem ok_Share_init (T : Tx K mg) : Mkr PP w K mg base CX0 3 "Share" (He.ga K "Share") (sp_Share_init K) [] :=
  Mkr.mk0 T.k_Share T.g_Share T.d_Share_init sc_Share_init (fun _ _ _ _ _ _ us hl => match us, hl with | [_, _, _], _ => rfl) (by walk_at "ln") (fun cdv A outer s H vs Q E hr h => ⟨rd_Share_init K, dv_Share_init T hr, pure_Share_init K T.be vs H Q E h⟩)
theorem dv_Power_init {f : Addr} {cdv : Value} {A : Around} {outer : List Env} {s : Shared} {H : Hp} {E : XK} (T : Tx K mg) (hr : Room 2 (A.deeper (envOfC "Power.__init__" (defScope st_Power_init) s.heap.objs.size f cdv))) : PSs (cxOf CX0 PP w K mg base N_Power_init "Power.__init__" (defScope st_Power_init) f cdv A outer s H E).nox (defBody st_Power_init) (rd_Power_init K) := by
  exact pss_cons (ps_if (pt_not (pt_val (FW.pe_f (ok_is_between T) hr (by decide) (by rfl) (pa_cons (pv 1) (pa_cons (pe_un un_neg (pe_int)) (pa_cons (pe_int) (pa_nil))))))) (pss_one (ps_never)) (pss_nil)) (pss_one (ps_fld (pv 0) (pv 1) rfl))
theorem ok_Power_init (T : Tx K mg) : Mkr PP w K mg base CX0 3 "Power" (He.ga K "Power") (sp_Power_init K) [] :=
  Mkr.mk0 T.k_Power T.g_Power T.d_Power_init sc_Power_init (fun _ _ _ _ _ _ us hl => match us, hl with | [_, _], _ => rfl) (by walk_at "ln") (fun cdv A outer s H vs Q E hr h => ⟨rd_Power_init K, dv_Power_init T hr, pure_Power_init K T.be vs H Q E h⟩)
theorem dv_too_low {f : Addr} {cdv : Value} {A : Around} {outer : List Env} {s : Shared} {H : Hp} {E : XK} (T : Tx K mg) (hr : Room 2 (A.deeper (envOfC "too_low" (defScope st_too_low) s.heap.objs.size f cdv))) : PSs (cxOf CX0 PP w K mg base N_too_low "too_low" (defScope st_too_low) f cdv A outer s H E).nox (defBody st_too_low) (rd_too_low K) := by
  exact pss_cons (ps_for PassesOwn.never rfl (pi_range2 (by rfl) T.n_range (pa_cons (pe_int) (pa_cons (pe_gcI (by rfl) T.i_ROOTS_LOOKED_AT) (pa_nil)))) (pg_name (i := 2) sc_too_low.nd rfl (Or.inl rfl)) (pss_cons (ps_set (i := 3) sc_too_low.nd rfl (Or.inl rfl) (FW.pe_f (ok_power T) hr (by decide) (by rfl) (pa_cons (pv 2) (pa_cons (pv 1) (pa_nil))))) (pss_one (ps_if (pt_cmpR op_lt (FW.pe_either (FW.pe_o (ok_Share_at T) hr (by decide) (pv 0) (pa_cons (pv 3) (pa_cons (pv 1) (pa_nil)))) (FW.pe_o (ok_Power_at T) hr (by decide) (pv 0) (pa_cons (pv 3) (pa_cons (pv 1) (pa_nil))))) (pv 2) (nomark _)) (pss_one (ps_ret (pv 3))) (pss_nil))))) (pss_one (ps_ret (pe_non)))
theorem ok_too_low (T : Tx K mg) : Fn PP w K mg base CX0 3 "too_low" (sp_too_low K) [] :=
  Fn.mk0 T.d_too_low T.g_too_low sc_too_low (fun _ _ _ _ _ _ us hl => match us, hl with | [_, _], _ => rfl) (by walk_at "ln") (fun cdv A outer s H vs Q E hr h => ⟨rd_too_low K, dv_too_low T hr, pure_too_low K vs H Q E h⟩)
theorem dv_l_start {f : Addr} {cdv : Value} {A : Around} {outer : List Env} {s : Shared} {H : Hp} {E : XK} (T : Tx K mg) (hr : Room 2 (A.deeper (envOfC "_law_start" (defScope st_l_start) s.heap.objs.size f cdv))) : PSs (cxOf CX0 PP w K mg base N_l_start "_law_start" (defScope st_l_start) f cdv A outer s H E).nox (defBody st_l_start) (rd_l_start K) := by
  exact pss_cons (ps_if (pt_cmpR op_eq (pe_callB call_len_seq (by rfl) T.n_len (by decide +kernel) (pa_cons (pv 0) (pa_nil))) (pe_int) (nomark _)) (pss_one (ps_ret (pe_op FW.opAdd (pe_op FW.opDiv (pv 1) (pe_ix ix_list (pv 0) (pe_int) (fun _ _ => rfl))) (pe_ix ix_list (pv 0) (pe_int) (fun _ _ => rfl))))) (pss_nil)) (pss_cons (ps_set (i := 3) sc_l_start.nd rfl (Or.inl rfl) (pe_op FW.opAdd (FW.pe_f (ok_l_length T) hr (by decide) (by rfl) (pa_cons (pv 1) (pa_cons (pv 2) (pa_nil)))) (pe_ix ix_list (pv 0) (pe_int) (fun _ _ => rfl)))) (pss_one (ps_ret (pe_ifExp (pt_cmpR op_lt (pv 3) (pe_int) (nomark _)) (pe_int) (FW.pe_f (ok_l_power T) hr (by decide) (by rfl) (pa_cons (pe_int) (pa_cons (pv 3) (pa_nil))))))))
theorem ok_l_start (T : Tx K mg) : Fn PP w K mg base CX0 3 "_law_start" (sp_l_start K) [] :=
  Fn.mk0 T.d_l_start T.g__law_start sc_l_start (fun _ _ _ _ _ _ us hl => match us, hl with | [_, _, _], _ => rfl) (by walk_at "ln") (fun cdv A outer s H vs Q E hr h => ⟨rd_l_start K, dv_l_start T hr, pure_l_start K vs H Q E h⟩)
theorem dv_l_is_low {f : Addr} {cdv : Value} {A : Around} {outer : List Env} {s : Shared} {H : Hp} {E : XK} (T : Tx K mg) (hr : Room 3 (A.deeper (envOfC "_law_is_low" (defScope st_l_is_low) s.heap.objs.size f cdv))) : PSs (cxOf CX0 PP w K mg base N_l_is_low "_law_is_low" (defScope st_l_is_low) f cdv A outer s H E).nox (defBody st_l_is_low) (rd_l_is_low K) := by
  exact pss_cons (ps_set (i := 3) sc_l_is_low.nd rfl (Or.inl rfl) (FW.pe_f (ok_l_start T) hr (by decide) (by rfl) (pa_cons (pv 0) (pa_cons (pv 1) (pa_cons (pv 2) (pa_nil)))))) (pss_one (ps_ret (pe_or (pe_cmpR op_lt (pv 3) (pe_int) (nomark _)) (pe_one (pe_cmpR op_le (FW.pe_f (ok_l_power T) hr (by decide) (by rfl) (pa_cons (pe_op FW.opAdd (pv 3) (pe_int)) (pa_cons (pv 2) (pa_nil)))) (pv 1) (nomark _))))))
theorem ok_l_is_low (T : Tx K mg) : Fn PP w K mg base CX0 4 "_law_is_low" (sp_l_is_low K) [] :=
  Fn.mk0 T.d_l_is_low T.g__law_is_low sc_l_is_low (fun _ _ _ _ _ _ us hl => match us, hl with | [_, _, _], _ => rfl) (by walk_at "ln") (fun cdv A outer s H vs Q E hr h => ⟨rd_l_is_low K, dv_l_is_low T hr, pure_l_is_low K vs H Q E h⟩)
theorem dv_l_least {f : Addr} {cdv : Value} {A : Around} {outer : List Env} {s : Shared} {H : Hp} {E : XK} (T : Tx K mg) (hr : Room 4 (A.deeper (envOfC "_law_least" (defScope st_l_least) s.heap.objs.size f cdv))) : PSs (cxOf CX0 PP w K mg base N_l_least "_law_least" (defScope st_l_least) f cdv A outer s H E).nox (defBody st_l_least) (rd_l_least K) := by
  exact pss_cons (ps_for PassesOwn.never rfl (pi_range2 (by rfl) T.n_range (pa_cons (pe_int) (pa_cons (pe_int) (pa_nil)))) (pg_name (i := 2) sc_l_least.nd rfl (Or.inl rfl)) (pss_one (ps_if (pt_val (FW.pe_f (ok_l_is_low T) hr (by decide) (by rfl) (pa_cons (pv 0) (pa_cons (FW.pe_f (ok_l_power T) hr (by decide) (by rfl) (pa_cons (pv 2) (pa_cons (pv 1) (pa_nil)))) (pa_cons (pv 1) (pa_nil)))))) (pss_one (ps_ret (FW.pe_f (ok_l_power T) hr (by decide) (by rfl) (pa_cons (pv 2) (pa_cons (pv 1) (pa_nil)))))) (pss_nil)))) (pss_one (ps_ret (pe_non)))
theorem ok_l_least (T : Tx K mg) : Fn PP w K mg base CX0 5 "_law_least" (sp_l_least K) [] :=
  Fn.mk0 T.d_l_least T.g__law_least sc_l_least (fun _ _ _ _ _ _ us hl => match us, hl with | [_, _], _ => rfl) (by walk_at "ln") (fun cdv A outer s H vs Q E hr h => ⟨rd_l_least K, dv_l_least T hr, pure_l_least K vs H Q E h⟩)
theorem dv_law {f : Addr} {cdv : Value} {A : Around} {outer : List Env} {s : Shared} {H : Hp} {E : XK} (T : Tx K mg) (hr : Room 5 (A.deeper (envOfC "law" (defScope st_law) s.heap.objs.size f cdv))) : PSs (cxOf CX0 PP w K mg base N_law "law" (defScope st_law) f cdv A outer s H E).nox (defBody st_law) (rd_law K) := by
  exact pss_cons (ps_for PassesOwn.never rfl (pi_range1 (by rfl) T.n_range (pa_cons (pe_int) (pa_nil))) (pg_name (i := 1) sc_law.nd rfl (Or.inl rfl)) (pss_cons (ps_set (i := 2) sc_law.nd rfl (Or.inl rfl) (FW.pe_f (ok_l_row T) hr (by decide) (by rfl) (pa_cons (FW.pe_f (ok_l_apart T) hr (by decide) (by rfl) (pa_cons (FW.pe_f (ok_l_cell_at T) hr (by decide) (by rfl) (pa_cons (pv 0) (pa_cons (pv 1) (pa_nil)))) (pa_cons (pv 1) (pa_nil)))) (pa_cons (pe_int) (pa_nil))))) (pss_cons (ps_set (i := 3) sc_law.nd rfl (Or.inl rfl) (pe_op FW.opAdd (pe_int) (pe_op FW.opMod (pe_callTy call_int1 (by rfl) T.n_int (by decide +kernel) (pa_cons (pe_ix ix_list (pv 2) (pe_int) (fun _ _ => rfl)) (pa_nil))) (pe_int)))) (pss_cons (ps_set (i := 4) sc_law.nd rfl (Or.inl rfl) (pe_lst (pa_cons (pe_op FW.opAdd (pe_int) (pe_op FW.opMod (pe_callTy call_int1 (by rfl) T.n_int (by decide +kernel) (pa_cons (pe_ix ix_list (pv 2) (pe_int) (fun _ _ => rfl)) (pa_nil))) (pe_ix ix_list (pe_lst (pa_cons (pe_int) (pa_cons (pe_int) (pa_cons (pe_int) (pa_nil))))) (pe_op FW.opMod (pe_callTy call_int1 (by rfl) T.n_int (by decide +kernel) (pa_cons (pe_ix ix_list (pv 2) (pe_int) (fun _ _ => rfl)) (pa_nil))) (pe_int)) (fun _ _ => rfl)))) (pa_cons (pe_op FW.opMod (pe_callTy call_int1 (by rfl) T.n_int (by decide +kernel) (pa_cons (pe_ix ix_list (pv 2) (pe_int) (fun _ _ => rfl)) (pa_nil))) (pe_ix ix_list (pe_lst (pa_cons (pe_int) (pa_cons (pe_int) (pa_cons (pe_int) (pa_nil))))) (pe_op FW.opMod (pe_callTy call_int1 (by rfl) T.n_int (by decide +kernel) (pa_cons (pe_ix ix_list (pv 2) (pe_int) (fun _ _ => rfl)) (pa_nil))) (pe_int)) (fun _ _ => rfl))) (pa_nil))))) (pss_cons (ps_if (pt_cmpR op_eq (pe_op FW.opMod (pv 1) (pe_int)) (pe_int) (nomark _)) (pss_one (ps_set (i := 4) sc_law.nd rfl (Or.inl rfl) (pe_lst (pa_cons (pe_op FW.opSub (pe_op FW.opMod (pe_callTy call_int1 (by rfl) T.n_int (by decide +kernel) (pa_cons (pe_ix ix_list (pv 2) (pe_int) (fun _ _ => rfl)) (pa_nil))) (pe_int)) (pe_int)) (pa_nil))))) (pss_nil)) (pss_cons (ps_set (i := 5) sc_law.nd rfl (Or.inl rfl) (pe_ifExp (pt_cmpR op_eq (pe_op FW.opMod (pv 1) (pe_int)) (pe_int) (nomark _)) (FW.pe_m (ok_Share_init T) hr (by decide) (by rfl) (pa_cons (pe_ix ix_list (pv 4) (pe_int) (fun _ _ => rfl)) (pa_cons (pe_ix ix_list (pv 4) (pe_int) (fun _ _ => rfl)) (pa_nil)))) (FW.pe_m (ok_Power_init T) hr (by decide) (by rfl) (pa_cons (pe_ix ix_list (pv 4) (pe_int) (fun _ _ => rfl)) (pa_nil))))) (pss_cons (ps_if (pt_cmpR (op_neD hr.units) (pe_ifExp (pt_cmpR op_eq (pe_op FW.opMod (pv 1) (pe_int)) (pe_int) (nomark _)) (pe_lst (pa_cons (pe_fld (pv 5) rfl) (pa_cons (pe_fld (pv 5) rfl) (pa_nil)))) (pe_lst (pa_cons (pe_fld (pv 5) rfl) (pa_nil)))) (pv 4) (nomark _)) (pss_one (ps_ret (pe_bl))) (pss_nil)) (pss_cons (ps_par (by rfl) sc_law.nd rfl rfl (by decide) rfl rfl (pa_cons (FW.pe_f (ok_too_low T) hr (by decide) (by rfl) (pa_cons (pv 5) (pa_cons (pv 3) (pa_nil)))) (pa_cons (FW.pe_f (ok_l_least T) hr (by decide) (by rfl) (pa_cons (pv 4) (pa_cons (pv 3) (pa_nil)))) (pa_nil))) (by rfl)) (pss_cons (ps_if (pt_cmpR op_ne (pv 6) (pv 7) (nomark _)) (pss_one (ps_ret (pe_bl))) (pss_nil)) (pss_cons (ps_for PassesOwn.never rfl (pi_list (FW.pe_f (ok_l_numbers T) hr (by decide) (by rfl) (pa_cons (pv 2) (pa_cons (pv 6) (pa_nil))))) (pg_name (i := 8) sc_law.nd rfl (Or.inl rfl)) (pss_one (ps_if (PW.pt (pw_or (pt_val (FW.pe_f (ok_l_is_low T) hr (by decide) (by rfl) (pa_cons (pv 4) (pa_cons (pv 8) (pa_cons (pv 3) (pa_nil)))))) (pw_or1 (pt_cmpR op_ne (FW.pe_either (FW.pe_o (ok_Share_at T) hr (by decide) (pv 5) (pa_cons (pv 8) (pa_cons (pv 3) (pa_nil)))) (FW.pe_o (ok_Power_at T) hr (by decide) (pv 5) (pa_cons (pv 8) (pa_cons (pv 3) (pa_nil))))) (FW.pe_f (ok_l_start T) hr (by decide) (by rfl) (pa_cons (pv 4) (pa_cons (pv 8) (pa_cons (pv 3) (pa_nil))))) (nomark _))))) (pss_one (ps_ret (pe_bl))) (pss_nil)))) (pss_cons (ps_if (PW.pt (pw_and (pt_cmpR op_notN (pv 6) (pe_non) (nomark _)) (pw_and1 (pt_cmpR op_ne (FW.pe_either (FW.pe_o (ok_Share_at T) hr (by decide) (pv 5) (pa_cons (pv 6) (pa_cons (pv 3) (pa_nil)))) (FW.pe_o (ok_Power_at T) hr (by decide) (pv 5) (pa_cons (pv 6) (pa_cons (pv 3) (pa_nil))))) (FW.pe_f (ok_l_start T) hr (by decide) (by rfl) (pa_cons (pv 4) (pa_cons (pv 6) (pa_cons (pv 3) (pa_nil))))) (nomark _))))) (pss_one (ps_ret (pe_bl))) (pss_nil)) (pss_one (ps_if (PW.pt (pw_and (pt_cmpR op_eq (pe_op FW.opMod (pv 1) (pe_int)) (pe_int) (nomark _)) (pw_and1 (pt_cmpR op_ne (pv 6) (pe_ifExp (pt_cmpR op_ge (pe_ix ix_list (pv 4) (pe_int) (fun _ _ => rfl)) (pe_int) (nomark _)) (pe_non) (FW.pe_f (ok_l_power T) hr (by decide) (by rfl) (pa_cons (pe_op FW.opSub (pe_int) (pe_callTy call_int1 (by rfl) T.n_int (by decide +kernel) (pa_cons (pe_cmpR op_lt (pe_ix ix_list (pv 4) (pe_int) (fun _ _ => rfl)) (pe_un un_neg (pe_int)) (nomark _)) (pa_nil)))) (pa_cons (pv 3) (pa_nil))))) (nomark _))))) (pss_one (ps_ret (pe_bl))) (pss_nil)))))))))))))) (pss_cons (ps_if (pt_cmpR op_ne (FW.pe_f (ok_too_low T) hr (by decide) (by rfl) (pa_cons (FW.pe_m (ok_Share_init T) hr (by decide) (by rfl) (pa_cons (pe_int) (pa_cons (pe_int) (pa_nil)))) (pa_cons (pe_int) (pa_nil)))) (pe_int) (nomark _)) (pss_one (ps_ret (pe_bl))) (pss_nil)) (pss_one (ps_ret (pe_cmpR op_isN (FW.pe_f (ok_too_low T) hr (by decide) (by rfl) (pa_cons (FW.pe_m (ok_Share_init T) hr (by decide) (by rfl) (pa_cons (pe_int) (pa_cons (pe_int) (pa_nil)))) (pa_cons (pe_int) (pa_nil)))) (pe_non) (nomark _)))))
theorem ok_law (T : Tx K mg) : Fn PP w K mg base CX0 6 "law" (sp_law K) [] :=
  Fn.mk0 T.d_law T.g_law sc_law (fun _ _ _ _ _ _ us hl => match us, hl with | [_], _ => rfl) (by walk_at "ln") (fun cdv A outer s H vs Q E hr h => ⟨rd_law K, dv_law T hr, pure_law K T.be vs H Q E h⟩)
end
/-! ### the head -/
def fn : List He.DefD := [⟨("is_whole", none), "is_whole", "is_whole", defArgs st_is_whole, defBody st_is_whole, defScope st_is_whole, [], []⟩,
  ⟨("power", none), "power", "power", defArgs st_power, defBody st_power, defScope st_power, [], []⟩,
  ⟨("bits", none), "bits", "bits", defArgs st_bits, defBody st_bits, defScope st_bits, [], []⟩,
  ⟨("is_between", none), "is_between", "is_between", defArgs st_is_between, defBody st_is_between, defScope st_is_between, [], []⟩,
  ⟨("Share", some "__init__"), "__init__", "Share.__init__", defArgs st_Share_init, defBody st_Share_init, defScope st_Share_init, [], []⟩,
  ⟨("Share", some "at"), "at", "Share.at", defArgs st_Share_at, defBody st_Share_at, defScope st_Share_at, [], []⟩,
  ⟨("Power", some "__init__"), "__init__", "Power.__init__", defArgs st_Power_init, defBody st_Power_init, defScope st_Power_init, [], []⟩,
  ⟨("Power", some "at"), "at", "Power.at", defArgs st_Power_at, defBody st_Power_at, defScope st_Power_at, [], []⟩,
  ⟨("too_low", none), "too_low", "too_low", defArgs st_too_low, defBody st_too_low, defScope st_too_low, [], []⟩,
  ⟨("_law_cell_at", none), "_law_cell_at", "_law_cell_at", defArgs st_l_cell_at, defBody st_l_cell_at, defScope st_l_cell_at, [], []⟩,
  ⟨("_law_mixed", none), "_law_mixed", "_law_mixed", defArgs st_l_mixed, defBody st_l_mixed, defScope st_l_mixed, [], []⟩,
  ⟨("_law_row", none), "_law_row", "_law_row", defArgs st_l_row, defBody st_l_row, defScope st_l_row, [], []⟩,
  ⟨("_law_apart", none), "_law_apart", "_law_apart", defArgs st_l_apart, defBody st_l_apart, defScope st_l_apart, [], []⟩,
  ⟨("_law_power", none), "_law_power", "_law_power", defArgs st_l_power, defBody st_l_power, defScope st_l_power, [], []⟩,
  ⟨("_law_great", none), "_law_great", "_law_great", defArgs st_l_great, defBody st_l_great, defScope st_l_great, [], []⟩,
  ⟨("_law_length", none), "_law_length", "_law_length", defArgs st_l_length, defBody st_l_length, defScope st_l_length, [], []⟩,
  ⟨("_law_start", none), "_law_start", "_law_start", defArgs st_l_start, defBody st_l_start, defScope st_l_start, [], []⟩,
  ⟨("_law_is_low", none), "_law_is_low", "_law_is_low", defArgs st_l_is_low, defBody st_l_is_low, defScope st_l_is_low, [], []⟩,
  ⟨("_law_least", none), "_law_least", "_law_least", defArgs st_l_least, defBody st_l_least, defScope st_l_least, [], []⟩,
  ⟨("_law_numbers", none), "_law_numbers", "_law_numbers", defArgs st_l_numbers, defBody st_l_numbers, defScope st_l_numbers, [], []⟩,
  ⟨("law", none), "law", "law", defArgs st_law, defBody st_law, defScope st_law, [], []⟩]
def fa : List He.Fa := [.free "abs", .free "bool", .free "int", .free "isinstance", .free "len", .free "range", .int "ROOTS_LOOKED_AT" 120, .glo "is_whole", .glo "power", .glo "bits", .glo "is_between", .glo "too_low", .glo "_law_cell_at", .glo "_law_mixed", .glo "_law_row", .glo "_law_apart", .glo "_law_power", .glo "_law_great", .glo "_law_length", .glo "_law_start", .glo "_law_is_low", .glo "_law_least", .glo "_law_numbers", .glo "law", .glo "Share", .glo "Power", .cls "Share", .mkr "Share", .meth "Share" "at", .noat "Share" "by", .noat "Share" "more", .cls "Power", .mkr "Power", .meth "Power" "at", .noat "Power" "more"]
def ex (K : PySem.W.Frag) : Bool := ([] : List Bool).all id
abbrev R : PySem.W.OpenRow := PySem.W.OpenLaw.row PySem.Challenge.rw_floorward_k48_beginnings
def er : List FW.ErrD := []
abbrev hk : PySem.W.Hook := FW.hookY 6 fa fn ex er
def ob (s : PySem.W.SharedT) : FW.AlY := FW.obsYG 6 fa fn ex er (HandSHeadRun.getT s)
theorem ob_eq (s : PySem.W.SharedT) : ob s = hk.obs s.abs := FW.obsYG_eq (HandSHeadRun.getT_eq s)
def loose0 : List Str := ["FloorError", "BadBeginning", "is_whole", "power", "bits", "ROOTS_LOOKED_AT", "is_between", "Share", "Power", "too_low", "_law_cell_at", "_law_mixed", "_law_row", "_law_apart", "_law_power", "_law_great", "_law_length", "_law_start", "_law_is_low", "_law_least", "_law_numbers"]
def loose : List Str := loose0
theorem run (w : World) : HandSHeadRun.RunEq R (PySem.W.view R.prog [25]) hk ob 30000 loose w := by
  intro os
  kernel_rfl
theorem tx_of {K : PySem.W.Frag} {h : Heap} {mg : Str → Option Value} (X : K.In h) (G : h.Ns mainGlobals mg) (c : He.SaysD fa fn K) (cx : ex K = true) (ce : er.map (fun d => fnE K d.x) = er.map ErrD.val) : Tx K mg := by
  exact {
    n_abs := He.free_ok X G (c.fact 0 (f := .free "abs") rfl),
    n_bool := He.free_ok X G (c.fact 1 (f := .free "bool") rfl),
    n_int := He.free_ok X G (c.fact 2 (f := .free "int") rfl),
    n_isinstance := He.free_ok X G (c.fact 3 (f := .free "isinstance") rfl),
    n_len := He.free_ok X G (c.fact 4 (f := .free "len") rfl),
    n_range := He.free_ok X G (c.fact 5 (f := .free "range") rfl),
    i_ROOTS_LOOKED_AT := He.int_ok X G (c.fact 6 (f := .int "ROOTS_LOOKED_AT" 120) rfl),
    g_is_whole := He.glo_ok X G (c.fact 7 (f := .glo "is_whole") rfl),
    g_power := He.glo_ok X G (c.fact 8 (f := .glo "power") rfl),
    g_bits := He.glo_ok X G (c.fact 9 (f := .glo "bits") rfl),
    g_is_between := He.glo_ok X G (c.fact 10 (f := .glo "is_between") rfl),
    g_too_low := He.glo_ok X G (c.fact 11 (f := .glo "too_low") rfl),
    g__law_cell_at := He.glo_ok X G (c.fact 12 (f := .glo "_law_cell_at") rfl),
    g__law_mixed := He.glo_ok X G (c.fact 13 (f := .glo "_law_mixed") rfl),
    g__law_row := He.glo_ok X G (c.fact 14 (f := .glo "_law_row") rfl),
    g__law_apart := He.glo_ok X G (c.fact 15 (f := .glo "_law_apart") rfl),
    g__law_power := He.glo_ok X G (c.fact 16 (f := .glo "_law_power") rfl),
    g__law_great := He.glo_ok X G (c.fact 17 (f := .glo "_law_great") rfl),
    g__law_length := He.glo_ok X G (c.fact 18 (f := .glo "_law_length") rfl),
    g__law_start := He.glo_ok X G (c.fact 19 (f := .glo "_law_start") rfl),
    g__law_is_low := He.glo_ok X G (c.fact 20 (f := .glo "_law_is_low") rfl),
    g__law_least := He.glo_ok X G (c.fact 21 (f := .glo "_law_least") rfl),
    g__law_numbers := He.glo_ok X G (c.fact 22 (f := .glo "_law_numbers") rfl),
    g_law := He.glo_ok X G (c.fact 23 (f := .glo "law") rfl),
    g_Share := He.glo_ok X G (c.fact 24 (f := .glo "Share") rfl),
    g_Power := He.glo_ok X G (c.fact 25 (f := .glo "Power") rfl),
    d_is_whole := c.def_ 0 rfl,
    d_power := c.def_ 1 rfl,
    d_bits := c.def_ 2 rfl,
    d_is_between := c.def_ 3 rfl,
    d_Share_init := c.def_ 4 rfl,
    d_Share_at := c.def_ 5 rfl,
    d_Power_init := c.def_ 6 rfl,
    d_Power_at := c.def_ 7 rfl,
    d_too_low := c.def_ 8 rfl,
    d_l_cell_at := c.def_ 9 rfl,
    d_l_mixed := c.def_ 10 rfl,
    d_l_row := c.def_ 11 rfl,
    d_l_apart := c.def_ 12 rfl,
    d_l_power := c.def_ 13 rfl,
    d_l_great := c.def_ 14 rfl,
    d_l_length := c.def_ 15 rfl,
    d_l_start := c.def_ 16 rfl,
    d_l_is_low := c.def_ 17 rfl,
    d_l_least := c.def_ 18 rfl,
    d_l_numbers := c.def_ 19 rfl,
    d_law := c.def_ 20 rfl,
    c_Share := He.cls_ok (c.fact 26 (f := .cls "Share") rfl),
    k_Share := He.mkr_ok (c.fact 27 (f := .mkr "Share") rfl),
    m_Share_at := He.meth_ok (c.fact 28 (f := .meth "Share" "at") rfl),
    a_Share_by := He.noat_ok (c.fact 29 (f := .noat "Share" "by") rfl),
    a_Share_more := He.noat_ok (c.fact 30 (f := .noat "Share" "more") rfl),
    c_Power := He.cls_ok (c.fact 31 (f := .cls "Power") rfl),
    k_Power := He.mkr_ok (c.fact 32 (f := .mkr "Power") rfl),
    m_Power_at := He.meth_ok (c.fact 33 (f := .meth "Power" "at") rfl),
    a_Power_more := He.noat_ok (c.fact 34 (f := .noat "Power" "more") rfl) }
theorem facts {w : World} {K : PySem.W.Frag} {h : Heap} {mg : Str → Option Value} {f : Addr} (X : K.In h) (G : h.Ns mainGlobals mg) (hfa : mg ("law" : Str) = some (.ref f)) (c : He.SaysD fa fn K) (cx : ex K = true) (ce : er.map (fun d => fnE K d.x) = er.map ErrD.val) :
    ∃ fd : FuncData, (∀ (s : Shared) (v : Value), BindsTo s fd ⟨[v], []⟩ [("_law_script", v)]) ∧ ∀ base : Heap, K.In base → base.Ns mainGlobals mg → FnOk PP w K mg base CX0 6 f fd ["_law_script"] (sp_law K) := by
  have T := tx_of X G c cx ce
  have e := hfa.symm.trans T.g_law
  cases e
  obtain ⟨fd, F⟩ := T.d_law
  have b := FunD.bindsA (ps := ["_law_script"]) F fun _ _ _ _ _ _ us hl => match us, hl with | [_], _ => rfl
  refine ⟨fd, fun s v => b s [v] rfl, fun base _ _ => ?_⟩
  refine F.ok sc_law (by walk_at "ln") fun cdv A outer s H vs Q E hr h => ?_
  exact ⟨rd_law K, (dv_law T hr).nox, pure_law K T.be vs H Q E h⟩
end FWL
open PySem PySem.W PySem.Calls PyProof.Rows
theorem PySem.Challenge.cw_floorward_k48_beginnings_holds : PySem.Challenge.rw_floorward_k48_beginnings.Holds := by
  w_on; o_law
  refine HandSHeadRun.head_any (r := OpenLaw.row PySem.Challenge.rw_floorward_k48_beginnings) (q := view (OpenLaw.row PySem.Challenge.rw_floorward_k48_beginnings).prog [25]) (H := FWL.hk) (ob := FWL.ob) (M := 30000) (loose := FWL.loose) (d := HandSHeadRun.topDef (OpenLaw.row PySem.Challenge.rw_floorward_k48_beginnings).prog 25) (kwd := []) FWL.ob_eq
    (by kernel_rfl) (fun s => by kernel_rfl) FWL.run (by kernel_rfl) (by kernel_rfl) (by kernel_rfl) (by rfl) (by first | assumption | decide +kernel) (by decide +kernel) ⟨rfl, rfl, rfl, rfl, rfl, by decide +kernel⟩ ?hw ?hc
  case hw => w_witness2
  case hc =>
    refine L2.walk_ofE (l := PySem.Challenge.rw_floorward_k48_beginnings) (n := 63) (k := 6) (x := "_law_script") (CX := L2.CX0) rfl (by decide) (by kernel_rfl) ⟨rfl, by decide, by decide⟩ ?F (fun _ _ _ _ z => z)
    intro w mg fa h Y G hmg0
    obtain ⟨K, KX, c, cx, ce⟩ := Y
    have hmg : mg ("law" : PySem.Str) = some (.ref fa) := by
      have e : (HandSHeadRun.topDef (OpenLaw.row PySem.Challenge.rw_floorward_k48_beginnings).prog 25).name = ("law" : PySem.Str) := by kernel_rfl
      rw [← e]
      exact hmg0
    obtain ⟨fd, hb, hF⟩ := FWL.facts (w := w) KX G hmg c cx ce
    exact ⟨K, fd, FWL.sp_law K, KX, hb, fun H a ns hl _ hS => ⟨a, ns, rfl, hS, fun _ => rfl⟩, hF⟩
