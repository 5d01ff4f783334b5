import PyProof.Rows.All
import Wide.All
import OpenK.AllK
import Wide.FinOn
import KE.KStateDown
import Lean
import HandS.ForMost
import HandS.Exc
import HandS.WordsExc
import HandS.More
import HandS.Wide
import HandS.WideBits
import HandS.IsInst
import HandS.Style
import HandS.TupAny
import HandS.TupMul
import HandS.SortInts
import HandS.Conv
import HandS.Evl
import HandS.Zip
import HandS.Flow
import HandS.Defaults
import HandS.Head0
import HandS.Head1
import HandS.Head2
import HandS.HeadEnd
import HandS.HeadHook1
import HandS.HeadHook2
import KE.KExcSuper
import HandS.TryMany
import HandS.TryOnly
import HandS.ExcOwn
import HandS.Lambda
import HandS.EndTab
import HandS.HeadHook4
import HandS.HeadWalk
import PySem.Challenge.RW_floorward_k15_tables_of_other_windows
import KE.GoesMore
import KE.KRevSl
import HandS.Iter
import HandS.Walk
import HandS.Dict
import HandS.Strs
import HandS.SetFor
import PyProof.LongRange
import KE.SortKeyHeap
import HandS.ExcCtx
import HandS.HotCalls
import HandS.Deep
import PyProof.RangeIter
set_option Elab.async false
set_option linter.all false
set_option maxRecDepth 100000
set_option maxHeartbeats 4000000
namespace FW
open PySem PySem.Spec PyProof.Rows L2
/-! ### operators on ints, by short names -/
abbrev rAdd : R2 := rI0 fun i j => .int (i + j)
abbrev rSub : R2 := rI0 fun i j => .int (i - j)
abbrev rMul : R2 := rI CMulW fun i j => .int (i * j)
abbrev rDiv : R2 := rI CDivW fun i j => .int (i / j)
abbrev rMod : R2 := rI (fun _ j => 0 < j) fun i j => .int (i % j)
abbrev rPow : R2 := rI CPow fun i j => .int (i ^ j.toNat)
abbrev rNeg : V → Hp → VK → Prop := rU fun i => .int (-i)
abbrev rLt : R2 := rI0 fun i j => .bl (decide (i < j))
abbrev rLe : R2 := rI0 fun i j => .bl (decide (i ≤ j))
abbrev rGt : R2 := rI0 fun i j => .bl (decide (j < i))
abbrev rGe : R2 := rI0 fun i j => .bl (decide (j ≤ i))
abbrev rIsN : R2 := fun x y H Q => y = .non ∧ Q (.bl (decide (x = .non))) H
abbrev rNotN : R2 := fun x y H Q => y = .non ∧ Q (.bl (!decide (x = .non))) H
abbrev rAbs : List V → Hp → VK → Prop := fun xs H Q => ∃ i, xs = [.int i] ∧ Q (.int (if i < 0 then -i else i)) H
abbrev rMax2 : List V → Hp → VK → Prop := fun xs H Q => ∃ i j, xs = [.int i, .int j] ∧ Q (.int (if j > i then j else i)) H
abbrev rMin2 : List V → Hp → VK → Prop := fun xs H Q => ∃ i j, xs = [.int i, .int j] ∧ Q (.int (if j < i then j else i)) H
abbrev rInt1 : List V → Hp → VK → Prop := fun xs H Q => (∃ i, xs = [.int i] ∧ Q (.int i) H) ∨ ∃ k, xs = [.bl k] ∧ Q (.int (if k then 1 else 0)) H
abbrev rTupS (K : PySem.W.Frag) : List V → Hp → VK → Prop := fun xs H Q => ∃ p ys, xs = [.ref p] ∧ ((SqL K H p ys ∧ ∀ l, H l = none → Q (.ref l) (upd H l (.tup ys))) ∨ (SqT K H p ys ∧ Q (.ref p) H))
/-- x op= y -/
abbrev iAdd : TIp := ipI fun i j => i + j
abbrev iSub : TIp := ipI fun i j => i - j
section
variable {X : Cx}
theorem opAdd : OpR X (binaryOp .Add) rAdd := op_add
theorem opSub : OpR X (binaryOp .Sub) rSub := op_sub
theorem opMul : OpR X (binaryOp .Mult) rMul := op_mulW
theorem opDiv : OpR X (binaryOp .FloorDiv) rDiv := op_fdivW
theorem opMod : OpR X (binaryOp .Mod) rMod := op_mod
theorem opPow : OpR X (binaryOp .Pow) rPow := op_pow
theorem ipAdd : PIp X .Add iAdd := ip_add
theorem ipSub : PIp X .Sub iSub := ip_sub
end
/-! ### defs by their promises -/
/-- a def that may be called by its name -/
structure Fn (P : Program) (w : World) (K : PySem.W.Frag) (mg : Str → Option Value) (base : Heap) (CX : CXT) (k : Nat) (x : Str) (sp : Sp) (dvs : List V) : Prop where
  ex : ∃ (f : Addr) (fd : FuncData) (ps : List Str) (ds : List Value), FnOk P w K mg base CX k f fd ps sp ∧ mg x = some (.ref f) ∧ PySem.W.keepIn K (.ref f) = true ∧ Binds K fd ps ds ∧ Vals dvs ds
/-- a method of the class at C -/
structure Mt (P : Program) (w : World) (K : PySem.W.Frag) (mg : Str → Option Value) (base : Heap) (CX : CXT) (k : Nat) (C : Addr) (m : Str) (sp : Sp) (dvs : List V) : Prop where
  ex : ∃ (f : Addr) (fd : FuncData) (ps : List Str) (ds : List Value), Cls K C ∧ Meth K C m f ∧ FnOk P w K mg base CX k f fd ps sp ∧ Binds K fd ps ds ∧ Vals dvs ds
/-- a class that may be made by its name -/
structure Mkr (P : Program) (w : World) (K : PySem.W.Frag) (mg : Str → Option Value) (base : Heap) (CX : CXT) (k : Nat) (x : Str) (C : Addr) (sp : Sp) (dvs : List V) : Prop where
  ex : ∃ (f : Addr) (fd : FuncData) (ps : List Str) (ds : List Value), Mk K C f ∧ FnOk P w K mg base CX k f fd ps sp ∧ mg x = some (.ref C) ∧ Binds K fd ps ds ∧ Vals dvs ds
section
variable {X : Cx} {CX : CXT} {k j : Nat} {C : Addr} {x m : Str} {sp : Sp} {dvs : List V} {p pos apos : Pos} {e o : Expr} {es : List Expr} {ta : TE} {t : TA} {E : XK}
theorem pe_f (c : Fn X.prog X.w X.K X.mg X.base CX0 k x sp dvs) (hr : Room j X.A) (hk : k ≤ j) (hg : Gl X x) (ha : PA X (e :: es) t)
    (hdb : (x == ("__debug__" : Str)) = false := by decide) (he : starEach (e :: es) X.env = (false, eval e X.env) :: starEach es X.env := by rfl) (hpl : (backTo pos (starEach es X.env)).any (·.1) = false := by rfl) :
    PE X (.Call (.Name x p) (e :: es) [] pos) (tCall sp dvs E0 t) := by
  obtain ⟨f, fd, ps, ds, F, hm, kp, b, d⟩ := c.ex
  exact pe_call F (hr.mono hk) hg hm kp b d pass0 ha hdb he hpl
theorem pe_m (c : Mkr X.prog X.w X.K X.mg X.base CX0 k x C sp dvs) (hr : Room j X.A) (hk : k + 1 ≤ j) (hg : Gl X x) (ha : PA X (e :: es) t)
    (hdb : (x == ("__debug__" : Str)) = false := by decide) (he : starEach (e :: es) X.env = (false, eval e X.env) :: starEach es X.env := by rfl) (hpl : (backTo pos (starEach es X.env)).any (·.1) = false := by rfl) :
    PE X (.Call (.Name x p) (e :: es) [] pos) (tMake C sp dvs E0 t) := by
  obtain ⟨f, fd, ps, ds, M, F, hm, b, d⟩ := c.ex
  exact pe_make M F (hr.mono hk) hg hm b d pass0 ha hdb he hpl
theorem pe_o0 {pl : Sem Bool} (c : Mt X.prog X.w X.K X.mg X.base CX0 k C m sp dvs) (hr : Room j X.A) (hk : k ≤ j) (he : PE X o ta)
    (ht : eval (.Call (.Attribute o m apos) [] [] pos) X.env = (do
      let ov ← eval o X.env
      standAt apos.atName
      let (f, first) ← holding [ov] (getMethod ov m pl)
      callWith pos f first (backTo pos (starEach [] X.env)) (backToKw pos (keywordEach [] X.env))) := by rfl) :
    PE X (.Call (.Attribute o m apos) [] [] pos) (tMeth C m sp dvs E0 ta tNil) := by
  obtain ⟨f, fd, ps, ds, hc, hm, F, b, d⟩ := c.ex
  exact pe_meth0 (pl := pl) he hc hm F (hr.mono hk) b d pass0 ht
end
/-! ### defs of the head, by their data -/
section
variable {P : Program} {w : World} {K : PySem.W.Frag} {mg : Str → Option Value} {base : Heap}
/-- a def of the module (no defaults), from its body -/
theorem Fn.mk0 {x : Str} {params : Arguments} {body : List Stmt} {scope : Scope} {f : Addr} {N ps : List Str} {k : Nat} {sp : Sp}
    (F : ∃ fd, FunD K x x params body scope [] [] f fd) (g : mg x = some (.ref f)) (S : FnScope N ps scope)
    (hb : ∀ (kV doc pm : Value) (an : Option Addr) (cdv ct : Value) (us : List Value), us.length = ps.length → bindArgs (PySem.W.fnOf x x params body scope .none kV doc pm an cdv ct) ⟨us, []⟩ = pure (ps.zip us))
    (len : ∀ vs H Q E, sp vs H Q E → vs.length = ps.length)
    (hbody : ∀ (cdv : Value) (A : Around) (outer : List Env) (s : Shared) (H : Hp) (vs : List V) (Q : VK) (E : XK), Room k (A.deeper (envOfC x scope s.heap.objs.size f cdv)) → sp vs H Q E →
      ∃ t, PSs (cxOf CX0 P w K mg base N x scope f cdv A outer s H E).nox body t ∧ t { nx := fun _ H' => Q .non H', rt := Q } (start N vs) H) : Fn P w K mg base CX0 (k + 1) x sp [] := by
  obtain ⟨fd, F⟩ := F
  refine ⟨f, fd, ps, [], ?_, g, F.kp, ?_, .nil⟩
  · refine F.ok S len fun cdv A outer s H vs Q E hr h => ?_
    obtain ⟨t, h1, h2⟩ := hbody cdv A outer s H vs Q E hr h
    exact ⟨t, h1.nox, h2⟩
  · exact F.bindsN fun kV doc pm an cdv ct us hl => hb kV doc pm an cdv ct us hl
/-- a method (no defaults) -/
theorem Mt.mk0 {m qual : Str} {C : Addr} {params : Arguments} {body : List Stmt} {scope : Scope} {f : Addr} {N ps : List Str} {k : Nat} {sp : Sp}
    (c : Cls K C) (me : Meth K C m f) (F : ∃ fd, FunD K m qual params body scope [] [] f fd) (S : FnScope N ps scope)
    (hb : ∀ (kV doc pm : Value) (an : Option Addr) (cdv ct : Value) (us : List Value), us.length = ps.length → bindArgs (PySem.W.fnOf m qual params body scope .none kV doc pm an cdv ct) ⟨us, []⟩ = pure (ps.zip us))
    (len : ∀ vs H Q E, sp vs H Q E → vs.length = ps.length)
    (hbody : ∀ (cdv : Value) (A : Around) (outer : List Env) (s : Shared) (H : Hp) (vs : List V) (Q : VK) (E : XK), Room k (A.deeper (envOfC qual scope s.heap.objs.size f cdv)) → sp vs H Q E →
      ∃ t, PSs (cxOf CX0 P w K mg base N qual scope f cdv A outer s H E).nox body t ∧ t { nx := fun _ H' => Q .non H', rt := Q } (start N vs) H) : Mt P w K mg base CX0 (k + 1) C m sp [] := by
  obtain ⟨fd, F⟩ := F
  refine ⟨f, fd, ps, [], c, me, ?_, ?_, .nil⟩
  · refine F.ok S len fun cdv A outer s H vs Q E hr h => ?_
    obtain ⟨t, h1, h2⟩ := hbody cdv A outer s H vs Q E hr h
    exact ⟨t, h1.nox, h2⟩
  · exact F.bindsN hb
/-- .. with defaults dvs, of which those behind the first j fill up -/
theorem Mkr.mkD {x qual : Str} {C : Addr} {params : Arguments} {body : List Stmt} {scope : Scope} {f : Addr} {N ps : List Str} {k : Nat} {sp : Sp} {dvs : List V}
    (n j : Nat) (M : Mk K C f) (g : mg x = some (.ref C)) (F : ∃ fd, FunD K "__init__" qual params body scope dvs [] f fd) (S : FnScope N ps scope) (hd : dvs ≠ []) (hn : n + (dvs.length - j) = ps.length)
    (hb : ∀ (T : Addr) (kV doc pm : Value) (an : Option Addr) (cdv ct : Value) (us its : List Value), us.length = n → its.length = dvs.length →
      ∃ k, bindArgs (PySem.W.fnOf "__init__" qual params body scope (.ref T) kV doc pm an cdv ct) ⟨us, []⟩ = seqItems? (.ref T) >>= k ∧ k (some its.toArray) = pure (ps.zip (us ++ its.drop j)))
    (len : ∀ vs H Q E, sp vs H Q E → vs.length = ps.length)
    (hbody : ∀ (cdv : Value) (A : Around) (outer : List Env) (s : Shared) (H : Hp) (vs : List V) (Q : VK) (E : XK), Room k (A.deeper (envOfC qual scope s.heap.objs.size f cdv)) → sp vs H Q E →
      ∃ t, PSs (cxOf CX0 P w K mg base N qual scope f cdv A outer s H E).nox body t ∧ t { nx := fun _ H' => Q .non H', rt := Q } (start N vs) H) : Mkr P w K mg base CX0 (k + 1) x C sp (dvs.drop j) := by
  obtain ⟨fd, F⟩ := F
  obtain ⟨ds, hv, hbn⟩ := F.binds1 (ps := ps) n j hd hn hb
  refine ⟨f, fd, ps, ds, M, ?_, g, hbn, hv⟩
  refine F.ok S len fun cdv A outer s H vs Q E hr h => ?_
  obtain ⟨t, h1, h2⟩ := hbody cdv A outer s H vs Q E hr h
  exact ⟨t, h1.nox, h2⟩
end
/-! ### the head's facts, with one more Bool -/
end FW
/-! own errors: class X(FloorError): def __init__(self, f): super().__init__('..'); self.f = f -/
namespace PySem
namespace ErrX
open PySem.W PySem.Calls PyProof.Rows PySem.HandSPX
end ErrX
end PySem
namespace FW
open PySem PySem.Spec PyProof.Rows L2
end FW
namespace FW
open PySem PySem.Spec PyProof.Rows L2 PySem.W PySem.HandSPX PySem.ErrX
/-! ### what the head looks at of an own error -/
abbrev FnE : Type := Option (Str × Str × Arguments × FuncBody × Scope × Addr × Value × Addr)
def fnE (K : Frag) (x : Str) : FnE := match K.lookup (He.ma K (He.ga K x) "__init__") with
  | some ⟨_, _, .func fd, _⟩ => some (fd.name, fd.qualname, fd.params, fd.body, fd.scope, fd.globals, fd.defaults, fd.builtins)
  | _ => none
/-- an own error's __init__, as the text has it -/
structure ErrD where
  x : Str
  qual : Str
  params : Arguments
  body : List Stmt
  scope : Scope
def ErrD.val (d : ErrD) : FnE := some (("__init__" : Str), d.qual, d.params, FuncBody.stmts d.body, d.scope, mainGlobals, Value.none, builtinsNs)
end FW
namespace FW
open PySem PySem.Spec PyProof.Rows L2
/-! ### several clauses «except X as n» -/
/-! ### calls of defs that may raise -/
end FW
namespace FW
open PySem PySem.Spec PyProof.Rows L2 PySem.W PySem.HandSPX PySem.ErrX
/-! ### the head's facts, with empty tables left out -/
abbrev AlZ : Type := He.AlD × Bool × List FnE
def obsZK (fa : List He.Fa) (fn : List He.DefD) (ex : Frag → Bool) (er : List ErrD) (tf : List He.Defn) (g : Addr → Option Obj) (K : Frag) : AlZ := (He.obsD fa fn K, ex K && He.tabsB g tf K, er.map fun d => fnE K d.x)
structure SaysZ (fa : List He.Fa) (fn : List He.DefD) (ex : Frag → Bool) (er : List ErrD) (tf : List He.Defn) (h : Heap) (K : Frag) : Prop where
  d : He.SaysD fa fn K
  ex : ex K = true
  er : er.map (fun d => fnE K d.x) = er.map ErrD.val
  hd : ∀ p ∈ tf, codeHdIn K (He.cT K p).1 (He.cT K p).2 = true
  out : ∀ p ∈ tf, K.lookup (He.cT K p).2 = none
  empty : ∀ p ∈ tf, h.get? (He.cT K p).2 = some { cls := .none, data := .fields #[] }
def valZ (fn : List He.DefD) (er : List ErrD) : AlZ := (He.valD fn, true, er.map ErrD.val)
theorem saysZ_of {fa : List He.Fa} {fn : List He.DefD} {ex : Frag → Bool} {er : List ErrD} {tf : List He.Defn} {h : Heap} {as : List Addr} (e : obsZK fa fn ex er tf h.get? (He.frT h.get? as) = valZ fn er) : SaysZ fa fn ex er tf h (He.frT h.get? as) := by
  have e2 : (ex (He.frT h.get? as) && He.tabsB h.get? tf (He.frT h.get? as)) = true := congrArg (fun z : AlZ => z.2.1) e
  obtain ⟨h1, h2⟩ := He.ba e2
  have key : ∀ p ∈ tf, codeHdIn (He.frT h.get? as) (He.cT (He.frT h.get? as) p).1 (He.cT (He.frT h.get? as) p).2 = true ∧ ∃ o, h.get? (He.cT (He.frT h.get? as) p).2 = some o ∧ He.emptyTab o = true := fun p hp => by
    obtain ⟨h3, h4⟩ := He.ba (List.all_eq_true.mp h2 p hp)
    refine ⟨h3, ?_⟩
    cases q : h.get? (He.cT (He.frT h.get? as) p).2 with
    | none => rw [q] at h4; cases h4
    | some o => rw [q] at h4; exact ⟨o, rfl, h4⟩
  exact ⟨congrArg (fun z : AlZ => z.1) e, h1, congrArg (fun z : AlZ => z.2.2) e, fun p hp => (key p hp).1, fun p hp => by
    obtain ⟨_, o, q, z⟩ := key p hp
    exact He.frT_none q z, fun p hp => by
    obtain ⟨_, o, q, z⟩ := key p hp
    rw [q, He.emptyTab_eq z]⟩
/-! ### a def whose code object is known -/
section
variable {P : Program} {w : World} {K : PySem.W.Frag} {mg : Str → Option Value} {base : Heap}
theorem funD_okC {CX : CXT} {x qual : Str} {params : Arguments} {body : List Stmt} {scope : Scope} {dvs : List V} {kws : List (Str × V)} {fd : FuncData} {p : He.Defn} {N ps : List Str} {k : Nat} {sp : Sp}
    (F : FunD K x qual params body scope dvs kws (He.fAd K p) fd) (S : FnScope N ps scope) (len : ∀ vs H Q E, sp vs H Q E → vs.length = ps.length)
    (hbody : ∀ (A : Around) (outer : List Env) (s : Shared) (H : Hp) (vs : List V) (Q : VK) (E : XK), Room k (A.deeper (envOfC qual scope s.heap.objs.size (He.fAd K p) (.ref (He.codeOf K p)))) → sp vs H Q E →
      ∃ t, PSs (cxOf CX P w K mg base N qual scope (He.fAd K p) (.ref (He.codeOf K p)) A outer s H E) body t ∧ t { nx := fun _ H' => Q .non H', rt := Q } (start N vs) H) : FnOk P w K mg base CX (k + 1) (He.fAd K p) fd ps sp := by
  obtain ⟨oc, od, dV, kV, doc, pm, an, cdv, ct, osl, rfl, lk, hcd, _, _⟩ := F.ex
  obtain ⟨c, rfl⟩ := He.codeIn_ref hcd
  have e : He.codeOf K p = c := He.codeOf_eq lk rfl
  exact fn_of lk hcd S len fun A outer s H vs Q E hr hsp => by
    rw [← e] at hr ⊢
    exact hbody A outer s H vs Q E hr hsp
/-- a def of the module that makes lambdas -/
theorem Fn.mkC {x : Str} {params : Arguments} {body : List Stmt} {scope : Scope} {N ps : List Str} {k : Nat} {sp : Sp}
    (F : ∃ fd, FunD K x x params body scope [] [] (He.fAd K (x, none)) fd) (g : mg x = some (.ref (He.fAd K (x, none)))) (S : FnScope N ps scope)
    (hb : ∀ (kV doc pm : Value) (an : Option Addr) (cdv ct : Value) (us : List Value), us.length = ps.length → bindArgs (PySem.W.fnOf x x params body scope .none kV doc pm an cdv ct) ⟨us, []⟩ = pure (ps.zip us))
    (len : ∀ vs H Q E, sp vs H Q E → vs.length = ps.length)
    (hbody : ∀ (A : Around) (outer : List Env) (s : Shared) (H : Hp) (vs : List V) (Q : VK) (E : XK), Room k (A.deeper (envOfC x scope s.heap.objs.size (He.fAd K (x, none)) (.ref (He.codeOf K (x, none))))) → sp vs H Q E →
      ∃ t, PSs (cxOf CX0 P w K mg base N x scope (He.fAd K (x, none)) (.ref (He.codeOf K (x, none))) A outer s H E).nox body t ∧ t { nx := fun _ H' => Q .non H', rt := Q } (start N vs) H) : Fn P w K mg base CX0 (k + 1) x sp [] := by
  obtain ⟨fd, F⟩ := F
  refine ⟨_, fd, ps, [], funD_okC F S len fun A outer s H vs Q E hr h => ?_, g, F.kp, F.bindsN hb, .nil⟩
  obtain ⟨t, h1, h2⟩ := hbody A outer s H vs Q E hr h
  exact ⟨t, h1.nox, h2⟩
end
/-! ### a body that may raise what W takes, whatever the slots -/
/-! ### what stays where lambdas are made -/
theorem extN_sqL {K : PySem.W.Frag} {H H' : Hp} {a : Addr} {xs : List V} (e : LamX.ExtN H H') (h : SqL K H a xs) : SqL K H' a xs := by
  rcases h with h | h
  · rcases h with h | ⟨o, h⟩
    · exact .inl (.inl (e _ _ h (fun _ z => by cases z)))
    · exact .inl (.inr ⟨o, e _ _ h (fun _ z => by cases z)⟩)
  · exact .inr h
end FW
namespace FW
open PySem PySem.Spec PyProof.Rows L2 PySem.W
/-! ### the head's run with less memory: what is reached from the globals, each address once, by a bit set -/
def hasZ (seen a : Nat) : Bool := Nat.beq (Nat.land (Nat.shiftRight seen a) 1) 1
def addZ : List Addr → List Addr → Nat → (List Addr → Nat → List Addr) → List Addr
  | [], acc, seen, k => k acc seen
  | a :: r, acc, seen, k => match hasZ seen a with
    | true => addZ r acc seen k
    | false => addZ r (a :: acc) (Nat.lor seen (Nat.shiftLeft 1 a)) k
def kidsZ (g : Addr → Option Obj) : List Addr → List Addr → Nat → (List Addr → Nat → List Addr) → List Addr
  | [], acc, seen, k => k acc seen
  | a :: r, acc, seen, k => match g a with
    | some o => addZ (He.refsD o) acc seen fun acc' seen' => kidsZ g r acc' seen' k
    | none => kidsZ g r acc seen k
def levZ (g : Addr → Option Obj) : Nat → List Addr → List Addr → Nat → List Addr
  | 0, _, tot, _ => tot
  | n + 1, fr, tot, seen => kidsZ g fr [] seen fun new seen' => levZ g n new (new ++ tot) seen'
def asZ (n : Nat) (g : Addr → Option Obj) : List Addr := levZ g n [mainGlobals] [mainGlobals] (Nat.shiftLeft 1 mainGlobals)
def obsV (n : Nat) (fa : List He.Fa) (fn : List He.DefD) (ex : Frag → Bool) (er : List ErrD) (tf : List He.Defn) (g : Addr → Option Obj) : AlZ := obsZK fa fn ex er tf g (He.frT g (asZ n g ++ [cStatics, sysModules]))
def hookV (n : Nat) (fa : List He.Fa) (fn : List He.DefD) (ex : Frag → Bool) (er : List ErrD) (tf : List He.Defn) : PySem.W.Hook where
  α := AlZ
  obs := fun s => obsV n fa fn ex er tf s.heap.get?
  val := fun _ => valZ fn er
  says := fun _ h => ∃ K : Frag, K.In h ∧ SaysZ fa fn ex er tf h K
  of := fun _ _ e => ⟨_, He.frT_in, saysZ_of e⟩
  keeps := fun _ _ _ ⟨K, hK, c⟩ k => ⟨K, PySem.W.Frag.In.keeps hK k, ⟨c.d, c.ex, c.er, c.hd, c.out, fun p hp => k _ _ (c.empty p hp)⟩⟩
theorem obsV_eq {n : Nat} {fa : List He.Fa} {fn : List He.DefD} {ex : Frag → Bool} {er : List ErrD} {tf : List He.Defn} {g : Addr → Option Obj} {s : Shared} (h : ∀ a, g a = s.heap.get? a) : obsV n fa fn ex er tf g = (hookV n fa fn ex er tf).obs s := by
  have e : g = s.heap.get? := funext h
  rw [e] <;> rfl
end FW
namespace FWL
open PySem PySem.Spec PyProof.Rows L2 FW
def top (i : Nat) : Stmt := PySem.Challenge.pw_floorward_k15_tables_of_other_windows.main.body.getD i (.Pass ⟨0, 0, 0, 0⟩)
def clsBody : Stmt → List Stmt | .ClassDef (body := b) .. => b | _ => []
def meth (i j : Nat) : Stmt := (clsBody (top i)).getD j (.Pass ⟨0, 0, 0, 0⟩)
abbrev st_is_whole : Stmt := FWL.top 7
abbrev N_is_whole : List Str := ["thing"]
theorem sc_is_whole : FnScope N_is_whole ["thing"] (defScope st_is_whole) := ⟨rfl, rfl, rfl, by decide +kernel, rfl, by decide +kernel, by decide +kernel⟩
abbrev st_is_whole_from : Stmt := FWL.top 8
abbrev N_is_whole_from : List Str := ["thing", "least"]
theorem sc_is_whole_from : FnScope N_is_whole_from ["thing", "least"] (defScope st_is_whole_from) := ⟨rfl, rfl, rfl, by decide +kernel, rfl, by decide +kernel, by decide +kernel⟩
abbrev st_power : Stmt := FWL.top 10
abbrev st_trimmed : Stmt := FWL.top 11
abbrev N_trimmed : List Str := ["coefficients", "many"]
theorem sc_trimmed : FnScope N_trimmed ["coefficients"] (defScope st_trimmed) := ⟨rfl, rfl, rfl, by decide +kernel, rfl, by decide +kernel, by decide +kernel⟩
abbrev st_poly_value : Stmt := FWL.top 12
abbrev N_poly_value : List Str := ["poly", "r", "found", "coefficient"]
theorem sc_poly_value : FnScope N_poly_value ["poly", "r"] (defScope st_poly_value) := ⟨rfl, rfl, rfl, by decide +kernel, rfl, by decide +kernel, by decide +kernel⟩
abbrev st_poly_sum : Stmt := FWL.top 13
abbrev N_poly_sum : List Str := ["one", "other", "many", "first", "second", "x", "y"]
theorem sc_poly_sum : FnScope N_poly_sum ["one", "other"] (defScope st_poly_sum) := ⟨rfl, rfl, rfl, by decide +kernel, rfl, by decide +kernel, by decide +kernel⟩
abbrev st_poly_product : Stmt := FWL.top 14
abbrev N_poly_product : List Str := ["one", "other", "found", "i", "x", "j", "y"]
theorem sc_poly_product : FnScope N_poly_product ["one", "other"] (defScope st_poly_product) := ⟨rfl, rfl, rfl, by decide +kernel, rfl, by decide +kernel, by decide +kernel⟩
abbrev st_poly_less : Stmt := FWL.top 15
abbrev N_poly_less : List Str := ["one", "other", "coefficient"]
theorem sc_poly_less : FnScope N_poly_less ["one", "other"] (defScope st_poly_less) := ⟨rfl, rfl, rfl, by decide +kernel, rfl, by decide +kernel, by decide +kernel⟩
abbrev st_poly_power : Stmt := FWL.top 16
abbrev N_poly_power : List Str := ["poly", "k", "found", "turn"]
theorem sc_poly_power : FnScope N_poly_power ["poly", "k"] (defScope st_poly_power) := ⟨rfl, rfl, rfl, by decide +kernel, rfl, by decide +kernel, by decide +kernel⟩
abbrev st_poly_shift : Stmt := FWL.top 17
abbrev N_poly_shift : List Str := ["poly", "by", "found", "coefficient"]
theorem sc_poly_shift : FnScope N_poly_shift ["poly", "by"] (defScope st_poly_shift) := ⟨rfl, rfl, rfl, by decide +kernel, rfl, by decide +kernel, by decide +kernel⟩
abbrev st_sign : Stmt := FWL.top 18
abbrev N_sign : List Str := ["number"]
theorem sc_sign : FnScope N_sign ["number"] (defScope st_sign) := ⟨rfl, rfl, rfl, by decide +kernel, rfl, by decide +kernel, by decide +kernel⟩
abbrev st_settled : Stmt := FWL.top 19
abbrev N_settled : List Str := ["poly", "coefficient"]
theorem sc_settled : FnScope N_settled ["poly"] (defScope st_settled) := ⟨rfl, rfl, rfl, by decide +kernel, rfl, by decide +kernel, by decide +kernel⟩
abbrev st_next_change : Stmt := FWL.top 20
abbrev N_next_change : List Str := ["poly", "begun", "beyond", "low", "high", "middle"]
theorem sc_next_change : FnScope N_next_change ["poly", "begun", "beyond"] (defScope st_next_change) := ⟨rfl, rfl, rfl, by decide +kernel, rfl, by decide +kernel, by decide +kernel⟩
abbrev st_changes : Stmt := FWL.top 21
abbrev N_changes : List Str := ["poly", "first", "last", "inner", "ends", "r", "found", "begun", "beyond"]
theorem sc_changes : FnScope N_changes ["poly", "first"] (defScope st_changes) := ⟨rfl, rfl, rfl, by decide +kernel, rfl, by decide +kernel, by decide +kernel⟩
abbrev st_sign_from : Stmt := FWL.top 22
abbrev N_sign_from : List Str := ["poly", "first"]
theorem sc_sign_from : FnScope N_sign_from ["poly", "first"] (defScope st_sign_from) := ⟨rfl, rfl, rfl, by decide +kernel, rfl, by decide +kernel, by decide +kernel⟩
abbrev st_is_word_of : Stmt := FWL.top 28
abbrev N_is_word_of : List Str := ["thing", "words"]
theorem sc_is_word_of : FnScope N_is_word_of ["thing", "words"] (defScope st_is_word_of) := ⟨rfl, rfl, rfl, by decide +kernel, rfl, by decide +kernel, by decide +kernel⟩
abbrev st_wrong_part : Stmt := FWL.top 29
abbrev N_wrong_part : List Str := ["k", "a", "c", "d", "stop", "told", "mend"]
theorem sc_wrong_part : FnScope N_wrong_part ["k", "a", "c", "d", "stop", "told", "mend"] (defScope st_wrong_part) := ⟨rfl, rfl, rfl, by decide +kernel, rfl, by decide +kernel, by decide +kernel⟩
abbrev st_Average_init : Stmt := FWL.meth 30 0
abbrev N_Average_init : List Str := ["self", "k", "a", "c", "d", "stop", "told", "mend", "wrong"]
theorem sc_Average_init : FnScope N_Average_init ["self", "k", "a", "c", "d", "stop", "told", "mend"] (defScope st_Average_init) := ⟨rfl, rfl, rfl, by decide +kernel, rfl, by decide +kernel, by decide +kernel⟩
abbrev st_Average_led : Stmt := FWL.meth 30 4
abbrev st_Average_nearness : Stmt := FWL.meth 30 8
abbrev N_Average_nearness : List Str := ["self"]
theorem sc_Average_nearness : FnScope N_Average_nearness ["self"] (defScope st_Average_nearness) := ⟨rfl, rfl, rfl, by decide +kernel, rfl, by decide +kernel, by decide +kernel⟩
abbrev st_slant : Stmt := FWL.top 33
abbrev N_slant : List Str := ["loop"]
theorem sc_slant : FnScope N_slant ["loop"] (defScope st_slant) := ⟨rfl, rfl, rfl, by decide +kernel, rfl, by decide +kernel, by decide +kernel⟩
abbrev st_end_poly : Stmt := FWL.top 34
abbrev N_end_poly : List Str := ["k"]
theorem sc_end_poly : FnScope N_end_poly ["k"] (defScope st_end_poly) := ⟨rfl, rfl, rfl, by decide +kernel, rfl, by decide +kernel, by decide +kernel⟩
abbrev st_rest_poly : Stmt := FWL.top 35
abbrev N_rest_poly : List Str := ["k", "i", "j"]
theorem sc_rest_poly : FnScope N_rest_poly ["k", "i", "j"] (defScope st_rest_poly) := ⟨rfl, rfl, rfl, by decide +kernel, rfl, by decide +kernel, by decide +kernel⟩
abbrev st_needed : Stmt := FWL.top 36
abbrev N_needed : List Str := ["loop", "i", "gap"]
theorem sc_needed : FnScope N_needed ["loop", "i", "gap"] (defScope st_needed) := ⟨rfl, rfl, rfl, by decide +kernel, rfl, by decide +kernel, by decide +kernel⟩
abbrev st_fall_poly : Stmt := FWL.top 37
abbrev N_fall_poly : List Str := ["loop", "gap", "reach", "lesser"]
theorem sc_fall_poly : FnScope N_fall_poly ["loop", "gap"] (defScope st_fall_poly) := ⟨rfl, rfl, rfl, by decide +kernel, rfl, by decide +kernel, by decide +kernel⟩
abbrev st_above : Stmt := FWL.top 38
abbrev N_above : List Str := ["one", "other"]
theorem sc_above : FnScope N_above ["one", "other"] (defScope st_above) := ⟨rfl, rfl, rfl, by decide +kernel, rfl, by decide +kernel, by decide +kernel⟩
abbrev st_is_row_of : Stmt := FWL.top 39
abbrev N_is_row_of : List Str := ["thing", "many", "x"]
theorem sc_is_row_of : FnScope N_is_row_of ["thing", "many"] (defScope st_is_row_of) := ⟨rfl, rfl, rfl, by decide +kernel, rfl, by decide +kernel, by decide +kernel⟩
abbrev st_has_form : Stmt := FWL.top 40
abbrev N_has_form : List Str := ["thing", "first", "low", "high", "cuts", "maps", "cut", "row"]
theorem sc_has_form : FnScope N_has_form ["thing"] (defScope st_has_form) := ⟨rfl, rfl, rfl, by decide +kernel, rfl, by decide +kernel, by decide +kernel⟩
abbrev st_is_led : Stmt := FWL.top 41
abbrev N_is_led : List Str := ["loop", "i", "gap", "first", "begin", "stop", "least", "beyond"]
theorem sc_is_led : FnScope N_is_led ["loop", "i", "gap", "first", "begin", "stop"] (defScope st_is_led) := ⟨rfl, rfl, rfl, by decide +kernel, rfl, by decide +kernel, by decide +kernel⟩
abbrev st_is_table : Stmt := FWL.top 42
abbrev N_is_table : List Str := ["loop", "thing", "first", "low", "high", "cuts", "maps", "rising", "cut", "t", "row", "k", "gap"]
theorem sc_is_table : FnScope N_is_table ["loop", "thing"] (defScope st_is_table) := ⟨rfl, rfl, rfl, by decide +kernel, rfl, by decide +kernel, by decide +kernel⟩
abbrev st_l_stream : Stmt := FWL.top 44
abbrev N_l_stream : List Str := ["_law_script", "_law_k", "_law_cell"]
theorem sc_l_stream : FnScope N_l_stream ["_law_script", "_law_k"] (defScope st_l_stream) := ⟨rfl, rfl, rfl, by decide +kernel, rfl, by decide +kernel, by decide +kernel⟩
abbrev st_l_draw : Stmt := FWL.top 45
abbrev N_l_draw : List Str := ["_law_stream_here", "_law_many", "_law_digit", "_law_spread"]
theorem sc_l_draw : FnScope N_l_draw ["_law_stream_here", "_law_many"] (defScope st_l_draw) := ⟨rfl, rfl, rfl, by decide +kernel, rfl, by decide +kernel, by decide +kernel⟩
abbrev st_l_pick : Stmt := FWL.top 46
abbrev N_l_pick : List Str := ["_law_stream_here", "_law_things"]
theorem sc_l_pick : FnScope N_l_pick ["_law_stream_here", "_law_things"] (defScope st_l_pick) := ⟨rfl, rfl, rfl, by decide +kernel, rfl, by decide +kernel, by decide +kernel⟩
abbrev st_l_weights : Stmt := FWL.top 47
abbrev N_l_weights : List Str := ["_law_k", "_law_found", "_law_a", "_law_c"]
theorem sc_l_weights : FnScope N_l_weights ["_law_k"] (defScope st_l_weights) := ⟨rfl, rfl, rfl, by decide +kernel, rfl, by decide +kernel, by decide +kernel⟩
abbrev st_l_parts : Stmt := FWL.top 48
abbrev N_l_parts : List Str := ["_law_stream_here", "_law_k", "_law_a", "_law_c", "_law_d", "_law_stop", "_law_told", "_law_mend"]
theorem sc_l_parts : FnScope N_l_parts ["_law_stream_here"] (defScope st_l_parts) := ⟨rfl, rfl, rfl, by decide +kernel, rfl, by decide +kernel, by decide +kernel⟩
abbrev st_l_loop : Stmt := FWL.top 49
abbrev N_l_loop : List Str := ["_law_parts_here"]
theorem sc_l_loop : FnScope N_l_loop ["_law_parts_here"] (defScope st_l_loop) := ⟨rfl, rfl, rfl, by decide +kernel, rfl, by decide +kernel, by decide +kernel⟩
abbrev st_l_near : Stmt := FWL.top 50
abbrev N_l_near : List Str := ["_law_parts_here"]
theorem sc_l_near : FnScope N_l_near ["_law_parts_here"] (defScope st_l_near) := ⟨rfl, rfl, rfl, by decide +kernel, rfl, by decide +kernel, by decide +kernel⟩
abbrev st_l_window : Stmt := FWL.top 51
abbrev N_l_window : List Str := ["_law_parts_here", "_law_k", "_law_a", "_law_c", "_law_d", "_law_stop", "_law_told", "_law_mend", "_law_low", "_law_lower"]
theorem sc_l_window : FnScope N_l_window ["_law_parts_here"] (defScope st_l_window) := ⟨rfl, rfl, rfl, by decide +kernel, rfl, by decide +kernel, by decide +kernel⟩
abbrev st_l_poly : Stmt := FWL.top 52
abbrev N_l_poly : List Str := ["_law_k", "_law_i", "_law_j", "_law_found", "_law_turn", "_law_longer", "_law_at", "_law_x"]
theorem sc_l_poly : FnScope N_l_poly ["_law_k", "_law_i", "_law_j"] (defScope st_l_poly) := ⟨rfl, rfl, rfl, by decide +kernel, rfl, by decide +kernel, by decide +kernel⟩
abbrev st_l_least : Stmt := FWL.top 53
abbrev N_l_least : List Str := ["_law_parts_here", "_law_i", "_law_k", "_law_a", "_law_c", "_law_d"]
theorem sc_l_least : FnScope N_l_least ["_law_parts_here", "_law_i"] (defScope st_l_least) := ⟨rfl, rfl, rfl, by decide +kernel, rfl, by decide +kernel, by decide +kernel⟩
abbrev st_l_turning : Stmt := FWL.top 54
abbrev N_l_turning : List Str := ["_law_parts_here", "_law_i", "_law_k", "_law_a", "_law_c", "_law_d", "_law_stop", "_law_told", "_law_mend", "_law_m", "_law_lean", "_law_gap", "_law_found", "_law_turn", "_law_j"]
theorem sc_l_turning : FnScope N_l_turning ["_law_parts_here", "_law_i"] (defScope st_l_turning) := ⟨rfl, rfl, rfl, by decide +kernel, rfl, by decide +kernel, by decide +kernel⟩
abbrev st_l_made : Stmt := FWL.top 55
abbrev N_l_made : List Str := ["_law_parts_here", "_law_low", "_law_high", "_law_first", "_law_k", "_law_turning_here", "_law_i", "_law_cuts", "_law_row", "_law_cut", "_law_maps", "_law_t", "_law_at", "_law_passed"]
theorem sc_l_made : FnScope N_l_made ["_law_parts_here", "_law_low", "_law_high", "_law_first"] (defScope st_l_made) := ⟨rfl, rfl, rfl, by decide +kernel, rfl, by decide +kernel, by decide +kernel⟩
abbrev st_l_wrong : Stmt := FWL.top 56
abbrev N_l_wrong : List Str := ["_law_stream_here", "_law_found", "_law_first", "_law_low", "_law_high", "_law_cuts", "_law_maps", "_law_t", "_law_at", "_law_row"]
theorem sc_l_wrong : FnScope N_l_wrong ["_law_stream_here", "_law_found"] (defScope st_l_wrong) := ⟨rfl, rfl, rfl, by decide +kernel, rfl, by decide +kernel, by decide +kernel⟩
abbrev st_law : Stmt := FWL.top 57
abbrev N_law : List Str := ["_law_script", "_law_turn", "_law_stream_here", "_law_parts_here", "_law_loop_here", "_law_low", "_law_high", "_law_first", "_law_found", "_law_listed", "_law_cut", "_law_row", "_law_wrong_here", "_law_thing", "_law_top"]
theorem sc_law : FnScope N_law ["_law_script"] (defScope st_law) := ⟨rfl, rfl, rfl, by decide +kernel, rfl, by decide +kernel, by decide +kernel⟩
def fn : List He.DefD := [⟨("is_whole", none), "is_whole", "is_whole", defArgs st_is_whole, defBody st_is_whole, defScope st_is_whole, [], []⟩,
  ⟨("is_whole_from", none), "is_whole_from", "is_whole_from", defArgs st_is_whole_from, defBody st_is_whole_from, defScope st_is_whole_from, [], []⟩,
  ⟨("power", none), "power", "power", defArgs st_power, defBody st_power, defScope st_power, [], []⟩,
  ⟨("trimmed", none), "trimmed", "trimmed", defArgs st_trimmed, defBody st_trimmed, defScope st_trimmed, [], []⟩,
  ⟨("poly_value", none), "poly_value", "poly_value", defArgs st_poly_value, defBody st_poly_value, defScope st_poly_value, [], []⟩,
  ⟨("poly_sum", none), "poly_sum", "poly_sum", defArgs st_poly_sum, defBody st_poly_sum, defScope st_poly_sum, [], []⟩,
  ⟨("poly_product", none), "poly_product", "poly_product", defArgs st_poly_product, defBody st_poly_product, defScope st_poly_product, [], []⟩,
  ⟨("poly_less", none), "poly_less", "poly_less", defArgs st_poly_less, defBody st_poly_less, defScope st_poly_less, [], []⟩,
  ⟨("poly_power", none), "poly_power", "poly_power", defArgs st_poly_power, defBody st_poly_power, defScope st_poly_power, [], []⟩,
  ⟨("poly_shift", none), "poly_shift", "poly_shift", defArgs st_poly_shift, defBody st_poly_shift, defScope st_poly_shift, [], []⟩,
  ⟨("sign", none), "sign", "sign", defArgs st_sign, defBody st_sign, defScope st_sign, [], []⟩,
  ⟨("settled", none), "settled", "settled", defArgs st_settled, defBody st_settled, defScope st_settled, [], []⟩,
  ⟨("next_change", none), "next_change", "next_change", defArgs st_next_change, defBody st_next_change, defScope st_next_change, [], []⟩,
  ⟨("changes", none), "changes", "changes", defArgs st_changes, defBody st_changes, defScope st_changes, [], []⟩,
  ⟨("sign_from", none), "sign_from", "sign_from", defArgs st_sign_from, defBody st_sign_from, defScope st_sign_from, [], []⟩,
  ⟨("is_word_of", none), "is_word_of", "is_word_of", defArgs st_is_word_of, defBody st_is_word_of, defScope st_is_word_of, [], []⟩,
  ⟨("wrong_part", none), "wrong_part", "wrong_part", defArgs st_wrong_part, defBody st_wrong_part, defScope st_wrong_part, [], []⟩,
  ⟨("Average", some "__init__"), "__init__", "Average.__init__", defArgs st_Average_init, defBody st_Average_init, defScope st_Average_init, [.str "old", .str "none"], []⟩,
  ⟨("Average", some "led"), "led", "Average.led", defArgs st_Average_led, defBody st_Average_led, defScope st_Average_led, [], []⟩,
  ⟨("Average", some "nearness"), "nearness", "Average.nearness", defArgs st_Average_nearness, defBody st_Average_nearness, defScope st_Average_nearness, [], []⟩,
  ⟨("slant", none), "slant", "slant", defArgs st_slant, defBody st_slant, defScope st_slant, [], []⟩,
  ⟨("end_poly", none), "end_poly", "end_poly", defArgs st_end_poly, defBody st_end_poly, defScope st_end_poly, [], []⟩,
  ⟨("rest_poly", none), "rest_poly", "rest_poly", defArgs st_rest_poly, defBody st_rest_poly, defScope st_rest_poly, [], []⟩,
  ⟨("needed", none), "needed", "needed", defArgs st_needed, defBody st_needed, defScope st_needed, [], []⟩,
  ⟨("fall_poly", none), "fall_poly", "fall_poly", defArgs st_fall_poly, defBody st_fall_poly, defScope st_fall_poly, [], []⟩,
  ⟨("above", none), "above", "above", defArgs st_above, defBody st_above, defScope st_above, [], []⟩,
  ⟨("is_row_of", none), "is_row_of", "is_row_of", defArgs st_is_row_of, defBody st_is_row_of, defScope st_is_row_of, [], []⟩,
  ⟨("has_form", none), "has_form", "has_form", defArgs st_has_form, defBody st_has_form, defScope st_has_form, [], []⟩,
  ⟨("is_led", none), "is_led", "is_led", defArgs st_is_led, defBody st_is_led, defScope st_is_led, [], []⟩,
  ⟨("is_table", none), "is_table", "is_table", defArgs st_is_table, defBody st_is_table, defScope st_is_table, [], []⟩,
  ⟨("_law_stream", none), "_law_stream", "_law_stream", defArgs st_l_stream, defBody st_l_stream, defScope st_l_stream, [], []⟩,
  ⟨("_law_draw", none), "_law_draw", "_law_draw", defArgs st_l_draw, defBody st_l_draw, defScope st_l_draw, [], []⟩,
  ⟨("_law_pick", none), "_law_pick", "_law_pick", defArgs st_l_pick, defBody st_l_pick, defScope st_l_pick, [], []⟩,
  ⟨("_law_weights", none), "_law_weights", "_law_weights", defArgs st_l_weights, defBody st_l_weights, defScope st_l_weights, [], []⟩,
  ⟨("_law_parts", none), "_law_parts", "_law_parts", defArgs st_l_parts, defBody st_l_parts, defScope st_l_parts, [], []⟩,
  ⟨("_law_loop", none), "_law_loop", "_law_loop", defArgs st_l_loop, defBody st_l_loop, defScope st_l_loop, [], []⟩,
  ⟨("_law_near", none), "_law_near", "_law_near", defArgs st_l_near, defBody st_l_near, defScope st_l_near, [], []⟩,
  ⟨("_law_window", none), "_law_window", "_law_window", defArgs st_l_window, defBody st_l_window, defScope st_l_window, [], []⟩,
  ⟨("_law_poly", none), "_law_poly", "_law_poly", defArgs st_l_poly, defBody st_l_poly, defScope st_l_poly, [], []⟩,
  ⟨("_law_least", none), "_law_least", "_law_least", defArgs st_l_least, defBody st_l_least, defScope st_l_least, [], []⟩,
  ⟨("_law_turning", none), "_law_turning", "_law_turning", defArgs st_l_turning, defBody st_l_turning, defScope st_l_turning, [], []⟩,
  ⟨("_law_made", none), "_law_made", "_law_made", defArgs st_l_made, defBody st_l_made, defScope st_l_made, [], []⟩,
  ⟨("_law_wrong", none), "_law_wrong", "_law_wrong", defArgs st_l_wrong, defBody st_l_wrong, defScope st_l_wrong, [], []⟩,
  ⟨("law", none), "law", "law", defArgs st_law, defBody st_law, defScope st_law, [], []⟩]
def fa : List He.Fa := [.free "abs", .free "all", .free "bool", .free "enumerate", .free "int", .free "isinstance", .free "len", .free "list", .free "max", .free "range", .free "sorted", .free "str", .free "tuple", .free "zip", .glo "LOOKS", .glo "MENDS", .glo "STOPS", .glo "TOLDS", .glo "is_whole", .glo "is_whole_from", .glo "power", .glo "trimmed", .glo "poly_value", .glo "poly_sum", .glo "poly_product", .glo "poly_less", .glo "poly_power", .glo "poly_shift", .glo "sign", .glo "settled", .glo "next_change", .glo "changes", .glo "sign_from", .glo "is_word_of", .glo "wrong_part", .glo "slant", .glo "end_poly", .glo "rest_poly", .glo "needed", .glo "fall_poly", .glo "above", .glo "is_row_of", .glo "has_form", .glo "is_led", .glo "is_table", .glo "_law_stream", .glo "_law_draw", .glo "_law_pick", .glo "_law_weights", .glo "_law_parts", .glo "_law_loop", .glo "_law_near", .glo "_law_window", .glo "_law_poly", .glo "_law_least", .glo "_law_turning", .glo "_law_made", .glo "_law_wrong", .glo "law", .glo "Average", .cls "Average", .mkr "Average", .meth "Average" "led", .meth "Average" "nearness", .noat "Average" "k", .noat "Average" "a", .noat "Average" "c", .noat "Average" "d", .noat "Average" "stop", .noat "Average" "told", .noat "Average" "mend"]
def ex (K : PySem.W.Frag) : Bool := ([He.tupB K "STOPS" [.str "notless", .str "equal", .str "near1", .str "near2", .str "back", .str "under", .str "held"], He.tupB K "TOLDS" [.str "old", .str "new", .str "less", .str "more"], He.tupB K "MENDS" [.str "none", .str "down", .str "up", .str "both"], He.tupB K "LOOKS" [.str "under", .str "held"]] : List Bool).all id
abbrev R : PySem.W.OpenRow := PySem.W.OpenLaw.row PySem.Challenge.rw_floorward_k15_tables_of_other_windows
def er : List FW.ErrD := []
def tf : List He.Defn := [("_law_made", none)]
abbrev hk : PySem.W.Hook := FW.hookV 4 fa fn ex er tf
def ob (s : PySem.W.SharedT) : FW.AlZ := FW.obsV 4 fa fn ex er tf (HandSHeadRun.getT s)
theorem ob_eq (s : PySem.W.SharedT) : ob s = hk.obs s.abs := FW.obsV_eq (HandSHeadRun.getT_eq s)
def loose0 : List Str := ["_wall", "FloorError", "BadNumber", "BadLoop", "BadStart", "is_whole", "is_whole_from", "check_number", "power", "trimmed", "poly_value", "poly_sum", "poly_product", "poly_less", "poly_power", "poly_shift", "sign", "settled", "next_change", "changes", "sign_from", "STOPS", "TOLDS", "MENDS", "LOOKS", "is_word_of", "wrong_part", "Average", "check_start", "slant"]
def loose1 : List Str := ["end_poly", "rest_poly", "needed", "fall_poly", "above", "is_row_of", "has_form", "is_led", "is_table", "_law_stream", "_law_draw", "_law_pick", "_law_weights", "_law_parts", "_law_loop", "_law_near", "_law_window", "_law_poly", "_law_least", "_law_turning", "_law_made", "_law_wrong"]
def loose : List Str := loose0 ++ loose1
theorem map3 {σ α β γ : Type} {o : Option σ} {f : σ → α} {g : σ → β} {h : σ → γ} {a : α} {b : β} {c : γ} (h1 : o.map f = some a) (h2 : o.map g = some b) (h3 : o.map h = some c) : o.map (fun s => (f s, g s, h s)) = some (a, b, c) := by
  cases o with
  | none => cases h1
  | some s => cases h1; cases h2; cases h3; rfl
open PySem PySem.W PySem.Calls PyProof.Rows HandSHeadRun in
theorem runA (w : World) : ∀ os : OsState, (endF (stepQ (denQ tabQ) R.prog w) 30000 R.prog w os).map (fun s => looksF R.prog (boot_heap w.params) s.abs) = some true := by
  intro os
  kernel_rfl
open PySem PySem.W PySem.Calls PyProof.Rows HandSHeadRun in
theorem runB (w : World) : ∀ os : OsState, (endF (stepQ (denQ tabQ) R.prog w) 30000 R.prog w os).map (fun s => seenQ (view R.prog [57]) loose (importedModules R.prog.main.body) (fun s => xlAt (view R.prog [57]) [] s && recOk R.toRowW.records s) s.abs) = some (openGood (view R.prog [57]) loose) := by
  intro os
  kernel_rfl
open PySem PySem.W PySem.Calls PyProof.Rows HandSHeadRun in
theorem runC (w : World) : ∀ os : OsState, (endF (stepQ (denQ tabQ) R.prog w) 30000 R.prog w os).map (fun s => ob s) = some (hk.val w) := by
  intro os
  kernel_rfl
theorem run (w : World) : HandSHeadRun.RunEq R (PySem.W.view R.prog [57]) hk ob 30000 loose w := fun os => map3 (runA w os) (runB w os) (runC w os)
end FWL
namespace FW
open PySem PySem.Spec PyProof.Rows L2
/-! ### readings, step by step: the main goal first, the side goals behind it -/
section
variable {K : PySem.W.Frag} {σ : L2.St} {H : Hp} {Q : VK} {D : Ends} {ta tb tc te : TE} {tt tu : TT} {ts tv : TS} {tA tA' : TA} {v : V} {i j : Int} {n : Nat} {a : Addr} {xs ys : List V}
theorem s_seq (k : ts { D with nx := tv D } σ H) : tSeq ts tv D σ H := k
theorem s_next (k : D.nx σ H) : tNext D σ H := k
theorem s_asg (k : te σ H fun v H1 => D.nx (σ.set n (some v)) H1) : tAsg te (gName n) D σ H := k
theorem s_asgG {g : TG} (k : te σ H fun v H1 => g v σ H1 D.nx) : tAsg te g D σ H := k
theorem s_ret (k : te σ H D.rt) : tRet te D σ H := k
theorem s_if (k : tt σ H fun b H1 => if b = true then ts D σ H1 else tv D σ H1) : tIfS tt ts tv D σ H := k
theorem s_drop (k : te σ H fun _ H1 => D.nx σ H1) : tDrop te D σ H := k
theorem s_par {m : Nat} (k : tA σ H fun vs H1 => ∃ v w, vs = [v, w] ∧ D.nx ((σ.set n (some v)).set m (some w)) H1) : tPar n m tA D σ H := k
theorem s_par2 {R : V → V → Prop} {x y : V} (k : R x y) : ∃ v w, [x, y] = [v, w] ∧ R v w := ⟨x, y, rfl, k⟩
theorem s_aug {ti : TIp} {x : V} (k : te σ H fun y H1 => ti x y H1 fun z H2 => D.nx (σ.set n (some z)) H2) (h : σ[n]? = some (some x)) : tAug n te ti D σ H := ⟨x, h, k⟩
theorem s_fld {f : Str} (k : te σ H fun y H1 => ta σ H1 fun x H2 => ∃ a C dx fs, x = .ref a ∧ H2 a = some (.ins C dx fs) ∧ Cls K C ∧ NoAttr K C f ∧ fs.length < 1000 ∧ D.nx σ (upd H2 a (.ins C dx (putF f y fs)))) : sFld K ta te f D σ H := k
theorem e_var (k : Q v H) (h : σ[n]? = some (some v)) : tVar n σ H Q := ⟨v, h, k⟩
theorem e_c (k : Q v H) : tC v σ H Q := k
theorem e_op {r : R2} (k : ta σ H fun x H1 => tb σ H1 fun y H2 => r x y H2 Q) : tOp r ta tb σ H Q := k
theorem e_un {r : V → Hp → VK → Prop} (k : ta σ H fun x H1 => r x H1 Q) : tUn r ta σ H Q := k
theorem e_U {g : Int → V} (k : Q (g i) H) : rU g (.int i) H Q := ⟨i, rfl, k⟩
theorem e_I0 {g : Int → Int → V} (k : Q (g i j) H) : rI0 g (.int i) (.int j) H Q := ⟨i, j, rfl, rfl, k⟩
theorem e_I {C : Int → Int → Prop} {g : Int → Int → V} (k : Q (g i j) H) (c : C i j) : rI C g (.int i) (.int j) H Q := ⟨i, j, rfl, rfl, c, k⟩
theorem e_ip {f : Int → Int → Int} (k : Q (.int (f i j)) H) : ipI f (.int i) (.int j) H Q := ⟨i, j, rfl, rfl, k⟩
theorem e_eq {x y : V} (k : Q (.bl (decide (x = y))) H) (h : scal x y = true) : rEq x y H Q := ⟨h, k⟩
theorem e_ne {x y : V} (k : Q (.bl (!decide (x = y))) H) (h : scal x y = true) : rNe x y H Q := ⟨h, k⟩
theorem e_test {R : Bool → Hp → Prop} (k : te σ H fun x H' => ∃ k, x = .bl k ∧ R k H') : tTest te σ H R := k
theorem e_tB {R : Bool → Hp → Prop} (k : te σ H fun x H' => ∃ k, x = .bl k ∧ R k H') : L2.tB te σ H R := k
theorem e_bl {R : Bool → Prop} {b : Bool} (k : R b) : ∃ k, V.bl b = .bl k ∧ R k := ⟨b, rfl, k⟩
theorem e_not {R : Bool → Hp → Prop} (k : tt σ H fun c H1 => R (!c) H1) : tNot tt σ H R := k
theorem e_and {R : Bool → Hp → Prop} (k : tt σ H fun c H1 => if c = true then tu σ H1 R else R false H1) : tAnd tt tu σ H R := k
theorem e_or {R : Bool → Hp → Prop} (k : tt σ H fun c H1 => if c = true then R true H1 else tu σ H1 R) : tOr tt tu σ H R := k
theorem e_andV (k : ta σ H fun x H1 => ∃ c, x = .bl c ∧ if c = true then tb σ H1 Q else Q (.bl false) H1) : tAndV ta tb σ H Q := k
theorem e_orV (k : ta σ H fun x H1 => ∃ c, x = .bl c ∧ if c = true then Q (.bl true) H1 else tb σ H1 Q) : tOrV ta tb σ H Q := k
theorem e_notV (k : ta σ H fun x H1 => ∃ c, x = .bl c ∧ Q (.bl (!c)) H1) : tNotV ta σ H Q := k
theorem e_ifx (k : tt σ H fun c H1 => if c = true then ta σ H1 Q else tb σ H1 Q) : tIf tt ta tb σ H Q := k
theorem e_nil {R : List V → Hp → Prop} (k : R [] H) : tNil σ H R := k
theorem e_cons {R : List V → Hp → Prop} (k : te σ H fun x H1 => tA σ H1 fun xs H2 => R (x :: xs) H2) : tCons te tA σ H R := k
theorem e_call {sp : Sp} {E : XK} (k : tA σ H fun vs H1 => sp vs H1 Q E) : tCall sp [] E tA σ H Q := by
  unfold tCall
  have e : (fun vs H1 => sp (vs ++ []) H1 Q E) = fun vs H1 => sp vs H1 Q E := by funext vs H1; rw [List.append_nil]
  rw [e]; exact k
theorem e_cb {r : List V → Hp → VK → Prop} (k : tA σ H fun vs H1 => r vs H1 Q) : tCB r tA σ H Q := k
theorem e_lst (k : tA σ H fun xs H1 => xs.length ≤ sizeLine ∧ ∀ p, H1 p = none → Q (.ref p) (upd H1 p (.lst xs))) : tLst tA σ H Q := k
theorem e_tup (k : tA σ H fun xs H1 => xs.length ≤ sizeLine ∧ ∀ p, H1 p = none → Q (.ref p) (upd H1 p (.tup xs))) : tTup tA σ H Q := k
theorem e_ixL (k : Q v H) (h : SqL K H a xs) (ha : atI xs i = some v) : rIxL K (.ref a) (.int i) H Q := ⟨a, xs, i, v, rfl, rfl, h, ha, k⟩
theorem e_ixT (k : Q v H) (h : SqT K H a xs) (ha : atI xs i = some v) : rIxT K (.ref a) (.int i) H Q := ⟨a, xs, i, v, rfl, rfl, h, ha, k⟩
theorem e_len (k : Q (.int xs.length) H) (h : SqL K H a xs ∨ SqT K H a xs) : Evl.rLenS K [.ref a] H Q := ⟨a, xs, rfl, h, k⟩
theorem e_int (k : Q (.int i) H) : rInt1 [.int i] H Q := .inl ⟨i, rfl, k⟩
theorem e_intB {b : Bool} (k : Q (.int (if b then 1 else 0)) H) : rInt1 [.bl b] H Q := .inr ⟨b, rfl, k⟩
theorem e_abs (k : Q (.int (if i < 0 then -i else i)) H) : rAbs [.int i] H Q := ⟨i, rfl, k⟩
theorem e_max2 (k : Q (.int (if j > i then j else i)) H) : rMax2 [.int i, .int j] H Q := ⟨i, j, rfl, k⟩
theorem e_min2 (k : Q (.int (if j < i then j else i)) H) : rMin2 [.int i, .int j] H Q := ⟨i, j, rfl, k⟩
theorem e_isN {x : V} (k : Q (.bl (decide (x = .non))) H) : rIsN x .non H Q := ⟨rfl, k⟩
theorem e_notN {x : V} (k : Q (.bl (!decide (x = .non))) H) : rNotN x .non H Q := ⟨rfl, k⟩
theorem e_in {x : V} {neg : Bool} (k : Q (.bl (if neg then !inV x xs else inV x xs)) H) (h : SqL K H a xs ∨ SqT K H a xs) (hx : flatV x = true) (ha : xs.all flatV = true) : rIn K neg x (.ref a) H Q := ⟨a, xs, rfl, h, hx, ha, k⟩
theorem e_chain {r r' : R2} (k : ta σ H fun x H1 => tb σ H1 fun y H2 => r x y H2 fun z H3 => ∃ k, z = .bl k ∧ (if k = true then tc σ H3 fun w' H4 => r' y w' H4 Q else Q (.bl false) H3)) : tChain r r' ta tb tc σ H Q := k
/-- what a for asks behind its walked thing -/
def ForK (g : TG) (tb : TS) (D : Ends) (σ : L2.St) (J : It) (H : Hp) : Prop := ∃ W : Nat → Nat → L2.St → Hp → Prop, (∃ m, W 0 m σ H) ∧ ∀ i m σ H, W i m σ H →
  (J.stop i H ∧ D.nx σ H) ∨ (J.go i H ∧ ∃ N : L2.St → Hp → Prop, (∀ σ' H', N σ' H' → ∃ m', m' < m ∧ W (i + 1) m' σ' H') ∧ ∀ x H', J.yld i H x H' → g x σ H' fun σ2 H2 => tb { D with nx := N, ct := N, bk := D.nx } σ2 H2)
theorem s_for {wi : TI} {g : TG} (k : wi σ H fun J H1 => ForK g ts D σ J H1) : tFor wi g ts D σ H := k
theorem i_rng1 {R : It → Hp → Prop} (k : tA σ H fun vs H1 => ∃ j : Int, vs = [.int j] ∧ -(2 ^ 62) ≤ j ∧ j < 2 ^ 62 ∧ R (Itr 0 j.toNat) H1) : iRng1 tA σ H R := k
theorem i_rng1' {R : Int → Prop} (k : R j) (h : -(2 ^ 62) ≤ j ∧ j < 2 ^ 62) : ∃ j' : Int, [V.int j] = [.int j'] ∧ -(2 ^ 62) ≤ j' ∧ j' < 2 ^ 62 ∧ R j' := ⟨j, rfl, h.1, h.2, k⟩
theorem i_rng2 {R : It → Hp → Prop} (k : tA σ H fun vs H1 => ∃ i j : Int, vs = [.int i, .int j] ∧ (-(2 ^ 62) ≤ i ∧ i < 2 ^ 62 ∧ -(2 ^ 62) ≤ j ∧ j < 2 ^ 62) ∧ R (Itr i (j - i).toNat) H1) : iRng2 tA σ H R := k
theorem i_rng2' {R : Int → Int → Prop} (k : R i j) (h : -(2 ^ 62) ≤ i ∧ i < 2 ^ 62 ∧ -(2 ^ 62) ≤ j ∧ j < 2 ^ 62) : ∃ i' j' : Int, [V.int i, V.int j] = [.int i', .int j'] ∧ (-(2 ^ 62) ≤ i' ∧ i' < 2 ^ 62 ∧ -(2 ^ 62) ≤ j' ∧ j' < 2 ^ 62) ∧ R i' j' := ⟨i, j, rfl, h, k⟩
theorem i_list {R : It → Hp → Prop} (k : te σ H fun x H1 => ∃ a, x = .ref a ∧ (∃ xs, SqL K H1 a xs) ∧ R (Itl K a) H1) : iList K te σ H R := k
theorem i_tup {R : It → Hp → Prop} (k : te σ H fun x H1 => ∃ a, x = .ref a ∧ (∃ xs, SqT K H1 a xs) ∧ R (Itt K a) H1) : iTup K te σ H R := k
theorem i_list' {R : Addr → Prop} (xs : List V) (k : R a) (h : SqL K H a xs) : ∃ a', V.ref a = .ref a' ∧ (∃ xs, SqL K H a' xs) ∧ R a' := ⟨a, rfl, ⟨xs, h⟩, k⟩
theorem i_tup' {R : Addr → Prop} (xs : List V) (k : R a) (h : SqT K H a xs) : ∃ a', V.ref a = .ref a' ∧ (∃ xs, SqT K H a' xs) ∧ R a' := ⟨a, rfl, ⟨xs, h⟩, k⟩
theorem s_while (W : Nat → L2.St → Hp → Prop) (m : Nat) (h0 : W m σ H) (hs : ∀ m σ H, W m σ H → tt σ H fun b H1 => if b = true then ∃ N : L2.St → Hp → Prop, (∀ σ' H', N σ' H' → ∃ m', m' < m ∧ W m' σ' H') ∧ ts { D with nx := N, ct := N, bk := D.nx } σ H1 else D.nx σ H1) : tWhile tt ts D σ H := ⟨W, ⟨m, h0⟩, hs⟩
/-- what a comprehension asks behind its walked thing -/
def LcK (g : TG) (tt : TT) (te : TE) (vs : List Nat) (σ : L2.St) (Q : VK) (J : It) (H1 : Hp) : Prop := ∀ D, H1 D = none → ∃ W : Nat → Nat → Hp → Prop, (∃ m, W 0 m (upd H1 D (.lst []))) ∧ ∀ i m H, W i m H →
  (J.stop i H ∧ Q (.ref D) H) ∨ (J.go i H ∧ ∃ Nx : Hp → Prop, (∀ H', Nx H' → ∃ m', m' < m ∧ W (i + 1) m' H') ∧ ∀ x H', J.yld i H x H' → g x (wipe σ vs) H' fun σ2 H2 => wipe σ2 vs = wipe σ vs ∧ tt σ2 H2 fun b H3 =>
    if b = true then te σ2 H3 fun y H4 => ∃ acc, H4 D = some (.lst acc) ∧ acc.length < sizeLine ∧ Nx (upd H4 D (.lst (acc ++ [y]))) else Nx H3)
theorem e_lc {wi : TI} {g : TG} {vs : List Nat} (k : wi σ H fun J H1 => LcK g tt te vs σ Q J H1) : tLc wi g tt te vs σ H Q := k
theorem g_sub {t : TSet} {R : L2.St → Hp → Prop} (k : ta σ H fun o H1 => tb σ H1 fun i H2 => t o i v H2 fun H3 => R σ H3) : gSub ta tb t v σ H R := k
theorem g_name {R : L2.St → Hp → Prop} (k : R (σ.set n (some v)) H) : gName n v σ H R := k
theorem g_nil {R : L2.St → Hp → Prop} (k : R σ H) : gNil [] σ H R := ⟨rfl, k⟩
theorem g_cons {g : TG} {gs : TGs} {R : L2.St → Hp → Prop} (k : g v σ H fun σ' H' => gs xs σ' H' R) : gCons g gs (v :: xs) σ H R := ⟨v, xs, rfl, k⟩
theorem g_tup {gs : TGs} {R : L2.St → Hp → Prop} (k : gs xs σ H R) (h : SqT K H a xs) (hl : xs.length = n) : gTup K n gs (.ref a) σ H R := ⟨a, xs, rfl, h, hl, k⟩
theorem e_setL {R : Hp → Prop} {m : Nat} (k : R (upd H a (.lst (xs.set m v)))) (h : H a = some (.lst xs)) (hi : ixN xs.length i = some m) : rSetL (.ref a) (.int i) v H R := ⟨a, xs, i, m, rfl, rfl, h, hi, k⟩
theorem e_yes {R : Bool → Hp → Prop} (k : R true H) : tYes σ H R := k
theorem e_bm {T : String} {r : V → List V → Hp → VK → Prop} (k : ta σ H fun x H1 => tyV K T x H1 ∧ tA σ H1 fun xs H2 => r x xs H2 Q) : tBM K T r ta tA σ H Q := k
theorem e_bm0 {T : String} {r : V → List V → Hp → VK → Prop} (k : ta σ H fun x H1 => tyV K T x H1 ∧ r x [] H1 Q) : tBM0 K T r ta σ H Q := k
theorem e_mk {C : Addr} {sp : Sp} {dvs : List V} {E : XK} (k : tA σ H fun vs H1 => ∀ x dx, H1 x = none → H1 dx = none → dx ≠ x → sp (.ref x :: (vs ++ dvs)) (upd (upd H1 dx (.own x)) x (.ins C dx [])) (fun v H2 => v = .non ∧ Q (.ref x) H2) E) : tMake C sp dvs E tA σ H Q := k
theorem e_mt {C : Addr} {m : Str} {sp : Sp} {dvs : List V} {E : XK} (k : ta σ H fun x H1 => ∃ a dx fs, x = .ref a ∧ H1 a = some (.ins C dx fs) ∧ fs.lookup m = none ∧ tA σ H1 fun vs H2 => sp (x :: (vs ++ dvs)) H2 Q E) : tMeth C m sp dvs E ta tA σ H Q := k
theorem e_fldk {f : Str} (k : ta σ H fun x H1 => ∃ a C dx fs v, x = .ref a ∧ H1 a = some (.ins C dx fs) ∧ Cls K C ∧ NoAttr K C f ∧ fs.lookup f = some v ∧ Q v H1) : tFld K ta f σ H Q := k
theorem e_ite {p : Prop} [Decidable p] {A B : Prop} (h1 : p → A) (h2 : ¬ p → B) : if decide p = true then A else B := by
  by_cases h : p
  · rw [if_pos (decide_eq_true h)]; exact h1 h
  · rw [if_neg (by rw [decide_eq_false h]; decide)]; exact h2 h
theorem e_iteN {p : Prop} [Decidable p] {A B : Prop} (h1 : ¬ p → A) (h2 : p → B) : if (!decide p) = true then A else B := by
  by_cases h : p
  · rw [if_neg (by rw [decide_eq_true h]; decide)]; exact h2 h
  · rw [if_pos (by rw [decide_eq_false h]; decide)]; exact h1 h
theorem e_iteB {b : Bool} {A B : Prop} (h1 : b = true → A) (h2 : b = false → B) : if b = true then A else B := by
  cases b
  · rw [if_neg (by decide)]; exact h2 rfl
  · rw [if_pos rfl]; exact h1 rfl
theorem e_T {A B : Prop} (h : A) : if true = true then A else B := by rw [if_pos rfl]; exact h
theorem e_nT {A B : Prop} (h : B) : if (!true) = true then A else B := by rw [if_neg (by decide)]; exact h
theorem e_nF {A B : Prop} (h : A) : if (!false) = true then A else B := by rw [if_pos (by decide)]; exact h
theorem e_F {A B : Prop} (h : B) : if false = true then A else B := by rw [if_neg (by decide)]; exact h
end
/-! ### extensions -/
abbrev Ext (H H' : Hp) : Prop := ∀ a o, H a = some o → H' a = some o
/-- all but the object at p is kept -/
def ExtB (p : Addr) (H H' : Hp) : Prop := ∀ a o, a ≠ p → H a = some o → H' a = some o
theorem Ext.rfl' {H : Hp} : Ext H H := fun _ _ h => h
theorem Ext.tr {H H1 H2 : Hp} (a : Ext H H1) (b : Ext H1 H2) : Ext H H2 := fun x o h => b x o (a x o h)
theorem Ext.new {H : Hp} {p : Addr} {o : HO} (h : H p = none) : Ext H (upd H p o) := fun a u e => by
  rw [upd_ne (ne_of_none e h)]; exact e
theorem Ext.non {H H' : Hp} {p : Addr} (e : Ext H H') (h : H' p = none) : H p = none := by
  cases q : H p with
  | none => rfl
  | some o => rw [e p o q] at h; cases h
theorem Ext.sqL {K : PySem.W.Frag} {H H' : Hp} {a : Addr} {xs : List V} (e : Ext H H') (h : SqL K H a xs) : SqL K H' a xs := Evl.ex_l e h
theorem Ext.sqT {K : PySem.W.Frag} {H H' : Hp} {a : Addr} {xs : List V} (e : Ext H H') (h : SqT K H a xs) : SqT K H' a xs := Evl.ex_t e h
theorem ExtB.of {p : Addr} {H H' : Hp} (e : Ext H H') : ExtB p H H' := fun a o _ h => e a o h
theorem ExtB.tr {p : Addr} {H H1 H2 : Hp} (a : ExtB p H H1) (b : ExtB p H1 H2) : ExtB p H H2 := fun x o n h => b x o n (a x o n h)
theorem ExtB.upd {p : Addr} {H : Hp} {o : HO} : ExtB p H (upd H p o) := fun a u n e => by rw [upd_ne n]; exact e
theorem Ext.upds {H H' : Hp} {p : Addr} {o : HO} (e : Ext H H') (h : H p = Option.none) : Ext H (upd H' p o) := fun a u q => by
  rw [upd_ne (ne_of_none q h)]; exact e a u q
end FW
/-! tuples turned about, counted, and things that are a list or a tuple -/
namespace PySem
namespace SeqX
open PyProof.Rows PySem.W
theorem adjust_rev (n : Nat) : Builtin.Slice.sliceAdjust none none (-1) (n : Int) = ((n : Int) - 1, -1) := by
  unfold Builtin.Slice.sliceAdjust
  rfl
theorem places_rev (n : Nat) : Builtin.Slice.slicePlaces ((n : Int) - 1) (-1) (-1) = n := by
  unfold Builtin.Slice.slicePlaces
  have h1 : ¬ ((-1 : Int) > 0) := by omega
  simp only [h1, if_false, show (- -1 : Int) = 1 from rfl, Int.ediv_one]
  split <;> omega
section
variable {prog : Program} {w : World} {A : Around} {E : Value → Shared → Prop} {s : Shared}
theorem sliceApplied_rev {sl : Addr} {vl vu vs : Value} {n : Nat} {Q : Int × Int × Nat → Shared → Prop} (hs : s.heap.IsSliceOf sl vl vu vs) (pl : IsPart vl none) (pu : IsPart vu none) (ps : IsPart vs (some (-1)))
    (h : Q ((n : Int) - 1, -1, n) s) : wpAny (model prog w) A (Builtin.Slice.sliceApplied (.ref sl) (pure (n : Int))) Q E s := by
  obtain ⟨os, hos, hcs, hds⟩ := id hs
  unfold Builtin.Slice.sliceApplied Builtin.Slice.sliceFields
  refine wpAny_bind (wpAny_bind (wpAny_field hos hds (x := vl) rfl (wpAny_bind (wpAny_field hos hds (x := vu) rfl (wpAny_bind (wpAny_field hos hds (x := vs) rfl (wpAny_pure ?_)))))))
  refine wpAny_bind (HT.slicePart_ ps ?_)
  show wpAny _ _ (if ((-1 : Int) == 0) = true then _ else _) _ _ s
  rw [if_neg (by decide)]
  refine wpAny_bind (HT.slicePart_ pl (wpAny_bind (HT.slicePart_ pu (wpAny_bind (wpAny_pure ?_)))))
  show wpAny _ _ (match Builtin.Slice.sliceAdjust none none (-1) (n : Int) with | (lo, hi) => pure (lo, (-1 : Int), Builtin.Slice.slicePlaces lo hi (-1))) _ _ s
  rw [adjust_rev n]
  show wpAny _ _ (pure ((n : Int) - 1, (-1 : Int), Builtin.Slice.slicePlaces ((n : Int) - 1) (-1) (-1))) _ _ s
  rw [places_rev]
  exact wpAny_pure h
theorem pick_rev (xs : Array Value) : ((List.range xs.size).filterMap fun (m : Nat) => xs[(((xs.size : Nat) : Int) - 1 + (m : Int) * (-1)).toNat]?).toArray = xs.toList.reverse.toArray := by
  have e : (List.range xs.size).filterMap (fun (m : Nat) => xs[(((xs.size : Nat) : Int) - 1 + (m : Int) * (-1)).toNat]?) = ((List.range xs.size).map fun k => xs.size - 1 - k).filterMap (xs[·]?) := by
    rw [List.filterMap_map]
    congr 1
    funext m
    show xs[(((xs.size : Nat) : Int) - 1 + (m : Int) * (-1)).toNat]? = xs[xs.size - 1 - m]?
    have q : (((xs.size : Nat) : Int) - 1 + (m : Int) * (-1)).toNat = xs.size - 1 - m := by omega
    rw [q]
  rw [e, krv_range, List.filterMap_reverse, krv_all]
theorem getItem_tuple_rev {t sl : Addr} {items : Array Value} {vl vu vs : Value} {Q : Value → Shared → Prop} (ht : IsTup s.heap t items) (hs : s.heap.IsSliceOf sl vl vu vs) (pl : IsPart vl none) (pu : IsPart vu none) (ps : IsPart vs (some (-1)))
    (h : Q (.ref s.heap.objs.size) { s with heap := s.heap.push { cls := .type "tuple", data := .seq items.toList.reverse.toArray } })
    (hsz : items.size ≤ sizeLine) : wpAny (model prog w) A (getItem (.ref t) (.ref sl)) Q E s := by
  have htake : sizeOk (.seq items.toList.reverse.toArray) := by
    show items.toList.reverse.toArray.size ≤ sizeLine
    rw [List.size_toArray, List.length_reverse, Array.length_toList]
    exact hsz
  obtain ⟨os, hos, hcs, hds⟩ := id hs
  have hTs : s.TypeIs (.ref sl) "slice" := ⟨os, hos, hcs⟩
  unfold getItem
  try with_reducible refine wpAny_holding ?_
  first | refine wpAny_bind (wpAny_pure ?_) | skip
  refine wpAny_bind (wpAny_sequenceKey ht.typeIs (by decide) ?_)
  refine wpAny_bind (wpAny_callSpecial?_slot (name := Str.ofString "__getitem__") ht.typeIs PyProof.Rows.slot_tuple_getitem
    (wpAny_call_entry PyProof.Rows.slot_tuple_getitem ht.typeIs entry_tuple_getitem ?_ (args_tuple_getitem _ _)))
  show wpAny _ _ (Builtin.Tuple.tupleItemsOf (.ref t) >>= _) _ _ s
  refine wpAny_bind (tupleItemsOf_ ht ?_)
  refine wpAny_bind (wpAny_typeOf hTs ?_)
  rw [if_pos (by decide)]
  refine wpAny_bind (sliceApplied_rev hs pl pu ps ?_)
  show wpAny _ _ (if ((((items.size : Nat) : Int) - 1) == 0 && (-1 : Int) == 1 && items.size == items.size) = true then _ else _) _ _ s
  rw [if_neg (by rw [show ((-1 : Int) == 1) = false from rfl, Bool.and_false, Bool.false_and]; exact Bool.false_ne_true), pick_rev]
  first
    | exact wpAny_bind (m := Builtin.Tuple.tupleExact _) (wpAny_newObj_type (wpAny_pure ⟨_, rfl, wpAny_pure h⟩) htake)
    | exact wpAny_bind (m := Builtin.Tuple.tupleExact _) (wpAny_newObj_type (wpAny_bind (wpAny_pure (wpAny_pure ⟨_, rfl, wpAny_pure h⟩))) htake)
    | exact wpAny_bind (wpAny_bind (m := Builtin.Tuple.tupleExact _) (wpAny_newObj_type (wpAny_pure (wpAny_pure ⟨_, rfl, wpAny_pure h⟩)) htake))
    | exact wpAny_bind (wpAny_bind (m := Builtin.Tuple.tupleExact _) (wpAny_newObj_type (wpAny_pure ⟨_, rfl, wpAny_pure h⟩) htake))
end
set_option maxHeartbeats 1000000 in
theorem meets_enumerate_newT {v : Value} {o : Obj} {H : Heap → Prop} (B : Begins v o H) :
    Meets (Builtin.«enumerate.__new__» ⟨[.type "enumerate", v], []⟩) (fun _ R s => H s.heap ∧
      R (.ok (.ret (.ref (s.heap.push o).objs.size))) { s with heap := (s.heap.push o).push { cls := .type "enumerate", data := .fields #[.none, .bool false, .ref s.heap.objs.size, rawInt 0, .none, .none] } }) :=
  .of_wp fun prog w A R s h => by
    obtain ⟨hp, g, d, tk, os⟩ := s; obtain ⟨h1, h⟩ := h
    have hsub := sub_enumerate
    have q1 : ∀ {A' : Around} {E : Value → Shared → Prop} {Q : Value → Shared → Prop}, Q (.ref hp.objs.size) ⟨hp.push o, g, d, tk, os⟩ → wpAny (model prog w) A' (pyIter v) Q E ⟨hp, g, d, tk, os⟩ :=
      fun q => B.iter prog w _ _ ⟨hp, g, d, tk, os⟩ _ h1 q
    wp_walk using q1
    refine wpAny_stack_any fun st => wpAny_pure ?_
    split
    · rename_i c _ _ _ _ _
      cases (c == Value.type "enumerate")
      · wp_walk using q1
        exact ⟨_, rfl, h⟩
      · wp_walk using q1
        exact ⟨_, rfl, h⟩
    · wp_walk using q1
      exact ⟨_, rfl, h⟩
section
variable {prog : Program} {w : World} {A : Around} {E : Value → Shared → Prop} {s : Shared}
theorem call_enumerate_tuple {t : Addr} {items : Array Value} {Q : Value → Shared → Prop} (hL : s.heap.IsTuple t items)
    (h : ∀ h', IsEnum h' (s.heap.objs.size + 1) s.heap.objs.size 0 .none → h'.IsTupleIter s.heap.objs.size t 0 → h'.objs.size = s.heap.objs.size + 2 →
      (∀ b o, s.heap.get? b = some o → h'.get? b = some o) → Q (.ref (s.heap.objs.size + 1)) { s with heap := h' }) :
    wpAny (model prog w) A (call (.type "enumerate") [.ref t]) Q E s := by
  refine callType_new F.called_enumerate (by decide) (F.typeCall_enumerate_1 _) (F.newCall_enumerate_1 _) (fun obj => F.args_object_init_2 obj _) F.entry_enumerate_new
    (meets_enumerate_newT (begins_tuple t items)) ⟨hL, ?_⟩
  have hz : (s.heap.push { cls := .type "tuple_iterator", data := .fields #[.ref t, .int 0 0] }).objs.size = s.heap.objs.size + 1 := Heap.size_push ..
  show _ ∧ _
  rw [hz]
  have he : IsEnum ((s.heap.push { cls := .type "tuple_iterator", data := .fields #[.ref t, .int 0 0] }).push
      { cls := .type "enumerate", data := .fields #[.none, .bool false, .ref s.heap.objs.size, rawInt 0, .none, .none] }) (s.heap.objs.size + 1) s.heap.objs.size 0 .none := by
    have := Heap.get?_push_size (s.heap.push { cls := .type "tuple_iterator", data := .fields #[.ref t, .int 0 0] })
      (o := { cls := .type "enumerate", data := .fields #[.none, .bool false, .ref s.heap.objs.size, rawInt 0, .none, .none] }) rfl
    rw [hz] at this; exact this
  refine ⟨⟨_, he, rfl⟩, h _ he ⟨_, Heap.get?_push_of_some _ (Heap.get?_push_size _ rfl), rfl, rfl⟩ (by rw [Heap.size_push, hz]) fun b o x => Heap.get?_push_of_some _ (Heap.get?_push_of_some _ x)⟩
end
end SeqX
end PySem
namespace FW
open PySem PySem.Spec PyProof.Rows L2
section
variable {X : Cx}
/-- t[::-1] of a tuple -/
def tRevT (K : PySem.W.Frag) (te : TE) : TE := fun σ H Q => te σ H fun x H1 => ∃ a xs, x = .ref a ∧ SqT K H1 a xs ∧ ∀ p, H1 p = none → Q (.ref p) (upd H1 p (.tup xs.reverse))
theorem pe_revT {e : Expr} {te : TE} {k : Nat} {p1 p2 p3 pos : Pos} (he : PE X e te) : PE X (.Subscript e (.Slice none none (some (.UnaryOp .USub (.Constant (.int 1) k p1) p2)) p3) pos) (tRevT X.K te) := by
  refine ⟨fun pins s σ H Q I h => ?_⟩
  refine Subscript_ (thn (he.run pins s σ H _ I h) fun v s1 ⟨x, H1, I1, r1, q1⟩ => ?_)
  obtain ⟨a, xs, ex, hx, q⟩ := q1
  subst ex
  cases r1
  have hst : PO X (some (.UnaryOp .USub (.Constant (.int 1) k p1) p2)) (tPart (tUn (rU fun i => .int (-i)) (tC (.int 1)))) := po_some (pe_un un_neg pe_int)
  refine wpAny_Slice (thn (po_none.run pins s1 σ H1 (fun o H2 => o = none ∧ H2 = H1) I1 ⟨rfl, rfl⟩) fun vl s2 ⟨l, H2, I2, pl, el, e2⟩ => ?_)
  subst el e2
  refine thn (po_none.run pins s2 σ H2 (fun o H3 => o = none ∧ H3 = H2) I2 ⟨rfl, rfl⟩) fun vu s3 ⟨u, H3, I3, pu, eu, e3⟩ => ?_
  subst eu e3
  refine thn (hst.run pins s3 σ H3 (fun o H4 => o = some (-1) ∧ H4 = H3) I3 ⟨1, rfl, -1, rfl, rfl, rfl⟩) fun vs s4 ⟨o, H4, I4, ps, eo, e4⟩ => ?_
  subst eo e4
  have I5 : Inv X pins σ H4 { s4 with heap := s4.heap.push { cls := .type "slice", data := .fields #[vl, vu, vs] } } := I4.kept (t' := s4.toks) fun b ob q => Heap.get?_push_of_some _ q
  obtain ⟨its, r, ht, hz⟩ := I5.tuple hx
  have hlen := r.length
  show wpAny (model X.prog X.w) X.A (subscriptTail e (.Slice none none (some (.UnaryOp .USub (.Constant (.int 1) k p1) p2)) p3) (.ref a) (.ref s4.heap.objs.size)) (EP X pins σ Q) X.xe { s4 with heap := s4.heap.push { cls := .type "slice", data := .fields #[vl, vu, vs] } }
  refine tail_any (ops := [.ref a, .ref s4.heap.objs.size]) ht.typeIs (PyProof.Rows.slot_tuple_getitem.lookup) ?_ (by with_unfolding_all rfl)
  refine SeqX.getItem_tuple_rev ht (Heap.IsSliceOf.new _ vl vu vs) pl pu ps ?_ (by rw [List.size_toArray]; omega)
  refine ⟨.ref _, _, I5.laid (t' := s4.toks) (o := .tup xs.reverse) (fun b ob q => Heap.get?_push_of_some _ q) (Nat.le_refl _) ?_, rfl, q _ (I5.hok.fresh (Nat.le_refl _))⟩
  exact ⟨by rw [List.length_reverse]; exact hz, _, r.reverse, IsTup.new _ _⟩
/-- one reading or another -/
def tEither (t u : TE) : TE := fun σ H Q => t σ H Q ∨ u σ H Q
theorem pe_either {e : Expr} {t u : TE} (h1 : PE X e t) (h2 : PE X e u) : PE X e (tEither t u) := ⟨fun pins s σ H Q I h => by
  rcases h with h | h
  · exact h1.run pins s σ H Q I h
  · exact h2.run pins s σ H Q I h⟩
def iEither (t u : TI) : TI := fun σ H Q => t σ H Q ∨ u σ H Q
theorem pi_either {tg e : Expr} {t u : TI} (h1 : PI X tg e t) (h2 : PI X tg e u) : PI X tg e (iEither t u) := ⟨fun pins s σ H Q I h => by
  rcases h with h | h
  · exact h1.run pins s σ H Q I h
  · exact h2.run pins s σ H Q I h⟩
/-! ### enumerate(tuple) -/
def IteT (K : PySem.W.Frag) (a : Addr) : It :=
  ⟨fun i H => ∃ (xs : List V) (x : V), SqT K H a xs ∧ xs[i]? = some x, fun i H v H' => ∃ T x, v = .ref T ∧ H T = none ∧ H' = upd H T (.tup [.int (i : Nat), x]) ∧ ∀ xs, SqT K H a xs → xs[i]? = some x, fun i H => ∃ xs : List V, SqT K H a xs ∧ xs.length = i⟩
theorem turn_enumT {P : Program} {w : World} {K : PySem.W.Frag} {elts : List Expr} {kk : Nat} {tpos : Pos} (a e it : Addr) :
    Turn P w K (.Tuple elts kk tpos) (IteT K a) [e, it] e (fun i h => (∃ old, IsEnum h e it ((i : Nat) : Int) old) ∧ h.IsTupleIter it a i ∧ e ≠ it) where
  mem := by simp
  obj := fun i h st b hb => by
    obtain ⟨⟨old, he⟩, ⟨o, ho, hc, hd⟩, _⟩ := st
    have e' : b = e ∨ b = it := by simpa using hb
    rcases e' with z | z
    · rw [z]; exact ⟨_, he, fun v q => nomatch q⟩
    · rw [z]; exact ⟨o, ho, fun v q => by rw [hd] at q; cases q⟩
  keep := fun i h h' st k => let ⟨⟨old, he⟩, hi, hne⟩ := st; ⟨⟨old, k e (by simp) _ he⟩, hi.at fun o q => k it (by simp) o q, hne⟩
  item := by
    intro X hP hw hK hc i pins s σ H E I hf st hg
    subst hP hw hK
    obtain ⟨⟨old, he⟩, hit, hne⟩ := st
    obtain ⟨xs, x, hq, hx⟩ := hg
    obtain ⟨its, rv, p, hz⟩ := I.tuple hq
    obtain ⟨u, hu, ru⟩ := rv.get hx
    have hel : e < s.heap.objs.size := Heap.lt_size he
    have hil : it < s.heap.objs.size := by obtain ⟨_, q, _⟩ := hit; exact Heap.lt_size q
    have hia : a ≠ it := by
      obtain ⟨o1, q1, c1, _⟩ := hit
      obtain ⟨o2, q2, c2, _⟩ := p
      intro z
      rw [z, q1] at q2
      cases q2
      rw [c1] at c2
      exact absurd c2 (by decide)
    have hea : e ∉ [it, a] := by
      intro z
      rcases List.mem_cons.mp z with z | z
      · exact hne z
      · have z := List.mem_singleton.mp z
        obtain ⟨o2, q2, c2, _⟩ := p
        rw [← z, he] at q2
        cases q2
        exact absurd (show Value.type "enumerate" = Value.type "tuple" from c2) (by decide)
    have hilen : i < its.toArray.size := by
      have := (List.getElem?_eq_some_iff.mp hu).1
      rw [List.size_toArray]; exact this
    refine wpAny_pyNext_enum_itemD (Draws.tuple (A := X.A.in1) (show X.A.in1.handled = none from I.ok.hd hc) it a hia its.toArray) he ⟨hit, p⟩ hilen hne hea fun y h' tk hy ho hst hT hsz hk => ?_
    obtain ⟨hit', _⟩ := hst
    have ey : y = u := by
      have : its[i]? = some y := by simpa using hy
      rw [hu] at this; injection this with z; exact z.symm
    subst ey
    refine ⟨_, rfl, wpAny_letOwnedTupleGo_enum (s := { s with heap := h', toks := tk + 1 }) ho fun h'' he' sb => ?_⟩
    have hT2 : h''.get? s.heap.objs.size = some { cls := .type "tuple", data := .seq #[.int i tk, y] } := (sb.2 _ (Nat.ne_of_gt hel)).trans hT
    have new : ObjOk X.prog X.w (upd H s.heap.objs.size (.tup [.int (i : Nat), x])) h'' s.heap.objs.size (.tup [.int (i : Nat), x]) :=
      ⟨by show 2 ≤ sizeLine; decide, [.int i tk, y], .cons ⟨_, rfl⟩ (.cons ru .nil), ⟨_, hT2, rfl, _, rfl⟩⟩
    have I1 : Inv X pins σ (upd H s.heap.objs.size (.tup [.int (i : Nat), x])) { s with heap := h'', toks := tk + 1 } :=
      I.turnedNew (ch := [e, it]) (fun b ob hb q => (sb.2 b (fun z => hb (by simp [z]))).trans (hk b ob (fun z => hb (by simp [z])) (fun z => hb (by simp [z])) q)) hf (Nat.le_refl _) new
    refine ⟨.ref s.heap.objs.size, _, I1, rfl, ⟨_, x, rfl, I.hok.fresh (Nat.le_refl _), rfl, fun ys hy => by rw [I.tuple_inj hy hq]; exact hx⟩, ⟨⟨y, ?_⟩, hit'.at fun o q => (sb.2 it (Ne.symm hne)).trans q, hne⟩, fun b hb => ?_⟩
    · have e1 : ((i + 1 : Nat) : Int) = (i : Int) + 1 := by omega
      rw [e1]; exact he'
    · have hb' : b < s.heap.objs.size := by
        have e' : b = e ∨ b = it := by simpa using hb
        rcases e' with z | z
        · rw [z]; exact hel
        · rw [z]; exact hil
      rw [upd_ne (Nat.ne_of_lt hb')]
      exact (hf b hb).1
  done := by
    intro X hP hw hK hc i pins s σ H E I hf st hg
    subst hP hw hK
    obtain ⟨⟨old, he⟩, hit, hne⟩ := st
    obtain ⟨xs, hq, hx⟩ := hg
    obtain ⟨its, rv, p, hz⟩ := I.tuple hq
    obtain ⟨f0, f1, f2, f3, f4, f5⟩ := hf it (by simp)
    have hl := rv.length
    have hia : a ≠ it := by
      obtain ⟨o1, q1, c1, _⟩ := hit
      obtain ⟨o2, q2, c2, _⟩ := p
      intro z
      rw [z, q1] at q2
      cases q2
      rw [c1] at c2
      exact absurd c2 (by decide)
    have hn : its.toArray.size = i := by rw [List.size_toArray]; omega
    exact wpAny_pyNext_enum_endD (Draws.tuple (A := X.A.in1) (show X.A.in1.handled = none from I.ok.hd hc) it a hia its.toArray) he ⟨by rw [hn]; exact hit, p⟩ fun h' eb => ⟨rfl, I.turned (t' := s.toks) (fun b o hb q => eb b o hb q) f0 f1 f3 f4 f5⟩
  self := fun A i s Q E st h => let ⟨⟨_, he⟩, _⟩ := st; wpAny_pyIter_enum he h
def iEnumT (K : PySem.W.Frag) (ta : TA) : TI := fun σ H R => ta σ H fun vs H1 => ∃ a xs, vs = [.ref a] ∧ SqT K H1 a xs ∧ R (IteT K a) H1
theorem pi_enumT {e : Expr} {ta : TA} {p pos tpos : Pos} {elts : List Expr} {kk : Nat} (hg : Gl X "enumerate") (hm : X.mg "enumerate" = none) (ha : PA X [e] ta) (hs : starEach [e] X.env = [(false, eval e X.env)] := by rfl) :
    PI X (.Tuple elts kk tpos) (.Call (.Name "enumerate" p) [e] [] pos) (iEnumT X.K ta) := by
  refine ⟨fun pins s σ H R I h => ?_⟩
  refine Call_ (ld_blt I hg hm boot_enumerate (PyProof.Rows.callWith_type1 (thn (ha.run pos pins s σ H _ I h) fun us s1 ⟨vs, H1, I1, r1, q1⟩ => ?_) hs rfl))
  obtain ⟨a, xs, ex, hq, q⟩ := q1
  subst ex
  cases r1 with
  | cons r rr =>
    cases rr
    cases r
    obtain ⟨its, rv, p', hz⟩ := I1.tuple hq
    refine SeqX.call_enumerate_tuple p' fun h' he hit hsz hk => wpAny_pyIter_enum he ?_
    have I2 : Inv X pins σ H1 { s1 with heap := h' } := I1.kept (t' := s1.toks) hk
    refine ⟨s1.heap.objs.size + 1, [s1.heap.objs.size + 1, s1.heap.objs.size], _, _, H1, rfl, I2, turn_enumT a (s1.heap.objs.size + 1) s1.heap.objs.size, ⟨⟨.none, he⟩, hit, Nat.succ_ne_self _⟩, fun b hb => ?_, q⟩
    have e' : b = s1.heap.objs.size + 1 ∨ b = s1.heap.objs.size := by simpa using hb
    have hle : s1.heap.objs.size ≤ b := by
      rcases e' with z | z
      · rw [z]; exact Nat.le_add_right _ _
      · rw [z]; exact Nat.le_refl _
    exact I1.fpOk hle (I1.hok.fresh hle)
end
end FW
namespace FW
open PySem PySem.Spec PyProof.Rows L2
section
variable {X : Cx}
theorem get_list : PGet X (rIxL X.K) := by
  intro pins s σ H x y v u Q I rx ry h
  obtain ⟨p, xs, i, z, rfl, rfl, hq, he, q⟩ := h
  cases rx
  obtain ⟨t, rfl⟩ := ry
  obtain ⟨its, r, pl, hz⟩ := I.list hq
  obtain ⟨j, h1, h2, h3, h4, h5⟩ := atI_get he
  obtain ⟨w, ew, rw'⟩ := r.get h2
  have hl := r.length
  have hn := line63
  have fin : EP X pins σ Q w s := ⟨z, H, I, rw', q⟩
  by_cases h0 : 0 ≤ i
  · have hj : i.toNat = j := by
      rw [seqIndex_of h0 h5] at h1
      exact Option.some.inj h1
    exact wpAny_getItem_list pl.isList h0 (by omega) (by rw [hj]; simpa using ew) fin
  · have hj : (i + (its.toArray.size : Int)).toNat = j := by
      rw [seqIndex_neg (by omega) h4] at h1
      rw [List.size_toArray, ← hl]
      exact Option.some.inj h1
    exact wpAny_getItem_list_neg pl.isList (by omega) (by rw [List.size_toArray] <;> omega) (by omega) (by rw [hj]; simpa using ew) fin
theorem walk_enumT {K : PySem.W.Frag} {a : Addr} {xs : List V} : Walk (IteT K a) xs.length (fun H => SqT K H a xs) (YPair (fun i => some (.int (i : Nat))) (fun i => xs[i]?)) := by
  refine ⟨fun i _ hi q => ⟨xs, xs[i], q, by simp [hi]⟩, fun _ q => ⟨xs, q, rfl⟩, fun i H v H' _ q y => ?_⟩
  obtain ⟨T, x, h1, h2, h3, h4⟩ := y
  exact ⟨T, .int (i : Nat), x, h1, h2, h3, rfl, h4 xs q⟩
end
end FW
local macro_rules | `(tactic| walk_at "re1") => `(tactic| with_reducible first
  | refine FW.e_var ?_ (by with_unfolding_all rfl) | refine FW.e_c ?_ | refine FW.e_op ?_ | refine FW.e_un ?_ | refine FW.e_U ?_ | refine FW.e_I0 ?_ | refine FW.e_I ?_ ?_ | refine FW.e_ip ?_
  | refine FW.e_test ?_ | refine FW.e_tB ?_ | refine FW.e_bl ?_ | refine FW.e_not ?_ | refine FW.e_and ?_ | refine FW.e_or ?_ | refine FW.e_andV ?_ | refine FW.e_orV ?_ | refine FW.e_notV ?_ | refine FW.e_ifx ?_
  | refine FW.e_nil ?_ | refine FW.e_cons ?_ | refine FW.e_call ?_ | refine FW.e_cb ?_ | refine FW.e_lst ?_ | refine FW.e_tup ?_ | refine FW.e_int ?_ | refine FW.e_intB ?_ | refine FW.e_abs ?_ | refine FW.e_max2 ?_ | refine FW.e_min2 ?_
  | refine FW.e_eq ?_ rfl | refine FW.e_ne ?_ rfl | refine FW.e_isN ?_ | refine FW.e_notN ?_ | refine FW.e_chain ?_ | refine FW.e_T ?_ | refine FW.e_F ?_ | refine FW.e_nT ?_ | refine FW.e_nF ?_ | refine FW.s_par2 ?_ | refine FW.i_rng1' ?_ ?_ | refine FW.i_rng2' ?_ ?_ | refine FW.g_sub ?_ | refine FW.e_lc ?_ | refine FW.e_yes ?_ | refine FW.e_bm ?_ | refine FW.e_bm0 ?_ | refine FW.e_mk ?_ | refine FW.e_mt ?_ | refine FW.e_fldk ?_ | refine FW.g_name ?_ | refine FW.g_nil ?_ | refine FW.g_cons ?_)
local macro_rules | `(tactic| walk_at "rs1") => `(tactic| with_reducible first
  | refine FW.s_seq ?_ | refine FW.s_asg ?_ | refine FW.s_ret ?_ | refine FW.s_if ?_ | refine FW.s_next ?_ | refine FW.s_drop ?_ | refine FW.s_fld ?_ | refine FW.s_par ?_ | refine FW.s_aug ?_ (by with_unfolding_all rfl) | refine FW.s_asgG ?_ | refine FW.s_for ?_ | refine FW.i_rng1 ?_ | refine FW.i_rng2 ?_ | refine FW.i_list ?_ | refine FW.i_tup ?_)
local macro_rules | `(tactic| walk_at "re") => `(tactic| repeat (walk_at "re1"))
local macro_rules | `(tactic| walk_at "rd") => `(tactic| repeat (first | walk_at "rs1" | walk_at "re1"))
namespace FWL
open PySem PySem.Spec PyProof.Rows L2 FW
/-! ### is_whole, is_whole_from -/
def tyNames : List String := ["NoneType", "bool", "int", "str", "float", "list", "tuple", "dict"]
/-- a thing of a built-in kind -/
def WT (K : PySem.W.Frag) (H : Hp) (v : V) (n : String) : Prop := TyX K H v (.type n) ∧ n ∈ tyNames
def isInt : V → Bool
  | .int _ => true
  | _ => false
def isStr : V → Bool
  | .str _ => true
  | _ => false
def iv : V → Int
  | .int i => i
  | _ => 0
def fromI (v : V) (l : Int) : Bool := isInt v && decide (l ≤ iv v)
theorem WT.isInt {K : PySem.W.Frag} {H : Hp} {v : V} {n : String} (h : WT K H v n) : isInt v = decide (n = "int") := by
  obtain ⟨h, _⟩ := h
  generalize ht : Value.type n = t at h
  cases h with
  | base b => cases b <;> first | (cases ht; rfl) | (injection ht with e; subst e; rfl) | cases ht
  | _ => injection ht with e; subst e; rfl
theorem WT.isStr {K : PySem.W.Frag} {H : Hp} {v : V} {n : String} (h : WT K H v n) : isStr v = decide (n = "str") := by
  obtain ⟨h, _⟩ := h
  generalize ht : Value.type n = t at h
  cases h with
  | base b => cases b <;> first | (cases ht; rfl) | (injection ht with e; subst e; rfl) | cases ht
  | _ => injection ht with e; subst e; rfl
theorem isInt_of {v : V} (h : isInt v = true) : ∃ i, v = .int i := by cases v <;> first | exact ⟨_, rfl⟩ | cases h
theorem isStr_of {v : V} (h : isStr v = true) : ∃ i, v = .str i := by cases v <;> first | exact ⟨_, rfl⟩ | cases h
theorem WT.i {K : PySem.W.Frag} {H : Hp} (i : Int) : WT K H (.int i) "int" := ⟨.base (.int i), by decide⟩
theorem WT.s {K : PySem.W.Frag} {H : Hp} (i : Str) : WT K H (.str i) "str" := ⟨.base (.str i), by decide⟩
theorem WT.non {K : PySem.W.Frag} {H : Hp} : WT K H .non "NoneType" := ⟨.base .non, by decide⟩
theorem WT.bl {K : PySem.W.Frag} {H : Hp} (b : Bool) : WT K H (.bl b) "bool" := ⟨.base (.bl b), by decide⟩
theorem WT.lst {K : PySem.W.Frag} {H : Hp} {a : Addr} {xs : List V} (h : H a = some (.lst xs)) : WT K H (.ref a) "list" := ⟨.base (.lst h), by decide⟩
theorem WT.tup {K : PySem.W.Frag} {H : Hp} {a : Addr} {xs : List V} (h : H a = some (.tup xs)) : WT K H (.ref a) "tuple" := ⟨.base (.tup h), by decide⟩
theorem kitI {n : String} (h : n ∈ tyNames) : kitB n "int" = some (decide (n = "int" ∨ n = "bool")) := by
  simp only [tyNames, List.mem_cons, List.not_mem_nil, or_false] at h
  rcases h with rfl | rfl | rfl | rfl | rfl | rfl | rfl | rfl <;> decide +kernel
theorem kitBl {n : String} (h : n ∈ tyNames) : kitB n "bool" = some (decide (n = "bool")) := by
  simp only [tyNames, List.mem_cons, List.not_mem_nil, or_false] at h
  rcases h with rfl | rfl | rfl | rfl | rfl | rfl | rfl | rfl <;> decide +kernel
theorem kitS {n : String} (h : n ∈ tyNames) : kitB n "str" = some (decide (n = "str")) := by
  simp only [tyNames, List.mem_cons, List.not_mem_nil, or_false] at h
  rcases h with rfl | rfl | rfl | rfl | rfl | rfl | rfl | rfl <;> decide +kernel
theorem e_isi {K : PySem.W.Frag} {H : Hp} {Q : VK} {v : V} {n m : String} {b : Bool} (k : Q (.bl b) H) (h : WT K H v n) (hk : kitB n m = some b) : rIsi K [v, .ty m] H Q :=
  ⟨v, .ty m, .type n, .type m, b, rfl, .ty m, h.1, kit_ty hk, k⟩
def sp_is_whole (K : PySem.W.Frag) : Sp := fun vs H Q _ => ∃ (v : V) (n : String), vs = [v] ∧ WT K H v n ∧ Q (.bl (isInt v)) H
def rd_is_whole (K : PySem.W.Frag) : TS := tRet (tAndV (tCB (rIsi K) (tCons (tVar 0) (tCons (tC (.ty "int")) (tNil)))) (tNotV (tCB (rIsi K) (tCons (tVar 0) (tCons (tC (.ty "bool")) (tNil))))))
theorem pure_is_whole (K : PySem.W.Frag) (vs : List V) (H : Hp) (Q : VK) (E : XK) (h : sp_is_whole K vs H Q E) : rd_is_whole K { nx := fun _ H' => Q .non H', rt := Q } (start ["thing"] vs) H := by
  obtain ⟨v, n, rfl, hv, q⟩ := h
  have e := hv.isInt
  unfold rd_is_whole
  walk_at "rd"
  refine e_isi ?_ hv (kitI hv.2)
  refine ?_
  walk_at "rd"
  refine e_ite (fun h => ?_) (fun h => ?_)
  · walk_at "rd"
    refine e_isi ?_ hv (kitBl hv.2)
    walk_at "rd"
    show Q (.bl (!decide (n = "bool"))) H
    have : (!decide (n = "bool")) = isInt v := by
      rw [e]
      rcases h with rfl | rfl <;> decide
    rw [this]; exact q
  · have : isInt v = false := by
      rw [e]; exact decide_eq_false fun z => h (.inl z)
    rw [this] at q; exact q
def sp_is_whole_from (K : PySem.W.Frag) : Sp := fun vs H Q _ => ∃ (v : V) (n : String) (l : Int), vs = [v, .int l] ∧ WT K H v n ∧ Q (.bl (fromI v l)) H
def rd_is_whole_from (K : PySem.W.Frag) : TS := tRet (tAndV (tCall (sp_is_whole K) [] E0 (tCons (tVar 0) (tNil))) (tOp FW.rGe (tVar 0) (tVar 1)))
theorem pure_is_whole_from (K : PySem.W.Frag) (vs : List V) (H : Hp) (Q : VK) (E : XK) (h : sp_is_whole_from K vs H Q E) : rd_is_whole_from K { nx := fun _ H' => Q .non H', rt := Q } (start ["thing", "least"] vs) H := by
  obtain ⟨v, n, l, rfl, hv, q⟩ := h
  unfold rd_is_whole_from
  walk_at "rd"
  refine ⟨v, n, rfl, hv, ?_⟩
  walk_at "rd"
  refine e_iteB (fun h => ?_) (fun h => ?_)
  · obtain ⟨i, rfl⟩ := isInt_of h
    walk_at "rd"
    have : fromI (.int i) l = decide (l ≤ i) := Bool.true_and _
    rw [this] at q; exact q
  · have : fromI v l = false := by simp [fromI, h]
    rw [this] at q; exact q
/-! ### check_number, check_start where nothing is raised -/
/-! ### words -/
def wordOf (v : V) (ws : List V) : Bool := isStr v && inV v ws
def sp_is_word_of (K : PySem.W.Frag) : Sp := fun vs H Q _ => ∃ (v : V) (n : String) (a : Addr) (ws : List V), vs = [v, .ref a] ∧ WT K H v n ∧ SqT K H a ws ∧ ws.all flatV = true ∧ Q (.bl (wordOf v ws)) H
def rd_is_word_of (K : PySem.W.Frag) : TS := tRet (tAndV (tCB (rIsi K) (tCons (tVar 0) (tCons (tC (.ty "str")) (tNil)))) (tOp (rIn K false) (tVar 0) (tVar 1)))
theorem pure_is_word_of (K : PySem.W.Frag) (vs : List V) (H : Hp) (Q : VK) (E : XK) (h : sp_is_word_of K vs H Q E) : rd_is_word_of K { nx := fun _ H' => Q .non H', rt := Q } (start ["thing", "words"] vs) H := by
  obtain ⟨v, n, a, ws, rfl, hv, hw, hf, q⟩ := h
  have e := hv.isStr
  unfold rd_is_word_of
  walk_at "rd"
  refine e_isi ?_ hv (kitS hv.2)
  refine ?_
  walk_at "rd"
  refine e_ite (fun h => ?_) (fun h => ?_)
  · rw [decide_eq_true h] at e
    obtain ⟨x, rfl⟩ := isStr_of e
    walk_at "rd"
    refine e_in ?_ (.inr hw) rfl hf
    exact q
  · rw [decide_eq_false h] at e
    have : wordOf v ws = false := by simp [wordOf, e]
    rw [this] at q; exact q
def stopsV : List V := [.str "notless", .str "equal", .str "near1", .str "near2", .str "back", .str "under", .str "held"]
def toldsV : List V := [.str "old", .str "new", .str "less", .str "more"]
def mendsV : List V := [.str "none", .str "down", .str "up", .str "both"]
def looksV : List V := [.str "under", .str "held"]
/-- what the text's top holds for averages -/
structure AvK (K : PySem.W.Frag) : Prop where
  cls : Cls K (He.ga K "Average")
  n_k : NoAttr K (He.ga K "Average") "k"
  n_a : NoAttr K (He.ga K "Average") "a"
  n_c : NoAttr K (He.ga K "Average") "c"
  n_d : NoAttr K (He.ga K "Average") "d"
  n_stop : NoAttr K (He.ga K "Average") "stop"
  n_told : NoAttr K (He.ga K "Average") "told"
  n_mend : NoAttr K (He.ga K "Average") "mend"
  stops : ∀ H, SqT K H (He.ga K "STOPS") stopsV
  tolds : ∀ H, SqT K H (He.ga K "TOLDS") toldsV
  mends : ∀ H, SqT K H (He.ga K "MENDS") mendsV
  looks : ∀ H, SqT K H (He.ga K "LOOKS") looksV
/-- the first part that is not so -/
def wrongP (k a c d s t m : V) : V :=
  if (!isInt k || !inV k [.int 2, .int 3, .int 4]) = true then .str "k"
  else if (!isInt a || !(decide (1 ≤ iv a) && decide (iv a ≤ 5))) = true then .str "a"
  else if (!fromI c 1 || (decide (iv a < iv c * (iv k - 1)) || decide (6 < iv a + iv c))) = true then .str "c"
  else if (!isInt d || !(decide (-iv a ≤ iv d) && decide (iv d ≤ iv a + iv c))) = true then .str "d"
  else if (!wordOf s stopsV) = true then .str "stop"
  else if (!wordOf t toldsV || (inV s looksV && !decide (t = .str "old"))) = true then .str "told"
  else if wordOf m mendsV = true then .non else .str "mend"
def sp_wrong_part (K : PySem.W.Frag) : Sp := fun vs H Q _ => ∃ k a c d s t m : V, vs = [k, a, c, d, s, t, m] ∧ (∀ v ∈ [k, a, c, d, s, t, m], ∃ n, WT K H v n) ∧ (iv c).natAbs < 2 ^ 900 ∧
  ∀ H', Ext H H' → Q (wrongP k a c d s t m) H'
theorem WT.ext {K : PySem.W.Frag} {H H' : Hp} {v : V} {n : String} (e : Ext H H') (h : WT K H v n) : WT K H' v n := by
  obtain ⟨h, hn⟩ := h
  refine ⟨?_, hn⟩
  cases h with
  | base b =>
    refine .base ?_
    cases b with
    | non => exact .non
    | bl x => exact .bl x
    | int x => exact .int x
    | str x => exact .str x
    | flt x => exact .flt x
    | lst q => exact .lst (e _ _ q)
    | frz q => exact .frz (e _ _ q)
    | tup q => exact .tup (e _ _ q)
    | dK q => exact .dK (e _ _ q)
    | dT q => exact .dT (e _ _ q)
  | byt x => exact .byt x
  | set q => exact .set (e _ _ q)
  | kList q c => exact .kList q c
  | kTuple q c => exact .kTuple q c
  | kDict q c => exact .kDict q c
  | fTuple q => exact .fTuple (e _ _ q)
  | fDict q => exact .fDict (e _ _ q)
def rd_wrong_part (K : PySem.W.Frag) : TS := tSeq (tIfS (tOr (tNot (tB (tCall (sp_is_whole K) [] E0 (tCons (tVar 0) (tNil))))) (tTest (tOp (rIn K true) (tVar 0) (tTup (tCons (tC (.int 2)) (tCons (tC (.int 3)) (tCons (tC (.int 4)) (tNil)))))))) (tRet (tC (.str "k"))) (tNext)) (tSeq (tIfS (tOr (tNot (tB (tCall (sp_is_whole K) [] E0 (tCons (tVar 1) (tNil))))) (tNot (tTest (tChain FW.rLe FW.rLe (tC (.int 1)) (tVar 1) (tC (.int 5)))))) (tRet (tC (.str "a"))) (tNext)) (tSeq (tIfS (tOr (tNot (tB (tCall (sp_is_whole_from K) [] E0 (tCons (tVar 2) (tCons (tC (.int 1)) (tNil)))))) (tOr (tTest (tOp FW.rLt (tVar 1) (tOp FW.rMul (tVar 2) (tOp FW.rSub (tVar 0) (tC (.int 1)))))) (tTest (tOp FW.rGt (tOp FW.rAdd (tVar 1) (tVar 2)) (tC (.int 6)))))) (tRet (tC (.str "c"))) (tNext)) (tSeq (tIfS (tOr (tNot (tB (tCall (sp_is_whole K) [] E0 (tCons (tVar 3) (tNil))))) (tNot (tTest (tChain FW.rLe FW.rLe (tUn FW.rNeg (tVar 1)) (tVar 3) (tOp FW.rAdd (tVar 1) (tVar 2)))))) (tRet (tC (.str "d"))) (tNext)) (tSeq (tIfS (tNot (tB (tCall (sp_is_word_of K) [] E0 (tCons (tVar 4) (tCons (tC (.ref (He.ga K "STOPS"))) (tNil)))))) (tRet (tC (.str "stop"))) (tNext)) (tSeq (tIfS (tOr (tNot (tB (tCall (sp_is_word_of K) [] E0 (tCons (tVar 5) (tCons (tC (.ref (He.ga K "TOLDS"))) (tNil)))))) (tAnd (tTest (tOp (rIn K false) (tVar 4) (tC (.ref (He.ga K "LOOKS"))))) (tTest (tOp rNe (tVar 5) (tC (.str "old")))))) (tRet (tC (.str "told"))) (tNext)) (tRet (tIf (tB (tCall (sp_is_word_of K) [] E0 (tCons (tVar 6) (tCons (tC (.ref (He.ga K "MENDS"))) (tNil))))) (tC .non) (tC (.str "mend")))))))))
set_option maxHeartbeats 8000000 in
theorem pure_wrong_part (K : PySem.W.Frag) (A : AvK K) (vs : List V) (H : Hp) (Q : VK) (E : XK) (h : sp_wrong_part K vs H Q E) : rd_wrong_part K { nx := fun _ H' => Q .non H', rt := Q } (start ["k", "a", "c", "d", "stop", "told", "mend"] vs) H := by
  obtain ⟨k, a, c, d, s, t, m, rfl, hW, hc, q⟩ := h
  obtain ⟨nk, wk⟩ := hW k (by simp)
  obtain ⟨na, wa⟩ := hW a (by simp)
  obtain ⟨nc, wc⟩ := hW c (by simp)
  obtain ⟨nd, wd⟩ := hW d (by simp)
  obtain ⟨ns, ws⟩ := hW s (by simp)
  obtain ⟨nt, wt⟩ := hW t (by simp)
  obtain ⟨nm, wm⟩ := hW m (by simp)
  unfold wrongP at q
  unfold rd_wrong_part
  walk_at "rd"
  refine ⟨_, _, rfl, wk, ?_⟩
  walk_at "rd"
  refine e_iteB (fun h1 => ?_) (fun h1 => ?_)
  · walk_at "rd"
    rw [if_pos (by rw [h1]; rfl)] at q
    exact q _ Ext.rfl'
  rw [h1, Bool.false_or] at q
  have h1' : isInt k = true := by simpa using h1
  obtain ⟨k, rfl⟩ := isInt_of h1'
  walk_at "rd"
  refine ⟨by show 3 ≤ sizeLine; decide, fun p hp => ?_⟩
  refine e_in ?_ (.inr (SqT.of upd_same)) rfl rfl
  have eH : Ext H (upd H p (.tup [.int 2, .int 3, .int 4])) := Ext.new hp
  generalize upd H p (.tup [.int 2, .int 3, .int 4]) = H1 at *
  rw [if_pos rfl]
  refine ?_
  walk_at "rd"
  refine e_iteB (fun h2 => ?_) (fun h2 => ?_)
  · walk_at "rd"
    rw [if_pos h2] at q
    exact q _ eH
  rw [if_neg (by rw [h2]; decide)] at q
  have hk : k = 2 ∨ k = 3 ∨ k = 4 := by
    simp [inV, eqV] at h2
    omega
  walk_at "rd"
  refine ⟨_, _, rfl, wa.ext eH, ?_⟩
  walk_at "rd"
  refine e_iteB (fun h3 => ?_) (fun h3 => ?_)
  · walk_at "rd"
    rw [if_pos (by rw [h3]; rfl)] at q
    exact q _ eH
  rw [h3, Bool.false_or] at q
  have h3' : isInt a = true := by simpa using h3
  obtain ⟨a, rfl⟩ := isInt_of h3'
  walk_at "rd"
  have ha : (1 ≤ a ∧ a ≤ 5) ∨ ¬ (1 ≤ a ∧ a ≤ 5) := Classical.em _
  rcases ha with ha | ha
  · rw [decide_eq_true ha.1]
    walk_at "rd"
    rw [decide_eq_true ha.2]
    walk_at "rd"
    rw [if_neg (by simp [iv, ha.1, ha.2])] at q
    refine ⟨_, _, _, rfl, wc.ext eH, ?_⟩
    walk_at "rd"
    refine e_iteB (fun h4 => ?_) (fun h4 => ?_)
    · walk_at "rd"
      rw [if_pos (by rw [h4]; rfl)] at q
      exact q _ eH
    rw [h4, Bool.false_or] at q
    have h4' : fromI c 1 = true := by simpa using h4
    have h4i : isInt c = true := by
      unfold fromI at h4'
      rw [Bool.and_eq_true] at h4'
      exact h4'.1
    obtain ⟨c, rfl⟩ := isInt_of h4i
    walk_at "rd"
    rotate_left 1
    · exact wide_mul (a := 900) (b := 10) hc (by omega) (by decide) (by decide) (by decide)
    refine e_ite (fun h5 => ?_) (fun h5 => ?_)
    · walk_at "rd"
      rw [if_pos (by rw [decide_eq_true (by exact h5)]; rfl)] at q
      exact q _ eH
    rw [decide_eq_false (by exact h5), Bool.false_or] at q
    walk_at "rd"
    refine e_ite (fun h6 => ?_) (fun h6 => ?_)
    · walk_at "rd"
      rw [if_pos (decide_eq_true (by exact h6))] at q
      exact q _ eH
    rw [if_neg (by rw [decide_eq_false (by exact h6)]; decide)] at q
    walk_at "rd"
    refine ⟨_, _, rfl, wd.ext eH, ?_⟩
    walk_at "rd"
    refine e_iteB (fun h7 => ?_) (fun h7 => ?_)
    · walk_at "rd"
      rw [if_pos (by rw [h7]; rfl)] at q
      exact q _ eH
    rw [h7, Bool.false_or] at q
    have h7' : isInt d = true := by simpa using h7
    obtain ⟨d, rfl⟩ := isInt_of h7'
    walk_at "rd"
    have hd : (-a ≤ d ∧ d ≤ a + c) ∨ ¬ (-a ≤ d ∧ d ≤ a + c) := Classical.em _
    rcases hd with hd | hd
    · rw [decide_eq_true hd.1]
      walk_at "rd"
      rw [decide_eq_true hd.2]
      walk_at "rd"
      rw [if_neg (by simp [iv, hd.1, hd.2])] at q
      refine ⟨_, _, _, _, rfl, ws.ext eH, A.stops _, by decide, ?_⟩
      walk_at "rd"
      refine e_iteB (fun h8 => ?_) (fun h8 => ?_)
      · walk_at "rd"
        rw [if_pos h8] at q
        exact q _ eH
      rw [if_neg (by rw [h8]; decide)] at q
      have h8' : wordOf s stopsV = true := by simpa using h8
      have h8s : isStr s = true := by
        unfold wordOf at h8'
        rw [Bool.and_eq_true] at h8'
        exact h8'.1
      obtain ⟨s, rfl⟩ := isStr_of h8s
      walk_at "rd"
      refine ⟨_, _, _, _, rfl, wt.ext eH, A.tolds _, by decide, ?_⟩
      walk_at "rd"
      refine e_iteB (fun h9 => ?_) (fun h9 => ?_)
      · walk_at "rd"
        rw [if_pos (by rw [h9]; rfl)] at q
        exact q _ eH
      rw [h9, Bool.false_or] at q
      have h9' : wordOf t toldsV = true := by simpa using h9
      have h9s : isStr t = true := by
        unfold wordOf at h9'
        rw [Bool.and_eq_true] at h9'
        exact h9'.1
      obtain ⟨t, rfl⟩ := isStr_of h9s
      walk_at "rd"
      refine e_in ?_ (.inr (A.looks _)) rfl (by decide)
      rw [if_neg (by decide)]
      refine ?_
      walk_at "rd"
      refine e_iteB (fun h10 => ?_) (fun h10 => ?_)
      · rw [h10, Bool.true_and] at q
        walk_at "rd"
        refine e_iteB (fun h11 => ?_) (fun h11 => ?_)
        · walk_at "rd"
          rw [if_pos h11] at q
          exact q _ eH
        rw [if_neg (by rw [h11]; decide)] at q
        walk_at "rd"
        refine ⟨_, _, _, _, rfl, wm.ext eH, A.mends _, by decide, ?_⟩
        walk_at "rd"
        refine e_iteB (fun h12 => ?_) (fun h12 => ?_)
        · walk_at "rd"
          rw [if_pos h12] at q
          exact q _ eH
        · walk_at "rd"
          rw [if_neg (by rw [h12]; decide)] at q
          exact q _ eH
      · rw [h10, Bool.false_and, if_neg (by decide)] at q
        walk_at "rd"
        refine ⟨_, _, _, _, rfl, wm.ext eH, A.mends _, by decide, ?_⟩
        walk_at "rd"
        refine e_iteB (fun h12 => ?_) (fun h12 => ?_)
        · walk_at "rd"
          rw [if_pos h12] at q
          exact q _ eH
        · walk_at "rd"
          rw [if_neg (by rw [h12]; decide)] at q
          exact q _ eH
    · by_cases h : -a ≤ d
      · have h' : ¬ d ≤ a + c := fun z => hd ⟨h, z⟩
        rw [if_pos (by show (!(decide (-a ≤ d) && decide (d ≤ a + c))) = true; rw [decide_eq_false h', Bool.and_false]; rfl)] at q
        rw [decide_eq_true h]
        walk_at "rd"
        rw [decide_eq_false h']
        walk_at "rd"
        exact q _ eH
      · rw [if_pos (by show (!(decide (-a ≤ d) && decide (d ≤ a + c))) = true; rw [decide_eq_false h]; rfl)] at q
        rw [decide_eq_false h]
        walk_at "rd"
        exact q _ eH
  · by_cases h : 1 ≤ a
    · have h' : ¬ a ≤ 5 := fun z => ha ⟨h, z⟩
      rw [if_pos (by show (!(decide (1 ≤ a) && decide (a ≤ 5))) = true; rw [decide_eq_false h', Bool.and_false]; rfl)] at q
      rw [decide_eq_true h]
      walk_at "rd"
      rw [decide_eq_false h']
      walk_at "rd"
      exact q _ eH
    · rw [if_pos (by show (!(decide (1 ≤ a) && decide (a ≤ 5))) = true; rw [decide_eq_false h]; rfl)] at q
      rw [decide_eq_false h]
      walk_at "rd"
      exact q _ eH
end FWL
namespace FWL
open PySem PySem.Spec PyProof.Rows L2 FW
/-! ### sizes -/
abbrev Sz (b : Nat) (x : Int) : Prop := x.natAbs < 2 ^ b
theorem Sz.mono {a b : Nat} {x : Int} (h : Sz a x) (l : a ≤ b) : Sz b x := Nat.lt_of_lt_of_le h (Nat.pow_le_pow_right (by decide) l)
theorem Sz.add {a : Nat} {x y : Int} (h : Sz a x) (h' : Sz a y) : Sz (a + 1) (x + y) := by
  show (x + y).natAbs < 2 ^ (a + 1)
  rw [Nat.pow_succ]
  have h1 : x.natAbs < 2 ^ a := h
  have h2 : y.natAbs < 2 ^ a := h'
  omega
theorem Sz.mul {a b : Nat} {x y : Int} (h : Sz a x) (h' : Sz b y) : Sz (a + b) (x * y) := wide_lt h h'
theorem Sz.log2 {b : Nat} {x : Int} (h : Sz b x) (hb : 0 < b) (h9 : b ≤ 9000) : x.natAbs.log2 < 9000 := Nat.lt_of_lt_of_le (PySem.Flt.log2_lt_of hb h) h9
end FWL
namespace FWL
open PySem PySem.Spec PyProof.Rows L2 FW
/-! ### more readings -/
section
variable {K : PySem.W.Frag} {σ : L2.St} {H : Hp} {Q : VK} {D : Ends} {ta tb tc te : TE} {tA : TA} {v : V} {i j : Int} {n : Nat} {a b : Addr} {xs ys : List V}
theorem e_rep (q : ∀ p, H p = none → Q (.ref p) (upd H p (.lst (List.replicate i.toNat v)))) (h : H a = some (.lst [v])) (hz : i ≤ 1000) (h0 : -1000 ≤ i) : rRep (.ref a) (.int i) H Q := by
  refine ⟨a, i, [v], rfl, rfl, h, by omega, by omega, ?_, fun p hp => ?_⟩
  · show 1 * i.toNat ≤ 2 ^ 24
    omega
  · have e : (List.replicate i.toNat [v]).flatten = List.replicate i.toNat v := by
      induction i.toNat with
      | zero => rfl
      | succ m ih => rw [List.replicate_succ, List.flatten_cons, ih, List.replicate_succ]; rfl
    rw [e]
    exact q p hp
theorem e_cat (q : ∀ p, H p = none → Q (.ref p) (upd H p (.lst (xs ++ ys)))) (h : H a = some (.lst xs)) (h' : H b = some (.lst ys)) (hz : xs.length + ys.length ≤ sizeLine) : rCat (.ref a) (.ref b) H Q := ⟨a, b, xs, ys, rfl, rfl, h, h', hz, q⟩
theorem e_listS (q : ∀ p, H p = none → Q (.ref p) (upd H p (.lst xs))) (h : SqL K H a xs ∨ SqT K H a xs) : Evl.rListS K [.ref a] H Q := ⟨a, xs, rfl, h, q⟩
theorem e_tupL (q : ∀ p, H p = none → Q (.ref p) (upd H p (.tup xs))) (h : SqL K H a xs) : FW.rTupS K [.ref a] H Q := ⟨a, xs, rfl, .inl ⟨h, q⟩⟩
theorem e_sl {r : V → Option Int → Option Int → Hp → VK → Prop} {tl th : L2.TO} (k : te σ H fun x H1 => tl σ H1 fun l H2 => th σ H2 fun u H3 => r x l u H3 Q) : L2.tSl r te tl th σ H Q := k
theorem e_noP {R : Option Int → Hp → Prop} (k : R none H) : tNoPart σ H R := k
theorem e_part {R : Option Int → Hp → Prop} (k : te σ H fun x H1 => ∃ i, x = .int i ∧ R (some i) H1) : tPart te σ H R := k
theorem e_part' {R : Int → Prop} (k : R i) : ∃ j, V.int i = .int j ∧ R j := ⟨i, rfl, k⟩
theorem e_slL {lo hi : Option Int} (q : ∀ p, H p = none → Q (.ref p) (upd H p (.lst (cutV xs lo hi)))) (h : SqL K H a xs) : rSlL K (.ref a) lo hi H Q := ⟨a, xs, rfl, h, q⟩
theorem e_all {bs : List Bool} (q : Q (.bl (bs.all id)) H) (h : SqL K H a (bs.map V.bl)) : rAll K [.ref a] H Q := ⟨a, bs, rfl, h, q⟩
theorem e_eqD {d e : PyData} (q : Q (.bl (PyData.eqv d e)) H) {x y : V} (h1 : Dp K H x d) (h2 : Dp K H y e) (s1 : SeqAt.shaped d = true) (s2 : SeqAt.shaped e = true) : rEqD K x y H Q := ⟨d, e, h1, h2, s1, s2, q⟩
theorem e_neD {d e : PyData} (q : Q (.bl (!PyData.eqv d e)) H) {x y : V} (h1 : Dp K H x d) (h2 : Dp K H y e) (s1 : SeqAt.shaped d = true) (s2 : SeqAt.shaped e = true) : rNeD K x y H Q := ⟨d, e, h1, h2, s1, s2, q⟩
theorem i_zip {R : It → Hp → Prop} (k : tA σ H fun vs H1 => ∃ a b xs ys, vs = [.ref a, .ref b] ∧ SqL K H1 a xs ∧ SqL K H1 b ys ∧ R (Itz K a b) H1) : iZip K tA σ H R := k
theorem i_enum {R : It → Hp → Prop} (k : tA σ H fun vs H1 => ∃ a xs, vs = [.ref a] ∧ SqL K H1 a xs ∧ R (Ite K a) H1) : iEnum K tA σ H R := k
theorem s_augS {to ti : TE} {tget : V → V → Hp → VK → Prop} {tip : TIp} {tset : TSet} (k : to σ H fun o H1 => ti σ H1 fun i H2 => tget o i H2 fun x H3 => te σ H3 fun y H4 => tip x y H4 fun z H5 => tset o i z H5 fun H6 => D.nx σ H6) : tAugS to ti te tget tip tset D σ H := k
end
/-- a list or a tuple -/
abbrev SqA (K : PySem.W.Frag) (H : Hp) (a : Addr) (xs : List V) : Prop := SqL K H a xs ∨ SqT K H a xs
theorem SqA.ext {K : PySem.W.Frag} {H H' : Hp} {a : Addr} {xs : List V} (e : Ext H H') (h : SqA K H a xs) : SqA K H' a xs := h.elim (fun h => .inl (e.sqL h)) (fun h => .inr (e.sqT h))
/-- for i, x in enumerate(s), s a list or a tuple at slot n -/
theorem for_enumA {K : PySem.W.Frag} {n : Nat} {g : TG} {tb : TS} {D : Ends} {σ : L2.St} {H0 H : Hp} {a : Addr} {xs : List V} (Pv : Nat → L2.St → Hp → Prop)
    (hv : σ[n]? = some (some (.ref a))) (hq : SqA K H0 a xs) (h0 : Pv 0 σ H) (hk : ∀ i σ H', Pv i σ H' → Ext H0 H')
    (hs : ∀ i x σ H' T, xs[i]? = some x → Pv i σ H' → H' T = none → g (.ref T) σ (upd H' T (.tup [.int (i : Nat), x])) fun σ2 H2 => tb { D with nx := Pv (i + 1), ct := Pv (i + 1), bk := D.nx } σ2 H2) (hd : ∀ σ H', Pv xs.length σ H' → D.nx σ H') :
    tFor (FW.iEither (iEnum K (tCons (tVar n) tNil)) (FW.iEnumT K (tCons (tVar n) tNil))) g tb D σ H := by
  rcases hq with hq | hq
  · refine s_for (.inl ?_)
    refine ⟨_, hv, a, xs, rfl, (hk _ _ _ h0).sqL hq, ?_⟩
    refine for_it (walk_enum (K := K) (a := a) (xs := xs)) Pv h0 (fun i σ H' _ p => (hk i σ H' p).sqL hq) ?_ hd
    rintro i x σ H' H'' hi p ⟨T, y, z, rfl, hT, rfl, e1, e2⟩
    cases e1
    exact hs i z σ H' T e2 p hT
  · refine s_for (.inr ?_)
    refine ⟨_, hv, a, xs, rfl, (hk _ _ _ h0).sqT hq, ?_⟩
    refine for_it (FW.walk_enumT (K := K) (a := a) (xs := xs)) Pv h0 (fun i σ H' _ p => (hk i σ H' p).sqT hq) ?_ hd
    rintro i x σ H' H'' hi p ⟨T, y, z, rfl, hT, rfl, e1, e2⟩
    cases e1
    exact hs i z σ H' T e2 p hT
/-! data of ints -/
theorem dpI {K : PySem.W.Frag} {H : Hp} : ∀ ns : List Int, DpAll K H (ns.map V.int) (ns.map PyData.int)
  | [] => .nil
  | n :: ns => .cons (.int n) (dpI ns)
theorem layI : ∀ ns : List Int, PyData.canLayAll0 (ns.map PyData.int) = true
  | [] => rfl
  | n :: ns => by rw [List.map_cons, PyData.canLayAll0, layI ns]; rfl
theorem depI : ∀ ns : List Int, PyData.depthAll (ns.map PyData.int) = 0
  | [] => rfl
  | n :: ns => by rw [List.map_cons, PyData.depthAll, depI ns]; rfl
theorem shL (ns : List Int) : SeqAt.shaped (.list (ns.map PyData.int)) = true := by
  unfold SeqAt.shaped
  rw [PyData.canLay0, layI, PyData.depth, depI]; rfl
theorem shT (ns : List Int) : SeqAt.shaped (.tuple (ns.map PyData.int)) = true := by
  unfold SeqAt.shaped
  rw [PyData.canLay0, layI, PyData.depth, depI]; rfl
theorem eqvI (ns ms : List Int) : PyData.eqvAll (ns.map PyData.int) (ms.map PyData.int) = decide (ns = ms) := by
  induction ns generalizing ms with
  | nil => cases ms <;> simp [PyData.eqvAll]
  | cons n ns ih =>
    cases ms with
    | nil => simp [PyData.eqvAll]
    | cons m ms =>
      simp [PyData.eqvAll, PyData.eqv, ih, Bool.and_comm]
      rfl
end FWL
namespace FWL
open PySem PySem.Spec PyProof.Rows L2 FW
/-! ### a stream: three ints; n bounds the draws so far -/
def Strm (H : Hp) (p : Addr) (n : Nat) : Prop := ∃ a b c : Int, H p = some (.lst [.int a, .int b, .int c]) ∧ 0 ≤ a ∧ 0 ≤ b ∧ b < 2 ^ 40 ∧ 0 ≤ c ∧ c ≤ n
theorem Strm.mono {H : Hp} {p : Addr} {n m : Nat} (h : Strm H p n) (l : n ≤ m) : Strm H p m := by
  obtain ⟨a, b, c, h1, h2, h3, h4, h5, h6⟩ := h
  exact ⟨a, b, c, h1, h2, h3, h4, h5, by omega⟩
theorem Strm.ext {H H' : Hp} {p : Addr} {n : Nat} (h : Strm H p n) (e : Ext H H') : Strm H' p n := by
  obtain ⟨a, b, c, h1, h2⟩ := h
  exact ⟨a, b, c, e _ _ h1, h2⟩
theorem Strm.ne {H : Hp} {p q : Addr} {n : Nat} (h : Strm H p n) (e : H q = none) : q ≠ p := by
  obtain ⟨a, b, c, h1, h2⟩ := h
  exact (ne_of_none h1 e).symm
def sp_l_stream (K : PySem.W.Frag) : Sp := fun vs H Q _ => ∃ (a : Addr) (ns : List Int) (k : Int), vs = [.ref a, .int k] ∧ SqL K H a (ns.map V.int) ∧ 0 ≤ k ∧ k < 1000 ∧
  ∀ p H', H p = none → Ext H H' → Strm H' p 0 → Q (.ref p) H'
def sp_l_draw (K : PySem.W.Frag) : Sp := fun vs H Q _ => ∃ (p : Addr) (many : Int) (n : Nat), vs = [.ref p, .int many] ∧ Strm H p n ∧ n < 1000000 ∧ 0 < many ∧ many.natAbs.log2 < 9000 ∧
  ∀ d H', 0 ≤ d → d < many → ExtB p H H' → Strm H' p (n + 1) → Q (.int d) H'
def sp_l_pick (K : PySem.W.Frag) : Sp := fun vs H Q _ => ∃ (p q : Addr) (xs : List V) (n : Nat), vs = [.ref p, .ref q] ∧ Strm H p n ∧ n < 1000000 ∧ q ≠ p ∧ H q = some (.lst xs) ∧ xs ≠ [] ∧ xs.length < 1000 ∧
  ∀ v H', v ∈ xs → ExtB p H H' → Strm H' p (n + 1) → Q v H'
def rd_l_stream (K : PySem.W.Frag) : TS := tSeq (tAsg (tIf (tTest (tOp FW.rLt (tVar 1) (tCB (Evl.rLenS K) (tCons (tVar 0) (tNil))))) (tCB FW.rAbs (tCons (tOp (rIxL K) (tVar 0) (tVar 1)) (tNil))) (tC (.int 0))) (gName 2)) (tRet (tLst (tCons (tIf (tTest (tOp FW.rGe (tVar 2) (tOp FW.rPow (tC (.int 10)) (tC (.int 18))))) (tVar 2) (tC (.int 0))) (tCons (tOp FW.rAdd (tOp FW.rMod (tCB FW.rInt1 (tCons (tVar 2) (tNil))) (tC (.int 2147483647))) (tOp FW.rMul (tC (.int 31)) (tVar 1))) (tCons (tC (.int 0)) (tNil))))))
def rd_l_draw (K : PySem.W.Frag) : TS := tSeq (tIfS (tTest (tOp FW.rGt (tOp (rIxL K) (tVar 0) (tC (.int 0))) (tC (.int 0)))) (tSeq (tAsg (tOp FW.rMod (tCB FW.rInt1 (tCons (tOp (rIxL K) (tVar 0) (tC (.int 0))) (tNil))) (tVar 1)) (gName 2)) (tSeq (tAsg (tOp FW.rDiv (tOp (rIxL K) (tVar 0) (tC (.int 0))) (tVar 1)) (gSub (tVar 0) (tC (.int 0)) rSetL)) (tRet (tVar 2)))) (tNext)) (tSeq (tAsg (tOp FW.rAdd (tOp (rIxL K) (tVar 0) (tC (.int 2))) (tC (.int 1))) (gSub (tVar 0) (tC (.int 2)) rSetL)) (tSeq (tAsg (tOp FW.rMod (tOp FW.rPow (tCB FW.rInt1 (tCons (tOp FW.rAdd (tOp FW.rAdd (tOp (rIxL K) (tVar 0) (tC (.int 1))) (tOp FW.rMul (tC (.int 7919)) (tOp (rIxL K) (tVar 0) (tC (.int 2))))) (tC (.int 104729))) (tNil))) (tC (.int 5))) (tC (.int 2147483647))) (gName 3)) (tRet (tOp FW.rMod (tOp FW.rDiv (tOp FW.rMod (tCB FW.rInt1 (tCons (tOp FW.rMul (tOp FW.rAdd (tVar 3) (tOp (rIxL K) (tVar 0) (tC (.int 2)))) (tC (.int 40692))) (tNil))) (tC (.int 2147483629))) (tC (.int 7))) (tVar 1)))))
def rd_l_pick (K : PySem.W.Frag) : TS := tRet (tOp (rIxL K) (tVar 1) (tCall (sp_l_draw K) [] E0 (tCons (tVar 0) (tCons (tCB (Evl.rLenS K) (tCons (tVar 1) (tNil))) (tNil)))))
theorem at_map {ns : List Int} {k : Int} (h0 : 0 ≤ k) (h : k < (ns.length : Int)) : ∃ i, atI (ns.map V.int) k = some (.int i) := by
  obtain ⟨k, rfl⟩ := Int.eq_ofNat_of_zero_le h0
  have hk : k < ns.length := by omega
  refine ⟨ns[k], atI_nat ?_⟩
  rw [List.getElem?_map, List.getElem?_eq_getElem hk]
  rfl
theorem pure_l_stream (K : PySem.W.Frag) (vs : List V) (H : Hp) (Q : VK) (E : XK) (h : sp_l_stream K vs H Q E) : rd_l_stream K { nx := fun _ H' => Q .non H', rt := Q } (start ["_law_script", "_law_k", "_law_cell"] vs) H := by
  obtain ⟨a, ns, k, rfl, hS, h0, hk, q⟩ := h
  have fin : ∀ cell : Int, 0 ≤ cell → (tRet (tLst (tCons (tIf (tTest (tOp FW.rGe (tVar 2) (tOp FW.rPow (tC (.int 10)) (tC (.int 18))))) (tVar 2) (tC (.int 0))) (tCons (tOp FW.rAdd (tOp FW.rMod (tCB FW.rInt1 (tCons (tVar 2) (tNil))) (tC (.int 2147483647))) (tOp FW.rMul (tC (.int 31)) (tVar 1))) (tCons (tC (.int 0)) (tNil)))))) { nx := fun _ H' => Q .non H', rt := Q } [some (.ref a), some (.int k), some (.int cell)] H := by
    intro cell hc
    have hm : 0 ≤ cell % 2147483647 := Int.emod_nonneg _ (by decide)
    have hm2 : cell % 2147483647 < 2147483647 := Int.emod_lt_of_pos _ (by decide)
    walk_at "rd"
    · refine e_ite (fun h => ?_) (fun h => ?_)
      · walk_at "rd"
        · refine ⟨by show 3 ≤ sizeLine; decide, fun p hp => q p _ hp (Ext.new hp) ⟨_, _, _, upd_same, hc, by omega, by omega, by decide, by decide⟩⟩
        · exact wide_mul (a := 10) (b := 10) (by decide) (by omega) (by decide) (by decide) (by decide)
        · decide
      · walk_at "rd"
        · refine ⟨by show 3 ≤ sizeLine; decide, fun p hp => q p _ hp (Ext.new hp) ⟨_, _, _, upd_same, by decide, by omega, by omega, by decide, by decide⟩⟩
        · exact wide_mul (a := 10) (b := 10) (by decide) (by omega) (by decide) (by decide) (by decide)
        · decide
    · exact ⟨by decide, by decide, by decide⟩
  unfold rd_l_stream
  walk_at "rd"
  refine e_len ?_ (.inl hS)
  walk_at "rd"
  refine e_ite (fun h => ?_) (fun h => ?_)
  · rw [List.length_map] at h
    obtain ⟨i, hi⟩ := at_map h0 h
    walk_at "rd"
    refine e_ixL ?_ hS hi
    walk_at "re"
    exact fin (if i < 0 then -i else i) (by split <;> omega)
  · walk_at "re"
    exact fin 0 (by decide)
theorem pure_l_draw (K : PySem.W.Frag) (vs : List V) (H : Hp) (Q : VK) (E : XK) (h : sp_l_draw K vs H Q E) : rd_l_draw K { nx := fun _ H' => Q .non H', rt := Q } (start ["_law_stream_here", "_law_many", "_law_digit", "_law_spread"] vs) H := by
  obtain ⟨p, many, n, rfl, ⟨a, b, c, hp, ha, hb, hb2, hc, hcn⟩, hn, hm, hml, q⟩ := h
  unfold rd_l_draw
  walk_at "rd"
  refine e_ixL ?_ (SqL.of hp) rfl
  walk_at "rd"
  refine e_ite (fun h => ?_) (fun h => ?_)
  · walk_at "rd"
    refine e_ixL ?_ (SqL.of hp) rfl
    walk_at "rd"
    · refine e_ixL ?_ (SqL.of hp) rfl
      walk_at "rd"
      · refine e_setL (m := 0) ?_ hp rfl
        walk_at "rd"
        refine q _ _ (Int.emod_nonneg _ (by omega)) (Int.emod_lt_of_pos _ hm) ExtB.upd ⟨_, _, _, upd_same, Int.ediv_nonneg ha (by omega), hb, hb2, hc, by omega⟩
      · exact ⟨hm, hml⟩
    · exact hm
  · walk_at "rd"
    refine e_ixL ?_ (SqL.of hp) rfl
    walk_at "rd"
    refine e_setL (m := 2) ?_ hp rfl
    have hp' : (upd H p (.lst ([V.int a, V.int b, V.int c].set 2 (.int (c + 1))))) p = some (.lst [.int a, .int b, .int (c + 1)]) := upd_same
    have eB : ExtB p H (upd H p (.lst ([V.int a, V.int b, V.int c].set 2 (.int (c + 1))))) := ExtB.upd
    generalize upd H p (.lst ([V.int a, V.int b, V.int c].set 2 (.int (c + 1)))) = H1 at *
    walk_at "rd"
    refine e_ixL ?_ (SqL.of hp') rfl
    walk_at "rd"
    refine e_ixL ?_ (SqL.of hp') rfl
    walk_at "rd"
    · refine e_ixL ?_ (SqL.of hp') rfl
      have hs : 0 ≤ ((b + 7919 * (c + 1) + 104729) ^ (5 : Int).toNat) % 2147483647 := Int.emod_nonneg _ (by decide)
      have hs2 : ((b + 7919 * (c + 1) + 104729) ^ (5 : Int).toNat) % 2147483647 < 2147483647 := Int.emod_lt_of_pos _ (by decide)
      walk_at "rd"
      · refine q _ _ (Int.emod_nonneg _ (by omega)) (Int.emod_lt_of_pos _ hm) eB ⟨_, _, _, hp', ha, hb, hb2, by omega, by omega⟩
      · exact hm
      · exact ⟨by decide, by decide⟩
      · decide
      · exact wide_mul (a := 60) (b := 20) (by omega) (by decide) (by decide) (by decide) (by decide)
    · decide
    · exact ⟨by decide, by decide, by omega⟩
    · exact wide_mul (a := 20) (b := 40) (by decide) (by omega) (by decide) (by decide) (by decide)
theorem log2_small {n : Nat} (h : n < 1000) : n.log2 < 9000 := by
  have : n.log2 ≤ n := Nat.log2_le_self n
  omega
theorem pure_l_pick (K : PySem.W.Frag) (vs : List V) (H : Hp) (Q : VK) (E : XK) (h : sp_l_pick K vs H Q E) : rd_l_pick K { nx := fun _ H' => Q .non H', rt := Q } (start ["_law_stream_here", "_law_things"] vs) H := by
  obtain ⟨p, a, xs, n, rfl, hS, hn, hne, ha, hx, hl, q⟩ := h
  have h0 : 0 < xs.length := List.length_pos_iff.mpr hx
  unfold rd_l_pick
  walk_at "rd"
  refine e_len ?_ (.inl (SqL.of ha))
  walk_at "rd"
  refine ⟨p, _, n, rfl, hS, hn, by omega, by rw [Int.natAbs_natCast]; exact log2_small hl, fun d H' d0 d1 e s => ?_⟩
  obtain ⟨d, rfl⟩ := Int.eq_ofNat_of_zero_le d0
  have hd : d < xs.length := by omega
  refine e_ixL (v := xs[d]) ?_ (SqL.of (e _ _ hne ha)) (atI_nat (List.getElem?_eq_getElem hd))
  exact q _ _ (List.getElem_mem _) e s
end FWL
namespace FWL
open PySem PySem.Spec PyProof.Rows L2 FW
/-! ### weights -/
def okW (k a c : Int) : Bool := decide (c * (k - 1) ≤ a) && decide (a + c ≤ 6)
def wRow (k a : Int) (cs : List Int) : List (Int × Int) := (cs.filter (okW k a)).map fun c => (a, c)
def wAll (k : Int) : Nat → List (Int × Int)
  | 0 => []
  | n + 1 => wAll k n ++ wRow k (1 + (n : Int)) [1, 2, 3]
def weightsL (k : Int) : List (Int × Int) := wAll k 5
/-- tuples of two ints -/
def Prs (H : Hp) : List V → List (Int × Int) → Prop
  | [], [] => True
  | v :: vs, w :: ws => (∃ t, v = .ref t ∧ H t = some (.tup [.int w.1, .int w.2])) ∧ Prs H vs ws
  | _, _ => False
theorem Prs.ext {H H' : Hp} (e : Ext H H') : ∀ {vs : List V} {ws : List (Int × Int)}, Prs H vs ws → Prs H' vs ws
  | [], [], _ => True.intro
  | _ :: _, _ :: _, ⟨⟨t, h1, h2⟩, r⟩ => ⟨⟨t, h1, e _ _ h2⟩, Prs.ext e r⟩
theorem Prs.upd {H : Hp} {D : Addr} {xs ys : List V} (hD : H D = some (.lst xs)) : ∀ {vs : List V} {ws : List (Int × Int)}, Prs H vs ws → Prs (upd H D (.lst ys)) vs ws
  | [], [], _ => True.intro
  | _ :: _, _ :: _, ⟨⟨t, h1, h2⟩, r⟩ => ⟨⟨t, h1, by rw [upd_ne (ne_of h2 hD (by intro z; cases z))]; exact h2⟩, Prs.upd hD r⟩
theorem Prs.app {H : Hp} : ∀ {vs vs' : List V} {ws ws' : List (Int × Int)}, Prs H vs ws → Prs H vs' ws' → Prs H (vs ++ vs') (ws ++ ws')
  | [], _, [], _, _, h => h
  | _ :: _, _, _ :: _, _, ⟨a, r⟩, h => ⟨a, Prs.app r h⟩
theorem Prs.len {H : Hp} : ∀ {vs : List V} {ws : List (Int × Int)}, Prs H vs ws → vs.length = ws.length
  | [], [], _ => rfl
  | _ :: _, _ :: _, ⟨_, r⟩ => congrArg Nat.succ (Prs.len r)
theorem Prs.mem {H : Hp} {v : V} : ∀ {vs : List V} {ws : List (Int × Int)}, Prs H vs ws → v ∈ vs → ∃ w ∈ ws, ∃ t, v = .ref t ∧ H t = some (.tup [.int w.1, .int w.2])
  | [], [], _, h => by cases h
  | x :: xs, w :: ws, ⟨a, r⟩, h => by
    rcases List.mem_cons.mp h with rfl | h
    · exact ⟨w, List.mem_cons_self, a⟩
    · obtain ⟨w', m, q⟩ := Prs.mem r h
      exact ⟨w', List.mem_cons_of_mem _ m, q⟩
theorem wRow_snoc (k a c : Int) (cs : List Int) : wRow k a (cs ++ [c]) = if okW k a c = true then wRow k a cs ++ [(a, c)] else wRow k a cs := by
  unfold wRow
  rw [List.filter_append]
  cases h : okW k a c <;> simp [List.filter_cons, h]
theorem wRow_len (k a : Int) (cs : List Int) : (wRow k a cs).length ≤ cs.length := by
  unfold wRow
  rw [List.length_map]
  exact List.length_filter_le _ _
theorem wAll_len (k : Int) : ∀ n, (wAll k n).length ≤ 3 * n
  | 0 => by simp [wAll]
  | n + 1 => by
    have := wAll_len k n
    have := wRow_len k (1 + (n : Int)) [1, 2, 3]
    simp only [wAll, List.length_append, List.length_cons, List.length_nil] at *
    omega
def sp_l_weights (K : PySem.W.Frag) : Sp := fun vs H Q _ => ∃ k : Int, vs = [.int k] ∧ 2 ≤ k ∧ k ≤ 4 ∧
  ∀ l ts H', H l = none → Ext H H' → H' l = some (.lst ts) → Prs H' ts (weightsL k) → Q (.ref l) H'
def rd_l_weights_L1 (K : PySem.W.Frag) : TS := tDrop (tBM K "list" rExtend (tVar 1) (tCons (tLc (iTup K (tTup (tCons (tC (.int 1)) (tCons (tC (.int 2)) (tCons (tC (.int 3)) (tNil)))))) (gName 3) (tAnd (tTest (tOp FW.rGe (tVar 2) (tOp FW.rMul (tVar 3) (tOp FW.rSub (tVar 0) (tC (.int 1)))))) (tTest (tOp FW.rLe (tOp FW.rAdd (tVar 2) (tVar 3)) (tC (.int 6))))) (tTup (tCons (tVar 2) (tCons (tVar 3) (tNil)))) [3]) (tNil)))
def rd_l_weights (K : PySem.W.Frag) : TS := tSeq (tAsg (tLst (tNil)) (gName 1)) (tSeq (tFor (iRng2 (tCons (tC (.int 1)) (tCons (tC (.int 6)) (tNil)))) (gName 2) (rd_l_weights_L1 K)) (tRet (tVar 1)))
theorem pure_l_weights (K : PySem.W.Frag) (vs : List V) (H : Hp) (Q : VK) (E : XK) (h : sp_l_weights K vs H Q E) : rd_l_weights K { nx := fun _ H' => Q .non H', rt := Q } (start ["_law_k", "_law_found", "_law_a", "_law_c"] vs) H := by
  obtain ⟨k, rfl, h2, h4, q⟩ := h
  unfold rd_l_weights
  walk_at "rd"
  refine ⟨by decide, fun l hl => ?_⟩
  walk_at "rd"
  · refine for_range (lo := 1) (n := 5) (fun i σ H' => Ext H H' ∧ (∃ ts, H' l = some (.lst ts) ∧ Prs H' ts (wAll k i)) ∧ ∃ u v, σ = [some (.int k), some (.ref l), u, v]) ⟨Ext.new hl, ⟨[], upd_same, True.intro⟩, _, _, rfl⟩ ?_ ?_
    · rintro i σ H' hi ⟨e, ⟨ts, hts, hp⟩, u, v, rfl⟩
      have hlen := hp.len
      have hwl := wAll_len k i
      walk_at "re"
      unfold rd_l_weights_L1
      walk_at "rd"
      refine ⟨.inl ⟨rfl, _, SqL.of hts⟩, ?_⟩
      walk_at "rd"
      refine ⟨by decide, fun c hc => ?_⟩
      have eC : Ext H' (upd H' c (.tup [.int 1, .int 2, .int 3])) := Ext.new hc
      have hC : (upd H' c (.tup [.int 1, .int 2, .int 3])) c = some (.tup [.int 1, .int 2, .int 3]) := upd_same
      generalize upd H' c (.tup [.int 1, .int 2, .int 3]) = H1 at *
      refine i_tup' [.int 1, .int 2, .int 3] ?_ (SqT.of hC)
      intro D hD
      refine lc_tup (xs := [.int 1, .int 2, .int 3]) (fun j H2 => Ext H1 H2 ∧ ∃ as, H2 D = some (.lst as) ∧ Prs H2 as (wRow k (1 + (i : Int)) ([(1 : Int), 2, 3].take j))) ⟨Ext.new hD, [], upd_same, True.intro⟩ (fun j H2 _ p => SqT.of (p.1 _ _ hC)) ?_ ?_
      · rintro j x H2 hx ⟨e2, as, has, hpr⟩
        have hal : as.length ≤ 3 := by
          rw [hpr.len]
          exact Nat.le_trans (wRow_len _ _ _) (by rw [List.length_take]; exact Nat.min_le_right _ _)
        obtain ⟨c0, hc0, rfl, hb⟩ : ∃ c0 : Int, [(1 : Int), 2, 3].take (j + 1) = [(1 : Int), 2, 3].take j ++ [c0] ∧ x = .int c0 ∧ 1 ≤ c0 ∧ c0 ≤ 3 := by
          match j, hx with
          | 0, hx => exact ⟨1, rfl, (Option.some.inj hx).symm, by decide, by decide⟩
          | 1, hx => exact ⟨2, rfl, (Option.some.inj hx).symm, by decide, by decide⟩
          | 2, hx => exact ⟨3, rfl, (Option.some.inj hx).symm, by decide, by decide⟩
          | (n + 3), hx => simp at hx
        have fin : ∀ b : Bool, okW k (1 + (i : Int)) c0 = b → (if b = true then tTup (tCons (tVar 2) (tCons (tVar 3) tNil)) [some (.int k), some (.ref l), some (.int (1 + (i : Int))), some (.int c0)] H2 fun y H4 => ∃ acc, H4 D = some (.lst acc) ∧ acc.length < sizeLine ∧ (Ext H1 (L2.upd H4 D (.lst (acc ++ [y]))) ∧ ∃ as, (L2.upd H4 D (.lst (acc ++ [y]))) D = some (.lst as) ∧ Prs (L2.upd H4 D (.lst (acc ++ [y]))) as (wRow k (1 + (i : Int)) ([(1 : Int), 2, 3].take (j + 1)))) else (Ext H1 H2 ∧ ∃ as, H2 D = some (.lst as) ∧ Prs H2 as (wRow k (1 + (i : Int)) ([(1 : Int), 2, 3].take (j + 1))))) := by
          intro b hb'
          rw [hc0, wRow_snoc, hb']
          cases b with
          | true =>
            rw [if_pos rfl, if_pos rfl]
            walk_at "rd"
            refine ⟨by show 2 ≤ sizeLine; decide, fun t ht => ⟨as, (Ext.new ht) _ _ has, Nat.lt_of_le_of_lt hal (by decide), (e2.tr (Ext.new ht)).upds hD, _, upd_same, ?_⟩⟩
            refine Prs.upd ((Ext.new ht) _ _ has) (Prs.app (hpr.ext (Ext.new ht)) ⟨⟨t, rfl, upd_same⟩, True.intro⟩)
          | false =>
            rw [if_neg (by decide), if_neg (by decide)]
            exact ⟨e2, as, has, hpr⟩
        walk_at "re"
        refine ⟨rfl, ?_⟩
        walk_at "re"
        · refine e_ite (fun h1 => ?_) (fun h1 => ?_)
          · walk_at "re"
            exact fin _ (by unfold okW; rw [decide_eq_true h1, Bool.true_and])
          · exact fin false (by unfold okW; rw [decide_eq_false h1, Bool.false_and])
        · exact wide_mul (a := 10) (b := 10) (by omega) (by omega) (by decide) (by decide) (by decide)
      · rintro H2 ⟨e2, as, has, hpr⟩
        have el : H2 l = some (.lst ts) := e2 _ _ (eC _ _ hts)
        have hne : D ≠ l := ((ne_of_none (eC _ _ hts) hD)).symm
        refine ⟨l, D, ts, as, rfl, rfl, el, has, ?_, ?_⟩
        · have hpr' : Prs H2 as (wRow k (1 + (i : Int)) [1, 2, 3]) := hpr
          have := hpr'.len
          have := wRow_len k (1 + (i : Int)) [1, 2, 3]
          simp only [List.length_cons, List.length_nil] at *
          exact Nat.le_trans (show ts.length + as.length ≤ 100 by omega) (by decide)
        · walk_at "rd"
          refine ⟨((e.tr eC).tr e2).upds hl, ⟨_, upd_same, ?_⟩, _, _, rfl⟩
          exact Prs.upd el (Prs.app ((hp.ext eC).ext e2) hpr)
    · rintro σ H' ⟨e, ⟨ts, hts, hp⟩, u, v, rfl⟩
      walk_at "rd"
      exact q _ _ _ hl e hts hp
  · decide
theorem weights_ok {k : Int} (h2 : 2 ≤ k) (h4 : k ≤ 4) : ∀ w ∈ weightsL k, 1 ≤ w.2 ∧ w.2 ≤ 3 ∧ w.2 * (k - 1) ≤ w.1 ∧ w.1 + w.2 ≤ 6 ∧ 1 ≤ w.1 ∧ w.1 ≤ 5 := by
  have : k = 2 ∨ k = 3 ∨ k = 4 := by omega
  rcases this with rfl | rfl | rfl <;> decide
theorem weights_ne {k : Int} (h2 : 2 ≤ k) (h4 : k ≤ 4) : weightsL k ≠ [] ∧ (weightsL k).length ≤ 15 := by
  have : k = 2 ∨ k = 3 ∨ k = 4 := by omega
  rcases this with rfl | rfl | rfl <;> decide
end FWL
namespace FWL
open PySem PySem.Spec PyProof.Rows L2 FW
/-! ### a loop's parts -/
structure Lp where
  k : Int
  a : Int
  c : Int
  d : Int
  stop : Str
  told : Str
  mend : Str
structure Lp.Ok (l : Lp) : Prop where
  hk : l.k = 2 ∨ l.k = 3 ∨ l.k = 4
  a1 : 1 ≤ l.a
  a5 : l.a ≤ 5
  c1 : 1 ≤ l.c
  c3 : l.c ≤ 3
  ca : l.c * (l.k - 1) ≤ l.a
  ac : l.a + l.c ≤ 6
  d0 : -l.a ≤ l.d
  d1 : l.d ≤ l.a + l.c
  hs : V.str l.stop ∈ stopsV
  ht : V.str l.told ∈ toldsV
  hl : V.str l.stop ∈ looksV → l.told = "old"
  hm : V.str l.mend ∈ mendsV
abbrev Lp.V (l : Lp) : List V := [.int l.k, .int l.a, .int l.c, .int l.d, .str l.stop, .str l.told, .str l.mend]
abbrev Lp.F (l : Lp) : List (Str × L2.V) := [("k", .int l.k), ("a", .int l.a), ("c", .int l.c), ("d", .int l.d), ("stop", .str l.stop), ("told", .str l.told), ("mend", .str l.mend)]
theorem eqV_str (a b : Str) : eqV (.str a) (.str b) = decide (a = b) := by
  show (a == b) = decide (a = b)
  by_cases h : a = b
  · subst h; simp
  · rw [decide_eq_false h]; exact beq_eq_false_iff_ne.mpr h
theorem inV_str (s : Str) : ∀ {xs : List V}, (∀ v ∈ xs, ∃ x, v = V.str x) → inV (.str s) xs = decide (V.str s ∈ xs)
  | [], _ => rfl
  | v :: vs, h => by
    obtain ⟨x, rfl⟩ := h v List.mem_cons_self
    have ih := inV_str s fun v hv => h v (List.mem_cons_of_mem _ hv)
    show (eqV (.str x) (.str s) || inV (.str s) vs) = _
    rw [ih, eqV_str]
    by_cases e : x = s
    · subst e; simp
    · have e' : ¬ s = x := fun z => e z.symm
      simp [e, e']
theorem strs_stops : ∀ v ∈ stopsV, ∃ x, v = V.str x := by
  intro v h
  simp only [stopsV, List.mem_cons, List.not_mem_nil, or_false] at h
  rcases h with rfl | rfl | rfl | rfl | rfl | rfl | rfl <;> exact ⟨_, rfl⟩
theorem strs_tolds : ∀ v ∈ toldsV, ∃ x, v = V.str x := by
  intro v h
  simp only [toldsV, List.mem_cons, List.not_mem_nil, or_false] at h
  rcases h with rfl | rfl | rfl | rfl <;> exact ⟨_, rfl⟩
theorem strs_mends : ∀ v ∈ mendsV, ∃ x, v = V.str x := by
  intro v h
  simp only [mendsV, List.mem_cons, List.not_mem_nil, or_false] at h
  rcases h with rfl | rfl | rfl | rfl <;> exact ⟨_, rfl⟩
theorem strs_looks : ∀ v ∈ looksV, ∃ x, v = V.str x := by
  intro v h
  simp only [looksV, List.mem_cons, List.not_mem_nil, or_false] at h
  rcases h with rfl | rfl <;> exact ⟨_, rfl⟩
theorem Lp.Ok.right {l : Lp} (o : l.Ok) : wrongP (.int l.k) (.int l.a) (.int l.c) (.int l.d) (.str l.stop) (.str l.told) (.str l.mend) = .non := by
  have h1 : inV (.int l.k) [.int 2, .int 3, .int 4] = true := by
    rcases o.hk with e | e | e <;> rw [e] <;> decide
  have h2 : wordOf (.str l.stop) stopsV = true := by
    show (true && inV (.str l.stop) stopsV) = true
    rw [Bool.true_and, inV_str _ strs_stops]; exact decide_eq_true o.hs
  have h3 : wordOf (.str l.told) toldsV = true := by
    show (true && inV (.str l.told) toldsV) = true
    rw [Bool.true_and, inV_str _ strs_tolds]; exact decide_eq_true o.ht
  have h4 : wordOf (.str l.mend) mendsV = true := by
    show (true && inV (.str l.mend) mendsV) = true
    rw [Bool.true_and, inV_str _ strs_mends]; exact decide_eq_true o.hm
  have h5 : (inV (.str l.stop) looksV && !decide (V.str l.told = .str "old")) = false := by
    rw [inV_str _ strs_looks]
    by_cases h : V.str l.stop ∈ looksV
    · rw [o.hl h]; simp
    · simp [h]
  have a1 := o.a1; have a5 := o.a5; have c1 := o.c1; have ca := o.ca; have ac := o.ac; have d0 := o.d0; have d1 := o.d1
  have e3 : ((decide (l.a < l.c * (l.k - 1)) || decide (6 < l.a + l.c))) = false := by
    rw [decide_eq_false (by omega), decide_eq_false (by omega)]; rfl
  have e1 : (decide (1 ≤ l.a) && decide (l.a ≤ 5)) = true := by rw [decide_eq_true a1, decide_eq_true a5]; rfl
  have e2 : (decide (-l.a ≤ l.d) && decide (l.d ≤ l.a + l.c)) = true := by rw [decide_eq_true d0, decide_eq_true d1]; rfl
  have e4 : fromI (.int l.c) 1 = true := by show (true && decide (1 ≤ l.c)) = true; rw [decide_eq_true c1]; rfl
  unfold wrongP
  rw [if_neg (by rw [h1]; show ¬ ((!true || !true) = true); decide), if_neg (by show ¬ ((!true || !(decide (1 ≤ l.a) && decide (l.a ≤ 5))) = true); rw [e1]; decide),
    if_neg (by show ¬ ((!fromI (.int l.c) 1 || (decide (l.a < l.c * (l.k - 1)) || decide (6 < l.a + l.c))) = true); rw [e4, e3]; decide),
    if_neg (by show ¬ ((!true || !(decide (-l.a ≤ l.d) && decide (l.d ≤ l.a + l.c))) = true); rw [e2]; decide),
    if_neg (by rw [h2]; decide), if_neg (by rw [h3, h5]; decide), if_pos h4]
/-- a loop as an object -/
def IsLp (K : PySem.W.Frag) (H : Hp) (x : Addr) (l : Lp) : Prop := ∃ dx, H x = some (.ins (He.ga K "Average") dx l.F)
theorem IsLp.ext {K : PySem.W.Frag} {H H' : Hp} {x : Addr} {l : Lp} (e : Ext H H') : IsLp K H x l → IsLp K H' x l
  | ⟨dx, h⟩ => ⟨dx, e _ _ h⟩
def sp_Average_init (K : PySem.W.Frag) : Sp := fun vs H Q _ => ∃ (x dx : Addr) (l : Lp), vs = .ref x :: l.V ∧ l.Ok ∧ H x = some (.ins (He.ga K "Average") dx []) ∧
  ∀ H', ExtB x H H' → H' x = some (.ins (He.ga K "Average") dx l.F) → Q .non H'
def rd_Average_init (K : PySem.W.Frag) : TS := tSeq (tAsg (tCall (sp_wrong_part K) [] E0 (tCons (tVar 1) (tCons (tVar 2) (tCons (tVar 3) (tCons (tVar 4) (tCons (tVar 5) (tCons (tVar 6) (tCons (tVar 7) (tNil))))))))) (gName 8)) (tSeq (tIfS (tTest (tOp FW.rNotN (tVar 8) (tC .non))) (tNever) (tNext)) (tSeq (sFld K (tVar 0) (tVar 1) "k") (tSeq (sFld K (tVar 0) (tVar 2) "a") (tSeq (sFld K (tVar 0) (tVar 3) "c") (tSeq (sFld K (tVar 0) (tVar 4) "d") (tSeq (sFld K (tVar 0) (tVar 5) "stop") (tSeq (sFld K (tVar 0) (tVar 6) "told") (sFld K (tVar 0) (tVar 7) "mend"))))))))
theorem e_sF {K : PySem.W.Frag} {H : Hp} {a C dx : Addr} {f : Str} {fs : List (Str × V)} {R : Hp → Prop} {y : V} (k : R (upd H a (.ins C dx (putF f y fs)))) (h : H a = some (.ins C dx fs)) (c : Cls K C) (n : NoAttr K C f) (hl : fs.length < 1000) :
    ∃ a' C dx fs, V.ref a = .ref a' ∧ H a' = some (.ins C dx fs) ∧ Cls K C ∧ NoAttr K C f ∧ fs.length < 1000 ∧ R (upd H a' (.ins C dx (putF f y fs))) := ⟨a, C, dx, fs, rfl, h, c, n, hl, k⟩
theorem pure_Average_init (K : PySem.W.Frag) (A : AvK K) (vs : List V) (H : Hp) (Q : VK) (E : XK) (h : sp_Average_init K vs H Q E) : rd_Average_init K { nx := fun _ H' => Q .non H', rt := Q } (start ["self", "k", "a", "c", "d", "stop", "told", "mend", "wrong"] vs) H := by
  obtain ⟨x, dx, l, rfl, o, hx, q⟩ := h
  unfold rd_Average_init
  walk_at "rd"
  refine ⟨_, _, _, _, _, _, _, rfl, ?_, ?_, fun H1 e1 => ?_⟩
  · intro v hv
    simp only [List.mem_cons, List.not_mem_nil, or_false] at hv
    rcases hv with rfl | rfl | rfl | rfl | rfl | rfl | rfl
    · exact ⟨_, WT.i _⟩
    · exact ⟨_, WT.i _⟩
    · exact ⟨_, WT.i _⟩
    · exact ⟨_, WT.i _⟩
    · exact ⟨_, WT.s _⟩
    · exact ⟨_, WT.s _⟩
    · exact ⟨_, WT.s _⟩
  · have := o.c1; have := o.c3
    exact Nat.lt_of_lt_of_le (show (iv (.int l.c)).natAbs < 2 ^ 3 by show l.c.natAbs < 8; omega) (Nat.pow_le_pow_right (by decide) (by decide))
  · rw [o.right]
    walk_at "rd"
    refine e_iteN (fun h => absurd rfl h) (fun _ => ?_)
    walk_at "rd"
    refine e_sF ?_ (e1 _ _ hx) A.cls A.n_k (by decide)
    walk_at "rd"
    refine e_sF ?_ upd_same A.cls A.n_a (by show 1 < 1000; decide)
    walk_at "rd"
    refine e_sF ?_ upd_same A.cls A.n_c (by show 2 < 1000; decide)
    walk_at "rd"
    refine e_sF ?_ upd_same A.cls A.n_d (by show 3 < 1000; decide)
    walk_at "rd"
    refine e_sF ?_ upd_same A.cls A.n_stop (by show 4 < 1000; decide)
    walk_at "rd"
    refine e_sF ?_ upd_same A.cls A.n_told (by show 5 < 1000; decide)
    walk_at "rd"
    refine e_sF ?_ upd_same A.cls A.n_mend (by show 6 < 1000; decide)
    refine q _ ?_ upd_same
    intro a o' ne h
    rw [upd_ne ne, upd_ne ne, upd_ne ne, upd_ne ne, upd_ne ne, upd_ne ne, upd_ne ne]
    exact e1 _ _ h
/-! ### led, step -/
/-- the guess to which the step leads -/
def Lp.led (l : Lp) (n x : Int) : Int := (l.a * x + l.c * (n / x ^ (l.k - 1).toNat) + l.d) / (l.a + l.c)
theorem pow_pos' {x : Int} (h : 1 ≤ x) : ∀ n : Nat, 1 ≤ x ^ n
  | 0 => by rw [Int.pow_zero]; omega
  | n + 1 => by
    have ih := pow_pos' h n
    rw [Int.pow_succ]
    have : 1 * 1 ≤ x ^ n * x := Int.mul_le_mul ih h (by decide) (by omega)
    simpa using this
/-! ### parts drawn -/
theorem Strm.neT {H : Hp} {p t : Addr} {n : Nat} {xs : List V} (h : Strm H p n) (ht : H t = some (.tup xs)) : t ≠ p := by
  obtain ⟨a, b, c, h1, _⟩ := h
  exact ne_of ht h1 (by intro z; cases z)
theorem ExtB.non {p t : Addr} {H H' : Hp} {n : Nat} (e : ExtB p H H') (s : Strm H' p n) (h : H' t = none) : H t = none := by
  cases q : H t with
  | none => rfl
  | some o => rw [e t o (s.ne h) q] at h; cases h
def sp_l_parts (K : PySem.W.Frag) : Sp := fun vs H Q _ => ∃ (p : Addr) (n : Nat), vs = [.ref p] ∧ Strm H p n ∧ n + 10 < 1000000 ∧
  ∀ t l H', l.Ok → H t = none → ExtB p H H' → Strm H' p (n + 7) → H' t = some (.tup (Lp.V l)) → Q (.ref t) H'
def rd_l_parts (K : PySem.W.Frag) : TS := tSeq (tAsg (tOp FW.rAdd (tC (.int 2)) (tCall (sp_l_draw K) [] E0 (tCons (tVar 0) (tCons (tC (.int 3)) (tNil))))) (gName 1)) (tSeq (tAsg (tCall (sp_l_pick K) [] E0 (tCons (tVar 0) (tCons (tCall (sp_l_weights K) [] E0 (tCons (tVar 1) (tNil))) (tNil)))) (gTup K 2 (gCons (gName 2) (gCons (gName 3) (gNil))))) (tSeq (tAsg (tCall (sp_l_pick K) [] E0 (tCons (tVar 0) (tCons (tLst (tCons (tC (.int 0)) (tCons (tC (.int 0)) (tCons (tC (.int 1)) (tCons (tOp FW.rSub (tVar 3) (tC (.int 1))) (tCons (tVar 3) (tCons (tUn FW.rNeg (tC (.int 1))) (tCons (tOp FW.rSub (tCall (sp_l_draw K) [] E0 (tCons (tVar 0) (tCons (tOp FW.rAdd (tOp FW.rAdd (tOp FW.rMul (tC (.int 2)) (tVar 2)) (tVar 3)) (tC (.int 1))) (tNil)))) (tVar 2)) (tNil))))))))) (tNil)))) (gName 4)) (tSeq (tAsg (tCall (sp_l_pick K) [] E0 (tCons (tVar 0) (tCons (tLst (tCons (tC (.str "notless")) (tCons (tC (.str "equal")) (tCons (tC (.str "near1")) (tCons (tC (.str "near2")) (tCons (tC (.str "back")) (tCons (tC (.str "under")) (tCons (tC (.str "held")) (tNil))))))))) (tNil)))) (gName 5)) (tSeq (tAsg (tCall (sp_l_pick K) [] E0 (tCons (tVar 0) (tCons (tLst (tCons (tC (.str "old")) (tCons (tC (.str "new")) (tCons (tC (.str "less")) (tCons (tC (.str "more")) (tNil)))))) (tNil)))) (gName 6)) (tSeq (tAsg (tCall (sp_l_pick K) [] E0 (tCons (tVar 0) (tCons (tLst (tCons (tC (.str "none")) (tCons (tC (.str "none")) (tCons (tC (.str "down")) (tCons (tC (.str "up")) (tCons (tC (.str "both")) (tNil))))))) (tNil)))) (gName 7)) (tRet (tTup (tCons (tVar 1) (tCons (tVar 2) (tCons (tVar 3) (tCons (tVar 4) (tCons (tVar 5) (tCons (tIf (tTest (tOp (rIn K false) (tVar 5) (tTup (tCons (tC (.str "under")) (tCons (tC (.str "held")) (tNil)))))) (tC (.str "old")) (tVar 6)) (tCons (tVar 7) (tNil)))))))))))))))
theorem pure_l_parts (K : PySem.W.Frag) (vs : List V) (H : Hp) (Q : VK) (E : XK) (h : sp_l_parts K vs H Q E) : rd_l_parts K { nx := fun _ H' => Q .non H', rt := Q } (start ["_law_stream_here", "_law_k", "_law_a", "_law_c", "_law_d", "_law_stop", "_law_told", "_law_mend"] vs) H := by
  obtain ⟨p, n, rfl, hS, hn, q⟩ := h
  unfold rd_l_parts
  walk_at "rd"
  refine ⟨p, 3, n, rfl, hS, by omega, by decide, by decide, fun d H1 d0 d1 e1 s1 => ?_⟩
  walk_at "rd"
  refine ⟨2 + d, rfl, by omega, by omega, fun l ts H2 hl e2 hts hpr => ?_⟩
  obtain ⟨w1, w2⟩ := weights_ne (k := 2 + d) (by omega) (by omega)
  have hlen := hpr.len
  walk_at "rd"
  refine ⟨p, l, ts, n + 1, rfl, s1.ext e2, by omega, s1.ne hl, hts, ?_, by omega, fun v H3 hv e3 s3 => ?_⟩
  · intro z; rw [z] at hlen; exact w1 (List.length_eq_zero_iff.mp hlen.symm)
  obtain ⟨⟨a, c⟩, hw, t, rfl, ht⟩ := hpr.mem hv
  obtain ⟨c1, c3, ca, ac, a1, a5⟩ := weights_ok (k := 2 + d) (by omega) (by omega) _ hw
  dsimp only at c1 c3 ca ac a1 a5 ht
  refine g_tup ?_ (SqT.of (e3 _ _ ((s1.ext e2).neT ht) ht)) rfl
  walk_at "rd"
  · refine ⟨p, 2 * a + c + 1, n + 2, rfl, s3, by omega, by omega, log2_small (by omega), fun d' H4 d0' d1' e4 s4 => ?_⟩
    walk_at "rd"
    refine ⟨by show 7 ≤ sizeLine; decide, fun ql hq => ?_⟩
    walk_at "rd"
    refine ⟨p, ql, _, n + 3, rfl, s4.ext (Ext.new hq), by omega, s4.ne hq, upd_same, by simp, by show 7 < 1000; decide, fun v H5 hv5 e5 s5 => ?_⟩
    obtain ⟨dd, rfl, dd0, dd1⟩ : ∃ dd : Int, v = .int dd ∧ -a ≤ dd ∧ dd ≤ a + c := by
      simp only [List.mem_cons, List.not_mem_nil, or_false] at hv5
      rcases hv5 with rfl | rfl | rfl | rfl | rfl | rfl | rfl
      · exact ⟨_, rfl, by omega, by omega⟩
      · exact ⟨_, rfl, by omega, by omega⟩
      · exact ⟨_, rfl, by omega, by omega⟩
      · exact ⟨_, rfl, by omega, by omega⟩
      · exact ⟨_, rfl, by omega, by omega⟩
      · exact ⟨_, rfl, by omega, by omega⟩
      · exact ⟨_, rfl, by omega, by omega⟩
    walk_at "rd"
    refine ⟨by show 7 ≤ sizeLine; decide, fun q6 hq6 => ?_⟩
    walk_at "rd"
    refine ⟨p, q6, stopsV, n + 4, rfl, s5.ext (Ext.new hq6), by omega, s5.ne hq6, upd_same, by simp [stopsV], by show 7 < 1000; decide, fun v H7 hv7 e7 s7 => ?_⟩
    obtain ⟨ws, rfl⟩ := strs_stops v hv7
    walk_at "rd"
    refine ⟨by show 4 ≤ sizeLine; decide, fun q8 hq8 => ?_⟩
    walk_at "rd"
    refine ⟨p, q8, toldsV, n + 5, rfl, s7.ext (Ext.new hq8), by omega, s7.ne hq8, upd_same, by simp [toldsV], by show 4 < 1000; decide, fun v H9 hv9 e9 s9 => ?_⟩
    obtain ⟨wt, rfl⟩ := strs_tolds v hv9
    walk_at "rd"
    refine ⟨by show 5 ≤ sizeLine; decide, fun q10 hq10 => ?_⟩
    walk_at "rd"
    refine ⟨p, q10, _, n + 6, rfl, s9.ext (Ext.new hq10), by omega, s9.ne hq10, upd_same, by simp, by show 5 < 1000; decide, fun v H11 hv11 e11 s11 => ?_⟩
    obtain ⟨wm, rfl, hwm⟩ : ∃ x, v = .str x ∧ V.str x ∈ mendsV := by
      simp only [List.mem_cons, List.not_mem_nil, or_false] at hv11
      rcases hv11 with rfl | rfl | rfl | rfl | rfl <;> exact ⟨_, rfl, by simp [mendsV]⟩
    walk_at "rd"
    refine ⟨by show 2 ≤ sizeLine; decide, fun q12 hq12 => ?_⟩
    have eB : ExtB p H H11 := e1.tr ((ExtB.of e2).tr (e3.tr (e4.tr ((ExtB.of (Ext.new hq)).tr (e5.tr ((ExtB.of (Ext.new hq6)).tr (e7.tr ((ExtB.of (Ext.new hq8)).tr (e9.tr ((ExtB.of (Ext.new hq10)).tr e11))))))))))
    refine e_in ?_ (.inr (SqT.of upd_same)) rfl rfl
    rw [if_neg (by decide)]
    have fin : ∀ tt : Str, V.str tt ∈ toldsV → (V.str ws ∈ looksV → tt = "old") → ∀ r, (upd H11 q12 (.tup [.str "under", .str "held"])) r = none → Q (.ref r) (upd (upd H11 q12 (.tup [.str "under", .str "held"])) r (.tup [.int (2 + d), .int a, .int c, .int dd, .str ws, .str tt, .str wm])) := by
      intro tt htt hlk r hr
      have s12 : Strm (upd H11 q12 (.tup [.str "under", .str "held"])) p (n + 7) := s11.ext (Ext.new hq12)
      have eB12 : ExtB p H (upd H11 q12 (.tup [.str "under", .str "held"])) := eB.tr (ExtB.of (Ext.new hq12))
      exact q r ⟨2 + d, a, c, dd, ws, tt, wm⟩ _ ⟨by show 2 + d = 2 ∨ 2 + d = 3 ∨ 2 + d = 4; omega, a1, a5, c1, c3, ca, ac, dd0, dd1, hv7, htt, hlk, hwm⟩ (FWL.ExtB.non eB12 s12 hr) (eB12.tr (ExtB.of (Ext.new hr))) (s12.ext (Ext.new hr)) upd_same
    walk_at "rd"
    refine e_iteB (fun hb => ?_) (fun hb => ?_)
    · walk_at "rd"
      exact ⟨by show 7 ≤ sizeLine; decide, fin "old" (by simp [toldsV]) (fun _ => rfl)⟩
    · walk_at "rd"
      refine ⟨by show 7 ≤ sizeLine; decide, fin wt hv9 (fun hx => ?_)⟩
      have e := inV_str ws strs_looks
      rw [decide_eq_true hx] at e
      rw [show inV (V.str ws) [V.str "under", V.str "held"] = inV (V.str ws) looksV from rfl, e] at hb
      cases hb
  · exact wide_mul (a := 10) (b := 10) (by decide) (by omega) (by decide) (by decide) (by decide)
end FWL
namespace FWL
open PySem PySem.Spec PyProof.Rows L2 FW
/-! ### polynomials: their values -/
def pvl : List Int → Int → Int
  | [], _ => 0
  | c :: cs, r => c + r * pvl cs r
theorem pv_append (xs ys : List Int) (r : Int) : pvl (xs ++ ys) r = pvl xs r + r ^ xs.length * pvl ys r := by
  induction xs with
  | nil => simp [pvl]
  | cons x xs ih => simp only [List.cons_append, pvl, ih, List.length_cons]; grind
theorem pv_zeros {xs : List Int} (h : ∀ c ∈ xs, c = 0) (r : Int) : pvl xs r = 0 := by
  induction xs with
  | nil => rfl
  | cons x xs ih => rw [pvl, ih fun c hc => h c (List.mem_cons_of_mem _ hc), h x List.mem_cons_self]; simp
theorem pv_zip : ∀ (xs ys : List Int), xs.length = ys.length → ∀ r, pvl (List.zipWith (· + ·) xs ys) r = pvl xs r + pvl ys r
  | [], [], _, r => by simp [pvl]
  | x :: xs, y :: ys, h, r => by
    have ih := pv_zip xs ys (by simpa using h) r
    simp only [List.zipWith_cons_cons, pvl, ih]; grind
  | [], _ :: _, h, _ => by simp at h
  | _ :: _, [], h, _ => by simp at h
theorem pv_set : ∀ (xs : List Int) (k : Nat) (c d r : Int), xs[k]? = some c → pvl (xs.set k (c + d)) r = pvl xs r + d * r ^ k
  | x :: xs, 0, c, d, r, h => by
    simp only [List.getElem?_cons_zero, Option.some.injEq] at h
    subst h
    simp only [List.set_cons_zero, pvl]; grind
  | x :: xs, k + 1, c, d, r, h => by
    have ih := pv_set xs k c d r (by simpa using h)
    simp only [List.set_cons_succ, pvl, ih, Int.pow_succ]; grind
  | [], k, c, d, r, h => by simp at h
/-! trimmed -/
def sp_trimmedL (K : PySem.W.Frag) : Sp := fun vs H Q _ => ∃ (a : Addr) (ns : List Int), vs = [.ref a] ∧ SqL K H a (ns.map V.int) ∧
  ∀ t cs H', H t = none → Ext H H' → H' t = some (.tup (cs.map V.int)) → (∀ r, pvl cs r = pvl ns r) → cs.getLast? ≠ some 0 → (∀ c ∈ cs, c ∈ ns) → cs.length ≤ ns.length → Q (.ref t) H'
def rd_trimmed_L1 (K : PySem.W.Frag) : TS := tAug 1 (tC (.int 1)) FW.iSub
def sp_trimmedT (K : PySem.W.Frag) : Sp := fun vs H Q _ => ∃ (a : Addr) (ns : List Int), vs = [.ref a] ∧ SqT K H a (ns.map V.int) ∧
  ∀ t cs H', Ext H H' → SqT K H' t (cs.map V.int) → (∀ r, pvl cs r = pvl ns r) → cs.getLast? ≠ some 0 → (∀ c ∈ cs, c ∈ ns) → cs.length ≤ ns.length → Q (.ref t) H'
def sp_trimmed (K : PySem.W.Frag) : Sp := fun vs H Q E => sp_trimmedL K vs H Q E ∨ sp_trimmedT K vs H Q E
def rd_trimmed (K : PySem.W.Frag) : TS := tSeq (tAsg (tCB (Evl.rLenS K) (tCons (tVar 0) (tNil))) (gName 1)) (tSeq (tWhile (tAnd (tTest (tOp FW.rGt (tVar 1) (tC (.int 0)))) (tTest (tOp rEq (tOp (rIx K) (tVar 0) (tOp FW.rSub (tVar 1) (tC (.int 1)))) (tC (.int 0))))) (rd_trimmed_L1 K)) (tRet (tCB (FW.rTupS K) (tCons (FW.tEither (tSl (rSlL K) (tVar 0) (tNoPart) (tPart (tVar 1))) (tSl (rSlA K) (tVar 0) (tNoPart) (tPart (tVar 1)))) (tNil)))))
theorem cut_take (ns : List Int) (m : Nat) : cutV (ns.map V.int) none (some (m : Int)) = (ns.take m).map V.int := by
  unfold cutV
  rw [HT.sIx_none, HT.sIx_nat]
  rw [List.drop_zero, List.length_map, Nat.sub_zero, List.map_take]
  rcases Nat.le_total m ns.length with h | h
  · rw [Nat.min_eq_left h]
  · rw [Nat.min_eq_right h, List.take_of_length_le (by simp), List.take_of_length_le (by simpa using h)]
theorem at_int {ns : List Int} {k : Nat} (h : k < ns.length) : atI (ns.map V.int) (k : Int) = some (.int ns[k]) := atI_nat (by simp [h])
theorem e_ixA {K : PySem.W.Frag} {H : Hp} {Q : VK} {a : Addr} {xs : List V} {i : Int} {v : V} (k : Q v H) (h : SqL K H a xs ∨ SqT K H a xs) (ha : atI xs i = some v) : rIx K (.ref a) (.int i) H Q :=
  h.elim (fun h => .inl (e_ixL k h ha)) fun h => .inr (.inl (e_ixT k h ha))
theorem trimmed_gen {K : PySem.W.Frag} {H : Hp} {Q : VK} {a : Addr} {ns : List Int} (hA : SqL K H a (ns.map V.int) ∨ SqT K H a (ns.map V.int))
    (fin0 : ∀ m : Nat, m ≤ ns.length → (∀ c ∈ ns.drop m, c = 0) → (ns.take m).getLast? ≠ some 0 → tRet (tCB (FW.rTupS K) (tCons (FW.tEither (tSl (rSlL K) (tVar 0) (tNoPart) (tPart (tVar 1))) (tSl (rSlA K) (tVar 0) (tNoPart) (tPart (tVar 1)))) (tNil))) { nx := fun _ H' => Q .non H', rt := Q } [some (.ref a), some (.int (m : Int))] H) :
    rd_trimmed K { nx := fun _ H' => Q .non H', rt := Q } (start ["coefficients", "many"] [.ref a]) H := by
  unfold rd_trimmed
  walk_at "rd"
  refine e_len ?_ hA
  walk_at "rd"
  rw [List.length_map]
  refine s_while (fun m σ H' => H' = H ∧ m ≤ ns.length ∧ (∀ c ∈ ns.drop m, c = 0) ∧ σ = [some (.ref a), some (.int (m : Int))]) ns.length ⟨rfl, Nat.le_refl _, by simp, rfl⟩ ?_
  rintro m σ H' ⟨rfl, hm, hz, rfl⟩
  have fin := fin0 m hm hz
  walk_at "rd"
  refine e_ite (fun hpos => ?_) (fun hno => ?_)
  · obtain ⟨k, rfl⟩ : ∃ k, m = k + 1 := ⟨m - 1, by omega⟩
    have hk : k < ns.length := by omega
    walk_at "rd"
    rw [show (((k + 1 : Nat) : Int) - 1) = (k : Int) by omega]
    refine e_ixA ?_ hA (at_int hk)
    walk_at "rd"
    have hd : decide (V.int ns[k] = V.int 0) = decide (ns[k] = 0) := decide_eq_decide.mpr ⟨fun z => by injection z, fun z => by rw [z]⟩
    rw [hd]
    refine e_ite (fun h0 => ?_) (fun h0 => ?_)
    · refine ⟨fun σ' H'' => H'' = H' ∧ k ≤ ns.length ∧ (∀ c ∈ ns.drop k, c = 0) ∧ σ' = [some (.ref a), some (.int (k : Int))], fun σ' H'' h => ⟨k, by omega, h⟩, ?_⟩
      unfold rd_trimmed_L1
      walk_at "rd"
      refine ⟨rfl, by omega, ?_, by rw [show (((k + 1 : Nat) : Int) - 1) = (k : Int) by omega]; rfl⟩
      intro c hc
      rw [List.drop_eq_getElem_cons hk] at hc
      rcases List.mem_cons.mp hc with rfl | hc
      · exact h0
      · exact hz c hc
    · refine fin ?_
      rw [List.getLast?_eq_getElem?, List.length_take, Nat.min_eq_left hm, Nat.add_sub_cancel, List.getElem?_take]
      simp [hk]
      exact h0
  · have : m = 0 := by omega
    subst this
    exact fin (by simp)
theorem pure_trimmed (K : PySem.W.Frag) (vs : List V) (H : Hp) (Q : VK) (E : XK) (h : sp_trimmed K vs H Q E) : rd_trimmed K { nx := fun _ H' => Q .non H', rt := Q } (start ["coefficients", "many"] vs) H := by
  have pvt : ∀ {ns : List Int} {m : Nat}, (∀ c ∈ ns.drop m, c = 0) → ∀ r, pvl (ns.take m) r = pvl ns r := fun {ns m} hz r => by
    have := pv_append (ns.take m) (ns.drop m) r
    rw [List.take_append_drop, pv_zeros hz r] at this
    simp at this
    exact this.symm
  rcases h with ⟨a, ns, rfl, hA, q⟩ | ⟨a, ns, rfl, hA, q⟩
  · refine trimmed_gen (.inl hA) fun m hm hz hl => ?_
    walk_at "rd"
    refine .inl ?_
    refine e_sl ?_
    walk_at "rd"
    refine e_noP ?_
    refine e_part ?_
    walk_at "rd"
    refine e_part' ?_
    refine e_slL (fun p hp => ?_) hA
    rw [cut_take]
    walk_at "rd"
    refine e_tupL (fun t ht => ?_) (SqL.of upd_same)
    have e1 := Ext.new (o := .lst ((ns.take m).map V.int)) hp
    exact q t (ns.take m) _ (e1.non ht) (e1.tr (Ext.new ht)) upd_same (pvt hz) hl (fun c hc => List.mem_of_mem_take hc) (by rw [List.length_take]; omega)
  · refine trimmed_gen (.inr hA) fun m hm hz hl => ?_
    have fin : ∀ (p : Addr) (H' : Hp), Ext H H' → SqT K H' p ((ns.take m).map V.int) → tCB (FW.rTupS K) (tCons (tC (.ref p)) tNil) [] H' Q := fun p H' e h => by
      walk_at "rd"
      exact ⟨p, _, rfl, .inr ⟨h, q p (ns.take m) H' e h (pvt hz) hl (fun c hc => List.mem_of_mem_take hc) (by rw [List.length_take]; omega)⟩⟩
    walk_at "rd"
    refine .inr ?_
    refine e_sl ?_
    walk_at "rd"
    refine e_noP ?_
    refine e_part ?_
    walk_at "rd"
    refine e_part' ?_
    refine ⟨a, _, rfl, hA, fun z => ?_, fun z p hp => ?_⟩
    · walk_at "rd"
      refine fin a H Ext.rfl' ?_
      have z2 := z.2
      rw [HT.sIx_nat, List.length_map] at z2
      have hml : ns.length ≤ m := by omega
      rw [List.take_of_length_le hml]; exact hA
    · rw [cut_take]
      walk_at "rd"
      exact fin p _ (Ext.new hp) (SqT.of upd_same)
/-! the value of a polynomial -/
theorem pv_sz : ∀ (cs : List Int) (r : Int) (b : Nat), (∀ c ∈ cs, Sz b c) → Sz b r → Sz (cs.length * (b + 1)) (pvl cs r)
  | [], r, b, _, _ => by show Sz (0 * (b + 1)) 0; rw [Nat.zero_mul]; decide
  | c :: cs, r, b, h, hr => by
    have ih := pv_sz cs r b (fun c hc => h c (List.mem_cons_of_mem _ hc)) hr
    have hm := Sz.mul hr ih
    have hc := h c List.mem_cons_self
    have e : (c :: cs).length * (b + 1) = (b + cs.length * (b + 1)) + 1 := by rw [List.length_cons, Nat.add_mul]; omega
    rw [e, pvl]
    exact (hc.mono (by omega)).add hm
def sp_poly_value (K : PySem.W.Frag) : Sp := fun vs H Q _ => ∃ (a : Addr) (ns : List Int) (r : Int) (b : Nat), vs = [.ref a, .int r] ∧ SqA K H a (ns.map V.int) ∧ (∀ c ∈ ns, Sz b c) ∧ Sz b r ∧ (ns.length + 2) * (b + 1) ≤ 900000 ∧
  ∀ H', Ext H H' → Q (.int (pvl ns r)) H'
def rd_poly_value_L1 (K : PySem.W.Frag) : TS := tAsg (tOp FW.rAdd (tOp FW.rMul (tVar 2) (tVar 1)) (tVar 3)) (gName 2)
def rd_poly_value (K : PySem.W.Frag) : TS := tSeq (tAsg (tC (.int 0)) (gName 2)) (tSeq (tFor (FW.iEither (iList K (FW.tEither (tRevL K (tVar 0)) (FW.tRevT K (tVar 0)))) (iTup K (FW.tEither (tRevL K (tVar 0)) (FW.tRevT K (tVar 0))))) (gName 3) (rd_poly_value_L1 K)) (tRet (tVar 2)))
theorem take_succ' {xs : List Int} {i : Nat} {x : Int} (h : xs[i]? = some x) : xs.take (i + 1) = xs.take i ++ [x] := by
  rw [List.take_add_one, h]; rfl
theorem rev_take {ns : List Int} {i : Nat} {x : Int} (h : ns.reverse[i]? = some x) : (ns.reverse.take (i + 1)).reverse = x :: (ns.reverse.take i).reverse := by
  rw [take_succ' h, List.reverse_append]; rfl
theorem rev_all {ns : List Int} {n : Nat} (h : n = ns.length) : (ns.reverse.take n).reverse = ns := by
  rw [h, List.take_of_length_le (by simp), List.reverse_reverse]
theorem int_at {ns : List Int} {i : Nat} {x : V} (h : (ns.map V.int).reverse[i]? = some x) : ∃ c, x = .int c ∧ ns.reverse[i]? = some c := by
  rw [← List.map_reverse, List.getElem?_map] at h
  cases e : ns.reverse[i]? with
  | none => rw [e] at h; cases h
  | some c => rw [e] at h; cases h; exact ⟨c, rfl, rfl⟩
theorem pure_poly_value (K : PySem.W.Frag) (vs : List V) (H : Hp) (Q : VK) (E : XK) (h : sp_poly_value K vs H Q E) : rd_poly_value K { nx := fun _ H' => Q .non H', rt := Q } (start ["poly", "r", "found", "coefficient"] vs) H := by
  obtain ⟨a, ns, r, b, rfl, hA, hc, hr, hsz, q⟩ := h
  unfold rd_poly_value
  walk_at "rd"
  have main : ∀ p o H1, H p = none → (o = HO.lst (ns.map V.int).reverse ∨ o = HO.tup (ns.map V.int).reverse) → H1 = upd H p o → ∃ Pv : Nat → L2.St → Hp → Prop, Pv 0 [some (.ref a), some (.int r), some (.int 0), none] H1 ∧ (∀ i σ H', Pv i σ H' → H' = H1) ∧
      (∀ i x σ H', (ns.map V.int).reverse[i]? = some x → Pv i σ H' → gName 3 x σ H' fun σ2 H2 => rd_poly_value_L1 K { nx := Pv (i + 1), ct := Pv (i + 1), bk := fun σ' H' => tRet (tVar 2) { nx := fun _ H' => Q .non H', rt := Q } σ' H', rt := Q } σ2 H2) ∧
      (∀ σ H', Pv (ns.map V.int).reverse.length σ H' → tRet (tVar 2) { nx := fun _ H' => Q .non H', rt := Q } σ H') := by
    intro p o H1 hp ho e1
    refine ⟨fun i σ H' => H' = H1 ∧ i ≤ ns.length ∧ ∃ v, σ = [some (.ref a), some (.int r), some (.int (pvl (ns.reverse.take i).reverse r)), v], ⟨rfl, Nat.zero_le _, none, rfl⟩, fun _ _ _ h => h.1, ?_, ?_⟩
    · rintro i x σ H' hx ⟨rfl, hi, v, rfl⟩
      obtain ⟨c, rfl, hci⟩ := int_at hx
      have hlt : i < ns.length := by
        have := (List.getElem?_eq_some_iff.mp hci).1
        simpa using this
      unfold rd_poly_value_L1
      walk_at "rd"
      · refine ⟨rfl, by omega, some (.int c), ?_⟩
        rw [rev_take hci, pvl]
        rw [show pvl (ns.reverse.take i).reverse r * r + c = c + r * pvl (ns.reverse.take i).reverse r by grind]
        rfl
      · have hs := pv_sz (ns.reverse.take i).reverse r b (fun c hc' => hc c (by
          have := List.mem_reverse.mp hc'
          exact List.mem_reverse.mp (List.mem_of_mem_take this))) hr
        have hlen : (ns.reverse.take i).reverse.length = i := by simp; omega
        rw [hlen] at hs
        have h1 : (i + 1) * (b + 1) ≤ (ns.length + 1) * (b + 1) := Nat.mul_le_mul_right _ (by omega)
        have h2 : (ns.length + 2) * (b + 1) = (ns.length + 1) * (b + 1) + (b + 1) := by rw [Nat.add_mul (ns.length + 1) 1, Nat.one_mul]
        have h3 : (i + 1) * (b + 1) = i * (b + 1) + (b + 1) := by rw [Nat.add_mul, Nat.one_mul]
        refine wide_mul (a := i * (b + 1) + 1) (b := b + 1) (hs.mono (by omega)) (hr.mono (by omega)) (by omega) (by omega) (by omega)
    · rintro σ H' ⟨rfl, _, v, rfl⟩
      walk_at "rd"
      rw [rev_all (by simp)]
      rw [e1]
      exact q _ (Ext.new hp)
  have hl0 : [some (V.ref a), some (V.int r), some (V.int 0), (none : Option V)][0]? = some (some (.ref a)) := rfl
  rcases hA with hA | hA
  · refine Or.inl (i_list (Or.inl ⟨_, hl0, a, _, rfl, hA, fun p hp => ?_⟩))
    obtain ⟨Pv, h0, hk, hs, hd⟩ := main p _ _ hp (.inl rfl) rfl
    refine i_list' _ ?_ (SqL.of upd_same)
    exact for_list (xs := (ns.map V.int).reverse) Pv h0 (fun i σ H' _ p => by rw [hk i σ H' p]; exact SqL.of upd_same) hs hd
  · refine Or.inr (i_tup (Or.inr ⟨_, hl0, a, _, rfl, hA, fun p hp => ?_⟩))
    obtain ⟨Pv, h0, hk, hs, hd⟩ := main p _ _ hp (.inr rfl) rfl
    refine i_tup' _ ?_ (SqT.of upd_same)
    exact for_tup (xs := (ns.map V.int).reverse) Pv h0 (fun i σ H' _ p => by rw [hk i σ H' p]; exact SqT.of upd_same) hs hd
end FWL
namespace FWL
open PySem PySem.Spec PyProof.Rows L2 FW
/-! ### sums -/
def pad (ns : List Int) (m : Nat) : List Int := ns ++ List.replicate (m - ns.length) 0
theorem pad_len {ns : List Int} {m : Nat} (h : ns.length ≤ m) : (pad ns m).length = m := by simp [pad]; omega
theorem pv_pad (ns : List Int) (m : Nat) (r : Int) : pvl (pad ns m) r = pvl ns r := by
  rw [pad, pv_append, pv_zeros (xs := List.replicate (m - ns.length) 0) (fun c hc => List.eq_of_mem_replicate hc)]; simp
def addL (ns ms : List Int) : List Int := List.zipWith (· + ·) (pad ns (max ns.length ms.length)) (pad ms (max ns.length ms.length))
theorem pv_addL (ns ms : List Int) (r : Int) : pvl (addL ns ms) r = pvl ns r + pvl ms r := by
  rw [addL, pv_zip _ _ (by rw [pad_len (by omega), pad_len (by omega)]), pv_pad, pv_pad]
theorem addL_len (ns ms : List Int) : (addL ns ms).length = max ns.length ms.length := by
  rw [addL, List.length_zipWith, pad_len (by omega), pad_len (by omega)]; omega
theorem addL_sz {ns ms : List Int} {b : Nat} (h1 : ∀ c ∈ ns, Sz b c) (h2 : ∀ c ∈ ms, Sz b c) : ∀ c ∈ addL ns ms, Sz (b + 1) c := by
  have hp : ∀ (xs : List Int) m, (∀ c ∈ xs, Sz b c) → ∀ c ∈ pad xs m, Sz b c := by
    intro xs m h c hc
    rcases List.mem_append.mp hc with hc | hc
    · exact h c hc
    · rw [List.eq_of_mem_replicate hc]; exact Nat.pow_pos (by decide)
  intro c hc
  obtain ⟨i, hi, rfl⟩ := List.getElem_of_mem hc
  simp only [addL, List.getElem_zipWith]
  exact (hp _ _ h1 _ (List.getElem_mem _)).add (hp _ _ h2 _ (List.getElem_mem _))
def sp_poly_sum (K : PySem.W.Frag) : Sp := fun vs H Q _ => ∃ (a b : Addr) (ns ms : List Int), vs = [.ref a, .ref b] ∧ SqA K H a (ns.map V.int) ∧ SqA K H b (ms.map V.int) ∧ ns.length ≤ 100 ∧ ms.length ≤ 100 ∧
  ∀ t cs H', H t = none → Ext H H' → H' t = some (.tup (cs.map V.int)) → (∀ r, pvl cs r = pvl ns r + pvl ms r) → cs.getLast? ≠ some 0 → (∀ c ∈ cs, c ∈ addL ns ms) → cs.length ≤ max ns.length ms.length → Q (.ref t) H'
def rd_poly_sum (K : PySem.W.Frag) : TS := tSeq (tAsg (tCB FW.rMax2 (tCons (tCB (Evl.rLenS K) (tCons (tVar 0) (tNil))) (tCons (tCB (Evl.rLenS K) (tCons (tVar 1) (tNil))) (tNil)))) (gName 2)) (tSeq (tAsg (tOp rCat (tCB (Evl.rListS K) (tCons (tVar 0) (tNil))) (tOp rRep (tLst (tCons (tC (.int 0)) (tNil))) (tOp FW.rSub (tVar 2) (tCB (Evl.rLenS K) (tCons (tVar 0) (tNil)))))) (gName 3)) (tSeq (tAsg (tOp rCat (tCB (Evl.rListS K) (tCons (tVar 1) (tNil))) (tOp rRep (tLst (tCons (tC (.int 0)) (tNil))) (tOp FW.rSub (tVar 2) (tCB (Evl.rLenS K) (tCons (tVar 1) (tNil)))))) (gName 4)) (tRet (tCall (sp_trimmed K) [] E0 (tCons (tLc (iZip K (tCons (tVar 3) (tCons (tVar 4) (tNil)))) (gTup K 2 (gCons (gName 5) (gCons (gName 6) (gNil)))) (tYes) (tOp FW.rAdd (tVar 5) (tVar 6)) [5, 6]) (tNil))))))
theorem map_pad (ns : List Int) (m : Nat) : (pad ns m).map V.int = ns.map V.int ++ List.replicate (m - ns.length) (V.int 0) := by simp [pad]
theorem map_at {xs : List Int} {i : Nat} {v : V} (h : (xs.map V.int)[i]? = some v) : ∃ c, v = .int c ∧ xs[i]? = some c := by
  rw [List.getElem?_map] at h
  cases e : xs[i]? with
  | none => rw [e] at h; cases h
  | some c => rw [e] at h; cases h; exact ⟨c, rfl, rfl⟩
theorem zip_take {xs ys : List Int} {i : Nat} {x y : Int} (h1 : xs[i]? = some x) (h2 : ys[i]? = some y) : (List.zipWith (· + ·) xs ys).take (i + 1) = (List.zipWith (· + ·) xs ys).take i ++ [x + y] := by
  refine take_succ' ?_
  rw [List.getElem?_zipWith, h1, h2]
theorem pure_poly_sum (K : PySem.W.Frag) (vs : List V) (H : Hp) (Q : VK) (E : XK) (h : sp_poly_sum K vs H Q E) : rd_poly_sum K { nx := fun _ H' => Q .non H', rt := Q } (start ["one", "other", "many", "first", "second", "x", "y"] vs) H := by
  obtain ⟨a, b, ns, ms, rfl, hA, hB, hn, hm, q⟩ := h
  unfold rd_poly_sum
  walk_at "rd"
  refine e_len ?_ hA
  walk_at "rd"
  refine e_len ?_ hB
  walk_at "rd"
  rw [List.length_map, List.length_map]
  have hmx : (if (ms.length : Int) > (ns.length : Int) then (ms.length : Int) else (ns.length : Int)) = ((max ns.length ms.length : Nat) : Int) := by
    split <;> omega
  rw [hmx]
  have hmx1 : max ns.length ms.length ≤ 100 := by omega
  have hmxn : ns.length ≤ max ns.length ms.length := by omega
  have hmxm : ms.length ≤ max ns.length ms.length := by omega
  have eaddL : addL ns ms = List.zipWith (· + ·) (pad ns (max ns.length ms.length)) (pad ms (max ns.length ms.length)) := rfl
  generalize max ns.length ms.length = mx at *
  refine e_listS (fun p1 h1 => ?_) hA
  walk_at "rd"
  refine ⟨by show 1 ≤ sizeLine; decide, fun p2 h2 => ?_⟩
  walk_at "rd"
  have e1 : Ext H (upd (upd H p1 (.lst (ns.map V.int))) p2 (.lst [V.int 0])) := (Ext.new h1).tr (Ext.new h2)
  refine e_len ?_ (hA.ext e1)
  walk_at "rd"
  rw [List.length_map]
  refine e_rep (fun p3 h3 => ?_) upd_same (by omega) (by omega)
  have g1 : (upd (upd (upd H p1 (.lst (ns.map V.int))) p2 (.lst [V.int 0])) p3 (.lst (List.replicate ((mx : Int) - (ns.length : Int)).toNat (V.int 0)))) p1 = some (.lst (ns.map V.int)) := (Ext.new h3) _ _ ((Ext.new h2) _ _ upd_same)
  refine e_cat (fun p4 h4 => ?_) g1 upd_same (by rw [List.length_map, List.length_replicate]; show _ ≤ 2 ^ 24; omega)
  have e4 : Ext H (upd (upd (upd (upd H p1 (.lst (ns.map V.int))) p2 (.lst [V.int 0])) p3 (.lst (List.replicate ((mx : Int) - (ns.length : Int)).toNat (V.int 0)))) p4 (.lst (ns.map V.int ++ List.replicate ((mx : Int) - (ns.length : Int)).toNat (V.int 0)))) := e1.tr ((Ext.new h3).tr (Ext.new h4))
  have g4 : (upd (upd (upd (upd H p1 (.lst (ns.map V.int))) p2 (.lst [V.int 0])) p3 (.lst (List.replicate ((mx : Int) - (ns.length : Int)).toNat (V.int 0)))) p4 (.lst (ns.map V.int ++ List.replicate ((mx : Int) - (ns.length : Int)).toNat (V.int 0)))) p4 = some (.lst ((pad ns mx).map V.int)) := by
    rw [map_pad, show mx - ns.length = ((mx : Int) - (ns.length : Int)).toNat by omega]; exact upd_same
  generalize upd (upd (upd (upd H p1 (.lst (ns.map V.int))) p2 (.lst [V.int 0])) p3 (.lst (List.replicate ((mx : Int) - (ns.length : Int)).toNat (V.int 0)))) p4 (.lst (ns.map V.int ++ List.replicate ((mx : Int) - (ns.length : Int)).toNat (V.int 0))) = H4 at *
  clear h1 h2 h3 h4 g1 e1
  walk_at "rd"
  refine e_listS (fun p1 h1 => ?_) (hB.ext e4)
  walk_at "rd"
  refine ⟨by show 1 ≤ sizeLine; decide, fun p2 h2 => ?_⟩
  walk_at "rd"
  have e1 : Ext H4 (upd (upd H4 p1 (.lst (ms.map V.int))) p2 (.lst [V.int 0])) := (Ext.new h1).tr (Ext.new h2)
  refine e_len ?_ ((hB.ext e4).ext e1)
  walk_at "rd"
  rw [List.length_map]
  refine e_rep (fun p3 h3 => ?_) upd_same (by omega) (by omega)
  have g1 : (upd (upd (upd H4 p1 (.lst (ms.map V.int))) p2 (.lst [V.int 0])) p3 (.lst (List.replicate ((mx : Int) - (ms.length : Int)).toNat (V.int 0)))) p1 = some (.lst (ms.map V.int)) := (Ext.new h3) _ _ ((Ext.new h2) _ _ upd_same)
  refine e_cat (fun p5 h4 => ?_) g1 upd_same (by rw [List.length_map, List.length_replicate]; show _ ≤ 2 ^ 24; omega)
  have e5 : Ext H4 (upd (upd (upd (upd H4 p1 (.lst (ms.map V.int))) p2 (.lst [V.int 0])) p3 (.lst (List.replicate ((mx : Int) - (ms.length : Int)).toNat (V.int 0)))) p5 (.lst (ms.map V.int ++ List.replicate ((mx : Int) - (ms.length : Int)).toNat (V.int 0)))) := e1.tr ((Ext.new h3).tr (Ext.new h4))
  have g5 : (upd (upd (upd (upd H4 p1 (.lst (ms.map V.int))) p2 (.lst [V.int 0])) p3 (.lst (List.replicate ((mx : Int) - (ms.length : Int)).toNat (V.int 0)))) p5 (.lst (ms.map V.int ++ List.replicate ((mx : Int) - (ms.length : Int)).toNat (V.int 0)))) p5 = some (.lst ((pad ms mx).map V.int)) := by
    rw [map_pad, show mx - ms.length = ((mx : Int) - (ms.length : Int)).toNat by omega]; exact upd_same
  generalize upd (upd (upd (upd H4 p1 (.lst (ms.map V.int))) p2 (.lst [V.int 0])) p3 (.lst (List.replicate ((mx : Int) - (ms.length : Int)).toNat (V.int 0)))) p5 (.lst (ms.map V.int ++ List.replicate ((mx : Int) - (ms.length : Int)).toNat (V.int 0))) = H5 at *
  have e45 := e4.tr e5
  have g4' := e5 _ _ g4
  clear h1 h2 h3 h4 g1 e1 g4
  walk_at "rd"
  refine i_zip ?_
  walk_at "rd"
  refine ⟨p4, p5, _, _, rfl, SqL.of g4', SqL.of g5, ?_⟩
  intro D hD
  have l1 := pad_len hmxn
  have l2 := pad_len hmxm
  have hne4 : p4 ≠ D := (ne_of_none g4' hD)
  have hne5 : p5 ≠ D := (ne_of_none g5 hD)
  have lz : (List.zipWith (· + ·) (pad ns mx) (pad ms mx)).length = mx := by rw [List.length_zipWith]; omega
  refine lc_it (walk_zip (K := K) (a := p4) (b := p5) (xs := (pad ns mx).map V.int) (ys := (pad ms mx).map V.int) (n := mx) (by rw [List.length_map, List.length_map]; omega))
    (fun i H' => i ≤ mx ∧ (∀ c o, c ≠ D → H5 c = some o → H' c = some o) ∧ H' D = some (.lst (((List.zipWith (· + ·) (pad ns mx) (pad ms mx)).take i).map V.int))) ⟨Nat.zero_le _, fun c o hc e => by rw [upd_ne hc]; exact e, upd_same⟩
    (fun i H' _ p => ⟨SqL.of (p.2.1 _ _ hne4 g4'), SqL.of (p.2.1 _ _ hne5 g5)⟩) ?_ ?_
  · rintro i v H' H'' hi ⟨hle, hk, hDD⟩ ⟨T, x, y, rfl, hT, rfl, hx, hy⟩
    obtain ⟨cx, rfl, hcx⟩ := map_at hx
    obtain ⟨cy, rfl, hcy⟩ := map_at hy
    refine g_tup ?_ (SqT.of upd_same) rfl
    have hTD : D ≠ T := ne_of_none hDD hT
    walk_at "rd"
    refine ⟨rfl, ?_⟩
    walk_at "rd"
    refine ⟨_, by rw [upd_ne hTD]; exact hDD, ?_, by omega, fun c o hc e => ?_, ?_⟩
    · rw [List.length_map, List.length_take, lz]; show _ < 2 ^ 24; omega
    · rw [upd_ne hc, upd_ne (ne_of_none (hk c o hc e) hT)]; exact hk c o hc e
    · rw [upd_same, zip_take hcx hcy, List.map_append]; rfl
  · rintro H' ⟨_, hk, hDD⟩
    walk_at "rd"
    rw [List.take_of_length_le (by omega)] at hDD
    refine .inl ⟨D, _, rfl, SqL.of hDD, fun t cs H'' ht e hH hpv hlast hmem hlen => ?_⟩
    have e6 : Ext H H' := fun c o q => hk c o (ne_of_none (e45 c o q) hD) (e45 c o q)
    refine q t cs H'' (e6.non ht) (e6.tr e) hH (fun r => ?_) hlast (fun c hc => by rw [eaddL]; exact hmem c hc) (by omega)
    rw [hpv r, pv_zip _ _ (by omega), pv_pad, pv_pad]
end FWL
namespace FWL
open PySem PySem.Spec PyProof.Rows L2 FW
/-! ### products -/
def sp_poly_product (K : PySem.W.Frag) : Sp := fun vs H Q _ => ∃ (a b : Addr) (ns ms : List Int) (p q' : Nat), vs = [.ref a, .ref b] ∧ SqA K H a (ns.map V.int) ∧ SqA K H b (ms.map V.int) ∧ ns.length ≤ 100 ∧ ms.length ≤ 100 ∧ (∀ c ∈ ns, Sz p c) ∧ (∀ c ∈ ms, Sz q' c) ∧ p + q' ≤ 100000 ∧
  ∀ t cs H', H t = none → Ext H H' → H' t = some (.tup (cs.map V.int)) → (∀ r, pvl cs r = pvl ns r * pvl ms r) → cs.getLast? ≠ some 0 → (∀ c ∈ cs, c.natAbs ≤ ns.length * ms.length * 2 ^ (p + q')) → cs.length ≤ ns.length + ms.length → Q (.ref t) H'
def rd_poly_product_L1 (K : PySem.W.Frag) : TS := tAugS (tVar 2) (tOp FW.rAdd (tVar 3) (tVar 5)) (tOp FW.rMul (tVar 4) (tVar 6)) (rIxL K) FW.iAdd rSetL
def rd_poly_product_L2 (K : PySem.W.Frag) : TS := tFor (FW.iEither (iEnum K (tCons (tVar 1) (tNil))) (FW.iEnumT K (tCons (tVar 1) (tNil)))) (gTup K 2 (gCons (gName 5) (gCons (gName 6) (gNil)))) (rd_poly_product_L1 K)
def rd_poly_product (K : PySem.W.Frag) : TS := tSeq (tAsg (tOp rRep (tLst (tCons (tC (.int 0)) (tNil))) (tOp FW.rAdd (tCB (Evl.rLenS K) (tCons (tVar 0) (tNil))) (tCB (Evl.rLenS K) (tCons (tVar 1) (tNil))))) (gName 2)) (tSeq (tFor (FW.iEither (iEnum K (tCons (tVar 0) (tNil))) (FW.iEnumT K (tCons (tVar 0) (tNil)))) (gTup K 2 (gCons (gName 3) (gCons (gName 4) (gNil)))) (rd_poly_product_L2 K)) (tRet (tCall (sp_trimmed K) [] E0 (tCons (tVar 2) (tNil)))))
theorem set_map (cur : List Int) (k : Nat) (c : Int) : (cur.map V.int).set k (.int c) = (cur.set k c).map V.int := by rw [List.map_set]
theorem pv_take1 {xs : List Int} {i : Nat} {x : Int} (h : xs[i]? = some x) (r : Int) : pvl (xs.take (i + 1)) r = pvl (xs.take i) r + x * r ^ i := by
  have hi := (List.getElem?_eq_some_iff.mp h).1
  rw [take_succ' h, pv_append, List.length_take, Nat.min_eq_left (by omega)]
  simp only [pvl]
  grind
theorem mem_set_le {cur : List Int} {k : Nat} {c : Int} {B : Nat} (h : ∀ z ∈ cur, z.natAbs ≤ B) (hc : c.natAbs ≤ B) : ∀ z ∈ cur.set k c, z.natAbs ≤ B := fun z hz => by
  rcases List.mem_or_eq_of_mem_set hz with h' | rfl
  · exact h z h'
  · exact hc
theorem pure_poly_product (K : PySem.W.Frag) (vs : List V) (H : Hp) (Q : VK) (E : XK) (h : sp_poly_product K vs H Q E) : rd_poly_product K { nx := fun _ H' => Q .non H', rt := Q } (start ["one", "other", "found", "i", "x", "j", "y"] vs) H := by
  obtain ⟨a, b, ns, ms, p, q', rfl, hA, hB, hn, hm, hcn, hcm, hpq, q⟩ := h
  unfold rd_poly_product
  walk_at "rd"
  refine ⟨by show 1 ≤ sizeLine; decide, fun p2 h2 => ?_⟩
  have e2 : Ext H (upd H p2 (.lst [V.int 0])) := Ext.new h2
  walk_at "rd"
  refine e_len ?_ (hA.ext e2)
  walk_at "rd"
  refine e_len ?_ (hB.ext e2)
  walk_at "rd"
  rw [List.length_map, List.length_map]
  refine e_rep (fun F hF => ?_) upd_same (by omega) (by omega)
  have hFn : H F = none := e2.non hF
  have e3 : Ext H (upd (upd H p2 (.lst [V.int 0])) F (.lst (List.replicate ((ns.length : Int) + (ms.length : Int)).toNat (V.int 0)))) := e2.tr (Ext.new hF)
  have hF3 : (upd (upd H p2 (.lst [V.int 0])) F (.lst (List.replicate ((ns.length : Int) + (ms.length : Int)).toNat (V.int 0)))) F = some (.lst ((List.replicate (ns.length + ms.length) (0 : Int)).map V.int)) := by
    rw [upd_same, List.map_replicate, show ((ns.length : Int) + (ms.length : Int)).toNat = ns.length + ms.length by omega]
  generalize upd (upd H p2 (.lst [V.int 0])) F (.lst (List.replicate ((ns.length : Int) + (ms.length : Int)).toNat (V.int 0))) = H3 at *
  refine s_seq ?_
  refine for_enumA (H0 := H) (xs := ns.map V.int) (fun i σ H' => Ext H H' ∧ i ≤ ns.length ∧ ∃ (cur : List Int) (v3 v4 v5 v6 : Option V), H' F = some (.lst (cur.map V.int)) ∧ cur.length = ns.length + ms.length ∧ (∀ r, pvl cur r = pvl (ns.take i) r * pvl ms r) ∧ (∀ c ∈ cur, c.natAbs ≤ i * ms.length * 2 ^ (p + q')) ∧ σ = [some (.ref a), some (.ref b), some (.ref F), v3, v4, v5, v6])
    rfl hA ⟨e3, Nat.zero_le _, _, _, _, _, _, hF3, by simp, fun r => ?_, fun c hc => ?_, rfl⟩ (fun _ _ _ h => h.1) ?_ ?_
  · rw [pv_zeros (fun c hc => List.eq_of_mem_replicate hc)]; simp [pvl]
  · rw [List.eq_of_mem_replicate hc]; simp
  · rintro i x σ H' T hx ⟨e, hi, cur, v3, v4, v5, v6, hF', hlen, hpv, hbd, rfl⟩ hT
    obtain ⟨cx, rfl, hcx⟩ := map_at hx
    have hi' := (List.getElem?_eq_some_iff.mp hcx).1
    have hcxs : Sz p cx := hcn cx (List.mem_of_getElem? hcx)
    refine g_tup ?_ (SqT.of upd_same) rfl
    walk_at "re"
    unfold rd_poly_product_L2
    have hTF : F ≠ T := ne_of_none hF' hT
    refine for_enumA (H0 := H) (xs := ms.map V.int) (fun j σ H' => Ext H H' ∧ j ≤ ms.length ∧ ∃ (cur : List Int) (v5 v6 : Option V), H' F = some (.lst (cur.map V.int)) ∧ cur.length = ns.length + ms.length ∧ (∀ r, pvl cur r = pvl (ns.take i) r * pvl ms r + cx * r ^ i * pvl (ms.take j) r) ∧ (∀ c ∈ cur, c.natAbs ≤ (i * ms.length + j) * 2 ^ (p + q')) ∧ σ = [some (.ref a), some (.ref b), some (.ref F), some (.int (i : Nat)), some (.int cx), v5, v6])
      rfl hB ⟨e.tr (Ext.new hT), Nat.zero_le _, cur, _, _, by rw [upd_ne hTF]; exact hF', hlen, fun r => ?_, fun c hc => ?_, rfl⟩ (fun _ _ _ h => h.1) ?_ ?_
    · rw [hpv r]; simp [pvl]
    · simpa using hbd c hc
    · rintro j y σ H2 T2 hy ⟨e2, hj, cur, v5, v6, hF2, hlen, hpv, hbd, rfl⟩ hT2
      obtain ⟨cy, rfl, hcy⟩ := map_at hy
      have hj' := (List.getElem?_eq_some_iff.mp hcy).1
      have hcys : Sz q' cy := hcm cy (List.mem_of_getElem? hcy)
      refine g_tup ?_ (SqT.of upd_same) rfl
      walk_at "re"
      have hT2F : F ≠ T2 := ne_of_none hF2 hT2
      have hF3 : (upd H2 T2 (.tup [.int (j : Nat), .int cy])) F = some (.lst (cur.map V.int)) := by rw [upd_ne hT2F]; exact hF2
      have e3 : Ext H (upd H2 T2 (.tup [.int (j : Nat), .int cy])) := e2.tr (Ext.new hT2)
      generalize upd H2 T2 (.tup [.int (j : Nat), .int cy]) = H4 at *
      have hij : i + j < cur.length := by omega
      unfold rd_poly_product_L1
      refine s_augS ?_
      walk_at "rd"
      rw [show ((i : Int) + (j : Int)) = ((i + j : Nat) : Int) by omega]
      refine e_ixL ?_ (SqL.of hF3) (at_int hij)
      walk_at "rd"
      · refine e_setL (m := i + j) ?_ hF3 ?_
        · refine ⟨e3.upds hFn, by omega, cur.set (i + j) (cur[i + j] + cx * cy), _, _, by rw [upd_same, set_map], by simpa using hlen, fun r => ?_, ?_, rfl⟩
          · rw [pv_set _ _ _ _ _ (List.getElem?_eq_getElem hij), hpv r, pv_take1 hcy r]
            have : r ^ (i + j) = r ^ i * r ^ j := Int.pow_add ..
            rw [this]; grind
          · refine mem_set_le (fun z hz => Nat.le_trans (hbd z hz) (Nat.mul_le_mul_right _ (by omega))) ?_
            have h1 := hbd _ (List.getElem_mem hij)
            have h2 : (cx * cy).natAbs < 2 ^ (p + q') := hcxs.mul hcys
            have h3 : (i * ms.length + (j + 1)) * 2 ^ (p + q') = (i * ms.length + j) * 2 ^ (p + q') + 2 ^ (p + q') := by rw [← Nat.add_assoc, Nat.add_mul (i * ms.length + j) 1, Nat.one_mul]
            omega
        · show ixN (cur.map V.int).length ((i + j : Nat) : Int) = some (i + j)
          rw [List.length_map]
          exact Evl.ixN_nat hij
      · exact wide_mul (a := p + 1) (b := q' + 1) (hcxs.mono (by omega)) (hcys.mono (by omega)) (by omega) (by omega) (by omega)
    · rintro σ H2 ⟨e2, hj, cur, v5, v6, hF2, hlen, hpv, hbd, rfl⟩
      refine ⟨e2, by omega, cur, _, _, _, _, hF2, hlen, fun r => ?_, fun c hc => ?_, rfl⟩
      · rw [List.length_map] at hpv
        have e := hpv r
        rw [List.take_of_length_le (l := ms) (Nat.le_refl _)] at e
        rw [e, pv_take1 hcx r]; grind
      · have := hbd c hc
        rw [List.length_map] at this
        rw [Nat.add_mul i 1, Nat.one_mul]; exact this
  · rintro σ H' ⟨e, hi, cur, v3, v4, v5, v6, hF', hlen, hpv, hbd, rfl⟩
    walk_at "rd"
    rw [List.length_map] at hpv hbd
    refine .inl ⟨F, cur, rfl, SqL.of hF', fun t cs H'' ht e' hH hpv' hlast hmem hlen' => ?_⟩
    refine q t cs H'' (e.non ht) (e.tr e') hH (fun r => ?_) hlast (fun c hc => hbd c (hmem c hc)) (by omega)
    rw [hpv' r, hpv r, List.take_of_length_le (Nat.le_refl _)]
/-! ### a polynomial shifted -/
theorem trimLen {cs : List Int} {n m B : Nat} (h : ∀ c ∈ cs, c.natAbs ≤ n * m * 2 ^ B) (hn : n * m < 2 ^ 8) : ∀ c ∈ cs, Sz (B + 8) c := fun c hc => by
  show c.natAbs < 2 ^ (B + 8)
  rw [Nat.pow_add, Nat.mul_comm]
  exact Nat.lt_of_le_of_lt (h c hc) (Nat.mul_lt_mul_of_pos_right hn (Nat.pow_pos (by decide)))
def sp_poly_shift (K : PySem.W.Frag) : Sp := fun vs H Q _ => ∃ (a : Addr) (ns : List Int) (by_ : Int), vs = [.ref a, .int by_] ∧ SqA K H a (ns.map V.int) ∧ ns.length ≤ 10 ∧ (∀ c ∈ ns, Sz 400 c) ∧ Sz 400 by_ ∧
  ∀ t cs H', H t = none → Ext H H' → H' t = some (.tup (cs.map V.int)) → (∀ r, pvl cs r = pvl ns (r + by_)) → cs.getLast? ≠ some 0 → (∀ c ∈ cs, Sz 5000 c) → cs.length ≤ 30 → Q (.ref t) H'
def rd_poly_shift_L1 (K : PySem.W.Frag) : TS := tAsg (tCall (sp_poly_sum K) [] E0 (tCons (tCall (sp_poly_product K) [] E0 (tCons (tVar 2) (tCons (tTup (tCons (tVar 1) (tCons (tC (.int 1)) (tNil)))) (tNil)))) (tCons (tTup (tCons (tVar 3) (tNil))) (tNil)))) (gName 2)
def rd_poly_shift (K : PySem.W.Frag) : TS := tSeq (tAsg (tTup (tNil)) (gName 2)) (tSeq (tFor (FW.iEither (iList K (FW.tEither (tRevL K (tVar 0)) (FW.tRevT K (tVar 0)))) (iTup K (FW.tEither (tRevL K (tVar 0)) (FW.tRevT K (tVar 0))))) (gName 3) (rd_poly_shift_L1 K)) (tRet (tVar 2)))
theorem pure_poly_shift (K : PySem.W.Frag) (vs : List V) (H : Hp) (Q : VK) (E : XK) (h : sp_poly_shift K vs H Q E) : rd_poly_shift K { nx := fun _ H' => Q .non H', rt := Q } (start ["poly", "by", "found", "coefficient"] vs) H := by
  obtain ⟨a, ns, y, rfl, hA, hlen, hc, hy, q⟩ := h
  unfold rd_poly_shift
  walk_at "rd"
  refine ⟨by show 0 ≤ sizeLine; decide, fun f0 hf0 => ?_⟩
  walk_at "rd"
  have e0 : Ext H (upd H f0 (.tup [])) := Ext.new hf0
  have g0 : (upd H f0 (.tup [])) f0 = some (.tup (([] : List Int).map V.int)) := upd_same
  generalize upd H f0 (.tup []) = H0 at *
  have main : ∀ H1, Ext H0 H1 → ∃ Pv : Nat → L2.St → Hp → Prop, Pv 0 [some (.ref a), some (.int y), some (.ref f0), none] H1 ∧ (∀ i σ H', Pv i σ H' → Ext H1 H') ∧
      (∀ i x σ H', (ns.map V.int).reverse[i]? = some x → Pv i σ H' → gName 3 x σ H' fun σ2 H2 => rd_poly_shift_L1 K { nx := Pv (i + 1), ct := Pv (i + 1), bk := fun σ' H' => tRet (tVar 2) { nx := fun _ H' => Q .non H', rt := Q } σ' H', rt := Q } σ2 H2) ∧
      (∀ σ H', Pv (ns.map V.int).reverse.length σ H' → tRet (tVar 2) { nx := fun _ H' => Q .non H', rt := Q } σ H') := by
    intro H1 e1
    refine ⟨fun i σ H' => Ext H1 H' ∧ i ≤ ns.length ∧ ∃ (t : Addr) (cs : List Int) (v : Option V), H t = none ∧ H' t = some (.tup (cs.map V.int)) ∧ (∀ r, pvl cs r = pvl (ns.reverse.take i).reverse (r + y)) ∧ cs.getLast? ≠ some 0 ∧ (∀ c ∈ cs, Sz (420 * i + 401) c) ∧ cs.length ≤ 3 * i ∧ σ = [some (.ref a), some (.int y), some (.ref t), v],
      ⟨Ext.rfl', Nat.zero_le _, f0, [], none, hf0, e1 _ _ g0, fun r => rfl, by simp, by simp, by simp, rfl⟩, fun _ _ _ h => h.1, ?_, ?_⟩
    · rintro i x σ H' hx ⟨e, hi, t, cs, v, htn, ht, hpv, hlast, hsz, hcl, rfl⟩
      obtain ⟨c, rfl, hci⟩ := int_at hx
      have hlt : i < ns.length := by
        have := (List.getElem?_eq_some_iff.mp hci).1
        simpa using this
      have hcs : Sz 400 c := hc c (List.mem_reverse.mp (List.mem_of_getElem? hci))
      unfold rd_poly_shift_L1
      walk_at "rd"
      refine ⟨by show 2 ≤ sizeLine; decide, fun p1 hp1 => ?_⟩
      walk_at "rd"
      have ep1 : Ext H' (upd H' p1 (.tup [V.int y, V.int 1])) := Ext.new hp1
      have gp1 : (upd H' p1 (.tup [V.int y, V.int 1])) p1 = some (.tup ([y, 1].map V.int)) := upd_same
      generalize upd H' p1 (.tup [V.int y, V.int 1]) = H2 at *
      refine ⟨t, p1, cs, [y, 1], 420 * i + 401, 400, rfl, .inr (SqT.of (ep1 _ _ ht)), .inr (SqT.of gp1), by omega, by show 2 ≤ 100; decide, hsz, ?_, by omega, fun t2 cs2 H3 ht2 e3 g3 hpv2 hlast2 hbd2 hl2 => ?_⟩
      · intro c hc'
        simp only [List.mem_cons, List.not_mem_nil, or_false] at hc'
        rcases hc' with rfl | rfl
        · exact hy
        · exact Sz.mono (show Sz 10 1 by decide) (by decide)
      walk_at "rd"
      refine ⟨by show 1 ≤ sizeLine; decide, fun p4 hp4 => ?_⟩
      walk_at "rd"
      have ep4 : Ext H3 (upd H3 p4 (.tup [V.int c])) := Ext.new hp4
      have gp4 : (upd H3 p4 (.tup [V.int c])) p4 = some (.tup ([c].map V.int)) := upd_same
      generalize upd H3 p4 (.tup [V.int c]) = H4 at *
      have hl2' : cs2.length ≤ cs.length + 2 := hl2
      have hbd2' : ∀ c ∈ cs2, c.natAbs ≤ cs.length * 2 * 2 ^ (420 * i + 401 + 400) := hbd2
      have hbds : ∀ c ∈ cs2, Sz (420 * i + 809) c := trimLen hbd2' (by omega)
      refine ⟨t2, p4, cs2, [c], rfl, .inr (SqT.of (ep4 _ _ g3)), .inr (SqT.of gp4), by omega, by show 1 ≤ 100; decide, fun t5 cs5 H5 ht5 e5 g5 hpv5 hlast5 hmem5 hl5 => ?_⟩
      walk_at "rd"
      have hl5' : cs5.length ≤ max cs2.length 1 := hl5
      have eall : Ext H H' := e0.tr (e1.tr e)
      refine ⟨e.tr (ep1.tr (e3.tr (ep4.tr e5))), by omega, t5, cs5, _, (eall.tr (ep1.tr (e3.tr ep4))).non ht5, g5, fun r => ?_, hlast5, fun c' hc' => ?_, by omega, rfl⟩
      · rw [hpv5 r, hpv2 r, hpv r, rev_take hci]
        simp only [pvl]
        grind
      · have := addL_sz (b := 420 * i + 809) hbds (fun z hz => by
          simp only [List.mem_cons, List.not_mem_nil, or_false] at hz
          rw [hz]; exact hcs.mono (by omega)) c' (hmem5 c' hc')
        exact this.mono (by omega)
    · rintro σ H' ⟨e, hi, t, cs, v, htn, ht, hpv, hlast, hsz, hcl, rfl⟩
      walk_at "rd"
      have hlen' : (ns.map V.int).reverse.length = ns.length := by simp
      rw [hlen'] at hpv hsz hcl
      refine q t cs H' htn (e0.tr (e1.tr e)) ht (fun r => ?_) hlast (fun c hc' => (hsz c hc').mono (by omega)) (by omega)
      rw [hpv r, rev_all rfl]
  have hl0 : [some (V.ref a), some (V.int y), some (V.ref f0), (none : Option V)][0]? = some (some (.ref a)) := rfl
  rcases hA with hA | hA
  · refine Or.inl (i_list (Or.inl ⟨_, hl0, a, _, rfl, e0.sqL hA, fun p hp => ?_⟩))
    obtain ⟨Pv, h0, hk, hs, hd⟩ := main (upd H0 p (.lst (ns.map V.int).reverse)) (Ext.new hp)
    refine i_list' _ ?_ (SqL.of upd_same)
    exact for_list (xs := (ns.map V.int).reverse) Pv h0 (fun i σ H' _ p => (hk i σ H' p).sqL (SqL.of upd_same)) hs hd
  · refine Or.inr (i_tup (Or.inr ⟨_, hl0, a, _, rfl, e0.sqT hA, fun p hp => ?_⟩))
    obtain ⟨Pv, h0, hk, hs, hd⟩ := main (upd H0 p (.tup (ns.map V.int).reverse)) (Ext.new hp)
    refine i_tup' _ ?_ (SqT.of upd_same)
    exact for_tup (xs := (ns.map V.int).reverse) Pv h0 (fun i σ H' _ p => (hk i σ H' p).sqT (SqT.of upd_same)) hs hd
end FWL
namespace FWL
open PySem PySem.Spec PyProof.Rows L2 FW
/-! ### the law's own root: the greatest number whose power is at most n -/
theorem pow_mono {x y : Int} (h0 : 0 ≤ x) (h : x ≤ y) : ∀ n : Nat, x ^ n ≤ y ^ n
  | 0 => by simp
  | n + 1 => by
    have ih := pow_mono h0 h n
    have hx : 0 ≤ x ^ n := Int.pow_nonneg h0
    rw [Int.pow_succ, Int.pow_succ]
    exact Int.mul_le_mul ih h h0 (by omega)
/-! ### led over a tuple of parts, a loop made of it -/
def sp_l_loop (K : PySem.W.Frag) : Sp := fun vs H Q _ => ∃ (t : Addr) (l : Lp), vs = [.ref t] ∧ H t = some (.tup l.V) ∧ l.Ok ∧ ∀ x H', H x = none → Ext H H' → IsLp K H' x l → Q (.ref x) H'
def rd_l_loop (K : PySem.W.Frag) : TS := tRet (tMake (He.ga K "Average") (sp_Average_init K) [] E0 (tCons (tOp (rIxT K) (tVar 0) (tC (.int 0))) (tCons (tOp (rIxT K) (tVar 0) (tC (.int 1))) (tCons (tOp (rIxT K) (tVar 0) (tC (.int 2))) (tCons (tOp (rIxT K) (tVar 0) (tC (.int 3))) (tCons (tOp (rIxT K) (tVar 0) (tC (.int 4))) (tCons (tOp (rIxT K) (tVar 0) (tC (.int 5))) (tCons (tOp (rIxT K) (tVar 0) (tC (.int 6))) (tNil)))))))))
theorem pure_l_loop (K : PySem.W.Frag) (vs : List V) (H : Hp) (Q : VK) (E : XK) (h : sp_l_loop K vs H Q E) : rd_l_loop K { nx := fun _ H' => Q .non H', rt := Q } (start ["_law_parts_here"] vs) H := by
  obtain ⟨t, l, rfl, ht, o, q⟩ := h
  unfold rd_l_loop
  walk_at "rd"
  refine e_ixT ?_ (SqT.of ht) rfl
  walk_at "rd"
  refine e_ixT ?_ (SqT.of ht) rfl
  walk_at "rd"
  refine e_ixT ?_ (SqT.of ht) rfl
  walk_at "rd"
  refine e_ixT ?_ (SqT.of ht) rfl
  walk_at "rd"
  refine e_ixT ?_ (SqT.of ht) rfl
  walk_at "rd"
  refine e_ixT ?_ (SqT.of ht) rfl
  walk_at "rd"
  refine e_ixT ?_ (SqT.of ht) rfl
  walk_at "rd"
  intro x dx hx hdx hne
  have e3 : Ext H (upd (upd H dx (.own x)) x (.ins (He.ga K "Average") dx [])) := (Ext.new hdx).tr (Ext.new (by rw [upd_ne hne.symm]; exact hx))
  refine ⟨x, dx, l, rfl, o, upd_same, fun H4 e4 h4 => ⟨rfl, q x H4 hx (fun b ob q => e4 _ _ (ne_of_none q hx) (e3 _ _ q)) ⟨dx, h4⟩⟩⟩
end FWL
namespace FWL
open PySem PySem.Spec PyProof.Rows L2 FW
/-! ### cells and rows -/
theorem list_at {xs : List V} {i : Int} (h0 : 0 ≤ i) (h : i < (xs.length : Int)) : ∃ v, v ∈ xs ∧ atI xs i = some v := by
  obtain ⟨k, rfl⟩ := Int.eq_ofNat_of_zero_le h0
  have hk : k < xs.length := by omega
  exact ⟨xs[k], List.getElem_mem _, atI_nat (List.getElem?_eq_getElem hk)⟩
/-- a row: numbers from 0 to 999 -/
def Row (xs : List Int) (n : Nat) : Prop := xs.length = n ∧ ∀ x ∈ xs, 0 ≤ x ∧ x < 1000
theorem row_at {xs : List Int} {n : Nat} {i : Int} (h : Row xs n) (h0 : 0 ≤ i) (h1 : i < n) : ∃ x, 0 ≤ x ∧ x < 1000 ∧ atI (xs.map V.int) i = some (.int x) := by
  obtain ⟨k, rfl⟩ := Int.eq_ofNat_of_zero_le h0
  have hk : k < xs.length := by rw [h.1]; omega
  obtain ⟨a, b⟩ := h.2 xs[k] (List.getElem_mem _)
  exact ⟨xs[k], a, b, at_int hk⟩
theorem e_max1 {K : PySem.W.Frag} {H : Hp} {Q : VK} {a : Addr} {i j : Int} (k : ∀ m, (m = i ∨ m = j) → i ≤ m → j ≤ m → Q (.int m) H) (h : H a = some (.lst [.int i, .int j])) : rMax K [.ref a] H Q :=
  ⟨a, [i, j], rfl, SqL.of h, by show 0 < 2; decide, fun m hm hy => k m (by simpa using hm) (hy i (by simp)) (hy j (by simp))⟩
theorem e_min1 {K : PySem.W.Frag} {H : Hp} {Q : VK} {a : Addr} {i j : Int} (k : ∀ m, (m = i ∨ m = j) → m ≤ i → m ≤ j → Q (.int m) H) (h : H a = some (.lst [.int i, .int j])) : rMin K [.ref a] H Q :=
  ⟨a, [i, j], rfl, SqL.of h, by show 0 < 2; decide, fun m hm hy => k m (by simpa using hm) (hy i (by simp)) (hy j (by simp))⟩
end FWL
namespace FWL
open PySem PySem.Spec PyProof.Rows L2 FW
/-! ### sign, bits -/
def sgn (i : Int) : Int := (if i > 0 then 1 else 0) - (if i < 0 then 1 else 0)
def sp_sign (K : PySem.W.Frag) : Sp := fun vs H Q _ => ∃ i : Int, vs = [.int i] ∧ Q (.int (sgn i)) H
def rd_sign (K : PySem.W.Frag) : TS := tRet (tOp FW.rSub (tCB FW.rInt1 (tCons (tOp FW.rGt (tVar 0) (tC (.int 0))) (tNil))) (tCB FW.rInt1 (tCons (tOp FW.rLt (tVar 0) (tC (.int 0))) (tNil))))
theorem ite_dec (p : Prop) [Decidable p] : (if decide p = true then (1 : Int) else 0) = if p then 1 else 0 := by
  by_cases h : p <;> simp [h]
theorem pure_sign (K : PySem.W.Frag) (vs : List V) (H : Hp) (Q : VK) (E : XK) (h : sp_sign K vs H Q E) : rd_sign K { nx := fun _ H' => Q .non H', rt := Q } (start ["number"] vs) H := by
  obtain ⟨i, rfl, q⟩ := h
  unfold rd_sign
  walk_at "rd"
  rw [ite_dec, ite_dec]
  exact q
/-! ### the whole root, by Newton's steps -/
theorem conv (g r : Int) (hg : 0 ≤ g) (hr : 0 ≤ r) : ∀ k : Nat, g ^ (k + 1) + (k + 1 : Int) * g ^ k * (r - g) ≤ r ^ (k + 1)
  | 0 => by
    have e1 : g ^ (0 + 1) = g := by rw [Int.pow_succ, Int.pow_zero, Int.one_mul]
    have e2 : r ^ (0 + 1) = r := by rw [Int.pow_succ, Int.pow_zero, Int.one_mul]
    rw [e1, e2, Int.pow_zero]; simp; omega
  | k + 1 => by
    have ih := conv g r hg hr k
    have h1 : r * (g ^ (k + 1) + (k + 1 : Int) * g ^ k * (r - g)) ≤ r * r ^ (k + 1) := Int.mul_le_mul_of_nonneg_left ih hr
    have h2 : 0 ≤ (k + 1 : Int) * g ^ k * ((r - g) * (r - g)) := by
      have a1 : 0 ≤ g ^ k := Int.pow_nonneg hg
      have a2 : 0 ≤ (r - g) * (r - g) := by
        rcases Int.le_total 0 (r - g) with h | h
        · exact Int.mul_nonneg h h
        · exact Int.mul_nonneg_of_nonpos_of_nonpos h h
      exact Int.mul_nonneg (Int.mul_nonneg (by omega) a1) a2
    have e1 : r ^ (k + 1 + 1) = r * r ^ (k + 1) := by rw [Int.pow_succ, Int.mul_comm]
    have e2 : g ^ (k + 1 + 1) = g * g * g ^ k := by rw [Int.pow_succ, Int.pow_succ]; grind
    have e3 : g ^ (k + 1) = g * g ^ k := by rw [Int.pow_succ, Int.mul_comm]
    rw [e1]
    have e4 : g ^ (k + 1 + 1) + ((k + 1 : Nat) + 1 : Int) * g ^ (k + 1) * (r - g) = r * (g ^ (k + 1) + (k + 1 : Int) * g ^ k * (r - g)) - (k + 1 : Int) * g ^ k * ((r - g) * (r - g)) := by
      rw [e2, e3]; push_cast; grind
    rw [e4]
    omega
end FWL
namespace FWL
open PySem PySem.Spec PyProof.Rows L2 FW
/-! ### polynomials with whole coefficients: equal values, shifted, far out -/
theorem dvd_small {x : Int} {N : Int} (h : ∀ r, N ≤ r → ∃ y, x = r * y) : x = 0 := by
  have hr : N ≤ (if N ≤ x.natAbs + 1 then (x.natAbs : Int) + 1 else N) := by split <;> omega
  obtain ⟨y, hy⟩ := h _ hr
  generalize hR : (if N ≤ x.natAbs + 1 then (x.natAbs : Int) + 1 else N) = R at *
  have hR1 : (x.natAbs : Int) + 1 ≤ R := by rw [← hR]; split <;> omega
  rcases Int.lt_trichotomy y 0 with h0 | h0 | h0
  · have : R * y ≤ R * (-1) := Int.mul_le_mul_of_nonneg_left (by omega) (by omega)
    omega
  · rw [h0, Int.mul_zero] at hy; exact hy
  · have : R * 1 ≤ R * y := Int.mul_le_mul_of_nonneg_left (by omega) (by omega)
    omega
theorem pv_zero_all : ∀ (xs : List Int) (N : Int), (∀ r, N ≤ r → pvl xs r = 0) → ∀ c ∈ xs, c = 0
  | [], _, _ => fun c hc => by cases hc
  | x :: xs, N, h => by
    have hx : x = 0 := dvd_small (N := N) fun r hr => ⟨-pvl xs r, by have := h r hr; rw [pvl] at this; rw [Int.mul_neg]; omega⟩
    have ih := pv_zero_all xs (if 1 ≤ N then N else 1) fun r hr => by
      have hr1 : 1 ≤ r ∧ N ≤ r := by split at hr <;> omega
      have := h r hr1.2
      rw [pvl, hx, Int.zero_add] at this
      rcases Int.mul_eq_zero.mp this with z | z
      · omega
      · exact z
    intro c hc
    rcases List.mem_cons.mp hc with rfl | hc
    · exact hx
    · exact ih c hc
theorem pv_prefix : ∀ (cs ds : List Int) (N : Int), (∀ r, N ≤ r → pvl cs r = pvl ds r) → cs.getLast? ≠ some 0 → ∃ k, cs = ds.take k
  | [], ds, _, _, _ => ⟨0, by simp⟩
  | c :: cs, [], N, h, hl => by
    have z := pv_zero_all (c :: cs) N fun r hr => h r hr
    exfalso
    have hne : (c :: cs) ≠ [] := by simp
    have : (c :: cs).getLast? = some ((c :: cs).getLast hne) := by rw [List.getLast?_eq_some_getLast hne]
    rw [this, z _ (List.getLast_mem hne)] at hl
    exact hl rfl
  | c :: cs, d :: ds, N, h, hl => by
    have hcd : c - d = 0 := dvd_small (N := N) fun r hr => ⟨pvl ds r - pvl cs r, by have := h r hr; rw [pvl, pvl] at this; rw [Int.mul_sub]; omega⟩
    have hcd : c = d := by omega
    subst hcd
    obtain ⟨k, hk⟩ := pv_prefix cs ds (if 1 ≤ N then N else 1) (fun r hr => by
      have hr1 : 1 ≤ r ∧ N ≤ r := by split at hr <;> omega
      have := h r hr1.2
      rw [pvl, pvl] at this
      exact Int.eq_of_mul_eq_mul_left (by omega : r ≠ 0) (by omega)) (by
      cases cs with
      | nil => simp
      | cons x xs => rw [List.getLast?_cons_cons] at hl; exact hl)
    exact ⟨k + 1, by rw [List.take_succ_cons, ← hk]⟩
/-- the polynomial at r + 1, and that less the polynomial -/
def shiftL : List Int → List Int
  | [] => []
  | c :: cs => List.zipWith (· + ·) (c :: shiftL cs) (shiftL cs ++ [0])
theorem shiftL_len : ∀ ns : List Int, (shiftL ns).length = ns.length
  | [] => rfl
  | c :: cs => by
    have := shiftL_len cs
    simp only [shiftL, List.length_zipWith, List.length_cons, List.length_append, List.length_nil, this]; omega
theorem shiftL_pv : ∀ (ns : List Int) (r : Int), pvl (shiftL ns) r = pvl ns (r + 1)
  | [], r => rfl
  | c :: cs, r => by
    have ih := shiftL_pv cs r
    rw [shiftL, pv_zip _ _ (by simp), pv_append, pvl, pvl, ih]
    simp only [pvl]
    grind
theorem zip_sz {b : Nat} : ∀ {xs ys : List Int}, (∀ c ∈ xs, Sz b c) → (∀ c ∈ ys, Sz b c) → ∀ c ∈ List.zipWith (· + ·) xs ys, Sz (b + 1) c
  | [], _, _, _, c, h => by simp at h
  | _ :: _, [], _, _, c, h => by simp at h
  | x :: xs, y :: ys, hx, hy, c, h => by
    rw [List.zipWith_cons_cons] at h
    rcases List.mem_cons.mp h with rfl | h
    · exact (hx x List.mem_cons_self).add (hy y List.mem_cons_self)
    · exact zip_sz (fun c hc => hx c (List.mem_cons_of_mem _ hc)) (fun c hc => hy c (List.mem_cons_of_mem _ hc)) c h
theorem sz0 {b : Nat} : Sz b 0 := Nat.pow_pos (by decide)
theorem shiftL_sz {b : Nat} : ∀ {ns : List Int}, (∀ c ∈ ns, Sz b c) → ∀ c ∈ shiftL ns, Sz (b + ns.length) c
  | [], _, c, h => by cases h
  | x :: xs, hx, c, h => by
    have ih := shiftL_sz (fun c hc => hx c (List.mem_cons_of_mem _ hc))
    refine zip_sz (b := b + xs.length) ?_ ?_ c h
    · intro z hz
      rcases List.mem_cons.mp hz with rfl | hz
      · exact (hx _ List.mem_cons_self).mono (by omega)
      · exact ih z hz
    · intro z hz
      rcases List.mem_append.mp hz with hz | hz
      · exact ih z hz
      · simp only [List.mem_cons, List.not_mem_nil, or_false] at hz; subst hz; exact sz0
def diffL : List Int → List Int
  | [] => []
  | _ :: cs => List.zipWith (· + ·) (0 :: diffL cs) (shiftL cs)
theorem diffL_len : ∀ ns : List Int, (diffL ns).length = ns.length - 1
  | [] => rfl
  | c :: cs => by
    have := diffL_len cs
    simp only [diffL, List.length_zipWith, List.length_cons, shiftL_len, this]; omega
theorem diffL_pv : ∀ (ns : List Int) (r : Int), pvl (diffL ns) r = pvl ns (r + 1) - pvl ns r
  | [], r => by simp [diffL, pvl]
  | [c], r => by simp [diffL, pvl, shiftL]
  | c :: d :: cs, r => by
    have ih := diffL_pv (d :: cs) r
    rw [diffL, pv_zip _ _ (by rw [List.length_cons, diffL_len, shiftL_len]; simp), shiftL_pv]
    rw [pvl, ih]
    generalize hp : pvl (d :: cs) (r + 1) = p at *
    generalize hq : pvl (d :: cs) r = q at *
    rw [show pvl (c :: d :: cs) (r + 1) = c + (r + 1) * p from by rw [pvl, hp], show pvl (c :: d :: cs) r = c + r * q from by rw [pvl, hq]]
    grind
theorem diffL_sz {b : Nat} : ∀ {ns : List Int}, (∀ c ∈ ns, Sz b c) → ∀ c ∈ diffL ns, Sz (b + ns.length) c
  | [], _, c, h => by cases h
  | x :: xs, hx, c, h => by
    have ih := diffL_sz (fun c hc => hx c (List.mem_cons_of_mem _ hc))
    refine zip_sz (b := b + xs.length) ?_ (shiftL_sz fun c hc => hx c (List.mem_cons_of_mem _ hc)) c h
    intro z hz
    rcases List.mem_cons.mp hz with rfl | hz
    · exact sz0
    · exact ih z hz
/-- far out the last coefficient settles the sign -/
theorem pv_low {M r : Int} (hr : 2 ≤ r) : ∀ {xs : List Int}, (∀ c ∈ xs, c.natAbs ≤ M) → (r - 1) * (pvl xs r).natAbs ≤ M * (r ^ xs.length - 1)
  | [], _ => by simp [pvl]
  | x :: xs, h => by
    have ih := pv_low hr (fun c hc => h c (List.mem_cons_of_mem _ hc))
    have hx : (x.natAbs : Int) ≤ M := by exact_mod_cast h x List.mem_cons_self
    have h1 : ((pvl (x :: xs) r).natAbs : Int) ≤ x.natAbs + r * (pvl xs r).natAbs := by
      rw [pvl]
      have : ((x + r * pvl xs r).natAbs : Int) ≤ x.natAbs + (r * pvl xs r).natAbs := by omega
      have e : ((r * pvl xs r).natAbs : Int) = r * (pvl xs r).natAbs := by
        rw [Int.natAbs_mul]; push_cast; rw [show ((r.natAbs : Nat) : Int) = r by omega]
      omega
    generalize ((pvl (x :: xs) r).natAbs : Int) = A at *
    generalize ((pvl xs r).natAbs : Int) = B at *
    generalize ((x.natAbs : Nat) : Int) = C at *
    rw [List.length_cons, Int.pow_succ]
    generalize r ^ xs.length = P at *
    have h2 : (r - 1) * A ≤ (r - 1) * (C + r * B) := Int.mul_le_mul_of_nonneg_left h1 (by omega)
    have h3 : r * ((r - 1) * B) ≤ r * (M * (P - 1)) := Int.mul_le_mul_of_nonneg_left ih (by omega)
    have h4 : (r - 1) * C ≤ (r - 1) * M := Int.mul_le_mul_of_nonneg_left hx (by omega)
    have e1 : (r - 1) * (C + r * B) = (r - 1) * C + r * ((r - 1) * B) := by grind
    have e2 : M * (P * r - 1) = (r - 1) * M + r * (M * (P - 1)) := by grind
    omega
theorem sgn_pos {x : Int} (h : 0 < x) : sgn x = 1 := by unfold sgn; rw [if_pos h, if_neg (by omega)]; rfl
theorem sgn_neg {x : Int} (h : x < 0) : sgn x = -1 := by unfold sgn; rw [if_neg (by omega), if_pos h]; rfl
theorem pv_far {xs : List Int} {l M r : Int} (hl : l ≠ 0) (h : ∀ c ∈ xs, c.natAbs ≤ M) (hM : M < l.natAbs * (r - 1)) (hr : 2 ≤ r) : sgn (pvl (xs ++ [l]) r) = sgn l := by
  have h1 := pv_low hr h
  rw [pv_append]
  have e : pvl [l] r = l := by simp [pvl]
  rw [e]
  have hP : 1 ≤ r ^ xs.length := Int.pow_pos (n := r) (m := xs.length) (by omega)
  have hM0 : 0 ≤ M ∨ xs = [] := by
    cases xs with
    | nil => exact .inr rfl
    | cons x xs => exact .inl (by have := h x List.mem_cons_self; omega)
  generalize r ^ xs.length = P at *
  generalize pvl xs r = A at *
  have key : (A.natAbs : Int) < P * l.natAbs := by
    have h2 : M * (P - 1) ≤ (l.natAbs * (r - 1)) * (P - 1) := Int.mul_le_mul_of_nonneg_right (by omega) (by omega)
    have h3 : (r - 1) * (A.natAbs : Int) < (r - 1) * (P * l.natAbs) := by
      have e3 : (l.natAbs * (r - 1)) * (P - 1) = (r - 1) * (P * l.natAbs) - (r - 1) * l.natAbs := by grind
      have : 0 < (r - 1) * (l.natAbs : Int) := Int.mul_pos (by omega) (by omega)
      omega
    exact Int.lt_of_mul_lt_mul_left h3 (by omega)
  rcases Int.lt_trichotomy l 0 with h0 | h0 | h0
  · have : P * l = -(P * l.natAbs) := by rw [show (l.natAbs : Int) = -l by omega, Int.mul_neg, Int.neg_neg]
    rw [sgn_neg h0, sgn_neg (by omega)]
  · exact absurd h0 hl
  · have : P * l = P * l.natAbs := by rw [show (l.natAbs : Int) = l by omega]
    rw [sgn_pos h0, sgn_pos (by omega)]
/-! ### where the sign changes -/
/-- f does not turn between b and e -/
def MonOn (f : Int → Int) (b e : Int) : Prop := (∀ x y, b ≤ x → x ≤ y → y ≤ e → f x ≤ f y) ∨ (∀ x y, b ≤ x → x ≤ y → y ≤ e → f y ≤ f x)
theorem mon_up {f : Int → Int} {b e : Int} (h : ∀ r, b ≤ r → r < e → f r ≤ f (r + 1)) : ∀ (n : Nat) (x : Int), b ≤ x → x + n ≤ e → f x ≤ f (x + n)
  | 0, x, _, _ => by simp
  | n + 1, x, hb, he => by
    have ih := mon_up h n x hb (by omega)
    have := h (x + n) (by omega) (by omega)
    have e1 : x + ((n + 1 : Nat) : Int) = x + n + 1 := by omega
    rw [e1]; omega
theorem mon_of_diff {f : Int → Int} {b e : Int} (h : (∀ r, b ≤ r → r < e → 0 ≤ f (r + 1) - f r) ∨ (∀ r, b ≤ r → r < e → f (r + 1) - f r ≤ 0)) : MonOn f b e := by
  rcases h with h | h
  · left
    intro x y hb hxy he
    have := mon_up (f := f) (b := b) (e := e) (fun r h1 h2 => by have := h r h1 h2; omega) (y - x).toNat x hb (by omega)
    rwa [show x + ((y - x).toNat : Int) = y by omega] at this
  · right
    intro x y hb hxy he
    have := mon_up (f := fun r => -f r) (b := b) (e := e) (fun r h1 h2 => by have := h r h1 h2; omega) (y - x).toNat x hb (by omega)
    rw [show x + ((y - x).toNat : Int) = y by omega] at this
    omega
theorem sgn_mono {x y : Int} (h : x ≤ y) : sgn x ≤ sgn y := by
  unfold sgn
  split <;> split <;> split <;> split <;> omega
/-- between two places of one sign there is no other sign -/
theorem MonOn.same {f : Int → Int} {b e x y z : Int} (m : MonOn f b e) (hb : b ≤ x) (hxy : x ≤ y) (hyz : y ≤ z) (hz : z ≤ e) (hs : sgn (f x) = sgn (f z)) : sgn (f y) = sgn (f x) := by
  rcases m with m | m
  · have h1 := sgn_mono (m x y hb hxy (by omega)); have h2 := sgn_mono (m y z (by omega) hyz hz); omega
  · have h1 := sgn_mono (m x y hb hxy (by omega)); have h2 := sgn_mono (m y z (by omega) hyz hz); omega
/-- L: the places behind a, up to e, at which the sign is another one than just ahead -/
structure ChgIn (f : Int → Int) (a e : Int) (L : List Int) : Prop where
  asc : L.Pairwise (· < ·)
  mem : ∀ r, r ∈ L ↔ (a < r ∧ r ≤ e ∧ sgn (f r) ≠ sgn (f (r - 1)))
theorem ChgIn.nil {f : Int → Int} {a : Int} : ChgIn f a a [] := ⟨.nil, fun r => ⟨fun h => (by cases h), fun h => absurd h.1 (by omega)⟩⟩
theorem ChgIn.snoc {f : Int → Int} {a b n : Int} {L : List Int} (h : ChgIn f a b L) (hab : a ≤ b) (hbn : b < n) (hs : ∀ r, b < r → r < n → sgn (f r) = sgn (f b)) (hn : sgn (f n) ≠ sgn (f b)) : ChgIn f a n (L ++ [n]) := by
  refine ⟨?_, fun r => ?_⟩
  · rw [List.pairwise_append]
    exact ⟨h.asc, .cons (fun _ z => by cases z) .nil, fun x hx y hy => by
      have := (h.mem x).mp hx
      simp only [List.mem_cons, List.not_mem_nil, or_false] at hy
      omega⟩
  · rw [List.mem_append, h.mem]
    simp only [List.mem_cons, List.not_mem_nil, or_false]
    have pre : ∀ r, b ≤ r → r < n → sgn (f r) = sgn (f b) := fun r h1 h2 => by
      rcases Int.lt_or_eq_of_le h1 with z | z
      · exact hs r z h2
      · rw [z]
    constructor
    · rintro (⟨h1, h2, h3⟩ | rfl)
      · exact ⟨h1, by omega, h3⟩
      · exact ⟨by omega, by omega, by rw [pre (r - 1) (by omega) (by omega)]; exact hn⟩
    · rintro ⟨h1, h2, h3⟩
      by_cases hr : r ≤ b
      · exact .inl ⟨h1, hr, h3⟩
      · by_cases hr2 : r = n
        · exact .inr hr2
        · exact absurd ((pre r (by omega) (by omega)).trans (pre (r - 1) (by omega) (by omega)).symm) h3
theorem ChgIn.stay {f : Int → Int} {a b e : Int} {L : List Int} (h : ChgIn f a b L) (hbe : b ≤ e) (hs : ∀ r, b < r → r ≤ e → sgn (f r) = sgn (f b)) : ChgIn f a e L := by
  refine ⟨h.asc, fun r => ?_⟩
  rw [h.mem]
  have pre : ∀ r, b ≤ r → r ≤ e → sgn (f r) = sgn (f b) := fun r h1 h2 => by
    rcases Int.lt_or_eq_of_le h1 with z | z
    · exact hs r z h2
    · rw [z]
  constructor
  · rintro ⟨h1, h2, h3⟩; exact ⟨h1, by omega, h3⟩
  · rintro ⟨h1, h2, h3⟩
    by_cases hr : r ≤ b
    · exact ⟨h1, hr, h3⟩
    · exact absurd ((pre r (by omega) h2).trans (pre (r - 1) (by omega) (by omega)).symm) h3
/-- .. behind a, all of them -/
structure Chg (f : Int → Int) (a : Int) (L : List Int) : Prop where
  asc : L.Pairwise (· < ·)
  mem : ∀ r, r ∈ L ↔ (a < r ∧ sgn (f r) ≠ sgn (f (r - 1)))
theorem Chg.const {f : Int → Int} {a : Int} (h : ∀ r, sgn (f r) = sgn (f 0)) : Chg f a [] := ⟨.nil, fun r => ⟨fun z => (by cases z), fun z => absurd ((h r).trans (h (r - 1)).symm) z.2⟩⟩
theorem sgn_run {f : Int → Int} {b : Int} (h : ∀ r, b < r → sgn (f r) = sgn (f (r - 1))) : ∀ n : Nat, sgn (f (b + n)) = sgn (f b)
  | 0 => by simp
  | n + 1 => by
    have := h (b + ((n + 1 : Nat) : Int)) (by omega)
    rw [this, show b + ((n + 1 : Nat) : Int) - 1 = b + n by omega]
    exact sgn_run h n
theorem Chg.none_ {f : Int → Int} {a : Int} (h : Chg f a []) : ∀ r, a ≤ r → sgn (f r) = sgn (f a) := fun r hr => by
  have := sgn_run (f := f) (b := a) (fun r hr => Classical.byContradiction fun z => by
    have := (h.mem r).mpr ⟨hr, z⟩
    cases this) (r - a).toNat
  rwa [show a + ((r - a).toNat : Int) = r by omega] at this
theorem sgn_runE {f : Int → Int} {b e : Int} (h : ∀ r, b < r → r ≤ e → sgn (f r) = sgn (f (r - 1))) : ∀ n : Nat, b + n ≤ e → sgn (f (b + n)) = sgn (f b)
  | 0, _ => by simp
  | n + 1, he => by
    have := h (b + ((n + 1 : Nat) : Int)) (by omega) he
    rw [this, show b + ((n + 1 : Nat) : Int) - 1 = b + n by omega]
    exact sgn_runE h n (by omega)
/-- where the difference keeps its sign there is no turn -/
theorem mon_seg {f g : Int → Int} {b e : Int} (hg : ∀ r, g r = f (r + 1) - f r) (h : ∀ r, b < r → r < e → sgn (g r) = sgn (g (r - 1))) : MonOn f b e := by
  have hs : ∀ r, b ≤ r → r < e → sgn (g r) = sgn (g b) := fun r h1 h2 => by
    have := sgn_runE (f := g) (b := b) (e := e - 1) (fun r a1 a2 => h r a1 (by omega)) (r - b).toNat (by omega)
    rwa [show b + ((r - b).toNat : Int) = r by omega] at this
  refine mon_of_diff ?_
  have sg : ∀ x y : Int, sgn x = sgn y → 0 ≤ y → 0 ≤ x := fun x y e hy => by
    unfold sgn at e
    split at e <;> split at e <;> split at e <;> split at e <;> omega
  have sg' : ∀ x y : Int, sgn x = sgn y → y ≤ 0 → x ≤ 0 := fun x y e hy => by
    unfold sgn at e
    split at e <;> split at e <;> split at e <;> split at e <;> omega
  rcases Int.le_total 0 (g b) with h0 | h0
  · left
    intro r h1 h2
    rw [← hg]; exact sg _ _ (hs r h1 h2) h0
  · right
    intro r h1 h2
    rw [← hg]; exact sg' _ _ (hs r h1 h2) h0
end FWL
namespace FWL
open PySem PySem.Spec PyProof.Rows L2 FW
/-! ### comprehensions over ints: [f(c) for c in s if p(c)] -/
section
variable {K : PySem.W.Frag} {σ : L2.St} {H : Hp} {Q : VK} {a : Addr} {ns : List Int} {n : Nat} {tt : TT} {te : TE} {p : Int → Bool} {f : Int → Int}
theorem ints_at {i : Nat} {x : V} (h : (ns.map V.int)[i]? = some x) : ∃ c, x = .int c ∧ ns[i]? = some c := by
  rw [List.getElem?_map] at h
  cases e : ns[i]? with
  | none => rw [e] at h; cases h
  | some c => rw [e] at h; cases h; exact ⟨c, rfl, rfl⟩
theorem lc_step {D : Addr} {i : Nat} {c : Int} (hD : H D = none) (hl : ns.length ≤ 100000) (hc : ns[i]? = some c) (hw : ∀ v : V, wipe ((wipe σ [n]).set n (some v)) [n] = wipe σ [n])
    (ht : ∀ c ∈ ns, ∀ (H' : Hp) (R : Bool → Hp → Prop), Ext H H' → R (p c) H' → tt ((wipe σ [n]).set n (some (.int c))) H' R)
    (he : ∀ c ∈ ns, p c = true → ∀ (H' : Hp) (R : VK), Ext H H' → R (.int (f c)) H' → te ((wipe σ [n]).set n (some (.int c))) H' R) :
    gName n (.int c) (wipe σ [n]) (upd H D (.lst ((((ns.take i).filter p).map f).map V.int))) fun σ2 H2 => wipe σ2 [n] = wipe σ [n] ∧ tt σ2 H2 fun b H3 =>
      if b = true then te σ2 H3 fun y H4 => ∃ acc, H4 D = some (.lst acc) ∧ acc.length < sizeLine ∧ (i + 1 ≤ ns.length ∧ upd H4 D (.lst (acc ++ [y])) = upd H D (.lst ((((ns.take (i + 1)).filter p).map f).map V.int))) else (i + 1 ≤ ns.length ∧ H3 = upd H D (.lst ((((ns.take (i + 1)).filter p).map f).map V.int))) := by
  have hi := (List.getElem?_eq_some_iff.mp hc).1
  have hm : c ∈ ns := List.mem_of_getElem? hc
  have eX : Ext H (upd H D (.lst ((((ns.take i).filter p).map f).map V.int))) := Ext.new hD
  have et : ns.take (i + 1) = ns.take i ++ [c] := by rw [List.take_add_one, hc]; rfl
  refine g_name ⟨hw _, ht c hm _ _ eX ?_⟩
  cases hp : p c with
  | true =>
    rw [if_pos rfl]
    refine he c hm hp _ _ eX ⟨_, upd_same, ?_, hi, ?_⟩
    · rw [List.length_map, List.length_map]
      have := List.length_filter_le p (ns.take i)
      rw [List.length_take] at this
      show _ < 2 ^ 24
      omega
    · rw [et, List.filter_append, List.filter_cons_of_pos hp, List.filter_nil, List.map_append, List.map_append, upd_upd]; rfl
  | false =>
    rw [if_neg (by decide)]
    refine ⟨hi, ?_⟩
    rw [et, List.filter_append, List.filter_cons_of_neg (by rw [hp]; decide), List.filter_nil, List.append_nil]
theorem lcT_gen (h : SqT K H a (ns.map V.int)) (hl : ns.length ≤ 100000) (hw : ∀ v : V, wipe ((wipe σ [n]).set n (some v)) [n] = wipe σ [n])
    (ht : ∀ c ∈ ns, ∀ (H' : Hp) (R : Bool → Hp → Prop), Ext H H' → R (p c) H' → tt ((wipe σ [n]).set n (some (.int c))) H' R)
    (he : ∀ c ∈ ns, p c = true → ∀ (H' : Hp) (R : VK), Ext H H' → R (.int (f c)) H' → te ((wipe σ [n]).set n (some (.int c))) H' R)
    (q : ∀ D, H D = none → Q (.ref D) (upd H D (.lst (((ns.filter p).map f).map V.int)))) : LcK (gName n) tt te [n] σ Q (Itt K a) H := by
  intro D hD
  refine lc_tup (K := K) (a := a) (xs := ns.map V.int) (fun i H' => i ≤ ns.length ∧ H' = upd H D (.lst ((((ns.take i).filter p).map f).map V.int))) ⟨Nat.zero_le _, rfl⟩ (fun i H' _ h' => by rw [h'.2]; exact Ext.sqT (Ext.new hD) h) ?_ ?_
  · rintro i x H' hx ⟨_, rfl⟩
    obtain ⟨c, rfl, hc⟩ := ints_at hx
    exact lc_step hD hl hc hw ht he
  · rintro H' ⟨_, rfl⟩
    rw [List.length_map, List.take_of_length_le (Nat.le_refl _)]
    exact q D hD
theorem lcL_gen (h : SqL K H a (ns.map V.int)) (hl : ns.length ≤ 100000) (hw : ∀ v : V, wipe ((wipe σ [n]).set n (some v)) [n] = wipe σ [n])
    (ht : ∀ c ∈ ns, ∀ (H' : Hp) (R : Bool → Hp → Prop), Ext H H' → R (p c) H' → tt ((wipe σ [n]).set n (some (.int c))) H' R)
    (he : ∀ c ∈ ns, p c = true → ∀ (H' : Hp) (R : VK), Ext H H' → R (.int (f c)) H' → te ((wipe σ [n]).set n (some (.int c))) H' R)
    (q : ∀ D, H D = none → Q (.ref D) (upd H D (.lst (((ns.filter p).map f).map V.int)))) : LcK (gName n) tt te [n] σ Q (Itl K a) H := by
  intro D hD
  refine lc_list (K := K) (a := a) (xs := ns.map V.int) (fun i H' => i ≤ ns.length ∧ H' = upd H D (.lst ((((ns.take i).filter p).map f).map V.int))) ⟨Nat.zero_le _, rfl⟩ (fun i H' _ h' => by rw [h'.2]; exact Ext.sqL (Ext.new hD) h) ?_ ?_
  · rintro i x H' hx ⟨_, rfl⟩
    obtain ⟨c, rfl, hc⟩ := ints_at hx
    exact lc_step hD hl hc hw ht he
  · rintro H' ⟨_, rfl⟩
    rw [List.length_map, List.take_of_length_le (Nat.le_refl _)]
    exact q D hD
end
theorem filter_all (ns : List Int) : ns.filter (fun _ => true) = ns := by rw [List.filter_eq_self]; intro _ _; rfl
theorem yes_all {σ : L2.St} {H' : Hp} {R : Bool → Hp → Prop} (h : R true H') : tYes σ H' R := h
/-- the greatest, the least of a list of ints -/
theorem e_maxL {K : PySem.W.Frag} {H : Hp} {Q : VK} {a : Addr} {ns : List Int} (h : SqL K H a (ns.map V.int)) (hn : ns ≠ []) (k : ∀ m, m ∈ ns → (∀ c ∈ ns, c ≤ m) → Q (.int m) H) : rMax K [.ref a] H Q :=
  ⟨a, ns, rfl, h, List.length_pos_iff.mpr hn, k⟩
end FWL
namespace FWL
open PySem PySem.Spec PyProof.Rows L2 FW
/-! ### poly_less, settled, next_change -/
theorem pv_neg (ns : List Int) (r : Int) : pvl (ns.map fun c => -c) r = -pvl ns r := by
  induction ns with
  | nil => simp [pvl]
  | cons c cs ih => simp only [List.map_cons, pvl, ih]; grind
def sp_poly_less (K : PySem.W.Frag) : Sp := fun vs H Q _ => ∃ (a b : Addr) (ns ms : List Int), vs = [.ref a, .ref b] ∧ SqA K H a (ns.map V.int) ∧ SqT K H b (ms.map V.int) ∧ ns.length ≤ 100 ∧ ms.length ≤ 100 ∧
  ∀ t cs H', H t = none → Ext H H' → H' t = some (.tup (cs.map V.int)) → (∀ r, pvl cs r = pvl ns r - pvl ms r) → cs.getLast? ≠ some 0 → Q (.ref t) H'
def rd_poly_less (K : PySem.W.Frag) : TS := tRet (tCall (sp_poly_sum K) [] E0 (tCons (tVar 0) (tCons (tCB (FW.rTupS K) (tCons (tLc (iTup K (tVar 1)) (gName 2) (tYes) (tUn FW.rNeg (tVar 2)) [2]) (tNil))) (tNil))))
theorem pure_poly_less (K : PySem.W.Frag) (vs : List V) (H : Hp) (Q : VK) (E : XK) (h : sp_poly_less K vs H Q E) : rd_poly_less K { nx := fun _ H' => Q .non H', rt := Q } (start ["one", "other", "coefficient"] vs) H := by
  obtain ⟨a, b, ns, ms, rfl, hA, hB, hn, hm, q⟩ := h
  unfold rd_poly_less
  walk_at "rd"
  refine i_tup' _ ?_ hB
  refine lcT_gen (p := fun _ => true) (f := fun c => -c) hB (by omega) (fun _ => rfl) (fun c _ H' R _ h => yes_all h) (fun c _ _ H' R _ h => ?_) (fun D hD => ?_)
  · walk_at "rd"
    exact h
  · rw [filter_all]
    have e1 := Ext.new (o := .lst ((ms.map fun c => -c).map V.int)) hD
    walk_at "rd"
    refine e_tupL (fun t ht => ?_) (SqL.of upd_same)
    have e2 := Ext.new (o := .tup ((ms.map fun c => -c).map V.int)) ht
    walk_at "rd"
    refine ⟨a, t, ns, ms.map fun c => -c, rfl, hA.ext (e1.tr e2), .inr (SqT.of upd_same), hn, by simpa using hm, fun t' cs H' ht' e3 g hpv hl _ _ => ?_⟩
    walk_at "rd"
    refine q t' cs H' ((e1.tr e2).non ht') ((e1.tr e2).tr e3) g (fun r => ?_) hl
    rw [hpv r, pv_neg]; omega
def sp_settled (K : PySem.W.Frag) : Sp := fun vs H Q _ => ∃ (a : Addr) (ns : List Int) (b : Nat), vs = [.ref a] ∧ SqT K H a (ns.map V.int) ∧ ns ≠ [] ∧ ns.getLast? ≠ some 0 ∧ ns.length ≤ 100 ∧ (∀ c ∈ ns, Sz b c) ∧ 0 < b ∧ b ≤ 5000 ∧
  ∀ s H', Ext H H' → 2 ≤ s → Sz (b + 2) s → (∀ r, s ≤ r → sgn (pvl ns r) = sgn (pvl ns s)) → Q (.int s) H'
def rd_settled (K : PySem.W.Frag) : TS := tRet (tOp FW.rAdd (tC (.int 2)) (tOp FW.rDiv (tCB (rMax K) (tCons (tLc (iTup K (tVar 0)) (gName 1) (tYes) (tCB FW.rAbs (tCons (tVar 1) (tNil))) [1]) (tNil))) (tCB FW.rAbs (tCons (tOp (rIxT K) (tVar 0) (tUn FW.rNeg (tC (.int 1)))) (tNil)))))
theorem last_of {ns : List Int} (h : ns ≠ []) : ∃ xs l, ns = xs ++ [l] ∧ ns.getLast? = some l := by
  refine ⟨ns.dropLast, ns.getLast h, (List.dropLast_concat_getLast h).symm, List.getLast?_eq_some_getLast h⟩
theorem abs_if (i : Int) : (if i < 0 then -i else i) = (i.natAbs : Int) := by split <;> omega
theorem pure_settled (K : PySem.W.Frag) (vs : List V) (H : Hp) (Q : VK) (E : XK) (h : sp_settled K vs H Q E) : rd_settled K { nx := fun _ H' => Q .non H', rt := Q } (start ["poly", "coefficient"] vs) H := by
  obtain ⟨a, ns, b, rfl, hA, hne, hl, hlen, hsz, hb0, hb, q⟩ := h
  obtain ⟨xs, l, rfl, hlast⟩ := last_of hne
  have hl0 : l ≠ 0 := fun z => hl (by rw [hlast, z])
  unfold rd_settled
  walk_at "rd"
  · refine i_tup' _ ?_ hA
    refine lcT_gen (p := fun _ => true) (f := fun c => (c.natAbs : Int)) hA (by omega) (fun _ => rfl) (fun c _ H' R _ h => yes_all h) (fun c _ _ H' R _ h => ?_) (fun D hD => ?_)
    · walk_at "rd"
      rw [abs_if]; exact h
    · rw [filter_all]
      have e1 := Ext.new (o := .lst (((xs ++ [l]).map fun c => (c.natAbs : Int)).map V.int)) hD
      walk_at "rd"
      refine e_maxL (SqL.of upd_same) (by simp) fun M hM hmax => ?_
      walk_at "rd"
      have hix : atI ((xs ++ [l]).map V.int) (-1) = some (.int l) := by
        unfold atI ixN
        rw [List.length_map, List.length_append, List.length_cons, List.length_nil]
        rw [if_neg (by decide), if_pos (by omega)]
        show ((xs ++ [l]).map V.int)[(-1 + ((xs.length + (0 + 1) : Nat) : Int)).toNat]? = _
        rw [show (-1 + ((xs.length + (0 + 1) : Nat) : Int)).toNat = xs.length by omega, List.map_append]
        simp
      refine e_ixT ?_ (e1.sqT hA) hix
      walk_at "rd"
      · rw [abs_if]
        have hM0 : 0 ≤ M ∧ Sz b M := by
          obtain ⟨c, hc, rfl⟩ := List.mem_map.mp hM
          exact ⟨by omega, by show ((c.natAbs : Int)).natAbs < 2 ^ b; have := hsz c hc; rw [show ((c.natAbs : Int)).natAbs = c.natAbs by omega]; exact this⟩
        have hla : (0 : Int) < l.natAbs := by omega
        have hd0 : 0 ≤ M / (l.natAbs : Int) := Int.ediv_nonneg hM0.1 (by omega)
        have hd1 : M / (l.natAbs : Int) ≤ M := Int.ediv_le_self _ hM0.1
        have hdm := Int.emod_add_mul_ediv M (l.natAbs : Int)
        have hdr := Int.emod_lt_of_pos M hla
        have hdr0 := Int.emod_nonneg M (by omega : (l.natAbs : Int) ≠ 0)
        generalize hq : M / (l.natAbs : Int) = qq at *
        have far : ∀ r, 2 + qq ≤ r → sgn (pvl (xs ++ [l]) r) = sgn l := fun r hr => by
          refine pv_far (M := M) hl0 (fun c hc => hmax _ (List.mem_map.mpr ⟨c, List.mem_append_left _ hc, rfl⟩)) ?_ (by omega)
          have : (l.natAbs : Int) * (1 + qq) ≤ l.natAbs * (r - 1) := Int.mul_le_mul_of_nonneg_left (by omega) (by omega)
          rw [Int.mul_add, Int.mul_one] at this
          omega
        refine q (2 + qq) _ e1 (by omega) ?_ fun r hr => by rw [far r hr, far (2 + qq) (Int.le_refl _)]
        show (2 + qq).natAbs < 2 ^ (b + 2)
        have := hM0.2
        have h2 : M.natAbs < 2 ^ b := this
        rw [Nat.pow_add]
        have : 1 ≤ 2 ^ b := Nat.pow_pos (by decide)
        omega
      · rw [abs_if]
        have hla : (0 : Int) < l.natAbs := by omega
        have : Sz b l := hsz l (by simp)
        exact wide_div (b := b) hla (by rw [show ((l.natAbs : Int)).natAbs = l.natAbs by omega]; exact this) hb0 (by omega)
def sp_next_change (K : PySem.W.Frag) : Sp := fun vs H Q _ => ∃ (a : Addr) (ns : List Int) (b e : Int) (z : Nat), vs = [.ref a, .int b, .int e] ∧ SqT K H a (ns.map V.int) ∧ b < e ∧ MonOn (pvl ns) b e ∧ sgn (pvl ns e) ≠ sgn (pvl ns b) ∧ (∀ c ∈ ns, Sz z c) ∧ Sz z b ∧ Sz z e ∧ (ns.length + 2) * (z + 1) ≤ 900000 ∧
  ∀ n H', Ext H H' → b < n → n ≤ e → (∀ r, b < r → r < n → sgn (pvl ns r) = sgn (pvl ns b)) → sgn (pvl ns n) ≠ sgn (pvl ns b) → Q (.int n) H'
def rd_next_change_L1 (K : PySem.W.Frag) : TS := tSeq (tAsg (tOp FW.rDiv (tOp FW.rAdd (tVar 3) (tVar 4)) (tC (.int 2))) (gName 5)) (tIfS (tTest (tOp rEq (tCall (sp_sign K) [] E0 (tCons (tCall (sp_poly_value K) [] E0 (tCons (tVar 0) (tCons (tVar 5) (tNil)))) (tNil))) (tCall (sp_sign K) [] E0 (tCons (tCall (sp_poly_value K) [] E0 (tCons (tVar 0) (tCons (tVar 1) (tNil)))) (tNil))))) (tAsg (tVar 5) (gName 3)) (tAsg (tVar 5) (gName 4)))
def rd_next_change (K : PySem.W.Frag) : TS := tSeq (tPar 3 4 (tCons (tVar 1) (tCons (tVar 2) (tNil)))) (tSeq (tWhile (tTest (tOp FW.rGt (tOp FW.rSub (tVar 4) (tVar 3)) (tC (.int 1)))) (rd_next_change_L1 K)) (tRet (tVar 4)))
theorem sz_between {z : Nat} {b e x : Int} (hb : Sz z b) (he : Sz z e) (h1 : b ≤ x) (h2 : x ≤ e) : Sz z x := by
  have h3 : b.natAbs < 2 ^ z := hb
  have h4 : e.natAbs < 2 ^ z := he
  show x.natAbs < 2 ^ z
  omega
theorem pure_next_change (K : PySem.W.Frag) (vs : List V) (H : Hp) (Q : VK) (E : XK) (h : sp_next_change K vs H Q E) : rd_next_change K { nx := fun _ H' => Q .non H', rt := Q } (start ["poly", "begun", "beyond", "low", "high", "middle"] vs) H := by
  obtain ⟨a, ns, b, e, z, rfl, hA, hbe, hm, hs, hc, hb, he, hz, q⟩ := h
  unfold rd_next_change
  walk_at "rd"
  refine s_while (fun m σ H' => Ext H H' ∧ ∃ (lo hi : Int) (v5 : Option V), b ≤ lo ∧ lo < hi ∧ hi ≤ e ∧ m = (hi - lo).toNat ∧ sgn (pvl ns lo) = sgn (pvl ns b) ∧ sgn (pvl ns hi) ≠ sgn (pvl ns b) ∧ σ = [some (.ref a), some (.int b), some (.int e), some (.int lo), some (.int hi), v5]) (e - b).toNat ⟨Ext.rfl', b, e, _, Int.le_refl _, hbe, Int.le_refl _, rfl, rfl, hs, rfl⟩ ?_
  rintro m σ H' ⟨e1, lo, hi, v5, h1, h2, h3, rfl, h4, h5, rfl⟩
  walk_at "rd"
  refine e_ite (fun h6 => ?_) (fun h6 => ?_)
  · refine ⟨fun σ' H'' => Ext H H'' ∧ ∃ (lo' hi' : Int) (v5 : Option V), b ≤ lo' ∧ lo' < hi' ∧ hi' ≤ e ∧ (hi' - lo').toNat < (hi - lo).toNat ∧ sgn (pvl ns lo') = sgn (pvl ns b) ∧ sgn (pvl ns hi') ≠ sgn (pvl ns b) ∧ σ' = [some (.ref a), some (.int b), some (.int e), some (.int lo'), some (.int hi'), v5], fun σ' H'' h => ?_, ?_⟩
    · obtain ⟨e2, lo', hi', v5, g1, g2, g3, g4, g5, g6, rfl⟩ := h
      exact ⟨_, g4, e2, lo', hi', v5, g1, g2, g3, rfl, g5, g6, rfl⟩
    unfold rd_next_change_L1
    walk_at "rd"
    · have hmid : lo < (lo + hi) / 2 ∧ (lo + hi) / 2 < hi := by omega
      generalize (lo + hi) / 2 = mid at *
      refine ⟨a, ns, mid, z, rfl, .inr (e1.sqT hA), hc, sz_between hb he (by omega) (by omega), hz, fun H2 e2 => ?_⟩
      walk_at "rd"
      refine ⟨_, rfl, ?_⟩
      walk_at "rd"
      refine ⟨a, ns, b, z, rfl, .inr ((e1.tr e2).sqT hA), hc, hb, hz, fun H3 e3 => ?_⟩
      walk_at "rd"
      refine ⟨_, rfl, ?_⟩
      walk_at "rd"
      have hd : ∀ x y : Int, decide (V.int x = V.int y) = decide (x = y) := fun x y => decide_eq_decide.mpr ⟨fun z => by injection z, fun z => by rw [z]⟩
      rw [hd]
      refine e_ite (fun h7 => ?_) (fun h7 => ?_)
      · walk_at "rd"
        exact ⟨e1.tr (e2.tr e3), mid, hi, _, by omega, by omega, h3, by omega, h7, h5, rfl⟩
      · walk_at "rd"
        exact ⟨e1.tr (e2.tr e3), lo, mid, _, h1, by omega, by omega, by omega, h4, h7, rfl⟩
    · exact wide_div (b := 10) (by decide) (by decide) (by decide) (by decide)
  · walk_at "rd"
    refine q hi H' e1 (by omega) h3 (fun r hr1 hr2 => ?_) h5
    exact hm.same (Int.le_refl _) (by omega) (show r ≤ lo by omega) (by omega) h4.symm
/-! ### changes -/
theorem asc_gap {L : List Int} (h : L.Pairwise (· < ·)) {i : Nat} {x y r : Int} (hx : L[i]? = some x) (hy : L[i + 1]? = some y) (h1 : x < r) (h2 : r < y) : r ∉ L := by
  intro hr
  obtain ⟨j, hj, e⟩ := List.mem_iff_getElem.mp hr
  obtain ⟨hi, ex⟩ := List.getElem?_eq_some_iff.mp hx
  obtain ⟨hi1, ey⟩ := List.getElem?_eq_some_iff.mp hy
  have pw := List.pairwise_iff_getElem.mp h
  by_cases hji : j ≤ i
  · rcases Nat.lt_or_eq_of_le hji with z | z
    · have := pw j i hj hi z; omega
    · subst z; omega
  · by_cases hj1 : j = i + 1
    · subst hj1; omega
    · have := pw (i + 1) j hi1 hj (by omega); omega
def sp_changes (K : PySem.W.Frag) (n : Nat) : Sp := fun vs H Q _ => ∃ (a : Addr) (ns : List Int) (first : Int) (b : Nat), vs = [.ref a, .int first] ∧ SqT K H a (ns.map V.int) ∧ ns.length ≤ n + 1 ∧ ns.getLast? ≠ some 0 ∧ (∀ c ∈ ns, Sz b c) ∧ Sz b first ∧ 0 < b ∧ b + 10 * n ≤ 390 ∧ n ≤ 7 ∧
  ∀ L cs H', Ext H H' → H' L = some (.lst (cs.map V.int)) → Chg (pvl ns) first cs → cs.length + 2 ≤ 2 ^ (n + 1) → Q (.ref L) H'
def rd_changes_L1 (K : PySem.W.Frag) : TS := tSeq (tAsg (tCall (sp_next_change K) [] E0 (tCons (tVar 0) (tCons (tVar 7) (tCons (tVar 8) (tNil))))) (gName 7)) (tDrop (tBM K "list" rAppend (tVar 6) (tCons (tVar 7) (tNil))))
def rd_changes_L2 (K : PySem.W.Frag) : TS := tWhile (tTest (tOp rNe (tCall (sp_sign K) [] E0 (tCons (tCall (sp_poly_value K) [] E0 (tCons (tVar 0) (tCons (tVar 7) (tNil)))) (tNil))) (tCall (sp_sign K) [] E0 (tCons (tCall (sp_poly_value K) [] E0 (tCons (tVar 0) (tCons (tVar 8) (tNil)))) (tNil))))) (rd_changes_L1 K)
def rd_changes (K : PySem.W.Frag) (R : Sp) : TS := tSeq (tIfS (tTest (tOp FW.rLt (tCB (Evl.rLenS K) (tCons (tVar 0) (tNil))) (tC (.int 2)))) (tRet (tLst (tNil))) (tNext)) (tSeq (tAsg (tOp FW.rAdd (tCB FW.rMax2 (tCons (tVar 1) (tCons (tCall (sp_settled K) [] E0 (tCons (tVar 0) (tNil))) (tNil)))) (tC (.int 1))) (gName 2)) (tSeq (tAsg (tCall R [] E0 (tCons (tCall (sp_poly_less K) [] E0 (tCons (tCall (sp_poly_shift K) [] E0 (tCons (tVar 0) (tCons (tC (.int 1)) (tNil)))) (tCons (tVar 0) (tNil)))) (tCons (tVar 1) (tNil)))) (gName 3)) (tSeq (tAsg (tOp rCat (tOp rCat (tLst (tCons (tVar 1) (tNil))) (tLc (iList K (tVar 3)) (gName 5) (tTest (tOp FW.rLt (tVar 5) (tVar 2))) (tVar 5) [5])) (tLst (tCons (tVar 2) (tNil)))) (gName 4)) (tSeq (tAsg (tLst (tNil)) (gName 6)) (tSeq (tFor (iZip K (tCons (tVar 4) (tCons (tSl (rSlL K) (tVar 4) (tPart (tC (.int 1))) (tNoPart)) (tNil)))) (gTup K 2 (gCons (gName 7) (gCons (gName 8) (gNil)))) (rd_changes_L2 K)) (tRet (tVar 6)))))))
theorem chg_short {ns : List Int} {first : Int} (h : ns.length < 2) : Chg (pvl ns) first [] := by
  refine Chg.const fun r => ?_
  match ns, h with
  | [], _ => rfl
  | [c], _ => simp [pvl]
theorem sgn_toward {f : Int → Int} {b e n : Int} (m : MonOn f b e) (h1 : b < n) (h2 : n ≤ e) (hn : sgn (f n) ≠ sgn (f b)) (hs : sgn (f e) ≠ sgn (f b)) : (sgn (f e) - sgn (f n)).natAbs < (sgn (f e) - sgn (f b)).natAbs := by
  rcases m with m | m
  · have a1 := sgn_mono (m b n (Int.le_refl _) (by omega) h2); have a2 := sgn_mono (m n e (by omega) h2 (Int.le_refl _)); omega
  · have a1 := sgn_mono (m b n (Int.le_refl _) (by omega) h2); have a2 := sgn_mono (m n e (by omega) h2 (Int.le_refl _)); omega
theorem sgn_two (x y : Int) : (sgn x - sgn y).natAbs ≤ 2 := by
  unfold sgn
  split <;> split <;> split <;> split <;> omega
/-- one stretch -/
theorem changes_L2 {K : PySem.W.Frag} {H : Hp} {D : Ends} {a F : Addr} {ns : List Int} {first b e : Int} {z i : Nat} {u2 u3 u4 u5 : Option V} {cs : List Int} (hA : SqT K H a (ns.map V.int)) (hF : H F = some (.lst (cs.map V.int))) (hbe : b < e) (hfb : first ≤ b) (hm : MonOn (pvl ns) b e)
    (hc : ∀ c ∈ ns, Sz z c) (hb : Sz z b) (he : Sz z e) (hz : (ns.length + 2) * (z + 1) ≤ 900000) (hi : 2 * i + 10 < 2 ^ 24) (hlen : cs.length ≤ 2 * i) (hC : ChgIn (pvl ns) first b cs)
    (k : ∀ H' cs' w7 w8, ExtB F H H' → H' F = some (.lst (cs'.map V.int)) → cs'.length ≤ 2 * (i + 1) → ChgIn (pvl ns) first e cs' → D.nx [some (.ref a), some (.int first), u2, u3, u4, u5, some (.ref F), w7, w8] H') :
    rd_changes_L2 K D [some (.ref a), some (.int first), u2, u3, u4, u5, some (.ref F), some (.int b), some (.int e)] H := by
  have haF : ∀ {xs : List V}, SqT K H a xs → ∀ {H'}, ExtB F H H' → SqT K H' a xs := fun {xs} h {H'} e => by
    rcases h with h | h
    · rcases h with h | ⟨o, h⟩
      · exact .inl (.inl (e _ _ (fun z => by rw [z, hF] at h; cases h) h))
      · exact .inl (.inr ⟨o, e _ _ (fun z => by rw [z, hF] at h; cases h) h⟩)
    · exact .inr h
  unfold rd_changes_L2
  refine s_while (fun m σ H' => ExtB F H H' ∧ ∃ (b' : Int) (cs' : List Int), b ≤ b' ∧ b' ≤ e ∧ Sz z b' ∧ m = (sgn (pvl ns e) - sgn (pvl ns b')).natAbs ∧ cs'.length + m ≤ 2 * i + 2 ∧ H' F = some (.lst (cs'.map V.int)) ∧ ChgIn (pvl ns) first b' cs' ∧ σ = [some (.ref a), some (.int first), u2, u3, u4, u5, some (.ref F), some (.int b'), some (.int e)])
    (sgn (pvl ns e) - sgn (pvl ns b)).natAbs ⟨fun _ _ _ h => h, b, cs, Int.le_refl _, by omega, hb, rfl, by have := sgn_two (pvl ns e) (pvl ns b); omega, hF, hC, rfl⟩ ?_
  rintro m σ H1 ⟨e1, b', cs', g1, g2, g3, rfl, g4, g5, g6, rfl⟩
  walk_at "rd"
  refine ⟨a, ns, b', z, rfl, .inr (haF hA e1), hc, g3, hz, fun H2 e2 => ?_⟩
  walk_at "rd"
  refine ⟨_, rfl, ?_⟩
  walk_at "rd"
  refine ⟨a, ns, e, z, rfl, .inr (haF hA (e1.tr (ExtB.of e2))), hc, he, hz, fun H3 e3 => ?_⟩
  walk_at "rd"
  refine ⟨_, rfl, ?_⟩
  walk_at "rd"
  have hd : ∀ x y : Int, decide (V.int x = V.int y) = decide (x = y) := fun x y => decide_eq_decide.mpr ⟨fun z => by injection z, fun z => by rw [z]⟩
  rw [hd]
  have e13 : ExtB F H H3 := e1.tr (ExtB.of (e2.tr e3))
  have g53 := e3 _ _ (e2 _ _ g5)
  refine e_iteN (fun hne => ?_) (fun heq => ?_)
  · have hlt : b' < e := by
      rcases Int.lt_or_eq_of_le g2 with z | z
      · exact z
      · exact absurd (by rw [z]) hne
    have mon' : MonOn (pvl ns) b' e := by
      rcases hm with hm | hm
      · exact .inl fun x y h1 h2 h3 => hm x y (by omega) h2 h3
      · exact .inr fun x y h1 h2 h3 => hm x y (by omega) h2 h3
    refine ⟨fun σ' H'' => ExtB F H H'' ∧ ∃ (n : Int) (cs2 : List Int), b ≤ n ∧ n ≤ e ∧ Sz z n ∧ (sgn (pvl ns e) - sgn (pvl ns n)).natAbs < (sgn (pvl ns e) - sgn (pvl ns b')).natAbs ∧ cs2.length + (sgn (pvl ns e) - sgn (pvl ns n)).natAbs ≤ 2 * i + 2 ∧ H'' F = some (.lst (cs2.map V.int)) ∧ ChgIn (pvl ns) first n cs2 ∧ σ' = [some (.ref a), some (.int first), u2, u3, u4, u5, some (.ref F), some (.int n), some (.int e)], fun σ' H'' h => ?_, ?_⟩
    · obtain ⟨e2', n, cs2, h1, h2, h3, h4, h5, h6, h7, rfl⟩ := h
      exact ⟨_, h4, e2', n, cs2, h1, h2, h3, rfl, h5, h6, h7, rfl⟩
    unfold rd_changes_L1
    walk_at "rd"
    refine ⟨a, ns, b', e, z, rfl, haF hA e13, hlt, mon', fun z => hne z.symm, hc, g3, he, hz, fun n H4 e4 h1 h2 h3 h4 => ?_⟩
    walk_at "rd"
    refine ⟨.inl ⟨rfl, _, SqL.of (e4 _ _ g53)⟩, ?_⟩
    walk_at "rd"
    have htw := sgn_toward mon' h1 h2 h4 (fun z => hne z.symm)
    refine ⟨F, cs'.map V.int, .int n, rfl, rfl, e4 _ _ g53, by rw [List.length_map]; show _ < 2 ^ 24; omega, ?_⟩
    refine ⟨(e13.tr (ExtB.of e4)).tr ExtB.upd, n, cs' ++ [n], by omega, h2, sz_between hb he (by omega) h2, htw, ?_, ?_, g6.snoc (by omega) h1 h3 h4, rfl⟩
    · rw [List.length_append, List.length_cons, List.length_nil]; omega
    · rw [upd_same, List.map_append]; rfl
  · refine k H3 cs' _ _ e13 g53 (by omega) ?_
    refine g6.stay g2 fun r hr1 hr2 => ?_
    have := hm.same (x := b') (y := r) (z := e) g1 (by omega) hr2 (Int.le_refl _) heq
    exact this
theorem changes_gen {K : PySem.W.Frag} {R : Sp} {n : Nat} {vs : List V} {H : Hp} {Q : VK} {E : XK} (hR : ∀ (m : Nat), n = m + 1 → ∀ vs H Q E, sp_changes K m vs H Q E → R vs H Q E) (h : sp_changes K n vs H Q E) : rd_changes K R { nx := fun _ H' => Q .non H', rt := Q } (start ["poly", "first", "last", "inner", "ends", "r", "found", "begun", "beyond"] vs) H := by
  obtain ⟨a, ns, first, b, rfl, hA, hlen, hlast, hc, hf, hb0, hb, hn7, q⟩ := h
  unfold rd_changes
  walk_at "rd"
  refine e_len ?_ (.inr hA)
  rw [List.length_map]
  walk_at "rd"
  refine e_ite (fun h2 => ?_) (fun h2 => ?_)
  · walk_at "rd"
    refine ⟨by show 0 ≤ sizeLine; decide, fun p hp => ?_⟩
    refine q p [] _ (Ext.new hp) upd_same (chg_short (by omega)) ?_
    have : 2 ^ 1 ≤ 2 ^ (n + 1) := Nat.pow_le_pow_right (by decide) (by omega)
    exact this
  obtain ⟨m, rfl⟩ : ∃ m, n = m + 1 := ⟨n - 1, by omega⟩
  have hne : ns ≠ [] := fun z => by rw [z] at h2; simp at h2
  walk_at "rd"
  refine ⟨a, ns, b, rfl, hA, hne, hlast, by omega, hc, hb0, by omega, fun s H1 e1 hs2 hss hsg => ?_⟩
  walk_at "rd"
  have hlastE : ∀ v : Int, (if s > first then s else first) = v → first ≤ v ∧ s ≤ v ∧ Sz (b + 2) v := fun v hv => by
    refine ⟨?_, ?_, ?_⟩
    · rw [← hv]; split <;> omega
    · rw [← hv]; split <;> omega
    · rw [← hv]; split
      · exact hss
      · exact hf.mono (by omega)
  obtain ⟨w, hw⟩ : ∃ w, (if s > first then s else first) = w := ⟨_, rfl⟩
  obtain ⟨hw1, hw2, hw3⟩ := hlastE w hw
  rw [hw]
  have hw4 : Sz (b + 3) (w + 1) := hw3.add (Sz.mono (show Sz 1 1 by decide) (by omega))
  refine ⟨a, ns, 1, rfl, .inr (e1.sqT hA), by omega, fun c hc' => (hc c hc').mono (by omega), Sz.mono (show Sz 1 1 by decide) (by decide), fun t2 cs2 H2 ht2 e2 g2 hpv2 hl2 hs2' hlen2 => ?_⟩
  walk_at "rd"
  refine ⟨t2, a, cs2, ns, rfl, .inr (SqT.of g2), (e1.tr e2).sqT hA, by omega, by omega, fun t3 cs3 H3 ht3 e3 g3 hpv3 hl3 => ?_⟩
  have hdiff : ∀ r, pvl cs3 r = pvl (diffL ns) r := fun r => by rw [hpv3, hpv2, diffL_pv]
  obtain ⟨kk, hkk⟩ := pv_prefix cs3 (diffL ns) 0 (fun r _ => hdiff r) hl3
  have hlen3 : cs3.length ≤ m + 1 := by
    have := diffL_len ns
    rw [hkk, List.length_take]; omega
  have hc3 : ∀ c ∈ cs3, Sz (b + 10) c := fun c hc' => by
    rw [hkk] at hc'
    exact (diffL_sz hc c (List.mem_of_mem_take hc')).mono (by omega)
  walk_at "rd"
  refine hR m rfl _ _ _ _ ⟨t3, cs3, first, b + 10, rfl, SqT.of g3, hlen3, hl3, hc3, hf.mono (by omega), by omega, by omega, by omega, fun L inner H4 e4 g4 hC hLl => ?_⟩
  have hinner : inner.length ≤ 600 := by
    have : 2 ^ (m + 1) ≤ 2 ^ 7 := Nat.pow_le_pow_right (by decide) (by omega)
    omega
  have e14 : Ext H H4 := e1.tr (e2.tr (e3.tr e4))
  walk_at "rd"
  refine ⟨by show 1 ≤ sizeLine; decide, fun p5 h5 => ?_⟩
  have e5 := Ext.new (o := .lst [V.int first]) h5
  have g5 : (upd H4 p5 (.lst [V.int first])) p5 = some (.lst [V.int first]) := upd_same
  generalize upd H4 p5 (.lst [V.int first]) = H5 at *
  walk_at "rd"
  refine i_list' _ ?_ (SqL.of (e5 _ _ g4))
  refine lcL_gen (p := fun r => decide (r < w + 1)) (f := fun r => r) (SqL.of (e5 _ _ g4)) (by omega) (fun _ => rfl) (fun c _ H' R' _ h => ?_) (fun c _ _ H' R' _ h => ?_) (fun p6 h6 => ?_)
  · walk_at "rd"
    exact h
  · walk_at "rd"
    exact h
  rw [show ((inner.filter fun r => decide (r < w + 1)).map fun r => r) = (inner.filter fun r => decide (r < w + 1)) by simp]
  have e6 := Ext.new (o := .lst ((inner.filter fun r => decide (r < w + 1)).map V.int)) h6
  have g6 : (upd H5 p6 (.lst ((inner.filter fun r => decide (r < w + 1)).map V.int))) p6 = some (.lst ((inner.filter fun r => decide (r < w + 1)).map V.int)) := upd_same
  generalize upd H5 p6 (.lst ((inner.filter fun r => decide (r < w + 1)).map V.int)) = H6 at *
  have hfl : (inner.filter fun r => decide (r < w + 1)).length ≤ inner.length := List.length_filter_le _ _
  refine e_cat (fun p7 h7 => ?_) (e6 _ _ g5) g6 (by rw [List.length_map]; show 1 + _ ≤ 2 ^ 24; omega)
  have e7 := Ext.new (o := .lst ([V.int first] ++ (inner.filter fun r => decide (r < w + 1)).map V.int)) h7
  have g7 : (upd H6 p7 (.lst ([V.int first] ++ (inner.filter fun r => decide (r < w + 1)).map V.int))) p7 = some (.lst ([V.int first] ++ (inner.filter fun r => decide (r < w + 1)).map V.int)) := upd_same
  generalize upd H6 p7 (.lst ([V.int first] ++ (inner.filter fun r => decide (r < w + 1)).map V.int)) = H7 at *
  walk_at "rd"
  refine ⟨by show 1 ≤ sizeLine; decide, fun p8 h8 => ?_⟩
  have e8 := Ext.new (o := .lst [V.int (w + 1)]) h8
  refine e_cat (fun p9 h9 => ?_) (e8 _ _ g7) upd_same (by rw [List.length_append, List.length_map]; show 1 + _ + 1 ≤ 2 ^ 24; omega)
  have e9 := Ext.new (o := .lst ([V.int first] ++ (inner.filter fun r => decide (r < w + 1)).map V.int ++ [V.int (w + 1)])) h9
  have g9 : (upd (upd H7 p8 (.lst [V.int (w + 1)])) p9 (.lst ([V.int first] ++ (inner.filter fun r => decide (r < w + 1)).map V.int ++ [V.int (w + 1)]))) p9 = some (.lst ((first :: (inner.filter fun r => decide (r < w + 1)) ++ [w + 1]).map V.int)) := by
    rw [upd_same, List.map_append]; rfl
  have e49 : Ext H4 (upd (upd H7 p8 (.lst [V.int (w + 1)])) p9 (.lst ([V.int first] ++ (inner.filter fun r => decide (r < w + 1)).map V.int ++ [V.int (w + 1)]))) := e5.tr (e6.tr (e7.tr (e8.tr e9)))
  generalize upd (upd H7 p8 (.lst [V.int (w + 1)])) p9 (.lst ([V.int first] ++ (inner.filter fun r => decide (r < w + 1)).map V.int ++ [V.int (w + 1)])) = H9 at *
  obtain ⟨en, hen⟩ : ∃ en, first :: (inner.filter fun r => decide (r < w + 1)) ++ [w + 1] = en := ⟨_, rfl⟩
  rw [hen] at g9
  -- the ends ascend, and between two of them there is no turn
  have hasc : en.Pairwise (· < ·) := by
    rw [← hen, List.cons_append, List.pairwise_cons, List.pairwise_append]
    refine ⟨fun x hx => ?_, hC.asc.filter _, .cons (fun _ z => by cases z) .nil, fun x hx y hy => ?_⟩
    · rcases List.mem_append.mp hx with hx | hx
      · exact ((hC.mem x).mp (List.mem_filter.mp hx).1).1
      · simp only [List.mem_cons, List.not_mem_nil, or_false] at hx; omega
    · have := (List.mem_filter.mp hx).2
      simp only [List.mem_cons, List.not_mem_nil, or_false] at hy
      have := of_decide_eq_true this
      omega
  have hmem : ∀ x ∈ en, first ≤ x ∧ x ≤ w + 1 := fun x hx => by
    rw [← hen] at hx
    rcases List.mem_append.mp hx with hx | hx
    · rcases List.mem_cons.mp hx with rfl | hx
      · omega
      · have h1 := ((hC.mem x).mp (List.mem_filter.mp hx).1).1
        have h2 := of_decide_eq_true (List.mem_filter.mp hx).2
        omega
    · simp only [List.mem_cons, List.not_mem_nil, or_false] at hx; omega
  have hfil : ∀ x, x ∉ en → first < x → x < w + 1 → sgn (pvl (diffL ns) x) = sgn (pvl (diffL ns) (x - 1)) := fun x hx h1 h2 => by
    refine Classical.byContradiction fun z => hx ?_
    rw [← hen]
    have : x ∈ inner := (hC.mem x).mpr ⟨h1, by rw [hdiff, hdiff]; exact z⟩
    exact List.mem_append_left _ (List.mem_cons_of_mem _ (List.mem_filter.mpr ⟨this, decide_eq_true h2⟩))
  have hseg : ∀ (i : Nat) (x y : Int), en[i]? = some x → en[i + 1]? = some y → x < y ∧ MonOn (pvl ns) x y := fun i x y hx hy => by
    obtain ⟨hi, ex⟩ := List.getElem?_eq_some_iff.mp hx
    obtain ⟨hi1, ey⟩ := List.getElem?_eq_some_iff.mp hy
    have hxy : x < y := by
      have := List.pairwise_iff_getElem.mp hasc i (i + 1) hi hi1 (by omega); omega
    refine ⟨hxy, mon_seg (g := pvl (diffL ns)) (fun r => diffL_pv ns r) fun r h1 h2 => ?_⟩
    have hx' := hmem x (List.mem_of_getElem? hx)
    have hy' := hmem y (List.mem_of_getElem? hy)
    exact hfil r (asc_gap hasc hx hy h1 h2) (by omega) (by omega)
  have henl : en.length ≤ inner.length + 2 := by rw [← hen, List.length_append, List.length_cons]; simp; omega
  have henl2 : 2 ≤ en.length := by rw [← hen, List.length_append, List.length_cons]; simp
  have hen0 : en[0]? = some first := by rw [← hen]; rfl
  have henk : en[en.length - 1]? = some (w + 1) := by rw [← hen]; simp
  walk_at "rd"
  refine ⟨by show 0 ≤ sizeLine; decide, fun F hF => ?_⟩
  have e10 := Ext.new (o := .lst []) hF
  have g10 : (upd H9 F (.lst [])) F = some (.lst (([] : List Int).map V.int)) := upd_same
  have nF : H F = none := (e14.tr e49).non hF
  have g910 := e10 _ _ g9
  generalize upd H9 F (.lst []) = H10 at *
  have hA10 : SqT K H10 a (ns.map V.int) := (e14.tr (e49.tr e10)).sqT hA
  walk_at "rs1"
  refine s_for (i_zip ?_)
  walk_at "re"
  refine e_sl ?_
  walk_at "re"
  refine e_part ?_
  walk_at "re"
  refine e_part' ?_
  refine e_noP ?_
  refine e_slL (fun p11 h11 => ?_) (SqL.of g910)
  have e11 := Ext.new (o := .lst (cutV (en.map V.int) (some 1) none)) h11
  have hcut : cutV (en.map V.int) (some 1) none = (en.drop 1).map V.int := by
    unfold cutV
    rw [show HT.sIx (en.map V.int).length 0 (some 1) = 1 by
      rw [show (1 : Int) = ((1 : Nat) : Int) from rfl, HT.sIx_nat, List.length_map]; omega, HT.sIx_none, List.map_drop, List.take_of_length_le (by rw [List.length_drop]; omega)]
  have g11 : (upd H10 p11 (.lst (cutV (en.map V.int) (some 1) none))) p11 = some (.lst ((en.drop 1).map V.int)) := by rw [upd_same, hcut]
  generalize upd H10 p11 (.lst (cutV (en.map V.int) (some 1) none)) = H11 at *
  walk_at "re"
  refine ⟨p9, p11, en.map V.int, (en.drop 1).map V.int, rfl, SqL.of (e11 _ _ g910), SqL.of g11, ?_⟩
  have neF9 : p9 ≠ F := fun z => by rw [z] at g9; rw [g9] at hF; cases hF
  have neF11 : p11 ≠ F := fun z => by rw [z, g10] at h11; cases h11
  have hA11 := e11.sqT hA10
  have haF : ∀ {H'}, ExtB F H11 H' → SqT K H' a (ns.map V.int) := fun {H'} e => by
    have gF : H11 F = some (.lst (([] : List Int).map V.int)) := e11 _ _ g10
    rcases hA11 with h | h
    · rcases h with h | ⟨o, h⟩
      · exact .inl (.inl (e _ _ (fun z => by rw [z, gF] at h; cases h) h))
      · exact .inl (.inr ⟨o, e _ _ (fun z => by rw [z, gF] at h; cases h) h⟩)
    · exact .inr h
  refine for_it (walk_zip (K := K) (a := p9) (b := p11) (xs := en.map V.int) (ys := (en.drop 1).map V.int) (n := en.length - 1) (by rw [List.length_map, List.length_map, List.length_drop]; omega))
    (fun i σ H' => ExtB F H11 H' ∧ i ≤ en.length - 1 ∧ ∃ (cs : List Int) (x : Int) (w7 w8 : Option V), H' F = some (.lst (cs.map V.int)) ∧ cs.length ≤ 2 * i ∧ en[i]? = some x ∧ ChgIn (pvl ns) first x cs ∧ σ = [some (.ref a), some (.int first), some (.int (w + 1)), some (.ref L), some (.ref p9), none, some (.ref F), w7, w8])
    ⟨fun _ _ _ h => h, Nat.zero_le _, [], first, _, _, e11 _ _ g10, by simp, hen0, .nil, rfl⟩
    (fun i σ H' _ h => ⟨SqL.of (h.1 _ _ neF9 (e11 _ _ g910)), SqL.of (h.1 _ _ neF11 g11)⟩) ?_ ?_
  · rintro i v σ H12 H13 hi ⟨e12, _, cs, x, w7, w8, g12, hcl, hx, hCI, rfl⟩ ⟨T, vx, vy, rfl, hT, rfl, hvx, hvy⟩
    have hvx' : vx = .int x := by
      dsimp only at hvx
      rw [List.getElem?_map, hx] at hvx; cases hvx; rfl
    obtain ⟨y, hy⟩ : ∃ y, en[i + 1]? = some y := ⟨en[i + 1], List.getElem?_eq_getElem (by omega)⟩
    have hvy' : vy = .int y := by
      dsimp only at hvy
      rw [List.getElem?_map, List.getElem?_drop, Nat.add_comm 1 i, hy] at hvy; cases hvy; rfl
    subst hvx' hvy'
    obtain ⟨hxy, hmon⟩ := hseg i x y hx hy
    have e13 := Ext.new (o := .tup [V.int x, V.int y]) hT
    refine g_tup ?_ (SqT.of upd_same) rfl
    generalize upd H12 T (.tup [V.int x, V.int y]) = H13 at *
    walk_at "re"
    have hx' := hmem x (List.mem_of_getElem? hx)
    have hy' := hmem y (List.mem_of_getElem? hy)
    have hzz : (ns.length + 2) * (b + 4 + 1) ≤ 900000 := by
      have h1 : ns.length + 2 ≤ 12 := by omega
      exact Nat.le_trans (Nat.mul_le_mul h1 (show b + 4 + 1 ≤ 500 by omega)) (by decide)
    refine changes_L2 (z := b + 4) (i := i) (haF (e12.tr (ExtB.of e13))) (e13 _ _ g12) hxy hx'.1 hmon (fun c hc' => (hc c hc').mono (by omega)) (sz_between (hf.mono (by omega)) (hw4.mono (by omega)) hx'.1 hx'.2) (sz_between (hf.mono (by omega)) (hw4.mono (by omega)) hy'.1 hy'.2) hzz (by omega) hcl hCI fun H14 cs' w7 w8 e14 g14 hcl' hCI' => ?_
    exact ⟨(e12.tr (ExtB.of e13)).tr e14, by omega, cs', y, w7, w8, g14, hcl', hy, hCI', rfl⟩
  · rintro σ H12 ⟨e12, _, cs, x, w7, w8, g12, hcl, hx, hCI, rfl⟩
    rw [henk] at hx
    cases hx
    walk_at "rd"
    have hpre : ∀ r, w + 1 ≤ r → sgn (pvl ns r) = sgn (pvl ns s) := fun r hr => hsg r (by omega)
    refine q F cs H12 (fun bb ob zz => e12 _ _ (ne_of_none zz nF) (e11 _ _ (e10 _ _ (e49 _ _ (e14 _ _ zz))))) g12 ⟨hCI.asc, fun r => ?_⟩ ?_
    · rw [hCI.mem]
      constructor
      · rintro ⟨a1, a2, a3⟩; exact ⟨a1, a3⟩
      · rintro ⟨a1, a3⟩
        refine ⟨a1, ?_, a3⟩
        refine Classical.byContradiction fun z => a3 ?_
        rw [hpre r (by omega), hpre (r - 1) (by omega)]
    · rw [Nat.pow_succ]
      omega
theorem pure_changes0 (K : PySem.W.Frag) (vs : List V) (H : Hp) (Q : VK) (E : XK) (h : sp_changes K 0 vs H Q E) : rd_changes K (fun _ _ _ _ => False) { nx := fun _ H' => Q .non H', rt := Q } (start ["poly", "first", "last", "inner", "ends", "r", "found", "begun", "beyond"] vs) H :=
  changes_gen (fun m z => by omega) h
theorem pure_changesS (K : PySem.W.Frag) (n : Nat) (vs : List V) (H : Hp) (Q : VK) (E : XK) (h : sp_changes K (n + 1) vs H Q E) : rd_changes K (sp_changes K n) { nx := fun _ H' => Q .non H', rt := Q } (start ["poly", "first", "last", "inner", "ends", "r", "found", "begun", "beyond"] vs) H :=
  changes_gen (fun m z => by obtain rfl : n = m := by omega
                             exact fun _ _ _ _ h => h) h
/-! ### sign_from -/
/-- the sign from a place on -/
def SgF (f : Int → Int) (first : Int) (v : V) : Prop := (∃ i, v = .int i ∧ ∀ r, first ≤ r → sgn (f r) = i) ∨ (v = .non ∧ ∃ r, first ≤ r ∧ sgn (f r) ≠ sgn (f first))
def sp_sign_from (K : PySem.W.Frag) : Sp := fun vs H Q _ => ∃ (a : Addr) (ns : List Int) (first : Int), vs = [.ref a, .int first] ∧ SqA K H a (ns.map V.int) ∧ ns.length ≤ 8 ∧ (∀ c ∈ ns, Sz 300 c) ∧ Sz 300 first ∧ ∀ v H', Ext H H' → SgF (pvl ns) first v → Q v H'
def rd_sign_from (K : PySem.W.Frag) : TS := tSeq (tAsg (tCall (sp_trimmed K) [] E0 (tCons (tVar 0) (tNil))) (gName 0)) (tSeq (tIfS (tTest (tOp (rEqD K) (tVar 0) (tTup (tNil)))) (tRet (tC (.int 0))) (tNext)) (tSeq (tIfS (tTest (tOp (rNeD K) (tCall (sp_changes K 7) [] E0 (tCons (tVar 0) (tCons (tVar 1) (tNil)))) (tLst (tNil)))) (tRet (tC .non)) (tNext)) (tRet (tCall (sp_sign K) [] E0 (tCons (tCall (sp_poly_value K) [] E0 (tCons (tVar 0) (tCons (tVar 1) (tNil)))) (tNil))))))
theorem sh_nil (ns : List Int) : SeqAt.shaped (.tuple (ns.map PyData.int)) = true := by
  unfold SeqAt.shaped
  rw [PyData.canLay0, layI, PyData.depth, depI]; rfl
theorem eqv_nilT (ns : List Int) : PyData.eqv (.tuple (ns.map PyData.int)) (.tuple []) = decide (ns = []) := by
  cases ns with
  | nil => simp only [List.map_nil, PyData.eqv, PyData.eqvAll]; rfl
  | cons c cs => simp only [List.map_cons, PyData.eqv, PyData.eqvAll]; rfl
theorem eqv_nilL (ns : List Int) : PyData.eqv (.list (ns.map PyData.int)) (.list []) = decide (ns = []) := by
  cases ns with
  | nil => simp only [List.map_nil, PyData.eqv, PyData.eqvAll]; rfl
  | cons c cs => simp only [List.map_cons, PyData.eqv, PyData.eqvAll]; rfl
theorem pure_sign_from (K : PySem.W.Frag) (vs : List V) (H : Hp) (Q : VK) (E : XK) (h : sp_sign_from K vs H Q E) : rd_sign_from K { nx := fun _ H' => Q .non H', rt := Q } (start ["poly", "first"] vs) H := by
  obtain ⟨a, ns, first, rfl, hA, hlen, hc, hf, q⟩ := h
  have main : ∀ (t : Addr) (cs : List Int) (H1 : Hp), Ext H H1 → SqT K H1 t (cs.map V.int) → (∀ r, pvl cs r = pvl ns r) → cs.getLast? ≠ some 0 → (∀ c ∈ cs, c ∈ ns) → cs.length ≤ ns.length →
      (tSeq (tIfS (tTest (tOp (rEqD K) (tVar 0) (tTup (tNil)))) (tRet (tC (.int 0))) (tNext)) (tSeq (tIfS (tTest (tOp (rNeD K) (tCall (sp_changes K 7) [] E0 (tCons (tVar 0) (tCons (tVar 1) (tNil)))) (tLst (tNil)))) (tRet (tC .non)) (tNext)) (tRet (tCall (sp_sign K) [] E0 (tCons (tCall (sp_poly_value K) [] E0 (tCons (tVar 0) (tCons (tVar 1) (tNil)))) (tNil)))))) { nx := fun _ H' => Q .non H', rt := Q } [some (.ref t), some (.int first)] H1 := by
    intro t cs H1 e1 ht hpv hl hmem hlen'
    have hpv' : pvl cs = pvl ns := funext hpv
    walk_at "rd"
    refine ⟨by show 0 ≤ sizeLine; decide, fun p2 h2 => ?_⟩
    have e2 := Ext.new (o := .tup []) h2
    refine e_eqD (d := .tuple (cs.map PyData.int)) (e := .tuple []) ?_ (.tup (e2.sqT ht) (dpI cs)) (.tup (SqT.of upd_same) .nil) (sh_nil cs) (by kernel_rfl)
    rw [eqv_nilT]
    generalize upd H1 p2 (.tup []) = H2 at *
    walk_at "rd"
    refine e_ite (fun hnil => ?_) (fun hnil => ?_)
    · walk_at "rd"
      refine q _ H2 (e1.tr e2) (.inl ⟨0, rfl, fun r _ => ?_⟩)
      rw [← hpv, hnil]; rfl
    · walk_at "rd"
      refine ⟨t, cs, first, 300, rfl, e2.sqT ht, by omega, hl, fun c hc' => hc c (hmem c hc'), hf, by decide, by decide, by decide, fun L ch H3 e3 g3 hC _ => ?_⟩
      walk_at "rd"
      refine ⟨by show 0 ≤ sizeLine; decide, fun p4 h4 => ?_⟩
      have e4 := Ext.new (o := .lst []) h4
      refine e_neD (d := .list (ch.map PyData.int)) (e := .list []) ?_ (.lst (SqL.of (e4 _ _ g3)) (dpI ch)) (.lst (SqL.of upd_same) .nil) (shL ch) (by kernel_rfl)
      rw [eqv_nilL]
      generalize upd H3 p4 (.lst []) = H4 at *
      walk_at "rd"
      refine e_iteN (fun hne => ?_) (fun heq => ?_)
      · walk_at "rd"
        refine q _ H4 (e1.tr (e2.tr (e3.tr e4))) (.inr ⟨rfl, ?_⟩)
        rw [hpv'] at hC
        refine Classical.byContradiction fun z => hne ?_
        have all : ∀ r, first ≤ r → sgn (pvl ns r) = sgn (pvl ns first) := fun r hr => Classical.byContradiction fun z' => z ⟨r, hr, z'⟩
        cases ch with
        | nil => rfl
        | cons x xs =>
          exfalso
          obtain ⟨h1, h2⟩ := (hC.mem x).mp List.mem_cons_self
          exact h2 ((all x (by omega)).trans (all (x - 1) (by omega)).symm)
      · walk_at "rd"
        refine ⟨t, cs, first, 300, rfl, .inr ((e2.tr (e3.tr e4)).sqT ht), fun c hc' => hc c (hmem c hc'), hf, ?_, fun H5 e5 => ?_⟩
        · have : cs.length + 2 ≤ 10 := by omega
          exact Nat.le_trans (Nat.mul_le_mul_right _ this) (by decide)
        · walk_at "rd"
          refine ⟨_, rfl, ?_⟩
          rw [heq, hpv'] at hC
          refine q _ H5 (e1.tr (e2.tr (e3.tr (e4.tr e5)))) (.inl ⟨_, rfl, fun r hr => ?_⟩)
          rw [hC.none_ r hr, hpv']
  unfold rd_sign_from
  walk_at "rs1"
  walk_at "rs1"
  walk_at "re"
  rcases hA with hA | hA
  · exact .inl ⟨a, ns, rfl, hA, fun t cs H1 _ e1 g hpv hl hmem hlen' => main t cs H1 e1 (SqT.of g) hpv hl hmem hlen'⟩
  · exact .inr ⟨a, ns, rfl, hA, fun t cs H1 e1 g hpv hl hmem hlen' => main t cs H1 e1 g hpv hl hmem hlen'⟩
end FWL
namespace FWL
open PySem PySem.Spec PyProof.Rows L2 FW
/-! ### a number to try -/
theorem ExtB.ext {p : Addr} {H H' : Hp} (e : ExtB p H H') (h : H p = none) : Ext H H' := fun a o q => e a o (ne_of_none q h) q
end FWL
namespace FWL
open PySem PySem.Spec PyProof.Rows L2 FW
/-! ### the law -/
mutual
theorem Dp.ext {K : PySem.W.Frag} {H H' : Hp} (e : Ext H H') : ∀ (d : PyData) (v : V), Dp K H v d → Dp K H' v d
  | .none, _, h => by cases h; exact .non
  | .bool b, _, h => by cases h; exact .bl b
  | .int i, _, h => by cases h; exact .int i
  | .str x, _, h => by cases h; exact .str x
  | .list ds, _, h => by
    cases h with
    | lst hs ha => exact .lst (e.sqL hs) (DpAll.ext e ds _ ha)
  | .tuple ds, _, h => by
    cases h with
    | tup hs ha => exact .tup (e.sqT hs) (DpAll.ext e ds _ ha)
  | .dict _, _, h => by cases h
theorem DpAll.ext {K : PySem.W.Frag} {H H' : Hp} (e : Ext H H') : ∀ (ds : List PyData) (vs : List V), DpAll K H vs ds → DpAll K H' vs ds
  | [], _, h => by cases h; exact .nil
  | d :: ds, _, h => by
    cases h with
    | cons h1 h2 => exact .cons (Dp.ext e d _ h1) (DpAll.ext e ds _ h2)
end
/-- a thing that may be told of, and compared -/
def Odd (K : PySem.W.Frag) (H : Hp) (v : V) : Prop := ∃ n d, WT K H v n ∧ Dp K H v d ∧ SeqAt.shaped (.tuple [.str "number", d]) = true ∧ SeqAt.shaped (.tuple [.str "start", d]) = true
theorem Odd.ext {K : PySem.W.Frag} {H H' : Hp} {v : V} (e : Ext H H') (h : Odd K H v) : Odd K H' v := by
  obtain ⟨n, d, h1, h2, h3⟩ := h
  exact ⟨n, d, h1.ext e, Dp.ext e d v h2, h3⟩
theorem Odd.n {K : PySem.W.Frag} {H : Hp} : Odd K H .non := ⟨_, .none, WT.non, .non, by kernel_rfl, by kernel_rfl⟩
theorem Strm.neI {H : Hp} {p x : Addr} {n : Nat} {K : PySem.W.Frag} {l : Lp} (h : Strm H p n) (hx : IsLp K H x l) : x ≠ p := by
  obtain ⟨dx, hx⟩ := hx
  obtain ⟨a, b, c, h1, _⟩ := h
  exact ne_of hx h1 (by intro z; cases z)
theorem IsLp.extB {H H' : Hp} {p x : Addr} {n : Nat} {K : PySem.W.Frag} {l : Lp} (hx : IsLp K H x l) (h : Strm H p n) (e : ExtB p H H') : IsLp K H' x l := by
  have := h.neI hx
  obtain ⟨dx, hx⟩ := hx
  exact ⟨dx, e _ _ this hx⟩
/-! monotone steps from behind the root on -/
theorem quot_step {m : Nat} {n x : Int} (hm : m = 1 ∨ m = 2 ∨ m = 3) (hn : 0 ≤ n) (hx : 1 ≤ x) (h : n < x ^ (m + 1)) : n / x ^ m ≤ n / (x + 1) ^ m + m := by
  have hp : 1 ≤ x ^ m := pow_pos' hx m
  have hp1 : 1 ≤ (x + 1) ^ m := pow_pos' (by omega) m
  have q1 : n / x ^ m * x ^ m ≤ n := Int.ediv_mul_le _ (by omega)
  have q2 : n / x ^ m < x := by
    rw [Int.ediv_lt_iff_lt_mul (by omega)]
    rw [Int.pow_succ, Int.mul_comm] at h
    exact h
  have q0 : 0 ≤ n / x ^ m := Int.ediv_nonneg hn (by omega)
  have r0 : 0 ≤ n / (x + 1) ^ m := Int.ediv_nonneg hn (by omega)
  generalize n / x ^ m = q at *
  rcases Int.lt_or_le (m : Int) q with hq | hq
  · have : q - m ≤ n / (x + 1) ^ m := by
      rw [Int.le_ediv_iff_mul_le (by omega)]
      refine Int.le_trans ?_ q1
      have hxq : x * (q - x) ≤ 0 := Int.mul_nonpos_of_nonneg_of_nonpos (by omega) (by omega)
      have hxx : x * x * (q - x) ≤ 0 := Int.mul_nonpos_of_nonneg_of_nonpos (Int.mul_nonneg (by omega) (by omega)) (by omega)
      have hx2 : 0 ≤ x * x := Int.mul_nonneg (by omega) (by omega)
      rcases hm with rfl | rfl | rfl
      · have e : (q - ((1 : Nat) : Int)) * (x + 1) ^ 1 = q * x ^ 1 + (q - x - 1) := by grind
        rw [e]; omega
      · have e : (q - ((2 : Nat) : Int)) * (x + 1) ^ 2 = q * x ^ 2 + 2 * (x * (q - x)) + (q - 4 * x - 2) := by grind
        rw [e]; omega
      · have e : (q - ((3 : Nat) : Int)) * (x + 1) ^ 3 = q * x ^ 3 + 3 * (x * x * (q - x)) + 3 * (x * (q - x)) - 6 * (x * x) + (q - 9 * x - 3) := by grind
        rw [e]; omega
    omega
  · omega
theorem led_nonneg {l : Lp} (o : l.Ok) {n x : Int} (hn : 0 ≤ n) (hx : 1 ≤ x) : 0 ≤ l.led n x := by
  have a1 := o.a1; have c1 := o.c1; have d0 := o.d0
  have hp : 1 ≤ x ^ (l.k - 1).toNat := pow_pos' hx _
  have q0 : 0 ≤ n / x ^ (l.k - 1).toNat := Int.ediv_nonneg hn (by omega)
  have h1 : l.a * 1 ≤ l.a * x := Int.mul_le_mul_of_nonneg_left hx (by omega)
  have h2 : 0 ≤ l.c * (n / x ^ (l.k - 1).toNat) := Int.mul_nonneg (by omega) q0
  unfold Lp.led
  exact Int.ediv_nonneg (by omega) (by omega)
theorem led_step {l : Lp} (o : l.Ok) {n x : Int} (hn : 0 ≤ n) (hx : 1 ≤ x) (h : n < x ^ l.k.toNat) : l.led n x ≤ l.led n (x + 1) := by
  have a1 := o.a1; have c1 := o.c1; have ca := o.ca; have hk := o.hk
  obtain ⟨m, hm, hm3⟩ : ∃ m : Nat, (l.k - 1).toNat = m ∧ (m = 1 ∨ m = 2 ∨ m = 3) := ⟨_, rfl, by omega⟩
  have hkm : l.k.toNat = m + 1 := by omega
  rw [hkm] at h
  have qs := quot_step hm3 hn hx h
  unfold Lp.led
  rw [hm]
  refine Int.ediv_le_ediv (by omega) ?_
  have h1 : l.c * (n / x ^ m) ≤ l.c * (n / (x + 1) ^ m + m) := Int.mul_le_mul_of_nonneg_left qs (by omega)
  have hmk : (m : Int) = l.k - 1 := by omega
  rw [hmk, Int.mul_add] at h1
  have h2 : l.a * (x + 1) = l.a * x + l.a := by rw [Int.mul_add, Int.mul_one]
  omega
theorem led_mono {l : Lp} (o : l.Ok) {n x : Int} (hn : 0 ≤ n) (hx : 1 ≤ x) (h : n < x ^ l.k.toNat) : ∀ j : Nat, l.led n x ≤ l.led n (x + j)
  | 0 => by simp
  | j + 1 => by
    refine Int.le_trans (led_mono o hn hx h j) ?_
    have e : x + ((j + 1 : Nat) : Int) = x + j + 1 := by omega
    rw [e]
    refine led_step o hn (by omega) (Int.lt_of_lt_of_le h (pow_mono (by omega) (by omega) _))
end FWL
namespace FWL
open PySem PySem.Spec PyProof.Rows L2 FW
/-! ### polynomials, as lists -/
def trm : List Int → List Int
  | [] => []
  | c :: cs => match trm cs with
    | [] => if c = 0 then [] else [c]
    | t :: ts => c :: t :: ts
def scaL (c : Int) (b : List Int) : List Int := b.map fun x => c * x
def mulL : List Int → List Int → List Int
  | [], _ => []
  | c :: cs, b => addL (scaL c b) (0 :: mulL cs b)
def negL (b : List Int) : List Int := b.map fun x => -x
def pAdd (a b : List Int) : List Int := trm (addL a b)
def pLess (a b : List Int) : List Int := trm (addL a (negL b))
def pMul (a b : List Int) : List Int := trm (mulL a b)
def pPow (p : List Int) : Nat → List Int
  | 0 => [1]
  | k + 1 => pMul (pPow p k) p
theorem pv_trm : ∀ (cs : List Int) (r : Int), pvl (trm cs) r = pvl cs r
  | [], _ => rfl
  | c :: cs, r => by
    have ih := pv_trm cs r
    unfold trm
    cases h : trm cs with
    | nil =>
      rw [h] at ih
      have ih : (0 : Int) = pvl cs r := ih
      show pvl (if c = 0 then [] else [c]) r = c + r * pvl cs r
      rw [← ih]
      by_cases hc : c = 0
      · rw [if_pos hc, hc]; simp [pvl]
      · rw [if_neg hc]; simp [pvl]
    | cons t ts =>
      rw [h] at ih
      show c + r * pvl (t :: ts) r = c + r * pvl cs r
      rw [ih]
theorem trm_last : ∀ cs : List Int, (trm cs).getLast? ≠ some 0
  | [] => by simp [trm]
  | c :: cs => by
    have ih := trm_last cs
    unfold trm
    cases h : trm cs with
    | nil =>
      by_cases hc : c = 0
      · simp [hc]
      · simp [hc]
    | cons t ts =>
      rw [h] at ih
      show (c :: t :: ts).getLast? ≠ some 0
      rw [List.getLast?_cons_cons]; exact ih
theorem trm_mem : ∀ {cs : List Int} {c : Int}, c ∈ trm cs → c ∈ cs
  | [], _, h => by cases h
  | d :: cs, c, h => by
    unfold trm at h
    cases e : trm cs with
    | nil =>
      rw [e] at h
      by_cases hd : d = 0
      · simp [hd] at h
      · simp [hd] at h; rw [h]; exact List.mem_cons_self
    | cons t ts =>
      rw [e] at h
      have h : c ∈ d :: t :: ts := h
      rcases List.mem_cons.mp h with h | h
      · rw [h]; exact List.mem_cons_self
      · exact List.mem_cons_of_mem _ (trm_mem (by rw [e]; exact h))
theorem trm_len : ∀ cs : List Int, (trm cs).length ≤ cs.length
  | [] => Nat.le_refl _
  | c :: cs => by
    have ih := trm_len cs
    unfold trm
    cases e : trm cs with
    | nil =>
      by_cases hc : c = 0
      · simp [hc]
      · simp [hc]
    | cons t ts => rw [e] at ih; simp only [List.length_cons] at ih ⊢; omega
theorem pv_sca (c : Int) (b : List Int) (r : Int) : pvl (scaL c b) r = c * pvl b r := by
  induction b with
  | nil => simp [scaL, pvl]
  | cons x b ih =>
    show c * x + r * pvl (scaL c b) r = c * (x + r * pvl b r)
    rw [ih]; grind
theorem pv_mulL : ∀ (a b : List Int) (r : Int), pvl (mulL a b) r = pvl a r * pvl b r
  | [], b, r => by simp [mulL, pvl]
  | c :: cs, b, r => by
    unfold mulL
    rw [pv_addL, pv_sca]
    show c * pvl b r + (0 + r * pvl (mulL cs b) r) = (c + r * pvl cs r) * pvl b r
    rw [pv_mulL cs b r]; grind
theorem pv_add (a b : List Int) (r : Int) : pvl (pAdd a b) r = pvl a r + pvl b r := by unfold pAdd; rw [pv_trm, pv_addL]
theorem pv_less (a b : List Int) (r : Int) : pvl (pLess a b) r = pvl a r - pvl b r := by unfold pLess negL; rw [pv_trm, pv_addL, pv_neg]; omega
theorem pv_mul (a b : List Int) (r : Int) : pvl (pMul a b) r = pvl a r * pvl b r := by unfold pMul; rw [pv_trm, pv_mulL]
theorem pv_pow (p : List Int) (r : Int) : ∀ k, pvl (pPow p k) r = pvl p r ^ k
  | 0 => by simp [pPow, pvl]
  | k + 1 => by unfold pPow; rw [pv_mul, pv_pow p r k, Int.pow_succ]
/-- values nought everywhere -/
theorem pv_nought : ∀ {cs : List Int}, (∀ r, pvl cs r = 0) → ∀ c, c ∈ cs → c = 0
  | [], _, _, h => by cases h
  | d :: cs, h, c, hc => by
    have d0 : d = 0 := by have := h 0; simp [pvl] at this; exact this
    have nz : ∀ r, r ≠ 0 → pvl cs r = 0 := fun r hr => by
      have := h r
      simp only [pvl, d0, Int.zero_add] at this
      exact (Int.mul_eq_zero.mp this).resolve_left hr
    have z0 : pvl cs 0 = 0 := by
      cases cs with
      | nil => rfl
      | cons x xs =>
        have h1 := nz (x.natAbs + 1) (by omega)
        have e0 : pvl (x :: xs) 0 = x := by simp [pvl]
        rw [e0]
        have h2 : x + ((x.natAbs : Int) + 1) * pvl xs (x.natAbs + 1) = 0 := h1
        generalize pvl xs ((x.natAbs : Int) + 1) = t at h2
        rcases Int.lt_trichotomy t 0 with z | z | z
        · have h3 : ((x.natAbs : Int) + 1) * t ≤ ((x.natAbs : Int) + 1) * (-1) := Int.mul_le_mul_of_nonneg_left (by omega) (by omega)
          omega
        · rw [z] at h2; omega
        · have h3 : ((x.natAbs : Int) + 1) * 1 ≤ ((x.natAbs : Int) + 1) * t := Int.mul_le_mul_of_nonneg_left (by omega) (by omega)
          omega
    have all : ∀ r, pvl cs r = 0 := fun r => by
      by_cases hr : r = 0
      · rw [hr]; exact z0
      · exact nz r hr
    rcases List.mem_cons.mp hc with e | e
    · rw [e]; exact d0
    · exact pv_nought all c e
theorem pv_uniq : ∀ {cs ds : List Int}, (∀ r, pvl cs r = pvl ds r) → cs.getLast? ≠ some 0 → ds.getLast? ≠ some 0 → cs = ds
  | [], [], _, _, _ => rfl
  | [], d :: ds, h, _, h2 => by
    have z := pv_nought (cs := d :: ds) (fun r => (h r).symm)
    have hm := List.getLast_mem (l := d :: ds) (by simp)
    rw [List.getLast?_eq_some_getLast (by simp)] at h2
    exact absurd (congrArg some (z _ hm)) h2
  | c :: cs, [], h, h1, _ => by
    have z := pv_nought (cs := c :: cs) (fun r => h r)
    have hm := List.getLast_mem (l := c :: cs) (by simp)
    rw [List.getLast?_eq_some_getLast (by simp)] at h1
    exact absurd (congrArg some (z _ hm)) h1
  | c :: cs, d :: ds, h, h1, h2 => by
    have e0 : c = d := by have := h 0; simp [pvl] at this; exact this
    have df : ∀ r, pvl (addL cs (negL ds)) r = 0 ∨ r = 0 := fun r => by
      by_cases hr : r = 0
      · exact .inr hr
      · refine .inl ?_
        have := h r
        simp only [pvl, e0] at this
        have h3 : r * pvl cs r = r * pvl ds r := by omega
        have h4 := Int.eq_of_mul_eq_mul_left hr h3
        unfold negL
        rw [pv_addL, pv_neg]; omega
    have all : ∀ r, pvl (0 :: addL cs (negL ds)) r = 0 := fun r => by
      rcases df r with z | z
      · simp [pvl, z]
      · simp [pvl, z]
    have zz := pv_nought all
    have ez : ∀ r, pvl cs r = pvl ds r := fun r => by
      have h5 := pv_zeros (xs := addL cs (negL ds)) (fun c hc => zz c (List.mem_cons_of_mem _ hc)) r
      unfold negL at h5
      rw [pv_addL, pv_neg] at h5; omega
    rw [e0]
    by_cases hcs : cs = []
    · by_cases hds : ds = []
      · rw [hcs, hds]
      · have : ds.getLast? ≠ some 0 := by
          intro z; apply h2
          cases ds with
          | nil => exact absurd rfl hds
          | cons x xs => rw [List.getLast?_cons_cons]; exact z
        rw [hcs] at ez ⊢
        rw [← pv_uniq ez (by simp) this]
    · have l1 : cs.getLast? ≠ some 0 := by
        intro z; apply h1
        cases cs with
        | nil => exact absurd rfl hcs
        | cons x xs => rw [List.getLast?_cons_cons]; exact z
      by_cases hds : ds = []
      · rw [hds] at ez ⊢
        rw [pv_uniq ez l1 (by simp)]
      · have l2 : ds.getLast? ≠ some 0 := by
          intro z; apply h2
          cases ds with
          | nil => exact absurd rfl hds
          | cons x xs => rw [List.getLast?_cons_cons]; exact z
        rw [pv_uniq ez l1 l2]
  termination_by cs ds => cs.length + ds.length
/-- coefficients below 2 ^ b, at most m of them -/
def PZ (m b : Nat) (cs : List Int) : Prop := cs.length ≤ m ∧ ∀ c, c ∈ cs → Sz b c
theorem PZ.mono {m m' b b' : Nat} {cs : List Int} (h : PZ m b cs) (h1 : m ≤ m') (h2 : b ≤ b') : PZ m' b' cs := ⟨Nat.le_trans h.1 h1, fun c hc => Sz.mono (h.2 c hc) h2⟩
theorem PZ.add {m n b : Nat} {cs ds : List Int} (h1 : PZ m b cs) (h2 : PZ n b ds) : PZ (max m n) (b + 1) (pAdd cs ds) := by
  refine ⟨?_, fun c hc => addL_sz h1.2 h2.2 c (trm_mem hc)⟩
  have := trm_len (addL cs ds)
  rw [addL_len] at this
  have := h1.1; have := h2.1
  unfold pAdd; omega
theorem PZ.neg {m b : Nat} {cs : List Int} (h : PZ m b cs) : PZ m b (negL cs) := by
  refine ⟨by unfold negL; rw [List.length_map]; exact h.1, fun c hc => ?_⟩
  obtain ⟨d, hd, rfl⟩ := List.mem_map.mp hc
  have := h.2 d hd
  show (-d).natAbs < _
  rw [Int.natAbs_neg]; exact this
theorem PZ.less {m n b : Nat} {cs ds : List Int} (h1 : PZ m b cs) (h2 : PZ n b ds) : PZ (max m n) (b + 1) (pLess cs ds) := by
  have h2 := h2.neg
  refine ⟨?_, fun c hc => addL_sz h1.2 h2.2 c (trm_mem hc)⟩
  have := trm_len (addL cs (negL ds))
  rw [addL_len] at this
  have := h1.1; have := h2.1
  unfold pLess; omega
end FWL
namespace FWL
open PySem PySem.Spec PyProof.Rows L2 FW
/-! ### how far steps lead -/
theorem Lp.Ok.cases {l : Lp} (o : l.Ok) : (l.k, l.a, l.c) ∈ ([(2, 1, 1), (2, 2, 1), (2, 2, 2), (2, 3, 1), (2, 3, 2), (2, 3, 3), (2, 4, 1), (2, 4, 2), (2, 5, 1), (3, 2, 1), (3, 3, 1), (3, 4, 1), (3, 4, 2), (3, 5, 1), (4, 3, 1), (4, 4, 1), (4, 5, 1)] : List (Int × Int × Int)) := by
  obtain ⟨k, a, c, d, st, td, md⟩ := l
  have hk := o.hk; have a1 := o.a1; have a5 := o.a5; have c1 := o.c1; have c3 := o.c3; have ca := o.ca; have ac := o.ac
  dsimp only at *
  have ha : a = 1 ∨ a = 2 ∨ a = 3 ∨ a = 4 ∨ a = 5 := by omega
  have hc : c = 1 ∨ c = 2 ∨ c = 3 := by omega
  clear o
  rcases hk with rfl | rfl | rfl <;> rcases ha with rfl | rfl | rfl | rfl | rfl <;> rcases hc with rfl | rfl | rfl <;> first | (exfalso; omega) | simp
theorem q_up {n r x : Int} {j : Nat} (hr : 0 ≤ r) (h2 : n < (r + 1) ^ (j + 1)) (hx : r + 1 ≤ x) : n / x ^ j ≤ r := by
  have hp : 1 ≤ x ^ j := pow_pos' (by omega) j
  have h : n / x ^ j < r + 1 := by
    rw [Int.ediv_lt_iff_lt_mul (by omega)]
    refine Int.lt_of_lt_of_le h2 ?_
    rw [Int.pow_succ, Int.mul_comm]
    exact Int.mul_le_mul_of_nonneg_left (pow_mono (by omega) hx j) (by omega)
  omega
theorem q_lo {n r x : Int} {j : Nat} (hr : 0 ≤ r) (h1 : r ^ (j + 1) ≤ n) (hx : 1 ≤ x) : (j + 1 : Int) * r - j * x ≤ n / x ^ j := by
  have hp : 1 ≤ x ^ j := pow_pos' hx j
  rw [Int.le_ediv_iff_mul_le (by omega)]
  have h := conv x r (by omega) hr j
  have e : ((j + 1 : Int) * r - j * x) * x ^ j = x ^ (j + 1) + (j + 1 : Int) * x ^ j * (r - x) := by rw [Int.pow_succ]; grind
  rw [e]; omega
theorem q_near {n r x : Int} {j : Nat} (hj : j = 1 ∨ j = 2 ∨ j = 3) (hr : 0 ≤ r) (h2 : n < (r + 1) ^ (j + 1)) (hx : 1 ≤ x) (hx6 : r - 6 ≤ x) : n / x ^ j ≤ r + 4100 := by
  have hp : 1 ≤ x ^ j := pow_pos' hx j
  have h : n / x ^ j < r + 4101 := by
    rw [Int.ediv_lt_iff_lt_mul (by omega)]
    refine Int.lt_of_lt_of_le h2 ?_
    rcases Int.lt_or_le r 8 with h8 | h8
    · have : (r + 1) ^ (j + 1) ≤ 8 ^ (j + 1) := pow_mono (by omega) (by omega) _
      have h3 : (8 : Int) ^ (j + 1) ≤ 4096 := by rcases hj with rfl | rfl | rfl <;> decide
      have h4 : (r + 4101) * 1 ≤ (r + 4101) * x ^ j := Int.mul_le_mul_of_nonneg_left hp (by omega)
      omega
    · obtain ⟨t, rfl⟩ : ∃ t : Nat, r = (t : Int) + 8 := ⟨(r - 8).toNat, by omega⟩
      have hxt : ((t : Int) + 2) ^ j ≤ x ^ j := pow_mono (by omega) (by omega) j
      have h4 : ((t : Int) + 8 + 4101) * ((t : Int) + 2) ^ j ≤ ((t : Int) + 8 + 4101) * x ^ j := Int.mul_le_mul_of_nonneg_left hxt (by omega)
      refine Int.le_trans ?_ h4
      have t0 : (0 : Int) ≤ t := by omega
      have t2 : (0 : Int) ≤ (t : Int) * t := Int.mul_nonneg t0 t0
      have t3 : (0 : Int) ≤ (t : Int) * t * t := Int.mul_nonneg t2 t0
      rcases hj with rfl | rfl | rfl
      · have e : ((t : Int) + 8 + 4101) * ((t : Int) + 2) ^ 1 = ((t : Int) + 8 + 1) ^ (1 + 1) + (4093 * t + 8137) := by grind
        rw [e]; omega
      · have e : ((t : Int) + 8 + 4101) * ((t : Int) + 2) ^ 2 = ((t : Int) + 8 + 1) ^ (2 + 1) + (4086 * (t * t) + 16197 * t + 15707) := by grind
        rw [e]; omega
      · have e : ((t : Int) + 8 + 4101) * ((t : Int) + 2) ^ 3 = ((t : Int) + 8 + 1) ^ (3 + 1) + (4079 * (t * t * t) + 24180 * (t * t) + 46400 * t + 26311) := by grind
        rw [e]; omega
  omega
/-- a number and its root -/
structure RootOf (k n r : Int) : Prop where
  r0 : 0 ≤ r
  lo : r ^ k.toNat ≤ n
  hi : n < (r + 1) ^ k.toNat
/-- the quotient of a step, and its ends -/
theorem led_q {l : Lp} (o : l.Ok) {n r x : Int} (R : RootOf l.k n r) (hx : 1 ≤ x) : ∃ q : Int, l.led n x = (l.a * x + l.c * q + l.d) / (l.a + l.c) ∧ l.k * r - (l.k - 1) * x ≤ q ∧ 0 ≤ q ∧ (r + 1 ≤ x → q ≤ r) ∧ (r - 6 ≤ x → q ≤ r + 4100) ∧ q ≤ n := by
  obtain ⟨r0, h1, h2⟩ := R
  have hk := o.hk
  obtain ⟨j, hj, hj3⟩ : ∃ j : Nat, l.k = (j : Int) + 1 ∧ (j = 1 ∨ j = 2 ∨ j = 3) := ⟨(l.k - 1).toNat, by omega, by omega⟩
  have e1 : (l.k - 1).toNat = j := by omega
  have e2 : l.k.toNat = j + 1 := by omega
  have n0 : 0 ≤ n := Int.le_trans (Int.pow_nonneg r0) h1
  rw [e2] at h1 h2
  have hp : 1 ≤ x ^ j := pow_pos' hx j
  refine ⟨n / x ^ j, ?_, ?_, Int.ediv_nonneg n0 (by omega), fun h => q_up r0 h2 h, fun h => q_near hj3 r0 h2 hx h, Int.ediv_le_self _ n0⟩
  · unfold Lp.led; rw [e1]
  · have := q_lo r0 h1 hx
    rw [hj]
    have e : ((j : Int) + 1 - 1) = j := by omega
    rw [e]; exact this
theorem led_lo1 {l : Lp} (o : l.Ok) {n r x : Int} (R : RootOf l.k n r) (hx : 1 ≤ x) (h : r ≤ x) : r - 1 ≤ l.led n x := by
  obtain ⟨q, e, q1, q0, q2, q3, qn⟩ := led_q o R hx
  rw [e]
  have hc := o.cases
  have d0 := o.d0; have d1 := o.d1
  clear e o R
  obtain ⟨k, a, c, d, st, td, md⟩ := l
  dsimp only at *
  simp only [List.mem_cons, Prod.mk.injEq, List.not_mem_nil, or_false] at hc
  rcases hc with ⟨rfl, rfl, rfl⟩ | ⟨rfl, rfl, rfl⟩ | ⟨rfl, rfl, rfl⟩ | ⟨rfl, rfl, rfl⟩ | ⟨rfl, rfl, rfl⟩ | ⟨rfl, rfl, rfl⟩ | ⟨rfl, rfl, rfl⟩ | ⟨rfl, rfl, rfl⟩ | ⟨rfl, rfl, rfl⟩ | ⟨rfl, rfl, rfl⟩ | ⟨rfl, rfl, rfl⟩ | ⟨rfl, rfl, rfl⟩ | ⟨rfl, rfl, rfl⟩ | ⟨rfl, rfl, rfl⟩ | ⟨rfl, rfl, rfl⟩ | ⟨rfl, rfl, rfl⟩ | ⟨rfl, rfl, rfl⟩
  all_goals omega
/-- the guesses from a start -/
def itr (l : Lp) (n x : Int) : Nat → Int
  | 0 => x
  | j + 1 => l.led n (itr l n x j)
theorem itr_add (l : Lp) (n x : Int) (i : Nat) : ∀ j, itr l n x (i + j) = itr l n (itr l n x i) j
  | 0 => rfl
  | j + 1 => by
    show l.led n (itr l n x (i + j)) = l.led n (itr l n (itr l n x i) j)
    rw [itr_add l n x i j]
/-! ### no more unlike numbers than there are -/
end FWL
namespace FW
open PySem PySem.Spec PyProof.Rows L2
theorem u1 {j : Nat} {A : Around} (hr : Room j A) : A.units + 1 < cLine := by have := hr.un; omega
/-! ### dicts whose keys are tuples of ints and None -/
abbrev NK := Option Int
def nkH : NK → Int
  | none => 0xFCA86420
  | some k => hashInt k
def nkV : NK → V
  | none => .non
  | some i => .int i
def hashN (ks : List NK) : Int := reduceHash (Builtin.Tuple.tupleHashOf (ks.map nkH))
def entN (x : List NK × Addr × Value) : DictEntry := ⟨hashN x.1, .ref x.2.1, x.2.2⟩
abbrev KvN := List NK × Addr × V
abbrev KN : List KvN → List (List NK × Addr × Value) → Prop := Paired fun p q => p.1 = q.1 ∧ p.2.1 = q.2.1 ∧ RelV p.2.2 q.2.2
def DNφ (a : Addr) (kvs : List KvN) : Heap → Prop := fun h => (a == sysModules) = false ∧ ∃ (xs : List (List NK × Addr × Value)) (o : Obj) (es : Array DictEntry) (ep : Nat), KN kvs xs ∧ h.get? a = some o ∧ o.ExactDict ∧ o.data = .dict es ep ∧ es.toList = xs.map entN ∧ (xs.map (·.1)).Nodup
def dN (a : Addr) (kvs : List KvN) : HO := .ext (DNφ a kvs)
structure IsDN (H : Hp) (a : Addr) (kvs : List KvN) : Prop where
  at' : H a = some (dN a kvs)
  keys : ∀ x ∈ kvs, H x.2.1 = some (.tup (x.1.map nkV))
  size : kvs.length ≤ sizeLine
def valN (kvs : List KvN) (k : List NK) : Option V := (kvs.find? fun x => decide (x.1 = k)).map (·.2.2)
theorem KN.mem : ∀ {kvs : List KvN} {xs : List (List NK × Addr × Value)}, KN kvs xs → ∀ x ∈ xs, ∃ y ∈ kvs, y.1 = x.1 ∧ y.2.1 = x.2.1
  | _, _, .nil, x, hx => nomatch hx
  | _, _, .cons (a := p) r t, x, hx => by
    rcases List.mem_cons.mp hx with e | hx
    · subst e
      exact ⟨p, List.mem_cons_self, r.1, r.2.1⟩
    · obtain ⟨y, hy, h⟩ := KN.mem t x hx
      exact ⟨y, List.mem_cons_of_mem _ hy, h⟩
theorem KN.val : ∀ {kvs : List KvN} {xs : List (List NK × Addr × Value)}, KN kvs xs → ∀ k : List NK, RelO (valN kvs k) ((atKey xs k).map (·.2))
  | _, _, .nil, k => True.intro
  | _, _, .cons (a := p) (b := q) r t, k => by
    have ih := KN.val t k
    unfold valN atKey at ih ⊢
    rw [List.find?_cons, List.find?_cons]
    by_cases e : q.1 = k
    · have e' : p.1 = k := r.1.trans e
      simp only [e, e', decide_true, Option.map_some]
      exact r.2.2
    · have e' : ¬ p.1 = k := fun z => e (r.1.symm.trans z)
      simp only [e, e', decide_false]
      exact ih
theorem KN.snoc : ∀ {kvs : List KvN} {xs : List (List NK × Addr × Value)} {p : KvN} {q : List NK × Addr × Value}, KN kvs xs → (p.1 = q.1 ∧ p.2.1 = q.2.1 ∧ RelV p.2.2 q.2.2) → KN (kvs ++ [p]) (xs ++ [q])
  | _, _, _, _, .nil, h => .cons h .nil
  | _, _, _, _, .cons r t, h => .cons r (KN.snoc t h)
end FW
namespace FW
open PySem PySem.Spec PyProof.Rows L2
/-! ### x == y, x != y of two instances of a class with its own __eq__ -/
end FW
namespace FWL
open PySem PySem.Spec PyProof.Rows L2 FW
/-! ### average loops of any parts: made or refused; parts, == -/
def Lp.D (l : Lp) : PyData := .tuple [.int l.k, .int l.a, .int l.c, .int l.d, .str l.stop, .str l.told, .str l.mend]
theorem Lp.eqv {l m : Lp} : PyData.eqv l.D m.D = decide (l.V = m.V) := by
  unfold Lp.D
  simp only [PyData.eqv, PyData.eqvAll, Lp.V, List.cons.injEq, V.int.injEq, V.str.injEq, and_true]
  by_cases h1 : l.k = m.k <;> by_cases h2 : l.a = m.a <;> by_cases h3 : l.c = m.c <;> by_cases h4 : l.d = m.d <;> by_cases h5 : l.stop = m.stop <;> by_cases h6 : l.told = m.told <;> by_cases h7 : l.mend = m.mend <;> simp [h1, h2, h3, h4, h5, h6, h7]
theorem e_slA {K : PySem.W.Frag} {H : Hp} {Q : VK} {a : Addr} {xs : List V} {lo hi : Option Int} (q : ∀ p, H p = none → Q (.ref p) (upd H p (.tup (cutV xs lo hi)))) (h : SqT K H a xs) (hn : ¬ (HT.sIx xs.length 0 lo = 0 ∧ HT.sIx xs.length xs.length hi = xs.length)) : rSlA K (.ref a) lo hi H Q :=
  ⟨a, xs, rfl, h, fun z => absurd z hn, fun _ => q⟩
end FWL
namespace FWL
open PySem PySem.Spec PyProof.Rows L2 FW
/-! ### what a round asks -/
def Lp.near (l : Lp) : Int := if l.stop = "near1" then 1 else if l.stop = "near2" then 2 else 0
def Lp.looks (l : Lp) (n x : Int) : Bool := if l.stop = "under" then decide (x ^ l.k.toNat ≤ n) else decide (l.stop = "held") && (decide (x ^ l.k.toNat ≤ n) && decide (n < (x + 1) ^ l.k.toNat))
def absI (i : Int) : Int := if i < 0 then -i else i
def Lp.ends (l : Lp) (x y : Int) (b : Option Int) : Bool := if l.stop = "notless" then decide (x ≤ y) else if l.stop = "near1" ∨ l.stop = "near2" then decide (absI (x - y) ≤ l.near) else
  decide (l.stop = "equal" ∨ l.stop = "back") && (decide (y = x) || (decide (l.stop = "back") && decide (some y = b)))
def Lp.chosen (l : Lp) (x y : Int) : Int := if l.told = "old" then x else if l.told = "new" then y else if l.told = "less" then min x y else max x y
def Lp.mended (l : Lp) (n t : Int) : Int := if (l.mend = "down" ∨ l.mend = "both") ∧ n < t ^ l.k.toNat then t - 1 else if (l.mend = "up" ∨ l.mend = "both") ∧ (t + 1) ^ l.k.toNat ≤ n then t + 1 else t
def nearsK : List (L2.Key × V) := [(.inr "near1", .int 1), (.inr "near2", .int 2)]
theorem near_val (s : Str) : ((valV nearsK (.inr s)).getD (.int 0)) = .int (if s = "near1" then 1 else if s = "near2" then 2 else 0) := by
  by_cases h1 : s = "near1"
  · subst h1; rfl
  · by_cases h2 : s = "near2"
    · subst h2; rfl
    · rw [if_neg h1, if_neg h2]
      unfold nearsK
      rw [valV_neg (by intro z; exact h1 (Sum.inr.inj z).symm), valV_neg (by intro z; exact h2 (Sum.inr.inj z).symm)]
      rfl
def sp_Average_nearness (K : PySem.W.Frag) : Sp := fun vs H Q _ => ∃ (p : Addr) (l : Lp), vs = [.ref p] ∧ IsLp K H p l ∧ ∀ H', Ext H H' → Q (.int l.near) H'
def rd_Average_nearness (K : PySem.W.Frag) : TS := tRet (tDGet2 (tDisp [(tC (.str "near1"), tC (.int 1)), (tC (.str "near2"), tC (.int 2))]) (tFld K (tVar 0) "stop") (tC (.int 0)))
theorem e_get2 {td ty tx : TE} {σ : L2.St} {H : Hp} {Q : VK} (k : td σ H fun x H1 => ∃ a, x = .ref a ∧ IsD H1 a ∧ ty σ H1 fun y H2 => tx σ H2 fun z H3 => ∃ o, DGet H3 a y o ∧ Q (o.getD z) H3) : tDGet2 td ty tx σ H Q := k
theorem pure_Average_nearness (K : PySem.W.Frag) (A : AvK K) (vs : List V) (H : Hp) (Q : VK) (E : XK) (h : sp_Average_nearness K vs H Q E) : rd_Average_nearness K { nx := fun _ H' => Q .non H', rt := Q } (start ["self"] vs) H := by
  obtain ⟨p, l, rfl, ⟨dx, hp⟩, q⟩ := h
  unfold rd_Average_nearness
  walk_at "rd"
  refine e_get2 fun d hd => ?_
  unfold tPairs tPairs tPairs
  walk_at "rd"
  refine ⟨upd_same, nearsK, rfl, by decide, _, rfl, .inl ⟨_, .inl upd_same⟩, ?_⟩
  rw [upd_upd]
  have hp' : (upd H d (.dK (mergeK [] nearsK))) p = some (.ins (He.ga K "Average") dx l.F) := (Ext.new hd) _ _ hp
  walk_at "rd"
  refine ⟨p, _, dx, _, _, rfl, hp', A.cls, A.n_stop, rfl, ?_⟩
  walk_at "rd"
  refine ⟨_, .inl ⟨_, .inr l.stop, .inl upd_same, rfl, rfl⟩, ?_⟩
  have e : mergeK [] nearsK = nearsK := rfl
  rw [e, near_val]
  exact q _ (Ext.new hd)
end FWL
namespace FWL
open PySem PySem.Spec PyProof.Rows L2 FW
/-! ### runs -/
structure Res where
  gs : List Int
  fin : Str
  told : Option Int
  ring : List Int
def prv (l : Lp) (n x : Int) : Nat → Option Int
  | 0 => none
  | j + 1 => some (itr l n x j)
def keyA (l : Lp) (n x : Int) (j : Nat) : List NK := [if l.stop = "back" then prv l n x j else none, some (itr l n x j)]
/-- an earlier round with the key of round i -/
def seenA (l : Lp) (n x : Int) (i : Nat) : Option Nat := (List.range i).find? fun j => decide (keyA l n x j = keyA l n x i)
/-! ### the dict of places -/
theorem valN_range (f : Nat → List NK) (k : List NK) : ∀ (i : Nat) (kvs : List KvN), kvs.map (fun e => (e.1, e.2.2)) = (List.range i).map (fun j => (f j, V.int (j : Int))) → valN kvs k = ((List.range i).find? fun j => decide (f j = k)).map fun (j : Nat) => V.int (j : Int) := by
  intro i kvs h
  have h1 : valN kvs k = ((kvs.map (fun e => (e.1, e.2.2))).find? fun e => decide (e.1 = k)).map (·.2) := by
    unfold valN
    rw [List.find?_map, Option.map_map]
    rfl
  rw [h1, h, List.find?_map, Option.map_map]
  rfl
/-! ### the class Run -/
def IsRn (K : PySem.W.Frag) (H : Hp) (x : Addr) (r : Res) : Prop := ∃ (dx g q : Addr), H x = some (.ins (He.ga K "Run") dx [("guesses", .ref g), ("end", .str r.fin), ("told", nkV r.told), ("ring", .ref q)]) ∧ H g = some (.tup (r.gs.map V.int)) ∧ H q = some (.tup (r.ring.map V.int))
theorem IsRn.ext {K : PySem.W.Frag} {H H' : Hp} {x : Addr} {r : Res} (e : Ext H H') : IsRn K H x r → IsRn K H' x r
  | ⟨dx, g, q, h1, h2, h3⟩ => ⟨dx, g, q, e _ _ h1, e _ _ h2, e _ _ h3⟩
theorem _root_.FW.IsDN.ext {H H' : Hp} {a : Addr} {kvs : List KvN} (e : Ext H H') (h : IsDN H a kvs) : IsDN H' a kvs := ⟨e _ _ h.at', fun x hx => e _ _ (h.keys x hx), h.size⟩
theorem _root_.FW.IsDN.upd {H : Hp} {a g : Addr} {kvs : List KvN} {xs : List V} {o : HO} (h : IsDN H a kvs) (hg : H g = some (.lst xs)) : IsDN (upd H g o) a kvs :=
  ⟨by rw [upd_ne (ne_of h.at' hg (fun z => nomatch z))]; exact h.at', fun x hx => by rw [upd_ne (ne_of (h.keys x hx) hg (fun z => nomatch z))]; exact h.keys x hx, h.size⟩
theorem chosen_or (l : Lp) (x y : Int) : l.chosen x y = x ∨ l.chosen x y = y := by
  unfold Lp.chosen
  split
  · exact .inl rfl
  · split
    · exact .inr rfl
    · split
      · omega
      · omega
/-- the dict of places behind i rounds -/
def Plc (l : Lp) (n x : Int) (i : Nat) (kvs : List KvN) : Prop := kvs.map (fun e => (e.1, e.2.2)) = (List.range i).map (fun j => (keyA l n x j, V.int (j : Int)))
theorem Plc.val {l : Lp} {n x : Int} {i : Nat} {kvs : List KvN} (h : Plc l n x i kvs) : valN kvs (keyA l n x i) = (seenA l n x i).map fun (j : Nat) => V.int (j : Int) := valN_range _ _ i kvs h
theorem Plc.len {l : Lp} {n x : Int} {i : Nat} {kvs : List KvN} (h : Plc l n x i kvs) : kvs.length = i := by
  have := congrArg List.length h
  rw [List.length_map, List.length_map, List.length_range] at this
  exact this
theorem Plc.snoc {l : Lp} {n x : Int} {i : Nat} {kvs : List KvN} {t : Addr} (h : Plc l n x i kvs) : Plc l n x (i + 1) (kvs ++ [(keyA l n x i, t, .int (i : Int))]) := by
  unfold Plc at *
  rw [List.range_succ, List.map_append, List.map_append, h]
  rfl
end FWL
namespace FWL
open PySem PySem.Spec PyProof.Rows L2 FW
/-! ### what runs come to, from any state -/
def oc (r : Res) : L2.Key := if r.fin = "told" then .inl (r.told.getD 0) else .inr r.fin
def endA (l : Lp) (n : Int) (b : Option Int) (x : Int) : Option L2.Key :=
  if l.looks n x = true then some (.inl (l.mended n x)) else if x = 0 then some (.inr "nought")
  else if l.ends x (l.led n x) b = true then some (.inl (l.mended n (l.chosen x (l.led n x)))) else none
def prvS (l : Lp) (n : Int) (b : Option Int) (x : Int) : Nat → Option Int
  | 0 => b
  | j + 1 => some (itr l n x j)
def endS (l : Lp) (n : Int) (b : Option Int) (x : Int) (j : Nat) : Option L2.Key := endA l n (prvS l n b x j) (itr l n x j)
def OcS (l : Lp) (n : Int) (b : Option Int) (x : Int) (o : L2.Key) : Prop :=
  (∃ i, (∀ j, j < i → endS l n b x j = none) ∧ endS l n b x i = some o) ∨ (o = .inr "swings" ∧ ∀ i, endS l n b x i = none)
theorem endS_succ (l : Lp) (n : Int) (b : Option Int) (x : Int) (j : Nat) : endS l n b x (j + 1) = endS l n (some x) (l.led n x) j := by
  have e : ∀ i, itr l n x (i + 1) = itr l n (l.led n x) i := fun i => by rw [Nat.add_comm, itr_add]; rfl
  unfold endS
  rw [e j]
  congr 1
  cases j with
  | zero => rfl
  | succ j => show some (itr l n x (j + 1)) = some (itr l n (l.led n x) j); rw [e j]
theorem ocS_next {l : Lp} {n x : Int} {b : Option Int} {o : L2.Key} (h : endA l n b x = none) : OcS l n b x o ↔ OcS l n (some x) (l.led n x) o := by
  have h0 : endS l n b x 0 = none := h
  constructor
  · rintro (⟨i, hi, e⟩ | ⟨e, hi⟩)
    · cases i with
      | zero => rw [h0] at e; cases e
      | succ i => exact .inl ⟨i, fun j hj => by rw [← endS_succ l n b]; exact hi (j + 1) (by omega), by rw [← endS_succ l n b]; exact e⟩
    · exact .inr ⟨e, fun i => by rw [← endS_succ l n b]; exact hi (i + 1)⟩
  · rintro (⟨i, hi, e⟩ | ⟨e, hi⟩)
    · refine .inl ⟨i + 1, fun j hj => ?_, by rw [endS_succ]; exact e⟩
      cases j with
      | zero => exact h0
      | succ j => rw [endS_succ]; exact hi j (by omega)
    · refine .inr ⟨e, fun i => ?_⟩
      cases i with
      | zero => exact h0
      | succ i => rw [endS_succ]; exact hi i
theorem ocS_eq {l : Lp} {n x : Int} {b b' : Option Int} {o : L2.Key} (h : endA l n b x = endA l n b' x) (z : OcS l n b x o) : OcS l n b' x o := by
  have e : ∀ i, endS l n b x i = endS l n b' x i := fun i => by
    cases i with
    | zero => exact h
    | succ i => rw [endS_succ, endS_succ]
  rcases z with ⟨i, hi, z⟩ | ⟨z, hi⟩
  · exact .inl ⟨i, fun j hj => by rw [← e j]; exact hi j hj, by rw [← e i]; exact z⟩
  · exact .inr ⟨z, fun i => by rw [← e i]; exact hi i⟩
theorem endA_nb {l : Lp} (h : l.stop ≠ "back") (n : Int) (b b' : Option Int) (x : Int) : endA l n b x = endA l n b' x := by
  unfold endA Lp.ends
  rw [decide_eq_false h, Bool.false_and, Bool.false_and]
/-! ### far starts -/
theorem quot_anti {n x z : Int} (hn : 0 ≤ n) (hx : 1 ≤ x) (h : x ≤ z) (j : Nat) : n / z ^ j ≤ n / x ^ j := by
  have p1 := pow_pos' hx j
  have p2 := pow_pos' (show 1 ≤ z by omega) j
  rw [Int.le_ediv_iff_mul_le (by omega)]
  have h1 : n / z ^ j * x ^ j ≤ n / z ^ j * z ^ j := Int.mul_le_mul_of_nonneg_left (pow_mono (by omega) h j) (Int.ediv_nonneg hn (by omega))
  exact Int.le_trans h1 (Int.ediv_mul_le _ (by omega))
theorem led_fall {l : Lp} (o : l.Ok) {n x z : Int} (hn : 0 ≤ n) (hx : 1 ≤ x) (h : x ≤ z) : l.led n z - l.led n x ≤ z - x := by
  have a1 := o.a1; have c1 := o.c1
  have q := quot_anti hn hx h (l.k - 1).toNat
  unfold Lp.led
  generalize n / z ^ (l.k - 1).toNat = q2 at *
  generalize n / x ^ (l.k - 1).toNat = q1 at *
  have e : (l.a * x + l.c * q1 + l.d + (l.a + l.c) * (z - x)) / (l.a + l.c) = (l.a * x + l.c * q1 + l.d) / (l.a + l.c) + (z - x) := Int.add_mul_ediv_left _ _ (by omega)
  have h1 : l.c * q2 ≤ l.c * q1 := Int.mul_le_mul_of_nonneg_left q (by omega)
  have h2 : 0 ≤ l.c * (z - x) := Int.mul_nonneg (by omega) (by omega)
  have h3 : l.a * z + l.c * q2 + l.d ≤ l.a * x + l.c * q1 + l.d + (l.a + l.c) * (z - x) := by
    have e1 : (l.a + l.c) * (z - x) = l.a * z - l.a * x + l.c * (z - x) := by grind
    omega
  have h4 := Int.ediv_le_ediv (show 0 < l.a + l.c by omega) h3
  omega
theorem above_pow {l : Lp} (o : l.Ok) {n r x : Int} (R : RootOf l.k n r) (hx : r + 1 ≤ x) : n < x ^ l.k.toNat := Int.lt_of_lt_of_le R.hi (pow_mono (by have := R.r0; omega) hx _)
theorem led_monoZ {l : Lp} (o : l.Ok) {n r x z : Int} (R : RootOf l.k n r) (hx : r + 1 ≤ x) (h : x ≤ z) : l.led n x ≤ l.led n z := by
  have n0 : 0 ≤ n := Int.le_trans (Int.pow_nonneg R.r0) R.lo
  have := led_mono o n0 (x := x) (by have := R.r0; omega) (above_pow o R hx) (z - x).toNat
  rw [show x + ((z - x).toNat : Int) = z by omega] at this
  exact this
theorem near_cases (l : Lp) : l.near = 0 ∨ l.near = 1 ∨ l.near = 2 := by unfold Lp.near; split <;> (try split) <;> omega
theorem endA_far {l : Lp} (o : l.Ok) {n r x : Int} (R : RootOf l.k n r) (hx : r + 1 ≤ x) (hf : l.led n x < x - l.near) {b : Option Int} (hb : ∀ b', b = some b' → x < b') : endA l n b x = none := by
  have hp := above_pow o R hx
  have hn := near_cases l
  have r0 := R.r0
  have hl : l.looks n x = false := by
    unfold Lp.looks
    rw [decide_eq_false (show ¬ x ^ l.k.toNat ≤ n by omega), Bool.false_and, Bool.and_false]
    split <;> rfl
  have he : l.ends x (l.led n x) b = false := by
    unfold Lp.ends
    rw [decide_eq_false (show ¬ x ≤ l.led n x by omega), decide_eq_false (show ¬ l.led n x = x by omega)]
    split
    · rfl
    · split
      · refine decide_eq_false ?_
        unfold absI
        split <;> omega
      · rw [decide_eq_false (show ¬ some (l.led n x) = b from fun z => by have := hb _ z.symm; omega), Bool.and_false, Bool.or_false, Bool.and_false]
  unfold endA
  rw [hl, he, if_neg (by decide), if_neg (by omega), if_neg (by decide)]
/-- a step from above to one below the root: the step from there leads no further up than the root -/
theorem back_low {l : Lp} (o : l.Ok) {n r x : Int} (R : RootOf l.k n r) (hr : 2 ≤ r) (hx : r + 2 ≤ x) (h : l.led n x ≤ r - 1) : l.led n (r - 1) ≤ r := by
  have h2 : l.led n (r + 2) ≤ r - 1 := Int.le_trans (led_monoZ o R (by omega) hx) h
  obtain ⟨n0, lo, hi⟩ := R
  have a1 := o.a1; have c1 := o.c1; have ca := o.ca; have d0 := o.d0
  unfold Lp.led at h2 ⊢
  have main : ∀ (j : Nat) (t : Int), l.k = j + 1 → (t = 2 ∧ j = 1 ∨ t = 5 ∧ j = 2 ∨ t = 7 ∧ j = 3) → (r - j) * (r + 2) ^ j ≤ (r + t) * (r - 1) ^ j → (l.a * (r - 1) + l.c * (n / (r - 1) ^ (l.k - 1).toNat) + l.d) / (l.a + l.c) ≤ r := by
    intro j t hj ht hle
    have ej : (l.k - 1).toNat = j := by omega
    have ek : l.k.toNat = j + 1 := by omega
    rw [ej] at h2 ⊢
    rw [ek] at lo
    have p1 := pow_pos' (show 1 ≤ r + 2 by omega) j
    have p2 := pow_pos' (show 1 ≤ r - 1 by omega) j
    have ql := q_lo (j := j) (show 0 ≤ r by omega) lo (show 1 ≤ r + 2 by omega)
    have key : n / (r + 2) ^ j < r - j → n / (r - 1) ^ j < r + t := fun hs => by
      rw [Int.ediv_lt_iff_lt_mul (by omega)] at hs ⊢
      exact Int.lt_of_lt_of_le hs hle
    generalize n / (r + 2) ^ j = qa at *
    generalize n / (r - 1) ^ j = qb at *
    have s1 : l.a * (r + 2) + l.c * qa + l.d < r * (l.a + l.c) := (Int.ediv_lt_iff_lt_mul (by omega)).mp (by omega)
    have e1 : l.a * (r + 2) = l.a * r + 2 * l.a := by grind
    have e2 : r * (l.a + l.c) = l.a * r + l.c * r := by grind
    have e3 : l.c * (l.k - 1) = l.c * j := by rw [hj]; congr 1; omega
    have s2 : l.c * (qa + j) < l.c * r := by
      have : l.c * (qa + j) = l.c * qa + l.c * j := by grind
      omega
    have s3 : qa + j < r := Int.lt_of_mul_lt_mul_left s2 (by omega)
    have kk := key (by omega)
    have e4 : ((j : Int) + 1) * r - j * (r + 2) = r - 2 * j := by grind
    rw [e4] at ql
    have s4 : l.c * (r - 2 * j) ≤ l.c * qa := Int.mul_le_mul_of_nonneg_left ql (by omega)
    have e5 : l.c * (r - 2 * j) = l.c * r - 2 * (l.c * j) := by grind
    have s5 : l.c * qb ≤ l.c * (r + t - 1) := Int.mul_le_mul_of_nonneg_left (by omega) (by omega)
    have e6 : l.c * (r + t - 1) = l.c * r + l.c * (t - 1) := by grind
    have e7 : l.a * (r - 1) = l.a * r - l.a := by grind
    have s6 : (l.a * (r - 1) + l.c * qb + l.d) / (l.a + l.c) < r + 1 := by
      rw [Int.ediv_lt_iff_lt_mul (by omega)]
      have e8 : (r + 1) * (l.a + l.c) = l.a * r + l.c * r + l.a + l.c := by grind
      rcases ht with ⟨rfl, rfl⟩ | ⟨rfl, rfl⟩ | ⟨rfl, rfl⟩
      · have z1 : l.c * ((1 : Nat) : Int) = l.c * 1 := rfl
        have z2 : l.c * ((2 : Int) - 1) = l.c * 1 := rfl
        omega
      · have z1 : l.c * ((2 : Nat) : Int) = l.c * 2 := rfl
        have z2 : l.c * ((5 : Int) - 1) = l.c * 4 := rfl
        omega
      · have z1 : l.c * ((3 : Nat) : Int) = l.c * 3 := rfl
        have z2 : l.c * ((7 : Int) - 1) = l.c * 6 := rfl
        omega
    omega
  obtain ⟨u, rfl⟩ : ∃ u : Nat, r = (u : Int) + 2 := ⟨(r - 2).toNat, by omega⟩
  have u0 : (0 : Int) ≤ u := by omega
  have u2 : (0 : Int) ≤ (u : Int) * u := Int.mul_nonneg u0 u0
  have f1 : ((u : Int) + 2 - 1) * (u + 2 + 2) ^ 1 ≤ (u + 2 + 2) * (u + 2 - 1) ^ 1 := by
    have e : ((u : Int) + 2 + 2) * (u + 2 - 1) ^ 1 = ((u : Int) + 2 - 1) * (u + 2 + 2) ^ 1 := by grind
    omega
  have f2 : ((u : Int) + 2 - 2) * (u + 2 + 2) ^ 2 ≤ (u + 2 + 5) * (u + 2 - 1) ^ 2 := by
    have e : ((u : Int) + 2 + 5) * (u + 2 - 1) ^ 2 = ((u : Int) + 2 - 2) * (u + 2 + 2) ^ 2 + (u * u - u + 7) := by grind
    have : (u : Int) ≤ u * u + 1 := by
      rcases Int.lt_or_le (u : Int) 1 with z | z
      · omega
      · have := Int.mul_le_mul_of_nonneg_left z u0; omega
    omega
  have f3 : ((u : Int) + 2 - 3) * (u + 2 + 2) ^ 3 ≤ (u + 2 + 7) * (u + 2 - 1) ^ 3 := by
    have e : ((u : Int) + 2 + 7) * (u + 2 - 1) ^ 3 = ((u : Int) + 2 - 3) * (u + 2 + 2) ^ 3 + (u * u * u - 6 * (u * u) + 12 * u + 73) := by grind
    have h3 : 0 ≤ (u : Int) * ((u - 3) * (u - 3)) := Int.mul_nonneg u0 (by
      rcases Int.lt_or_le (u : Int) 3 with z | z
      · exact Int.mul_nonneg_of_nonpos_of_nonpos (by omega) (by omega)
      · exact Int.mul_nonneg (by omega) (by omega))
    have e2 : (u : Int) * ((u - 3) * (u - 3)) = u * u * u - 6 * (u * u) + 9 * u := by grind
    omega
  rcases o.hk with hk | hk | hk
  · exact main 1 2 (by omega) (.inl ⟨rfl, rfl⟩) f1
  · exact main 2 5 (by omega) (.inr (.inl ⟨rfl, rfl⟩)) f2
  · exact main 3 7 (by omega) (.inr (.inr ⟨rfl, rfl⟩)) f3
/-- starts up to one that falls, and what comes of them in one step: all others come to the same -/
structure Near (l : Lp) (n r last h : Int) : Prop where
  r1 : r + 1 ≤ last
  fall : l.led n (last + 1) < last + 1 - l.near
  lh : last ≤ h
  cl : l.stop = "back" → ∀ z, max 1 r ≤ z → z ≤ last → l.led n z ≤ h ∨ l.led n z = z
theorem Near.falls {l : Lp} (o : l.Ok) {n r last h x : Int} (R : RootOf l.k n r) (N : Near l n r last h) (hx : last + 1 ≤ x) : l.led n x < x - l.near := by
  have n0 : 0 ≤ n := Int.le_trans (Int.pow_nonneg R.r0) R.lo
  have h1 := N.r1; have h2 := N.fall; have r0 := R.r0
  have := led_fall o n0 (x := last + 1) (z := x) (by omega) hx
  omega
theorem Near.far {l : Lp} (o : l.Ok) {n r last h : Int} (R : RootOf l.k n r) (N : Near l n r last h) : ∀ (m : Nat) (x : Int) (b : Option Int), x.toNat = m → last + 1 ≤ x → (∀ b', b = some b' → x < b') → ∃ w, max 1 r ≤ w ∧ w ≤ h + 1 ∧ ∀ k, OcS l n b x k → OcS l n none w k := by
  intro m
  induction m using Nat.strongRecOn with
  | ind m ih =>
    intro x b hm hx hb
    have n0 : 0 ≤ n := Int.le_trans (Int.pow_nonneg R.r0) R.lo
    have r0 := R.r0; have r1 := N.r1; have lh := N.lh
    have nn := near_cases l
    have f := N.falls o R hx
    have ex := endA_far o R (x := x) (by omega) f hb
    rcases Int.lt_or_le (h + 1) x with z | z
    · have hy0 : 0 ≤ l.led n x := led_nonneg o n0 (by omega)
      have hlo : r - 1 ≤ l.led n x := led_lo1 o R (by omega) (by omega)
      rcases Int.lt_or_le last (l.led n x) with y | y
      · obtain ⟨w, w1, w2, w3⟩ := ih _ (by omega) (l.led n x) (some x) rfl (by omega) (fun b' e => by cases e; omega)
        exact ⟨w, w1, w2, fun k hk => w3 k ((ocS_next ex).mp hk)⟩
      · rcases Int.lt_or_le (l.led n x) (max 1 r) with u | u
        · refine ⟨h + 1, by omega, Int.le_refl _, fun k hk => ?_⟩
          have f2 := N.falls o R (x := h + 1) (by omega)
          have ex2 := endA_far o R (x := h + 1) (b := none) (by omega) f2 (fun b' e => nomatch e)
          have m1 : l.led n (h + 1) ≤ l.led n x := led_monoZ o R (by omega) (by omega)
          have m2 : r - 1 ≤ l.led n (h + 1) := led_lo1 o R (by omega) (by omega)
          have m3 : 0 ≤ l.led n (h + 1) := led_nonneg o n0 (by omega)
          have e : l.led n (h + 1) = l.led n x := by omega
          refine (ocS_next ex2).mpr ?_
          rw [e]
          refine ocS_eq ?_ ((ocS_next ex).mp hk)
          by_cases hbk : l.stop = "back"
          · have e0 : ∀ b, l.looks n b = false := fun b => by unfold Lp.looks; rw [hbk]; rfl
            unfold endA
            simp only [e0, Bool.false_eq_true, if_false]
            by_cases hz : l.led n x = 0
            · rw [if_pos hz, if_pos hz]
            · rw [if_neg hz, if_neg hz]
              have ey : l.led n x = r - 1 := by omega
              have bl := back_low o R (x := x) (by omega) (by omega) (by omega)
              have ee : l.ends (l.led n x) (l.led n (l.led n x)) (some x) = l.ends (l.led n x) (l.led n (l.led n x)) (some (h + 1)) := by
                unfold Lp.ends
                rw [ey, decide_eq_false (show ¬ some (l.led n (r - 1)) = some x from fun z => by have := Option.some.inj z; omega), decide_eq_false (show ¬ some (l.led n (r - 1)) = some (h + 1) from fun z => by have := Option.some.inj z; omega)]
              rw [ee]
          · exact endA_nb hbk ..
        · refine ⟨l.led n x, u, by omega, fun k hk => ocS_eq ?_ ((ocS_next ex).mp hk)⟩
          by_cases hbk : l.stop = "back"
          · have hc := N.cl hbk (l.led n x) u y
            have ee : l.ends (l.led n x) (l.led n (l.led n x)) (some x) = l.ends (l.led n x) (l.led n (l.led n x)) none := by
              unfold Lp.ends
              rcases hc with hc | hc
              · rw [decide_eq_false (show ¬ some (l.led n (l.led n x)) = some x from fun z => by have := Option.some.inj z; omega), decide_eq_false (show ¬ some (l.led n (l.led n x)) = none from fun z => nomatch z)]
              · rw [decide_eq_true hc, Bool.true_or, Bool.true_or]
            unfold endA
            rw [ee]
          · exact endA_nb hbk ..
    · exact ⟨x, by omega, z, fun k hk => ocS_eq (by rw [ex, endA_far o R (x := x) (b := none) (by omega) f (fun b' e => nomatch e)]) hk⟩
theorem Near.all {l : Lp} (o : l.Ok) {n r last h : Int} (R : RootOf l.k n r) (N : Near l n r last h) {x : Int} (hx : max 1 r ≤ x) : ∃ w, max 1 r ≤ w ∧ w ≤ h + 1 ∧ ∀ k, OcS l n none x k → OcS l n none w k := by
  rcases Int.lt_or_le last x with z | z
  · exact N.far o R _ x none rfl (by omega) (fun b' e => nomatch e)
  · exact ⟨x, hx, by have := N.lh; omega, fun k hk => hk⟩
end FWL
/-! sorted(set(list of ints)), max(dict with int keys) -/
namespace FW
open PySem PySem.Spec PyProof.Rows L2
end FW
/-! list(range(a, b)), a and b of any size -/
namespace FW
open PySem PySem.Spec PyProof.Rows L2
end FW
namespace FWL
open PySem PySem.Spec PyProof.Rows L2 FW
/-! ### outcomes of all starts -/
/-- what all starts come to -/
def Alo (l : Lp) (n r : Int) (k : L2.Key) : Prop := ∃ x, max 1 r ≤ x ∧ OcS l n none x k
theorem Alo.near {l : Lp} (o : l.Ok) {n r last h : Int} (R : RootOf l.k n r) (N : Near l n r last h) {k : L2.Key} (z : Alo l n r k) : ∃ w, max 1 r ≤ w ∧ w ≤ h + 1 ∧ OcS l n none w k := by
  obtain ⟨x, hx, hk⟩ := z
  obtain ⟨w, w1, w2, w3⟩ := N.all o R hx
  exact ⟨w, w1, w2, w3 k hk⟩
/-! ### numbers ascending, then the words -/
def OrdP (P : L2.Key → Prop) (ks : List L2.Key) : Prop := ∃ (ns : List Int) (b1 b2 : Bool), ns.Pairwise (· < ·) ∧ (∀ i, i ∈ ns ↔ P (.inl i)) ∧ (b1 = true ↔ P (.inr "nought")) ∧ (b2 = true ↔ P (.inr "swings")) ∧
  ks = ns.map Sum.inl ++ ((if b1 then [.inr "nought"] else []) ++ (if b2 then [.inr "swings"] else []))
theorem OrdP.mem {P : L2.Key → Prop} {ks : List L2.Key} (h : OrdP P ks) {k : L2.Key} (hk : ∀ s, k = .inr s → s = "nought" ∨ s = "swings") : k ∈ ks ↔ P k := by
  obtain ⟨ns, b1, b2, h1, h2, h3, h4, rfl⟩ := h
  have m1 : ∀ k : L2.Key, k ∈ (if b1 = true then ([.inr "nought"] : List L2.Key) else []) ↔ b1 = true ∧ k = .inr "nought" := fun k => by cases b1 <;> simp
  have m2 : ∀ k : L2.Key, k ∈ (if b2 = true then ([.inr "swings"] : List L2.Key) else []) ↔ b2 = true ∧ k = .inr "swings" := fun k => by cases b2 <;> simp
  rw [List.mem_append, List.mem_append, m1, m2]
  cases k with
  | inl i =>
    rw [← h2]
    constructor
    · rintro (z | ⟨_, z⟩ | ⟨_, z⟩)
      · obtain ⟨j, hj, e⟩ := List.mem_map.mp z; cases e; exact hj
      · cases z
      · cases z
    · intro z; exact .inl (List.mem_map.mpr ⟨i, z, rfl⟩)
  | inr s =>
    constructor
    · rintro (z | ⟨z1, z⟩ | ⟨z1, z⟩)
      · obtain ⟨j, hj, e⟩ := List.mem_map.mp z; cases e
      · rw [z]; exact h3.mp z1
      · rw [z]; exact h4.mp z1
    · intro z
      rcases hk s rfl with rfl | rfl
      · exact .inr (.inl ⟨h3.mpr z, rfl⟩)
      · exact .inr (.inr ⟨h4.mpr z, rfl⟩)
/-! ### a range of ints -/
def rgZ (a b : Int) : List Int := (List.range (b - a).toNat).map fun i => a + (i : Nat)
theorem mem_rgZ {a b x : Int} : x ∈ rgZ a b ↔ a ≤ x ∧ x < b := by
  unfold rgZ
  rw [List.mem_map]
  constructor
  · rintro ⟨i, hi, rfl⟩
    have := List.mem_range.mp hi; omega
  · rintro ⟨h1, h2⟩
    exact ⟨(x - a).toNat, List.mem_range.mpr (by omega), by omega⟩
theorem rgZ_len (a b : Int) : (rgZ a b).length = (b - a).toNat := by unfold rgZ; rw [List.length_map, List.length_range]
end FWL
namespace FWL
open PySem PySem.Spec PyProof.Rows L2 FW
/-! ### walking with less to say -/
section
variable {K : PySem.W.Frag} {σ : L2.St} {H : Hp} {Q : VK} {R : VK} {D : Ends} {v : V} {i j : Int} {a C dx : Addr} {f : Str} {xs : List V} {fs : List (Str × L2.V)}
theorem ha_fld {R : V → Prop} (h : H a = some (.ins C dx fs)) (c : Cls K C) (n : NoAttr K C f) (l : fs.lookup f = some v) (k : R v) : ∃ a' C dx fs v, V.ref a = .ref a' ∧ H a' = some (.ins C dx fs) ∧ Cls K C ∧ NoAttr K C f ∧ fs.lookup f = some v ∧ R v := ⟨a, C, dx, fs, v, rfl, h, c, n, l, k⟩
theorem ha_ixL (h : H a = some (.lst xs)) (ha : atI xs i = some v) (k : Q v H) : rIxL K (.ref a) (.int i) H Q := e_ixL k (SqL.of h) ha
theorem ha_ixT (h : H a = some (.tup xs)) (ha : atI xs i = some v) (k : Q v H) : rIxT K (.ref a) (.int i) H Q := e_ixT k (SqT.of h) ha
theorem ha_tupL (h : H a = some (.lst xs)) (k : ∀ p H1, H p = none → Ext H H1 → H1 p = some (.tup xs) → Q (.ref p) H1) : FW.rTupS K [.ref a] H Q := e_tupL (fun p hp => k p _ hp (Ext.new hp) upd_same) (SqL.of h)
theorem ha_eqI (k : Q (.bl (decide (i = j))) H) : rEq (.int i) (.int j) H Q := ⟨rfl, by
  have e : decide (V.int i = V.int j) = decide (i = j) := decide_eq_decide.mpr ⟨fun z => by injection z, fun z => by rw [z]⟩
  show Q (.bl (decide (V.int i = V.int j))) H
  rw [e]; exact k⟩
theorem ha_neI (k : Q (.bl (!decide (i = j))) H) : rNe (.int i) (.int j) H Q := ⟨rfl, by
  have e : decide (V.int i = V.int j) = decide (i = j) := decide_eq_decide.mpr ⟨fun z => by injection z, fun z => by rw [z]⟩
  show Q (.bl (!decide (V.int i = V.int j))) H
  rw [e]; exact k⟩
theorem ha_eqS {s t : Str} (k : Q (.bl (decide (s = t))) H) : rEq (.str s) (.str t) H Q := ⟨rfl, by
  have e : decide (V.str s = V.str t) = decide (s = t) := decide_eq_decide.mpr ⟨fun z => by injection z, fun z => by rw [z]⟩
  show Q (.bl (decide (V.str s = V.str t))) H
  rw [e]; exact k⟩
theorem ha_neS {s t : Str} (k : Q (.bl (!decide (s = t))) H) : rNe (.str s) (.str t) H Q := ⟨rfl, by
  have e : decide (V.str s = V.str t) = decide (s = t) := decide_eq_decide.mpr ⟨fun z => by injection z, fun z => by rw [z]⟩
  show Q (.bl (!decide (V.str s = V.str t))) H
  rw [e]; exact k⟩
theorem ha_intD {p : Prop} [Decidable p] (k : Q (.int (if p then 1 else 0)) H) : rInt1 [.bl (decide p)] H Q := .inr ⟨_, rfl, by
  have e : (if decide p = true then (1 : Int) else 0) = if p then 1 else 0 := by
    by_cases h : p
    · rw [if_pos h, if_pos (decide_eq_true h)]
    · rw [if_neg h, if_neg (fun z => h (of_decide_eq_true z))]
  show Q (.int (if decide p = true then 1 else 0)) H
  rw [e]; exact k⟩
theorem ha_app {ys : List V} (h : H a = some (.lst ys)) (z : ys.length < sizeLine) (k : Q .non (upd H a (.lst (ys ++ [v])))) : rAppend (.ref a) [v] H Q := ⟨a, ys, v, rfl, rfl, h, z, k⟩
end
theorem al_of {H G : Hp} {p : Addr} {o : HO} (hp : H p = none) (e : upd H p o = G) : Ext H G ∧ G p = some o := by subst e; exact ⟨Ext.new hp, upd_same⟩
theorem ha_tyL {K : PySem.W.Frag} {H : Hp} {a : Addr} {xs : List V} {P : Prop} (h : H a = some (.lst xs)) (k : P) : tyV K "list" (.ref a) H ∧ P := ⟨.inl ⟨rfl, _, SqL.of h⟩, k⟩
/-! ### rows and picks -/
def strsOf (vs : List V) : List Str := vs.filterMap fun v => match v with | .str s => some s | _ => none
def intsOf (vs : List V) : List Int := vs.filterMap fun v => match v with | .int i => some i | _ => none
section
variable {K : PySem.W.Frag} {H : Hp} {Q : VK} {a : Addr} {i j : Int} {vs : List V}
theorem ha_row {xs : List Int} {n : Nat} (h : H a = some (.lst (xs.map V.int))) (hr : Row xs n) (h0 : 0 ≤ i) (h1 : i < n) (k : ∀ x, 0 ≤ x → x < 1000 → Q (.int x) H) : rIxL K (.ref a) (.int i) H Q := by
  obtain ⟨x, x0, x1, hx⟩ := row_at hr h0 h1
  exact e_ixL (k x x0 x1) (SqL.of h) hx
theorem ha_pick (h : H a = some (.lst vs)) (h0 : 0 ≤ i) (h1 : i < (vs.length : Int)) (k : ∀ v ∈ vs, Q v H) : rIxL K (.ref a) (.int i) H Q := by
  obtain ⟨v, hv, hat⟩ := list_at h0 h1
  exact e_ixL (k v hv) (SqL.of h) hat
theorem ha_pickS (h : H a = some (.lst vs)) (e : vs = (strsOf vs).map V.str) (h0 : 0 ≤ i) (h1 : i < (vs.length : Int)) (k : ∀ w, w ∈ strsOf vs → Q (.str w) H) : rIxL K (.ref a) (.int i) H Q := by
  refine ha_pick h h0 h1 fun v hv => ?_
  rw [e] at hv
  obtain ⟨w, hw, rfl⟩ := List.mem_map.mp hv
  exact k w hw
theorem ha_pickI (h : H a = some (.lst vs)) (e : vs = (intsOf vs).map V.int) (h0 : 0 ≤ i) (h1 : i < (vs.length : Int)) (k : ∀ w, w ∈ intsOf vs → Q (.int w) H) : rIxL K (.ref a) (.int i) H Q := by
  refine ha_pick h h0 h1 fun v hv => ?_
  rw [e] at hv
  obtain ⟨w, hw, rfl⟩ := List.mem_map.mp hv
  exact k w hw
theorem ha_cat {xs ys : List V} {b : Addr} (h : H a = some (.lst xs)) (h' : H b = some (.lst ys)) (hz : xs.length + ys.length ≤ sizeLine) (k : ∀ p G, H p = none → Ext H G → G p = some (.lst (xs ++ ys)) → Q (.ref p) G) : rCat (.ref a) (.ref b) H Q := e_cat (fun p hp => k p _ hp (Ext.new hp) upd_same) h h' hz
theorem ha_len {xs : List V} (h : H a = some (.lst xs)) (k : Q (.int xs.length) H) : Evl.rLenS K [.ref a] H Q := e_len k (.inl (SqL.of h))
theorem ha_lenT {xs : List V} (h : H a = some (.tup xs)) (k : Q (.int xs.length) H) : Evl.rLenS K [.ref a] H Q := e_len k (.inr (SqT.of h))
theorem ha_gT {gs : TGs} {R : L2.St → Hp → Prop} {σ : L2.St} {n : Nat} {xs : List V} (h : H a = some (.tup xs)) (hl : xs.length = n) (k : gs xs σ H R) : gTup K n gs (.ref a) σ H R := g_tup k (SqT.of h) hl
theorem ha_gL {gs : TGs} {R : L2.St → Hp → Prop} {σ : L2.St} {n : Nat} {xs : List V} (h : H a = some (.lst xs)) (hl : xs.length = n) (k : gs xs σ H R) : gLst K n gs (.ref a) σ H R := ⟨a, xs, rfl, SqL.of h, hl, k⟩
end
theorem ha_mod {H : Hp} {Q : VK} {i j : Int} (h : 0 < j) (k : ∀ m : Int, 0 ≤ m → m < j → m = i % j → Q (.int m) H) : FW.rMod (.int i) (.int j) H Q := e_I (k _ (Int.emod_nonneg _ (by omega)) (Int.emod_lt_of_pos _ h) rfl) h
theorem ha_lenN {K : PySem.W.Frag} {H : Hp} {Q : VK} {a : Addr} {xs : List V} {n : Nat} (h : H a = some (.lst xs)) (e : xs.length = n) (k : Q (.int n) H) : Evl.rLenS K [.ref a] H Q := by subst e; exact ha_len h k
theorem mk_of {H G : Hp} {x dx C : Addr} (hx : H x = none) (hd : H dx = none) (hne : dx ≠ x) (e : upd (upd H dx (.own x)) x (.ins C dx []) = G) : Ext H G ∧ G x = some (.ins C dx []) := by
  subst e
  exact ⟨(Ext.new hd).tr (Ext.new (by rw [upd_ne hne.symm]; exact hx)), upd_same⟩
theorem ha_mt {H : Hp} {p C dx : Addr} {fs : List (Str × L2.V)} {m : Str} {T : Prop} (h : H p = some (.ins C dx fs)) (l : fs.lookup m = none) (k : T) : ∃ a dx fs, V.ref p = .ref a ∧ H a = some (.ins C dx fs) ∧ fs.lookup m = none ∧ T := ⟨p, dx, fs, rfl, h, l, k⟩
theorem ap_of {H G : Hp} {a : Addr} {xs ys : List V} (h : H a = some (.lst xs)) (e : upd H a (.lst ys) = G) : G a = some (.lst ys) ∧ (∀ b C dx fs, H b = some (.ins C dx fs) → G b = some (.ins C dx fs)) ∧ (∀ b zs, H b = some (.tup zs) → G b = some (.tup zs)) ∧ ExtB a H G := by
  subst e
  exact ⟨upd_same, fun b C dx fs q => by rw [upd_ne (ne_of q h (fun z => nomatch z))]; exact q, fun b zs q => by rw [upd_ne (ne_of q h (fun z => nomatch z))]; exact q, ExtB.upd⟩
end FWL
local macro_rules | `(tactic| walk_at "rh") => `(tactic| first | assumption | solve_by_elim (maxDepth := 40))
local macro_rules | `(tactic| walk_at "rE") => `(tactic| (intro xa xo xh; solve_by_elim (maxDepth := 60)))
local macro_rules | `(tactic| walk_at "rc") => `(tactic| assumption)
local macro_rules | `(tactic| walk_at "rq") => `(tactic| first | decide | omega | exact L2.wide_div (b := 10) (by decide) (by decide) (by decide) (by decide) | (constructor <;> omega))
set_option hygiene false in
local macro_rules | `(tactic| walk_at "rn") => `(tactic| (intro nt nz; generalize hG : L2.upd _ nt _ = nH; obtain ⟨ne, nh⟩ := FWL.al_of nz hG; clear hG))
set_option hygiene false in
local macro_rules | `(tactic| walk_at "rz1") => `(tactic| first
  | ((with_reducible refine FWL.ha_mod (by walk_at "rq") ?_); intro md md0 md1 mdh)
  | (with_reducible first | refine FWL.ha_eqI ?_ | refine FWL.ha_eqS ?_ | refine FWL.ha_neI ?_ | refine FWL.ha_neS ?_ | refine FWL.ha_intD ?_ | refine FW.e_I ?_ (by walk_at "rq"))
  | walk_at "re1"
  | (refine ⟨Nat.le_of_ble_eq_true rfl, ?_⟩; walk_at "rn")
  | ((with_reducible apply FWL.ha_fld); (next => walk_at "rh"); (next => walk_at "rc"); (next => walk_at "rc"); (next => rfl))
  | ((with_reducible apply FWL.ha_mt); (next => walk_at "rh"); (next => rfl))
  | ((with_reducible apply FWL.ha_ixL); (next => walk_at "rh"); (next => rfl))
  | ((with_reducible apply FWL.ha_ixT); (next => walk_at "rh"); (next => rfl))
  | ((with_reducible refine FWL.ha_row (by walk_at "rh") (by assumption) (by omega) (by omega) ?_); intro xr xr0 xr1)
  | (with_reducible refine FWL.ha_pickI (by walk_at "rh") (by with_unfolding_all rfl) (by omega) (by (simp only [List.length_cons, List.length_nil]; omega)) ?_; intro w hw; simp only [FWL.strsOf, FWL.intsOf, List.filterMap_cons, List.filterMap_nil, List.mem_cons, List.not_mem_nil, or_false] at hw)
  | (with_reducible refine FWL.ha_pickS (by walk_at "rh") (by with_unfolding_all rfl) (by omega) (by (simp only [List.length_cons, List.length_nil]; omega)) ?_; intro w hw; simp only [FWL.strsOf, FWL.intsOf, List.filterMap_cons, List.filterMap_nil, List.mem_cons, List.not_mem_nil, or_false] at hw)
  | ((with_reducible refine FWL.ha_pick (by walk_at "rh") (by omega) (by (simp only [List.length_cons, List.length_nil]; omega)) ?_); intro pv hpv; simp only [List.mem_cons, List.not_mem_nil, or_false] at hpv)
  | ((with_reducible refine FWL.ha_cat (by walk_at "rh") (by walk_at "rh") (Nat.le_of_ble_eq_true (by with_unfolding_all rfl)) ?_); intro nt nH nz ne nh; try simp only [List.cons_append, List.nil_append] at nh)
  | ((with_reducible refine FWL.ha_tupL (by walk_at "rh") ?_); intro nt nH nz ne nh)
  | ((with_reducible refine FWL.e_max1 ?_ (by walk_at "rh")); intro mx hmx mx1 mx2)
  | ((with_reducible refine FWL.e_min1 ?_ (by walk_at "rh")); intro mn hmn mn1 mn2)
  | ((with_reducible apply FWL.ha_lenN); (next => walk_at "rh"); (next => (simp only [List.length_cons, List.length_nil, List.length_append, Nat.reduceAdd]; rfl)))
  | (with_reducible refine FWL.ha_len (by walk_at "rh") ?_)
  | (with_reducible refine FWL.ha_gT (by walk_at "rh") (by with_unfolding_all rfl) ?_)
  | (with_reducible refine FWL.ha_gL (by walk_at "rh") (by with_unfolding_all rfl) ?_)
  | (with_reducible refine FWL.ha_tyL (by walk_at "rh") ?_)
  | (intro nt nd nz nzd nne; generalize hG : L2.upd (L2.upd _ nd _) nt _ = nH; obtain ⟨ne, nh⟩ := FWL.mk_of nz nzd nne hG; clear hG nzd nne))
local macro_rules | `(tactic| walk_at "ry") => `(tactic| repeat (walk_at "rz1"))
local macro_rules | `(tactic| walk_at "rx") => `(tactic| repeat (first | walk_at "rz1" | walk_at "rs1"))
namespace FWL
open PySem PySem.Spec PyProof.Rows L2 FW
/-! ### outcomes told: the walk -/
def Lp.top (l : Lp) : Int := 1 + max 0 (l.d + l.near * (l.a + l.c)) / (l.c * l.k)
theorem top_bound {l : Lp} (o : l.Ok) : 1 ≤ l.top ∧ l.top ≤ 19 := by
  have nn := near_cases l
  have hc := o.cases
  have d0 := o.d0; have d1 := o.d1
  unfold Lp.top
  revert nn
  generalize l.near = e
  intro nn
  clear o
  obtain ⟨k, a, c, d, st, td, md⟩ := l
  dsimp only at *
  simp only [List.mem_cons, Prod.mk.injEq, List.not_mem_nil, or_false] at hc
  rcases nn with rfl | rfl | rfl <;> rcases hc with ⟨rfl, rfl, rfl⟩ | ⟨rfl, rfl, rfl⟩ | ⟨rfl, rfl, rfl⟩ | ⟨rfl, rfl, rfl⟩ | ⟨rfl, rfl, rfl⟩ | ⟨rfl, rfl, rfl⟩ | ⟨rfl, rfl, rfl⟩ | ⟨rfl, rfl, rfl⟩ | ⟨rfl, rfl, rfl⟩ | ⟨rfl, rfl, rfl⟩ | ⟨rfl, rfl, rfl⟩ | ⟨rfl, rfl, rfl⟩ | ⟨rfl, rfl, rfl⟩ | ⟨rfl, rfl, rfl⟩ | ⟨rfl, rfl, rfl⟩ | ⟨rfl, rfl, rfl⟩ | ⟨rfl, rfl, rfl⟩
  all_goals omega
end FWL
namespace FWL
open PySem PySem.Spec PyProof.Rows L2 FW
/-! ### comprehensions whose items are made by calls -/
section
variable {K : PySem.W.Frag} {H : Hp} {σ : L2.St} {Q : VK} {a : Addr} {xs : List V} {n : Nat} {tt : TT} {te : TE} {P : V → V → Prop} {p : V → Bool}
def LcI (D : Addr) (P : V → V → Prop) (zs : List V) (H : Hp) (H' : Hp) : Prop := Ext H H' ∧ ∃ acc, H' D = some (.lst acc) ∧ Paired P zs acc
theorem lcx_step {D : Addr} {i : Nat} {x : V} {H' : Hp} (hD : H D = none) (hl : xs.length ≤ 1000000) (hx : xs[i]? = some x) (hw : ∀ v : V, wipe ((wipe σ [n]).set n (some v)) [n] = wipe σ [n])
    (ht : ∀ x ∈ xs, ∀ (H' : Hp) (R : Bool → Hp → Prop), Ext H H' → (∀ H'', Ext H' H'' → R (p x) H'') → tt ((wipe σ [n]).set n (some x)) H' R)
    (he : ∀ x ∈ xs, p x = true → ∀ (H' : Hp) (R : VK), Ext H H' → (∀ v H'', Ext H' H'' → P x v → R v H'') → te ((wipe σ [n]).set n (some x)) H' R)
    (h : LcI D P ((xs.take i).filter p) H H') :
    gName n x (wipe σ [n]) H' fun σ2 H2 => wipe σ2 [n] = wipe σ [n] ∧ tt σ2 H2 fun b H3 =>
      if b = true then te σ2 H3 fun y H4 => ∃ acc, H4 D = some (.lst acc) ∧ acc.length < sizeLine ∧ LcI D P ((xs.take (i + 1)).filter p) H (upd H4 D (.lst (acc ++ [y]))) else LcI D P ((xs.take (i + 1)).filter p) H H3 := by
  obtain ⟨e, acc, hacc, hp⟩ := h
  have hi := (List.getElem?_eq_some_iff.mp hx).1
  have hm : x ∈ xs := List.mem_of_getElem? hx
  have et : xs.take (i + 1) = xs.take i ++ [x] := by rw [List.take_add_one, hx]; rfl
  refine g_name ⟨hw _, ht x hm _ _ e fun H2 e2 => ?_⟩
  cases hpx : p x with
  | true =>
    rw [if_pos rfl]
    refine he x hm hpx _ _ (e.tr e2) fun v H4 e4 hv => ⟨acc, e4 _ _ (e2 _ _ hacc), ?_, ((e.tr e2).tr e4).upds hD, _, upd_same, ?_⟩
    · have h1 := hp.length
      have h2 := List.length_filter_le p (xs.take i)
      rw [List.length_take] at h2
      show _ < 2 ^ 24
      omega
    · rw [et, List.filter_append, List.filter_cons_of_pos hpx, List.filter_nil]
      exact Paired.snoc hp hv
  | false =>
    rw [if_neg (by decide)]
    refine ⟨e.tr e2, acc, e2 _ _ hacc, ?_⟩
    rw [et, List.filter_append, List.filter_cons_of_neg (by rw [hpx]; decide), List.filter_nil, List.append_nil]
    exact hp
theorem lcLX (h : SqL K H a xs) (hl : xs.length ≤ 1000000) (hw : ∀ v : V, wipe ((wipe σ [n]).set n (some v)) [n] = wipe σ [n])
    (ht : ∀ x ∈ xs, ∀ (H' : Hp) (R : Bool → Hp → Prop), Ext H H' → (∀ H'', Ext H' H'' → R (p x) H'') → tt ((wipe σ [n]).set n (some x)) H' R)
    (he : ∀ x ∈ xs, p x = true → ∀ (H' : Hp) (R : VK), Ext H H' → (∀ v H'', Ext H' H'' → P x v → R v H'') → te ((wipe σ [n]).set n (some x)) H' R)
    (q : ∀ D G ys, H D = none → Ext H G → G D = some (.lst ys) → Paired P (xs.filter p) ys → Q (.ref D) G) : LcK (gName n) tt te [n] σ Q (Itl K a) H := by
  intro D hD
  refine lc_list (K := K) (a := a) (xs := xs) (fun i H' => LcI D P ((xs.take i).filter p) H H') ⟨Ext.new hD, [], upd_same, .nil⟩ (fun i H' _ h' => h'.1.sqL h) ?_ ?_
  · rintro i x H' hx h'
    exact lcx_step hD hl hx hw ht he h'
  · rintro H' ⟨e, acc, hacc, hp⟩
    rw [List.take_of_length_le (Nat.le_refl _)] at hp
    exact q D H' acc hD e hacc hp
theorem lcTX (h : SqT K H a xs) (hl : xs.length ≤ 1000000) (hw : ∀ v : V, wipe ((wipe σ [n]).set n (some v)) [n] = wipe σ [n])
    (ht : ∀ x ∈ xs, ∀ (H' : Hp) (R : Bool → Hp → Prop), Ext H H' → (∀ H'', Ext H' H'' → R (p x) H'') → tt ((wipe σ [n]).set n (some x)) H' R)
    (he : ∀ x ∈ xs, p x = true → ∀ (H' : Hp) (R : VK), Ext H H' → (∀ v H'', Ext H' H'' → P x v → R v H'') → te ((wipe σ [n]).set n (some x)) H' R)
    (q : ∀ D G ys, H D = none → Ext H G → G D = some (.lst ys) → Paired P (xs.filter p) ys → Q (.ref D) G) : LcK (gName n) tt te [n] σ Q (Itt K a) H := by
  intro D hD
  refine lc_tup (K := K) (a := a) (xs := xs) (fun i H' => LcI D P ((xs.take i).filter p) H H') ⟨Ext.new hD, [], upd_same, .nil⟩ (fun i H' _ h' => h'.1.sqT h) ?_ ?_
  · rintro i x H' hx h'
    exact lcx_step hD hl hx hw ht he h'
  · rintro H' ⟨e, acc, hacc, hp⟩
    rw [List.take_of_length_le (Nat.le_refl _)] at hp
    exact q D H' acc hD e hacc hp
end
theorem paired_eq {α : Type} : ∀ {xs ys : List α}, Paired (fun x v => v = x) xs ys → ys = xs
  | _, _, .nil => rfl
  | _, _, .cons h t => by rw [h, paired_eq t]
end FWL
namespace FWL
open PySem PySem.Spec PyProof.Rows L2 FW
/-! ### the law's own run -/
def sp_l_near (K : PySem.W.Frag) : Sp := fun vs H Q _ => ∃ (t : Addr) (l : Lp), vs = [.ref t] ∧ H t = some (.tup l.V) ∧ ∀ H', Ext H H' → Q (.int l.near) H'
def rd_l_near (K : PySem.W.Frag) : TS := tRet (tDGet2 (tDisp [(tC (.str "near1"), tC (.int 1)), (tC (.str "near2"), tC (.int 2))]) (tOp (rIxT K) (tVar 0) (tC (.int 4))) (tC (.int 0)))
theorem pure_l_near (K : PySem.W.Frag) (vs : List V) (H : Hp) (Q : VK) (E : XK) (h : sp_l_near K vs H Q E) : rd_l_near K { nx := fun _ H' => Q .non H', rt := Q } (start ["_law_parts_here"] vs) H := by
  obtain ⟨t, l, rfl, ht, q⟩ := h
  unfold rd_l_near
  walk_at "rd"
  refine e_get2 fun d hd => ?_
  unfold tPairs tPairs tPairs
  walk_at "rd"
  refine ⟨upd_same, nearsK, rfl, by decide, _, rfl, .inl ⟨_, .inl upd_same⟩, ?_⟩
  rw [upd_upd]
  have ht' : (upd H d (.dK (mergeK [] nearsK))) t = some (.tup l.V) := (Ext.new hd) _ _ ht
  walk_at "rd"
  refine e_ixT ?_ (SqT.of ht') rfl
  walk_at "rd"
  refine ⟨_, .inl ⟨_, .inr l.stop, .inl upd_same, rfl, rfl⟩, ?_⟩
  have e : mergeK [] nearsK = nearsK := rfl
  rw [e, near_val]
  exact q _ (Ext.new hd)
theorem Lp.Ok.stops {l : Lp} (o : l.Ok) : l.stop = "notless" ∨ l.stop = "equal" ∨ l.stop = "near1" ∨ l.stop = "near2" ∨ l.stop = "back" ∨ l.stop = "under" ∨ l.stop = "held" := by
  have h := o.hs
  simp only [stopsV, List.mem_cons, V.str.injEq, List.not_mem_nil, or_false] at h
  exact h
end FWL
namespace FWL
open PySem PySem.Spec PyProof.Rows L2 FW
/-! ### what tells tells: for the laws -/
theorem RootOf.same {k n r r' : Int} (R : RootOf k n r) (R' : RootOf k n r') : r = r' := by
  obtain ⟨r0, lo, hi⟩ := R
  obtain ⟨r0', lo', hi'⟩ := R'
  rcases Int.lt_trichotomy r r' with h | h | h
  · have := pow_mono (show 0 ≤ r + 1 by omega) (show r + 1 ≤ r' by omega) k.toNat; omega
  · exact h
  · have := pow_mono (show 0 ≤ r' + 1 by omega) (show r' + 1 ≤ r by omega) k.toNat; omega
def KsOk (ks : List L2.Key) : Prop := ∀ s : Str, .inr s ∈ ks → s = "nought" ∨ s = "swings"
theorem OrdP.ok {P : L2.Key → Prop} {ks : List L2.Key} (h : OrdP P ks) : KsOk ks := by
  obtain ⟨ns, b1, b2, h1, h2, h3, h4, rfl⟩ := h
  intro s hs
  rcases List.mem_append.mp hs with z | z
  · obtain ⟨j, hj, e⟩ := List.mem_map.mp z; cases e
  · rcases List.mem_append.mp z with z | z
    · cases b1
      · cases z
      · exact .inl (Sum.inr.inj (List.mem_singleton.mp z))
    · cases b2
      · cases z
      · exact .inr (Sum.inr.inj (List.mem_singleton.mp z))
end FWL
namespace FWL
open PySem PySem.Spec PyProof.Rows L2 FW
/-! ### tables: polynomials, exactly -/
section
variable {K : PySem.W.Frag} {H : Hp} {Q : VK} {E : XK} {a b : Addr} {ns ms : List Int} {m n p q : Nat}
theorem lessP (hA : SqA K H a (ns.map V.int)) (hB : SqT K H b (ms.map V.int)) (h1 : ns.length ≤ 100) (h2 : ms.length ≤ 100) (k : ∀ t H', H t = none → Ext H H' → H' t = some (.tup ((pLess ns ms).map V.int)) → Q (.ref t) H') : sp_poly_less K [.ref a, .ref b] H Q E :=
  ⟨a, b, ns, ms, rfl, hA, hB, h1, h2, fun t cs H' ht e h hv hl => by
    rw [pv_uniq (ds := pLess ns ms) (fun r => by rw [hv, pv_less]) hl (trm_last _)] at h
    exact k t H' ht e h⟩
theorem sumP (hA : SqA K H a (ns.map V.int)) (hB : SqA K H b (ms.map V.int)) (h1 : ns.length ≤ 100) (h2 : ms.length ≤ 100) (k : ∀ t H', H t = none → Ext H H' → H' t = some (.tup ((pAdd ns ms).map V.int)) → Q (.ref t) H') : sp_poly_sum K [.ref a, .ref b] H Q E :=
  ⟨a, b, ns, ms, rfl, hA, hB, h1, h2, fun t cs H' ht e h hv hl _ _ => by
    rw [pv_uniq (ds := pAdd ns ms) (fun r => by rw [hv, pv_add]) hl (trm_last _)] at h
    exact k t H' ht e h⟩
theorem mulP (hA : SqA K H a (ns.map V.int)) (hB : SqA K H b (ms.map V.int)) (h1 : PZ m p ns) (h2 : PZ n q ms) (hm : m ≤ 8) (hn : n ≤ 8) (hp : p + q ≤ 1000) (k : ∀ t H', H t = none → Ext H H' → H' t = some (.tup ((pMul ns ms).map V.int)) → PZ (m + n) (p + q + 7) (pMul ns ms) → Q (.ref t) H') : sp_poly_product K [.ref a, .ref b] H Q E :=
  ⟨a, b, ns, ms, p, q, rfl, hA, hB, by have := h1.1; omega, by have := h2.1; omega, h1.2, h2.2, by omega, fun t cs H' ht e h hv hl hc hlen => by
    rw [pv_uniq (ds := pMul ns ms) (fun r => by rw [hv, pv_mul]) hl (trm_last _)] at h hc hlen
    refine k t H' ht e h ⟨by have := h1.1; have := h2.1; omega, fun c hcm => ?_⟩
    have h3 := hc c hcm
    have h4 : ns.length * ms.length ≤ 8 * 8 := Nat.mul_le_mul (by have := h1.1; omega) (by have := h2.1; omega)
    have h5 : ns.length * ms.length * 2 ^ (p + q) ≤ 64 * 2 ^ (p + q) := Nat.mul_le_mul_right _ h4
    have h6 : (2 : Nat) ^ (p + q + 7) = 128 * 2 ^ (p + q) := by rw [Nat.pow_add]; omega
    have h7 : 0 < (2 : Nat) ^ (p + q) := Nat.pow_pos (by decide)
    show c.natAbs < 2 ^ (p + q + 7)
    omega⟩
end
theorem PZ.len {m b : Nat} {cs : List Int} (h : PZ m b cs) (hm : m ≤ 100) : cs.length ≤ 100 := Nat.le_trans h.1 hm
theorem pz1 {b : Nat} {c : Int} (h : Sz b c) (hb : 1 ≤ b) : PZ 2 b [c, 1] := ⟨Nat.le_refl _, fun x hx => by
  simp only [List.mem_cons, List.not_mem_nil, or_false] at hx
  rcases hx with rfl | rfl
  · exact h
  · exact Sz.mono (show Sz 1 1 from by decide) hb⟩
def sp_poly_power (K : PySem.W.Frag) : Sp := fun vs H Q _ => ∃ (a : Addr) (p : List Int) (k : Int) (b : Nat), vs = [.ref a, .int k] ∧ H a = some (.tup (p.map V.int)) ∧ PZ 2 b p ∧ b ≤ 100 ∧ 0 ≤ k ∧ k ≤ 4 ∧
  ∀ t H', Ext H H' → H' t = some (.tup ((pPow p k.toNat).map V.int)) → PZ (2 * k.toNat + 1) (k.toNat * (b + 7) + 1) (pPow p k.toNat) → Q (.ref t) H'
def rd_poly_power_L1 (K : PySem.W.Frag) : TS := tAsg (tCall (sp_poly_product K) [] E0 (tCons (tVar 2) (tCons (tVar 0) (tNil)))) (gName 2)
def rd_poly_power (K : PySem.W.Frag) : TS := tSeq (tAsg (tTup (tCons (tC (.int 1)) (tNil))) (gName 2)) (tSeq (tFor (iRng1 (tCons (tVar 1) (tNil))) (gName 3) (rd_poly_power_L1 K)) (tRet (tVar 2)))
theorem pure_poly_power (K : PySem.W.Frag) (vs : List V) (H : Hp) (Q : VK) (E : XK) (h : sp_poly_power K vs H Q E) : rd_poly_power K { nx := fun _ H' => Q .non H', rt := Q } (start ["poly", "k", "found", "turn"] vs) H := by
  obtain ⟨a, p, k, b, rfl, ha, hp, hb, k0, k4, q⟩ := h
  unfold rd_poly_power
  walk_at "rx"
  rotate_left
  · constructor <;> omega
  refine for_range (lo := 0) (n := k.toNat) (fun i σ H' => Ext H H' ∧ ∃ (t : Addr) (u : Option V), H' t = some (.tup ((pPow p i).map V.int)) ∧ PZ (2 * i + 1) (i * (b + 7) + 1) (pPow p i) ∧ σ = [some (.ref a), some (.int k), some (.ref t), u]) ⟨ne, nt, _, nh, ⟨Nat.le_refl _, fun c hc => by rw [List.mem_singleton.mp hc, Nat.zero_mul]; show (1 : Nat) < 2 ^ (0 + 1); decide⟩, rfl⟩ ?_ ?_
  · rintro i σ H' hi ⟨e, t, u, ht, hz, rfl⟩
    refine g_name ?_
    unfold rd_poly_power_L1
    walk_at "rx"
    have i1 : i * (b + 7) ≤ 3 * 107 := Nat.mul_le_mul (by omega) (by omega)
    refine mulP (.inr (SqT.of ht)) (.inr (SqT.of (e _ _ ha))) hz hp (by omega) (by omega) (by omega) fun t2 H2 _ e2 h2 z2 => ?_
    refine ⟨e.tr e2, t2, _, h2, z2.mono (by omega) ?_, rfl⟩
    rw [Nat.succ_mul]; omega
  · rintro σ H' ⟨e, t, u, ht, hz, rfl⟩
    walk_at "rx"
    exact q t H' e ht hz
def endP (k : Int) : List Int := pLess (pPow [1, 1] k.toNat) (pPow [0, 1] k.toNat)
def restP (k i j : Int) : List Int := pLess (pMul (pPow [i, 1] (k - 1).toNat) [j - (k - 1) * i, 1]) (pPow [0, 1] k.toNat)
def sp_end_poly (K : PySem.W.Frag) : Sp := fun vs H Q _ => ∃ k : Int, vs = [.int k] ∧ 2 ≤ k ∧ k ≤ 4 ∧ ∀ t H', H t = none → Ext H H' → H' t = some (.tup ((endP k).map V.int)) → PZ 9 40 (endP k) → Q (.ref t) H'
def rd_end_poly (K : PySem.W.Frag) : TS := tRet (tCall (sp_poly_less K) [] E0 (tCons (tCall (sp_poly_power K) [] E0 (tCons (tTup (tCons (tC (.int 1)) (tCons (tC (.int 1)) (tNil)))) (tCons (tVar 0) (tNil)))) (tCons (tCall (sp_poly_power K) [] E0 (tCons (tTup (tCons (tC (.int 0)) (tCons (tC (.int 1)) (tNil)))) (tCons (tVar 0) (tNil)))) (tNil))))
theorem pure_end_poly (K : PySem.W.Frag) (vs : List V) (H : Hp) (Q : VK) (E : XK) (h : sp_end_poly K vs H Q E) : rd_end_poly K { nx := fun _ H' => Q .non H', rt := Q } (start ["k"] vs) H := by
  obtain ⟨k, rfl, k2, k4, q⟩ := h
  unfold rd_end_poly
  walk_at "rx"
  refine ⟨nt, [1, 1], k, 1, rfl, nh, pz1 (by decide) (by decide), by decide, by omega, k4, fun t1 H1 e1 h1 z1 => ?_⟩
  have e01 := ne.tr e1
  clear ne nh
  walk_at "rx"
  refine ⟨nt, [0, 1], k, 1, rfl, nh, pz1 (by decide) (by decide), by decide, by omega, k4, fun t2 H2 e2 h2 z2 => ?_⟩
  have e12 := ne.tr e2
  walk_at "rx"
  have kk : k.toNat * (1 + 7) ≤ 32 := by omega
  refine lessP (.inr (SqT.of (e12 _ _ h1))) (SqT.of h2) (z1.len (by omega)) (z2.len (by omega)) fun t H' ht e h => ?_
  walk_at "rx"
  refine q t H' (e01.non (e12.non ht)) ((e01.tr e12).tr e) h ((z1.less z2).mono (by omega) (by omega))
def sp_rest_poly (K : PySem.W.Frag) : Sp := fun vs H Q _ => ∃ k i j : Int, vs = [.int k, .int i, .int j] ∧ 2 ≤ k ∧ k ≤ 4 ∧ -60 ≤ i ∧ i ≤ 60 ∧ -100 ≤ j ∧ j ≤ 100 ∧ ∀ t H', H t = none → Ext H H' → H' t = some (.tup ((restP k i j).map V.int)) → PZ 9 80 (restP k i j) → Q (.ref t) H'
def rd_rest_poly (K : PySem.W.Frag) : TS := tRet (tCall (sp_poly_less K) [] E0 (tCons (tCall (sp_poly_product K) [] E0 (tCons (tCall (sp_poly_power K) [] E0 (tCons (tTup (tCons (tVar 1) (tCons (tC (.int 1)) (tNil)))) (tCons (tOp FW.rSub (tVar 0) (tC (.int 1))) (tNil)))) (tCons (tTup (tCons (tOp FW.rSub (tVar 2) (tOp FW.rMul (tOp FW.rSub (tVar 0) (tC (.int 1))) (tVar 1))) (tCons (tC (.int 1)) (tNil)))) (tNil)))) (tCons (tCall (sp_poly_power K) [] E0 (tCons (tTup (tCons (tC (.int 0)) (tCons (tC (.int 1)) (tNil)))) (tCons (tVar 0) (tNil)))) (tNil))))
theorem pure_rest_poly (K : PySem.W.Frag) (vs : List V) (H : Hp) (Q : VK) (E : XK) (h : sp_rest_poly K vs H Q E) : rd_rest_poly K { nx := fun _ H' => Q .non H', rt := Q } (start ["k", "i", "j"] vs) H := by
  obtain ⟨k, i, j, rfl, k2, k4, i1, i2, j1, j2, q⟩ := h
  unfold rd_rest_poly
  have m1 : -240 ≤ (k - 1) * i ∧ (k - 1) * i ≤ 240 := by
    have : k = 2 ∨ k = 3 ∨ k = 4 := by omega
    rcases this with rfl | rfl | rfl <;> omega
  walk_at "rx"
  refine ⟨nt, [i, 1], k - 1, 6, rfl, nh, pz1 (by show i.natAbs < 64; omega) (by decide), by decide, by omega, by omega, fun t1 H1 e1 h1 z1 => ?_⟩
  have e01 := ne.tr e1
  clear ne nh
  walk_at "rx"
  rotate_left
  · exact wide_mul (a := 10) (b := 10) (by show _ < 1024; omega) (by show _ < 1024; omega) (by decide) (by decide) (by decide)
  have z2 : PZ 2 10 [j - (k - 1) * i, 1] := pz1 (by show _ < 1024; omega) (by decide)
  have h1' := ne _ _ h1
  have kk : (k - 1).toNat * (6 + 7) ≤ 39 := by omega
  have nh' : nH nt = some (.tup ([j - (k - 1) * i, 1].map V.int)) := nh
  refine mulP (.inr (SqT.of h1')) (.inr (SqT.of nh')) z1 z2 (by omega) (by omega) (by omega) fun t3 H3 _ e3 h3 z3 => ?_
  have e03 := (e01.tr ne).tr e3
  clear ne nh
  walk_at "rx"
  refine ⟨nt, [0, 1], k, 1, rfl, nh, pz1 (by decide) (by decide), by decide, by omega, k4, fun t4 H4 e4 h4 z4 => ?_⟩
  have e34 := ne.tr e4
  walk_at "rx"
  have kk2 : k.toNat * (1 + 7) ≤ 32 := by omega
  refine lessP (.inr (SqT.of (e34 _ _ h3))) (SqT.of h4) (z3.len (by omega)) (z4.len (by omega)) fun t H' ht e h => ?_
  walk_at "rx"
  refine q t H' (e03.non (e34.non ht)) ((e03.tr e34).tr e) h (((z3.mono (Nat.le_refl _) (by omega : _ ≤ 79)).less (z4.mono (Nat.le_refl _) (by omega : _ ≤ 79))).mono (by omega) (by omega))
/-! ### the window -/
def Lp.sl (l : Lp) : Int := l.a - l.c * (l.k - 1)
def Lp.ll (l : Lp) (i : Int) : Int := (l.sl * i + l.d) / (l.a + l.c)
theorem Lp.Ok.sl0 {l : Lp} (o : l.Ok) : 0 ≤ l.sl ∧ l.sl ≤ 4 ∧ l.sl + l.c * l.k = l.a + l.c := by
  have hc := o.cases
  clear o
  unfold Lp.sl
  obtain ⟨k, a, c, d, st, td, md⟩ := l
  dsimp only at *
  simp only [List.mem_cons, Prod.mk.injEq, List.not_mem_nil, or_false] at hc
  rcases hc with ⟨rfl, rfl, rfl⟩ | ⟨rfl, rfl, rfl⟩ | ⟨rfl, rfl, rfl⟩ | ⟨rfl, rfl, rfl⟩ | ⟨rfl, rfl, rfl⟩ | ⟨rfl, rfl, rfl⟩ | ⟨rfl, rfl, rfl⟩ | ⟨rfl, rfl, rfl⟩ | ⟨rfl, rfl, rfl⟩ | ⟨rfl, rfl, rfl⟩ | ⟨rfl, rfl, rfl⟩ | ⟨rfl, rfl, rfl⟩ | ⟨rfl, rfl, rfl⟩ | ⟨rfl, rfl, rfl⟩ | ⟨rfl, rfl, rfl⟩ | ⟨rfl, rfl, rfl⟩ | ⟨rfl, rfl, rfl⟩
  all_goals omega
def sp_slant (K : PySem.W.Frag) : Sp := fun vs H Q _ => ∃ (p : Addr) (l : Lp), vs = [.ref p] ∧ IsLp K H p l ∧ l.Ok ∧ Q (.int l.sl) H
def rd_slant (K : PySem.W.Frag) : TS := tRet (tOp FW.rSub (tFld K (tVar 0) "a") (tOp FW.rMul (tFld K (tVar 0) "c") (tOp FW.rSub (tFld K (tVar 0) "k") (tC (.int 1)))))
theorem pure_slant (K : PySem.W.Frag) (A : AvK K) (vs : List V) (H : Hp) (Q : VK) (E : XK) (h : sp_slant K vs H Q E) : rd_slant K { nx := fun _ H' => Q .non H', rt := Q } (start ["loop"] vs) H := by
  obtain ⟨p, l, rfl, hL, o, q⟩ := h
  obtain ⟨dx, hp⟩ := id hL
  have A' := A; cases A'
  have c1 := o.c1; have c3 := o.c3; have hk := o.hk
  unfold rd_slant
  walk_at "rx"
  · exact q
  · exact wide_mul (a := 10) (b := 10) (by show _ < 1024; omega) (by show _ < 1024; omega) (by decide) (by decide) (by decide)
/-- the lowest gap: as the program goes -/
def Lp.lowF (l : Lp) : Nat → Int → Int
  | 0, x => x
  | n + 1, x => if l.ll x < x then l.lowF n (l.ll x) else x
def Lp.low (l : Lp) : Int := l.lowF 10 0
theorem Lp.Ok.ll_low {l : Lp} (o : l.Ok) {i : Int} (h : -6 ≤ i) (h' : i ≤ 0) : -6 ≤ l.ll i := by
  have hc := o.cases
  have d0 := o.d0
  clear o
  unfold Lp.ll Lp.sl
  obtain ⟨k, a, c, d, st, td, md⟩ := l
  dsimp only at *
  simp only [List.mem_cons, Prod.mk.injEq, List.not_mem_nil, or_false] at hc
  rcases hc with ⟨rfl, rfl, rfl⟩ | ⟨rfl, rfl, rfl⟩ | ⟨rfl, rfl, rfl⟩ | ⟨rfl, rfl, rfl⟩ | ⟨rfl, rfl, rfl⟩ | ⟨rfl, rfl, rfl⟩ | ⟨rfl, rfl, rfl⟩ | ⟨rfl, rfl, rfl⟩ | ⟨rfl, rfl, rfl⟩ | ⟨rfl, rfl, rfl⟩ | ⟨rfl, rfl, rfl⟩ | ⟨rfl, rfl, rfl⟩ | ⟨rfl, rfl, rfl⟩ | ⟨rfl, rfl, rfl⟩ | ⟨rfl, rfl, rfl⟩ | ⟨rfl, rfl, rfl⟩ | ⟨rfl, rfl, rfl⟩
  all_goals omega
theorem Lp.lowF_spec {l : Lp} (o : l.Ok) : ∀ (n : Nat) (x : Int), -6 ≤ x → x ≤ 0 → x + 7 ≤ n → -6 ≤ l.lowF n x ∧ l.lowF n x ≤ x ∧ ¬ l.ll (l.lowF n x) < l.lowF n x
  | 0, x, h1, h2, h3 => by omega
  | n + 1, x, h1, h2, h3 => by
    unfold Lp.lowF
    by_cases h : l.ll x < x
    · rw [if_pos h]
      have := o.ll_low h1 h2
      obtain ⟨g1, g2, g3⟩ := Lp.lowF_spec o n (l.ll x) this (by omega) (by omega)
      exact ⟨g1, by omega, g3⟩
    · rw [if_neg h]
      exact ⟨h1, Int.le_refl _, h⟩
theorem Lp.Ok.low0 {l : Lp} (o : l.Ok) : -6 ≤ l.low ∧ l.low ≤ 0 ∧ ¬ l.ll l.low < l.low := Lp.lowF_spec o 10 0 (by decide) (by decide) (by decide)
theorem Lp.lowF_more {l : Lp} : ∀ (n : Nat) (x : Int), ¬ l.ll (l.lowF n x) < l.lowF n x → ∀ m, l.lowF (n + m) x = l.lowF n x
  | 0, x, h, m => by
    have h : ¬ l.ll x < x := h
    cases m with
    | zero => rfl
    | succ m => show l.lowF (0 + (m + 1)) x = x; rw [Nat.zero_add]; unfold Lp.lowF; rw [if_neg h]
  | n + 1, x, h, m => by
    rw [show n + 1 + m = (n + m) + 1 by omega]
    unfold Lp.lowF at h ⊢
    by_cases hx : l.ll x < x
    · rw [if_pos hx] at h ⊢
      rw [if_pos hx]
      exact Lp.lowF_more n (l.ll x) h m
    · rw [if_neg hx, if_neg hx]
end FWL
namespace FWL
open PySem PySem.Spec PyProof.Rows L2 FW
/-! ### the cuts of a gap -/
def Lp.needed (l : Lp) (i g : Int) : Int := -((l.d + l.sl * i - g * (l.a + l.c)) / l.c)
def Lp.most (l : Lp) (i : Int) : Int := if i = 1 then l.k - 1 else l.k
def Lp.rowF (l : Lp) (i : Int) : Nat → Int → List Int
  | 0, _ => []
  | n + 1, g => if l.needed i g ≤ l.most i then l.needed i g :: l.rowF i n (g + 1) else []
/-- by how much the quotient must be above its least, for the gaps that can be reached, in order -/
def Lp.rowJ (l : Lp) (i : Int) : List Int := l.rowF i 8 (l.ll i + 1)
def Lp.rowC (l : Lp) (i : Int) : List (List Int) := (l.rowJ i).map (restP l.k i)
theorem need_le {l : Lp} (o : l.Ok) {i g j : Int} : l.needed i g ≤ j ↔ g * (l.a + l.c) ≤ l.d + l.sl * i + l.c * j := by
  have c1 := o.c1
  unfold Lp.needed
  have e := Int.emod_add_mul_ediv (l.d + l.sl * i - g * (l.a + l.c)) l.c
  have m0 := Int.emod_nonneg (l.d + l.sl * i - g * (l.a + l.c)) (show l.c ≠ 0 by omega)
  have m1 := Int.emod_lt_of_pos (l.d + l.sl * i - g * (l.a + l.c)) (show 0 < l.c by omega)
  generalize (l.d + l.sl * i - g * (l.a + l.c)) / l.c = t at *
  generalize (l.d + l.sl * i - g * (l.a + l.c)) % l.c = u at *
  constructor
  · intro h
    have h1 : l.c * (-t) ≤ l.c * j := Int.mul_le_mul_of_nonneg_left h (by omega)
    have h2 : l.c * (-t) = -(l.c * t) := by grind
    omega
  · intro h
    refine Int.not_lt.mp fun z => ?_
    have h1 : l.c * (j + 1) ≤ l.c * (-t) := Int.mul_le_mul_of_nonneg_left (by omega) (by omega)
    have h2 : l.c * (-t) = -(l.c * t) := by grind
    have h3 : l.c * (j + 1) = l.c * j + l.c := by grind
    omega
theorem need_succ {l : Lp} (o : l.Ok) (i g : Int) : l.needed i g + 1 ≤ l.needed i (g + 1) := by
  have c1 := o.c1; have a1 := o.a1
  refine Int.not_lt.mp fun z => ?_
  have h1 := (need_le o (i := i) (g := g + 1) (j := l.needed i g)).mp (by omega)
  have h2 : ¬ l.needed i g ≤ l.needed i g - 1 := by omega
  rw [need_le o] at h2
  have e1 : (g + 1) * (l.a + l.c) = g * (l.a + l.c) + (l.a + l.c) := by grind
  have e2 : l.c * (l.needed i g - 1) = l.c * l.needed i g - l.c := by grind
  omega
theorem need_one {l : Lp} (o : l.Ok) (i : Int) : 1 ≤ l.needed i (l.ll i + 1) := by
  have c1 := o.c1; have a1 := o.a1
  refine Int.not_lt.mp fun z => ?_
  have h1 := (need_le o (i := i) (g := l.ll i + 1) (j := 0)).mp (by omega)
  rw [Int.mul_zero, Int.add_zero] at h1
  have h2 : (l.ll i + 1) ≤ (l.d + l.sl * i) / (l.a + l.c) := (Int.le_ediv_iff_mul_le (by omega)).mpr h1
  have e : l.d + l.sl * i = l.sl * i + l.d := by omega
  rw [e] at h2
  unfold Lp.ll at h2
  omega
theorem most4 {l : Lp} (o : l.Ok) (i : Int) : l.most i ≤ 4 := by
  have hk := o.hk
  unfold Lp.most
  split <;> omega
theorem row_pos {l : Lp} (o : l.Ok) {i : Int} : ∀ (n : Nat) (g : Int), 1 ≤ l.needed i g → ∀ j, j ∈ l.rowF i n g → 1 ≤ j ∧ j ≤ l.most i
  | 0, _, _, _, h => by cases h
  | n + 1, g, h1, j, h => by
    unfold Lp.rowF at h
    by_cases hm : l.needed i g ≤ l.most i
    · rw [if_pos hm] at h
      rcases List.mem_cons.mp h with rfl | h
      · exact ⟨h1, hm⟩
      · exact row_pos o n (g + 1) (by have := need_succ o i g; omega) j h
    · rw [if_neg hm] at h; cases h
theorem row_len {l : Lp} (o : l.Ok) {i : Int} : ∀ (n : Nat) (g : Int), 1 ≤ l.needed i g → ((l.rowF i n g).length : Int) ≤ max 0 (5 - l.needed i g)
  | 0, _, _ => by show (0 : Int) ≤ _; omega
  | n + 1, g, h1 => by
    have m4 := most4 o i
    have s := need_succ o i g
    unfold Lp.rowF
    by_cases hm : l.needed i g ≤ l.most i
    · rw [if_pos hm]
      have := row_len o (i := i) n (g + 1) (by omega)
      rw [List.length_cons]
      omega
    · rw [if_neg hm]; show (0 : Int) ≤ _; omega
theorem rowJ_len {l : Lp} (o : l.Ok) (i : Int) : (l.rowJ i).length ≤ 4 := by
  have := row_len o (i := i) 8 (l.ll i + 1) (need_one o i)
  have := need_one o i
  unfold Lp.rowJ
  omega
theorem ll_bound {l : Lp} (o : l.Ok) {i : Int} (h1 : -40 ≤ i) (h2 : i ≤ 40) : -60 ≤ l.ll i ∧ l.ll i ≤ 60 := by
  have hc := o.cases
  have d0 := o.d0; have d1 := o.d1
  clear o
  unfold Lp.ll Lp.sl
  obtain ⟨k, a, c, d, st, td, md⟩ := l
  dsimp only at *
  simp only [List.mem_cons, Prod.mk.injEq, List.not_mem_nil, or_false] at hc
  rcases hc with ⟨rfl, rfl, rfl⟩ | ⟨rfl, rfl, rfl⟩ | ⟨rfl, rfl, rfl⟩ | ⟨rfl, rfl, rfl⟩ | ⟨rfl, rfl, rfl⟩ | ⟨rfl, rfl, rfl⟩ | ⟨rfl, rfl, rfl⟩ | ⟨rfl, rfl, rfl⟩ | ⟨rfl, rfl, rfl⟩ | ⟨rfl, rfl, rfl⟩ | ⟨rfl, rfl, rfl⟩ | ⟨rfl, rfl, rfl⟩ | ⟨rfl, rfl, rfl⟩ | ⟨rfl, rfl, rfl⟩ | ⟨rfl, rfl, rfl⟩ | ⟨rfl, rfl, rfl⟩ | ⟨rfl, rfl, rfl⟩
  all_goals omega
def sp_needed (K : PySem.W.Frag) : Sp := fun vs H Q _ => ∃ (p : Addr) (l : Lp) (i g : Int), vs = [.ref p, .int i, .int g] ∧ IsLp K H p l ∧ l.Ok ∧ -1000 ≤ i ∧ i ≤ 1000 ∧ -1000 ≤ g ∧ g ≤ 1000 ∧ Q (.int (l.needed i g)) H
def rd_needed (K : PySem.W.Frag) : TS := tRet (tUn FW.rNeg (tOp FW.rDiv (tOp FW.rSub (tOp FW.rAdd (tFld K (tVar 0) "d") (tOp FW.rMul (tCall (sp_slant K) [] E0 (tCons (tVar 0) (tNil))) (tVar 1))) (tOp FW.rMul (tVar 2) (tOp FW.rAdd (tFld K (tVar 0) "a") (tFld K (tVar 0) "c")))) (tFld K (tVar 0) "c")))
theorem pure_needed (K : PySem.W.Frag) (A : AvK K) (vs : List V) (H : Hp) (Q : VK) (E : XK) (h : sp_needed K vs H Q E) : rd_needed K { nx := fun _ H' => Q .non H', rt := Q } (start ["loop", "i", "gap"] vs) H := by
  obtain ⟨p, l, i, g, rfl, hL, o, i1, i2, g1, g2, q⟩ := h
  obtain ⟨dx, hp⟩ := id hL
  have A' := A; cases A'
  have a1 := o.a1; have c1 := o.c1; have ac := o.ac; have c3 := o.c3
  have s0 := o.sl0
  unfold rd_needed
  walk_at "rx"
  refine ⟨p, l, rfl, hL, o, ?_⟩
  walk_at "rx"
  · exact q
  · exact wide_div (b := 10) (by omega) (by show _ < 1024; omega) (by decide) (by decide)
  · exact wide_mul (a := 10) (b := 10) (by show _ < 1024; omega) (by show _ < 1024; omega) (by decide) (by decide) (by decide)
  · exact wide_mul (a := 10) (b := 10) (by show _ < 1024; omega) (by show _ < 1024; omega) (by decide) (by decide) (by decide)
/-- values that are tuples of these coefficients -/
def Pls (H : Hp) (xs : List V) (ps : List (List Int)) : Prop := Paired (fun v cs => ∃ a, v = .ref a ∧ H a = some (.tup (cs.map V.int))) xs ps
theorem Pls.ext {H H' : Hp} {xs : List V} {ps : List (List Int)} (h : Pls H xs ps) (e : Ext H H') : Pls H' xs ps := Paired.mapP h fun _ _ ⟨a, h1, h2⟩ => ⟨a, h1, e _ _ h2⟩
theorem Pls.len {H : Hp} {xs : List V} {ps : List (List Int)} (h : Pls H xs ps) : xs.length = ps.length := Paired.length h
end FWL
/-! a tuple times 1 is itself -/
/-! sorted(xs, key=f) where f's calls make new lists: the machine's part -/
namespace FWK
open PySem PySem.W PySem.Calls PyProof.Rows
/-- all but the two stand -/
def But2 (a c : Addr) (h h' : Heap) : Prop := ∀ b o, b ≠ a → b ≠ c → h.get? b = some o → h'.get? b = some o
section
variable {prog : Program} {w : World} {A : Around} {E : Value → Shared → Prop} {s : Shared} {a c : Addr} {vs out : List Value} {ks : Array Value} {n m : Nat} {P : PySem.Fin → Shared → Prop} {f : Value}
theorem tail2 {st : SortSt} (hc : s.heap.get? c = some (seqObj "list" ks n)) (ha : s.heap.get? a = some (seqObj "list" #[] m)) (ne : c ≠ a) (z1 : ks.size ≤ sizeLine) (z2 : out.length ≤ sizeLine)
    (nf : failedOf st = none) (eo : (arrOf st).map (·.2) = out.toArray)
    (k : ∀ h' tk q, But2 a c s.heap h' → h'.get? a = some (seqObj "list" out.toArray q) → P (.done (.ret .none)) { s with heap := h', toks := tk }) : wpAny (model prog w) A (ksk_tail a false m (.ref c) st) P E s := by
  have b1 := Heap.SameBut.update s.heap c (Obj.mapSeq fun _ => (#[] : Array Value))
  generalize hg : s.heap.update c (Obj.mapSeq fun _ => (#[] : Array Value)) = g at b1
  have ha1 : g.get? a = some (seqObj "list" #[] m) := (b1.2 a ne.symm).trans ha
  have b2 := Heap.SameBut.update g a (Obj.mapSeq fun _ => out.toArray)
  obtain ⟨q, hq⟩ : ∃ q, (g.update a (Obj.mapSeq fun _ => out.toArray)).get? a = some (seqObj "list" out.toArray q) := ⟨_, get?_update_seq ha1 fun _ => out.toArray⟩
  have z3 : out.toArray.size ≤ sizeLine + 1 := by rw [List.size_toArray]; omega
  unfold ksk_tail
  try dsimp only
  rw [if_neg (show ¬ (false = true) by decide), eo]
  refine wpAny_bind (listUpdate_at (n := n) hc rfl ?_ z1 (Nat.zero_le _))
  rw [hg]
  refine wpAny_bind (wpAny_letGo ?_)
  refine wpAny_bind (seqEpoch_at (n := m) ha1 rfl ?_)
  refine wpAny_bind (listUpdate_at (n := m) ha1 rfl ?_ (Nat.zero_le _) z3)
  rw [nf]
  simp only [bne_self_eq_false, Bool.false_eq_true, if_false]
  exact wpAny_pure (k _ _ q (fun b o h1 h2 e => (b2.2 b h1).trans ((b1.2 b h2).trans e)) hq)
theorem end2 {κ : PyProof.Rows.KeyKind} (hc : s.heap.get? c = some (seqObj "list" ks n)) (ha : s.heap.get? a = some (seqObj "list" #[] m)) (ne : c ≠ a) (S : SortsAt prog w A s κ ks.toList) (zk : ks.size = vs.length) (zz : vs.length ≤ sizeLine)
    (k : ∀ h' tk q, But2 a c s.heap h' → h'.get? a = some (seqObj "list" (sortVals κ false ks.toList vs).toArray q) → P (.done (.ret .none)) { s with heap := h', toks := tk }) : wpAny (model prog w) A (ksk_end a false vs.toArray m (.ref c) ks) P E s := by
  obtain ⟨kd, g1, g2⟩ := S.kind
  have zl : ks.toList.length = vs.length := Array.length_toList.trans zk
  have KZ : PyProof.Rows.KeysOf κ (ks.zip vs.toArray) := keysOf_zip S.keys
  have zo : (sortVals κ false ks.toList vs).length = vs.length := sortVals_length false zl
  have zs : (ks.zip vs.toArray).size = vs.length := by rw [Array.size_zip, zk, List.size_toArray, Nat.min_self]
  have got : ∀ u : SortSt, (arrOf u).Perm (ks.zip vs.toArray) → SortedToK κ (arrOf u) (ks.zip vs.toArray).size → Stable κ (arrOf u) (ks.zip vs.toArray) → (arrOf u).map (·.2) = (sortVals κ false ks.toList vs).toArray := by
    intro u p1 p2 p3
    have e := congrArg List.toArray (sort_out (rev := false) (keys := ks) (items := vs.toArray) (xs := arrOf u) (κ := κ) KZ p1 p2 p3)
    rw [Array.toArray_toList] at e
    exact e
  unfold ksk_end
  try dsimp only
  rw [if_neg (show ¬ (false = true) by decide)]
  by_cases few : vs.toArray.size < 2
  · rw [if_pos few, if_pos few]
    refine wpAny_bind (wpAny_pure ?_)
    rw [StateT.run_pure]
    refine wpAny_bind (wpAny_pure ?_)
    try dsimp only
    refine tail2 (st := SortSt.mk' general' (ks.zip vs.toArray) #[] 7 none) hc ha ne (by omega) (by omega) rfl (got _ (Array.Perm.refl _) (fun i j hij hj => ?_) (Stable.refl _)) k
    rw [zs] at hj
    rw [List.size_toArray] at few
    obtain rfl : i = j := by omega
    exact KeyOrd.kle_refl _
  · rw [if_neg few, if_neg few]
    rw [List.size_toArray] at few
    refine wpAny_bind (g2 (by omega) _ ?_)
    refine wpAny_bind (wpAny_mono (H.wpS_sortRunsSt (κ := κ) (kd := kd) (a₀ := ks.zip vs.toArray) (st := SortSt.mk' kd (ks.zip vs.toArray) #[] 7 none)
      (Q := fun _ u => failedOf u = none ∧ (arrOf u).map (·.2) = (sortVals κ false ks.toList vs).toArray)
      g1 KZ ⟨Array.Perm.refl _, rfl, rfl⟩ rfl (Stable.refl _) (by omega) fun u a1 a2 a3 a4 => ⟨a2, got u a1 a3 a4⟩) ?_ fun _ _ e => e)
    rintro ⟨⟨⟩, u⟩ t ⟨rfl, h1, h2⟩
    try dsimp only at h2 ⊢
    exact tail2 hc ha ne (by omega) (by omega) h1 h2 k
/-- the keys are made one behind the other -/
theorem keys_made (G : Nat → List Value → Shared → Prop) (zz : vs.length ≤ sizeLine) (h0 : G 0 [] s) (hl : ∀ j us t, G j us t → us.length = j)
    (turn : ∀ (j : Nat) (x : Value) (us : List Value) (t : Shared), vs[j]? = some x → G j us t → wpAny (model prog w) A (call f [x])
      (fun v t2 => (∃ q, t2.heap.get? c = some (seqObj "list" us.toArray q)) ∧ G (j + 1) (us ++ [v]) { t2 with heap := t2.heap.update c (Obj.mapSeq (·.push v)) }) (fun _ _ => False) t)
    (fin : ∀ us t, G vs.length us t → (∃ q, t.heap.get? c = some (seqObj "list" us.toArray q)) ∧ wpAny (model prog w) A (ksk_end a false vs.toArray m (.ref c) us.toArray) P E t) :
    wpAny (model prog w) A (ksk_rest a f false vs.toArray m (.ref c)) P E s := by
  unfold ksk_rest
  refine wpAny_bind (wpAny_rule ?_)
  rw [List.forIn_toArray]
  refine wpAny_bind (ksk_fold (fun i t => ∃ us, G i us t) vs 0 s ⟨[], h0⟩ ?_ ?_)
  · rintro j x t hx ⟨us, hg⟩
    rw [Nat.zero_add] at hg ⊢
    have hj : j < vs.length := (List.getElem?_eq_some_iff.mp hx).1
    have hu := hl _ _ _ hg
    refine wpAny_bind (wpAny_attempt (wpAny_mono (turn j x us t hx hg) (fun v t2 he => ?_) fun _ _ hF => hF.elim))
    obtain ⟨⟨q, hq⟩, he⟩ := he
    try dsimp only
    refine wpAny_bind (listUpdate_at (n := q) hq rfl ?_ (by rw [List.size_toArray]; omega) (by rw [Array.size_push, List.size_toArray]; omega))
    exact wpAny_pure ⟨rfl, _, he⟩
  · rintro t ⟨us, hg⟩
    rw [Nat.zero_add] at hg
    obtain ⟨⟨q, hq⟩, h⟩ := fin us t hg
    have hu := hl _ _ _ hg
    try dsimp only
    refine wpAny_bind (listItems_at (n := q) hq rfl ?_)
    exact h
/-- list.sort of a list at a -/
theorem tree2 (ha : s.heap.get? a = some (seqObj "list" vs.toArray n)) (zz : vs.length ≤ sizeLine)
    (k : ∀ (c m : Nat) (g : Heap) (tk : Nat), c ≠ a → s.heap.objs.size ≤ c → (∀ b o, b ≠ a → s.heap.get? b = some o → g.get? b = some o) → g.get? c = some (seqObj "list" #[] 0) → g.get? a = some (seqObj "list" #[] m) →
      wpAny (model prog w) A (ksk_rest a f false vs.toArray m (.ref c)) P E { s with heap := g, toks := tk }) : wpAny (model prog w) A (ksk_tree a f false) P E s := by
  have al : a < s.heap.objs.size := Heap.lt_size ha
  have b1 := Heap.SameBut.update s.heap a (Obj.mapSeq fun _ => (#[] : Array Value))
  obtain ⟨m, hm⟩ : ∃ m, (s.heap.update a (Obj.mapSeq fun _ => (#[] : Array Value))).get? a = some (seqObj "list" #[] m) := ⟨_, get?_update_seq ha fun _ => #[]⟩
  have hsz : (s.heap.update a (Obj.mapSeq fun _ => (#[] : Array Value))).objs.size = s.heap.objs.size := Heap.size_update ..
  unfold ksk_tree
  refine wpAny_bind (listItems_at (n := n) ha rfl ?_)
  refine wpAny_bind (listUpdate_at (n := n) ha rfl ?_ (by rw [List.size_toArray]; exact zz) (Nat.zero_le _))
  generalize s.heap.update a (Obj.mapSeq fun _ => (#[] : Array Value)) = g at b1 hm hsz
  refine wpAny_bind (seqEpoch_at (n := m) hm rfl ?_)
  refine wpAny_bind (wpAny_newTuple ?_ (by show vs.length ≤ _; exact zz))
  refine wpAny_bind (wpAny_newList ?_ (Nat.zero_le _))
  refine wpAny_holding ?_
  have hp : (g.push (seqObj "tuple" vs.toArray 0)).objs.size = s.heap.objs.size + 1 := by rw [size_push', hsz]
  refine k _ m ((g.push (seqObj "tuple" vs.toArray 0)).push (seqObj "list" #[] 0)) _ ?_ ?_ (fun b o hb e => ?_) (Heap.get?_push_size _ rfl) ?_
  · exact fun e => absurd al (by rw [← e, hp]; exact Nat.not_lt.mpr (Nat.le_succ _))
  · rw [hp]; exact Nat.le_succ _
  · exact Heap.get?_push_of_some _ (Heap.get?_push_of_some _ ((b1.2 b hb).trans e))
  · exact Heap.get?_push_of_some _ (Heap.get?_push_of_some _ hm)
end
end FWK
namespace FWP
open PySem PySem.Spec PyProof.Rows L2 FW LamX
/-! ### lambdas with one parameter, handed to a method -/
/-- the names of a lambda with the parameter x -/
structure LamP (sc scope : Scope) (x : Str) : Prop where
  fk : scope.kind = .function
  noco : scope.isCoroutine = false
  nogen : scope.isGenerator = false
  par : scope.names.lookup x = some .local
  own : ∀ y ∈ scope.names, y.2 = .local → y.1 = x
  nocell : ∀ y ∈ scope.names, y.2 ≠ .cell
  capt : ∀ y ∈ scope.names, y.2 = .free → sc.names.lookup y.1 = some .cell ∨ sc.names.lookup y.1 = some .free
theorem LamP.cells {X : Cx} {scope : Scope} {x : Str} (L : LamP X.env.scope scope x) (ok : X.Ok) (y : Str × NameKind) (hy : y ∈ scope.names) (e : y.2 = .free) : ∃ c, X.env.cells.lookup y.1 = some c :=
  ok.has _ (L.capt y hy e)
def lamPB (sc scope : Scope) (x : Str) : Bool :=
  decide (scope.kind = .function) && (!scope.isCoroutine && (!scope.isGenerator && (decide (scope.names.lookup x = some .local) && scope.names.all fun y => (!decide (y.2 = .local) || decide (y.1 = x)) && (!decide (y.2 = .cell) && (!decide (y.2 = .free) || (decide (sc.names.lookup y.1 = some .cell) || decide (sc.names.lookup y.1 = some .free)))))))
theorem lamP_by {sc scope : Scope} {x : Str} (h : lamPB sc scope x = true) : LamP sc scope x := by
  unfold lamPB at h
  simp only [Bool.and_eq_true, Bool.or_eq_true, Bool.not_eq_true', decide_eq_true_eq, decide_eq_false_iff_not, List.all_eq_true] at h
  obtain ⟨h1, h2, h3, h4, h5⟩ := h
  exact ⟨h1, h2, h3, h4, fun y hy e => ((h5 y hy).1).resolve_left (fun z => z e), fun y hy => (h5 y hy).2.1, fun y hy e => ((h5 y hy).2.2).resolve_left (fun z => z e)⟩
/-- the context of the body: the maker's names, and x behind them -/
def cxP (X : Cx) (A : Around) (outer : List Env) (s : Shared) (H : Hp) (scope : Scope) (x : Str) (f c' : Addr) : Cx := { lamCx X A outer s H E0 scope f c' with N := X.N ++ [x] }
end FWP
namespace FWP
open PySem PySem.Spec PyProof.Rows L2 FW LamX
end FWP
/-! sorted(xs, key=lambda x: e): the layer's part -/
namespace FWK
open PySem PySem.Spec PySem.W PySem.Calls PyProof.Rows L2 FW LamX FWP
section
variable {X : Cx} {pins : List (Addr × Obj)} {σ : L2.St} {H HJ : Hp} {s : Shared}
/-- the keys' values, as they were made -/
def KeysAt (K : PySem.W.Frag) (H : Hp) (us : List Value) (ds : List PyData) : Prop := EachIs (fun u d => ∃ w, RelV w u ∧ Dp K H w d) us ds
theorem KeysAt.ext {K : PySem.W.Frag} {H H' : Hp} {us : List Value} {ds : List PyData} (h : KeysAt K H us ds) (e : FW.Ext H H') : KeysAt K H' us ds := h.mono fun _ d ⟨w, r, q⟩ => ⟨w, r, FWL.Dp.ext e d w q⟩
/-- an object that is there is tracked -/
theorem track {a : Addr} {o : HO} (I : Inv X pins σ H s) (fp : FpOk X pins H a) (hs : X.s_0.heap.objs.size ≤ a) (ok : ObjOk X.prog X.w (upd H a o) s.heap a o) : Inv X pins σ (upd H a o) s := by
  obtain ⟨f1, f2, f3, f4, f5, f6⟩ := fp
  have ne : ∀ {b : Addr} {u : HO}, H b = some u → b ≠ a := fun {b u} e z => by rw [z, f1] at e; cases e
  have up : ∀ {b : Addr} {u : HO}, H b = some u → upd H a o b = some u := fun {b u} e => by rw [upd_ne (ne e)]; exact e
  have non : ∀ {b : Addr}, b ≠ a → H b = none → upd H a o b = none := fun {b} h e => by rw [upd_ne h]; exact e
  refine ⟨I.ok, I.os, I.bare, ⟨I.base.keep, I.base.slot, fun b u e n x => non (fun z => ?_) (I.base.free b u e n x), I.base.there, fun b xs e => up (I.base.tups b xs e), fun b u v e => up (I.base.frzs b u v e), fun b ps e => ?_⟩, I.loc, I.cell,
    non f2.symm I.free, fun x c e => non (f5 x c e) (I.freeC x c e), fun p hp => ?_, fun b u e => ?_, I.len⟩
  · have := Heap.lt_size e
    rw [z] at this
    exact absurd this (Nat.not_lt.mpr hs)
  · obtain ⟨more, h⟩ := I.base.tbls b ps e
    exact ⟨more, up h⟩
  · obtain ⟨h1, h2, h3⟩ := I.pin p hp
    exact ⟨h1, non (f6 p hp) h2, h3⟩
  · by_cases hb : b = a
    · rw [hb, upd_same] at e
      cases e
      rw [hb]; exact ok
    · rw [upd_ne hb] at e
      exact (I.hok b u e).stay (fun _ _ _ q => q) (fun _ q => up q) fun _ _ q => up q
def tSortKey (T : List (Addr × Str)) (K : PySem.W.Frag) (ta tb : TE) : TE := fun σ H Q => ta σ H fun v H1 => ∃ (l : Addr) (xs : List V) (kd : V → PyData), v = .ref l ∧ SqL K H1 l xs ∧ xs.length ≤ 1000 ∧
  AllAlike (xs.map kd) ∧ Sortable (xs.map kd) ∧ (∀ x, x ∈ xs → (kd x).depth ≤ 8) ∧ Tabs T H1 ∧ ∀ H2, ExtN H1 H2 → Tabs T H2 →
    (∀ x, x ∈ xs → ∀ H3, FW.Ext H2 H3 → tb (σ ++ [some x]) H3 fun w H4 => FW.Ext H3 H4 ∧ Dp K H4 w (kd x)) ∧
    ∀ p H3, FW.Ext H2 H3 → H2 p = none → H3 p = some (.lst (xs.mergeSort (dataLe false kd))) → Q (.ref p) H3
theorem each_vals {xs : List V} {us : List Value} (h : Vals xs us) : EachIs (fun u x => RelV x u) us xs := by
  induction h with
  | nil => exact EachIs.nil
  | cons h t ih => exact EachIs.cons h ih
theorem vals_each : ∀ {us : List Value} {xs : List V}, EachIs (fun u x => RelV x u) us xs → Vals xs us
  | _, _, .nil => .nil
  | _, _, .cons h t => .cons h (vals_each t)
theorem vals_get : ∀ {xs : List V} {us : List Value} {n : Nat} {u : Value}, Vals xs us → us[n]? = some u → ∃ y, xs[n]? = some y ∧ RelV y u
  | _, _, n, u, .nil, h => by simp at h
  | _, _, 0, u, .cons r t, h => by
    simp at h
    exact ⟨_, rfl, by rw [← h]; exact r⟩
  | x :: xs, v :: us, n + 1, u, .cons r t, h => by
    rw [List.getElem?_cons_succ] at h ⊢
    exact vals_get t h
theorem fresh_frs (I : Inv X pins σ H s) {b : Addr} (h : s.heap.objs.size ≤ b) : b ∉ frs X.stack := fun z => by
  rcases List.mem_cons.mp (I.stkSub _ z) with e | e
  · have h1 := I.lt
    rw [← e] at h1
    exact Nat.lt_irrefl _ (Nat.lt_of_lt_of_le h1 h)
  · exact I.nofs h e
end
end FWK
namespace FWL
open PySem PySem.Spec PyProof.Rows L2 FW
/-! ### the polynomials of rests, written out -/
def restE (k i j : Int) : List Int :=
  if k = 2 then [i * (j - i), j] else if k = 3 then [i * i * (j - 2 * i), 2 * i * j - 3 * (i * i), j] else [i * i * i * (j - 3 * i), 3 * (i * i) * j - 8 * (i * i * i), 3 * i * j - 6 * (i * i), j]
theorem pv_one (i r : Int) : pvl [i, 1] r = r + i := by simp [pvl]; omega
theorem pv_x (r : Int) : pvl [0, 1] r = r := by simp [pvl]
theorem restP_pv (k i j r : Int) : pvl (restP k i j) r = (r + i) ^ (k - 1).toNat * (r + (j - (k - 1) * i)) - r ^ k.toNat := by
  unfold restP
  rw [pv_less, pv_mul, pv_pow, pv_pow, pv_one, pv_one, pv_x]
theorem restP_eq {k i j : Int} (hk : k = 2 ∨ k = 3 ∨ k = 4) (hj : 1 ≤ j) : restP k i j = restE k i j := by
  refine pv_uniq (fun r => ?_) (by unfold restP pLess; exact trm_last _) ?_
  · rw [restP_pv]
    unfold restE
    rcases hk with rfl | rfl | rfl
    · rw [if_pos rfl]
      show (r + i) ^ 1 * (r + (j - (2 - 1) * i)) - r ^ 2 = i * (j - i) + r * (j + r * 0)
      grind
    · rw [if_neg (by decide), if_pos rfl]
      show (r + i) ^ 2 * (r + (j - (3 - 1) * i)) - r ^ 3 = i * i * (j - 2 * i) + r * (2 * i * j - 3 * (i * i) + r * (j + r * 0))
      grind
    · rw [if_neg (by decide), if_neg (by decide)]
      show (r + i) ^ 3 * (r + (j - (4 - 1) * i)) - r ^ 4 = i * i * i * (j - 3 * i) + r * (3 * (i * i) * j - 8 * (i * i * i) + r * (3 * i * j - 6 * (i * i) + r * (j + r * 0)))
      grind
  · unfold restE
    rcases hk with rfl | rfl | rfl
    · rw [if_pos rfl]; show some j ≠ some 0; intro z; have := Option.some.inj z; omega
    · rw [if_neg (by decide), if_pos rfl]; show some j ≠ some 0; intro z; have := Option.some.inj z; omega
    · rw [if_neg (by decide), if_neg (by decide)]; show some j ≠ some 0; intro z; have := Option.some.inj z; omega
theorem restE_len {k i j : Int} (hk : k = 2 ∨ k = 3 ∨ k = 4) : (restE k i j).length = k.toNat := by
  unfold restE
  rcases hk with rfl | rfl | rfl <;> rfl
def keyL (cs : List Int) : List Int := 0 :: cs.reverse
/-! ### all cuts -/
/-- the program's list of cuts ahead of the sorting: of the gaps from lo on -/
def Lp.accC (l : Lp) (lo : Int) : Nat → List (List Int)
  | 0 => []
  | n + 1 => l.accC lo n ++ (l.rowC (lo + (n : Nat))).filter fun p => !(l.accC lo n).any fun z => decide (z = p)
theorem row_ok {l : Lp} (o : l.Ok) {i : Int} {p : List Int} (h : p ∈ l.rowC i) : ∃ j, j ∈ l.rowJ i ∧ 1 ≤ j ∧ j ≤ l.most i ∧ p = restE l.k i j := by
  obtain ⟨j, hj, rfl⟩ := List.mem_map.mp h
  obtain ⟨j1, j2⟩ := row_pos o 8 (l.ll i + 1) (need_one o i) j hj
  exact ⟨j, hj, j1, j2, restP_eq o.hk j1⟩
theorem acc_len {l : Lp} (o : l.Ok) (lo : Int) : ∀ n, (l.accC lo n).length ≤ 4 * n
  | 0 => Nat.le_refl _
  | n + 1 => by
    have h1 := acc_len o lo n
    have h2 := List.length_filter_le (fun p => !(l.accC lo n).any fun z => decide (z = p)) (l.rowC (lo + (n : Nat)))
    have h3 : (l.rowC (lo + (n : Nat))).length = (l.rowJ (lo + (n : Nat))).length := by unfold Lp.rowC; rw [List.length_map]
    have h4 := rowJ_len o (lo + (n : Nat))
    unfold Lp.accC
    rw [List.length_append]
    omega
theorem acc_mem {l : Lp} {lo : Int} {p : List Int} : ∀ {n : Nat}, p ∈ l.accC lo n ↔ ∃ m : Nat, m < n ∧ p ∈ l.rowC (lo + (m : Nat))
  | 0 => ⟨(fun h => nomatch h), fun ⟨_, h, _⟩ => by omega⟩
  | n + 1 => by
    unfold Lp.accC
    rw [List.mem_append, List.mem_filter]
    constructor
    · rintro (h | ⟨h, _⟩)
      · obtain ⟨m, hm, h⟩ := (acc_mem (n := n)).mp h; exact ⟨m, by omega, h⟩
      · exact ⟨n, by omega, h⟩
    · rintro ⟨m, hm, h⟩
      by_cases e : m < n
      · exact .inl ((acc_mem (n := n)).mpr ⟨m, e, h⟩)
      · obtain rfl : m = n := by omega
        cases hb : (l.accC lo m).any fun z => decide (z = p) with
        | true =>
          rw [List.any_eq_true] at hb
          obtain ⟨z, hz, e⟩ := hb
          rw [← of_decide_eq_true e]; exact .inl hz
        | false => exact .inr ⟨h, rfl⟩
theorem acc_nodup {l : Lp} (hrow : ∀ i, (l.rowC i).Nodup) (lo : Int) : ∀ n, (l.accC lo n).Nodup
  | 0 => List.nodup_nil
  | n + 1 => by
    unfold Lp.accC
    rw [List.nodup_append]
    refine ⟨acc_nodup hrow lo n, (hrow _).filter _, fun a ha b hb e => ?_⟩
    have := (List.mem_filter.mp hb).2
    rw [Bool.not_eq_true', List.any_eq_false] at this
    exact this a ha (decide_eq_true e)
end FWL
namespace FWL
open PySem PySem.Spec PyProof.Rows L2 FW
/-! ### heaps that keep all but tables -/
section
variable {H H' : Hp} {a C dx : Addr} {xs : List V} {fs : List (Str × L2.V)}
theorem nx_lst (e : LamX.ExtN H H') (h : H a = some (.lst xs)) : H' a = some (.lst xs) := e _ _ h (fun _ z => nomatch z)
theorem nx_tup (e : LamX.ExtN H H') (h : H a = some (.tup xs)) : H' a = some (.tup xs) := e _ _ h (fun _ z => nomatch z)
theorem nx_ins (e : LamX.ExtN H H') (h : H a = some (.ins C dx fs)) : H' a = some (.ins C dx fs) := e _ _ h (fun _ z => nomatch z)
end
end FWL
local macro_rules | `(tactic| walk_at "rN") => `(tactic| (intro xa xo xh xn; solve_by_elim (maxDepth := 60)))
namespace FWL
open PySem PySem.Spec PyProof.Rows L2 FW
/-! ### the list of cuts, sorted -/
def insP (p : List Int) : List (List Int) → List (List Int)
  | [] => [p]
  | q :: qs => if keyL p ≤ keyL q then p :: q :: qs else q :: insP p qs
def sortP : List (List Int) → List (List Int)
  | [] => []
  | p :: ps => insP p (sortP ps)
theorem insP_perm (p : List Int) : ∀ qs, (insP p qs).Perm (p :: qs)
  | [] => List.Perm.refl _
  | q :: qs => by
    unfold insP
    split
    · exact List.Perm.refl _
    · exact ((insP_perm p qs).cons q).trans (List.Perm.swap p q qs)
theorem sortP_perm : ∀ ps, (sortP ps).Perm ps
  | [] => List.Perm.refl _
  | p :: ps => (insP_perm p (sortP ps)).trans ((sortP_perm ps).cons p)
theorem insP_pw {p : List Int} : ∀ {qs : List (List Int)}, qs.Pairwise (fun a b => keyL a ≤ keyL b) → (insP p qs).Pairwise (fun a b => keyL a ≤ keyL b)
  | [], _ => List.pairwise_singleton _ _
  | q :: qs, h => by
    have h' := List.pairwise_cons.mp h
    unfold insP
    by_cases hp : keyL p ≤ keyL q
    · rw [if_pos hp]
      refine List.pairwise_cons.mpr ⟨fun a ha => ?_, h⟩
      rcases List.mem_cons.mp ha with rfl | ha
      · exact hp
      · exact List.le_trans hp (h'.1 a ha)
    · rw [if_neg hp]
      refine List.pairwise_cons.mpr ⟨fun a ha => ?_, insP_pw h'.2⟩
      rcases List.mem_cons.mp ((insP_perm p qs).mem_iff.mp ha) with rfl | ha
      · exact (List.le_total _ _).resolve_right hp
      · exact h'.1 a ha
theorem sortP_pw : ∀ ps, (sortP ps).Pairwise (fun a b => keyL a ≤ keyL b)
  | [] => List.Pairwise.nil
  | p :: ps => insP_pw (sortP_pw ps)
theorem keyL_inj {a b : List Int} (h : keyL a = keyL b) : a = b := by
  unfold keyL at h
  injection h with _ h
  exact List.reverse_inj.mp h
theorem sortP_uniq {ps qs : List (List Int)} (hp : qs.Perm ps) (hs : qs.Pairwise (fun a b => keyL a ≤ keyL b)) : qs = sortP ps :=
  List.Perm.eq_of_pairwise (fun a b _ _ h1 h2 => keyL_inj (List.le_antisymm h1 h2)) hs (sortP_pw ps) (hp.trans (sortP_perm ps).symm)
/-- the coefficients at a value -/
def polyAt (H : Hp) : V → List Int
  | .ref a => match H a with
    | some (.tup vs) => vs.map iv
    | _ => []
  | _ => []
theorem map_iv (cs : List Int) : (cs.map V.int).map iv = cs := by rw [List.map_map]; exact List.map_id'' (fun _ => rfl) cs
theorem polyAt_eq {H : Hp} {a : Addr} {cs : List Int} (h : H a = some (.tup (cs.map V.int))) : polyAt H (.ref a) = cs := by
  unfold polyAt
  simp only [h]
  exact map_iv cs
theorem Pls.at {H : Hp} : ∀ {xs : List V} {ps : List (List Int)}, Pls H xs ps → ps = xs.map (polyAt H) ∧ ∀ x, x ∈ xs → ∃ a, x = .ref a ∧ H a = some (.tup ((polyAt H x).map V.int))
  | _, _, .nil => ⟨rfl, fun _ h => nomatch h⟩
  | x :: xs, p :: ps, .cons h t => by
    obtain ⟨a, rfl, ha⟩ := h
    obtain ⟨e1, e2⟩ := Pls.at t
    have e := polyAt_eq ha
    refine ⟨by rw [List.map_cons, e, ← e1], fun x hx => ?_⟩
    rcases List.mem_cons.mp hx with rfl | hx
    · exact ⟨a, rfl, by rw [e]; exact ha⟩
    · exact e2 x hx
theorem Pls.of {H : Hp} : ∀ {xs : List V}, (∀ x, x ∈ xs → ∃ a, x = .ref a ∧ H a = some (.tup ((polyAt H x).map V.int))) → Pls H xs (xs.map (polyAt H))
  | [], _ => .nil
  | x :: xs, h => .cons (h x List.mem_cons_self) (Pls.of fun y hy => h y (List.mem_cons_of_mem _ hy))
theorem Pls.sorted {H : Hp} {xs : List V} {ps : List (List Int)} (h : Pls H xs ps) : Pls H (xs.mergeSort fun p q => decide (keyL (polyAt H p) ≤ keyL (polyAt H q))) (sortP ps) := by
  obtain ⟨e1, e2⟩ := h.at
  have pm := List.mergeSort_perm xs fun p q => decide (keyL (polyAt H p) ≤ keyL (polyAt H q))
  have pw := List.pairwise_mergeSort (le := fun p q : V => decide (keyL (polyAt H p) ≤ keyL (polyAt H q))) (fun a b c h1 h2 => decide_eq_true (List.le_trans (of_decide_eq_true h1) (of_decide_eq_true h2))) (fun a b => by
    rw [Bool.or_eq_true, decide_eq_true_iff, decide_eq_true_iff]; exact List.le_total _ _) xs
  have hu : (xs.mergeSort fun p q => decide (keyL (polyAt H p) ≤ keyL (polyAt H q))).map (polyAt H) = sortP ps := sortP_uniq (by rw [e1]; exact pm.map _) (List.pairwise_map.mpr (pw.imp fun h => of_decide_eq_true h))
  rw [← hu]
  exact Pls.of fun x hx => e2 x (pm.mem_iff.mp hx)
theorem Pls.filter {H : Hp} {p : V → Bool} {q : List Int → Bool} (hpq : ∀ x, p x = q (polyAt H x)) : ∀ {xs : List V} {ps : List (List Int)}, Pls H xs ps → Pls H (xs.filter p) (ps.filter q)
  | _, _, .nil => .nil
  | x :: xs, c :: ps, .cons h t => by
    have ih := Pls.filter hpq t
    obtain ⟨a, rfl, ha⟩ := id h
    have e : p (.ref a) = q c := by rw [hpq, polyAt_eq ha]
    cases hq : q c with
    | true => rw [List.filter_cons_of_pos (by rw [e, hq]), List.filter_cons_of_pos hq]; exact .cons h ih
    | false => rw [List.filter_cons_of_neg (by rw [e, hq]; decide), List.filter_cons_of_neg (by rw [hq]; decide)]; exact ih
theorem Pls.append {H : Hp} : ∀ {xs ys : List V} {ps qs : List (List Int)}, Pls H xs ps → Pls H ys qs → Pls H (xs ++ ys) (ps ++ qs)
  | _, _, _, _, .nil, h => h
  | _, _, _, _, .cons h t, h' => .cons h (Pls.append t h')
/-! polynomials as data -/
def tupD (cs : List Int) : PyData := .tuple (cs.map PyData.int)
theorem dpTup {K : PySem.W.Frag} {H : Hp} {a : Addr} {cs : List Int} (h : H a = some (.tup (cs.map V.int))) : Dp K H (.ref a) (tupD cs) := .tup (SqT.of h) (dpI cs)
theorem dpPls {K : PySem.W.Frag} {H : Hp} : ∀ {xs : List V} {ps : List (List Int)}, Pls H xs ps → DpAll K H xs (ps.map tupD)
  | _, _, .nil => .nil
  | _, _, .cons h t => by
    obtain ⟨a, rfl, ha⟩ := h
    exact .cons (dpTup ha) (dpPls t)
theorem layP : ∀ ps : List (List Int), PyData.canLayAll0 (ps.map tupD) = true
  | [] => rfl
  | p :: ps => by
    rw [List.map_cons, PyData.canLayAll0, layP ps]
    show ((PyData.tuple (p.map PyData.int)).canLay0 && true) = true
    rw [PyData.canLay0, layI]; rfl
theorem depP : ∀ ps : List (List Int), PyData.depthAll (ps.map tupD) ≤ 1
  | [] => Nat.zero_le _
  | p :: ps => by
    rw [List.map_cons, PyData.depthAll]
    have := depP ps
    have h : (tupD p).depth = 1 := by show (PyData.tuple (p.map PyData.int)).depth = 1; rw [PyData.depth, depI]
    rw [h]; omega
theorem shPL (ps : List (List Int)) : SeqAt.shaped (.list (ps.map tupD)) = true := by
  unfold SeqAt.shaped
  rw [PyData.canLay0, layP, PyData.depth, Bool.true_and]
  have := depP ps
  exact decide_eq_true (by omega)
theorem shPT (ps : List (List Int)) : SeqAt.shaped (.tuple (ps.map tupD)) = true := by
  unfold SeqAt.shaped
  rw [PyData.canLay0, layP, PyData.depth, Bool.true_and]
  have := depP ps
  exact decide_eq_true (by omega)
theorem eqv_tupD (a b : List Int) : PyData.eqv (tupD a) (tupD b) = decide (a = b) := by
  show PyData.eqv (.tuple (a.map PyData.int)) (.tuple (b.map PyData.int)) = _
  rw [PyData.eqv, eqvI]
theorem any_tupD (ps : List (List Int)) (p : List Int) : (ps.map tupD).any (fun z => PyData.eqv z (tupD p)) = ps.any fun z => decide (z = p) := by
  rw [List.any_map]
  congr 1
  funext z
  exact eqv_tupD z p
def Lp.cuts (l : Lp) (lo hi : Int) : List (List Int) := sortP (l.accC lo (hi + 1 - lo).toNat)
theorem cuts_len {l : Lp} (o : l.Ok) (lo hi : Int) : (l.cuts lo hi).length ≤ 4 * (hi + 1 - lo).toNat := by
  unfold Lp.cuts
  rw [(sortP_perm _).length_eq]
  exact acc_len o lo _
end FWL
namespace FWL
open PySem PySem.Spec PyProof.Rows L2 FW
/-! ### bounds -/
theorem mulL_sz {p q : Nat} {b : List Int} (hb : ∀ c, c ∈ b → Sz q c) : ∀ {a : List Int}, (∀ c, c ∈ a → Sz p c) → ∀ x, x ∈ mulL a b → Sz (p + q + a.length) x
  | [], _, x, h => by cases h
  | c :: cs, ha, x, h => by
    unfold mulL at h
    have h1 : ∀ y, y ∈ scaL c b → Sz (p + q + cs.length) y := fun y hy => by
      obtain ⟨d, hd, rfl⟩ := List.mem_map.mp hy
      have h2 := ha c List.mem_cons_self
      have h3 := hb d hd
      have h4 : (c * d).natAbs < 2 ^ (p + q) := by
        rw [Int.natAbs_mul, Nat.pow_add]
        exact Nat.mul_lt_mul'' h2 h3
      exact Nat.lt_of_lt_of_le h4 (Nat.pow_le_pow_right (by decide) (by omega))
    have h2 : ∀ y, y ∈ (0 :: mulL cs b) → Sz (p + q + cs.length) y := fun y hy => by
      rcases List.mem_cons.mp hy with rfl | hy
      · exact Nat.pow_pos (by decide)
      · exact mulL_sz hb (fun d hd => ha d (List.mem_cons_of_mem _ hd)) y hy
    have := addL_sz h1 h2 x h
    rw [List.length_cons]
    exact this
theorem mulL_len : ∀ (a b : List Int), (mulL a b).length ≤ a.length + b.length
  | [], b => Nat.zero_le _
  | c :: cs, b => by
    have := mulL_len cs b
    unfold mulL
    rw [addL_len]
    unfold scaL
    rw [List.length_map, List.length_cons, List.length_cons]
    omega
theorem PZ.mul {m n p q : Nat} {a b : List Int} (h1 : PZ m p a) (h2 : PZ n q b) : PZ (m + n) (p + q + m) (pMul a b) := by
  refine ⟨?_, fun c hc => Sz.mono (mulL_sz h2.2 h1.2 c (trm_mem hc)) (by have := h1.1; omega)⟩
  have := trm_len (mulL a b)
  have := mulL_len a b
  have := h1.1; have := h2.1
  unfold pMul; omega
theorem PZ.one : PZ 1 1 [1] := ⟨Nat.le_refl _, fun c hc => by rw [List.mem_singleton.mp hc]; show (1 : Nat) < 2 ^ 1; decide⟩
theorem pz_pow {b : Nat} {i : Int} (h : Sz b i) (hb : 1 ≤ b) (hb2 : b ≤ 10) : ∀ k : Nat, k ≤ 4 → PZ (2 * k + 1) (20 * k + 1) (pPow [i, 1] k)
  | 0, _ => PZ.one
  | k + 1, hk => ((pz_pow h hb hb2 k (by omega)).mul (pz1 h hb)).mono (by omega) (by omega)
theorem pz_endP {k : Int} (h1 : 2 ≤ k) (h2 : k ≤ 4) : PZ 9 90 (endP k) := by
  have a := pz_pow (b := 1) (i := 1) (by decide) (by decide) (by decide) k.toNat (by omega)
  have b := pz_pow (b := 1) (i := 0) (by decide) (by decide) (by decide) k.toNat (by omega)
  exact (a.less b).mono (by omega) (by omega)
theorem pz_restP {k i j : Int} (h1 : 2 ≤ k) (h2 : k ≤ 4) (i1 : -60 ≤ i) (i2 : i ≤ 60) (j1 : -100 ≤ j) (j2 : j ≤ 100) : PZ 9 95 (restP k i j) := by
  have m1 : -240 ≤ (k - 1) * i ∧ (k - 1) * i ≤ 240 := by
    have : k = 2 ∨ k = 3 ∨ k = 4 := by omega
    rcases this with rfl | rfl | rfl <;> omega
  have a := pz_pow (b := 6) (i := i) (by show i.natAbs < 64; omega) (by decide) (by decide) (k - 1).toNat (by omega)
  have b := pz_pow (b := 1) (i := 0) (by decide) (by decide) (by decide) k.toNat (by omega)
  have c := pz1 (b := 10) (c := j - (k - 1) * i) (by show _ < 1024; omega) (by decide)
  exact (((a.mul c).mono (Nat.le_refl _) (by omega : _ ≤ 94)).less (b.mono (Nat.le_refl _) (by omega : _ ≤ 94))).mono (by omega) (by omega)
/-! ### above, fall_poly -/
def aboveP (a b : List Int) : List Int := pAdd (pLess a b) [1]
theorem pv_above (a b : List Int) (r : Int) : pvl (aboveP a b) r = pvl a r - pvl b r + 1 := by unfold aboveP; rw [pv_add, pv_less]; simp [pvl]
def sp_above (K : PySem.W.Frag) : Sp := fun vs H Q _ => ∃ (a b : Addr) (ns ms : List Int), vs = [.ref a, .ref b] ∧ SqA K H a (ns.map V.int) ∧ SqT K H b (ms.map V.int) ∧ ns.length ≤ 99 ∧ ms.length ≤ 99 ∧ ∀ t H', H t = none → Ext H H' → H' t = some (.tup ((aboveP ns ms).map V.int)) → Q (.ref t) H'
def rd_above (K : PySem.W.Frag) : TS := tRet (tCall (sp_poly_sum K) [] E0 (tCons (tCall (sp_poly_less K) [] E0 (tCons (tVar 0) (tCons (tVar 1) (tNil)))) (tCons (tTup (tCons (tC (.int 1)) (tNil))) (tNil))))
theorem pure_above (K : PySem.W.Frag) (vs : List V) (H : Hp) (Q : VK) (E : XK) (h : sp_above K vs H Q E) : rd_above K { nx := fun _ H' => Q .non H', rt := Q } (start ["one", "other"] vs) H := by
  obtain ⟨a, b, ns, ms, rfl, ha, hb, h1, h2, q⟩ := h
  unfold rd_above
  walk_at "rx"
  refine lessP ha hb (by omega) (by omega) fun t1 H1 ht1 e1 g1 => ?_
  walk_at "rx"
  have l1 : (pLess ns ms).length ≤ 100 := by
    have := trm_len (addL ns (negL ms))
    rw [addL_len] at this
    unfold negL at this
    rw [List.length_map] at this
    unfold pLess negL
    omega
  have nh' : nH nt = some (.tup (([1] : List Int).map V.int)) := nh
  refine sumP (.inr (SqT.of (ne _ _ g1))) (.inr (SqT.of nh')) l1 (by decide) fun t H' ht e g => ?_
  walk_at "rx"
  exact q t H' ((e1.tr ne).non ht) ((e1.tr ne).tr e) g
def Lp.reach (l : Lp) : Int := (l.d + l.near * (l.a + l.c)) / l.c
def fallP (l : Lp) (g : Int) : List Int := pLess (pMul [g - l.reach, 1] (pPow [g, 1] (l.k - 1).toNat)) (pPow [1, 1] l.k.toNat)
theorem reach_b {l : Lp} (o : l.Ok) : -10 ≤ l.reach ∧ l.reach ≤ 40 := by
  have nn := near_cases l
  have hc := o.cases
  have d0 := o.d0; have d1 := o.d1
  unfold Lp.reach
  revert nn
  generalize l.near = e
  intro nn
  clear o
  obtain ⟨k, a, c, d, st, td, md⟩ := l
  dsimp only at *
  simp only [List.mem_cons, Prod.mk.injEq, List.not_mem_nil, or_false] at hc
  rcases nn with rfl | rfl | rfl <;> rcases hc with ⟨rfl, rfl, rfl⟩ | ⟨rfl, rfl, rfl⟩ | ⟨rfl, rfl, rfl⟩ | ⟨rfl, rfl, rfl⟩ | ⟨rfl, rfl, rfl⟩ | ⟨rfl, rfl, rfl⟩ | ⟨rfl, rfl, rfl⟩ | ⟨rfl, rfl, rfl⟩ | ⟨rfl, rfl, rfl⟩ | ⟨rfl, rfl, rfl⟩ | ⟨rfl, rfl, rfl⟩ | ⟨rfl, rfl, rfl⟩ | ⟨rfl, rfl, rfl⟩ | ⟨rfl, rfl, rfl⟩ | ⟨rfl, rfl, rfl⟩ | ⟨rfl, rfl, rfl⟩ | ⟨rfl, rfl, rfl⟩
  all_goals omega
theorem pz_fallP {l : Lp} (o : l.Ok) {g : Int} (g1 : -60 ≤ g) (g2 : g ≤ 60) : PZ 9 95 (fallP l g) := by
  have hk := o.hk
  have rb := reach_b o
  have a := pz_pow (b := 6) (i := g) (by show g.natAbs < 64; omega) (by decide) (by decide) (l.k - 1).toNat (by omega)
  have b := pz_pow (b := 1) (i := 1) (by decide) (by decide) (by decide) l.k.toNat (by omega)
  have c := pz1 (b := 10) (c := g - l.reach) (by show _ < 1024; omega) (by decide)
  exact (((c.mul a).mono (Nat.le_refl _) (by omega : _ ≤ 94)).less (b.mono (Nat.le_refl _) (by omega : _ ≤ 94))).mono (by omega) (by omega)
def sp_fall_poly (K : PySem.W.Frag) : Sp := fun vs H Q _ => ∃ (p : Addr) (l : Lp) (g : Int), vs = [.ref p, .int g] ∧ IsLp K H p l ∧ l.Ok ∧ -60 ≤ g ∧ g ≤ 60 ∧ ∀ t H', H t = none → Ext H H' → H' t = some (.tup ((fallP l g).map V.int)) → Q (.ref t) H'
def rd_fall_poly (K : PySem.W.Frag) : TS := tSeq (tAsg (tOp FW.rDiv (tOp FW.rAdd (tFld K (tVar 0) "d") (tOp FW.rMul (tMeth (He.ga K "Average") "nearness" (sp_Average_nearness K) [] E0 (tVar 0) tNil) (tOp FW.rAdd (tFld K (tVar 0) "a") (tFld K (tVar 0) "c")))) (tFld K (tVar 0) "c")) (gName 2)) (tSeq (tAsg (tCall (sp_poly_product K) [] E0 (tCons (tTup (tCons (tOp FW.rSub (tVar 1) (tVar 2)) (tCons (tC (.int 1)) (tNil)))) (tCons (tCall (sp_poly_power K) [] E0 (tCons (tTup (tCons (tVar 1) (tCons (tC (.int 1)) (tNil)))) (tCons (tOp FW.rSub (tFld K (tVar 0) "k") (tC (.int 1))) (tNil)))) (tNil)))) (gName 3)) (tRet (tCall (sp_poly_less K) [] E0 (tCons (tVar 3) (tCons (tCall (sp_poly_power K) [] E0 (tCons (tTup (tCons (tC (.int 1)) (tCons (tC (.int 1)) (tNil)))) (tCons (tFld K (tVar 0) "k") (tNil)))) (tNil))))))
theorem pure_fall_poly (K : PySem.W.Frag) (A : AvK K) (vs : List V) (H : Hp) (Q : VK) (E : XK) (h : sp_fall_poly K vs H Q E) : rd_fall_poly K { nx := fun _ H' => Q .non H', rt := Q } (start ["loop", "gap", "reach", "lesser"] vs) H := by
  obtain ⟨p, l, g, rfl, hL, o, g1, g2, q⟩ := h
  obtain ⟨dx, hp⟩ := id hL
  have A' := A; cases A'
  have hk := o.hk; have a1 := o.a1; have a5 := o.a5; have c1 := o.c1; have c3 := o.c3; have ac := o.ac; have d0 := o.d0; have d1 := o.d1
  have nn := near_cases l
  have rb := reach_b o
  unfold rd_fall_poly
  walk_at "rx"
  refine ⟨p, l, rfl, hL, fun H0 e0 => ?_⟩
  have hp0 := e0 _ _ hp
  clear hp
  walk_at "rx"
  rotate_left
  · exact wide_div (b := 10) (by omega) (by show _ < 1024; omega) (by decide) (by decide)
  · exact wide_mul (a := 10) (b := 10) (by show _ < 1024; omega) (by show _ < 1024; omega) (by decide) (by decide) (by decide)
  rename_i t0 z0 G0 f0 h0
  have h0' : G0 t0 = some (.tup (([g - l.reach, 1] : List Int).map V.int)) := h0
  refine ⟨nt, [g, 1], l.k - 1, 6, rfl, nh, pz1 (by show g.natAbs < 64; omega) (by decide), by decide, by omega, by omega, fun t1 H1 e1 h1 z1 => ?_⟩
  have e01 := ne.tr e1
  clear nh
  have zc : PZ 2 10 [g - l.reach, 1] := pz1 (by show _ < 1024; omega) (by decide)
  have kk : (l.k - 1).toNat * (6 + 7) ≤ 39 := by omega
  walk_at "rx"
  refine mulP (.inr (SqT.of (e01 _ _ h0'))) (.inr (SqT.of h1)) zc z1 (by omega) (by omega) (by omega) fun t2 H2 _ e2 h2 z2 => ?_
  have eA := (e0.tr f0).tr (e01.tr e2)
  have hp2 := (f0.tr (e01.tr e2)) _ _ hp0
  clear hp0 h0 h1 h0' f0 e01 e2 ne
  walk_at "rx"
  refine ⟨nt, [1, 1], l.k, 1, rfl, nh, pz1 (by decide) (by decide), by decide, by omega, by omega, fun t3 H3 e3 h3 z3 => ?_⟩
  have e23 := ne.tr e3
  walk_at "rx"
  have kk2 : l.k.toNat * (1 + 7) ≤ 32 := by omega
  refine lessP (.inr (SqT.of (e23 _ _ h2))) (SqT.of h3) (z2.len (by omega)) (z3.len (by omega)) fun t H' ht e h => ?_
  walk_at "rx"
  exact q t H' (eA.non (e23.non ht)) ((eA.tr e23).tr e) h
/-! ### conditions -/
def risingP (l : Lp) (cs : List (List Int)) : List (List Int) := [] :: (cs ++ [endP l.k])
def diffsP : List (List Int) → List (List Int)
  | p :: q :: ps => pLess q p :: diffsP (q :: ps)
  | _ => []
def notOne (lo hi : Int) : List Int := (rgZ lo (hi + 1)).filter fun i => !decide (i = 1)
def condP (l : Lp) (lo hi : Int) (cs : List (List Int)) : List (List Int) :=
  diffsP (risingP l cs) ++ (notOne lo hi).map (fun i => aboveP (restP l.k i (l.k + 1)) (endP l.k)) ++ [aboveP (fallP l (hi + 1)) []]
theorem diffs_at : ∀ {ps : List (List Int)} {t : Nat} {p q : List Int}, ps[t]? = some p → ps[t + 1]? = some q → (diffsP ps)[t]? = some (pLess q p)
  | p :: q :: ps, 0, _, _, h1, h2 => by cases h1; cases h2; rfl
  | p :: q :: ps, t + 1, a, b, h1, h2 => by
    show (diffsP (q :: ps))[t]? = _
    exact diffs_at (ps := q :: ps) h1 h2
  | [], _, _, _, h, _ => by simp at h
  | [p], 0, _, _, _, h => by simp at h
  | [p], t + 1, _, _, h, _ => by simp at h
theorem Pls.get {H : Hp} : ∀ {xs : List V} {ps : List (List Int)} {t : Nat} {p : List Int}, Pls H xs ps → ps[t]? = some p → ∃ a, xs[t]? = some (.ref a) ∧ H a = some (.tup (p.map V.int))
  | _, _, t, p, .nil, h => by simp at h
  | _, _, 0, p, .cons h _, e => by
    cases e
    obtain ⟨a, rfl, ha⟩ := h
    exact ⟨a, rfl, ha⟩
  | _, _, t + 1, p, .cons _ t', e => Pls.get (t := t) t' e
end FWL
namespace FWL
open PySem PySem.Spec PyProof.Rows L2 FW
theorem atI_of {xs : List V} {n : Nat} {j : Int} {v : V} (h : xs[n]? = some v) (e : j = n) : atI xs j = some v := by rw [e]; exact atI_nat h
theorem Pls.snoc {H : Hp} {xs : List V} {ps : List (List Int)} {a : Addr} {p : List Int} (h : Pls H xs ps) (ha : H a = some (.tup (p.map V.int))) : Pls H (xs ++ [.ref a]) (ps ++ [p]) := Paired.snoc h ⟨a, rfl, ha⟩
theorem Pls.upd {H : Hp} {b : Addr} {zs ws : List V} {xs : List V} {ps : List (List Int)} (h : Pls H xs ps) (hb : H b = some (.lst zs)) : Pls (upd H b (.lst ws)) xs ps := Paired.mapP h fun _ _ ⟨a, h1, h2⟩ => ⟨a, h1, by rw [upd_ne (ne_of h2 hb (fun z => nomatch z))]; exact h2⟩
theorem e_catX {H : Hp} {Q : VK} {a b : Addr} {xs ys : List V} (h : H a = some (.lst xs)) (h' : H b = some (.lst ys)) (hz : xs.length + ys.length ≤ 100000) (k : ∀ p G, H p = none → Ext H G → G p = some (.lst (xs ++ ys)) → Q (.ref p) G) : rCat (.ref a) (.ref b) H Q :=
  e_cat (fun p hp => k p _ hp (Ext.new hp) upd_same) h h' (by rw [sizeLine_eq]; omega)
theorem rgZ_succ (lo : Int) (n : Nat) : rgZ lo (lo + (n + 1 : Nat)) = rgZ lo (lo + (n : Nat)) ++ [lo + (n : Nat)] := by
  unfold rgZ
  rw [show (lo + ((n + 1 : Nat) : Int) - lo).toNat = n + 1 by omega, show (lo + (n : Nat) - lo).toNat = n by omega, List.range_succ, List.map_append]
  rfl
end FWL
namespace FWL
open PySem PySem.Spec PyProof.Rows L2 FW
/-! ### maps -/
theorem cutV_take (xs : List V) (m : Nat) : cutV xs none (some (m : Int)) = xs.take m := by
  unfold cutV
  rw [HT.sIx_none, HT.sIx_nat]
  rw [List.drop_zero, Nat.sub_zero]
  rcases Nat.le_total m xs.length with h | h
  · rw [Nat.min_eq_left h]
  · rw [Nat.min_eq_right h, List.take_of_length_le (Nat.le_refl _), List.take_of_length_le h]
theorem Pls.take {H : Hp} : ∀ {xs : List V} {ps : List (List Int)} (m : Nat), Pls H xs ps → Pls H (xs.take m) (ps.take m)
  | _, _, 0, _ => by rw [List.take_zero, List.take_zero]; exact .nil
  | _, _, m + 1, .nil => by rw [List.take_nil, List.take_nil]; exact .nil
  | _, _, m + 1, .cons h t => by rw [List.take_succ_cons, List.take_succ_cons]; exact .cons h (Pls.take m t)
/-- in how many cuts of a gap the rest has passed -/
def Lp.passed (l : Lp) (i : Int) (ps : List (List Int)) : Nat := ((l.rowC i).filter fun p => ps.any fun z => decide (z = p)).length
def mapP (l : Lp) (lo hi : Int) (ps : List (List Int)) : List Int := (rgZ lo (hi + 1)).map fun i => l.ll i + (l.passed i ps : Nat)
def mapsP (l : Lp) (lo hi : Int) (cs : List (List Int)) : List (List Int) := (List.range (cs.length + 1)).map fun t => mapP l lo hi (cs.take t)
/-! ### from where on a polynomial is above nought -/
def EvPos (f : Int → Int) : Prop := ∃ B : Int, ∀ r, B ≤ r → 0 < f r
end FWL
namespace FWL
open PySem PySem.Spec PyProof.Rows L2 FW
/-! ### which polynomial is above another one in the end -/
def EvLt (p q : List Int) : Prop := EvPos fun r => pvl q r - pvl p r
theorem EvPos.up {f g : Int → Int} (h : EvPos f) (e : ∀ r, f r ≤ g r) : EvPos g := by
  obtain ⟨B, hB⟩ := h
  exact ⟨B, fun r hr => Int.lt_of_lt_of_le (hB r hr) (e r)⟩
theorem ev_cons {f : Int → Int} (c : Int) (h : EvPos f) : EvPos fun r => c + r * f r := by
  obtain ⟨B, hB⟩ := h
  refine ⟨max B (c.natAbs + 1), fun r hr => ?_⟩
  have h1 := hB r (by omega)
  have h2 : r * 1 ≤ r * f r := Int.mul_le_mul_of_nonneg_left (by omega) (by omega)
  show 0 < c + r * f r
  omega
theorem ev_lead : ∀ {cs : List Int} {c : Int}, cs.getLast? = some c → 0 < c → EvPos (pvl cs)
  | [], _, h, _ => by cases h
  | [d], c, h, hc => by
    obtain rfl : d = c := Option.some.inj h
    exact ⟨0, fun r _ => by show 0 < d + r * 0; omega⟩
  | d :: e :: cs, c, h, hc => by
    rw [List.getLast?_cons_cons] at h
    exact ev_cons d (ev_lead h hc)
/-- less from the top -/
def topLt : List Int → List Int → Prop
  | a :: p, b :: q => topLt p q ∨ (p = q ∧ a < b)
  | _, _ => False
theorem ev_top : ∀ {p q : List Int}, topLt p q → EvLt p q
  | a :: p, b :: q, h => by
    rcases h with h | ⟨rfl, h⟩
    · obtain ⟨B, hB⟩ := ev_cons (b - a) (ev_top h)
      refine ⟨B, fun r hr => ?_⟩
      have : 0 < b - a + r * (pvl q r - pvl p r) := hB r hr
      show 0 < (b + r * pvl q r) - (a + r * pvl p r)
      have e : r * (pvl q r - pvl p r) = r * pvl q r - r * pvl p r := Int.mul_sub ..
      omega
    · exact ⟨0, fun r _ => by show 0 < (b + r * pvl p r) - (a + r * pvl p r); omega⟩
  | [], _, h => h.elim
  | _ :: _, [], h => h.elim
theorem snoc_lt : ∀ {xs ys : List Int} {a b : Int}, xs.length = ys.length → (xs ++ [a]) < (ys ++ [b]) → xs < ys ∨ (xs = ys ∧ a < b)
  | [], [], a, b, _, h => by
    have h : [a] < [b] := h
    rw [List.cons_lt_cons_iff] at h
    rcases h with h | ⟨_, h⟩
    · exact .inr ⟨rfl, h⟩
    · exact absurd h (by simp)
  | x :: xs, y :: ys, a, b, hl, h => by
    have h0 : (x :: (xs ++ [a])) < (y :: (ys ++ [b])) := h
    rw [List.cons_lt_cons_iff] at h0
    rw [List.cons_lt_cons_iff]
    rcases h0 with h1 | ⟨e1, h1⟩
    · exact .inl (.inl h1)
    · rcases snoc_lt (xs := xs) (ys := ys) (by simpa using hl) h1 with h2 | ⟨e2, h2⟩
      · exact .inl (.inr ⟨e1, h2⟩)
      · exact .inr ⟨by rw [e1, e2], h2⟩
  | [], _ :: _, _, _, h, _ => by simp at h
  | _ :: _, [], _, _, h, _ => by simp at h
theorem top_of_rev : ∀ {p q : List Int}, p.length = q.length → p.reverse < q.reverse → topLt p q
  | [], [], _, h => absurd h (by simp)
  | a :: p, b :: q, hl, h => by
    rw [List.reverse_cons, List.reverse_cons] at h
    rcases snoc_lt (by simpa using hl) h with h | ⟨e, h⟩
    · exact .inl (top_of_rev (by simpa using hl) h)
    · exact .inr ⟨List.reverse_inj.mp e, h⟩
  | [], _ :: _, h, _ => by simp at h
  | _ :: _, [], h, _ => by simp at h
theorem ev_key {p q : List Int} (hl : p.length = q.length) (hk : keyL p ≤ keyL q) (hn : p ≠ q) : EvLt p q := by
  refine ev_top (top_of_rev hl ?_)
  have h1 : keyL p < keyL q := by
    rcases List.le_iff_lt_or_eq.mp hk with h | h
    · exact h
    · exact absurd (keyL_inj h) hn
  unfold keyL at h1
  rw [List.cons_lt_cons_iff] at h1
  rcases h1 with h1 | ⟨_, h1⟩
  · omega
  · exact h1
/-! the ends -/
def endE (k : Int) : List Int := if k = 2 then [1, 2] else if k = 3 then [1, 3, 3] else [1, 4, 6, 4]
theorem endP_pv (k r : Int) : pvl (endP k) r = (r + 1) ^ k.toNat - r ^ k.toNat := by
  unfold endP
  rw [pv_less, pv_pow, pv_pow, pv_one, pv_x]
theorem endP_eq {k : Int} (hk : k = 2 ∨ k = 3 ∨ k = 4) : endP k = endE k := by
  refine pv_uniq (fun r => ?_) (by unfold endP pLess; exact trm_last _) ?_
  · rw [endP_pv]
    unfold endE
    rcases hk with rfl | rfl | rfl
    · rw [if_pos rfl]; show (r + 1) ^ 2 - r ^ 2 = 1 + r * (2 + r * 0); grind
    · rw [if_neg (by decide), if_pos rfl]; show (r + 1) ^ 3 - r ^ 3 = 1 + r * (3 + r * (3 + r * 0)); grind
    · rw [if_neg (by decide), if_neg (by decide)]; show (r + 1) ^ 4 - r ^ 4 = 1 + r * (4 + r * (6 + r * (4 + r * 0))); grind
  · unfold endE
    rcases hk with rfl | rfl | rfl <;> decide
theorem sq_pos {i : Int} (h : i ≠ 1) : 1 ≤ (i - 1) * (i - 1) := by
  rcases Int.lt_or_gt_of_ne h with z | z
  · have := Int.mul_le_mul_of_nonneg_left (show (1 : Int) ≤ 1 - i by omega) (show (0 : Int) ≤ 1 - i by omega)
    have e : (1 - i) * (1 - i) = (i - 1) * (i - 1) := by grind
    omega
  · have := Int.mul_le_mul_of_nonneg_left (show (1 : Int) ≤ i - 1 by omega) (show (0 : Int) ≤ i - 1 by omega)
    omega
theorem rest_end {k i j : Int} (hk : k = 2 ∨ k = 3 ∨ k = 4) (hj : j < k ∨ (j = k ∧ i ≠ 1)) : EvLt (restE k i j) (endE k) := by
  refine ev_top ?_
  unfold restE endE
  rcases hk with rfl | rfl | rfl
  · rw [if_pos rfl, if_pos rfl]
    rcases hj with h | ⟨rfl, h⟩
    · exact .inl (.inr ⟨rfl, h⟩)
    · refine .inr ⟨rfl, ?_⟩
      have := sq_pos h
      have e : i * (2 - i) = 1 - (i - 1) * (i - 1) := by grind
      omega
  · rw [if_neg (by decide), if_pos rfl, if_neg (by decide), if_pos rfl]
    rcases hj with h | ⟨rfl, h⟩
    · exact .inl (.inl (.inr ⟨rfl, h⟩))
    · refine .inl (.inr ⟨rfl, ?_⟩)
      have := sq_pos h
      have e : 2 * i * 3 - 3 * (i * i) = 3 - 3 * ((i - 1) * (i - 1)) := by grind
      omega
  · rw [if_neg (by decide), if_neg (by decide), if_neg (by decide), if_neg (by decide)]
    rcases hj with h | ⟨rfl, h⟩
    · exact .inl (.inl (.inl (.inr ⟨rfl, h⟩)))
    · refine .inl (.inl (.inr ⟨rfl, ?_⟩))
      have := sq_pos h
      have e : 3 * i * 4 - 6 * (i * i) = 6 - 6 * ((i - 1) * (i - 1)) := by grind
      omega
theorem fallP_pv (l : Lp) (g r : Int) : pvl (fallP l g) r = (r + (g - l.reach)) * (r + g) ^ (l.k - 1).toNat - (r + 1) ^ l.k.toNat := by
  unfold fallP
  rw [pv_less, pv_mul, pv_pow, pv_pow, pv_one, pv_one, pv_one]
theorem top_reach {l : Lp} (o : l.Ok) : l.reach < l.k * l.top := by
  have nn := near_cases l
  have hc := o.cases
  have d0 := o.d0; have d1 := o.d1
  unfold Lp.reach Lp.top
  revert nn
  generalize l.near = e
  intro nn
  clear o
  obtain ⟨k, a, c, d, st, td, md⟩ := l
  dsimp only at *
  simp only [List.mem_cons, Prod.mk.injEq, List.not_mem_nil, or_false] at hc
  rcases nn with rfl | rfl | rfl <;> rcases hc with ⟨rfl, rfl, rfl⟩ | ⟨rfl, rfl, rfl⟩ | ⟨rfl, rfl, rfl⟩ | ⟨rfl, rfl, rfl⟩ | ⟨rfl, rfl, rfl⟩ | ⟨rfl, rfl, rfl⟩ | ⟨rfl, rfl, rfl⟩ | ⟨rfl, rfl, rfl⟩ | ⟨rfl, rfl, rfl⟩ | ⟨rfl, rfl, rfl⟩ | ⟨rfl, rfl, rfl⟩ | ⟨rfl, rfl, rfl⟩ | ⟨rfl, rfl, rfl⟩ | ⟨rfl, rfl, rfl⟩ | ⟨rfl, rfl, rfl⟩ | ⟨rfl, rfl, rfl⟩ | ⟨rfl, rfl, rfl⟩
  all_goals omega
/-! the cuts of a window -/
theorem rowF_asc {l : Lp} (o : l.Ok) {i : Int} : ∀ (n : Nat) (g : Int), (l.rowF i n g).Pairwise (· < ·) ∧ ∀ j, j ∈ l.rowF i n g → l.needed i g ≤ j
  | 0, _ => ⟨List.Pairwise.nil, fun _ h => nomatch h⟩
  | n + 1, g => by
    obtain ⟨h1, h2⟩ := rowF_asc o (i := i) n (g + 1)
    have s := need_succ o i g
    unfold Lp.rowF
    by_cases hm : l.needed i g ≤ l.most i
    · rw [if_pos hm]
      refine ⟨List.pairwise_cons.mpr ⟨fun j hj => by have := h2 j hj; omega, h1⟩, fun j hj => ?_⟩
      rcases List.mem_cons.mp hj with rfl | hj
      · exact Int.le_refl _
      · have := h2 j hj; omega
    · rw [if_neg hm]; exact ⟨List.Pairwise.nil, fun _ h => nomatch h⟩
theorem restE_last (k i j : Int) : (restE k i j).getLast? = some j := by
  unfold restE
  split
  · rfl
  · split <;> rfl
theorem row_nodup {l : Lp} (o : l.Ok) (i : Int) : (l.rowC i).Nodup := by
  have h := (rowF_asc o (i := i) 8 (l.ll i + 1)).1
  unfold Lp.rowC
  rw [List.nodup_iff_pairwise_ne, List.pairwise_map]
  have hp : ∀ j, j ∈ l.rowJ i → 1 ≤ j := fun j hj => (row_pos o 8 (l.ll i + 1) (need_one o i) j hj).1
  refine (List.Pairwise.imp_of_mem ?_ h)
  intro a b ha hb hlt e
  rw [restP_eq o.hk (hp a ha), restP_eq o.hk (hp b hb)] at e
  have := congrArg List.getLast? e
  rw [restE_last, restE_last] at this
  have := Option.some.inj this
  omega
theorem cut_form {l : Lp} (o : l.Ok) {lo hi : Int} {p : List Int} (h : p ∈ l.cuts lo hi) : ∃ i j, lo ≤ i ∧ i ≤ hi ∧ 1 ≤ j ∧ j ≤ l.most i ∧ p = restE l.k i j := by
  unfold Lp.cuts at h
  obtain ⟨m, hm, hr⟩ := acc_mem.mp ((sortP_perm _).mem_iff.mp h)
  obtain ⟨j, _, j1, j2, e⟩ := row_ok o hr
  exact ⟨lo + m, j, by omega, by omega, j1, j2, e⟩
theorem cuts_nodup {l : Lp} (o : l.Ok) (lo hi : Int) : (l.cuts lo hi).Nodup := (sortP_perm _).nodup_iff.mpr (acc_nodup (row_nodup o) lo _)
theorem cuts_pw {l : Lp} (o : l.Ok) (lo hi : Int) : (l.cuts lo hi).Pairwise EvLt := by
  have h1 := sortP_pw (l.accC lo (hi + 1 - lo).toNat)
  have h2 := List.nodup_iff_pairwise_ne.mp (cuts_nodup o lo hi)
  refine List.Pairwise.imp_of_mem ?_ (h1.and h2)
  intro a b ha hb h
  obtain ⟨i, j, _, _, _, _, ea⟩ := cut_form o (lo := lo) (hi := hi) ha
  obtain ⟨i', j', _, _, _, _, eb⟩ := cut_form o (lo := lo) (hi := hi) hb
  refine ev_key ?_ h.1 h.2
  rw [ea, eb, restE_len o.hk, restE_len o.hk]
theorem cut_end {l : Lp} (o : l.Ok) {i j : Int} (h : j ≤ l.most i) : EvLt (restE l.k i j) (endE l.k) := by
  refine rest_end o.hk ?_
  unfold Lp.most at h
  by_cases hi : i = 1
  · rw [if_pos hi] at h; exact .inl (by omega)
  · rw [if_neg hi] at h
    rcases Int.lt_or_eq_of_le h with z | z
    · exact .inl z
    · exact .inr ⟨z, hi⟩
theorem nil_lt {p : List Int} (h : EvPos (pvl p)) : EvLt [] p := h.up fun r => by show pvl p r ≤ pvl p r - 0; omega
theorem rising_pw {l : Lp} (o : l.Ok) (lo hi : Int) : (risingP l (l.cuts lo hi)).Pairwise EvLt := by
  have hk := o.hk
  unfold risingP
  rw [endP_eq hk]
  refine List.pairwise_cons.mpr ⟨fun p hp => ?_, ?_⟩
  · rcases List.mem_append.mp hp with hp | hp
    · obtain ⟨i, j, _, _, j1, _, rfl⟩ := cut_form o hp
      exact nil_lt (ev_lead (restE_last _ _ _) (by omega))
    · rw [List.mem_singleton.mp hp]
      have : (endE l.k).getLast? = some l.k := by
        unfold endE
        rcases hk with h | h | h <;> rw [h] <;> rfl
      exact nil_lt (ev_lead this (by omega))
  · rw [List.pairwise_append]
    refine ⟨cuts_pw o lo hi, List.pairwise_singleton _ _, fun p hp q hq => ?_⟩
    rw [List.mem_singleton.mp hq]
    obtain ⟨i, j, _, _, _, j2, rfl⟩ := cut_form o hp
    exact cut_end o j2
theorem diffs_ev : ∀ {ps : List (List Int)}, ps.Pairwise EvLt → ∀ c, c ∈ diffsP ps → ∃ p q, p ∈ ps ∧ q ∈ ps ∧ c = pLess q p ∧ EvPos (pvl c)
  | [], _, _, h => by cases h
  | [_], _, _, h => by cases h
  | p :: q :: ps, hp, c, h => by
    have hp' := List.pairwise_cons.mp hp
    rcases List.mem_cons.mp h with rfl | h
    · exact ⟨p, q, List.mem_cons_self, List.mem_cons_of_mem _ List.mem_cons_self, rfl, (hp'.1 q List.mem_cons_self).up fun r => by rw [pv_less]; exact Int.le_refl _⟩
    · obtain ⟨a, b, h1, h2, h3⟩ := diffs_ev hp'.2 c h
      exact ⟨a, b, List.mem_cons_of_mem _ h1, List.mem_cons_of_mem _ h2, h3⟩
end FWL
namespace FWL
open PySem PySem.Spec PyProof.Rows L2 FW
/-! ### the table -/
/-- a table, as it stands -/
structure TabAt (H : Hp) (t : Addr) (l : Lp) (f : Int) : Prop where
  ex : ∃ (tc tm : Addr) (xs ys : List V), H t = some (.tup [.int f, .int l.low, .int l.top, .ref tc, .ref tm]) ∧ H tc = some (.tup xs) ∧ Pls H xs (l.cuts l.low l.top) ∧ H tm = some (.tup ys) ∧ Pls H ys (mapsP l l.low l.top (l.cuts l.low l.top))
theorem TabAt.ext {H H' : Hp} {t : Addr} {l : Lp} {f : Int} (h : TabAt H t l f) (e : Ext H H') : TabAt H' t l f := by
  obtain ⟨tc, tm, xs, ys, h1, h2, h3, h4, h5⟩ := h.ex
  exact ⟨tc, tm, xs, ys, e _ _ h1, e _ _ h2, h3.ext e, e _ _ h4, h5.ext e⟩
theorem TabAt.extN {H H' : Hp} {t : Addr} {l : Lp} {f : Int} (h : TabAt H t l f) (e : LamX.ExtN H H') : TabAt H' t l f := by
  obtain ⟨tc, tm, xs, ys, h1, h2, h3, h4, h5⟩ := h.ex
  exact ⟨tc, tm, xs, ys, nx_tup e h1, nx_tup e h2, Paired.mapP h3 fun _ _ ⟨a, g1, g2⟩ => ⟨a, g1, nx_tup e g2⟩, nx_tup e h4, Paired.mapP h5 fun _ _ ⟨a, g1, g2⟩ => ⟨a, g1, nx_tup e g2⟩⟩
theorem IsLp.extN {K : PySem.W.Frag} {H H' : Hp} {p : Addr} {l : Lp} (h : IsLp K H p l) (e : LamX.ExtN H H') : IsLp K H' p l := by
  obtain ⟨dx, hp⟩ := h
  exact ⟨dx, nx_ins e hp⟩
end FWL
namespace FWL
open PySem PySem.Spec PyProof.Rows L2 FW
/-! ### from 300 on every condition is above nought -/
def hiOf (k : Int) : Int := if k = 2 then 10 else if k = 3 then 7 else 5
theorem top_hi {l : Lp} (o : l.Ok) : l.top ≤ hiOf l.k := by
  have nn := near_cases l
  have hc := o.cases
  have d0 := o.d0; have d1 := o.d1
  unfold Lp.top
  revert nn
  generalize l.near = e
  intro nn
  clear o
  obtain ⟨k, a, c, d, st, td, md⟩ := l
  dsimp only at *
  simp only [List.mem_cons, Prod.mk.injEq, List.not_mem_nil, or_false] at hc
  rcases nn with rfl | rfl | rfl <;> rcases hc with ⟨rfl, rfl, rfl⟩ | ⟨rfl, rfl, rfl⟩ | ⟨rfl, rfl, rfl⟩ | ⟨rfl, rfl, rfl⟩ | ⟨rfl, rfl, rfl⟩ | ⟨rfl, rfl, rfl⟩ | ⟨rfl, rfl, rfl⟩ | ⟨rfl, rfl, rfl⟩ | ⟨rfl, rfl, rfl⟩ | ⟨rfl, rfl, rfl⟩ | ⟨rfl, rfl, rfl⟩ | ⟨rfl, rfl, rfl⟩ | ⟨rfl, rfl, rfl⟩ | ⟨rfl, rfl, rfl⟩ | ⟨rfl, rfl, rfl⟩ | ⟨rfl, rfl, rfl⟩ | ⟨rfl, rfl, rfl⟩
  all_goals (unfold hiOf; simp only [Int.reduceEq, if_true, if_false, ite_true, ite_false]; omega)
theorem ll_low3 {l : Lp} (o : l.Ok) {i : Int} (h : -3 ≤ i) (h' : i ≤ 0) : -3 ≤ l.ll i := by
  have hc := o.cases
  have d0 := o.d0
  clear o
  unfold Lp.ll Lp.sl
  obtain ⟨k, a, c, d, st, td, md⟩ := l
  dsimp only at *
  simp only [List.mem_cons, Prod.mk.injEq, List.not_mem_nil, or_false] at hc
  rcases hc with ⟨rfl, rfl, rfl⟩ | ⟨rfl, rfl, rfl⟩ | ⟨rfl, rfl, rfl⟩ | ⟨rfl, rfl, rfl⟩ | ⟨rfl, rfl, rfl⟩ | ⟨rfl, rfl, rfl⟩ | ⟨rfl, rfl, rfl⟩ | ⟨rfl, rfl, rfl⟩ | ⟨rfl, rfl, rfl⟩ | ⟨rfl, rfl, rfl⟩ | ⟨rfl, rfl, rfl⟩ | ⟨rfl, rfl, rfl⟩ | ⟨rfl, rfl, rfl⟩ | ⟨rfl, rfl, rfl⟩ | ⟨rfl, rfl, rfl⟩ | ⟨rfl, rfl, rfl⟩ | ⟨rfl, rfl, rfl⟩
  all_goals omega
theorem lowF3 {l : Lp} (o : l.Ok) : ∀ (n : Nat) (x : Int), -3 ≤ x → x ≤ 0 → -3 ≤ l.lowF n x
  | 0, x, h, _ => h
  | n + 1, x, h, h' => by
    unfold Lp.lowF
    split
    · exact lowF3 o n _ (ll_low3 o h h') (by omega)
    · exact h
theorem low3 {l : Lp} (o : l.Ok) : -3 ≤ l.low := lowF3 o 10 0 (by decide) (by decide)
/-! ### above the window steps fall by enough -/
theorem fall_of {l : Lp} (o : l.Ok) {n x : Int} (hx : 1 ≤ x) (h : n < (x - l.reach) * x ^ (l.k - 1).toNat) : l.led n x < x - l.near := by
  have c1 := o.c1; have a1 := o.a1
  have hp : 0 < x ^ (l.k - 1).toNat := Int.pow_pos (by omega)
  have hq : n / x ^ (l.k - 1).toNat < x - l.reach := Int.ediv_lt_of_lt_mul hp h
  have hr : l.d + l.near * (l.a + l.c) < l.c * l.reach + l.c := by
    have := Int.lt_mul_ediv_self_add (x := l.d + l.near * (l.a + l.c)) (k := l.c) (by omega)
    exact this
  unfold Lp.led
  refine Int.ediv_lt_of_lt_mul (by omega) ?_
  have h1 : l.c * (n / x ^ (l.k - 1).toNat) ≤ l.c * (x - l.reach - 1) := Int.mul_le_mul_of_nonneg_left (by omega) (by omega)
  have e1 : l.c * (x - l.reach - 1) = l.c * x - l.c * l.reach - l.c := by grind
  have e2 : (x - l.near) * (l.a + l.c) = l.a * x + l.c * x - l.near * (l.a + l.c) := by grind
  omega
/-! ### neighbouring maps are unlike -/
theorem nodup_ne {cs : List (List Int)} {s t : Nat} {c : List Int} (hn : cs.Nodup) (h : s < t) (h1 : cs[s]? = some c) (h2 : cs[t]? = some c) : False := by
  obtain ⟨a, ha⟩ := List.getElem?_eq_some_iff.mp h1
  obtain ⟨b, hb⟩ := List.getElem?_eq_some_iff.mp h2
  exact List.pairwise_iff_getElem.mp hn s t a b h (ha.trans hb.symm)
theorem take_any {cs : List (List Int)} {t : Nat} {c : List Int} (h : cs[t]? = some c) (p : List Int) : ((cs.take (t + 1)).any fun z => decide (z = p)) = (((cs.take t).any fun z => decide (z = p)) || decide (c = p)) := by
  rw [List.take_add_one, h, List.any_append]; simp
theorem filter_le {α : Type} {p q : α → Bool} (h : ∀ x, p x = true → q x = true) : ∀ xs : List α, (xs.filter p).length ≤ (xs.filter q).length
  | [] => Nat.le_refl _
  | x :: xs => by
    have ih := filter_le h xs
    rw [List.filter_cons, List.filter_cons]
    by_cases hp : p x = true
    · rw [if_pos hp, if_pos (h x hp), List.length_cons, List.length_cons]; omega
    · rw [if_neg hp]; split
      · rw [List.length_cons]; omega
      · exact ih
theorem filter_lt {α : Type} {p q : α → Bool} {c : α} (h : ∀ x, p x = true → q x = true) : ∀ {xs : List α}, c ∈ xs → p c = false → q c = true → (xs.filter p).length < (xs.filter q).length
  | x :: xs, hc, h1, h2 => by
    rw [List.filter_cons, List.filter_cons]
    rcases List.mem_cons.mp hc with rfl | hc
    · have := filter_le h xs
      rw [if_neg (by rw [h1]; exact Bool.false_ne_true), if_pos h2, List.length_cons]; omega
    · have ih := filter_lt h hc h1 h2
      by_cases hp : p x = true
      · rw [if_pos hp, if_pos (h x hp), List.length_cons, List.length_cons]; omega
      · rw [if_neg hp]; split
        · rw [List.length_cons]; omega
        · exact ih
theorem passed_more {l : Lp} {cs : List (List Int)} {t : Nat} {c : List Int} {i : Int} (h : cs[t]? = some c) (hn : cs.Nodup) (hc : c ∈ l.rowC i) : l.passed i (cs.take t) < l.passed i (cs.take (t + 1)) := by
  unfold Lp.passed
  have hnot : ((cs.take t).any fun z => decide (z = c)) = false := by
    rw [Bool.eq_false_iff]
    intro z
    obtain ⟨z, hz, e⟩ := List.any_eq_true.mp z
    have e := of_decide_eq_true e
    subst e
    obtain ⟨s, hs, es⟩ := List.mem_iff_getElem.mp hz
    rw [List.length_take] at hs
    rw [List.getElem_take] at es
    have ht := (List.getElem?_eq_some_iff.mp h).1
    exact nodup_ne hn (show s < t by omega) (by rw [List.getElem?_eq_getElem (by omega), es]) h
  refine filter_lt (c := c) (fun p hp => ?_) hc hnot ?_
  · rw [take_any h, hp]; rfl
  · rw [take_any h]; simp
theorem mapP_at {l : Lp} {lo hi i : Int} {ps : List (List Int)} (h1 : lo ≤ i) (h2 : i ≤ hi) : (mapP l lo hi ps)[(i - lo).toNat]? = some (l.ll i + (l.passed i ps : Nat)) := by
  unfold mapP rgZ
  rw [List.getElem?_map, List.getElem?_map, List.getElem?_range (by omega)]
  have e : lo + ((i - lo).toNat : Nat) = i := by omega
  show some (l.ll (lo + ((i - lo).toNat : Nat)) + (l.passed (lo + ((i - lo).toNat : Nat)) ps : Nat)) = _
  rw [e]
end FWL
namespace FWL
open PySem PySem.Spec PyProof.Rows L2 FW
/-! ### the mathematics: gaps of steps -/
theorem sq_nn (a : Int) : 0 ≤ a * a := by
  rcases Int.le_total 0 a with h | h
  · exact Int.mul_nonneg h h
  · exact Int.mul_nonneg_of_nonpos_of_nonpos h h
theorem gap2 (r i : Int) : (r + i) ^ 1 * (r - 1 * i) ≤ r ^ 2 := by
  have h1 : r ^ 2 - (r + i) ^ 1 * (r - 1 * i) = i * i := by grind
  have := sq_nn i
  omega
theorem gap3 (r i : Int) (hr : 1 ≤ r) (hx : 1 ≤ r + i) : (r + i) ^ 2 * (r - 2 * i) ≤ r ^ 3 := by
  have h1 : r ^ 3 - (r + i) ^ 2 * (r - 2 * i) = (i * i) * (3 * r + 2 * i) := by grind
  have h2 : 0 ≤ (i * i) * (3 * r + 2 * i) := Int.mul_nonneg (sq_nn i) (by omega)
  omega
theorem gap4 (r i : Int) : (r + i) ^ 3 * (r - 3 * i) ≤ r ^ 4 := by
  have h0 : r ^ 4 - (r + i) ^ 3 * (r - 3 * i) = (i * i) * (2 * (r * r) + 4 * (r * (r + i)) + 3 * (i * i) + 4 * (r * i)) := by grind
  have h2 : 3 * (2 * (r * r) + 4 * (r * (r + i)) + 3 * (i * i) + 4 * (r * i)) = 2 * (r * r) + (3 * i + 4 * r) * (3 * i + 4 * r) := by grind
  have := sq_nn (3 * i + 4 * r)
  have := sq_nn r
  have h3 : 0 ≤ (i * i) * (2 * (r * r) + 4 * (r * (r + i)) + 3 * (i * i) + 4 * (r * i)) := Int.mul_nonneg (sq_nn i) (by omega)
  omega
theorem gap_le {k r i : Int} (hk : k = 2 ∨ k = 3 ∨ k = 4) (hr : 1 ≤ r) (hx : 1 ≤ r + i) : (r + i) ^ (k - 1).toNat * (r - (k - 1) * i) ≤ r ^ k.toNat := by
  rcases hk with rfl | rfl | rfl
  · exact gap2 r i
  · exact gap3 r i hr hx
  · exact gap4 r i
/-- q is never below 0 -/
theorem gap_q {k r i s : Int} (hk : k = 2 ∨ k = 3 ∨ k = 4) (hr : 1 ≤ r) (hx : 1 ≤ r + i) (hs : 0 ≤ s) : 0 ≤ (r ^ k.toNat + s) / (r + i) ^ (k - 1).toNat - r + (k - 1) * i := by
  have h1 := gap_le hk hr hx
  have hp := pow_pos' hx (k - 1).toNat
  have h2 : r - (k - 1) * i ≤ (r ^ k.toNat + s) / (r + i) ^ (k - 1).toNat := by
    rw [Int.le_ediv_iff_mul_le (by omega), Int.mul_comm]
    omega
  omega
theorem gap_turn {k r i j s : Int} (hx : 1 ≤ r + i) :
    (j ≤ (r ^ k.toNat + s) / (r + i) ^ (k - 1).toNat - r + (k - 1) * i) ↔ ((r + i) ^ (k - 1).toNat * (r - (k - 1) * i + j) - r ^ k.toNat ≤ s) := by
  have hp := pow_pos' hx (k - 1).toNat
  have h2 : r - (k - 1) * i + j ≤ (r ^ k.toNat + s) / (r + i) ^ (k - 1).toNat ↔ (r - (k - 1) * i + j) * (r + i) ^ (k - 1).toNat ≤ r ^ k.toNat + s := Int.le_ediv_iff_mul_le (by omega)
  rw [Int.mul_comm (r - (k - 1) * i + j)] at h2
  constructor
  · intro h
    have := h2.mp (by omega)
    omega
  · intro h
    have := h2.mpr (by omega)
    omega
theorem gap_step {l : Lp} {r i n q : Int} (o : l.Ok) (hq : q = n / (r + i) ^ (l.k - 1).toNat - r + (l.k - 1) * i) :
    l.led n (r + i) = r + ((l.a - l.c * (l.k - 1)) * i + l.c * q + l.d) / (l.a + l.c) := by
  have a1 := o.a1; have c1 := o.c1
  unfold Lp.led
  have e : l.a * (r + i) + l.c * (n / (r + i) ^ (l.k - 1).toNat) + l.d = ((l.a - l.c * (l.k - 1)) * i + l.c * q + l.d) + r * (l.a + l.c) := by
    rw [hq]
    grind
  rw [e, Int.add_mul_ediv_right _ _ (by omega)]
  omega
/-! ### the law's turn -/
end FWL
namespace FWL
open PySem PySem.Spec PyProof.Rows L2 FW
/-! ### the gap of a step is that of its map -/
theorem row_count {l : Lp} (o : l.Ok) {i q G : Int} (hG : ∀ g, l.needed i g ≤ q ↔ g ≤ G) (hq : q ≤ l.most i) : ∀ (n : Nat) (g : Int), q + 1 - l.needed i g ≤ n → ((l.rowF i n g).filter fun j => decide (j ≤ q)).length = (G + 1 - g).toNat
  | 0, g, h => by
    have h1 : ¬ l.needed i g ≤ q := by omega
    have h2 := mt (hG g).mpr h1
    show 0 = _
    omega
  | n + 1, g, h => by
    have hs := need_succ o i g
    have ih := row_count o hG hq n (g + 1) (by omega)
    unfold Lp.rowF
    by_cases hm : l.needed i g ≤ l.most i
    · rw [if_pos hm, List.filter_cons]
      by_cases hn : l.needed i g ≤ q
      · have hg := (hG g).mp hn
        rw [if_pos (decide_eq_true hn), List.length_cons, ih]
        omega
      · have hg := mt (hG g).mpr hn
        rw [if_neg (by rw [decide_eq_false hn]; decide), ih]
        omega
    · rw [if_neg hm]
      have hg := mt (hG g).mpr (show ¬ l.needed i g ≤ q by omega)
      show 0 = _
      omega
theorem restP_turn (k r i j : Int) : pvl (restP k i j) r = (r + i) ^ (k - 1).toNat * (r - (k - 1) * i + j) - r ^ k.toNat := by
  rw [restP_pv, show r + (j - (k - 1) * i) = r - (k - 1) * i + j by omega]
theorem rest_one {k : Int} (hk : k = 2 ∨ k = 3 ∨ k = 4) (r : Int) : pvl (restP k 1 k) r = pvl (endP k) r := by
  rw [restP_pv, endP_pv]
  rcases hk with rfl | rfl | rfl
  · show (r + 1) ^ 1 * (r + (2 - (2 - 1) * 1)) - r ^ 2 = (r + 1) ^ 2 - r ^ 2; grind
  · show (r + 1) ^ 2 * (r + (3 - (3 - 1) * 1)) - r ^ 3 = (r + 1) ^ 3 - r ^ 3; grind
  · show (r + 1) ^ 3 * (r + (4 - (4 - 1) * 1)) - r ^ 4 = (r + 1) ^ 4 - r ^ 4; grind
/-- by how much the quotient is above its least -/
def quo (l : Lp) (r i s : Int) : Int := (r ^ l.k.toNat + s) / (r + i) ^ (l.k - 1).toNat - r + (l.k - 1) * i
theorem quo_le {l : Lp} {r i j s : Int} (hx : 1 ≤ r + i) : j ≤ quo l r i s ↔ pvl (restP l.k i j) r ≤ s := by
  rw [restP_turn]; exact gap_turn hx
/-- between which cuts a rest is -/
def AtCut (cs : List (List Int)) (r s : Int) (t : Nat) : Prop := t ≤ cs.length ∧ ∀ u c, cs[u]? = some c → (u < t ↔ pvl c r ≤ s)
theorem mem_cuts {l : Lp} {lo hi i : Int} {p : List Int} (h1 : lo ≤ i) (h2 : i ≤ hi) (h : p ∈ l.rowC i) : p ∈ l.cuts lo hi := by
  unfold Lp.cuts
  refine (sortP_perm _).mem_iff.mpr (acc_mem.mpr ⟨(i - lo).toNat, by omega, ?_⟩)
  rw [show lo + ((i - lo).toNat : Nat) = i by omega]; exact h
theorem AtCut.mem {cs : List (List Int)} {r s : Int} {t : Nat} {p : List Int} (a : AtCut cs r s t) (hp : p ∈ cs) : (cs.take t).any (fun z => decide (z = p)) = decide (pvl p r ≤ s) := by
  by_cases h : pvl p r ≤ s
  · rw [decide_eq_true h, List.any_eq_true]
    obtain ⟨u, hu⟩ := List.mem_iff_getElem?.mp hp
    have := (a.2 u p hu).mpr h
    exact ⟨p, List.mem_of_getElem? (i := u) (by rw [List.getElem?_take_of_lt this]; exact hu), decide_eq_true rfl⟩
  · rw [decide_eq_false h, Bool.eq_false_iff]
    intro z
    obtain ⟨z, hz, e⟩ := List.any_eq_true.mp z
    rw [of_decide_eq_true e] at hz
    obtain ⟨u, hu⟩ := List.mem_iff_getElem?.mp hz
    have hl : u < t := by
      have := (List.getElem?_eq_some_iff.mp hu).1
      rw [List.length_take] at this; omega
    rw [List.getElem?_take_of_lt hl] at hu
    exact h ((a.2 u p hu).mp hl)
theorem asc_far {cs : List (List Int)} {r : Int} (h : ∀ u c d, cs[u]? = some c → cs[u + 1]? = some d → pvl c r < pvl d r) : ∀ (n u : Nat) (c d : List Int), cs[u]? = some c → cs[u + n]? = some d → pvl c r ≤ pvl d r
  | 0, u, c, d, hc, hd => by rw [Nat.add_zero, hc] at hd; cases hd; exact Int.le_refl _
  | n + 1, u, c, d, hc, hd => by
    have hl := (List.getElem?_eq_some_iff.mp hd).1
    obtain ⟨e, he⟩ : ∃ e, cs[u + n]? = some e := ⟨_, List.getElem?_eq_getElem (by omega)⟩
    have h1 := asc_far h n u c e hc he
    have h2 := h (u + n) e d he hd
    omega
end FWL
namespace FW
open PySem PySem.Spec PyProof.Rows L2
def rIsNB : R2 := fun x y H Q => ∃ a b, x = .bl a ∧ y = .bl b ∧ Q (.bl (!decide (a = b))) H
section
variable {X : Cx}
theorem op_isNB : OpR X (compareOp .IsNot) rIsNB := by
  intro pins s σ H x y v u Q I rx ry h
  obtain ⟨a, b, rfl, rfl, q⟩ := h
  cases rx
  cases ry
  exact isnot_bool (fin_bl I q (by cases a <;> cases b <;> rfl))
/-- a target's either -/
def gEither (t u : TG) : TG := fun v σ H Q => t v σ H Q ∨ u v σ H Q
theorem pg_either {e : Expr} {t u : TG} (h1 : PG X e t) (h2 : PG X e u) : PG X e (gEither t u) := ⟨fun pins s σ H v w Q I r h => h.elim (h1.run pins s σ H v w Q I r) (h2.run pins s σ H v w Q I r)⟩
end
end FW
namespace FWL
open PySem PySem.Spec PyProof.Rows L2 FW
set_option hygiene false in
local macro_rules | `(tactic| walk_at "rv") => `(tactic| (have nt := (); have nz := (); have nH := (); have ne := (); have nh := ()))
/-! ### data as they stand, and the form of a table -/
mutual
inductive Dt (H : Hp) : V → PyData → Prop
  | non : Dt H .non .none
  | bl (b : Bool) : Dt H (.bl b) (.bool b)
  | int (i : Int) : Dt H (.int i) (.int i)
  | str (x : Str) : Dt H (.str x) (.str x)
  | lst {a : Addr} {xs : List V} {ds : List PyData} : H a = some (.lst xs) → DtAll H xs ds → Dt H (.ref a) (.list ds)
  | tup {a : Addr} {xs : List V} {ds : List PyData} : H a = some (.tup xs) → DtAll H xs ds → Dt H (.ref a) (.tuple ds)
inductive DtAll (H : Hp) : List V → List PyData → Prop
  | nil : DtAll H [] []
  | cons {v : V} {vs : List V} {d : PyData} {ds : List PyData} : Dt H v d → DtAll H vs ds → DtAll H (v :: vs) (d :: ds)
end
mutual
theorem Dt.ext {H H' : Hp} (e : Ext H H') : ∀ (d : PyData) (v : V), Dt H v d → Dt H' v d
  | .none, _, h => by cases h; exact .non
  | .bool b, _, h => by cases h; exact .bl b
  | .int i, _, h => by cases h; exact .int i
  | .str x, _, h => by cases h; exact .str x
  | .list ds, _, h => by
    cases h with
    | lst hs ha => exact .lst (e _ _ hs) (DtAll.ext e ds _ ha)
  | .tuple ds, _, h => by
    cases h with
    | tup hs ha => exact .tup (e _ _ hs) (DtAll.ext e ds _ ha)
  | .dict _, _, h => by cases h
theorem DtAll.ext {H H' : Hp} (e : Ext H H') : ∀ (ds : List PyData) (vs : List V), DtAll H vs ds → DtAll H' vs ds
  | [], _, h => by cases h; exact .nil
  | d :: ds, _, h => by
    cases h with
    | cons h1 h2 => exact .cons (Dt.ext e d _ h1) (DtAll.ext e ds _ h2)
end
mutual
theorem Dt.dp {K : PySem.W.Frag} {H : Hp} : ∀ (d : PyData) (v : V), Dt H v d → Dp K H v d
  | .none, _, h => by cases h; exact .non
  | .bool b, _, h => by cases h; exact .bl b
  | .int i, _, h => by cases h; exact .int i
  | .str x, _, h => by cases h; exact .str x
  | .list ds, _, h => by
    cases h with
    | lst hs ha => exact .lst (SqL.of hs) (DtAll.dp ds _ ha)
  | .tuple ds, _, h => by
    cases h with
    | tup hs ha => exact .tup (SqT.of hs) (DtAll.dp ds _ ha)
  | .dict _, _, h => by cases h
theorem DtAll.dp {K : PySem.W.Frag} {H : Hp} : ∀ (ds : List PyData) (vs : List V), DtAll H vs ds → DpAll K H vs ds
  | [], _, h => by cases h; exact .nil
  | d :: ds, _, h => by
    cases h with
    | cons h1 h2 => exact .cons (Dt.dp d _ h1) (DtAll.dp ds _ h2)
end
theorem DtAll.len {H : Hp} : ∀ {ds : List PyData} {vs : List V}, DtAll H vs ds → vs.length = ds.length
  | _, _, .nil => rfl
  | _, _, .cons _ r => congrArg Nat.succ (DtAll.len r)
theorem DtAll.mem {H : Hp} : ∀ {ds : List PyData} {vs : List V} {v : V}, DtAll H vs ds → v ∈ vs → ∃ d, d ∈ ds ∧ Dt H v d
  | _, _, v, .nil, h => by simp at h
  | _, _, v, .cons a r, h => by
    rcases List.mem_cons.mp h with z | z
    · exact ⟨_, List.mem_cons_self, z ▸ a⟩
    · obtain ⟨d, h1, h2⟩ := DtAll.mem r z
      exact ⟨d, List.mem_cons_of_mem _ h1, h2⟩
theorem DtAll.at {H : Hp} : ∀ {ds : List PyData} {vs : List V} {i : Nat} {d : PyData}, DtAll H vs ds → ds[i]? = some d → ∃ v, vs[i]? = some v ∧ Dt H v d
  | _, _, i, d, .nil, h => by simp at h
  | _, _, 0, d, .cons a r, h => by cases h; exact ⟨_, rfl, a⟩
  | _, _, i + 1, d, .cons a r, h => DtAll.at (i := i) r h
theorem DtAll.at' {H : Hp} : ∀ {ds : List PyData} {vs : List V} {i : Nat} {v : V}, DtAll H vs ds → vs[i]? = some v → ∃ d, ds[i]? = some d ∧ Dt H v d
  | _, _, i, d, .nil, h => by simp at h
  | _, _, 0, d, .cons a r, h => by cases h; exact ⟨_, rfl, a⟩
  | _, _, i + 1, d, .cons a r, h => DtAll.at' (i := i) r h
def tyD : PyData → String
  | .none => "NoneType" | .bool _ => "bool" | .int _ => "int" | .str _ => "str" | .list _ => "list" | .tuple _ => "tuple" | .dict _ => "dict"
theorem Dt.wt {K : PySem.W.Frag} {H : Hp} {v : V} {d : PyData} (h : Dt H v d) : WT K H v (tyD d) := by
  cases h with
  | non => exact WT.non
  | bl b => exact WT.bl b
  | int i => exact WT.i i
  | str x => exact WT.s x
  | lst h _ => exact WT.lst h
  | tup h _ => exact WT.tup h
def seqD : PyData → Option (List PyData)
  | .list xs => some xs | .tuple xs => some xs | _ => none
theorem Dt.seq {H : Hp} {v : V} {d : PyData} {ds : List PyData} (h : Dt H v d) (e : seqD d = some ds) : ∃ a xs, v = .ref a ∧ (H a = some (.lst xs) ∨ H a = some (.tup xs)) ∧ DtAll H xs ds := by
  cases h with
  | lst h r => cases e; exact ⟨_, _, rfl, .inl h, r⟩
  | tup h r => cases e; exact ⟨_, _, rfl, .inr h, r⟩
  | _ => cases e
theorem seqD_ty (d : PyData) : decide (tyD d = "list" ∨ tyD d = "tuple") = (seqD d).isSome := by
  cases d <;> rfl
def isI : PyData → Bool
  | .int _ => true | _ => false
theorem Dt.isI {H : Hp} {v : V} {d : PyData} (h : Dt H v d) : isInt v = isI d := by
  cases h <;> rfl
theorem DtAll.allI {H : Hp} : ∀ {ds : List PyData} {vs : List V}, DtAll H vs ds → (vs.map isInt).all id = ds.all isI
  | _, _, .nil => rfl
  | _, _, .cons h r => by rw [List.map_cons, List.all_cons, List.all_cons, DtAll.allI r, h.isI]; rfl
/-- a row of so many integers -/
def rowB (d : PyData) (m : Option Int) : Bool := match seqD d with
  | none => false
  | some xs => (match m with | none => true | some k => decide ((xs.length : Int) = k)) && xs.all isI
def formR (f lo hi : Int) (cs ms : List PyData) : Bool := !(decide (lo > 0) || decide (hi < 1) || decide (f + lo < 1) || !decide ((ms.length : Int) = (cs.length : Int) + 1)) && (cs.all (rowB · none) && ms.all (rowB · (some (hi - lo + 1))))
def formL : List PyData → Bool
  | [.int f, .int lo, .int hi, c, m] => (match seqD c, seqD m with | some cs, some ms => formR f lo hi cs ms | _, _ => false)
  | _ => false
def formB (d : PyData) : Bool := match seqD d with
  | some ds => formL ds
  | none => false
theorem formB_some {d : PyData} {ds : List PyData} (h : seqD d = some ds) : formB d = formL ds := by
  unfold formB
  rw [h]
section
variable {K : PySem.W.Frag} {H : Hp} {Q : VK} {σ : L2.St}
theorem kit_LT {n : String} (h : n ∈ tyNames) : PySem.W.kitAny K (.type n) [.type "list", .type "tuple"] = some (decide (n = "list" ∨ n = "tuple")) := by
  simp only [tyNames, List.mem_cons, List.not_mem_nil, or_false] at h
  rcases h with rfl | rfl | rfl | rfl | rfl | rfl | rfl | rfl <;> rfl
theorem isi_seq {v : V} {d : PyData} {tp : Addr} (h : Dt H v d) (ht : H tp = some (.tup [.ty "list", .ty "tuple"])) (q : Q (.bl (seqD d).isSome) H) : rIsiT K [v, .ref tp] H Q :=
  ⟨v, tp, _, _, _, _, rfl, ht, .cons (.ty _) (.cons (.ty _) .nil), h.wt.1, kit_LT (h.wt (K := K)).2, by rw [seqD_ty]; exact q⟩
abbrev LT (H : Hp) (a : Addr) (xs : List V) : Prop := H a = some (.lst xs) ∨ H a = some (.tup xs)
theorem LT.ext {H' : Hp} {a : Addr} {xs : List V} (h : LT H a xs) (e : Ext H H') : LT H' a xs := h.imp (e _ _) (e _ _)
theorem LT.sq {a : Addr} {xs : List V} (h : LT H a xs) : SqA K H a xs := h.imp SqL.of SqT.of
theorem lcE2 {a : Addr} {xs : List V} {m n : Nat} {te : TE} {P : V → V → Prop} (hv : σ[m]? = some (some (.ref a))) (ha : LT H a xs) (hl : xs.length ≤ 1000000) (hw : ∀ v : V, wipe ((wipe σ [n]).set n (some v)) [n] = wipe σ [n])
    (he : ∀ x ∈ xs, ∀ (H' : Hp) (R : VK), Ext H H' → (∀ v H'', Ext H' H'' → P x v → R v H'') → te ((wipe σ [n]).set n (some x)) H' R)
    (q : ∀ D G ys, H D = none → Ext H G → G D = some (.lst ys) → Paired P xs ys → Q (.ref D) G) : (FW.iEither (iList K (tVar m)) (iTup K (tVar m))) σ H fun J H1 => LcK (gName n) (tYes) te [n] σ Q J H1 := by
  have fy : xs.filter (fun _ => true) = xs := List.filter_eq_self.mpr fun _ _ => rfl
  rcases ha with ha | ha
  · refine .inl (i_list (e_var (i_list' xs ?_ (SqL.of ha)) hv))
    exact lcLX (p := fun _ => true) (SqL.of ha) hl hw (fun _ _ _ _ _ h => h _ Ext.rfl') (fun x hx _ => he x hx) (fun D G ys h1 h2 h3 h4 => q D G ys h1 h2 h3 (by rw [fy] at h4; exact h4))
  · refine .inr (i_tup (e_var (i_tup' xs ?_ (SqT.of ha)) hv))
    exact lcTX (p := fun _ => true) (SqT.of ha) hl hw (fun _ _ _ _ _ h => h _ Ext.rfl') (fun x hx _ => he x hx) (fun D G ys h1 h2 h3 h4 => q D G ys h1 h2 h3 (by rw [fy] at h4; exact h4))
theorem lcE {a : Addr} {xs : List V} {m n : Nat} {te : TE} {P : V → V → Prop} (hv : σ[m]? = some (some (.ref a))) (ha : LT H a xs) (hl : xs.length ≤ 1000000) (hw : ∀ v : V, wipe ((wipe σ [n]).set n (some v)) [n] = wipe σ [n])
    (he : ∀ x ∈ xs, ∀ (H' : Hp) (R : VK), Ext H H' → (∀ v H'', Ext H' H'' → P x v → R v H'') → te ((wipe σ [n]).set n (some x)) H' R)
    (q : ∀ D G ys, H D = none → Ext H G → G D = some (.lst ys) → Paired P xs ys → Q (.ref D) G) : (tLc (FW.iEither (iList K (tVar m)) (iTup K (tVar m))) (gName n) (tYes) te [n]) σ H Q := e_lc (lcE2 hv ha hl hw he q)
theorem paired_eqm {α β : Type} {f : α → β} : ∀ {xs : List α} {ys : List β}, Paired (fun x v => v = f x) xs ys → ys = xs.map f
  | _, _, .nil => rfl
  | _, _, .cons h t => by rw [h, paired_eqm t]; rfl
end
def manyV : Option Int → V
  | none => .non
  | some m => .int m
def sp_is_row_of (K : PySem.W.Frag) : Sp := fun vs H Q _ => ∃ (v : V) (d : PyData) (m : Option Int), vs = [v, manyV m] ∧ Dt H v d ∧ (∀ xs, seqD d = some xs → xs.length ≤ 100000) ∧ ∀ H', Ext H H' → Q (.bl (rowB d m)) H'
def rd_is_row_of (K : PySem.W.Frag) : TS := tSeq (tIfS (tOr (tNot (tB (tCB (rIsiT K) (tCons (tVar 0) (tCons (tTup (tCons (tC (.ty "list")) (tCons (tC (.ty "tuple")) (tNil)))) (tNil)))))) (tAnd (tTest (tOp FW.rNotN (tVar 1) (tC .non))) (tTest (tOp rNe (tCB (Evl.rLenS K) (tCons (tVar 0) (tNil))) (tVar 1))))) (tRet (tC (.bl false))) (tNext)) (tRet (tCB (rAll K) (tCons (tLc (FW.iEither (iList K (tVar 0)) (iTup K (tVar 0))) (gName 2) (tYes) (tCall (sp_is_whole K) [] E0 (tCons (tVar 2) (tNil))) [2]) (tNil))))
theorem pure_is_row_of (K : PySem.W.Frag) (vs : List V) (H : Hp) (Q : VK) (E : XK) (h : sp_is_row_of K vs H Q E) : rd_is_row_of K { nx := fun _ H' => Q .non H', rt := Q } (start ["thing", "many", "x"] vs) H := by
  obtain ⟨v, d, m, rfl, hd, hz, q⟩ := h
  unfold rd_is_row_of
  walk_at "rx"
  refine isi_seq (Dt.ext ne _ _ hd) nh ?_
  cases hs : seqD d with
  | none =>
    have q' := q
    unfold rowB at q'
    rw [hs] at q'
    walk_at "rx"
    exact q' _ ne
  | some ds =>
    obtain ⟨a, xs, rfl, ha, hx⟩ := hd.seq hs
    have hl := hz _ hs
    have xl := hx.len
    have ha1 := LT.ext ha ne
    have fin : rowB d m = ds.all isI → ∀ (G : Hp), Ext nH G → (tRet (tCB (rAll K) (tCons (tLc (FW.iEither (iList K (tVar 0)) (iTup K (tVar 0))) (gName 2) (tYes) (tCall (sp_is_whole K) [] E0 (tCons (tVar 2) (tNil))) [2]) (tNil)))) { nx := fun _ H' => Q .non H', rt := Q } [some (.ref a), some (manyV m), none] G := fun hm G eG => by
      refine FW.s_ret (FW.e_cb (FW.e_cons ?_))
      refine lcE (P := fun x v => v = V.bl (isInt x)) rfl (ha1.ext eG) (by omega) (fun _ => rfl) (fun x hx' H' R e k => ?_) (fun D G' ys _ e1 hD hp => ?_)
      · obtain ⟨dx, hdx, hx2⟩ := hx.mem hx'
        walk_at "re"
        refine ⟨x, _, rfl, (Dt.ext (ne.tr (eG.tr e)) _ _ hx2).wt, k _ _ Ext.rfl' rfl⟩
      · have hy : ys = (xs.map isInt).map V.bl := by rw [paired_eqm hp, List.map_map]; rfl
        refine FW.e_nil (e_all ?_ (SqL.of (by rw [hD, hy])))
        have := q G' (ne.tr (eG.tr e1))
        rw [hm] at this
        rw [hx.allI]
        exact this
    rw [Option.isSome_some]
    walk_at "rx"
    cases m with
    | none =>
      rw [show manyV none = V.non from rfl]
      walk_at "rx"
      exact fin (by unfold rowB; rw [hs]; rfl) _ Ext.rfl'
    | some k =>
      have hrow : rowB d (some k) = (decide ((ds.length : Int) = k) && ds.all isI) := by unfold rowB; rw [hs]
      rw [show manyV (some k) = V.int k from rfl]
      walk_at "rx"
      rw [show decide (V.int k = V.non) = false from decide_eq_false (fun z => nomatch z)]
      walk_at "rx"
      refine e_len ?_ (LT.sq ha1)
      walk_at "rx"
      rw [xl]
      by_cases hk : (ds.length : Int) = k
      · rw [decide_eq_true hk]
        walk_at "rx"
        exact fin (by rw [hrow, decide_eq_true hk, Bool.true_and]) _ Ext.rfl'
      · rw [decide_eq_false hk]
        walk_at "rx"
        have := q _ ne
        rw [hrow, decide_eq_false hk, Bool.false_and] at this
        exact this
end FWL
namespace FWL
open PySem PySem.Spec PyProof.Rows L2 FW
set_option hygiene false in
local macro_rules | `(tactic| walk_at "rv") => `(tactic| (have nt := (); have nz := (); have nH := (); have ne := (); have nh := ()))
section
variable {K : PySem.W.Frag} {H : Hp} {σ : L2.St}
theorem e_slE {R : VK} {a : Addr} {xs : List V} {m : Nat} (hv : σ[m]? = some (some (.ref a))) (ha : LT H a xs) (hl : xs.length = 5) (k : ∀ b G, Ext H G → LT G b (xs.take 3) → R (.ref b) G) :
    (FW.tEither (tSl (rSlL K) (tVar m) (tNoPart) (tPart (tC (.int 3)))) (tSl (rSlA K) (tVar m) (tNoPart) (tPart (tC (.int 3))))) σ H R := by
  have ec : cutV xs none (some 3) = xs.take 3 := cutV_take xs 3
  rcases ha with ha | ha
  · refine .inl (e_sl (e_var (e_noP (e_part ⟨3, rfl, e_slL (fun p hp => ?_) (SqL.of ha)⟩)) hv))
    rw [ec]
    exact k p _ (Ext.new hp) (.inl upd_same)
  · refine .inr (e_sl (e_var (e_noP (e_part ⟨3, rfl, e_slA (fun p hp => ?_) (SqT.of ha) ?_⟩)) hv))
    · rw [ec]
      exact k p _ (Ext.new hp) (.inr upd_same)
    · rw [hl]
      decide
theorem g_either5 {R : L2.St → Hp → Prop} {a : Addr} {xs : List V} {gs : TGs} (ha : LT H a xs) (hl : xs.length = 5) (k : gs xs σ H R) : FW.gEither (gTup K 5 gs) (gLst K 5 gs) (.ref a) σ H R := by
  rcases ha with ha | ha
  · exact .inr (ha_gL ha hl k)
  · exact .inl (ha_gT ha hl k)
end
def smD : Nat → PyData → Prop
  | 0, _ => True
  | n + 1, d => ∀ xs, seqD d = some xs → xs.length ≤ 1000 ∧ ∀ x, x ∈ xs → smD n x
def sp_has_form (K : PySem.W.Frag) : Sp := fun vs H Q _ => ∃ (v : V) (d : PyData), vs = [v] ∧ Dt H v d ∧ smD 3 d ∧ ∀ H', Ext H H' → Q (.bl (formB d)) H'
def rd_has_form (K : PySem.W.Frag) : TS := tSeq (tIfS (tOr (tNot (tB (tCB (rIsiT K) (tCons (tVar 0) (tCons (tTup (tCons (tC (.ty "list")) (tCons (tC (.ty "tuple")) (tNil)))) (tNil)))))) (tOr (tTest (tOp rNe (tCB (Evl.rLenS K) (tCons (tVar 0) (tNil))) (tC (.int 5)))) (tNot (tB (tCall (sp_is_row_of K) [] E0 (tCons (FW.tEither (tSl (rSlL K) (tVar 0) (tNoPart) (tPart (tC (.int 3)))) (tSl (rSlA K) (tVar 0) (tNoPart) (tPart (tC (.int 3))))) (tCons (tC (.int 3)) (tNil)))))))) (tRet (tC (.bl false))) (tNext)) (tSeq (tAsg (tVar 0) (FW.gEither (gTup K 5 (gCons (gName 1) (gCons (gName 2) (gCons (gName 3) (gCons (gName 4) (gCons (gName 5) (gNil))))))) (gLst K 5 (gCons (gName 1) (gCons (gName 2) (gCons (gName 3) (gCons (gName 4) (gCons (gName 5) (gNil))))))))) (tSeq (tIfS (tOr (tNot (tB (tCB (rIsiT K) (tCons (tVar 4) (tCons (tTup (tCons (tC (.ty "list")) (tCons (tC (.ty "tuple")) (tNil)))) (tNil)))))) (tNot (tB (tCB (rIsiT K) (tCons (tVar 5) (tCons (tTup (tCons (tC (.ty "list")) (tCons (tC (.ty "tuple")) (tNil)))) (tNil))))))) (tRet (tC (.bl false))) (tNext)) (tSeq (tIfS (tOr (tTest (tOp FW.rGt (tVar 2) (tC (.int 0)))) (tOr (tTest (tOp FW.rLt (tVar 3) (tC (.int 1)))) (tOr (tTest (tOp FW.rLt (tOp FW.rAdd (tVar 1) (tVar 2)) (tC (.int 1)))) (tTest (tOp rNe (tCB (Evl.rLenS K) (tCons (tVar 5) (tNil))) (tOp FW.rAdd (tCB (Evl.rLenS K) (tCons (tVar 4) (tNil))) (tC (.int 1)))))))) (tRet (tC (.bl false))) (tNext)) (tRet (tAndV (tCB (rAll K) (tCons (tLc (FW.iEither (iList K (tVar 4)) (iTup K (tVar 4))) (gName 6) (tYes) (tCall (sp_is_row_of K) [] E0 (tCons (tVar 6) (tCons (tC .non) (tNil)))) [6]) (tNil))) (tCB (rAll K) (tCons (tLc (FW.iEither (iList K (tVar 5)) (iTup K (tVar 5))) (gName 7) (tYes) (tCall (sp_is_row_of K) [] E0 (tCons (tVar 7) (tCons (tOp FW.rAdd (tOp FW.rSub (tVar 3) (tVar 2)) (tC (.int 1))) (tNil)))) [7]) (tNil))))))))
theorem formB_5 {d : PyData} {ds : List PyData} (h : seqD d = some ds) (hn : ds.length ≠ 5) : formB d = false := by
  rw [formB_some h]
  unfold formL
  split
  · exact absurd rfl hn
  · rfl
theorem formR_no {v1 v2 v3 : Int} {cs ms : List PyData} (h : 0 < v2 ∨ v3 < 1 ∨ v1 + v2 < 1 ∨ ¬ (ms.length : Int) = (cs.length : Int) + 1) : formR v1 v2 v3 cs ms = false := by
  unfold formR
  rcases h with h | h | h | h
  · rw [decide_eq_true (show v2 > 0 from h)]; rfl
  · rw [decide_eq_true h]; simp
  · rw [decide_eq_true h]; simp
  · rw [decide_eq_false h]; simp
theorem formR_yes {v1 v2 v3 : Int} {cs ms : List PyData} (h1 : ¬ 0 < v2) (h2 : ¬ v3 < 1) (h3 : ¬ v1 + v2 < 1) (h4 : (ms.length : Int) = (cs.length : Int) + 1) : formR v1 v2 v3 cs ms = (cs.all (rowB · none) && ms.all (rowB · (some (v3 - v2 + 1)))) := by
  unfold formR
  rw [decide_eq_false (show ¬ v2 > 0 from h1), decide_eq_false h2, decide_eq_false h3, decide_eq_true h4]
  rfl
mutual
theorem Dt.uniq {H : Hp} : ∀ (d e : PyData) (v : V), Dt H v d → Dt H v e → d = e
  | .none, e, _, h, h' => by cases h; cases h'; rfl
  | .bool b, e, _, h, h' => by cases h; cases h'; rfl
  | .int i, e, _, h, h' => by cases h; cases h'; rfl
  | .str x, e, _, h, h' => by cases h; cases h'; rfl
  | .list ds, e, _, h, h' => by
    cases h with
    | lst hs ha =>
      cases h' with
      | lst hs' ha' =>
        rw [hs] at hs'
        cases hs'
        rw [DtAll.uniq ds _ _ ha ha']
      | tup hs' ha' => rw [hs] at hs'; cases hs'
  | .tuple ds, e, _, h, h' => by
    cases h with
    | tup hs ha =>
      cases h' with
      | tup hs' ha' =>
        rw [hs] at hs'
        cases hs'
        rw [DtAll.uniq ds _ _ ha ha']
      | lst hs' ha' => rw [hs] at hs'; cases hs'
  | .dict _, _, _, h, _ => by cases h
theorem DtAll.uniq {H : Hp} : ∀ (ds es : List PyData) (vs : List V), DtAll H vs ds → DtAll H vs es → ds = es
  | [], es, _, h, h' => by cases h; cases h'; rfl
  | d :: ds, es, _, h, h' => by
    cases h with
    | cons h1 h2 =>
      cases h' with
      | cons h3 h4 => rw [Dt.uniq d _ _ h1 h3, DtAll.uniq ds _ _ h2 h4]
end
theorem rows_bl {H : Hp} {m : Option Int} : ∀ {ds : List PyData} {xs ys : List V}, DtAll H xs ds → Paired (fun x v => ∀ d, Dt H x d → v = V.bl (rowB d m)) xs ys → ys = (ds.map (rowB · m)).map V.bl
  | _, _, _, .nil, .nil => rfl
  | _, _, _, .cons a r, .cons b s => by rw [b _ a, rows_bl r s]; rfl
theorem formB_rest {K : PySem.W.Frag} {H : Hp} {Q : VK} {v1 v2 v3 : Int} {v c m : V} {cd md : PyData} {w6 w7 : Option V} (hc : Dt H c cd) (hm : Dt H m md) (s1 : smD 2 cd) (s2 : smD 2 md) (q : ∀ H', Ext H H' → Q (.bl (match seqD cd, seqD md with | some cs, some ms => formR v1 v2 v3 cs ms | _, _ => false)) H') :
    (tSeq (tIfS (tOr (tNot (tB (tCB (rIsiT K) (tCons (tVar 4) (tCons (tTup (tCons (tC (.ty "list")) (tCons (tC (.ty "tuple")) (tNil)))) (tNil)))))) (tNot (tB (tCB (rIsiT K) (tCons (tVar 5) (tCons (tTup (tCons (tC (.ty "list")) (tCons (tC (.ty "tuple")) (tNil)))) (tNil))))))) (tRet (tC (.bl false))) (tNext)) (tSeq (tIfS (tOr (tTest (tOp FW.rGt (tVar 2) (tC (.int 0)))) (tOr (tTest (tOp FW.rLt (tVar 3) (tC (.int 1)))) (tOr (tTest (tOp FW.rLt (tOp FW.rAdd (tVar 1) (tVar 2)) (tC (.int 1)))) (tTest (tOp rNe (tCB (Evl.rLenS K) (tCons (tVar 5) (tNil))) (tOp FW.rAdd (tCB (Evl.rLenS K) (tCons (tVar 4) (tNil))) (tC (.int 1)))))))) (tRet (tC (.bl false))) (tNext)) (tRet (tAndV (tCB (rAll K) (tCons (tLc (FW.iEither (iList K (tVar 4)) (iTup K (tVar 4))) (gName 6) (tYes) (tCall (sp_is_row_of K) [] E0 (tCons (tVar 6) (tCons (tC .non) (tNil)))) [6]) (tNil))) (tCB (rAll K) (tCons (tLc (FW.iEither (iList K (tVar 5)) (iTup K (tVar 5))) (gName 7) (tYes) (tCall (sp_is_row_of K) [] E0 (tCons (tVar 7) (tCons (tOp FW.rAdd (tOp FW.rSub (tVar 3) (tVar 2)) (tC (.int 1))) (tNil)))) [7]) (tNil))))))) { nx := fun _ H' => Q .non H', rt := Q } [some v, some (.int v1), some (.int v2), some (.int v3), some c, some m, w6, w7] H := by
  walk_at "rx"
  refine isi_seq (Dt.ext ne _ _ hc) nh ?_
  cases hs : seqD cd with
  | none =>
    rw [hs] at q
    rw [Option.isSome_none]
    walk_at "rx"
    exact q _ ne
  | some cs =>
    rw [Option.isSome_some]
    walk_at "rv"
    rename_i t1 z1 H1 e1 h1
    walk_at "rx"
    refine isi_seq (Dt.ext (e1.tr ne) _ _ hm) nh ?_
    cases ht : seqD md with
    | none =>
      rw [hs, ht] at q
      rw [Option.isSome_none]
      walk_at "rx"
      exact q _ (e1.tr ne)
    | some ms =>
      rw [Option.isSome_some]
      rw [hs, ht] at q
      have e2 := e1.tr ne
      obtain ⟨ac, xs, rfl, hac, hxs⟩ := hc.seq hs
      obtain ⟨am, ys, rfl, ham, hys⟩ := hm.seq ht
      have xl := hxs.len
      have yl := hys.len
      have q0 : ∀ H', Ext H H' → Q (.bl (formR v1 v2 v3 cs ms)) H' := q
      clear q
      have hq : (0 < v2 ∨ v3 < 1 ∨ v1 + v2 < 1 ∨ ¬ (ms.length : Int) = (cs.length : Int) + 1) → ∀ H', Ext H H' → Q (.bl false) H' := fun h H' e => by
        have := q0 H' e
        rw [formR_no h] at this
        exact this
      have s1l := (s1 _ hs).1
      have s2l := (s2 _ ht).1
      walk_at "rx"
      by_cases c1 : 0 < v2
      · rw [decide_eq_true c1]
        walk_at "rx"
        exact hq (.inl c1) _ e2
      rw [decide_eq_false c1]
      walk_at "rx"
      by_cases c2 : v3 < 1
      · rw [decide_eq_true c2]
        walk_at "rx"
        exact hq (.inr (.inl c2)) _ e2
      rw [decide_eq_false c2]
      walk_at "rx"
      by_cases c3 : v1 + v2 < 1
      · rw [decide_eq_true c3]
        walk_at "rx"
        exact hq (.inr (.inr (.inl c3))) _ e2
      rw [decide_eq_false c3]
      walk_at "rx"
      refine e_len ?_ (LT.sq (LT.ext ham e2))
      walk_at "rx"
      refine e_len ?_ (LT.sq (LT.ext hac e2))
      walk_at "rx"
      rw [xl, yl]
      by_cases c4' : ¬ (ms.length : Int) = (cs.length : Int) + 1
      · rw [decide_eq_false c4']
        walk_at "rx"
        exact hq (.inr (.inr (.inr c4'))) _ e2
      have c4 := Decidable.not_not.mp c4'
      rw [decide_eq_true c4]
      have hr := formR_yes (v1 := v1) (v2 := v2) (v3 := v3) (cs := cs) (ms := ms) c1 c2 c3 c4
      rw [hr] at q0
      walk_at "rx"
      refine lcE2 (P := fun x v => ∀ d, Dt H x d → v = V.bl (rowB d none)) rfl (LT.ext hac e2) (by omega) (fun _ => rfl) (fun x hx' H' R e k => ?_) (fun D G ys' _ e3 hD hp => ?_)
      · obtain ⟨dx, hdx, hx2⟩ := hxs.mem hx'
        walk_at "re"
        refine ⟨x, dx, none, rfl, Dt.ext (e2.tr e) _ _ hx2, fun zs hz => Nat.le_trans (((s1 _ hs).2 dx hdx) zs hz).1 (by decide), fun H2 e4 => k _ _ e4 fun d hd => ?_⟩
        rw [Dt.uniq d _ _ hd hx2]
      have hy : ys' = (cs.map (rowB · none)).map V.bl := rows_bl hxs hp
      walk_at "re"
      refine e_all ?_ (SqL.of (by rw [hD, hy]))
      rw [List.all_map, show (id ∘ fun d => rowB d none) = (fun d => rowB d none) from rfl]
      cases hca : cs.all (rowB · none) with
      | false =>
        rw [hca] at q0
        walk_at "re"
        exact q0 _ (e2.tr e3)
      | true =>
        rw [hca, Bool.true_and] at q0
        walk_at "rx"
        have e4 := e2.tr e3
        refine lcE2 (P := fun x v => ∀ d, Dt H x d → v = V.bl (rowB d (some (v3 - v2 + 1)))) rfl (LT.ext ham e4) (by omega) (fun _ => rfl) (fun x hx' H' R e k => ?_) (fun D' G' ys'' _ e5 hD' hp' => ?_)
        · obtain ⟨dx, hdx, hx2⟩ := hys.mem hx'
          walk_at "rx"
          refine ⟨x, dx, some (v3 - v2 + 1), rfl, Dt.ext (e4.tr e) _ _ hx2, fun zs hz => Nat.le_trans (((s2 _ ht).2 dx hdx) zs hz).1 (by decide), fun H2 e6 => k _ _ e6 fun d hd => ?_⟩
          rw [Dt.uniq d _ _ hd hx2]
        have hy : ys'' = (ms.map (rowB · (some (v3 - v2 + 1)))).map V.bl := rows_bl hys hp'
        walk_at "re"
        refine e_all ?_ (SqL.of (by rw [hD', hy]))
        rw [List.all_map, show (id ∘ fun d => rowB d (some (v3 - v2 + 1))) = (fun d => rowB d (some (v3 - v2 + 1))) from rfl]
        exact q0 _ (e4.tr e5)
theorem pure_has_form (K : PySem.W.Frag) (vs : List V) (H : Hp) (Q : VK) (E : XK) (h : sp_has_form K vs H Q E) : rd_has_form K { nx := fun _ H' => Q .non H', rt := Q } (start ["thing", "first", "low", "high", "cuts", "maps", "cut", "row"] vs) H := by
  obtain ⟨v, d, rfl, hd, sm, q⟩ := h
  unfold rd_has_form
  walk_at "rx"
  refine isi_seq (Dt.ext ne _ _ hd) nh ?_
  cases hs : seqD d with
  | none =>
    have hf : formB d = false := by unfold formB; rw [hs]
    rw [hf] at q
    rw [Option.isSome_none]
    walk_at "rx"
    exact q _ ne
  | some ds =>
    obtain ⟨a, xs, rfl, ha, hx⟩ := hd.seq hs
    have xl := hx.len
    rw [Option.isSome_some]
    walk_at "rv"
    rename_i t1 z1 H1 e1 h1
    walk_at "rx"
    refine e_len ?_ (LT.sq (LT.ext ha e1))
    walk_at "rx"
    rw [xl]
    by_cases c5' : ¬ (ds.length : Int) = 5
    · rw [decide_eq_false c5']
      have hf : formB d = false := formB_5 hs (by omega)
      rw [hf] at q
      walk_at "rx"
      exact q _ e1
    have c5 : ds.length = 5 := by omega
    rw [decide_eq_true (show (ds.length : Int) = 5 by omega)]
    walk_at "rx"
    match ds, xs, hx, c5, xl, hs, ha with
    | [d0, d1, d2, d3, d4], [x0, x1, x2, x3, x4], .cons a0 (.cons a1 (.cons a2 (.cons a3 (.cons a4 .nil)))), _, xl, hs, ha =>
      refine e_slE rfl (LT.ext ha e1) rfl fun b G e2 hb => ?_
      have e12 := e1.tr e2
      obtain ⟨d', hd', hs'⟩ : ∃ d', Dt G (.ref b) d' ∧ seqD d' = some [d0, d1, d2] := by
        have hx' : DtAll G [x0, x1, x2] [d0, d1, d2] := .cons (Dt.ext e12 _ _ a0) (.cons (Dt.ext e12 _ _ a1) (.cons (Dt.ext e12 _ _ a2) .nil))
        rcases hb with hb | hb
        · exact ⟨.list _, .lst hb hx', rfl⟩
        · exact ⟨.tuple _, .tup hb hx', rfl⟩
      have hrow : rowB d' (some 3) = (isI d0 && (isI d1 && isI d2)) := by
        unfold rowB
        rw [hs']
        show (decide (((3 : Nat) : Int) = 3) && (isI d0 && (isI d1 && (isI d2 && true)))) = _
        simp
      have hf : formB d = formL [d0, d1, d2, d3, d4] := formB_some hs
      walk_at "rx"
      refine ⟨.ref b, d', some 3, rfl, hd', fun zs hz => by rw [hs'] at hz; cases hz; exact Nat.le_of_ble_eq_true rfl, fun G3 e3 => ?_⟩
      have e13 := e12.tr e3
      rw [hrow]
      by_cases hi3 : (isI d0 && (isI d1 && isI d2)) = false
      · rw [hi3]
        have hf0 : formB d = false := by
          rw [hf]
          clear hf hrow a0 a1 a2 a3 a4 hs hd' hs' hd q sm
          cases d0 <;> cases d1 <;> cases d2 <;> first | rfl | exact Bool.noConfusion (show true = false from hi3)
        rw [hf0] at q
        walk_at "rx"
        exact q _ e13
      · have hi3' : (isI d0 && (isI d1 && isI d2)) = true := by simpa using hi3
        rw [hi3']
        obtain ⟨v1, v2, v3, rfl, rfl, rfl⟩ : ∃ v1 v2 v3 : Int, d0 = .int v1 ∧ d1 = .int v2 ∧ d2 = .int v3 := by
          cases d0 <;> cases d1 <;> cases d2 <;> first | exact ⟨_, _, _, rfl, rfl, rfl⟩ | cases hi3'
        cases a0
        cases a1
        cases a2
        walk_at "rx"
        refine g_either5 (LT.ext ha e13) rfl ?_
        have s1 := (sm _ hs).2 d3 (by simp)
        have s2 := (sm _ hs).2 d4 (by simp)
        rw [hf] at q
        walk_at "re"
        refine s_next ?_
        exact formB_rest (Dt.ext e13 _ _ a3) (Dt.ext e13 _ _ a4) s1 s2 fun H' e => q H' (e13.tr e)
end FWL
namespace FWL
open PySem PySem.Spec PyProof.Rows L2 FW
theorem mulL_len1 : ∀ {a b : List Int}, a ≠ [] → b ≠ [] → (mulL a b).length + 1 ≤ a.length + b.length
  | [], _, h, _ => absurd rfl h
  | [c], b, _, hb => by
    have := List.length_pos_iff.mpr hb
    have e : (mulL [c] b).length = max (scaL c b).length [0].length := by
      show (addL (scaL c b) (0 :: [])).length = _
      exact addL_len _ _
    have e2 : (scaL c b).length = b.length := List.length_map _
    rw [e, e2, List.length_cons, List.length_cons]
    simp only [List.length_nil]
    omega
  | c :: d :: cs, b, _, hb => by
    have ih := mulL_len1 (a := d :: cs) (b := b) (by simp) hb
    have e : (mulL (c :: d :: cs) b).length = max (scaL c b).length (0 :: mulL (d :: cs) b).length := addL_len _ _
    have e2 : (scaL c b).length = b.length := List.length_map _
    rw [e, e2]
    simp only [List.length_cons] at ih ⊢
    omega
theorem pMul_len1 {a b : List Int} (ha : a ≠ []) (hb : b ≠ []) : (pMul a b).length + 1 ≤ a.length + b.length := by
  have := mulL_len1 ha hb
  have := trm_len (mulL a b)
  unfold pMul
  omega
theorem pMul_len2 {a b : List Int} (hb : b ≠ []) : (pMul a b).length + 1 ≤ a.length + b.length := by
  by_cases ha : a = []
  · rw [ha]
    have := List.length_pos_iff.mpr hb
    show (trm (mulL [] b)).length + 1 ≤ _
    show 0 + 1 ≤ 0 + b.length
    omega
  · exact pMul_len1 ha hb
theorem pPow_len (x : Int) : ∀ k : Nat, (pPow [x, 1] k).length ≤ k + 1
  | 0 => Nat.le_refl _
  | k + 1 => by
    have := pPow_len x k
    have := pMul_len2 (a := pPow [x, 1] k) (b := [x, 1]) (by simp)
    show (pMul (pPow [x, 1] k) [x, 1]).length ≤ _
    simp only [List.length_cons, List.length_nil] at this
    omega
theorem pLess_len (a b : List Int) : (pLess a b).length ≤ max a.length b.length := by
  have h1 := trm_len (addL a (negL b))
  have h2 := addL_len a (negL b)
  have h3 : (negL b).length = b.length := List.length_map _
  unfold pLess
  omega
theorem fallP_len {l : Lp} (o : l.Ok) (g : Int) : (fallP l g).length ≤ 7 := by
  have hk := o.hk
  have h1 := pPow_len g (l.k - 1).toNat
  have h2 := pPow_len 1 l.k.toNat
  have h3 := pMul_len1 (a := [g - l.reach, 1]) (b := pPow [g, 1] (l.k - 1).toNat) (by simp) (by
    intro z
    have := pv_pow [g, 1] (1 - g) (l.k - 1).toNat
    rw [z] at this
    have e : pvl [g, 1] (1 - g) = 1 := by show g + (1 - g) * (1 + (1 - g) * 0) = 1; omega
    rw [e, Int.one_pow] at this
    exact absurd this (by show ¬ (0 : Int) = 1; decide))
  have h4 := pLess_len (pMul [g - l.reach, 1] (pPow [g, 1] (l.k - 1).toNat)) (pPow [1, 1] l.k.toNat)
  simp only [List.length_cons, List.length_nil] at h3
  unfold fallP
  omega
theorem above_pz {a b : List Int} {m B : Nat} (h1 : PZ m B a) (h2 : PZ m B b) (hm : 1 ≤ m) (hB : 1 ≤ B) : PZ m (B + 2) (aboveP a b) := by
  have h := (h1.less h2).add (PZ.one.mono (Nat.le_refl 1) (show 1 ≤ B + 1 by omega))
  exact h.mono (by omega) (Nat.le_refl _)
theorem rest_pz {k i j : Int} (hk : k = 2 ∨ k = 3 ∨ k = 4) (i1 : -60 ≤ i) (i2 : i ≤ 60) (j1 : 1 ≤ j) (j2 : j ≤ 100) : PZ 7 100 (restP k i j) := by
  have h := pz_restP (k := k) (i := i) (j := j) (by omega) (by omega) i1 i2 (by omega) j2
  refine ⟨?_, fun c hc => Sz.mono (h.2 c hc) (by decide)⟩
  rw [restP_eq hk j1, restE_len hk]
  omega
theorem sg_one {f : Int → Int} {first : Int} {v : V} (h : SgF f first v) : decide (v = .int 1) = true ↔ ∀ r, first ≤ r → 0 < f r := by
  rw [decide_eq_true_iff]
  rcases h with ⟨i, rfl, h⟩ | ⟨rfl, r, hr, h⟩
  · constructor
    · intro e
      cases e
      intro r hr
      have := h r hr
      rcases Int.lt_trichotomy (f r) 0 with z | z | z
      · rw [sgn_neg z] at this; cases this
      · rw [z] at this; cases this
      · exact z
    · intro e
      have h1 := h first (Int.le_refl _)
      rw [sgn_pos (e first (Int.le_refl _))] at h1
      rw [← h1]
  · constructor
    · intro e; cases e
    · intro e
      exact absurd ((sgn_pos (e r hr)).trans (sgn_pos (e first (Int.le_refl _))).symm) h
theorem sg_scal {f : Int → Int} {first : Int} {v : V} (h : SgF f first v) : scal v (.int 1) = true := by
  rcases h with ⟨i, rfl, h⟩ | ⟨rfl, r, hr, h⟩ <;> rfl
/-- the step leads from i to gap for all rests of a stretch -/
def LedP (l : Lp) (i gap first : Int) (bs ss : List Int) : Prop :=
  (0 < l.needed i gap → ∀ r, first ≤ r → 0 < pvl bs r - pvl (restP l.k i (l.needed i gap)) r + 1) ∧ 0 < l.needed i (gap + 1) ∧ ∀ r, first ≤ r → 0 < pvl (restP l.k i (l.needed i (gap + 1))) r - pvl ss r + 1
def sp_is_led (K : PySem.W.Frag) : Sp := fun vs H Q _ => ∃ (p b s : Addr) (l : Lp) (i gap first : Int) (bs ss : List Int), vs = [.ref p, .int i, .int gap, .int first, .ref b, .ref s] ∧ IsLp K H p l ∧ l.Ok ∧ SqT K H b (bs.map V.int) ∧ SqT K H s (ss.map V.int) ∧
  PZ 7 100 bs ∧ PZ 7 100 ss ∧ -60 ≤ i ∧ i ≤ 60 ∧ -900 ≤ gap ∧ gap ≤ 900 ∧ Sz 250 first ∧ l.needed i gap ≤ 100 ∧ l.needed i (gap + 1) ≤ 100 ∧ ∀ k H', Ext H H' → (k = true ↔ LedP l i gap first bs ss) → Q (.bl k) H'
def rd_is_led (K : PySem.W.Frag) : TS := tSeq (tPar 6 7 (tCons (tCall (sp_needed K) [] E0 (tCons (tVar 0) (tCons (tVar 1) (tCons (tVar 2) (tNil))))) (tCons (tCall (sp_needed K) [] E0 (tCons (tVar 0) (tCons (tVar 1) (tCons (tOp FW.rAdd (tVar 2) (tC (.int 1))) (tNil))))) (tNil)))) (tSeq (tIfS (tAnd (tTest (tOp FW.rGt (tVar 6) (tC (.int 0)))) (tTest (tOp rNe (tCall (sp_sign_from K) [] E0 (tCons (tCall (sp_above K) [] E0 (tCons (tVar 4) (tCons (tCall (sp_rest_poly K) [] E0 (tCons (tFld K (tVar 0) "k") (tCons (tVar 1) (tCons (tVar 6) (tNil))))) (tNil)))) (tCons (tVar 3) (tNil)))) (tC (.int 1))))) (tRet (tC (.bl false))) (tNext)) (tRet (tAndV (tOp FW.rGt (tVar 7) (tC (.int 0))) (tOp rEq (tCall (sp_sign_from K) [] E0 (tCons (tCall (sp_above K) [] E0 (tCons (tCall (sp_rest_poly K) [] E0 (tCons (tFld K (tVar 0) "k") (tCons (tVar 1) (tCons (tVar 7) (tNil))))) (tCons (tVar 5) (tNil)))) (tCons (tVar 3) (tNil)))) (tC (.int 1))))))
theorem pure_is_led (K : PySem.W.Frag) (A : AvK K) (vs : List V) (H : Hp) (Q : VK) (E : XK) (h : sp_is_led K vs H Q E) : rd_is_led K { nx := fun _ H' => Q .non H', rt := Q } (start ["loop", "i", "gap", "first", "begin", "stop", "least", "beyond"] vs) H := by
  obtain ⟨p, b, s, l, i, gap, first, bs, ss, rfl, hL, o, hb, hs, zb, zs, i1, i2, g1, g2, hf, n1, n2, q⟩ := h
  have hk := o.hk
  have A' := A
  cases A'
  unfold rd_is_led
  walk_at "rx"
  refine ⟨p, l, i, gap, rfl, hL, o, by omega, by omega, by omega, by omega, ?_⟩
  walk_at "rx"
  refine ⟨p, l, i, gap + 1, rfl, hL, o, by omega, by omega, by omega, by omega, ?_⟩
  obtain ⟨dx, hp⟩ := hL
  have rest : ∀ (G : Hp), Ext H G → (0 < l.needed i gap → ∀ r, first ≤ r → 0 < pvl bs r - pvl (restP l.k i (l.needed i gap)) r + 1) → (tRet (tAndV (tOp FW.rGt (tVar 7) (tC (.int 0))) (tOp rEq (tCall (sp_sign_from K) [] E0 (tCons (tCall (sp_above K) [] E0 (tCons (tCall (sp_rest_poly K) [] E0 (tCons (tFld K (tVar 0) "k") (tCons (tVar 1) (tCons (tVar 7) (tNil))))) (tCons (tVar 5) (tNil)))) (tCons (tVar 3) (tNil)))) (tC (.int 1))))) { nx := fun _ H' => Q .non H', rt := Q } [some (.ref p), some (.int i), some (.int gap), some (.int first), some (.ref b), some (.ref s), some (.int (l.needed i gap)), some (.int (l.needed i (gap + 1)))] G := fun G eG h1 => by
    have hp' := eG _ _ hp
    walk_at "rx"
    by_cases c : 0 < l.needed i (gap + 1)
    · rw [decide_eq_true c]
      walk_at "rx"
      refine ⟨l.k, i, _, rfl, by omega, by omega, i1, i2, by omega, n2, fun t1 G1 _ e1 h1' z1 => ?_⟩
      walk_at "rx"
      have zr := rest_pz (k := l.k) (i := i) hk i1 i2 (show 1 ≤ l.needed i (gap + 1) by omega) n2
      refine ⟨t1, s, _, ss, rfl, .inr (SqT.of h1'), (eG.tr e1).sqT hs, by have := zr.1; omega, by have := zs.1; omega, fun t2 G2 _ e2 h2 => ?_⟩
      walk_at "rx"
      have za := above_pz zr zs (by decide) (by decide)
      refine ⟨t2, _, first, rfl, .inr (SqT.of h2), by have := za.1; omega, fun c hc => Sz.mono (za.2 c hc) (by decide), Sz.mono hf (by decide), fun v G3 e3 hv => ?_⟩
      walk_at "rx"
      refine ⟨sg_scal hv, ?_⟩
      refine q _ _ (eG.tr (e1.tr (e2.tr e3))) ((sg_one hv).trans ⟨fun z => ⟨h1, c, fun r hr => ?_⟩, fun z r hr => ?_⟩)
      · have := z r hr
        rw [pv_above] at this
        exact this
      · rw [pv_above]
        exact z.2.2 r hr
    · rw [decide_eq_false c]
      walk_at "rx"
      refine q false G eG ⟨fun z => ?_, fun z => absurd z.2.1 c⟩
      cases z
  generalize (tRet (tAndV (tOp FW.rGt (tVar 7) (tC (.int 0))) (tOp rEq (tCall (sp_sign_from K) [] E0 (tCons (tCall (sp_above K) [] E0 (tCons (tCall (sp_rest_poly K) [] E0 (tCons (tFld K (tVar 0) "k") (tCons (tVar 1) (tCons (tVar 7) (tNil))))) (tCons (tVar 5) (tNil)))) (tCons (tVar 3) (tNil)))) (tC (.int 1))))) = TL at rest ⊢
  walk_at "rx"
  by_cases c : 0 < l.needed i gap
  · rw [decide_eq_true c]
    walk_at "rx"
    refine ⟨l.k, i, _, rfl, by omega, by omega, i1, i2, by omega, n1, fun t1 G1 _ e1 h1' z1 => ?_⟩
    walk_at "rx"
    have zr := rest_pz (k := l.k) (i := i) hk i1 i2 (show 1 ≤ l.needed i gap by omega) n1
    refine ⟨b, t1, bs, _, rfl, .inr (e1.sqT hb), SqT.of h1', by have := zb.1; omega, by have := zr.1; omega, fun t2 G2 _ e2 h2 => ?_⟩
    walk_at "rx"
    have za := above_pz zb zr (by decide) (by decide)
    refine ⟨t2, _, first, rfl, .inr (SqT.of h2), by have := za.1; omega, fun c hc => Sz.mono (za.2 c hc) (by decide), Sz.mono hf (by decide), fun v G3 e3 hv => ?_⟩
    walk_at "rx"
    refine ⟨sg_scal hv, ?_⟩
    have hone := sg_one hv
    have e123 := e1.tr (e2.tr e3)
    cases hd : decide (v = .int 1) with
    | true =>
      walk_at "rx"
      refine rest _ e123 fun _ r hr => ?_
      have := hone.mp hd r hr
      rw [pv_above] at this
      exact this
    | false =>
      walk_at "rx"
      refine q false _ e123 ⟨fun z => ?_, fun z => ?_⟩
      · cases z
      · have := hone.mpr fun r hr => by
          rw [pv_above]
          exact z.1 c r hr
        rw [hd] at this
        cases this
  · rw [decide_eq_false c]
    walk_at "rx"
    exact rest _ Ext.rfl' fun z => absurd z c
end FWL
namespace FWL
open PySem PySem.Spec PyProof.Rows L2 FW
set_option hygiene false in
local macro_rules | `(tactic| walk_at "rv") => `(tactic| (have nt := (); have nz := (); have nH := (); have ne := (); have nh := ()))
theorem prd_get {α β : Type} {F : α → β → Prop} : ∀ {xs : List α} {ys : List β} {t : Nat} {b : β}, Paired F xs ys → ys[t]? = some b → ∃ a, xs[t]? = some a ∧ F a b
  | _, _, t, b, .nil, h => by simp at h
  | _, _, 0, b, .cons h _, e => by cases e; exact ⟨_, rfl, h⟩
  | _, _, t + 1, b, .cons _ t', e => prd_get (t := t) t' e
theorem DtAll.ints {H : Hp} : ∀ {ns : List Int} {xs : List V}, DtAll H xs (ns.map PyData.int) → xs = ns.map V.int
  | [], _, .nil => rfl
  | n :: ns, _, .cons h r => by cases h; rw [DtAll.ints r]; rfl
theorem Dt.row {H : Hp} {v : V} {d : PyData} {ns : List Int} (h : Dt H v d) (e : seqD d = some (ns.map PyData.int)) : ∃ a, v = .ref a ∧ LT H a (ns.map V.int) := by
  obtain ⟨a, xs, rfl, ha, hx⟩ := h.seq e
  rw [hx.ints] at ha
  exact ⟨a, rfl, ha⟩
/-- rows of integers, as data -/
def RowsD (ds : List PyData) (cs : List (List Int)) : Prop := Paired (fun d ns => seqD d = some (ns.map PyData.int)) ds cs
theorem RowsD.at {H : Hp} : ∀ {ds : List PyData} {cs : List (List Int)} {xs : List V} {i : Nat} {x : V}, RowsD ds cs → DtAll H xs ds → xs[i]? = some x → ∃ ns a, cs[i]? = some ns ∧ x = .ref a ∧ LT H a (ns.map V.int)
  | _, _, _, i, x, .nil, .nil, h => by simp at h
  | _, _, _, 0, x, .cons h _, .cons d _, e => by
    cases e
    obtain ⟨a, h1, h2⟩ := d.row h
    exact ⟨_, a, rfl, h1, h2⟩
  | _, _, _, i + 1, x, .cons _ r, .cons _ s, e => RowsD.at (i := i) r s e
theorem RowsD.len : ∀ {ds : List PyData} {cs : List (List Int)}, RowsD ds cs → ds.length = cs.length
  | _, _, .nil => rfl
  | _, _, .cons _ r => congrArg Nat.succ (RowsD.len r)
def IsTab (d : PyData) (f lo hi : Int) (cs ms : List (List Int)) : Prop := ∃ c m cds mds, seqD d = some [.int f, .int lo, .int hi, c, m] ∧ seqD c = some cds ∧ seqD m = some mds ∧ RowsD cds cs ∧ RowsD mds ms
def risT (l : Lp) (cs : List (List Int)) : List (List Int) := risingP l (cs.map trm)
structure TabP (l : Lp) (f lo hi : Int) (cs ms : List (List Int)) : Prop where
  ris : ∀ t p q, (risT l cs)[t]? = some p → (risT l cs)[t + 1]? = some q → ∀ r, f ≤ r → 0 < pvl q r - pvl p r
  fall : ∀ r, f ≤ r → 0 < pvl (fallP l (hi + 1)) r + 1
  led : ∀ t row, ms[t]? = some row → ∀ p q, (risT l cs)[t]? = some p → (risT l cs)[t + 1]? = some q → ∀ k gap, row[k]? = some gap → lo ≤ gap ∧ gap ≤ hi ∧ LedP l (lo + (k : Nat)) gap f p q
def Plq (K : PySem.W.Frag) (H : Hp) (xs : List V) (ps : List (List Int)) : Prop := Paired (fun v p => ∃ a, v = V.ref a ∧ SqT K H a (p.map V.int)) xs ps
theorem Plq.ext {K : PySem.W.Frag} {H H' : Hp} {xs : List V} {ps : List (List Int)} (h : Plq K H xs ps) (e : Ext H H') : Plq K H' xs ps := Paired.mapP h fun _ _ ⟨a, h1, h2⟩ => ⟨a, h1, e.sqT h2⟩
section
variable {K : PySem.W.Frag} {H : Hp} {l : Lp} {f lo hi : Int} {p c m R ar : Addr} {v : V} {rs : List V} {ps : List (List Int)} {row P N : List Int} {t : Nat} {u8 u11 u12 : Option V} {vr : V}
def rd_is_table_L1 (K : PySem.W.Frag) : TS := tIfS (tTest (tOp rNe (tCall (sp_sign_from K) [] E0 (tCons (tCall (sp_poly_less K) [] E0 (tCons (tOp (rIxL K) (tVar 7) (tOp FW.rAdd (tVar 9) (tC (.int 1)))) (tCons (tOp (rIxL K) (tVar 7) (tVar 9)) (tNil)))) (tCons (tVar 2) (tNil)))) (tC (.int 1)))) (tRet (tC (.bl false))) (tNext)
def rd_is_table_L2 (K : PySem.W.Frag) : TS := tIfS (tOr (tNot (tTest (tChain FW.rLe FW.rLe (tVar 3) (tVar 12) (tVar 4)))) (tNot (tB (tCall (sp_is_led K) [] E0 (tCons (tVar 0) (tCons (tOp FW.rAdd (tVar 3) (tVar 11)) (tCons (tVar 12) (tCons (tVar 2) (tCons (tOp (rIxL K) (tVar 7) (tVar 9)) (tCons (tOp (rIxL K) (tVar 7) (tOp FW.rAdd (tVar 9) (tC (.int 1)))) (tNil))))))))))) (tRet (tC (.bl false))) (tNext)
def rd_is_table_L3 (K : PySem.W.Frag) : TS := tFor (FW.iEither (iEnum K (tCons (tVar 10) (tNil))) (FW.iEnumT K (tCons (tVar 10) (tNil)))) (gTup K 2 (gCons (gName 11) (gCons (gName 12) (gNil)))) (rd_is_table_L2 K)
theorem it_row {D : Ends} (hL : IsLp K H p l) (o : l.Ok) (hR : H R = some (.lst rs)) (hP : Plq K H rs ps) (zp : ∀ q, q ∈ ps → PZ 7 100 q) (h1 : ps[t]? = some P) (h2 : ps[t + 1]? = some N) (hrow : LT H ar (row.map V.int)) (lo1 : -50 ≤ lo) (hi1 : hi ≤ 50) (hf : Sz 250 f)
    (hl : ∀ k gap, row[k]? = some gap → lo + (k : Nat) ≤ hi) (nd : ∀ i gap, lo ≤ i → i ≤ hi → lo ≤ gap → gap ≤ hi + 1 → l.needed i gap ≤ 100)
    (hnx : ∀ H' w11 w12, Ext H H' → (∀ k gap, row[k]? = some gap → lo ≤ gap ∧ gap ≤ hi ∧ LedP l (lo + (k : Nat)) gap f P N) → D.nx [some (.ref p), some v, some (.int f), some (.int lo), some (.int hi), some (.ref c), some (.ref m), some (.ref R), u8, some (.int (t : Nat)), some (.ref ar), w11, w12] H')
    (hrt : ∀ H', Ext H H' → (∃ (k : Nat) (gap : Int), row[k]? = some gap ∧ ¬ (lo ≤ gap ∧ gap ≤ hi ∧ LedP l (lo + (k : Nat)) gap f P N)) → D.rt (.bl false) H') :
    (rd_is_table_L3 K) D [some (.ref p), some v, some (.int f), some (.int lo), some (.int hi), some (.ref c), some (.ref m), some (.ref R), u8, some (.int (t : Nat)), some (.ref ar), u11, u12] H := by
  obtain ⟨_, g1, a1, rfl, s1⟩ := prd_get hP h1
  obtain ⟨_, g2, a2, rfl, s2⟩ := prd_get hP h2
  unfold rd_is_table_L3
  refine for_enumA (n := 10) (xs := row.map V.int) (fun i σ H' => Ext H H' ∧ (∃ w11 w12, σ = [some (.ref p), some v, some (.int f), some (.int lo), some (.int hi), some (.ref c), some (.ref m), some (.ref R), u8, some (.int (t : Nat)), some (.ref ar), w11, w12]) ∧ ∀ k gap, k < i → row[k]? = some gap → lo ≤ gap ∧ gap ≤ hi ∧ LedP l (lo + (k : Nat)) gap f P N) rfl (LT.sq hrow) ⟨Ext.rfl', ⟨_, _, rfl⟩, fun k gap h => absurd h (Nat.not_lt_zero k)⟩ (fun i σ H' h => h.1) ?_ ?_
  · rintro i x σ H' T hx ⟨e, ⟨w11, w12, rfl⟩, hh⟩ hT
    rw [List.getElem?_map] at hx
    obtain ⟨gap, hg, rfl⟩ := Option.map_eq_some_iff.mp hx
    have e1 := e.tr (Ext.new (o := .tup [.int (i : Nat), .int gap]) hT)
    have t1 := upd_same (H := H') (a := T) (o := .tup [.int (i : Nat), .int gap])
    generalize upd H' T _ = H1 at e1 t1 ⊢
    have hi2 := hl i gap hg
    walk_at "rx"
    unfold rd_is_table_L2
    walk_at "rx"
    have bad : ∀ G, Ext H G → ¬ (lo ≤ gap ∧ gap ≤ hi ∧ LedP l (lo + (i : Nat)) gap f P N) → D.rt (.bl false) G := fun G eG hb => hrt G eG ⟨i, gap, hg, hb⟩
    by_cases c1 : lo ≤ gap
    · rw [decide_eq_true c1]
      walk_at "rx"
      by_cases c2 : gap ≤ hi
      · rw [decide_eq_true c2]
        walk_at "rx"
        refine e_ixL ?_ (SqL.of (e1 _ _ hR)) (atI_of g1 (by omega))
        walk_at "rx"
        refine e_ixL ?_ (SqL.of (e1 _ _ hR)) (atI_of g2 (by omega))
        walk_at "rx"
        refine ⟨p, a1, a2, l, lo + (i : Nat), gap, f, P, N, rfl, hL.ext e1, o, e1.sqT s1, e1.sqT s2, zp P (List.mem_of_getElem? h1), zp N (List.mem_of_getElem? h2), by omega, by omega, by omega, by omega, hf, nd _ _ (by omega) hi2 c1 (by omega), nd _ _ (by omega) hi2 (by omega) (by omega), fun k H2 e2 hk => ?_⟩
        have e3 := e1.tr e2
        cases k with
        | true =>
          walk_at "rx"
          refine ⟨e3, ⟨_, _, rfl⟩, fun k' gap' hk' hg' => ?_⟩
          by_cases hki : k' < i
          · exact hh k' gap' hki hg'
          · obtain rfl : k' = i := by omega
            rw [hg] at hg'
            cases hg'
            exact ⟨c1, c2, hk.mp rfl⟩
        | false =>
          walk_at "rx"
          refine bad _ e3 fun z => ?_
          have := hk.mpr z.2.2
          cases this
      · rw [decide_eq_false c2]
        walk_at "rx"
        exact bad _ e1 fun z => c2 z.2.1
    · rw [decide_eq_false c1]
      walk_at "rx"
      exact bad _ e1 fun z => c1 z.1
  · rintro σ H' ⟨e, ⟨w11, w12, rfl⟩, hh⟩
    exact hnx _ _ _ e fun k gap h => hh k gap (by have := (List.getElem?_eq_some_iff.mp h).1; rw [List.length_map]; exact this) h
theorem it_maps {Q : VK} {ys : List V} {ms : List (List Int)} {mds : List PyData} {u9 u10 : Option V} (hL : IsLp K H p l) (o : l.Ok) (hR : H R = some (.lst rs)) (hP : Plq K H rs ps) (zp : ∀ q, q ∈ ps → PZ 7 100 q) (hm : LT H m ys) (hy : DtAll H ys mds) (hd : RowsD mds ms) (lo1 : -50 ≤ lo) (hi1 : hi ≤ 50) (hf : Sz 250 f)
    (hpl : ps.length = ms.length + 1) (hl : ∀ row, row ∈ ms → (row.length : Int) = hi - lo + 1) (nd : ∀ i gap, lo ≤ i → i ≤ hi → lo ≤ gap → gap ≤ hi + 1 → l.needed i gap ≤ 100)
    (q1 : ∀ H', Ext H H' → (∀ t row, ms[t]? = some row → ∀ p q, ps[t]? = some p → ps[t + 1]? = some q → ∀ k gap, row[k]? = some gap → lo ≤ gap ∧ gap ≤ hi ∧ LedP l (lo + (k : Nat)) gap f p q) → Q (.bl true) H')
    (q0 : ∀ H', Ext H H' → (∃ (t : Nat) (row : List Int) (p q : List Int) (k : Nat) (gap : Int), ms[t]? = some row ∧ ps[t]? = some p ∧ ps[t + 1]? = some q ∧ row[k]? = some gap ∧ ¬ (lo ≤ gap ∧ gap ≤ hi ∧ LedP l (lo + (k : Nat)) gap f p q)) → Q (.bl false) H') :
    (tSeq (tFor (FW.iEither (iEnum K (tCons (tVar 6) (tNil))) (FW.iEnumT K (tCons (tVar 6) (tNil)))) (gTup K 2 (gCons (gName 9) (gCons (gName 10) (gNil)))) (rd_is_table_L3 K)) (tRet (tC (.bl true)))) { nx := fun _ H' => Q .non H', rt := Q } [some (.ref p), some v, some (.int f), some (.int lo), some (.int hi), some (.ref c), some (.ref m), some (.ref R), u8, u9, u10, u11, u12] H := by
  refine FW.s_seq ?_
  refine for_enumA (n := 6) (xs := ys) (fun t σ H' => Ext H H' ∧ (∃ w9 w10 w11 w12, σ = [some (.ref p), some v, some (.int f), some (.int lo), some (.int hi), some (.ref c), some (.ref m), some (.ref R), u8, w9, w10, w11, w12]) ∧ ∀ t' row, t' < t → ms[t']? = some row → ∀ p q, ps[t']? = some p → ps[t' + 1]? = some q → ∀ k gap, row[k]? = some gap → lo ≤ gap ∧ gap ≤ hi ∧ LedP l (lo + (k : Nat)) gap f p q) rfl (LT.sq hm) ⟨Ext.rfl', ⟨_, _, _, _, rfl⟩, fun t' row h => absurd h (Nat.not_lt_zero t')⟩ (fun i σ H' h => h.1) ?_ ?_
  · rintro t x σ H' T hx ⟨e, ⟨w9, w10, w11, w12, rfl⟩, hh⟩ hT
    obtain ⟨row, ar, hrow, rfl, har⟩ := RowsD.at hd hy hx
    have e1 := e.tr (Ext.new (o := .tup [.int (t : Nat), .ref ar]) hT)
    have t1 := upd_same (H := H') (a := T) (o := .tup [.int (t : Nat), .ref ar])
    generalize upd H' T _ = H1 at e1 t1 ⊢
    have tl := (List.getElem?_eq_some_iff.mp hrow).1
    obtain ⟨P, hPt⟩ : ∃ x, ps[t]? = some x := ⟨_, List.getElem?_eq_getElem (by omega)⟩
    obtain ⟨N, hNt⟩ : ∃ x, ps[t + 1]? = some x := ⟨_, List.getElem?_eq_getElem (by omega)⟩
    walk_at "rx"
    refine it_row (hL.ext e1) o (e1 _ _ hR) (hP.ext e1) zp hPt hNt (har.ext e1) lo1 hi1 hf (fun k gap hk => ?_) nd (fun H2 w11' w12' e2 hgood => ?_) (fun H2 e2 hbad => ?_)
    · have h1 := hl row (List.mem_of_getElem? hrow)
      have h2 := (List.getElem?_eq_some_iff.mp hk).1
      omega
    · refine ⟨e1.tr e2, ⟨_, _, _, _, rfl⟩, fun t' row' ht' hr' p' q' hp' hq' k gap hk => ?_⟩
      by_cases htt : t' < t
      · exact hh t' row' htt hr' p' q' hp' hq' k gap hk
      · obtain rfl : t' = t := by omega
        rw [hrow] at hr'
        rw [hPt] at hp'
        rw [hNt] at hq'
        cases hr'
        cases hp'
        cases hq'
        exact hgood k gap hk
    · obtain ⟨k, gap, hk, hb⟩ := hbad
      exact q0 _ (e1.tr e2) ⟨t, row, P, N, k, gap, hrow, hPt, hNt, hk, hb⟩
  · rintro σ H' ⟨e, ⟨w9, w10, w11, w12, rfl⟩, hh⟩
    walk_at "rx"
    refine q1 _ e fun t row ht => hh t row ?_ ht
    have := (List.getElem?_eq_some_iff.mp ht).1
    have := hy.len
    have := hd.len
    omega
end
theorem sqT_upd {K : PySem.W.Frag} {H : Hp} {a D : Addr} {xs ys : List V} {ob : HO} (h : SqT K H a xs) (hD : H D = some (.lst ys)) : SqT K (upd H D ob) a xs := by
  refine h.imp (fun r => ?_) id
  rcases r with r | ⟨b, r⟩
  · exact .inl (by rw [upd_ne (ne_of r hD (fun z => nomatch z))]; exact r)
  · exact .inr ⟨b, by rw [upd_ne (ne_of r hD (fun z => nomatch z))]; exact r⟩
theorem Plq.upd {K : PySem.W.Frag} {H : Hp} {D : Addr} {xs ys : List V} {ps : List (List Int)} {ob : HO} (h : Plq K H xs ps) (hD : H D = some (.lst ys)) : Plq K (upd H D ob) xs ps := Paired.mapP h fun _ _ ⟨a, h1, h2⟩ => ⟨a, h1, sqT_upd h2 hD⟩
theorem prd_snoc {α β : Type} {F : α → β → Prop} : ∀ {xs : List α} {ys : List β} {a : α} {b : β}, Paired F xs ys → F a b → Paired F (xs ++ [a]) (ys ++ [b])
  | _, _, _, _, .nil, h => .cons h .nil
  | _, _, _, _, .cons x r, h => .cons x (prd_snoc r h)
theorem call_trim {K : PySem.W.Frag} {H : Hp} {b : Addr} {ns : List Int} {R : VK} (hb : LT H b (ns.map V.int)) (k : ∀ t H', Ext H H' → SqT K H' t ((trm ns).map V.int) → R (.ref t) H') : sp_trimmed K [.ref b] H R E0 := by
  have eq : ∀ cs' : List Int, (∀ r, pvl cs' r = pvl ns r) → cs'.getLast? ≠ some 0 → cs' = trm ns := fun cs' h1 h2 => pv_uniq (fun r => by rw [h1, pv_trm]) h2 (trm_last _)
  rcases hb with hb | hb
  · exact .inl ⟨b, ns, rfl, SqL.of hb, fun t cs' H' _ e h hv hl _ _ => by rw [eq cs' hv hl] at h; exact k t H' e (SqT.of h)⟩
  · exact .inr ⟨b, ns, rfl, SqT.of hb, fun t cs' H' e h hv hl _ _ => by rw [eq cs' hv hl] at h; exact k t H' e h⟩
theorem it_trim {K : PySem.W.Frag} {H : Hp} {Q : VK} {c : Addr} {xs : List V} {cds : List PyData} {cs : List (List Int)} {σ : L2.St} (hv : σ[5]? = some (some (.ref c))) (h8 : ∀ v : V, ((wipe σ [8]).set 8 (some v))[8]? = some (some v)) (hw : ∀ v : V, wipe ((wipe σ [8]).set 8 (some v)) [8] = wipe σ [8]) (hc : LT H c xs) (hx : DtAll H xs cds) (hd : RowsD cds cs) (hl : cs.length ≤ 10000)
    (k : ∀ D G zs, Ext H G → G D = some (.lst zs) → Plq K G zs (cs.map trm) → Q (.ref D) G) :
    (FW.iEither (iList K (tVar 5)) (iTup K (tVar 5))) σ H fun J H1 => LcK (gName 8) (tYes) (tCall (sp_trimmed K) [] E0 (tCons (tVar 8) (tNil))) [8] σ Q J H1 := by
  have xl := hx.len
  have dl := hd.len
  have step : ∀ (D : Addr), H D = none → ∀ i x H', xs[i]? = some x → (Ext H H' ∧ ∃ zs, H' D = some (.lst zs) ∧ Plq K H' zs ((cs.take i).map trm)) → (gName 8) x (wipe σ [8]) H' fun σ2 H2 => wipe σ2 [8] = wipe σ [8] ∧ (tYes) σ2 H2 fun b H3 =>
      if b = true then (tCall (sp_trimmed K) [] E0 (tCons (tVar 8) (tNil))) σ2 H3 fun y H4 => ∃ acc, H4 D = some (.lst acc) ∧ acc.length < sizeLine ∧ (Ext H (upd H4 D (.lst (acc ++ [y]))) ∧ ∃ zs, (upd H4 D (.lst (acc ++ [y]))) D = some (.lst zs) ∧ Plq K (upd H4 D (.lst (acc ++ [y]))) zs ((cs.take (i + 1)).map trm)) else (Ext H H3 ∧ ∃ zs, H3 D = some (.lst zs) ∧ Plq K H3 zs ((cs.take (i + 1)).map trm)) := by
    rintro D hD i x H' hxi ⟨e, zs, hz, hp⟩
    obtain ⟨ns, a, hn, rfl, ha⟩ := RowsD.at hd hx hxi
    have hi := (List.getElem?_eq_some_iff.mp hn).1
    have zl := Paired.length hp
    rw [List.length_map, List.length_take] at zl
    have et : (cs.take (i + 1)).map trm = (cs.take i).map trm ++ [trm ns] := by rw [List.take_add_one, hn, List.map_append]; rfl
    refine g_name ⟨hw _, e_yes ?_⟩
    rw [if_pos rfl]
    refine FW.e_call (FW.e_cons (e_var ?_ (h8 _)))
    refine FW.e_nil ?_
    refine call_trim (ha.ext e) fun t H4 e4 h4 => ?_
    refine ⟨zs, e4 _ _ hz, Nat.lt_of_le_of_lt (show zs.length ≤ 10000 by omega) (by rw [sizeLine_eq]; decide), (e.tr e4).upds hD, _, upd_same, ?_⟩
    rw [et]
    exact prd_snoc ((hp.ext e4).upd (e4 _ _ hz)) ⟨t, rfl, sqT_upd h4 (e4 _ _ hz)⟩
  have fin : ∀ (D : Addr) (H' : Hp), (Ext H H' ∧ ∃ zs, H' D = some (.lst zs) ∧ Plq K H' zs ((cs.take xs.length).map trm)) → Q (.ref D) H' := by
    rintro D H' ⟨e, zs, hz, hp⟩
    rw [List.take_of_length_le (by omega)] at hp
    exact k D H' zs e hz hp
  rcases hc with hc | hc
  · refine .inl (i_list (e_var (i_list' xs ?_ (SqL.of hc)) hv))
    intro D hD
    exact lc_list (K := K) (a := c) (xs := xs) (fun i H' => Ext H H' ∧ ∃ zs, H' D = some (.lst zs) ∧ Plq K H' zs ((cs.take i).map trm)) ⟨Ext.new hD, [], upd_same, .nil⟩ (fun i H' _ h => SqL.of (h.1 _ _ hc)) (step D hD) (fin D)
  · refine .inr (i_tup (e_var (i_tup' xs ?_ (SqT.of hc)) hv))
    intro D hD
    exact lc_tup (K := K) (a := c) (xs := xs) (fun i H' => Ext H H' ∧ ∃ zs, H' D = some (.lst zs) ∧ Plq K H' zs ((cs.take i).map trm)) ⟨Ext.new hD, [], upd_same, .nil⟩ (fun i H' _ h => SqT.of (h.1 _ _ hc)) (step D hD) (fin D)
theorem ris_pz {l : Lp} (hk : l.k = 2 ∨ l.k = 3 ∨ l.k = 4) {cs : List (List Int)} (zc : ∀ c, c ∈ cs → PZ 7 97 c) : ∀ q, q ∈ risT l cs → PZ 7 100 q := fun q hq => by
  unfold risT risingP at hq
  rcases List.mem_cons.mp hq with rfl | hq
  · exact ⟨Nat.zero_le _, fun c hc => nomatch hc⟩
  · rcases List.mem_append.mp hq with hq | hq
    · obtain ⟨c, hc, rfl⟩ := List.mem_map.mp hq
      have h := zc c hc
      exact ⟨Nat.le_trans (trm_len c) h.1, fun x hx => Sz.mono (h.2 x (trm_mem hx)) (by decide)⟩
    · rw [List.mem_singleton.mp hq]
      have pe := pz_endP (k := l.k) (by omega) (by omega)
      refine ⟨?_, fun x hx => Sz.mono (pe.2 x hx) (by decide)⟩
      rw [endP_eq hk]
      unfold endE
      rcases hk with e | e | e <;> rw [e] <;> decide
theorem form_rows {f lo hi : Int} {c m : PyData} {cds mds : List PyData} {cs ms : List (List Int)} (h : formL [.int f, .int lo, .int hi, c, m] = true) (hc : seqD c = some cds) (hm : seqD m = some mds) (rc : RowsD cds cs) (rm : RowsD mds ms) : (lo ≤ 0 ∧ 1 ≤ hi ∧ 1 ≤ f + lo) ∧ ms.length = cs.length + 1 ∧ ∀ row, row ∈ ms → (row.length : Int) = hi - lo + 1 := by
  have h' : formR f lo hi cds mds = true := by
    have : formL [.int f, .int lo, .int hi, c, m] = (match seqD c, seqD m with | some cs, some ms => formR f lo hi cs ms | _, _ => false) := rfl
    rw [this, hc, hm] at h
    exact h
  unfold formR at h'
  rw [Bool.and_eq_true, Bool.and_eq_true] at h'
  obtain ⟨h1, _, h3⟩ := h'
  have h4 : (mds.length : Int) = (cds.length : Int) + 1 := by
    rcases Decidable.em ((mds.length : Int) = (cds.length : Int) + 1) with z | z
    · exact z
    · rw [decide_eq_false z] at h1
      simp at h1
  have hb : lo ≤ 0 ∧ 1 ≤ hi ∧ 1 ≤ f + lo := by
    by_cases c1 : lo > 0
    · rw [decide_eq_true c1] at h1; simp at h1
    · by_cases c2 : hi < 1
      · rw [decide_eq_true c2] at h1; simp at h1
      · by_cases c3 : f + lo < 1
        · rw [decide_eq_true c3] at h1; simp at h1
        · omega
  refine ⟨hb, by have := rc.len; have := rm.len; omega, fun row hr => ?_⟩
  obtain ⟨i, hi'⟩ := List.mem_iff_getElem?.mp hr
  obtain ⟨d, hd, hdr⟩ := prd_get rm hi'
  have := List.all_eq_true.mp h3 d (List.mem_of_getElem? hd)
  unfold rowB at this
  rw [hdr] at this
  have h5 := (Bool.and_eq_true_iff.mp this).1
  have h6 := of_decide_eq_true h5
  rw [List.length_map] at h6
  exact h6
def sp_is_table (K : PySem.W.Frag) : Sp := fun vs H Q _ => ∃ (p : Addr) (l : Lp) (v : V) (d : PyData), vs = [.ref p, v] ∧ IsLp K H p l ∧ l.Ok ∧ Dt H v d ∧ smD 3 d ∧
  ((formB d = false ∧ ∀ H', Ext H H' → Q (.bl false) H') ∨ ∃ (f lo hi : Int) (cs ms : List (List Int)), formB d = true ∧ IsTab d f lo hi cs ms ∧ -50 ≤ lo ∧ hi ≤ 50 ∧ Sz 250 f ∧ (∀ c, c ∈ cs → PZ 7 97 c) ∧
    (∀ i gap, lo ≤ i → i ≤ hi → lo ≤ gap → gap ≤ hi + 1 → l.needed i gap ≤ 100) ∧ ∀ k H', Ext H H' → (k = true ↔ TabP l f lo hi cs ms) → Q (.bl k) H')
def rd_is_table (K : PySem.W.Frag) : TS := tSeq (tIfS (tNot (tB (tCall (sp_has_form K) [] E0 (tCons (tVar 1) (tNil))))) (tRet (tC (.bl false))) (tNext)) (tSeq (tAsg (tVar 1) (FW.gEither (gTup K 5 (gCons (gName 2) (gCons (gName 3) (gCons (gName 4) (gCons (gName 5) (gCons (gName 6) (gNil))))))) (gLst K 5 (gCons (gName 2) (gCons (gName 3) (gCons (gName 4) (gCons (gName 5) (gCons (gName 6) (gNil))))))))) (tSeq (tAsg (tOp rCat (tOp rCat (tLst (tCons (tTup (tNil)) (tNil))) (tLc (FW.iEither (iList K (tVar 5)) (iTup K (tVar 5))) (gName 8) (tYes) (tCall (sp_trimmed K) [] E0 (tCons (tVar 8) (tNil))) [8])) (tLst (tCons (tCall (sp_end_poly K) [] E0 (tCons (tFld K (tVar 0) "k") (tNil))) (tNil)))) (gName 7)) (tSeq (tFor (iRng1 (tCons (tOp FW.rSub (tCB (Evl.rLenS K) (tCons (tVar 7) (tNil))) (tC (.int 1))) (tNil))) (gName 9) (rd_is_table_L1 K)) (tSeq (tIfS (tTest (tOp rNe (tCall (sp_sign_from K) [] E0 (tCons (tCall (sp_above K) [] E0 (tCons (tCall (sp_fall_poly K) [] E0 (tCons (tVar 0) (tCons (tOp FW.rAdd (tVar 4) (tC (.int 1))) (tNil)))) (tCons (tTup (tNil)) (tNil)))) (tCons (tVar 2) (tNil)))) (tC (.int 1)))) (tRet (tC (.bl false))) (tNext)) (tSeq (tFor (FW.iEither (iEnum K (tCons (tVar 6) (tNil))) (FW.iEnumT K (tCons (tVar 6) (tNil)))) (gTup K 2 (gCons (gName 9) (gCons (gName 10) (gNil)))) (rd_is_table_L3 K)) (tRet (tC (.bl true))))))))
theorem pure_is_table (K : PySem.W.Frag) (A : AvK K) (vs : List V) (H : Hp) (Q : VK) (E : XK) (h : sp_is_table K vs H Q E) : rd_is_table K { nx := fun _ H' => Q .non H', rt := Q } (start ["loop", "thing", "first", "low", "high", "cuts", "maps", "rising", "cut", "t", "row", "k", "gap"] vs) H := by
  obtain ⟨p, l, v, d, rfl, hL, o, hd, sm, q⟩ := h
  have A' := A
  cases A'
  have hk := o.hk
  unfold rd_is_table
  generalize hTL : (tSeq (tAsg (tVar 1) (FW.gEither (gTup K 5 (gCons (gName 2) (gCons (gName 3) (gCons (gName 4) (gCons (gName 5) (gCons (gName 6) (gNil))))))) (gLst K 5 (gCons (gName 2) (gCons (gName 3) (gCons (gName 4) (gCons (gName 5) (gCons (gName 6) (gNil))))))))) _) = TL
  walk_at "rx"
  refine ⟨v, d, rfl, hd, sm, fun H1 e1 => ?_⟩
  rcases q with ⟨hf, q⟩ | ⟨f, lo, hi, cs, ms, hf, ht, lo1, hi1, sf, zc, nd, q⟩
  · rw [hf]
    walk_at "rx"
    exact q _ e1
  · rw [hf]
    walk_at "rx"
    obtain ⟨cd, md, cds, mds, h5, hc, hm, rc, rm⟩ := ht
    obtain ⟨a, xs, rfl, ha, hx⟩ := hd.seq h5
    match xs, hx, ha with
    | [_, _, _, x3, x4], .cons (.int _) (.cons (.int _) (.cons (.int _) (.cons a3 (.cons a4 .nil)))), ha =>
      obtain ⟨c, xs, rfl, hcL, hcx⟩ := a3.seq hc
      obtain ⟨m, ys, rfl, hmL, hmy⟩ := a4.seq hm
      subst hTL
      generalize hTM : (tSeq (tFor (FW.iEither (iEnum K (tCons (tVar 6) (tNil))) (FW.iEnumT K (tCons (tVar 6) (tNil)))) (gTup K 2 (gCons (gName 9) (gCons (gName 10) (gNil)))) (rd_is_table_L3 K)) (tRet (tC (.bl true)))) = TM
      walk_at "rx"
      refine g_either5 (LT.ext ha e1) rfl ?_
      walk_at "rx"
      rename_i t0 z0 G0 f0 h0
      have hE : SqT K nH t0 (([] : List Int).map V.int) := SqT.of (ne _ _ h0)
      have e2 := e1.tr (f0.tr ne)
      have sl := (sm _ h5).2
      have scd := (sl cd (by simp)) _ hc
      have xl := hcx.len
      have cl := rc.len
      refine it_trim rfl (fun _ => rfl) (fun _ => rfl) (LT.ext hcL e2) (DtAll.ext e2 _ _ hcx) rc (by have := scd.1; omega) fun D G zs e3 hD hz => ?_
      have zl := Paired.length hz
      rw [List.length_map] at zl
      have nh' := e3 _ _ nh
      obtain ⟨dx, hp0⟩ := id hL
      walk_at "re"
      refine e_catX nh' hD (by simp; have := scd.1; omega) fun c1 G1 _ e4 hc1 => ?_
      walk_at "rx"
      refine ⟨l.k, rfl, by omega, by omega, fun te G2 _ e5 h2 _ => ?_⟩
      walk_at "rx"
      refine e_catX (ne _ _ (e5 _ _ hc1)) nh (by simp; have := scd.1; omega) fun R G4 _ e6 hR => ?_
      have e14 : Ext H G4 := e2.tr (e3.tr (e4.tr (e5.tr (ne.tr e6))))
      have hPR : Plq K G4 ([V.ref t0] ++ zs ++ [V.ref te]) (risT l cs) := by
        have h1 := ((((hz.ext e4).ext e5).ext ne).ext e6)
        have h2' : Plq K G4 ([V.ref t0] ++ zs) ([] :: cs.map trm) := .cons ⟨t0, rfl, e6.sqT (ne.sqT (e5.sqT (e4.sqT (e3.sqT hE))))⟩ h1
        exact prd_snoc h2' ⟨te, rfl, SqT.of (e6 _ _ (ne _ _ h2))⟩
      have rl : ([V.ref t0] ++ zs ++ [V.ref te]).length = cs.length + 2 := by simp; omega
      have pl : (risT l cs).length = cs.length + 2 := by unfold risT risingP; simp
      have zp : ∀ q, q ∈ risT l cs → PZ 7 100 q := ris_pz hk zc
      have hfr := (formB_some h5).symm.trans hf
      obtain ⟨⟨hb1, hb2, hb3⟩, hmlen⟩ := form_rows hfr hc hm rc rm
      have smd := (sl md (by simp)) _ hm
      generalize [V.ref t0] ++ zs ++ [V.ref te] = rs at hR hPR rl ⊢
      obtain ⟨hL4, hcL4, hmL4⟩ : IsLp K G4 p l ∧ LT G4 c xs ∧ LT G4 m ys := ⟨hL.ext e14, LT.ext hcL e14, LT.ext hmL e14⟩
      have hmy4 := DtAll.ext e14 _ _ hmy
      clear hE hz hc1 h2 nh nh' ne e3 e4 e5 e6 hD h0 f0
      walk_at "rx"
      · rw [show ((rs.length : Int) - 1).toNat = cs.length + 1 by omega]
        refine for_range (lo := 0) (n := cs.length + 1) (fun t σ H' => Ext G4 H' ∧ (∃ w9, σ = [some (.ref p), some (.ref a), some (.int f), some (.int lo), some (.int hi), some (.ref c), some (.ref m), some (.ref R), none, w9, none, none, none]) ∧ ∀ t' p' q', t' < t → (risT l cs)[t']? = some p' → (risT l cs)[t' + 1]? = some q' → ∀ r, f ≤ r → 0 < pvl q' r - pvl p' r) ⟨Ext.rfl', ⟨_, rfl⟩, fun t' p' q' h => absurd h (Nat.not_lt_zero t')⟩ ?_ ?_
        · rintro t σ H' ht ⟨e, ⟨w9, rfl⟩, hh⟩
          obtain ⟨P, hPt⟩ : ∃ x, (risT l cs)[t]? = some x := ⟨_, List.getElem?_eq_getElem (by omega)⟩
          obtain ⟨N, hNt⟩ : ∃ x, (risT l cs)[t + 1]? = some x := ⟨_, List.getElem?_eq_getElem (by omega)⟩
          obtain ⟨_, g1, a1, rfl, s1⟩ := prd_get hPR hPt
          obtain ⟨_, g2, a2, rfl, s2⟩ := prd_get hPR hNt
          have z1 := zp P (List.mem_of_getElem? hPt)
          have z2 := zp N (List.mem_of_getElem? hNt)
          walk_at "rx"
          unfold rd_is_table_L1
          walk_at "rx"
          refine e_ixL ?_ (SqL.of (e _ _ hR)) (atI_of g2 (by omega))
          walk_at "rx"
          refine e_ixL ?_ (SqL.of (e _ _ hR)) (atI_of g1 (by omega))
          walk_at "rx"
          refine lessP (.inr (e.sqT s2)) (e.sqT s1) (by have := z2.1; omega) (by have := z1.1; omega) fun b H5 _ e5 h5 => ?_
          walk_at "rx"
          have zl5 := z2.less z1
          refine ⟨b, _, f, rfl, .inr (SqT.of h5), by have := zl5.1; omega, fun x hx => Sz.mono (zl5.2 x hx) (by decide), Sz.mono sf (by decide), fun v H6 e6 hv => ?_⟩
          walk_at "rx"
          refine ⟨sg_scal hv, ?_⟩
          have hone := sg_one hv
          have e56 := e.tr (e5.tr e6)
          cases hd : decide (v = .int 1) with
          | true =>
            walk_at "rx"
            refine ⟨e56, ⟨_, rfl⟩, fun t' p' q' ht' hp' hq' r hr => ?_⟩
            by_cases hlt : t' < t
            · exact hh t' p' q' hlt hp' hq' r hr
            · obtain rfl : t' = t := by omega
              rw [hPt] at hp'
              rw [hNt] at hq'
              cases hp'
              cases hq'
              have := hone.mp hd r hr
              rw [pv_less] at this
              exact this
          | false =>
            walk_at "rx"
            refine q false _ (e14.tr e56) ⟨fun z => ?_, fun z => ?_⟩
            · cases z
            · have := hone.mpr fun r hr => by
                rw [pv_less]
                exact z.ris t P N hPt hNt r hr
              rw [hd] at this
              cases this
        · rintro σ H' ⟨e, ⟨w9, rfl⟩, hh⟩
          have hris : ∀ t p q, (risT l cs)[t]? = some p → (risT l cs)[t + 1]? = some q → ∀ r, f ≤ r → 0 < pvl q r - pvl p r := fun t p q hp hq => hh t p q (by have := (List.getElem?_eq_some_iff.mp hq).1; omega) hp hq
          walk_at "rx"
          refine ⟨p, l, hi + 1, rfl, hL4.ext e, o, by omega, by omega, fun b H5 _ e5 h5 => ?_⟩
          walk_at "rx"
          have zf : PZ 7 100 (fallP l (hi + 1)) := ⟨fallP_len o _, fun x hx => Sz.mono ((pz_fallP o (g := hi + 1) (by omega) (by omega)).2 x hx) (by decide)⟩
          have zn : PZ 7 100 ([] : List Int) := ⟨Nat.zero_le _, fun c hc => nomatch hc⟩
          refine ⟨b, nt, fallP l (hi + 1), [], rfl, .inr (SqT.of (ne _ _ h5)), SqT.of nh, by have := zf.1; omega, by decide, fun t2 H6 _ e6 h6 => ?_⟩
          walk_at "rx"
          have za := above_pz zf zn (by decide) (by decide)
          refine ⟨t2, _, f, rfl, .inr (SqT.of h6), by have := za.1; omega, fun x hx => Sz.mono (za.2 x hx) (by decide), Sz.mono sf (by decide), fun v H7 e7 hv => ?_⟩
          walk_at "rx"
          refine ⟨sg_scal hv, ?_⟩
          have hone := sg_one hv
          have e47 := e.tr (e5.tr (ne.tr (e6.tr e7)))
          cases hd : decide (v = .int 1) with
          | false =>
            walk_at "rx"
            refine q false _ (e14.tr e47) ⟨fun z => ?_, fun z => ?_⟩
            · cases z
            · have := hone.mpr fun r hr => by
                rw [pv_above]
                have := z.fall r hr
                show 0 < pvl (fallP l (hi + 1)) r - 0 + 1
                omega
              rw [hd] at this
              cases this
          | true =>
            walk_at "rx"
            have hfall : ∀ r, f ≤ r → 0 < pvl (fallP l (hi + 1)) r + 1 := fun r hr => by
              have := hone.mp hd r hr
              rw [pv_above] at this
              have h' : 0 < pvl (fallP l (hi + 1)) r - 0 + 1 := this
              omega
            subst hTM
            refine it_maps (ps := risT l cs) (ms := ms) (hL4.ext e47) o (e47 _ _ hR) (hPR.ext e47) zp (LT.ext hmL4 e47) (DtAll.ext e47 _ _ hmy4) rm lo1 hi1 sf (by omega) hmlen.2 nd (fun H8 e8 hg => ?_) (fun H8 e8 hbad => ?_)
            · refine q true _ (e14.tr (e47.tr e8)) ⟨fun _ => ⟨hris, hfall, hg⟩, fun _ => rfl⟩
            · refine q false _ (e14.tr (e47.tr e8)) ⟨fun z => ?_, fun z => ?_⟩
              · cases z
              · obtain ⟨t, row, p', q', k, gap, h1, h2, h3, h4, h5⟩ := hbad
                exact absurd (z.led t row h1 p' q' h2 h3 k gap h4) h5
      · constructor <;> omega
end FWL
namespace FWL
open PySem PySem.Spec PyProof.Rows L2 FW
/-! ### tables of windows: what holds -/
structure Hold (l : Lp) (lo hi f : Int) : Prop where
  lo0 : lo ≤ 0
  lo1 : 1 - lo ≤ f
  cond : ∀ c, c ∈ condP l lo hi (l.cuts lo hi) → ∀ r, f ≤ r → 0 < pvl c r
section
variable {l : Lp} {lo hi f r s i g : Int} {t : Nat}
theorem need_quo (o : l.Ok) : l.needed i g ≤ quo l r i s ↔ g ≤ (l.sl * i + l.c * quo l r i s + l.d) / (l.a + l.c) := by
  have a1 := o.a1; have c1 := o.c1
  rw [need_le o, Int.le_ediv_iff_mul_le (by omega)]
  constructor <;> intro h <;> omega
theorem Hold.most (o : l.Ok) (hF : Hold l lo hi f) (hr : f ≤ r) (hs : s < (r + 1) ^ l.k.toNat - r ^ l.k.toNat) (h1 : lo ≤ i) (h2 : i ≤ hi) : quo l r i s ≤ l.most i := by
  have hk := o.hk
  have f1 := hF.lo1
  have hx : 1 ≤ r + i := by omega
  unfold Lp.most
  by_cases hi' : i = 1
  · rw [if_pos hi']
    subst hi'
    refine Int.not_lt.mp fun z => ?_
    have := (quo_le (l := l) (j := l.k) (s := s) hx).mp (by omega)
    rw [rest_one hk, endP_pv] at this
    omega
  · rw [if_neg hi']
    refine Int.not_lt.mp fun z => ?_
    have h3 := (quo_le (l := l) (j := l.k + 1) (s := s) hx).mp (by omega)
    have h4 := hF.cond (aboveP (restP l.k i (l.k + 1)) (endP l.k)) (by
      unfold condP
      refine List.mem_append_left _ (List.mem_append_right _ (List.mem_map.mpr ⟨i, ?_, rfl⟩))
      unfold notOne
      exact List.mem_filter.mpr ⟨mem_rgZ.mpr ⟨h1, by omega⟩, by simp [hi']⟩) r hr
    rw [pv_above, endP_pv] at h4
    omega
theorem Hold.turn (o : l.Ok) (hF : Hold l lo hi f) (hr : f ≤ r) (s0 : 0 ≤ s) (hs : s < (r + 1) ^ l.k.toNat - r ^ l.k.toNat) (h1 : lo ≤ i) (h2 : i ≤ hi) (ht : AtCut (l.cuts lo hi) r s t) :
    (l.sl * i + l.c * quo l r i s + l.d) / (l.a + l.c) = l.ll i + (l.passed i ((l.cuts lo hi).take t) : Nat) := by
  have hk := o.hk
  have f1 := hF.lo1
  have a1 := o.a1; have c1 := o.c1
  have hx : 1 ≤ r + i := by omega
  have f0 : 1 ≤ r + lo := by omega
  have qm := hF.most o hr hs h1 h2
  have m4 := most4 o i
  have n1 := need_one o i
  have cnt := row_count o (fun g => need_quo (r := r) (s := s) (i := i) (g := g) o) qm 8 (l.ll i + 1) (by omega)
  have pe : l.passed i ((l.cuts lo hi).take t) = ((l.rowF i 8 (l.ll i + 1)).filter fun j => decide (j ≤ quo l r i s)).length := by
    unfold Lp.passed Lp.rowC Lp.rowJ
    rw [List.filter_map, List.length_map]
    congr 1
    refine List.filter_congr fun j hj => ?_
    have hm : restP l.k i j ∈ l.cuts lo hi := mem_cuts h1 h2 (List.mem_map_of_mem hj)
    show ((l.cuts lo hi).take t).any _ = _
    rw [ht.mem hm]
    exact decide_eq_decide.mpr (quo_le hx).symm
  rw [pe, cnt]
  have q0 : 0 ≤ quo l r i s := gap_q hk (by have := hF.lo0; omega) hx s0
  have low : l.ll i ≤ (l.sl * i + l.c * quo l r i s + l.d) / (l.a + l.c) := by
    unfold Lp.ll
    have := Int.mul_nonneg (show 0 ≤ l.c by omega) q0
    exact Int.ediv_le_ediv (by omega) (by omega)
  omega
theorem Hold.asc (hF : Hold l lo hi f) (hr : f ≤ r) : ∀ u c d, (risingP l (l.cuts lo hi))[u]? = some c → (risingP l (l.cuts lo hi))[u + 1]? = some d → pvl c r < pvl d r := by
  intro u c d h1 h2
  have h3 := hF.cond (pLess d c) (by unfold condP; exact List.mem_append_left _ (List.mem_append_left _ (List.mem_of_getElem? (diffs_at h1 h2)))) r hr
  rw [pv_less] at h3
  omega
theorem ris_last (l : Lp) (cs : List (List Int)) : (risingP l cs)[cs.length + 1]? = some (endP l.k) := by
  unfold risingP
  rw [List.getElem?_cons_succ, List.getElem?_append_right (Nat.le_refl _), Nat.sub_self]; rfl
theorem ris_at (l : Lp) (cs : List (List Int)) (u : Nat) (h : u < cs.length) : (risingP l cs)[u + 1]? = cs[u]? := by
  unfold risingP
  rw [List.getElem?_cons_succ, List.getElem?_append_left h]
theorem ris_len (l : Lp) (cs : List (List Int)) : (risingP l cs).length = cs.length + 2 := by
  unfold risingP
  rw [List.length_cons, List.length_append]; rfl
/-- the rests of a stretch -/
theorem Hold.stretch (hF : Hold l lo hi f) (hr : f ≤ r) {c d : List Int} (ht : t ≤ (l.cuts lo hi).length) (hc : (risingP l (l.cuts lo hi))[t]? = some c) (hd : (risingP l (l.cuts lo hi))[t + 1]? = some d) :
    0 ≤ pvl c r ∧ pvl c r < pvl d r ∧ pvl d r ≤ (r + 1) ^ l.k.toNat - r ^ l.k.toNat ∧ ∀ s, pvl c r ≤ s → s < pvl d r → AtCut (l.cuts lo hi) r s t := by
  have asc := hF.asc hr
  have h0 : (risingP l (l.cuts lo hi))[0]? = some [] := rfl
  have hl := ris_last l (l.cuts lo hi)
  have g1 := asc_far asc t 0 [] c h0 (by rw [Nat.zero_add]; exact hc)
  have g2 := asc_far asc ((l.cuts lo hi).length - t) (t + 1) d (endP l.k) hd (by rw [show t + 1 + ((l.cuts lo hi).length - t) = (l.cuts lo hi).length + 1 by omega]; exact hl)
  rw [endP_pv] at g2
  refine ⟨g1, asc t c d hc hd, g2, fun s s1 s2 => ⟨ht, fun u p hp => ?_⟩⟩
  have hu := (List.getElem?_eq_some_iff.mp hp).1
  have hp' : (risingP l (l.cuts lo hi))[u + 1]? = some p := by rw [ris_at l _ u hu]; exact hp
  constructor
  · intro h
    have := asc_far asc (t - (u + 1)) (u + 1) p c hp' (by rw [show u + 1 + (t - (u + 1)) = t by omega]; exact hc)
    omega
  · intro h
    refine Nat.lt_of_not_le fun z => ?_
    have := asc_far asc (u - t) (t + 1) d p hd (by rw [show t + 1 + (u - t) = u + 1 by omega]; exact hp')
    omega
/-- for a stretch between c and d at a root r: the steps' gap, if it is the same at both ends -/
theorem led_at (o : l.Ok) {c d G : Int} {bs ss : List Int} (hx : 1 ≤ r + i) (hb : pvl bs r = c) (hs : pvl ss r = d)
    (hc : (l.sl * i + l.c * quo l r i c + l.d) / (l.a + l.c) = G) (hd : (l.sl * i + l.c * quo l r i (d - 1) + l.d) / (l.a + l.c) = G) (q0 : 0 ≤ quo l r i c) :
    ((0 < l.needed i g → 0 < pvl bs r - pvl (restP l.k i (l.needed i g)) r + 1) ↔ g ≤ G) ∧ (0 < pvl (restP l.k i (l.needed i (g + 1))) r - pvl ss r + 1 ↔ G ≤ g) := by
  have n1 := need_quo (r := r) (s := c) (i := i) (g := g) o
  have n2 := need_quo (r := r) (s := d - 1) (i := i) (g := g + 1) o
  have t1 := quo_le (l := l) (i := i) (j := l.needed i g) (s := c) hx
  have t2 := quo_le (l := l) (i := i) (j := l.needed i (g + 1)) (s := d - 1) hx
  rw [hc] at n1
  rw [hd] at n2
  rw [hb, hs]
  constructor
  · constructor
    · intro h
      by_cases z : 0 < l.needed i g
      · have := h z
        exact n1.mp (t1.mpr (by omega))
      · exact n1.mp (by omega)
    · intro h _
      have := t1.mp (n1.mpr h)
      omega
  · constructor
    · intro h
      refine Int.not_lt.mp fun z => ?_
      have := t2.mp (n2.mpr (by omega))
      omega
    · intro h
      refine Int.not_le.mp fun z => ?_
      have := n2.mp (t2.mpr (by omega))
      omega
/-- in a stretch just one gap is led to -/
theorem Hold.led_iff (o : l.Ok) (hF : Hold l lo hi f) (h1 : lo ≤ i) (h2 : i ≤ hi) {c d : List Int} (ht : t ≤ (l.cuts lo hi).length) (hc : (risingP l (l.cuts lo hi))[t]? = some c) (hd : (risingP l (l.cuts lo hi))[t + 1]? = some d) :
    LedP l i g f c d ↔ g = l.ll i + (l.passed i ((l.cuts lo hi).take t) : Nat) := by
  have hk := o.hk
  have f1 := hF.lo1
  have l0 := hF.lo0
  have key : ∀ r, f ≤ r → ((0 < l.needed i g → 0 < pvl c r - pvl (restP l.k i (l.needed i g)) r + 1) ↔ g ≤ l.ll i + (l.passed i ((l.cuts lo hi).take t) : Nat)) ∧ (0 < pvl (restP l.k i (l.needed i (g + 1))) r - pvl d r + 1 ↔ l.ll i + (l.passed i ((l.cuts lo hi).take t) : Nat) ≤ g) := fun r hr => by
    obtain ⟨s0, s1, s2, s3⟩ := hF.stretch hr ht hc hd
    exact led_at o (by omega) rfl rfl (hF.turn o hr s0 (by omega) h1 h2 (s3 _ (Int.le_refl _) s1)) (hF.turn o hr (by omega) (by omega) h1 h2 (s3 _ (by omega) (by omega))) (gap_q hk (by omega) (by omega) s0)
  have pos : l.ll i + (l.passed i ((l.cuts lo hi).take t) : Nat) ≤ g → 0 < l.needed i (g + 1) := fun h => by
    obtain ⟨s0, s1, s2, s3⟩ := hF.stretch (Int.le_refl f) ht hc hd
    have tt := hF.turn o (Int.le_refl f) s0 (by omega) h1 h2 (s3 _ (Int.le_refl _) s1)
    have n2 := need_quo (r := f) (s := pvl c f) (i := i) (g := g + 1) o
    rw [tt] at n2
    have q0 := gap_q (i := i) hk (show 1 ≤ f by omega) (by omega) s0
    have q1 : 0 ≤ quo l f i (pvl c f) := q0
    refine Int.not_le.mp fun z => ?_
    have := n2.mp (by omega)
    omega
  constructor
  · rintro ⟨a1, a2, a3⟩
    have k := key f (Int.le_refl _)
    have b1 := k.1.mp fun z => a1 z f (Int.le_refl _)
    have b2 := k.2.mp (a3 f (Int.le_refl _))
    omega
  · intro e
    exact ⟨fun z r hr => (key r hr).1.mpr (by omega) z, pos (by omega), fun r hr => (key r hr).2.mpr (by omega)⟩
theorem trm_of {cs : List Int} (h : cs.getLast? ≠ some 0) : trm cs = cs := pv_uniq (fun r => pv_trm cs r) (trm_last cs) h
theorem cuts_trm (o : l.Ok) : (l.cuts lo hi).map trm = l.cuts lo hi := by
  refine (List.map_congr_left fun p hp => ?_).trans (List.map_id _)
  obtain ⟨i, j, _, _, j1, _, rfl⟩ := cut_form o hp
  exact trm_of (by rw [restE_last]; intro z; cases z; omega)
theorem mapsP_at {cs : List (List Int)} {row : List Int} (h : (mapsP l lo hi cs)[t]? = some row) : t ≤ cs.length ∧ row = mapP l lo hi (cs.take t) := by
  unfold mapsP at h
  rw [List.getElem?_map] at h
  obtain ⟨u, hu, rfl⟩ := Option.map_eq_some_iff.mp h
  have hl := (List.getElem?_eq_some_iff.mp hu).1
  rw [List.length_range] at hl
  rw [List.getElem?_range hl] at hu
  cases hu
  exact ⟨by omega, rfl⟩
theorem mapP_get {ps : List (List Int)} {k : Nat} {gap : Int} (h : (mapP l lo hi ps)[k]? = some gap) : lo + (k : Nat) ≤ hi ∧ gap = l.ll (lo + (k : Nat)) + (l.passed (lo + (k : Nat)) ps : Nat) := by
  unfold mapP rgZ at h
  rw [List.map_map, List.getElem?_map] at h
  obtain ⟨u, hu, rfl⟩ := Option.map_eq_some_iff.mp h
  have hl := (List.getElem?_eq_some_iff.mp hu).1
  rw [List.length_range] at hl
  rw [List.getElem?_range hl] at hu
  cases hu
  exact ⟨by omega, rfl⟩
/-- the steps stay in the window -/
def Stays (l : Lp) (lo hi f : Int) : Prop := ∀ t i, t ≤ (l.cuts lo hi).length → lo ≤ i → i ≤ hi → lo ≤ l.ll i + (l.passed i ((l.cuts lo hi).take t) : Nat) ∧ l.ll i + (l.passed i ((l.cuts lo hi).take t) : Nat) ≤ hi
theorem Hold.tab (o : l.Ok) (hF : Hold l lo hi f) (hS : Stays l lo hi f) : TabP l f lo hi (l.cuts lo hi) (mapsP l lo hi (l.cuts lo hi)) := by
  have er : risT l (l.cuts lo hi) = risingP l (l.cuts lo hi) := by unfold risT; rw [cuts_trm o]
  refine ⟨fun t p q h1 h2 r hr => ?_, fun r hr => ?_, fun t row hrow p q hp hq k gap hk => ?_⟩
  · rw [er] at h1 h2
    have := hF.asc hr t p q h1 h2
    omega
  · have := hF.cond _ (show aboveP (fallP l (hi + 1)) [] ∈ condP l lo hi (l.cuts lo hi) by unfold condP; exact List.mem_append_right _ (List.mem_singleton.mpr rfl)) r hr
    rw [pv_above] at this
    have h' : 0 < pvl (fallP l (hi + 1)) r - 0 + 1 := this
    omega
  · rw [er] at hp hq
    obtain ⟨ht, rfl⟩ := mapsP_at hrow
    obtain ⟨k1, rfl⟩ := mapP_get hk
    have s := hS t (lo + (k : Nat)) ht (by omega) k1
    exact ⟨s.1, s.2, (hF.led_iff o (by omega) k1 ht hp hq).mpr rfl⟩
end
end FWL
namespace FWL
open PySem PySem.Spec PyProof.Rows L2 FW
/-! ### runs by gaps -/
def Lp.gmend (l : Lp) (t : Int) : Int := if (l.mend = "down" ∨ l.mend = "both") ∧ 0 < t then t - 1 else if (l.mend = "up" ∨ l.mend = "both") ∧ t < 0 then t + 1 else t
def Lp.glook (l : Lp) (i : Int) : Bool := if l.stop = "under" then decide (i ≤ 0) else decide (l.stop = "held") && decide (i = 0)
def endG (l : Lp) (m : Int → Int) (b : Option Int) (i : Int) : Option L2.Key :=
  if l.glook i = true then some (.inl (l.gmend i)) else if l.ends i (m i) b = true then some (.inl (l.gmend (l.chosen i (m i)))) else none
def itG (m : Int → Int) (i : Int) : Nat → Int
  | 0 => i
  | j + 1 => m (itG m i j)
def prvG (m : Int → Int) (b : Option Int) (i : Int) : Nat → Option Int
  | 0 => b
  | j + 1 => some (itG m i j)
def endGS (l : Lp) (m : Int → Int) (b : Option Int) (i : Int) (j : Nat) : Option L2.Key := endG l m (prvG m b i j) (itG m i j)
/-- what a run by gaps comes to, and how many rounds it takes -/
def OcG (l : Lp) (m : Int → Int) (b : Option Int) (i : Int) (k : L2.Key) (c : Nat) : Prop :=
  (∃ j, (∀ j', j' < j → endGS l m b i j' = none) ∧ endGS l m b i j = some k ∧ c = j + 1) ∨ (k = .inr "swings" ∧ ∀ j, endGS l m b i j = none)
def shiK (r : Int) : L2.Key → L2.Key
  | .inl i => .inl (r + i)
  | .inr s => .inr s
/-- a map of gaps tells the steps for a number -/
structure MapAt (l : Lp) (n r lo hi : Int) (m : Int → Int) : Prop where
  R : RootOf l.k n r
  lo0 : lo ≤ 0
  hi0 : 0 ≤ hi
  pos : 1 ≤ r + lo
  led : ∀ i, lo ≤ i → i ≤ hi → l.led n (r + i) = r + m i
  win : ∀ i, lo ≤ i → i ≤ hi → lo ≤ m i ∧ m i ≤ hi
section
variable {l : Lp} {n r lo hi : Int} {m : Int → Int}
theorem pow_le_iff {k n r x : Int} (hk : k = 2 ∨ k = 3 ∨ k = 4) (R : RootOf k n r) (hx : 0 ≤ x) : x ^ k.toNat ≤ n ↔ x ≤ r := by
  obtain ⟨r0, h1, h2⟩ := R
  constructor
  · intro h
    refine Int.not_lt.mp fun z => ?_
    have := pow_mono (show 0 ≤ r + 1 by omega) (show r + 1 ≤ x by omega) k.toNat
    omega
  · intro h
    have := pow_mono hx h k.toNat
    omega
theorem look_gap (o : l.Ok) (R : RootOf l.k n r) {i : Int} (hi : 0 ≤ r + i) : l.looks n (r + i) = l.glook i := by
  unfold Lp.looks Lp.glook
  have h1 : decide ((r + i) ^ l.k.toNat ≤ n) = decide (i ≤ 0) := decide_eq_decide.mpr ((pow_le_iff o.hk R hi).trans ⟨fun _ => by omega, fun _ => by omega⟩)
  have h2 : decide (n < (r + i + 1) ^ l.k.toNat) = decide (0 ≤ i) := decide_eq_decide.mpr (by
    have := pow_le_iff (x := r + i + 1) o.hk R (by omega)
    constructor
    · intro h; refine Int.not_lt.mp fun z => ?_; have := this.mpr (by omega); omega
    · intro h; refine Int.not_le.mp fun z => ?_; have := this.mp z; omega)
  rw [h1, h2]
  split
  · rfl
  · congr 1
    rw [← Bool.decide_and]
    exact decide_eq_decide.mpr ⟨fun ⟨_, _⟩ => by omega, fun _ => ⟨by omega, by omega⟩⟩
theorem mend_gap (o : l.Ok) (R : RootOf l.k n r) {t : Int} (ht : 0 ≤ r + t) : l.mended n (r + t) = r + l.gmend t := by
  unfold Lp.mended Lp.gmend
  have h1 : n < (r + t) ^ l.k.toNat ↔ 0 < t := by
    have := pow_le_iff (x := r + t) o.hk R ht
    constructor
    · intro h; refine Int.not_le.mp fun z => ?_; have := this.mpr (by omega); omega
    · intro h; refine Int.not_le.mp fun z => ?_; have := this.mp z; omega
  have h2 : (r + t + 1) ^ l.k.toNat ≤ n ↔ t < 0 := (pow_le_iff o.hk R (by omega)).trans ⟨fun _ => by omega, fun _ => by omega⟩
  by_cases c1 : (l.mend = "down" ∨ l.mend = "both") ∧ 0 < t
  · rw [if_pos c1, if_pos ⟨c1.1, h1.mpr c1.2⟩]; omega
  · rw [if_neg c1, if_neg (fun z => c1 ⟨z.1, h1.mp z.2⟩)]
    by_cases c2 : (l.mend = "up" ∨ l.mend = "both") ∧ t < 0
    · rw [if_pos c2, if_pos ⟨c2.1, h2.mpr c2.2⟩]; omega
    · rw [if_neg c2, if_neg (fun z => c2 ⟨z.1, h2.mp z.2⟩)]
theorem ends_gap (r x y : Int) (b : Option Int) : l.ends (r + x) (r + y) (b.map (r + ·)) = l.ends x y b := by
  unfold Lp.ends
  have e1 : decide (r + x ≤ r + y) = decide (x ≤ y) := decide_eq_decide.mpr ⟨fun _ => by omega, fun _ => by omega⟩
  have e2 : r + x - (r + y) = x - y := by omega
  have e3 : decide (r + y = r + x) = decide (y = x) := decide_eq_decide.mpr ⟨fun _ => by omega, fun _ => by omega⟩
  have e4 : decide (some (r + y) = b.map (r + ·)) = decide (some y = b) := by
    cases b with
    | none => rw [decide_eq_false (fun z => nomatch z), decide_eq_false (fun z => nomatch z)]
    | some w => exact decide_eq_decide.mpr ⟨fun z => by have z := Option.some.inj z; congr 1; dsimp only at z; omega, fun z => by rw [← z]; rfl⟩
  rw [e1, e2, e3, e4]
theorem chosen_gap (r x y : Int) : l.chosen (r + x) (r + y) = r + l.chosen x y := by
  unfold Lp.chosen
  split
  · rfl
  · split
    · rfl
    · split <;> omega
theorem MapAt.endA (M : MapAt l n r lo hi m) (o : l.Ok) {b : Option Int} {i : Int} (h1 : lo ≤ i) (h2 : i ≤ hi) : endA l n (b.map (r + ·)) (r + i) = (endG l m b i).map (shiK r) := by
  have p := M.pos
  obtain ⟨w1, w2⟩ := M.win i h1 h2
  unfold FWL.endA endG
  rw [look_gap o M.R (by omega), mend_gap o M.R (by omega), M.led i h1 h2, ends_gap, chosen_gap, if_neg (show ¬ r + i = 0 by omega)]
  have hc : 0 ≤ r + l.chosen i (m i) := by rcases chosen_or l i (m i) with e | e <;> rw [e] <;> omega
  rw [mend_gap o M.R hc]
  split
  · rfl
  · split <;> rfl
theorem MapAt.itr (M : MapAt l n r lo hi m) {i : Int} (h1 : lo ≤ i) (h2 : i ≤ hi) : ∀ j, itr l n (r + i) j = r + itG m i j ∧ lo ≤ itG m i j ∧ itG m i j ≤ hi
  | 0 => ⟨rfl, h1, h2⟩
  | j + 1 => by
    obtain ⟨e, g1, g2⟩ := MapAt.itr M h1 h2 j
    refine ⟨?_, M.win _ g1 g2⟩
    show l.led n (FWL.itr l n (r + i) j) = _
    rw [e]
    exact M.led _ g1 g2
theorem MapAt.prv (M : MapAt l n r lo hi m) {b : Option Int} {i : Int} (h1 : lo ≤ i) (h2 : i ≤ hi) (j : Nat) : prvS l n (b.map (r + ·)) (r + i) j = (prvG m b i j).map (r + ·) := by
  cases j with
  | zero => rfl
  | succ j => show some (FWL.itr l n (r + i) j) = _; rw [(M.itr h1 h2 j).1]; rfl
theorem MapAt.endS (M : MapAt l n r lo hi m) (o : l.Ok) {b : Option Int} {i : Int} (h1 : lo ≤ i) (h2 : i ≤ hi) (j : Nat) : endS l n (b.map (r + ·)) (r + i) j = (endGS l m b i j).map (shiK r) := by
  obtain ⟨e, g1, g2⟩ := M.itr h1 h2 j
  unfold FWL.endS endGS
  rw [M.prv h1 h2, e]
  exact M.endA o g1 g2
theorem map_none {α β : Type} {f : α → β} {x : Option α} (h : x.map f = none) : x = none := by cases x with | none => rfl | some _ => cases h
/-- a run is the run of its gaps -/
theorem MapAt.oc (M : MapAt l n r lo hi m) (o : l.Ok) {b : Option Int} {i : Int} (h1 : lo ≤ i) (h2 : i ≤ hi) {k : L2.Key} (h : OcS l n (b.map (r + ·)) (r + i) k) : ∃ k' c, k = shiK r k' ∧ OcG l m b i k' c := by
  rcases h with ⟨j, hj, e⟩ | ⟨rfl, hj⟩
  · rw [M.endS o h1 h2] at e
    obtain ⟨k', e', rfl⟩ := Option.map_eq_some_iff.mp e
    exact ⟨k', j + 1, rfl, .inl ⟨j, fun j' h => map_none (f := shiK r) (by rw [← M.endS o h1 h2]; exact hj j' h), e', rfl⟩⟩
  · exact ⟨.inr "swings", 0, rfl, .inr ⟨rfl, fun j => map_none (f := shiK r) (by rw [← M.endS o h1 h2]; exact hj j)⟩⟩
theorem MapAt.co (M : MapAt l n r lo hi m) (o : l.Ok) {b : Option Int} {i : Int} (h1 : lo ≤ i) (h2 : i ≤ hi) {k : L2.Key} {c : Nat} (h : OcG l m b i k c) : OcS l n (b.map (r + ·)) (r + i) (shiK r k) := by
  rcases h with ⟨j, hj, e, _⟩ | ⟨rfl, hj⟩
  · exact .inl ⟨j, fun j' h => by rw [M.endS o h1 h2, hj j' h]; rfl, by rw [M.endS o h1 h2, e]; rfl⟩
  · exact .inr ⟨rfl, fun j => by rw [M.endS o h1 h2, hj j]; rfl⟩
/-! ### the start above the window -/
theorem led_n {n n' x : Int} (o : l.Ok) (hx : 1 ≤ x) (h : n ≤ n') : l.led n x ≤ l.led n' x := by
  have a1 := o.a1; have c1 := o.c1
  have p := pow_pos' hx (l.k - 1).toNat
  have q := Int.ediv_le_ediv (show 0 < x ^ (l.k - 1).toNat by omega) h
  unfold Lp.led
  refine Int.ediv_le_ediv (by omega) ?_
  have := Int.mul_le_mul_of_nonneg_left q (show 0 ≤ l.c by omega)
  omega
theorem near_top (o : l.Ok) : l.near ≤ l.top := by
  have nn := near_cases l
  have hc := o.cases
  have d0 := o.d0; have d1 := o.d1
  unfold Lp.top
  revert nn
  generalize l.near = e
  intro nn
  clear o
  obtain ⟨k, a, c, d, st, td, md⟩ := l
  dsimp only at *
  simp only [List.mem_cons, Prod.mk.injEq, List.not_mem_nil, or_false] at hc
  rcases nn with rfl | rfl | rfl <;> rcases hc with ⟨rfl, rfl, rfl⟩ | ⟨rfl, rfl, rfl⟩ | ⟨rfl, rfl, rfl⟩ | ⟨rfl, rfl, rfl⟩ | ⟨rfl, rfl, rfl⟩ | ⟨rfl, rfl, rfl⟩ | ⟨rfl, rfl, rfl⟩ | ⟨rfl, rfl, rfl⟩ | ⟨rfl, rfl, rfl⟩ | ⟨rfl, rfl, rfl⟩ | ⟨rfl, rfl, rfl⟩ | ⟨rfl, rfl, rfl⟩ | ⟨rfl, rfl, rfl⟩ | ⟨rfl, rfl, rfl⟩ | ⟨rfl, rfl, rfl⟩ | ⟨rfl, rfl, rfl⟩ | ⟨rfl, rfl, rfl⟩
  all_goals omega
/-- the window of a loop is near, where the steps from above it fall by enough -/
theorem MapAt.near (M : MapAt l n r lo l.top m) (o : l.Ok) (hf : l.led n (r + l.top + 1) < r + l.top + 1 - l.near) : Near l n r (r + l.top) (r + l.top) := by
  have tb := top_bound o
  have p := M.pos; have l0 := M.lo0
  refine ⟨by omega, hf, Int.le_refl _, fun _ z z1 z2 => .inl ?_⟩
  have h1 := M.led (z - r) (by omega) (by omega)
  have h2 := M.win (z - r) (by omega) (by omega)
  rw [show r + (z - r) = z by omega] at h1
  omega
theorem MapAt.top (M : MapAt l n r lo l.top m) (o : l.Ok) (hf : l.led n (r + l.top + 1) < r + l.top + 1 - l.near) : ∃ w, r ≤ w ∧ w ≤ r + l.top ∧ ∀ k, OcS l n none (r + l.top + 1) k → OcS l n none w k := by
  have N := M.near o hf
  have R := M.R
  have tb := top_bound o
  have nt := near_top o
  have nn := near_cases l
  have p := M.pos; have l0 := M.lo0
  have n0 : 0 ≤ n := Int.le_trans (Int.pow_nonneg R.r0) R.lo
  obtain ⟨x, hx⟩ : ∃ x, r + l.top + 1 = x := ⟨_, rfl⟩
  rw [hx] at hf ⊢
  have ex := endA_far o R (x := x) (b := none) (by omega) hf (fun b' e => nomatch e)
  have hlo : r - 1 ≤ l.led n x := led_lo1 o R (by omega) (by omega)
  have hy0 : 0 ≤ l.led n x := led_nonneg o n0 (by omega)
  rcases Int.lt_or_le (l.led n x) r with u | u
  · have m1 : l.led n (r + l.top) ≤ l.led n x := led_monoZ o R (by omega) (by omega)
    have m2 : r - 1 ≤ l.led n (r + l.top) := led_lo1 o R (by omega) (by omega)
    have e : l.led n (r + l.top) = l.led n x := by omega
    have ex2 := endA_far o R (x := r + l.top) (b := none) (by omega) (by omega) (fun b' e => nomatch e)
    refine ⟨r + l.top, by omega, Int.le_refl _, fun k hk => (ocS_next ex2).mpr ?_⟩
    rw [e]
    refine ocS_eq ?_ ((ocS_next ex).mp hk)
    by_cases hbk : l.stop = "back"
    · have e0 : ∀ b, l.looks n b = false := fun b => by unfold Lp.looks; rw [hbk]; rfl
      unfold FWL.endA
      simp only [e0, Bool.false_eq_true, if_false]
      by_cases hz : l.led n x = 0
      · rw [if_pos hz, if_pos hz]
      · rw [if_neg hz, if_neg hz]
        have ey : l.led n x = r - 1 := by omega
        have bl := back_low o R (x := x) (by omega) (by omega) (by omega)
        have ee : l.ends (l.led n x) (l.led n (l.led n x)) (some x) = l.ends (l.led n x) (l.led n (l.led n x)) (some (r + l.top)) := by
          unfold Lp.ends
          rw [ey, decide_eq_false (show ¬ some (l.led n (r - 1)) = some x from fun z => by have := Option.some.inj z; omega), decide_eq_false (show ¬ some (l.led n (r - 1)) = some (r + l.top) from fun z => by have := Option.some.inj z; omega)]
        rw [ee]
    · exact endA_nb hbk ..
  · refine ⟨l.led n x, u, by omega, fun k hk => ocS_eq ?_ ((ocS_next ex).mp hk)⟩
    by_cases hbk : l.stop = "back"
    · have hc := N.cl hbk (l.led n x) (by omega) (by omega)
      have ee : l.ends (l.led n x) (l.led n (l.led n x)) (some x) = l.ends (l.led n x) (l.led n (l.led n x)) none := by
        unfold Lp.ends
        rcases hc with hc | hc
        · rw [decide_eq_false (show ¬ some (l.led n (l.led n x)) = some x from fun z => by have := Option.some.inj z; omega), decide_eq_false (show ¬ some (l.led n (l.led n x)) = none from fun z => nomatch z)]
        · rw [decide_eq_true hc, Bool.true_or, Bool.true_or]
      unfold FWL.endA
      rw [ee]
    · exact endA_nb hbk ..
/-- what comes of the gaps from the root to the top of the window -/
def GapP (l : Lp) (m : Int → Int) (hi : Int) (k : L2.Key) : Prop := ∃ i c, 0 ≤ i ∧ i ≤ hi ∧ OcG l m none i k c
/-- all starts come to what the gaps of the window come to -/
theorem MapAt.all (M : MapAt l n r lo l.top m) (o : l.Ok) (hf : l.led n (r + l.top + 1) < r + l.top + 1 - l.near) (k : L2.Key) : Alo l n r k ↔ ∃ k', k = shiK r k' ∧ GapP l m l.top k' := by
  have p := M.pos; have l0 := M.lo0
  have N := M.near o hf
  constructor
  · intro h
    obtain ⟨w, w1, w2, w3⟩ := h.near o M.R N
    have : ∃ w, r ≤ w ∧ w ≤ r + l.top ∧ OcS l n none w k := by
      rcases Int.lt_or_le (r + l.top) w with z | z
      · obtain ⟨w', g1, g2, g3⟩ := M.top o hf
        exact ⟨w', g1, g2, g3 k (by rw [show r + l.top + 1 = w by omega]; exact w3)⟩
      · exact ⟨w, by omega, z, w3⟩
    obtain ⟨w, w1, w2, w3⟩ := this
    obtain ⟨k', c, e, h'⟩ := M.oc o (b := none) (i := w - r) (by omega) (by omega) (k := k) (by rw [show r + (w - r) = w by omega]; exact w3)
    exact ⟨k', e, w - r, c, by omega, by omega, h'⟩
  · rintro ⟨k', rfl, i, c, i0, i1, h⟩
    exact ⟨r + i, by omega, M.co o (b := none) (by omega) i1 h⟩
end
/-! ### the stretches of a table -/
section
variable {l : Lp} {f r s : Int}
theorem win_top0 (o : l.Ok) {i q : Int} (h : i ≤ 0) (hq : q ≤ l.k) : (l.sl * i + l.c * q + l.d) / (l.a + l.c) ≤ l.top := by
  have a1 := o.a1; have c1 := o.c1
  have hs := o.sl0
  have h1 := Int.mul_le_mul_of_nonneg_left h hs.1
  have h2 := Int.mul_le_mul_of_nonneg_left hq (show 0 ≤ l.c by omega)
  have nn := near_cases l
  have hk := o.hk
  have ck : 0 < l.c * l.k := by rcases hk with h | h | h <;> rw [h] <;> omega
  rw [Int.mul_zero] at h1
  have t0 : l.top = 1 + max 0 (l.d + l.near * (l.a + l.c)) / (l.c * l.k) := rfl
  obtain ⟨w, hw⟩ : ∃ w, max 0 (l.d + l.near * (l.a + l.c)) / (l.c * l.k) = w := ⟨_, rfl⟩
  rw [hw] at t0
  have nm : 0 ≤ l.near * (l.a + l.c) := Int.mul_nonneg (by omega) (by omega)
  have w0 : 0 ≤ w := by rw [← hw]; exact Int.ediv_nonneg (by omega) (by omega)
  have w1 : max 0 (l.d + l.near * (l.a + l.c)) < (w + 1) * (l.c * l.k) := by
    rw [← hw]
    exact Int.lt_mul_of_ediv_lt ck (by omega)
  have w2 : (w + 1) * (l.c * l.k) ≤ (w + 1) * (l.a + l.c) := Int.mul_le_mul_of_nonneg_left (by omega) (by omega)
  have h4 : (l.sl * i + l.c * q + l.d) / (l.a + l.c) < w + 2 := by
    rw [Int.ediv_lt_iff_lt_mul (by omega)]
    have : (w + 2) * (l.a + l.c) = (w + 1) * (l.a + l.c) + (l.a + l.c) := by grind
    omega
  omega
end
end FWL
namespace FWL
open PySem PySem.Spec PyProof.Rows L2 FW
section
variable {l : Lp} {lo hi f r s i g : Int} {t : Nat}
theorem Hold.fall (o : l.Ok) (hF : Hold l lo hi f) (h1 : 1 ≤ hi) (hr : f ≤ r) : l.led ((r + 1) ^ l.k.toNat - 1) (r + hi + 1) < r + hi + 1 - l.near := by
  have f1 := hF.lo1
  have l0 := hF.lo0
  have h1 := hF.cond (aboveP (fallP l (hi + 1)) []) (by unfold condP; exact List.mem_append_right _ (List.mem_singleton.mpr rfl)) r hr
  rw [pv_above, fallP_pv] at h1
  have h1 : 0 < (r + (hi + 1 - l.reach)) * (r + (hi + 1)) ^ (l.k - 1).toNat - (r + 1) ^ l.k.toNat - 0 + 1 := h1
  refine fall_of o (by omega) ?_
  rw [show r + hi + 1 - l.reach = r + (hi + 1 - l.reach) by omega, show r + hi + 1 = r + (hi + 1) by omega]
  omega
theorem Hold.stays (o : l.Ok) (hF : Hold l lo hi f) (h1 : lo ≤ l.ll lo) (h2 : l.top ≤ hi) (h3 : 1 ≤ hi) : Stays l lo hi f := by
  intro t i ht i1 i2
  have hk := o.hk
  have f1 := hF.lo1
  have l0 := hF.lo0
  have a1 := o.a1; have c1 := o.c1
  obtain ⟨c, hc⟩ : ∃ c, (risingP l (l.cuts lo hi))[t]? = some c := ⟨_, List.getElem?_eq_getElem (by rw [ris_len]; omega)⟩
  obtain ⟨d, hd⟩ : ∃ c, (risingP l (l.cuts lo hi))[t + 1]? = some c := ⟨_, List.getElem?_eq_getElem (by rw [ris_len]; omega)⟩
  obtain ⟨s0, s1, s2, s3⟩ := hF.stretch (Int.le_refl f) ht hc hd
  have hs : pvl c f < (f + 1) ^ l.k.toNat - f ^ l.k.toNat := by omega
  have tt := hF.turn o (Int.le_refl f) s0 hs i1 i2 (s3 _ (Int.le_refl _) s1)
  have q0 : 0 ≤ quo l f i (pvl c f) := gap_q hk (by omega) (by omega) s0
  rw [← tt]
  refine ⟨?_, ?_⟩
  · unfold Lp.ll at h1
    have g1 := Int.mul_nonneg (show 0 ≤ l.c by omega) q0
    have g2 := Int.mul_le_mul_of_nonneg_left i1 o.sl0.1
    have g3 := Int.ediv_le_ediv (show 0 < l.a + l.c by omega) (show l.sl * lo + l.d ≤ l.sl * i + l.c * quo l f i (pvl c f) + l.d by omega)
    omega
  · rcases Int.lt_or_le 0 i with z | z
    · have R : RootOf l.k (f ^ l.k.toNat + pvl c f) f := ⟨by omega, by omega, by omega⟩
      have step := gap_step (r := f) (i := i) (n := f ^ l.k.toNat + pvl c f) (q := quo l f i (pvl c f)) o rfl
      have e : (l.a - l.c * (l.k - 1)) = l.sl := rfl
      rw [e] at step
      have m1 := led_monoZ o R (x := f + i) (z := f + hi + 1) (by omega) (by omega)
      have m2 := led_n o (x := f + hi + 1) (by omega) (show f ^ l.k.toNat + pvl c f ≤ (f + 1) ^ l.k.toNat - 1 by omega)
      have m3 := hF.fall o h3 (Int.le_refl f)
      have nn := near_cases l
      omega
    · have qm := hF.most o (Int.le_refl f) hs i1 i2
      have hm : l.most i ≤ l.k := by unfold Lp.most; split <;> omega
      have := win_top0 o z (show quo l f i (pvl c f) ≤ l.k by omega)
      omega
/-- needed is small in windows up to three above the top -/
theorem need_100 (o : l.Ok) (h1 : -4 ≤ lo) (h2 : hi ≤ l.top + 3) : ∀ i gap, lo ≤ i → i ≤ hi → lo ≤ gap → gap ≤ hi + 1 → l.needed i gap ≤ 100 := by
  intro i gap i1 i2 g1 g2
  rw [need_le o]
  have nn := near_cases l
  have hc := o.cases
  have d0 := o.d0; have d1 := o.d1
  have t0 : l.top = 1 + max 0 (l.d + l.near * (l.a + l.c)) / (l.c * l.k) := rfl
  have s0 : l.sl = l.a - l.c * (l.k - 1) := rfl
  rw [s0]
  revert nn t0
  generalize l.near = e
  generalize l.top = T at *
  intro nn t0
  clear o s0
  obtain ⟨k, a, c, d, st, td, md⟩ := l
  dsimp only at *
  simp only [List.mem_cons, Prod.mk.injEq, List.not_mem_nil, or_false] at hc
  rcases nn with rfl | rfl | rfl <;> rcases hc with ⟨rfl, rfl, rfl⟩ | ⟨rfl, rfl, rfl⟩ | ⟨rfl, rfl, rfl⟩ | ⟨rfl, rfl, rfl⟩ | ⟨rfl, rfl, rfl⟩ | ⟨rfl, rfl, rfl⟩ | ⟨rfl, rfl, rfl⟩ | ⟨rfl, rfl, rfl⟩ | ⟨rfl, rfl, rfl⟩ | ⟨rfl, rfl, rfl⟩ | ⟨rfl, rfl, rfl⟩ | ⟨rfl, rfl, rfl⟩ | ⟨rfl, rfl, rfl⟩ | ⟨rfl, rfl, rfl⟩ | ⟨rfl, rfl, rfl⟩ | ⟨rfl, rfl, rfl⟩ | ⟨rfl, rfl, rfl⟩
  all_goals omega
end
end FWL
namespace FWL
open PySem PySem.Spec PyProof.Rows L2 FW
/-! ### tables that are refused -/
def rowT (ns : List Int) : PyData := .tuple (ns.map PyData.int)
def tabD (f lo hi : Int) (cs ms : List (List Int)) : PyData := .tuple [.int f, .int lo, .int hi, .tuple (cs.map rowT), .tuple (ms.map rowT)]
theorem rows_T : ∀ cs : List (List Int), RowsD (cs.map rowT) cs
  | [] => .nil
  | c :: cs => .cons rfl (rows_T cs)
theorem tabD_is (f lo hi : Int) (cs ms : List (List Int)) : IsTab (tabD f lo hi cs ms) f lo hi cs ms := ⟨_, _, _, _, rfl, rfl, rfl, rows_T cs, rows_T ms⟩
theorem all_rows (m : Option Int) : ∀ cs : List (List Int), (cs.map rowT).all (rowB · m) = cs.all fun ns => match m with | none => true | some k => decide ((ns.length : Int) = k)
  | [] => rfl
  | c :: cs => by
    have hi : (c.map PyData.int).all isI = true := by
      rw [List.all_eq_true]
      intro x hx
      obtain ⟨n, _, rfl⟩ := List.mem_map.mp hx
      rfl
    rw [List.map_cons, List.all_cons, List.all_cons, all_rows m cs]
    congr 1
    have e : rowB (rowT c) m = ((match m with | none => true | some k => decide ((((c.map PyData.int).length : Nat) : Int) = k)) && (c.map PyData.int).all isI) := rfl
    rw [e, hi, Bool.and_true, List.length_map]
def FormOk (f lo hi : Int) (cs ms : List (List Int)) : Prop := lo ≤ 0 ∧ 1 ≤ hi ∧ 1 ≤ f + lo ∧ ms.length = cs.length + 1 ∧ ∀ row, row ∈ ms → (row.length : Int) = hi - lo + 1
theorem tabD_form {f lo hi : Int} {cs ms : List (List Int)} : formB (tabD f lo hi cs ms) = true ↔ FormOk f lo hi cs ms := by
  have e : formB (tabD f lo hi cs ms) = formR f lo hi (cs.map rowT) (ms.map rowT) := rfl
  rw [e]
  have a1 := all_rows none cs
  have a2 := all_rows (some (hi - lo + 1)) ms
  unfold formR
  rw [a1, a2, List.length_map, List.length_map]
  have t : (cs.all fun ns => true) = true := List.all_eq_true.mpr fun _ _ => rfl
  simp only [Bool.and_eq_true, Bool.not_eq_true', Bool.or_eq_false_iff, decide_eq_false_iff_not, List.all_eq_true, decide_eq_true_eq, Bool.not_eq_false']
  unfold FormOk
  constructor
  · rintro ⟨⟨⟨⟨h1, h2⟩, h3⟩, h4⟩, _, h5⟩
    exact ⟨by omega, by omega, by omega, by omega, h5⟩
  · rintro ⟨h1, h2, h3, h4, h5⟩
    exact ⟨⟨⟨⟨by omega, by omega⟩, by omega⟩, by omega⟩, fun _ _ => trivial, h5⟩
/-- what is_table refuses, what it lets by -/
structure Small (l : Lp) (f lo hi : Int) (cs ms : List (List Int)) : Prop where
  lo1 : -4 ≤ lo
  hi1 : hi ≤ l.top + 3
  sf : Sz 250 f
  zc : ∀ c, c ∈ cs → PZ 7 97 c
  cl : cs.length ≤ 999
  ml : ms.length ≤ 999
  rl : ∀ row, row ∈ ms → row.length ≤ 1000
theorem smD_row {n : Nat} {ns : List Int} (h : ns.length ≤ 1000) : smD n (rowT ns) := by
  cases n with
  | zero => trivial
  | succ n =>
    intro xs e
    cases e
    refine ⟨by rw [List.length_map]; exact h, fun x hx => ?_⟩
    obtain ⟨i, _, rfl⟩ := List.mem_map.mp hx
    cases n with
    | zero => trivial
    | succ n => intro xs e; cases e
theorem smD_at {n : Nat} {d : PyData} {xs : List PyData} (e : seqD d = some xs) (h1 : xs.length ≤ 1000) (h2 : ∀ x, x ∈ xs → smD n x) : smD (n + 1) d := by
  intro ys e'
  rw [e] at e'
  cases e'
  exact ⟨h1, h2⟩
theorem smD_int {n : Nat} {i : Int} : smD n (.int i) := by
  cases n with
  | zero => trivial
  | succ n => intro xs e; cases e
theorem smD_rows {n : Nat} {cs : List (List Int)} (h1 : cs.length ≤ 1000) (h2 : ∀ c, c ∈ cs → c.length ≤ 1000) : smD n (.tuple (cs.map rowT)) := by
  cases n with
  | zero => trivial
  | succ n =>
    refine smD_at rfl (by rw [List.length_map]; exact h1) fun x hx => ?_
    obtain ⟨c, hc, rfl⟩ := List.mem_map.mp hx
    exact smD_row (h2 c hc)
theorem Small.sm {l : Lp} {f lo hi : Int} {cs ms : List (List Int)} (s : Small l f lo hi cs ms) : smD 3 (tabD f lo hi cs ms) := by
  refine smD_at rfl (Nat.le_of_ble_eq_true rfl) fun x hx => ?_
  simp only [List.mem_cons, List.not_mem_nil, or_false] at hx
  rcases hx with rfl | rfl | rfl | rfl | rfl
  · exact smD_int
  · exact smD_int
  · exact smD_int
  · exact smD_rows (by have := s.cl; omega) fun c hc => Nat.le_trans (s.zc c hc).1 (by decide)
  · exact smD_rows (by have := s.ml; omega) s.rl
def Refused (l : Lp) (d : PyData) : Prop := smD 3 d ∧ (formB d = false ∨ ∃ (f lo hi : Int) (cs ms : List (List Int)), formB d = true ∧ IsTab d f lo hi cs ms ∧ Small l f lo hi cs ms ∧ ¬ TabP l f lo hi cs ms)
theorem call_ref {K : PySem.W.Frag} {H : Hp} {Q : VK} {E : XK} {p : Addr} {l : Lp} {v : V} {d : PyData} (hL : IsLp K H p l) (o : l.Ok) (hd : Dt H v d) (h : Refused l d) (q : ∀ H', Ext H H' → Q (.bl false) H') : sp_is_table K [.ref p, v] H Q E := by
  refine ⟨p, l, v, d, rfl, hL, o, hd, h.1, ?_⟩
  have tb := top_bound o
  rcases h.2 with h | ⟨f, lo, hi, cs, ms, h1, h2, h3, h4⟩
  · exact .inl ⟨h, q⟩
  · refine .inr ⟨f, lo, hi, cs, ms, h1, h2, by have := h3.lo1; omega, by have := h3.hi1; omega, h3.sf, h3.zc, need_100 o h3.lo1 h3.hi1, fun k H' e hk => ?_⟩
    cases k with
    | true => exact absurd (hk.mp rfl) h4
    | false => exact q H' e
theorem call_pas {K : PySem.W.Frag} {H : Hp} {Q : VK} {E : XK} {p : Addr} {l : Lp} {v : V} {d : PyData} {f lo hi : Int} {cs ms : List (List Int)} (hL : IsLp K H p l) (o : l.Ok) (hd : Dt H v d) (sm : smD 3 d) (h1 : formB d = true) (h2 : IsTab d f lo hi cs ms) (h3 : Small l f lo hi cs ms) (h4 : TabP l f lo hi cs ms)
    (q : ∀ H', Ext H H' → Q (.bl true) H') : sp_is_table K [.ref p, v] H Q E := by
  refine ⟨p, l, v, d, rfl, hL, o, hd, sm, ?_⟩
  have tb := top_bound o
  refine .inr ⟨f, lo, hi, cs, ms, h1, h2, by have := h3.lo1; omega, by have := h3.hi1; omega, h3.sf, h3.zc, need_100 o h3.lo1 h3.hi1, fun k H' e hk => ?_⟩
  cases k with
  | false => exact absurd (hk.mpr h4) (by decide)
  | true => exact q H' e
theorem tab_ref {l : Lp} {f lo hi : Int} {cs ms : List (List Int)} (s : Small l f lo hi cs ms) (h : FormOk f lo hi cs ms → ¬ TabP l f lo hi cs ms) : Refused l (tabD f lo hi cs ms) := by
  refine ⟨s.sm, ?_⟩
  cases hf : formB (tabD f lo hi cs ms) with
  | false => exact .inl rfl
  | true => exact .inr ⟨f, lo, hi, cs, ms, rfl, tabD_is .., s, h (tabD_form.mp hf)⟩
/-! #### the cuts of rows -/
section
variable {l : Lp} {lo hi f r i : Int} {t at_ : Nat}
theorem cut_row {c : List Int} (h : c ∈ l.cuts lo hi) : ∃ i, lo ≤ i ∧ i ≤ hi ∧ c ∈ l.rowC i := by
  unfold Lp.cuts at h
  obtain ⟨m, hm, hc⟩ := acc_mem.mp ((sortP_perm _).mem_iff.mp h)
  exact ⟨lo + (m : Nat), by omega, by omega, hc⟩
theorem need_mono (o : l.Ok) {g g' : Int} (h : g ≤ g') : l.needed i g ≤ l.needed i g' := by
  have a1 := o.a1; have c1 := o.c1
  rw [need_le o]
  have h1 := (need_le o (i := i) (g := g') (j := l.needed i g')).mp (Int.le_refl _)
  have h2 := Int.mul_le_mul_of_nonneg_right h (show 0 ≤ l.a + l.c by omega)
  omega
theorem rest_mono {k j j' : Int} (hx : 1 ≤ r + i) (h : j ≤ j') : pvl (restP k i j) r ≤ pvl (restP k i j') r := by
  rw [restP_turn, restP_turn]
  have hp : 0 ≤ (r + i) ^ (k - 1).toNat := Int.pow_nonneg (by omega)
  have := Int.mul_le_mul_of_nonneg_left (show r - (k - 1) * i + j ≤ r - (k - 1) * i + j' by omega) hp
  omega
/-- at a cut of its row a gap leads further up -/
theorem Hold.cut_at (o : l.Ok) (hF : Hold l lo hi f) {c : List Int} (hc : (l.cuts lo hi)[t]? = some c) (h1 : lo ≤ i) (h2 : i ≤ hi) (hi' : c ∈ l.rowC i) {G0 G1 : Int} (e0 : G0 = l.ll i + (l.passed i ((l.cuts lo hi).take t) : Nat)) (e1 : G1 = l.ll i + (l.passed i ((l.cuts lo hi).take (t + 1)) : Nat)) :
    G0 < G1 ∧ 0 < l.needed i G1 ∧ ∀ r, f ≤ r → pvl (restP l.k i (l.needed i (G0 + 1))) r = pvl c r ∧ pvl (restP l.k i (l.needed i G1)) r = pvl c r := by
  have hk := o.hk
  have f1 := hF.lo1
  have l0 := hF.lo0
  have hm := passed_more hc (cuts_nodup o lo hi) hi'
  have hlt : G0 < G1 := by omega
  have ht := (List.getElem?_eq_some_iff.mp hc).1
  refine ⟨hlt, ?_, fun r hr => ?_⟩
  · have n1 := need_one o i
    have n2 := need_mono (l := l) (i := i) o (show l.ll i + 1 ≤ G1 by omega)
    omega
  · obtain ⟨b, hb⟩ : ∃ c, (risingP l (l.cuts lo hi))[t]? = some c := ⟨_, List.getElem?_eq_getElem (by rw [ris_len]; omega)⟩
    obtain ⟨d, hd⟩ : ∃ c, (risingP l (l.cuts lo hi))[t + 1 + 1]? = some c := ⟨_, List.getElem?_eq_getElem (by rw [ris_len]; omega)⟩
    have hcr : (risingP l (l.cuts lo hi))[t + 1]? = some c := by rw [ris_at l _ t ht]; exact hc
    obtain ⟨s0, s1, s2, s3⟩ := hF.stretch hr (show t ≤ (l.cuts lo hi).length by omega) hb hcr
    obtain ⟨u0, u1, u2, u3⟩ := hF.stretch hr (show t + 1 ≤ (l.cuts lo hi).length by omega) hcr hd
    have hx : 1 ≤ r + i := by omega
    have t0 := hF.turn o hr (s := pvl c r - 1) (by omega) (by omega) h1 h2 (s3 _ (by omega) (by omega))
    have t1 := hF.turn o hr (s := pvl c r) u0 (by omega) h1 h2 (u3 _ (Int.le_refl _) u1)
    rw [← e0] at t0
    rw [← e1] at t1
    have a1 := need_quo (r := r) (s := pvl c r - 1) (i := i) (g := G0 + 1) o
    have a2 := need_quo (r := r) (s := pvl c r) (i := i) (g := G1) o
    rw [t0] at a1
    rw [t1] at a2
    have b1 := quo_le (l := l) (i := i) (j := l.needed i (G0 + 1)) (s := pvl c r - 1) hx
    have b2 := (quo_le (l := l) (i := i) (j := l.needed i G1) (s := pvl c r) hx).mp (a2.mpr (Int.le_refl _))
    have b3 : ¬ pvl (restP l.k i (l.needed i (G0 + 1))) r ≤ pvl c r - 1 := fun z => by
      have := a1.mp (b1.mpr z)
      omega
    have m1 := rest_mono (k := l.k) (r := r) (i := i) hx (need_mono (l := l) (i := i) o (show G0 + 1 ≤ G1 by omega))
    omega
end
end FWL
namespace FWL
open PySem PySem.Spec PyProof.Rows L2 FW
section
variable {l : Lp} {f : Int}
theorem mapP_len (l : Lp) (lo hi : Int) (ps : List (List Int)) : (mapP l lo hi ps).length = (hi + 1 - lo).toNat := by
  unfold mapP rgZ
  rw [List.length_map, List.length_map, List.length_range]
theorem mapsP_len (l : Lp) (lo hi : Int) (cs : List (List Int)) : (mapsP l lo hi cs).length = cs.length + 1 := by
  unfold mapsP
  rw [List.length_map, List.length_range]
theorem mapsP_get (l : Lp) (lo hi : Int) (cs : List (List Int)) {t : Nat} (h : t ≤ cs.length) : (mapsP l lo hi cs)[t]? = some (mapP l lo hi (cs.take t)) := by
  unfold mapsP
  rw [List.getElem?_map, List.getElem?_range (by omega)]
  rfl
theorem mapsP_row {l : Lp} {lo hi : Int} {cs : List (List Int)} {row : List Int} (h : row ∈ mapsP l lo hi cs) : row.length = (hi + 1 - lo).toNat := by
  obtain ⟨t, ht⟩ := List.mem_iff_getElem?.mp h
  obtain ⟨_, rfl⟩ := mapsP_at ht
  exact mapP_len ..
theorem cut_pz (o : l.Ok) {lo hi : Int} (h1 : -60 ≤ lo) (h2 : hi ≤ 60) {c : List Int} (h : c ∈ l.cuts lo hi) : PZ 4 95 c ∧ 2 ≤ c.length ∧ c.getLast? ≠ some 0 := by
  obtain ⟨i, j, i1, i2, j1, j2, rfl⟩ := cut_form o h
  have hk := o.hk
  have m4 := most4 o i
  have pz := pz_restP (k := l.k) (i := i) (j := j) (by omega) (by omega) (by omega) (by omega) (by omega) (by omega)
  rw [restP_eq hk j1] at pz
  have le := restE_len (k := l.k) (i := i) (j := j) hk
  refine ⟨⟨by omega, pz.2⟩, by omega, ?_⟩
  rw [restE_last]
  intro z
  cases z
  omega
abbrev Lp.C (l : Lp) : List (List Int) := l.cuts l.low l.top
theorem win (o : l.Ok) : -3 ≤ l.low ∧ l.low ≤ 0 ∧ 1 ≤ l.top ∧ l.top ≤ 19 ∧ l.C.length ≤ 400 := by
  have a := low3 o
  have b := o.low0
  have c := top_bound o
  have d := cuts_len o l.low l.top
  refine ⟨a, b.2.1, c.1, c.2, ?_⟩
  show (l.cuts l.low l.top).length ≤ 400
  omega
theorem Small.cuts {lo hi : Int} {cs ms cs' ms' : List (List Int)} (s : Small l f lo hi cs ms) (h1 : ∀ c, c ∈ cs' → c ∈ cs ∨ PZ 7 97 c) (h2 : cs'.length ≤ 999) (h3 : ∀ row, row ∈ ms' → row ∈ ms ∨ row.length ≤ 1000) (h4 : ms'.length ≤ 999) : Small l f lo hi cs' ms' :=
  ⟨s.lo1, s.hi1, s.sf, fun c hc => (h1 c hc).elim (s.zc c) id, h2, h4, fun r hr => (h3 r hr).elim (s.rl r) id⟩
theorem Small.win {lo hi lo' hi' f' : Int} {cs ms : List (List Int)} (s : Small l f lo hi cs ms) (h1 : -4 ≤ lo') (h2 : hi' ≤ l.top + 3) (h3 : Sz 250 f') : Small l f' lo' hi' cs ms := ⟨h1, h2, h3, s.zc, s.cl, s.ml, s.rl⟩
theorem ris_get (l : Lp) (cs : List (List Int)) {t : Nat} (h : t ≤ cs.length + 1) : ∃ c, (risingP l cs)[t]? = some c := ⟨_, List.getElem?_eq_getElem (by rw [ris_len]; omega)⟩
end
end FWL
namespace FWL
open PySem PySem.Spec PyProof.Rows L2 FW
section
variable {l : Lp} {f : Int}
theorem ris_erase (l : Lp) {cs : List (List Int)} {t : Nat} (h : t < cs.length) : risingP l (cs.eraseIdx t) = (risingP l cs).eraseIdx (t + 1) := by
  unfold risingP
  rw [List.eraseIdx_cons_succ, List.eraseIdx_append_of_lt_length h]
theorem risT_of (l : Lp) {cs : List (List Int)} (h : ∀ c, c ∈ cs → c.getLast? ≠ some 0) : risT l cs = risingP l cs := by
  unfold risT
  congr 1
  refine (List.map_congr_left fun p hp => ?_).trans (List.map_id _)
  exact trm_of (h p hp)
end
end FWL
namespace FWL
open PySem PySem.Spec PyProof.Rows L2 FW
section
variable {l : Lp} {f : Int}
theorem reach_top (o : l.Ok) (h : 2 ≤ l.top) : l.k * (l.top - 1) ≤ l.reach := by
  have nn := near_cases l
  have hc := o.cases
  have d0 := o.d0; have d1 := o.d1
  have t0 : l.top = 1 + max 0 (l.d + l.near * (l.a + l.c)) / (l.c * l.k) := rfl
  have r0 : l.reach = (l.d + l.near * (l.a + l.c)) / l.c := rfl
  revert nn t0 r0
  generalize l.near = e
  generalize l.reach = R at *
  generalize l.top = T at *
  intro nn t0 r0
  clear o
  obtain ⟨k, a, c, d, st, td, md⟩ := l
  dsimp only at *
  simp only [List.mem_cons, Prod.mk.injEq, List.not_mem_nil, or_false] at hc
  rcases nn with rfl | rfl | rfl <;> rcases hc with ⟨rfl, rfl, rfl⟩ | ⟨rfl, rfl, rfl⟩ | ⟨rfl, rfl, rfl⟩ | ⟨rfl, rfl, rfl⟩ | ⟨rfl, rfl, rfl⟩ | ⟨rfl, rfl, rfl⟩ | ⟨rfl, rfl, rfl⟩ | ⟨rfl, rfl, rfl⟩ | ⟨rfl, rfl, rfl⟩ | ⟨rfl, rfl, rfl⟩ | ⟨rfl, rfl, rfl⟩ | ⟨rfl, rfl, rfl⟩ | ⟨rfl, rfl, rfl⟩ | ⟨rfl, rfl, rfl⟩ | ⟨rfl, rfl, rfl⟩ | ⟨rfl, rfl, rfl⟩ | ⟨rfl, rfl, rfl⟩
  all_goals omega
theorem fall_less (o : l.Ok) (h : 2 ≤ l.top) {r : Int} (hr : 1 ≤ r) : pvl (fallP l l.top) r + 1 ≤ 0 := by
  have hk := o.hk
  have rt := reach_top o h
  rw [fallP_pv]
  obtain ⟨e, he⟩ : ∃ e, l.top = e + 1 := ⟨l.top - 1, by omega⟩
  obtain ⟨x, hx⟩ : ∃ x, r + l.top = x := ⟨_, rfl⟩
  have e1 : 1 ≤ e := by omega
  have x1 : e + 2 ≤ x := by omega
  have a1 : r + (l.top - l.reach) ≤ x - l.k * e := by rw [show e = l.top - 1 by omega]; omega
  have a2 : r + 1 = x - e := by omega
  have ee : 1 ≤ e * e := Int.mul_pos (by omega) (by omega)
  have xp : 0 ≤ x ^ (l.k - 1).toNat := Int.pow_nonneg (by omega)
  have m1 := Int.mul_le_mul_of_nonneg_right a1 xp
  rw [hx, a2]
  rcases hk with k | k | k <;> rw [k] at m1 ⊢
  · have p1 : (x - 2 * e) * x ^ ((2 : Int) - 1).toNat - (x - e) ^ (2 : Int).toNat = -(e * e) := by
      show (x - 2 * e) * x ^ 1 - (x - e) ^ 2 = _
      grind
    omega
  · have p1 : (x - 3 * e) * x ^ ((3 : Int) - 1).toNat - (x - e) ^ (3 : Int).toNat = -(e * e * (3 * x - e)) := by
      show (x - 3 * e) * x ^ 2 - (x - e) ^ 3 = _
      grind
    have p2 : 1 ≤ e * e * (3 * x - e) := Int.mul_pos (by omega) (by omega)
    omega
  · have p1 : (x - 4 * e) * x ^ ((4 : Int) - 1).toNat - (x - e) ^ (4 : Int).toNat = -(e * e * (2 * (x * x) + (2 * x - e) * (2 * x - e))) := by
      show (x - 4 * e) * x ^ 3 - (x - e) ^ 4 = _
      grind
    have xx : 1 ≤ x * x := Int.mul_pos (by omega) (by omega)
    have yy : 0 ≤ (2 * x - e) * (2 * x - e) := Int.mul_nonneg (by omega) (by omega)
    have p2 : 1 ≤ e * e * (2 * (x * x) + (2 * x - e) * (2 * x - e)) := Int.mul_pos (by omega) (by omega)
    omega
/-- a table whose form fails -/
theorem ref_no {lo hi : Int} {cs ms : List (List Int)} (s : Small l f lo hi cs ms) (h : ¬ FormOk f lo hi cs ms) : Refused l (tabD f lo hi cs ms) := tab_ref s fun z => absurd z h
/-! #### a stretch cut in two -/
end
end FWL
/-! enumerate(range(a, b)) walked -/
namespace PySem
namespace EnR
open PyProof.Rows PySem.W
section
variable {prog : Program} {w : World} {A : Around} {E : Value → Shared → Prop} {s : Shared}
theorem nextOf_range_item {it : Addr} {x left step : Int} {Q : Value → Shared → Prop} (hit : IsRangeIter s.heap it x left step) (hleft : 0 < left)
    (hQ : ∀ h', IsRangeIter h' it (x + step) (left - 1) step → Heap.SameBut it s.heap h' → Q (.int x s.toks) { s with heap := h', toks := s.toks + 1 }) :
    wpAny (model prog w) A (Builtin.SmallTypes.nextOf (.ref it)) Q E s := by
  have hT : s.TypeIs (.ref it) "range_iterator" := ⟨_, hit, rfl⟩
  unfold Builtin.SmallTypes.nextOf
  refine wpAny_bind (wpAny_callSpecial?_slot (name := Str.ofString "__next__") hT F.slot_range_iterator_next
    (call_meets F.slot_range_iterator_next hT F.entry_range_iterator_next (F.args_range_iterator_next_1 _) (AutoRange.range_iterator___next___range_iterator_1 it x left step (by omega)) ⟨hit, ?_⟩))
  exact wpAny_pure (hQ _ (Heap.get?_update_self _ (Heap.get?_update_self _ hit rfl) rfl) ((Heap.SameBut.update ..).trans (Heap.SameBut.update ..)))
theorem nextOf_range_end {it : Addr} {x left step : Int} {Q : Value → Shared → Prop} (hh : A.handled = none) (hit : IsRangeIter s.heap it x left step) (hleft : left ≤ 0)
    (hE : ∀ h' e, Heap.ExtBut it s.heap h' → (∃ o, h'.get? e = some o ∧ o.cls = .type "StopIteration") → E (.ref e) { s with heap := h' }) :
    wpAny (model prog w) A (Builtin.SmallTypes.nextOf (.ref it)) Q E s := by
  have hT : s.TypeIs (.ref it) "range_iterator" := ⟨_, hit, rfl⟩
  unfold Builtin.SmallTypes.nextOf
  refine wpAny_bind (wpAny_callSpecial?_slot (name := Str.ofString "__next__") hT F.slot_range_iterator_next
    (wpAny_call_entry F.slot_range_iterator_next hT F.entry_range_iterator_next ?_ (F.args_range_iterator_next_1 _)))
  show wpAny _ _ (field (.ref it) 0 >>= _) _ _ s
  refine wpAny_bind (wpAny_field hit rfl (x := rawInt x) rfl ?_)
  show wpAny _ _ (field (.ref it) 1 >>= _) _ _ s
  refine wpAny_bind (wpAny_field hit rfl (x := rawInt left) rfl ?_)
  show wpAny _ _ (field (.ref it) 2 >>= _) _ _ s
  refine wpAny_bind (wpAny_field hit rfl (x := rawInt step) rfl ?_)
  show wpAny _ _ (if left ≤ 0 then _ else _) _ _ s
  rw [if_pos hleft]
  refine wpAny_bind (wpAny_rule ?_)
  refine wpAny_bind ?_
  show wpAny _ _ (newExc (.type "StopIteration") [] >>= _) _ _ _
  refine wpAny_bind ?_
  simp only [newExc, newTuple]
  refine wpAny_bind (wpAny_newObj_type ?_ (by size_fits))
  refine wpAny_bind (m := firstArgMember _ _) (wpAny_of_eq (a := Value.none) (by first | rfl | (simp only [firstArgMember]; rfl)) ?_)
  refine wpAny_newObj_type ?_ (by size_fits)
  simp only [raiseNew]
  refine wpAny_bind (wpAny_handled ?_)
  first | rw [show A.in1.handled = none from hh] | rw [hh]
  refine wpAny_bind (wpAny_pure (wpAny_throw ?_))
  exact hE _ _ (((Heap.ExtBut.refl it s.heap).push _).push _) ⟨_, Heap.get?_push_size _ rfl, rfl⟩
theorem draws_range (hh : A.handled = none) (it : Addr) (lo : Int) (n : Nat) :
    Draws prog w A it [it] n (fun i v => ∃ t, v = .int (lo + (i : Nat)) t) (fun i h => IsRangeIter h it (lo + (i : Nat)) ((n : Int) - (i : Nat)) 1) where
  live := fun _ _ st => ⟨_, st⟩
  frame := fun _ _ _ st hk => hk it (by simp) _ st
  item := fun i s Q E hi st hQ => by
    refine nextOf_range_item st (by omega) fun h' hit' hs' => ?_
    refine hQ _ h' (s.toks + 1) ⟨_, rfl⟩ ?_ hs'
    have e1 : lo + ((i + 1 : Nat) : Int) = lo + (i : Int) + 1 := by omega
    have e2 : (n : Int) - ((i + 1 : Nat) : Int) = (n : Int) - (i : Int) - 1 := by omega
    show IsRangeIter h' it (lo + ((i + 1 : Nat) : Int)) ((n : Int) - ((i + 1 : Nat) : Int)) 1
    rw [e1, e2]
    exact hit'
  done := fun s Q E st hE => nextOf_range_end hh st (by omega) hE
theorem begins_range {a b : Int} (sm : Builtin.Range.small a b 1 = true) (r : Addr) (t u v : Tok) : Begins (.ref r) { cls := .type "range_iterator", data := .fields #[rawInt a, rawInt (Builtin.Range.rangeSize a b 1), rawInt 1] } fun h => IsRange h r a b 1 t u v where
  iter := fun prog w A E s Q hr h => wpAny_pyIter_range hr sm h
  keeps := fun h h' x hk => hk r _ x
  free := rfl
theorem call_enumerate_range {r : Addr} {a b : Int} {t u v : Tok} {Q : Value → Shared → Prop} (sm : Builtin.Range.small a b 1 = true) (hr : IsRange s.heap r a b 1 t u v)
    (h : ∀ h', IsEnum h' (s.heap.objs.size + 1) s.heap.objs.size 0 .none → IsRangeIter h' s.heap.objs.size a (Builtin.Range.rangeSize a b 1) 1 → h'.objs.size = s.heap.objs.size + 2 →
      (∀ b o, s.heap.get? b = some o → h'.get? b = some o) → Q (.ref (s.heap.objs.size + 1)) { s with heap := h' }) :
    wpAny (model prog w) A (call (.type "enumerate") [.ref r]) Q E s := by
  refine callType_new F.called_enumerate (by decide) (F.typeCall_enumerate_1 _) (F.newCall_enumerate_1 _) (fun obj => F.args_object_init_2 obj _) F.entry_enumerate_new
    (SeqX.meets_enumerate_newT (begins_range sm r t u v)) ⟨hr, ?_⟩
  have hz : (s.heap.push { cls := .type "range_iterator", data := .fields #[rawInt a, rawInt (Builtin.Range.rangeSize a b 1), rawInt 1] }).objs.size = s.heap.objs.size + 1 := Heap.size_push ..
  show _ ∧ _
  rw [hz]
  have he : IsEnum ((s.heap.push { cls := .type "range_iterator", data := .fields #[rawInt a, rawInt (Builtin.Range.rangeSize a b 1), rawInt 1] }).push
      { cls := .type "enumerate", data := .fields #[.none, .bool false, .ref s.heap.objs.size, rawInt 0, .none, .none] }) (s.heap.objs.size + 1) s.heap.objs.size 0 .none := by
    have := Heap.get?_push_size (s.heap.push { cls := .type "range_iterator", data := .fields #[rawInt a, rawInt (Builtin.Range.rangeSize a b 1), rawInt 1] })
      (o := { cls := .type "enumerate", data := .fields #[.none, .bool false, .ref s.heap.objs.size, rawInt 0, .none, .none] }) rfl
    rw [hz] at this; exact this
  refine ⟨⟨_, he, rfl⟩, h _ he (Heap.get?_push_of_some _ (Heap.get?_push_size _ rfl)) (by rw [Heap.size_push, hz]) fun b o x => Heap.get?_push_of_some _ (Heap.get?_push_of_some _ x)⟩
end
end EnR
end PySem
namespace FW
open PySem PySem.Spec PyProof.Rows L2
section
variable {X : Cx}
def IteR (lo : Int) (n : Nat) : It :=
  ⟨fun i _ => i < n, fun i H v H' => ∃ T, v = .ref T ∧ H T = none ∧ H' = upd H T (.tup [.int (i : Nat), .int (lo + (i : Nat))]), fun i _ => i = n⟩
theorem turn_enumR {P : Program} {w : World} {K : PySem.W.Frag} {elts : List Expr} {kk : Nat} {tpos : Pos} (lo : Int) (n : Nat) (e it : Addr) :
    Turn P w K (.Tuple elts kk tpos) (IteR lo n) [e, it] e (fun i h => (∃ old, IsEnum h e it ((i : Nat) : Int) old) ∧ IsRangeIter h it (lo + (i : Nat)) ((n : Int) - (i : Nat)) 1 ∧ e ≠ it) where
  mem := by simp
  obj := fun i h st b hb => by
    obtain ⟨⟨old, he⟩, ho, _⟩ := st
    have e' : b = e ∨ b = it := by simpa using hb
    rcases e' with z | z
    · rw [z]; exact ⟨_, he, fun v q => nomatch q⟩
    · rw [z]; exact ⟨_, ho, fun v q => nomatch q⟩
  keep := fun i h h' st k => let ⟨⟨old, he⟩, hi, hne⟩ := st; ⟨⟨old, k e (by simp) _ he⟩, k it (by simp) _ hi, hne⟩
  item := by
    intro X hP hw hK hc i pins s σ H E I hf st hg
    subst hP hw hK
    obtain ⟨⟨old, he⟩, hit, hne⟩ := st
    have hel : e < s.heap.objs.size := Heap.lt_size he
    have hil : it < s.heap.objs.size := Heap.lt_size hit
    have hea : e ∉ [it] := by
      intro z
      exact hne (List.mem_singleton.mp z)
    refine wpAny_pyNext_enum_itemD (EnR.draws_range (A := X.A.in1) (show X.A.in1.handled = none from I.ok.hd hc) it lo n) he hit hg hne hea fun y h' tk hy ho hst hT hsz hk => ?_
    have hit' := hst
    obtain ⟨ty, rfl⟩ := hy
    refine ⟨_, rfl, wpAny_letOwnedTupleGo_enum (s := { s with heap := h', toks := tk + 1 }) ho fun h'' he' sb => ?_⟩
    have hT2 : h''.get? s.heap.objs.size = some { cls := .type "tuple", data := .seq #[.int i tk, .int (lo + (i : Nat)) ty] } := (sb.2 _ (Nat.ne_of_gt hel)).trans hT
    have new : ObjOk X.prog X.w (upd H s.heap.objs.size (.tup [.int (i : Nat), .int (lo + (i : Nat))])) h'' s.heap.objs.size (.tup [.int (i : Nat), .int (lo + (i : Nat))]) :=
      ⟨by show 2 ≤ sizeLine; decide, [.int i tk, .int (lo + (i : Nat)) ty], .cons ⟨_, rfl⟩ (.cons ⟨_, rfl⟩ .nil), ⟨_, hT2, rfl, _, rfl⟩⟩
    have I1 : Inv X pins σ (upd H s.heap.objs.size (.tup [.int (i : Nat), .int (lo + (i : Nat))])) { s with heap := h'', toks := tk + 1 } :=
      I.turnedNew (ch := [e, it]) (fun b ob hb q => (sb.2 b (fun z => hb (by simp [z]))).trans (hk b ob (fun z => hb (by simp [z])) (fun z => hb (by simp [z])) q)) hf (Nat.le_refl _) new
    refine ⟨.ref s.heap.objs.size, _, I1, rfl, ⟨_, rfl, I.hok.fresh (Nat.le_refl _), rfl⟩, ⟨⟨.int (lo + (i : Nat)) ty, ?_⟩, (sb.2 it (Ne.symm hne)).trans hit', hne⟩, fun b hb => ?_⟩
    · have e1 : ((i + 1 : Nat) : Int) = (i : Int) + 1 := by omega
      rw [e1]; exact he'
    · have hb' : b < s.heap.objs.size := by
        have e' : b = e ∨ b = it := by simpa using hb
        rcases e' with z | z
        · rw [z]; exact hel
        · rw [z]; exact hil
      rw [upd_ne (Nat.ne_of_lt hb')]
      exact (hf b hb).1
  done := by
    intro X hP hw hK hc i pins s σ H E I hf st hg
    subst hP hw hK
    obtain ⟨⟨old, he⟩, hit, hne⟩ := st
    obtain ⟨f0, f1, f2, f3, f4, f5⟩ := hf it (by simp)
    have hn : i = n := hg
    subst hn
    exact wpAny_pyNext_enum_endD (EnR.draws_range (A := X.A.in1) (show X.A.in1.handled = none from I.ok.hd hc) it lo i) he hit fun h' eb => ⟨rfl, I.turned (t' := s.toks) (fun b o hb q => eb b o hb q) f0 f1 f3 f4 f5⟩
  self := fun A i s Q E st h => let ⟨⟨_, he⟩, _⟩ := st; wpAny_pyIter_enum he h
/-- enumerate(range(a, b)), of small ends -/
def iEnumR (te : L2.St → Hp → (Int → Int → Hp → Prop) → Prop) : TI := fun σ H R => te σ H fun a b H1 => Builtin.Range.small a b 1 = true ∧ R (IteR a (b - a).toNat) H1
theorem pi_enumR {e : Expr} {te : L2.St → Hp → (Int → Int → Hp → Prop) → Prop} {p pos tpos : Pos} {elts : List Expr} {kk : Nat} (hg : Gl X "enumerate") (hm : X.mg "enumerate" = none) (he : PRg X e te) (na : starEach [e] X.env = (false, eval e X.env) :: starEach [] X.env := by rfl) :
    PI X (.Tuple elts kk tpos) (.Call (.Name "enumerate" p) [e] [] pos) (iEnumR te) := by
  refine ⟨fun pins s σ H R I h => Call_ (ld_blt I hg hm boot_enumerate (callWith_type1 (args_cons (thn (he pins s σ H _ I h) fun x s1 ⟨r, a, b, t, u, v, H1, ex, hr, I1, b5, q⟩ => args_nil ?_) na) na))⟩
  subst ex
  refine EnR.call_enumerate_range b5 hr fun h' hen hit hsz hk => wpAny_pyIter_enum hen ?_
  have I2 : Inv X pins σ H1 { s1 with heap := h' } := I1.kept (t' := s1.toks) hk
  refine ⟨s1.heap.objs.size + 1, [s1.heap.objs.size + 1, s1.heap.objs.size], _, _, H1, rfl, I2, turn_enumR a (b - a).toNat (s1.heap.objs.size + 1) s1.heap.objs.size, ⟨⟨.none, hen⟩, ?_, Nat.succ_ne_self _⟩, fun b hb => ?_, q⟩
  · have e2 : (((b - a).toNat : Nat) : Int) - ((0 : Nat) : Int) = Builtin.Range.rangeSize a b 1 := by rw [rangeSize_one]; split <;> omega
    show IsRangeIter h' s1.heap.objs.size (a + ((0 : Nat) : Int)) ((((b - a).toNat : Nat) : Int) - ((0 : Nat) : Int)) 1
    rw [e2, show a + ((0 : Nat) : Int) = a by omega]
    exact hit
  · have e' : b = s1.heap.objs.size + 1 ∨ b = s1.heap.objs.size := by simpa using hb
    have hle : s1.heap.objs.size ≤ b := by
      rcases e' with z | z
      · rw [z]; exact Nat.le_add_right _ _
      · rw [z]; exact Nat.le_refl _
    exact I1.fpOk hle (I1.hok.fresh hle)
theorem i_enumR {te : L2.St → Hp → (Int → Int → Hp → Prop) → Prop} {σ : L2.St} {H : Hp} {R : It → Hp → Prop} (k : te σ H fun a b H1 => Builtin.Range.small a b 1 = true ∧ R (IteR a (b - a).toNat) H1) : iEnumR te σ H R := k
end
end FW
/-! sorted(xs, key=lambda x: e) where x is a name of the def's own as well -/
namespace FWK
open PySem PySem.Spec PySem.W PySem.Calls PyProof.Rows L2 FW LamX FWP
section
variable {X : Cx} {pins : List (Addr × Obj)} {σ : L2.St} {H HJ : Hp} {s : Shared}
/-- f(x), f the lambda, while a built-in runs -/
theorem startM {i0 : Nat} {A : Around} {outer : List Env} {scope : Scope} {x : Str} {f c' : Addr} {v : V} {u : Value} {h2 : Heap} {tk : Nat} (I : Inv X pins σ H s) (L : LamP X.env.scope scope x) (hx : ∀ n, X.N[n]? = some x → n = i0) (e0 : Env0 X.prog X.w X.K X.mg X.base A outer s1 HZ) (hd : A.handled = none)
    (un : Un (frs X.stack) [] H HZ s.heap s1.heap) (hns : h2.Ns s1.heap.objs.size fun y => ([(x, u)] : List (Str × Value)).reverse.lookup y) (rv : RelV v u) (kp : ∀ b o, s1.heap.get? b = some o → h2.get? b = some o) :
    Inv (cxP X A outer s1 HZ scope x f c') [] (σ.set i0 none ++ [some v]) HZ { s1 with heap := h2, toks := tk } := by
  have clo : ∀ {y c}, (cloFrom X.env.cells scope.names []).lookup y = some c → X.env.cells.lookup y = some c := fun {y c} e => by
    rcases cloFrom_mem (PySem.mem_of_lookup e) with z | ⟨z1, z2⟩
    · cases z
    · obtain ⟨c1, hc⟩ := L.cells I.ok _ z1 rfl
      have hc' : X.env.cells.lookup y = some c1 := hc
      have : c = c1 := by rw [z2, hc'] <;> rfl
      rw [this]; exact hc'
  have has : ∀ {y}, scope.names.lookup y = some .free → ∃ c, (cloFrom X.env.cells scope.names []).lookup y = some c := fun {y} hl =>
    mem_lookup (cloFrom_has (cells := X.env.cells) (acc := []) (show (y, NameKind.free) ∈ scope.names from PySem.mem_of_lookup hl))
  have cellK : ∀ {c : Addr} {v : Option Value}, H c = none → s.heap.IsCell c v → h2.IsCell c v := fun {c v} n ⟨o, ho, hd⟩ => by
    obtain ⟨sl, z⟩ := un.any ho n (by simp)
    exact ⟨_, kp _ _ z, hd⟩
  have noA : ∀ b : Addr, b ∉ (cxP X A outer s1 HZ scope x f c').ex := fun b z => absurd (show b ∈ ([] : List Addr) from z) (by simp)
  constructor
  · exact ⟨e0.mod, L.fk, rfl, rfl, Nat.le_refl _, fun y z c e1 e2 => I.ok.inj y z c (clo e1) (clo e2), (fun y hy => (show scope.names.lookup y = some .cell ∨ scope.names.lookup y = some .free from hy).elim (fun z => absurd rfl (L.nocell _ (PySem.mem_of_lookup z))) has), fun y c z _ => (nomatch (show false = true from z)), fun _ => hd, Around.frames_deeper e0.frames, .inr ⟨rfl, rfl⟩, fun b z => absurd z (noA b), e0.bs, e0.bsz, fun b _ _ => noA b, fun b z => absurd z (noA b), e0.funs, e0.frf⟩
  · rfl
  · exact e0.bare
  · exact Un.kept kp
  · refine ⟨_, hns, fun i y w h1 h2 h3 => ?_⟩
    have h1 : (X.N ++ [x])[i]? = some y := h1
    have h3 : Vis scope y := h3
    have hlen := I.len
    rcases Nat.lt_or_ge i X.N.length with hi | hi
    · rw [List.getElem?_append_left hi] at h1
      rw [List.getElem?_append_left (by rw [List.length_set]; omega)] at h2
      have hne : i ≠ i0 := fun z => by
        rw [z, List.getElem?_set_self' ] at h2
        cases q : σ[i0]? <;> rw [q] at h2 <;> cases h2
      rw [List.getElem?_set_ne (fun z => hne z.symm)] at h2
      rcases h3 with z | z | z
      · have : y = x := L.own _ (PySem.mem_of_lookup z) rfl
        rw [this] at h1
        exact absurd (hx i h1) hne
      · exact absurd rfl (L.nocell _ (PySem.mem_of_lookup z))
      · obtain ⟨m, hn, hl⟩ := I.loc
        have cp := L.capt _ (PySem.mem_of_lookup z) rfl
        obtain ⟨w', r, q⟩ := hl i y w h1 h2 (cp.elim (fun k => .inr (.inl k)) (fun k => .inr (.inr k)))
        obtain ⟨c2, hc2⟩ := has z
        have hc1 := clo hc2
        refine ⟨w', r, .inr ⟨.inr z, c2, hc2, ?_⟩⟩
        rcases q with ⟨k', _⟩ | ⟨_, c3, e', zz⟩
        · have k' : X.env.scope.names.lookup y = some .local := k'
          rcases cp with k2 | k2 <;> rw [show X.env.scope.names.lookup y = _ from k2] at k' <;> cases k'
        · rw [hc1] at e'
          cases e'
          exact cellK (I.freeC y _ hc1) zz
    · have hi' : i = X.N.length := by
        have := (List.getElem?_eq_some_iff.mp h1).1
        rw [List.length_append] at this
        simp at this; omega
      rw [hi', List.getElem?_append_right (Nat.le_refl _), Nat.sub_self] at h1
      rw [hi', ← hlen, List.getElem?_append_right (by rw [List.length_set]; omega), List.length_set, Nat.sub_self] at h2
      cases h1
      cases h2
      exact ⟨u, rv, .inl ⟨L.par, by show ([(x, u)] : List (Str × Value)).reverse.lookup x = some u; simp⟩⟩
  · intro y c e
    obtain ⟨w', z⟩ := I.cell y c (clo e)
    exact ⟨w', cellK (I.freeC y c (clo e)) z⟩
  · exact e0.hok.fresh (Nat.le_refl _)
  · intro y c e
    obtain ⟨v, o, ho, hd⟩ := I.cell y c (clo e)
    exact un.free c o ho (I.freeC y c (clo e)) (by simp)
  · exact fun p hp => absurd (show p ∈ ([] : List (Addr × Obj)) ++ [] from hp) (by simp)
  · exact e0.hok.kept kp
  · show (σ.set i0 none ++ [some v]).length = (X.N ++ [x]).length
    rw [List.length_append, List.length_append, List.length_set, I.len]; rfl
theorem call_lamM {i0 : Nat} {A : Around} {f c' : Addr} {pm ctv : Value} {params : Arguments} {body : Expr} {scope : Scope} {x : Str} {k : Nat} {tb : TE} {v : V} {u : Value} {Q : VK} {R : Value → Shared → Prop}
    (I : Inv X pins σ H s) (L : LamP X.env.scope scope x) (hx : ∀ n, X.N[n]? = some x → n = i0) (mask : ∀ (σ : L2.St) (v : V) (H : Hp) (Q : VK), tb (σ ++ [some v]) H Q → tb (σ.set i0 none ++ [some v]) H Q) (hr : Room (k + 1) A) (hfr : A.frames = X.A.frames) (hf : s.heap.get? f = some (PySem.W.kla_obj "<lambda>" (X.env.qual ++ "<lambda>") params body scope (cloFrom X.env.cells scope.names []) pm c' ctv))
    (hc' : H c' = some (CodeO c' (X.env.qual ++ "<lambda>")))
    (hbind : ∀ u : Value, bindArgs (PySem.W.kla_fn "<lambda>" (X.env.qual ++ "<lambda>") params body scope (cloFrom X.env.cells scope.names []) pm (.ref c') ctv) ⟨[u], []⟩ = pure [(x, u)])
    (hbody : ∀ (A : Around) (outer : List Env) (s : Shared) (H : Hp), Room k (A.deeper (lamEnv X scope s.heap.objs.size f c')) → PE (cxP X A outer s H scope x f c') body tb)
    (rv : RelV v u) (ht : tb (σ ++ [some v]) H Q) (hq : ∀ w H' u' s', Inv X pins σ H' s' → (∀ b o, s.heap.get? b = some o → H b = none → b ∉ frs X.stack → s'.heap.get? b = some o ∧ H' b = none) → RelV w u' → Q w H' → R u' s') : wpAny (model X.prog X.w) A (call (.ref f) [u]) R (fun _ _ => False) s := by
  have e0 : Env0 X.prog X.w X.K X.mg X.base A X.stack s H := by
    have e := I.env0
    exact ⟨by rw [hfr]; exact e.frames, e.mod, e.bs, e.bsz, e.funs, e.frf, e.hok, e.bare⟩
  refine wpAny_call ?_
  obtain ⟨⟨oc, ws, t, hoc, hdc, hvc⟩, _, _⟩ := I.hok c' _ hc'
  have ran : codeAny (model X.prog X.w) A (.call (.ref f) ⟨[u], []⟩) (CR (L2.CX X.prog X.w) X.stack X.prog X.w H s Q E0) s := by
    refine PySem.W.kla_callFunE hr.depth hf rfl L.noco L.nogen rfl ⟨c', oc, ws, t, rfl, hoc, hdc, hvc⟩ ?_
    rw [hbind]
    refine wpAny_pure (wpAny_newFunctionEnv (fun y hy => L.nocell y hy) (fun y hy => by rw [List.mem_singleton.mp hy]; exact L.par) (fun h2 hns hsb => ⟨I.nolimit.fresh _ hsb, ?_⟩) L.fk)
    show codeAny _ _ (.expr body (lamEnv X scope s.heap.objs.size f c')) _ _
    have J0 := startM (f := f) (c' := c') (tk := s.toks + ([(x, u)] : List (Str × Value)).length) I L hx e0 hr.hd Un.refl hns rv (fun b o e => hsb.extBut b o (Nat.ne_of_lt (Heap.lt_size e)) (Heap.get?_push_of_some _ e))
    refine PySem.W.kla_codeExpr (wpAny_mono ((hbody _ _ s H (hr.deeper _)).run [] _ _ H Q J0 (mask _ _ _ _ ht)) ?_ fun e s' hq => ?_)
    · rintro v s' ⟨w', H', J', rv, q⟩
      exact ⟨w', H', J'.os, J'.bare, J'.base, J'.hok, rv, q⟩
    · exact hq
  refine codeAny_mono ran fun r s' hz => ?_
  match r, hz with
  | .error e, hz => 
    obtain ⟨_, _, _, _, _, _, _, _, _, _, _, _, z⟩ := hz
    exact z
  | .ok (.ret u), hz =>
    obtain ⟨w, H', os, bare, un, hok, rw', q⟩ := hz
    obtain ⟨g1, g2, g3, g4, g5⟩ := s'
    obtain rfl : g5 = s.os := os
    have I' := I.call (g' := g2) (h' := g1) (t' := g4) (d' := g3) (ch := []) un hok bare (fun b y => absurd y (by simp))
    exact hq w H' u _ I' (fun b o e1 e2 e3 => ⟨un.keep b o e1 e2 e3 (by simp), un.free b o e1 e2 (by simp)⟩) rw' q
  | .ok .next, hz => exact False.elim hz
  | .ok .brk, hz => exact False.elim hz
  | .ok .cont, hz => exact False.elim hz
theorem mask_at (σ : L2.St) (o : Option V) {i j : Nat} (h : j ≠ i) : (σ.set i none ++ [o])[j]? = (σ ++ [o])[j]? := by
  rcases Nat.lt_or_ge j σ.length with q | q
  · rw [List.getElem?_append_left (by rw [List.length_set]; exact q), List.getElem?_append_left q, List.getElem?_set_ne (fun z => h z.symm)]
  · rw [List.getElem?_append_right (by rw [List.length_set]; exact q), List.getElem?_append_right q, List.length_set]
theorem _root_.FW.u65 {j : Nat} {A : Around} (hr : Room j A) : A.units + 65 < cLine := by have := hr.un; omega
theorem only_at {N : List Str} {x : Str} {i : Nat} (h : ((List.range N.length).all fun n => !decide (N[n]? = some x) || n == i) = true) : ∀ n, N[n]? = some x → n = i := fun n hn => by
  have hl := (List.getElem?_eq_some_iff.mp hn).1
  have := List.all_eq_true.mp h n (List.mem_range.mpr hl)
  rw [decide_eq_true hn] at this
  simpa using this
theorem pe_sortKeyM {i0 : Nat} {T : List (Addr × Str)} {x : Str} {c P : Addr} {k j : Nat} {params : Arguments} {e body : Expr} {scope : Scope} {ta tb : TE} {p lpos kpos pos : Pos} (hcalm : X.calm = true) (hg : Gl X "sorted") (hmS : X.mg "sorted" = none) (he : PE X e ta)
    (TB : TabB X.base X.mg c P) (hcode : X.env.code = .ref c) (hmT : (P, X.env.qual ++ "<lambda>") ∈ T) (hu : ∀ p ∈ T, p.1 = P → p.2 = X.env.qual ++ "<lambda>") (hr : Room j X.A) (hk : k + 4 ≤ j) (L : LamP X.env.scope scope x) (hx0 : ∀ n, X.N[n]? = some x → n = i0) (mask : ∀ (σ : L2.St) (v : V) (H : Hp) (Q : VK), tb (σ ++ [some v]) H Q → tb (σ.set i0 none ++ [some v]) H Q) (hdef : defaultsOf params X.env = ([], []))
    (hbind : ∀ (q : Str) (cl : List (Str × Addr)) (pm cv ctv u : Value), bindArgs (PySem.W.kla_fn "<lambda>" q params body scope cl pm cv ctv) ⟨[u], []⟩ = pure [(x, u)])
    (hbody : ∀ (A : Around) (outer : List Env) (s : Shared) (H : Hp) (f c' : Addr), Room k (A.deeper (lamEnv X scope s.heap.objs.size f c')) → PE (cxP X A outer s H scope x f c') body tb)
    (hst : backTo pos (starEach [e] X.env) = (false, eval e X.env) :: backTo pos (starEach [] X.env) := by rfl) (hpl : (backTo pos (starEach [e] X.env)).any (·.1) = false := by rfl)
    (hall : (backToKw pos (keywordEach [⟨some "key", .Lambda params body scope lpos, kpos⟩] X.env)).all (·.1.isSome) = true := by rfl) (hnone : (backToKw pos (keywordEach [⟨some "key", .Lambda params body scope lpos, kpos⟩] X.env)).any (·.1.isNone) = false := by rfl) :
    PE X (.Call (.Name "sorted" p) [e] [⟨some "key", .Lambda params body scope lpos, kpos⟩] pos) (tSortKey T X.K ta tb) := by
  refine ⟨fun pins s σ H Q I h => ?_⟩
  refine wpAny_Call_Name_kw (ld_blt I hg hmS (show bootBuiltins "sorted" = some (.builtin "sorted") by decide +kernel) ?_)
  refine PyProof.Rows.callWith_kw ?_ hst hpl hall hnone
  rw [hst]
  refine Calls.spliced_cons (thn (he.run pins s σ H _ I h) ?_)
  rintro u1 s1 ⟨v1, H1, I1, r1, l, xs, kd, rfl, hl, xl, al, srt, dep, hT, q⟩
  obtain rfl : u1 = Value.ref l := r1
  refine Calls.spliced_nil ?_
  show wpAny _ _ (evalAll ((do let v ← eval (.Lambda params body scope lpos) X.env; standAt pos; pure v) :: [])) _ _ s1
  refine wpAny_evalAll_cons (wpAny_bind (lam_make2 I1 TB hcode hmT hu hT hdef (fun y hy e => L.cells I.ok y hy e) fun f c' pm ctv H2 s2 I2 eN T2 hf hfn hfr hco => wpAny_bind (wpAny_standAt (wpAny_pure (wpAny_evalAll_nil ?_)))))
  show wpAny (model X.prog X.w) X.A (call (.builtin "sorted") [.ref l] [(Str.ofString "key", .ref f)]) (EP X pins σ Q) X.xe s2
  obtain ⟨qb, q⟩ := q H2 eN T2
  have hl2 : SqL X.K H2 l xs := FW.extN_sqL eN hl
  obtain ⟨its, rv, pl, hz⟩ := I2.list hl2
  have il : its.length = xs.length := rv.length.symm
  have a0 : s2.heap.objs.size ≤ s2.heap.objs.size + 1 := Nat.le_succ _
  have fl : f < s2.heap.objs.size := Heap.lt_size hf
  refine sorted_of_sort pl.isList (by omega) (ksk_s1 _ _) (fun _ => ksk_l1 _ _) fun E' => ?_
  rw [ksk_t1]
  refine tree2 (s := { s2 with heap := copyHeap s2.heap its }) (copyHeap_at s2.heap its) (by omega) fun cc m g tk hca hcs hkeep hcc haa => ?_
  have ac : s2.heap.objs.size + 1 < (copyHeap s2.heap its).objs.size := Heap.lt_size (copyHeap_at s2.heap its)
  have cs : s2.heap.objs.size ≤ cc := Nat.le_trans (Nat.le_of_lt (Nat.lt_of_succ_lt ac)) hcs
  have ca : s2.heap.objs.size + 1 ≠ cc := fun z => hca z.symm
  have old : ∀ b u, s2.heap.get? b = some u → g.get? b = some u := fun b u e => hkeep b u (Nat.ne_of_lt (Nat.lt_succ_of_lt (Heap.lt_size e))) (copyHeap_old e)
  have fa : s2.heap.objs.size + 1 ≠ f := fun z => absurd fl (by rw [← z]; exact Nat.not_lt.mpr a0)
  have fc : cc ≠ f := fun z => absurd fl (by rw [← z]; exact Nat.not_lt.mpr cs)
  have xsc : cc ∉ frs X.stack := fresh_frs I2 cs
  have xsa : s2.heap.objs.size + 1 ∉ frs X.stack := fresh_frs I2 a0
  have room := ((hr.mono (show k + 3 ≤ j by omega)).in1).in1
  refine keys_made (fun n us t => us.length = n ∧ ∃ Hj qn, Inv X pins σ Hj t ∧ FW.Ext H2 Hj ∧ KeysAt X.K Hj us ((xs.map kd).take n) ∧ t.heap.get? cc = some (seqObj "list" us.toArray qn) ∧ t.heap.get? (s2.heap.objs.size + 1) = some (seqObj "list" #[] m) ∧
      t.heap.get? f = some (PySem.W.kla_obj "<lambda>" (X.env.qual ++ "<lambda>") params body scope (cloFrom X.env.cells scope.names []) pm c' ctv) ∧ Hj cc = none ∧ Hj (s2.heap.objs.size + 1) = none ∧ Hj f = none)
    (by omega) ⟨rfl, H2, 0, I2.kept old, FW.Ext.rfl', by rw [List.take_zero]; exact EachIs.nil, hcc, haa, old _ _ hf, I2.hok.fresh cs, I2.hok.fresh a0, hfn⟩ (fun _ _ _ h => h.1) ?_ ?_
  · rintro n u us t hx ⟨hlen, Hj, qn, J, e, ka, k1, k2, k3, n1, n2, n3⟩
    obtain ⟨y, hy, ry⟩ := vals_get rv hx
    refine call_lamM J L hx0 mask room rfl k3 (e _ _ hco) (hbind _ _ _ _ _) (fun A outer s H hr' => hbody A outer s H f c' hr') ry (qb y (List.mem_of_getElem? hy) Hj e) fun w H' u' t2 J' kp rw' q' => ?_
    obtain ⟨e', dw⟩ := q'
    have c2 := kp cc _ k1 n1 xsc
    have a2 := kp _ _ k2 n2 xsa
    have f2 := kp f _ k3 n3 hfr
    have b1 := Heap.SameBut.update t2.heap cc (Obj.mapSeq (·.push u'))
    obtain ⟨q2, hq2⟩ : ∃ q2, (t2.heap.update cc (Obj.mapSeq (·.push u'))).get? cc = some (seqObj "list" (us.toArray.push u') q2) := ⟨_, get?_update_seq c2.1 (·.push u')⟩
    have ek : (xs.map kd).take (n + 1) = (xs.map kd).take n ++ [kd y] := by rw [List.take_add_one, List.getElem?_map, hy]; rfl
    have ea : (us ++ [u']).toArray = us.toArray.push u' := by simp
    refine ⟨⟨qn, c2.1⟩, by rw [List.length_append, hlen]; rfl, H', q2, J'.turnedL (ch := [cc]) (fun b o hb q => (b1.2 b (fun z => hb (by rw [z]; exact List.mem_cons_self))).trans q) (fun b hb => by rw [List.mem_singleton.mp hb]; exact I2.fpOk cs c2.2), e.tr e', ?_, by rw [ea]; exact hq2, (b1.2 _ ca).trans a2.1, (b1.2 _ fc.symm).trans f2.1, c2.2, a2.2, f2.2⟩
    rw [ek]
    exact each_snoc ⟨w, rw', dw⟩ (ka.ext e')
  · rintro us t ⟨hlen, Hj, qn, J, e, ka, k1, k2, k3, n1, n2, n3⟩
    have et : (xs.map kd).take its.length = xs.map kd := List.take_of_length_le (by rw [List.length_map]; omega)
    rw [et] at ka
    have er : EachIs (fun v d => ∃ as, Reads t.heap v d as) us (xs.map kd) := ka.mono fun v d ⟨w, r, dq⟩ => Dp.reads J d w v dq r
    have S := SortsAt.data (prog := X.prog) (w := X.w) (A := X.A.in1.in1) (s := t) er al srt (fun d hd => by
      obtain ⟨x, hx, rfl⟩ := List.mem_map.mp hd
      have := dep x hx
      have := room.un
      omega)
    refine ⟨⟨qn, k1⟩, end2 (κ := dataKind t.heap (xs.map kd)) k1 k2 hca (by rw [List.toList_toArray]; exact S) (by rw [List.size_toArray]; exact hlen) (by omega) fun h' tk' qq b2 hh => ⟨rfl, ?_⟩⟩
    rw [List.toList_toArray] at hh
    have ho : KeyedOut false (xs.map kd) its (sortVals (dataKind t.heap (xs.map kd)) false us its) := ⟨t.heap, us, al, rfl, er⟩
    have hv := vals_each (keyedOut_each kd ho (each_vals rv))
    have J2 : Inv X pins σ Hj { t with heap := h', toks := tk' } := J.turnedL (ch := [s2.heap.objs.size + 1, cc]) (fun b o hb q => b2 b o (fun z => hb (by rw [z]; exact List.mem_cons_self)) (fun z => hb (by rw [z]; exact List.mem_cons_of_mem _ List.mem_cons_self)) q) (fun b hb => by
      rcases List.mem_cons.mp hb with z | z
      · rw [z]; exact I2.fpOk a0 n2
      · rw [List.mem_singleton.mp z]; exact I2.fpOk cs n1)
    have J3 := track (o := .lst (xs.mergeSort (dataLe false kd))) J2 (I2.fpOk a0 n2) (Nat.le_trans I2.sz a0) ⟨by rw [List.length_mergeSort, sizeLine_eq]; omega, _, qq, hv, hh⟩
    exact ⟨.ref _, _, J3, rfl, q _ _ (e.upds (I2.hok.fresh a0)) (I2.hok.fresh a0) upd_same⟩
end
end FWK
namespace FWL
open PySem PySem.Spec PyProof.Rows L2 FW
set_option hygiene false in
local macro_rules | `(tactic| walk_at "rv") => `(tactic| (have nt := (); have nz := (); have nH := (); have ne := (); have nh := ()))
/-! ### k13: tables spoilt -/
def ExtT (H H' : Hp) : Prop := ∀ a xs, H a = some (.tup xs) → H' a = some (.tup xs)
theorem ExtT.of {H H' : Hp} (e : Ext H H') : ExtT H H' := fun a xs h => e _ _ h
theorem ExtT.tr {H H1 H2 : Hp} (a : ExtT H H1) (b : ExtT H1 H2) : ExtT H H2 := fun x xs h => b _ _ (a _ _ h)
theorem ExtT.ofB {H H' : Hp} {p : Addr} {n : Nat} (s : Strm H p n) (e : ExtB p H H') : ExtT H H' := fun a xs h => by
  obtain ⟨_, _, _, hp, _⟩ := s
  exact e _ _ (ne_of h hp (fun z => nomatch z)) h
theorem Pls.extT {H H' : Hp} {xs : List V} {ps : List (List Int)} (h : Pls H xs ps) (e : ExtT H H') : Pls H' xs ps := Paired.mapP h fun _ _ ⟨a, g1, g2⟩ => ⟨a, g1, e _ _ g2⟩
theorem TabAt.extT {H H' : Hp} {t : Addr} {l : Lp} {f : Int} (h : TabAt H t l f) (e : ExtT H H') : TabAt H' t l f := by
  obtain ⟨tc, tm, xs, ys, h1, h2, h3, h4, h5⟩ := h.ex
  exact ⟨tc, tm, xs, ys, e _ _ h1, e _ _ h2, h3.extT e, e _ _ h4, h5.extT e⟩
theorem pls_dt {H : Hp} : ∀ {xs : List V} {ps : List (List Int)}, Pls H xs ps → DtAll H xs (ps.map rowT)
  | _, _, .nil => .nil
  | _, p :: _, .cons ⟨a, e, h⟩ r => by
    rw [e]
    exact .cons (.tup h (dt_ints p)) (pls_dt r)
where dt_ints {H : Hp} : ∀ ns : List Int, DtAll H (ns.map V.int) (ns.map PyData.int)
  | [] => .nil
  | n :: ns => .cons (.int n) (dt_ints ns)
theorem tab_dt {H : Hp} {q tc tm : Addr} {f lo hi : Int} {xs ys : List V} {cs ms : List (List Int)} (h : H q = some (.tup [.int f, .int lo, .int hi, .ref tc, .ref tm])) (hc : H tc = some (.tup xs)) (px : Pls H xs cs) (hm : H tm = some (.tup ys)) (py : Pls H ys ms) : Dt H (.ref q) (tabD f lo hi cs ms) :=
  .tup h (.cons (.int f) (.cons (.int lo) (.cons (.int hi) (.cons (.tup hc (pls_dt px)) (.cons (.tup hm (pls_dt py)) .nil)))))
theorem pls_set {H : Hp} : ∀ {xs : List V} {ps : List (List Int)} {a : Addr} {p : List Int} (i : Nat), Pls H xs ps → H a = some (.tup (p.map V.int)) → Pls H (xs.set i (.ref a)) (ps.set i p)
  | _, _, a, p, i, .nil, _ => .nil
  | _, _, a, p, 0, .cons _ r, h => .cons ⟨a, rfl, h⟩ r
  | _, _, a, p, i + 1, .cons x r, h => .cons x (pls_set i r h)
theorem pls_at {H : Hp} : ∀ {xs : List V} {ps : List (List Int)} {i : Nat}, Pls H xs ps → i < ps.length → ∃ a p, xs[i]? = some (.ref a) ∧ ps[i]? = some p ∧ H a = some (.tup (p.map V.int))
  | _, _, i, .nil, h => absurd h (Nat.not_lt_zero i)
  | _, _, 0, .cons ⟨a, e, h⟩ _, _ => ⟨a, _, by rw [e]; rfl, rfl, h⟩
  | _, _, i + 1, .cons _ r, h => pls_at (i := i) r (Nat.lt_of_succ_lt_succ h)
section
variable {K : PySem.W.Frag} {H : Hp} {σ : L2.St} {Q : VK} {t : Addr} {xs ys : List V} {n i : Nat}
theorem cut_toA (h : n ≤ xs.length) : cutV xs none (some ((n : Nat) : Int)) = xs.take n := cutV_take xs n
theorem cut_fromA (h : n ≤ xs.length) : cutV xs (some ((n : Nat) : Int)) none = xs.drop n := by
  unfold cutV
  rw [HT.sIx_none, HT.sIx_nat, Nat.min_eq_left h]
  exact List.take_of_length_le (by rw [List.length_drop]; omega)
theorem sl_to {R : VK} (ht : H t = some (.tup xs)) (hl : n ≤ xs.length) (k : ∀ q H', Ext H H' → H' q = some (.tup (xs.take n)) → R (.ref q) H') : rSlA K (.ref t) none (some ((n : Nat) : Int)) H R := by
  refine ⟨t, xs, rfl, SqT.of ht, fun z => ?_, fun _ p hp => ?_⟩
  · have e : HT.sIx xs.length xs.length (some ((n : Nat) : Int)) = n := by rw [HT.sIx_nat]; omega
    have : n = xs.length := e.symm.trans z.2
    exact k t H Ext.rfl' (by rw [this, List.take_length]; exact ht)
  · rw [cut_toA hl]
    exact k p _ (Ext.new hp) upd_same
theorem sl_from {R : VK} (ht : H t = some (.tup xs)) (hl : n ≤ xs.length) (k : ∀ q H', Ext H H' → H' q = some (.tup (xs.drop n)) → R (.ref q) H') : rSlA K (.ref t) (some ((n : Nat) : Int)) none H R := by
  refine ⟨t, xs, rfl, SqT.of ht, fun z => ?_, fun _ p hp => ?_⟩
  · have e : HT.sIx xs.length 0 (some ((n : Nat) : Int)) = n := by rw [HT.sIx_nat]; omega
    have : n = 0 := e.symm.trans z.1
    exact k t H Ext.rfl' (by rw [this, List.drop_zero]; exact ht)
  · rw [cut_fromA hl]
    exact k p _ (Ext.new hp) upd_same
theorem cat_A {a b : Addr} (ha : H a = some (.tup xs)) (hb : H b = some (.tup ys)) (hz : xs.length + ys.length ≤ 100000) (k : ∀ q H', Ext H H' → H' q = some (.tup (xs ++ ys)) → Q (.ref q) H') : rCatA K (.ref a) (.ref b) H Q := by
  refine ⟨a, b, xs, ys, rfl, rfl, SqT.of ha, SqT.of hb, by rw [sizeLine_eq]; omega, fun z => ?_, fun _ z => ?_, fun _ _ p hp => k p _ (Ext.new hp) upd_same⟩
  · rw [z, List.nil_append] at k
    exact k b H Ext.rfl' hb
  · rw [z, List.append_nil] at k
    exact k a H Ext.rfl' ha
end
theorem set_cut {α : Type} (xs : List α) {n : Nat} (h : n < xs.length) (x : α) : xs.take n ++ [x] ++ xs.drop (n + 1) = xs.set n x := by
  rw [List.set_eq_take_append_cons_drop, if_pos h, List.append_assoc]; rfl
end FWL
namespace FWL
open PySem PySem.Spec PyProof.Rows L2 FW
set_option hygiene false in
local macro_rules | `(tactic| walk_at "rv") => `(tactic| (have nt := (); have nz := (); have nH := (); have ne := (); have nh := ()))
/-! ### k15: what the law reckons itself -/
/-! ### the law's own window -/
def sp_l_window (K : PySem.W.Frag) : Sp := fun vs H Q _ => ∃ (t : Addr) (l : Lp), vs = [.ref t] ∧ H t = some (.tup l.V) ∧ l.Ok ∧ ∀ a H', Ext H H' → H' a = some (.tup ([l.low, l.top].map V.int)) → Q (.ref a) H'
def rd_l_window_L1 (K : PySem.W.Frag) : TS := tPar 8 9 (tCons (tVar 9) (tCons (tOp FW.rDiv (tOp FW.rAdd (tOp FW.rMul (tOp FW.rSub (tVar 2) (tOp FW.rMul (tVar 3) (tOp FW.rSub (tVar 1) (tC (.int 1))))) (tVar 9)) (tVar 4)) (tOp FW.rAdd (tVar 2) (tVar 3))) (tNil)))
def rd_l_window (K : PySem.W.Frag) : TS := tSeq (tAsg (tVar 0) (gTup K 7 (gCons (gName 1) (gCons (gName 2) (gCons (gName 3) (gCons (gName 4) (gCons (gName 5) (gCons (gName 6) (gCons (gName 7) (gNil)))))))))) (tSeq (tPar 8 9 (tCons (tC (.int 0)) (tCons (tOp FW.rDiv (tVar 4) (tOp FW.rAdd (tVar 2) (tVar 3))) (tNil)))) (tSeq (tWhile (tTest (tOp FW.rLt (tVar 9) (tVar 8))) (rd_l_window_L1 K)) (tRet (tTup (tCons (tVar 8) (tCons (tOp FW.rAdd (tC (.int 1)) (tOp FW.rDiv (tCB FW.rMax2 (tCons (tC (.int 0)) (tCons (tOp FW.rAdd (tVar 4) (tOp FW.rMul (tCall (sp_l_near K) [] E0 (tCons (tVar 0) (tNil))) (tOp FW.rAdd (tVar 2) (tVar 3)))) (tNil)))) (tOp FW.rMul (tVar 3) (tVar 1)))) (tNil)))))))
theorem ll_zero (l : Lp) : l.ll 0 = l.d / (l.a + l.c) := by unfold Lp.ll; rw [Int.mul_zero, Int.zero_add]
theorem pure_l_window (K : PySem.W.Frag) (vs : List V) (H : Hp) (Q : VK) (E : XK) (h : sp_l_window K vs H Q E) : rd_l_window K { nx := fun _ H' => Q .non H', rt := Q } (start ["_law_parts_here", "_law_k", "_law_a", "_law_c", "_law_d", "_law_stop", "_law_told", "_law_mend", "_law_low", "_law_lower"] vs) H := by
  obtain ⟨t, l, rfl, hT, o, q⟩ := h
  have nn := near_cases l
  have a1 := o.a1; have a5 := o.a5; have c1 := o.c1; have c3 := o.c3; have ac := o.ac; have d0 := o.d0; have d1 := o.d1; have hk := o.hk
  have s0 := o.sl0
  have ck : 0 < l.c * l.k ∧ l.c * l.k ≤ 12 := by rcases hk with h | h | h <;> rw [h] <;> omega
  unfold rd_l_window
  walk_at "rx"
  rotate_left
  · exact wide_div (b := 10) (by omega) (by show _ < 1024; omega) (by decide) (by decide)
  refine s_while (fun m σ H' => ∃ x : Int, m = (x + 6).toNat ∧ -6 ≤ x ∧ x ≤ 0 ∧ H' = H ∧ l.lowF (x + 7).toNat x = l.low ∧ σ = [some (.ref t), some (.int l.k), some (.int l.a), some (.int l.c), some (.int l.d), some (.str l.stop), some (.str l.told), some (.str l.mend), some (.int x), some (.int (l.ll x))]) 6 ⟨0, rfl, by decide, by decide, rfl, ?_, by rw [ll_zero]; rfl⟩ ?_
  · have := Lp.lowF_spec o 7 0 (by decide) (by decide) (by decide)
    exact (Lp.lowF_more 7 0 this.2.2 3).symm
  rintro m σ H' ⟨x, rfl, x1, x2, rfl, hx, rfl⟩
  walk_at "rx"
  refine e_ite (fun z => ?_) (fun z => ?_)
  · have := o.ll_low x1 x2
    refine ⟨fun σ' H'' => H'' = H' ∧ σ' = [some (.ref t), some (.int l.k), some (.int l.a), some (.int l.c), some (.int l.d), some (.str l.stop), some (.str l.told), some (.str l.mend), some (.int (l.ll x)), some (.int (l.ll (l.ll x)))], fun σ' H'' hh => ?_, ?_⟩
    · obtain ⟨rfl, rfl⟩ := hh
      refine ⟨(l.ll x + 6).toNat, by omega, l.ll x, rfl, this, by omega, rfl, ?_, rfl⟩
      have sp := Lp.lowF_spec o (l.ll x + 7).toNat (l.ll x) this (by omega) (by omega)
      have e1 := Lp.lowF_more _ _ sp.2.2 ((x + 6).toNat - (l.ll x + 7).toNat)
      rw [show (l.ll x + 7).toNat + ((x + 6).toNat - (l.ll x + 7).toNat) = (x + 6).toNat by omega] at e1
      rw [← e1, ← hx, show (x + 7).toNat = (x + 6).toNat + 1 by omega]
      show _ = if l.ll x < x then l.lowF (x + 6).toNat (l.ll x) else x
      rw [if_pos z]
    · have hsl : l.a - l.c * (l.k - 1) = l.sl := rfl
      unfold rd_l_window_L1
      walk_at "rx"
      · exact ⟨rfl, rfl⟩
      all_goals (first | exact wide_div (b := 10) (by omega) (by show _ < 1024; omega) (by decide) (by decide) | exact wide_mul (a := 10) (b := 10) (by show _ < 1024; omega) (by show _ < 1024; omega) (by decide) (by decide) (by decide))
  · have hx' : x = l.low := by
      rw [← hx, show (x + 7).toNat = (x + 6).toNat + 1 by omega]
      unfold Lp.lowF
      rw [if_neg z]
    subst hx'
    walk_at "rx"
    refine ⟨t, l, rfl, hT, fun H1 e1 => ?_⟩
    have e : (1 + (if l.d + l.near * (l.a + l.c) > 0 then l.d + l.near * (l.a + l.c) else 0) / (l.c * l.k)) = l.top := by
      unfold Lp.top
      congr 2
      split <;> omega
    walk_at "rx"
    · rw [e] at nh
      exact q nt nH (e1.tr ne) nh
    · exact wide_div (b := 10) ck.1 (by show _ < 1024; omega) (by decide) (by decide)
    · exact wide_mul (a := 10) (b := 10) (by show _ < 1024; omega) (by show _ < 1024; omega) (by decide) (by decide) (by decide)
    · exact wide_mul (a := 10) (b := 10) (by show _ < 1024; omega) (by show _ < 1024; omega) (by decide) (by decide) (by decide)
/-! polynomials -/
def mulX (i : Int) (ps : List Int) : List Int := (List.range (ps.length + 1)).map fun t => (0 :: ps).getD t 0 + i * (ps ++ [0]).getD t 0
def iterX (i s : Int) : Nat → List Int
  | 0 => [s, 1]
  | n + 1 => mulX i (iterX i s n)
theorem mulX_len (i : Int) (ps : List Int) : (mulX i ps).length = ps.length + 1 := by unfold mulX; rw [List.length_map, List.length_range]
theorem iterX_len (i s : Int) : ∀ n, (iterX i s n).length = n + 2
  | 0 => rfl
  | n + 1 => by unfold iterX; rw [mulX_len, iterX_len i s n]
theorem mulX_get {i : Int} {ps : List Int} {t : Nat} (h : t ≤ ps.length) : (mulX i ps)[t]? = some ((0 :: ps).getD t 0 + i * (ps ++ [0]).getD t 0) := by
  unfold mulX
  rw [List.getElem?_map, List.getElem?_range (by omega)]; rfl
theorem getD_mem {xs : List Int} {P : Int → Prop} (h0 : P 0) (h : ∀ x, x ∈ xs → P x) (t : Nat) : P (xs.getD t 0) := by
  rw [List.getD_eq_getElem?_getD]
  cases ht : xs[t]? with
  | none => exact h0
  | some x => exact h x (List.mem_of_getElem? ht)
theorem mulX_sz {b : Nat} {i : Int} {ps : List Int} (hi : i.natAbs < 64) (h : ∀ x, x ∈ ps → Sz b x) : ∀ x, x ∈ mulX i ps → Sz (b + 7) x := by
  intro x hx
  unfold mulX at hx
  obtain ⟨t, _, rfl⟩ := List.mem_map.mp hx
  have z : Sz b 0 := Nat.pow_pos (by decide)
  have h1 : Sz b ((0 :: ps).getD t 0) := getD_mem z (fun x hx => by
    rcases List.mem_cons.mp hx with rfl | hx
    · exact z
    · exact h x hx) t
  have h2 : Sz b ((ps ++ [0]).getD t 0) := getD_mem z (fun x hx => by
    rcases List.mem_append.mp hx with hx | hx
    · exact h x hx
    · rw [List.mem_singleton.mp hx]; exact z) t
  have h1 : ((0 :: ps).getD t 0).natAbs < 2 ^ b := h1
  have h2 : ((ps ++ [0]).getD t 0).natAbs < 2 ^ b := h2
  generalize (0 :: ps).getD t 0 = y at h1 ⊢
  generalize (ps ++ [0]).getD t 0 = w at h2 ⊢
  have h3 : (i * w).natAbs ≤ 63 * 2 ^ b := by rw [Int.natAbs_mul]; exact Nat.mul_le_mul (by omega) (by omega)
  have h4 : (y + i * w).natAbs ≤ y.natAbs + (i * w).natAbs := Int.natAbs_add_le _ _
  show (y + i * w).natAbs < 2 ^ (b + 7)
  have e : 2 ^ (b + 7) = 128 * 2 ^ b := by rw [Nat.pow_add]; omega
  omega
theorem iterX_sz {i s : Int} (hi : i.natAbs < 64) (hs : Sz 10 s) : ∀ n x, x ∈ iterX i s n → Sz (10 + 7 * n) x
  | 0, x, h => by
    simp only [iterX, List.mem_cons, List.not_mem_nil, or_false] at h
    rcases h with rfl | rfl
    · exact hs
    · show (1 : Nat) < 2 ^ 10; decide
  | n + 1, x, h => mulX_sz hi (iterX_sz hi hs n) x h
/-- the last but one step: x ^ k taken away -/
theorem iterX_end {k i j : Int} (hk : k = 2 ∨ k = 3 ∨ k = 4) : ∃ c, (iterX i (j - (k - 1) * i) (k - 1).toNat)[k.toNat]? = some c ∧ (iterX i (j - (k - 1) * i) (k - 1).toNat).set k.toNat (c - 1) = restE k i j ++ [0] := by
  rcases hk with rfl | rfl | rfl
  · refine ⟨1 + i * 0, rfl, ?_⟩
    show [0 + i * (j - (2 - 1) * i), j - (2 - 1) * i + i * 1, 1 + i * 0 - 1] = [i * (j - i), j, 0]
    congr 1
    · grind
    congr 1
    · grind
    congr 1
    grind
  · refine ⟨1 + i * 0 + i * 0, rfl, ?_⟩
    show [0 + i * (0 + i * (j - (3 - 1) * i)), 0 + i * (j - (3 - 1) * i) + i * (j - (3 - 1) * i + i * 1), j - (3 - 1) * i + i * 1 + i * (1 + i * 0), 1 + i * 0 + i * 0 - 1] = [i * i * (j - 2 * i), 2 * i * j - 3 * (i * i), j, 0]
    congr 1
    · grind
    congr 1
    · grind
    congr 1
    · grind
    congr 1
    grind
  · refine ⟨1 + i * 0 + i * 0 + i * 0, rfl, ?_⟩
    show [0 + i * (0 + i * (0 + i * (j - (4 - 1) * i))), 0 + i * (0 + i * (j - (4 - 1) * i)) + i * (0 + i * (j - (4 - 1) * i) + i * (j - (4 - 1) * i + i * 1)), 0 + i * (j - (4 - 1) * i) + i * (j - (4 - 1) * i + i * 1) + i * (j - (4 - 1) * i + i * 1 + i * (1 + i * 0)), j - (4 - 1) * i + i * 1 + i * (1 + i * 0) + i * (1 + i * 0 + i * 0), 1 + i * 0 + i * 0 + i * 0 - 1] = [i * i * i * (j - 3 * i), 3 * (i * i) * j - 8 * (i * i * i), 3 * i * j - 6 * (i * i), j, 0]
    congr 1
    · grind
    congr 1
    · grind
    congr 1
    · grind
    congr 1
    · grind
    congr 1
    grind
theorem cut_last (ns : List Int) : cutV (ns.map V.int) (some (-1)) none = (match ns.getLast? with | none => [] | some c => [V.int c]) := by
  unfold cutV
  have e : HT.sIx (ns.map V.int).length 0 (some (-1)) = (ns.map V.int).length - 1 := by
    show (if (-1 : Int) < 0 then (-1 + ((ns.map V.int).length : Int)).toNat else min (-1 : Int).toNat (ns.map V.int).length) = _
    rw [if_pos (by decide)]; omega
  rw [e, HT.sIx_none, List.length_map]
  rcases List.eq_nil_or_concat ns with rfl | ⟨xs, x, rfl⟩
  · rfl
  · simp
theorem none_ofE {H G : Hp} {a : Addr} (e : Ext H G) (h : G a = none) : H a = none := by
  cases hq : H a with
  | none => rfl
  | some u => rw [e _ _ hq] at h; cases h
def sp_l_poly (K : PySem.W.Frag) : Sp := fun vs H Q _ => ∃ (k i j : Int), vs = [.int k, .int i, .int j] ∧ (k = 2 ∨ k = 3 ∨ k = 4) ∧ i.natAbs < 64 ∧ 1 ≤ j ∧ j ≤ 100 ∧ ∀ t H', Ext H H' → H' t = some (.tup ((restP k i j).map V.int)) → Q (.ref t) H'
def rd_l_poly_L1 (K : PySem.W.Frag) : TS := tSeq (tAsg (tOp rCat (tLst (tCons (tC (.int 0)) (tNil))) (tVar 3)) (gName 5)) (tAsg (tLc (iEnum K (tCons (tOp rCat (tVar 3) (tLst (tCons (tC (.int 0)) (tNil)))) (tNil))) (gTup K 2 (gCons (gName 6) (gCons (gName 7) (gNil)))) (tYes) (tOp FW.rAdd (tOp (rIxL K) (tVar 5) (tVar 6)) (tOp FW.rMul (tVar 1) (tVar 7))) [6, 7]) (gName 3))
def rd_l_poly_L2 (K : PySem.W.Frag) : TS := tDrop (tBM0 K "list" rPop (tVar 3))
def rd_l_poly (K : PySem.W.Frag) : TS := tSeq (tAsg (tLst (tCons (tOp FW.rSub (tVar 2) (tOp FW.rMul (tOp FW.rSub (tVar 0) (tC (.int 1))) (tVar 1))) (tCons (tC (.int 1)) (tNil)))) (gName 3)) (tSeq (tFor (iRng1 (tCons (tOp FW.rSub (tVar 0) (tC (.int 1))) (tNil))) (gName 4) (rd_l_poly_L1 K)) (tSeq (tAsg (tOp FW.rSub (tOp (rIxL K) (tVar 3) (tVar 0)) (tC (.int 1))) (gSub (tVar 3) (tVar 0) rSetL)) (tSeq (tWhile (tTest (tOp (rEqD K) (tSl (rSlL K) (tVar 3) (tPart (tUn FW.rNeg (tC (.int 1)))) (tNoPart)) (tLst (tCons (tC (.int 0)) (tNil))))) (rd_l_poly_L2 K)) (tRet (tCB (FW.rTupS K) (tCons (tVar 3) (tNil)))))))
section
variable {K : PySem.W.Frag} {H : Hp} {D : Ends}
theorem poly_L1 {b : Nat} {a : Addr} {k i j : Int} {ps : List Int} {v4 v5 : Option V} (hi : i.natAbs < 64) (ha : H a = some (.lst (ps.map V.int))) (hl : ps.length ≤ 10) (hs : ∀ x, x ∈ ps → Sz b x) (b1 : 1 ≤ b) (b2 : b ≤ 60)
    (q : ∀ t H', H t = none → Ext H H' → H' t = some (.lst ((mulX i ps).map V.int)) → ∀ w5 : Option V, D.nx [some (.int k), some (.int i), some (.int j), some (.ref t), v4, w5, none, none] H') :
    rd_l_poly_L1 K D [some (.int k), some (.int i), some (.int j), some (.ref a), v4, v5, none, none] H := by
  have sz := sizeLine_eq
  unfold rd_l_poly_L1
  walk_at "rx"
  refine e_catX nh (ne _ _ ha) (by rw [List.length_map]; simp only [List.length_cons, List.length_nil]; omega) fun q1 G1 z1 e1 g1 => ?_
  have e01 := ne.tr e1
  walk_at "rx"
  refine i_enum ?_
  walk_at "rx"
  refine e_catX (ne _ _ (e01 _ _ ha)) nh (by rw [List.length_map]; simp only [List.length_cons, List.length_nil]; omega) fun q2 G2 z2 e2 g2 => ?_
  have e12 := ne.tr e2
  have e02 := e01.tr e12
  walk_at "rx"
  refine ⟨q2, _, rfl, SqL.of g2, ?_⟩
  have g1' : G2 q1 = some (.lst ((0 :: ps).map V.int)) := e12 _ _ g1
  have g2' : G2 q2 = some (.lst ((ps ++ [0]).map V.int)) := by rw [g2, List.map_append]; rfl
  intro D0 hD
  have ml := mulX_len i ps
  refine lc_it (walk_enum (K := K) (a := q2) (xs := (ps ++ [0]).map V.int)) (fun t H' => t ≤ ps.length + 1 ∧ Ext G2 H' ∧ H' D0 = some (.lst (((mulX i ps).take t).map V.int))) ⟨Nat.zero_le _, Ext.new hD, upd_same⟩ (fun t H' _ p => SqL.of (p.2.1 _ _ g2')) ?_ ?_
  · rintro t v H' H'' hi' ⟨hle, e, hDD⟩ ⟨T, x, y, rfl, hT, rfl, hx, hy⟩
    cases hx
    obtain ⟨c, rfl, hc⟩ := map_at hy
    have tl : t < ps.length + 1 := by
      have := (List.getElem?_eq_some_iff.mp hc).1
      rw [List.length_append] at this
      exact this
    generalize hG : upd H' T _ = G
    obtain ⟨eG, gT⟩ := al_of hT hG
    have hDT : D0 ≠ T := ne_of_none hDD hT
    clear hG
    refine g_tup ?_ (SqT.of gT) rfl
    walk_at "rx"
    refine ⟨rfl, ?_⟩
    walk_at "rx"
    have t0 : ((0 :: ps).map V.int)[t]? = some (V.int ((0 :: ps).getD t 0)) := by
      rw [List.getElem?_map, List.getD_eq_getElem?_getD, List.getElem?_eq_getElem (by rw [List.length_cons]; omega)]; rfl
    have t1 : c = (ps ++ [0]).getD t 0 := by rw [List.getD_eq_getElem?_getD, hc]; rfl
    have sc : Sz b c := by
      rcases List.mem_append.mp (List.mem_of_getElem? hc) with h | h
      · exact hs c h
      · rw [List.mem_singleton.mp h]; exact Nat.pow_pos (by decide)
    refine ha_ixL (eG _ _ (e _ _ g1')) (atI_of t0 rfl) ?_
    walk_at "rx"
    · refine ⟨_, eG _ _ hDD, by rw [List.length_map, List.length_take, ml]; omega, by omega, (e.tr eG).upds hD, ?_⟩
      rw [upd_same, List.take_add_one, mulX_get (by omega), List.map_append, t1]; rfl
    · exact wide_mul (a := 6) (b := b) (by show i.natAbs < 64; exact hi) sc (by decide) (by omega) (by omega)
  · rintro H' ⟨_, e, hDD⟩
    rw [List.take_of_length_le (by rw [List.length_map, List.length_append, ml]; exact Nat.le_refl _)] at hDD
    walk_at "rx"
    exact q D0 H' (none_ofE e02 hD) (e02.tr e) hDD _
theorem pops {K : PySem.W.Frag} {H0 H : Hp} {D : Ends} {a : Addr} {k i j : Int} {ps : List Int} {v4 v5 : Option V} {n : Nat} (e : Ext H0 H) (za : H0 a = none) (ha : H a = some (.lst ((ps ++ List.replicate n 0).map V.int))) (hl : ps.getLast? ≠ some 0) (h0 : ps ≠ []) (hz : ps.length + n ≤ 100)
    (q : ∀ H', Ext H0 H' → H' a = some (.lst (ps.map V.int)) → D.nx [some (.int k), some (.int i), some (.int j), some (.ref a), v4, v5, none, none] H') :
    tWhile (tTest (tOp (rEqD K) (tSl (rSlL K) (tVar 3) (tPart (tUn FW.rNeg (tC (.int 1)))) (tNoPart)) (tLst (tCons (tC (.int 0)) (tNil))))) (rd_l_poly_L2 K) D [some (.int k), some (.int i), some (.int j), some (.ref a), v4, v5, none, none] H := by
  refine s_while (fun m σ H' => Ext H0 H' ∧ H' a = some (.lst ((ps ++ List.replicate m 0).map V.int)) ∧ ps.length + m ≤ 100 ∧ σ = [some (.int k), some (.int i), some (.int j), some (.ref a), v4, v5, none, none]) n ⟨e, ha, hz, rfl⟩ ?_
  rintro m σ H' ⟨e, ha, hz, rfl⟩
  walk_at "rx"
  refine e_sl (e_var (e_part ?_) rfl)
  walk_at "rx"
  refine e_part' (e_noP ?_)
  refine e_slL (fun q1 hq1 => ?_) (SqL.of ha)
  generalize hG : upd H' q1 _ = G
  obtain ⟨eG, gq⟩ := al_of hq1 hG
  clear hG
  obtain ⟨c, hc, hc0⟩ : ∃ c, (ps ++ List.replicate m 0).getLast? = some c ∧ (c = 0 ↔ m ≠ 0) := by
    cases m with
    | zero =>
      obtain ⟨c, hc⟩ : ∃ c, ps.getLast? = some c := ⟨_, List.getLast?_eq_some_getLast h0⟩
      refine ⟨c, by rw [List.replicate_zero, List.append_nil]; exact hc, ⟨fun z => ?_, fun z => absurd rfl z⟩⟩
      rw [z] at hc
      exact absurd hc hl
    | succ m => exact ⟨0, by rw [List.replicate_succ', ← List.append_assoc, List.getLast?_concat], ⟨fun _ => Nat.succ_ne_zero _, fun _ => rfl⟩⟩
  rw [cut_last, hc] at gq
  walk_at "rx"
  refine e_eqD (d := .list ([c].map PyData.int)) (e := .list ([0].map PyData.int)) ?_ (.lst (SqL.of (ne _ _ gq)) (dpI [c])) (.lst (SqL.of nh) (dpI [0])) (shL [c]) (shL [0])
  rw [show PyData.eqv (.list ([c].map PyData.int)) (.list ([0].map PyData.int)) = decide ([c] = [0]) by rw [PyData.eqv, eqvI]]
  walk_at "rx"
  have e1 := eG.tr ne
  cases m with
  | zero =>
    have cn : c ≠ 0 := fun z => (hc0.mp z) rfl
    rw [decide_eq_false (by intro z; injection z with z; exact cn z)]
    walk_at "rx"
    exact q _ (e.tr e1) (by have := e1 _ _ ha; rw [List.replicate_zero, List.append_nil] at this; exact this)
  | succ m =>
    have c0 : c = 0 := hc0.mpr (Nat.succ_ne_zero _)
    rw [decide_eq_true (by rw [c0])]
    walk_at "rx"
    refine ⟨fun σ' H'' => Ext H0 H'' ∧ H'' a = some (.lst ((ps ++ List.replicate m 0).map V.int)) ∧ σ' = [some (.int k), some (.int i), some (.int j), some (.ref a), v4, v5, none, none], fun σ' H'' hh => ⟨m, by omega, hh.1, hh.2.1, by omega, hh.2.2⟩, ?_⟩
    unfold rd_l_poly_L2
    walk_at "rx"
    have e2 := e.tr e1
    have xl : ((ps ++ List.replicate (m + 1) 0).map V.int).length = ps.length + m + 1 := by rw [List.length_map, List.length_append, List.length_replicate]; omega
    obtain ⟨y, hy⟩ : ∃ y, ((ps ++ List.replicate (m + 1) 0).map V.int)[((ps ++ List.replicate (m + 1) 0).map V.int).length - 1]? = some y := ⟨_, List.getElem?_eq_getElem (by rw [xl]; omega)⟩
    refine ⟨a, _, y, rfl, rfl, e1 _ _ ha, hy, ?_⟩
    walk_at "rx"
    refine ⟨e2.upds za, ?_, rfl⟩
    rw [upd_same, List.replicate_succ', ← List.append_assoc, List.map_append, List.map_singleton, List.dropLast_concat]
theorem pure_l_poly (K : PySem.W.Frag) (vs : List V) (H : Hp) (Q : VK) (E : XK) (h : sp_l_poly K vs H Q E) : rd_l_poly K { nx := fun _ H' => Q .non H', rt := Q } (start ["_law_k", "_law_i", "_law_j", "_law_found", "_law_turn", "_law_longer", "_law_at", "_law_x"] vs) H := by
  obtain ⟨k, i, j, rfl, hk, hi, j1, j2, q⟩ := h
  have sz := sizeLine_eq
  unfold rd_l_poly
  walk_at "rx"
  rotate_left
  · omega
  · exact wide_mul (a := 10) (b := 10) (by show _ < 1024; omega) (by show _ < 1024; omega) (by decide) (by decide) (by decide)
  generalize hs : j - (k - 1) * i = s at nh
  have ss : Sz 10 s := by
    rw [← hs]
    show _ < 1024
    rcases hk with rfl | rfl | rfl <;> omega
  have zn := nz
  refine for_range (lo := 0) (n := (k - 1).toNat) (fun n σ H' => Ext H H' ∧ ∃ (a : Addr) (v4 v5 : Option V), H a = none ∧ H' a = some (.lst ((iterX i s n).map V.int)) ∧ σ = [some (.int k), some (.int i), some (.int j), some (.ref a), v4, v5, none, none]) ⟨ne, nt, none, none, nz, nh, rfl⟩ ?_ ?_
  · rintro n σ H' hn ⟨e, a, v4, v5, za, ha, rfl⟩
    refine g_name ?_
    refine poly_L1 (b := 10 + 7 * n) hi ha (by rw [iterX_len]; omega) (iterX_sz hi ss n) (by omega) (by omega) fun t H2 zt e2 ht w5 => ?_
    exact ⟨e.tr e2, t, _, _, none_ofE e zt, ht, rfl⟩
  · rintro σ H' ⟨e, a, v4, v5, za, ha, rfl⟩
    obtain ⟨c, hc, hr⟩ := iterX_end (i := i) (j := j) hk
    rw [hs] at hc hr
    have il := iterX_len i s (k - 1).toNat
    walk_at "rx"
    refine ha_ixL (v := .int c) ha (atI_of (n := k.toNat) (by rw [List.getElem?_map, hc]; rfl) (by omega)) ?_
    walk_at "rx"
    refine e_setL (m := k.toNat) ?_ ha ?_
    · walk_at "rx"
      have ea : Ext H (upd H' a (.lst (((iterX i s (k - 1).toNat).map V.int).set k.toNat (.int (c - 1))))) := e.upds za
      have rl := restE_len (i := i) (j := j) hk
      have la := restE_last k i j
      refine pops (n := 1) (ps := restE k i j) ea za (by rw [upd_same, ← List.map_set, hr]; rfl) (by rw [la]; intro z; injection z; omega) (fun z => by rw [z] at la; cases la) (by omega) fun H2 e2 h2 => ?_
      walk_at "rx"
      refine q nt _ (e2.tr ne) ?_
      rw [restP_eq hk j1]
      exact nh
    · unfold ixN
      rw [List.length_map, il, if_pos (by omega), if_pos (by omega)]
end
/-! the least gap, the turns -/
theorem need_up {l : Lp} (o : l.Ok) (i g : Int) : ∀ n : Nat, l.needed i g + (n : Nat) ≤ l.needed i (g + (n : Nat))
  | 0 => by rw [show g + ((0 : Nat) : Int) = g by omega]; omega
  | n + 1 => by
    have h1 := need_up o i g n
    have h2 := need_succ o i (g + (n : Nat))
    rw [show g + ((n + 1 : Nat) : Int) = g + (n : Nat) + 1 by omega]
    omega
def sp_l_least (K : PySem.W.Frag) : Sp := fun vs H Q _ => ∃ (t : Addr) (l : Lp) (i : Int), vs = [.ref t, .int i] ∧ H t = some (.tup l.V) ∧ l.Ok ∧ i.natAbs < 64 ∧ ∀ H', Ext H H' → Q (.int (l.ll i)) H'
def rd_l_least (K : PySem.W.Frag) : TS := tSeq (tAsg (tSl (rSlA K) (tVar 0) (tNoPart) (tPart (tC (.int 4)))) (gTup K 4 (gCons (gName 2) (gCons (gName 3) (gCons (gName 4) (gCons (gName 5) (gNil))))))) (tRet (tOp FW.rDiv (tOp FW.rAdd (tOp FW.rMul (tOp FW.rSub (tVar 3) (tOp FW.rMul (tVar 4) (tOp FW.rSub (tVar 2) (tC (.int 1))))) (tVar 1)) (tVar 5)) (tOp FW.rAdd (tVar 3) (tVar 4))))
theorem pure_l_least (K : PySem.W.Frag) (vs : List V) (H : Hp) (Q : VK) (E : XK) (h : sp_l_least K vs H Q E) : rd_l_least K { nx := fun _ H' => Q .non H', rt := Q } (start ["_law_parts_here", "_law_i", "_law_k", "_law_a", "_law_c", "_law_d"] vs) H := by
  obtain ⟨t, l, i, rfl, hT, o, hi, q⟩ := h
  have a1 := o.a1; have a5 := o.a5; have c1 := o.c1; have c3 := o.c3; have ac := o.ac; have d0 := o.d0; have d1 := o.d1; have hk := o.hk
  have s0 := o.sl0
  unfold rd_l_least
  walk_at "rx"
  refine e_sl (e_var (e_noP (e_part (e_c (e_part' ?_)))) rfl)
  refine sl_to (n := 4) hT (Nat.le_of_ble_eq_true rfl) fun q1 H1 e1 q1h => ?_
  refine g_tup ?_ (SqT.of q1h) rfl
  rw [show l.V.take 4 = [V.int l.k, V.int l.a, V.int l.c, V.int l.d] from rfl]
  walk_at "rx"
  · exact q _ e1
  · exact wide_div (b := 10) (by omega) (by show _ < 1024; omega) (by decide) (by decide)
  · exact wide_mul (a := 10) (b := 10) (show l.sl.natAbs < 1024 by omega) (by show _ < 1024; omega) (by decide) (by decide) (by decide)
  · exact wide_mul (a := 10) (b := 10) (by show _ < 1024; omega) (by show _ < 1024; omega) (by decide) (by decide) (by decide)
theorem rowF_snoc {l : Lp} (o : l.Ok) {i : Int} : ∀ (n : Nat) (g : Int), l.rowF i (n + 1) g = l.rowF i n g ++ (if l.needed i (g + (n : Nat)) ≤ l.most i then [l.needed i (g + (n : Nat))] else [])
  | 0, g => by
    show (if l.needed i g ≤ l.most i then l.needed i g :: [] else []) = [] ++ _
    rw [show g + ((0 : Nat) : Int) = g by omega, List.nil_append]
  | n + 1, g => by
    have ih := rowF_snoc o (i := i) n (g + 1)
    rw [show g + 1 + ((n : Nat) : Int) = g + ((n + 1 : Nat) : Int) by omega] at ih
    have e : l.rowF i (n + 1 + 1) g = if l.needed i g ≤ l.most i then l.needed i g :: l.rowF i (n + 1) (g + 1) else [] := rfl
    have e1 : l.rowF i (n + 1) g = if l.needed i g ≤ l.most i then l.needed i g :: l.rowF i n (g + 1) else [] := rfl
    rw [e, e1, ih]
    by_cases h : l.needed i g ≤ l.most i
    · rw [if_pos h, if_pos h, List.cons_append]
    · have up := need_up o i g (n + 1)
      rw [if_neg h, if_neg h, if_neg (by omega)]; rfl
theorem rowF_all {l : Lp} (o : l.Ok) {i : Int} {m : Nat} (hm : l.most i < m + 1) : ∀ n : Nat, l.rowF i (m + n) (l.ll i + 1) = l.rowF i m (l.ll i + 1)
  | 0 => rfl
  | n + 1 => by
    have up := need_up o i (l.ll i + 1) (m + n)
    have one := need_one o i
    rw [← Nat.add_assoc, rowF_snoc o, if_neg (by omega), List.append_nil]
    exact rowF_all o hm n
theorem rowF_len (l : Lp) (i : Int) : ∀ (n : Nat) (g : Int), (l.rowF i n g).length ≤ n
  | 0, g => Nat.zero_le _
  | n + 1, g => by
    unfold Lp.rowF
    split
    · rw [List.length_cons]; have := rowF_len l i n (g + 1); omega
    · exact Nat.zero_le _
def sp_l_turning (K : PySem.W.Frag) : Sp := fun vs H Q _ => ∃ (t : Addr) (l : Lp) (i : Int), vs = [.ref t, .int i] ∧ H t = some (.tup l.V) ∧ l.Ok ∧ -4 ≤ i ∧ i ≤ 30 ∧ ∀ a xs H', H a = none → Ext H H' → H' a = some (.lst xs) → Pls H' xs (l.rowC i) → Q (.ref a) H'
def rd_l_turning_L1 (K : PySem.W.Frag) : TS := tSeq (tAsg (tUn FW.rNeg (tOp FW.rDiv (tOp FW.rSub (tOp FW.rAdd (tVar 5) (tOp FW.rMul (tVar 10) (tVar 1))) (tOp FW.rMul (tOp FW.rAdd (tVar 11) (tVar 13)) (tVar 9))) (tVar 4))) (gName 14)) (tIfS (tTest (tOp FW.rLe (tVar 14) (tOp FW.rSub (tVar 2) (tCB FW.rInt1 (tCons (tOp rEq (tVar 1) (tC (.int 1))) (tNil)))))) (tDrop (tBM K "list" rAppend (tVar 12) (tCons (tCall (sp_l_poly K) [] E0 (tCons (tVar 2) (tCons (tVar 1) (tCons (tVar 14) (tNil))))) (tNil)))) (tNext))
def rd_l_turning (K : PySem.W.Frag) : TS := tSeq (tAsg (tVar 0) (gTup K 7 (gCons (gName 2) (gCons (gName 3) (gCons (gName 4) (gCons (gName 5) (gCons (gName 6) (gCons (gName 7) (gCons (gName 8) (gNil)))))))))) (tSeq (tPar 9 10 (tCons (tOp FW.rAdd (tVar 3) (tVar 4)) (tCons (tOp FW.rSub (tVar 3) (tOp FW.rMul (tVar 4) (tOp FW.rSub (tVar 2) (tC (.int 1))))) (tNil)))) (tSeq (tAsg (tOp FW.rAdd (tCall (sp_l_least K) [] E0 (tCons (tVar 0) (tCons (tVar 1) (tNil)))) (tC (.int 1))) (gName 11)) (tSeq (tAsg (tLst (tNil)) (gName 12)) (tSeq (tFor (iRng1 (tCons (tOp FW.rAdd (tVar 2) (tC (.int 1))) (tNil))) (gName 13) (rd_l_turning_L1 K)) (tRet (tVar 12))))))
theorem pure_l_turning (K : PySem.W.Frag) (vs : List V) (H : Hp) (Q : VK) (E : XK) (h : sp_l_turning K vs H Q E) : rd_l_turning K { nx := fun _ H' => Q .non H', rt := Q } (start ["_law_parts_here", "_law_i", "_law_k", "_law_a", "_law_c", "_law_d", "_law_stop", "_law_told", "_law_mend", "_law_m", "_law_lean", "_law_gap", "_law_found", "_law_turn", "_law_j"] vs) H := by
  obtain ⟨t, l, i, rfl, hT, o, i0, i1, q⟩ := h
  have a1 := o.a1; have a5 := o.a5; have c1 := o.c1; have c3 := o.c3; have ac := o.ac; have d0 := o.d0; have d1 := o.d1; have hk := o.hk
  have s0 := o.sl0
  have lb := ll_bound o (i := i) (by omega) (by omega)
  have mk : l.most i ≤ l.k ∧ l.k - 1 ≤ l.most i := by unfold Lp.most; split <;> omega
  have one := need_one o i
  have hsl : l.a - l.c * (l.k - 1) = l.sl := rfl
  have h4 : (l.sl * i).natAbs ≤ 4 * 30 := by rw [Int.natAbs_mul]; exact Nat.mul_le_mul (by omega) (by omega)
  unfold rd_l_turning
  walk_at "rx"
  rotate_left
  · exact wide_mul (a := 10) (b := 10) (by show _ < 1024; omega) (by show _ < 1024; omega) (by decide) (by decide) (by decide)
  rw [hsl]
  refine ⟨t, l, i, rfl, hT, o, by omega, fun H1 e1 => ?_⟩
  walk_at "rx"
  rotate_left
  · omega
  have zn := none_ofE e1 nz
  refine for_range (lo := 0) (n := (l.k + 1).toNat) (fun n σ H' => Ext H H' ∧ ∃ (xs : List V) (v13 v14 : Option V), H' nt = some (.lst xs) ∧ Pls H' xs ((l.rowF i n (l.ll i + 1)).map (restP l.k i)) ∧ σ = [some (.ref t), some (.int i), some (.int l.k), some (.int l.a), some (.int l.c), some (.int l.d), some (.str l.stop), some (.str l.told), some (.str l.mend), some (.int (l.a + l.c)), some (.int l.sl), some (.int (l.ll i + 1)), some (.ref nt), v13, v14]) ⟨e1.tr ne, [], none, none, nh, .nil, rfl⟩ ?_ ?_
  · rintro n σ H' hn ⟨e, xs, v13, v14, hx, hP, rfl⟩
    refine g_name ?_
    have zz : -70 ≤ l.ll i + 1 + (0 + (n : Int)) ∧ l.ll i + 1 + (0 + (n : Int)) ≤ 70 := by omega
    unfold rd_l_turning_L1
    walk_at "rx"
    rotate_left
    · exact wide_div (b := 10) (by omega) (by show _ < 1024; omega) (by decide) (by decide)
    · exact wide_mul (a := 10) (b := 10) (by show _ < 1024; omega) (by show _ < 1024; omega) (by decide) (by decide) (by decide)
    · exact wide_mul (a := 10) (b := 10) (by show _ < 1024; omega) (by show _ < 1024; omega) (by decide) (by decide) (by decide)
    have ej : -((l.d + l.sl * i - (l.ll i + 1 + (0 + (n : Int))) * (l.a + l.c)) / l.c) = l.needed i (l.ll i + 1 + (n : Nat)) := by
      unfold Lp.needed
      rw [show (0 : Int) + (n : Int) = (n : Int) by omega]
    rw [ej]
    have em : (l.k - if i = 1 then 1 else 0) = l.most i := by unfold Lp.most; split <;> omega
    rw [em]
    have sn := rowF_snoc o (i := i) n (l.ll i + 1)
    have up := need_up o i (l.ll i + 1) n
    by_cases h : l.needed i (l.ll i + 1 + (n : Nat)) ≤ l.most i
    · rw [if_pos h] at sn
      rw [if_pos (decide_eq_true h)]
      walk_at "rx"
      refine ⟨l.k, i, _, rfl, hk, by omega, by omega, by omega, fun a H2 e2 h2 => ?_⟩
      have sz := sizeLine_eq
      have xl : xs.length = (l.rowF i n (l.ll i + 1)).length := by rw [Paired.length hP, List.length_map]
      have rl := rowF_len l i n (l.ll i + 1)
      walk_at "rx"
      refine ha_app (e2 _ _ hx) (by omega) ?_
      walk_at "rx"
      refine ⟨(e.tr e2).upds zn, xs ++ [.ref a], _, _, upd_same, ?_, rfl⟩
      rw [sn, List.map_append]
      exact Pls.snoc ((hP.ext e2).upd (e2 _ _ hx)) (by rw [upd_ne (ne_of h2 (e2 _ _ hx) (fun z => nomatch z))]; exact h2)
    · rw [if_neg h, List.append_nil] at sn
      rw [if_neg (by rw [decide_eq_true_eq]; exact h)]
      walk_at "rx"
      exact ⟨e, xs, _, _, hx, by rw [sn]; exact hP, rfl⟩
  · rintro σ H' ⟨e, xs, v13, v14, hx, hP, rfl⟩
    walk_at "rx"
    refine q nt xs H' zn e hx ?_
    have := rowF_all o (i := i) (m := (l.k + 1).toNat) (by omega) (8 - (l.k + 1).toNat)
    rw [show (l.k + 1).toNat + (8 - (l.k + 1).toNat) = 8 by omega] at this
    unfold Lp.rowC Lp.rowJ
    rw [this]
    exact hP
end FWL
namespace FWL
open PySem PySem.Spec PyProof.Rows L2 FW
/-! ### k15: tables of other windows -/
/-! from a million on every condition is above nought -/
def lbm : List Int → Option Int
  | [] => some 0
  | c :: cs => match lbm cs with
    | some m => if 0 ≤ m then some (c + 1000000 * m) else none
    | none => none
theorem lbm_le : ∀ {cs : List Int} {m : Int}, lbm cs = some m → ∀ r, 1000000 ≤ r → m ≤ pvl cs r
  | [], m, h, r, hr => by cases h; exact Int.le_refl _
  | c :: cs, m, h, r, hr => by
    unfold lbm at h
    cases hc : lbm cs with
    | none => rw [hc] at h; cases h
    | some w =>
      rw [hc] at h
      dsimp only at h
      by_cases hw : 0 ≤ w
      · rw [if_pos hw] at h
        cases h
        have ih := lbm_le hc r hr
        have h1 : 1000000 * w ≤ r * w := Int.mul_le_mul_of_nonneg_right hr hw
        have h2 : r * w ≤ r * pvl cs r := Int.mul_le_mul_of_nonneg_left ih (by omega)
        show c + 1000000 * w ≤ c + r * pvl cs r
        omega
      · rw [if_neg hw] at h; cases h
def pomL (cs : List Int) : Bool := match lbm cs with
  | some m => decide (0 < m)
  | none => false
theorem pomL_pos {cs : List Int} (h : pomL cs = true) (r : Int) (hr : 1000000 ≤ r) : 0 < pvl cs r := by
  unfold pomL at h
  cases hc : lbm cs with
  | none => rw [hc] at h; cases h
  | some m =>
    rw [hc] at h
    have := lbm_le hc r hr
    have := of_decide_eq_true h
    omega
def pomB (p q : List Int) : Bool := pomL (addL q (negL p))
theorem pomB_lt {p q : List Int} (h : pomB p q = true) (r : Int) (hr : 1000000 ≤ r) : pvl p r < pvl q r := by
  have := pomL_pos h r hr
  unfold negL at this
  rw [pv_addL, pv_neg] at this
  omega
def okPom (p q : List Int) : Bool := p == q || pomB p q || pomB q p
theorem okm_lt {p q : List Int} (h : okPom p q = true) (e : EvLt p q) (r : Int) (hr : 1000000 ≤ r) : pvl p r < pvl q r := by
  obtain ⟨B, hB⟩ := e
  have h1 := hB (max B 1000000) (by omega)
  dsimp only at h1
  unfold okPom at h
  rw [Bool.or_eq_true, Bool.or_eq_true] at h
  rcases h with (h | h) | h
  · rw [eq_of_beq h] at h1; omega
  · exact pomB_lt h r hr
  · have := pomB_lt h (max B 1000000) (by omega); omega
def uniw (k hi : Int) : List (List Int) := [] :: endE k :: ((rgZ (-4) (hi + 1)).map fun i => (rgZ 1 (k + 1)).map fun j => restE k i j).flatten
theorem mem_uniw {k hi i j : Int} (h1 : -4 ≤ i) (h2 : i ≤ hi) (h3 : 1 ≤ j) (h4 : j ≤ k) : restE k i j ∈ uniw k hi :=
  List.mem_cons_of_mem _ (List.mem_cons_of_mem _ (List.mem_flatten.mpr ⟨_, List.mem_map_of_mem (mem_rgZ.mpr ⟨h1, by omega⟩), List.mem_map_of_mem (mem_rgZ.mpr ⟨h3, by omega⟩)⟩))
def uniwB (k hi : Int) : Bool := (uniw k hi).all fun p => (uniw k hi).all fun q => okPom p q
theorem uniw2 : uniwB 2 13 = true := by decide +kernel
theorem uniw3 : uniwB 3 10 = true := by decide +kernel
theorem uniw4 : uniwB 4 8 = true := by decide +kernel
def hiW (k : Int) : Int := if k = 2 then 13 else if k = 3 then 10 else 8
theorem uniwK {k : Int} (hk : k = 2 ∨ k = 3 ∨ k = 4) {p q : List Int} (hp : p ∈ uniw k (hiW k)) (hq : q ∈ uniw k (hiW k)) : okPom p q = true := by
  have h : uniwB k (hiW k) = true := by
    rcases hk with rfl | rfl | rfl
    · exact uniw2
    · exact uniw3
    · exact uniw4
  exact List.all_eq_true.mp (List.all_eq_true.mp h p hp) q hq
theorem top_hiW {l : Lp} (o : l.Ok) : l.top + 3 ≤ hiW l.k := by
  have h := top_hi o
  have hk := o.hk
  unfold hiOf at h
  unfold hiW
  rcases hk with e | e | e <;> rw [e] at h ⊢ <;> simp only [Int.reduceEq, if_true, if_false, ite_true, ite_false] at h ⊢ <;> omega
def endwB (k hi : Int) : Bool := (rgZ (-4) (hi + 1)).all fun i => i == 1 || pomL (addL (addL (restE k i (k + 1)) (negL (endE k))) [1])
theorem endwK {k i : Int} (hk : k = 2 ∨ k = 3 ∨ k = 4) (h1 : -4 ≤ i) (h2 : i ≤ hiW k) (hi : i ≠ 1) (r : Int) (hr : 1000000 ≤ r) : 0 < pvl (restE k i (k + 1)) r - pvl (endE k) r + 1 := by
  have h : endwB k (hiW k) = true := by rcases hk with rfl | rfl | rfl <;> decide +kernel
  have h3 := List.all_eq_true.mp h i (mem_rgZ.mpr ⟨h1, by omega⟩)
  rcases (Bool.or_eq_true _ _).mp h3 with h3 | h3
  · exact absurd (eq_of_beq h3) hi
  · have := pomL_pos h3 r hr
    unfold negL at this
    rw [pv_addL, pv_addL, pv_neg] at this
    simp [pvl] at this ⊢
    omega
def falwB (k hi : Int) : Bool := (rgZ 2 (hi + 2)).all fun g => (rgZ (-10) (k * (g - 1))).all fun e => pomL (addL (addL (mulL [g - e, 1] (pPow [g, 1] (k - 1).toNat)) (negL (pPow [1, 1] k.toNat))) [1])
theorem falwK {k g e : Int} (hk : k = 2 ∨ k = 3 ∨ k = 4) (h1 : 2 ≤ g) (h2 : g ≤ hiW k + 1) (h3 : -10 ≤ e) (h4 : e < k * (g - 1)) (r : Int) (hr : 1000000 ≤ r) : 0 < (r + (g - e)) * (r + g) ^ (k - 1).toNat - (r + 1) ^ k.toNat + 1 := by
  have h : falwB k (hiW k) = true := by rcases hk with rfl | rfl | rfl <;> decide +kernel
  have h5 := pomL_pos (List.all_eq_true.mp (List.all_eq_true.mp h g (mem_rgZ.mpr ⟨h1, by omega⟩)) e (mem_rgZ.mpr ⟨h3, h4⟩)) r hr
  unfold negL at h5
  rw [pv_addL, pv_addL, pv_neg, pv_mulL, pv_pow, pv_pow, pv_one, pv_one, pv_one] at h5
  have : pvl [1] r = 1 := by simp [pvl]
  omega
section
variable {l : Lp} {f lo hi : Int}
theorem hold_far (o : l.Ok) (h1 : -4 ≤ lo) (h2 : lo ≤ 0) (h3 : l.top ≤ hi) (h4 : hi ≤ l.top + 3) (hf : 1000000 ≤ f) : Hold l lo hi f := by
  refine ⟨h2, by omega, fun c h r hr => ?_⟩
  have hr : 1000000 ≤ r := by omega
  have hk := o.hk
  have tb := top_bound o
  have th := top_hiW o
  unfold condP at h
  rcases List.mem_append.mp h with h | h
  · rcases List.mem_append.mp h with h | h
    · obtain ⟨p, q, hp, hq, rfl, he⟩ := diffs_ev (rising_pw o lo hi) c h
      have pu : ∀ p, p ∈ risingP l (l.cuts lo hi) → p ∈ uniw l.k (hiW l.k) := fun p hp => by
        unfold risingP at hp
        rcases List.mem_cons.mp hp with rfl | hp
        · exact List.mem_cons_self
        · rcases List.mem_append.mp hp with hp | hp
          · obtain ⟨i, j, i1, i2, j1, j2, rfl⟩ := cut_form o hp
            refine mem_uniw (by omega) (by omega) j1 ?_
            unfold Lp.most at j2
            split at j2 <;> omega
          · rw [List.mem_singleton.mp hp, endP_eq hk]; exact List.mem_cons_of_mem _ List.mem_cons_self
      have := okm_lt (uniwK hk (pu p hp) (pu q hq)) (he.up fun r => by rw [pv_less]; exact Int.le_refl _) r hr
      rw [pv_less]; omega
    · obtain ⟨i, hi', rfl⟩ := List.mem_map.mp h
      unfold notOne at hi'
      obtain ⟨hi1, hi3⟩ := List.mem_filter.mp hi'
      have hi2 := mem_rgZ.mp hi1
      rw [pv_above, endP_eq hk, restP_eq hk (by omega)]
      refine endwK hk (by omega) (by omega) (fun z => ?_) r hr
      rw [z] at hi3; exact absurd hi3 (by decide)
  · rw [List.mem_singleton.mp h, pv_above]
    have tr := top_reach o
    have rb := reach_b o
    have up : l.k * l.top ≤ l.k * hi := Int.mul_le_mul_of_nonneg_left h3 (by omega)
    have := falwK hk (g := hi + 1) (e := l.reach) (by omega) (by omega) rb.1 (by rw [show hi + 1 - 1 = hi by omega]; omega) r hr
    rw [fallP_pv]
    show 0 < _ - 0 + 1
    omega
theorem smallW (o : l.Ok) (h1 : -4 ≤ lo) (h2 : lo ≤ 1) (h3 : hi ≤ l.top + 3) (sf : Sz 250 f) : Small l f lo hi (l.cuts lo hi) (mapsP l lo hi (l.cuts lo hi)) := by
  have tb := top_bound o
  have cl := cuts_len o lo hi
  refine ⟨h1, h3, sf, fun c hc => ((cut_pz o (by omega) (by omega) hc).1).mono (by decide) (by decide), by omega, ?_, fun row hr => ?_⟩
  · have := mapsP_len l lo hi (l.cuts lo hi)
    omega
  · have := mapsP_row hr
    omega
theorem formW (h1 : lo ≤ 0) (h2 : 1 ≤ hi) (h3 : 1 ≤ f + lo) : FormOk f lo hi (l.cuts lo hi) (mapsP l lo hi (l.cuts lo hi)) := ⟨h1, h2, h3, mapsP_len .., fun row hr => by have := mapsP_row hr; omega⟩
theorem ll_down (o : l.Ok) (h : lo ≤ l.ll lo) : lo - 1 ≤ l.ll (lo - 1) := by
  have a1 := o.a1; have c1 := o.c1
  have s0 := o.sl0
  unfold Lp.ll at h ⊢
  have h := (Int.le_ediv_iff_mul_le (show 0 < l.a + l.c by omega)).mp h
  refine (Int.le_ediv_iff_mul_le (by omega)).mpr ?_
  have e1 : (lo - 1) * (l.a + l.c) = lo * (l.a + l.c) - (l.a + l.c) := by grind
  have e2 : l.sl * (lo - 1) = l.sl * lo - l.sl := by grind
  have kp : 0 ≤ l.c * l.k := Int.mul_nonneg (by omega) (by have := o.hk; omega)
  omega
theorem tabW (o : l.Ok) (hF : Hold l lo hi f) (h1 : lo ≤ l.ll lo) (h2 : l.top ≤ hi) : TabP l f lo hi (l.cuts lo hi) (mapsP l lo hi (l.cuts lo hi)) := by
  have tb := top_bound o
  exact hF.tab o (hF.stays o h1 h2 (by omega))
theorem risTW (o : l.Ok) : risT l (l.cuts lo hi) = risingP l (l.cuts lo hi) := by unfold risT; rw [cuts_trm o]
theorem lastW (o : l.Ok) (h1 : -4 ≤ lo) (h2 : hi ≤ 60) {c : List Int} (h : c ∈ l.cuts lo hi) : c.getLast? ≠ some 0 := (cut_pz o (by omega) (by omega) h).2.2
theorem mapP_hasW {i : Int} (h1 : lo ≤ i) (h2 : i ≤ hi) (ps : List (List Int)) : ∃ k : Nat, lo + (k : Nat) = i ∧ (mapP l lo hi ps)[k]? = some (l.ll i + (l.passed i ps : Nat)) := ⟨(i - lo).toNat, by omega, mapP_at h1 h2⟩
/-- a gap of a map changed -/
theorem ref_gapW (o : l.Ok) (hF : Hold l lo hi f) (l4 : -4 ≤ lo) (h3 : hi ≤ l.top + 3) (sf : Sz 250 f) {t k : Nat} {row : List Int} {g g' : Int} (ht : (mapsP l lo hi (l.cuts lo hi))[t]? = some row) (hk : row[k]? = some g) (hg : g' ≠ g) : Refused l (tabD f lo hi (l.cuts lo hi) ((mapsP l lo hi (l.cuts lo hi)).set t (row.set k g'))) := by
  have l0 := hF.lo0
  have s0 := smallW (f := f) o l4 (by omega) h3 sf
  have tl := (List.getElem?_eq_some_iff.mp ht).1
  have kl := (List.getElem?_eq_some_iff.mp hk).1
  refine tab_ref (s0.cuts (fun c hc => .inl hc) s0.cl (fun r hr => ?_) (by rw [List.length_set]; exact s0.ml)) fun _ T => ?_
  · rcases List.mem_or_eq_of_mem_set hr with z | rfl
    · exact .inl z
    · refine .inr ?_
      rw [List.length_set]
      exact s0.rl row (List.mem_of_getElem? ht)
  · obtain ⟨htc, rfl⟩ := mapsP_at ht
    obtain ⟨k1, rfl⟩ := mapP_get hk
    obtain ⟨c, hc⟩ := ris_get l (l.cuts lo hi) (t := t) (by omega)
    obtain ⟨d, hd⟩ := ris_get l (l.cuts lo hi) (t := t + 1) (by omega)
    have hh := T.led t _ (List.getElem?_set_self tl) c d (by rw [risTW o]; exact hc) (by rw [risTW o]; exact hd) k g' (List.getElem?_set_self kl)
    exact hg ((hF.led_iff o (by omega) k1 htc hc hd).mp hh.2.2)
/-- a cut left out, and its map -/
theorem ref_leftW (o : l.Ok) (hF : Hold l lo hi f) (l4 : -4 ≤ lo) (h3 : hi ≤ l.top + 3) (sf : Sz 250 f) {t : Nat} {c : List Int} (hc : (l.cuts lo hi)[t]? = some c) : Refused l (tabD f lo hi ((l.cuts lo hi).eraseIdx t) ((mapsP l lo hi (l.cuts lo hi)).eraseIdx t)) := by
  have l0 := hF.lo0
  have tb := top_bound o
  have s0 := smallW (f := f) o l4 (by omega) h3 sf
  have tl' := (List.getElem?_eq_some_iff.mp hc).1
  have l1 := List.length_eraseIdx_le (l.cuts lo hi) t
  have l2 := List.length_eraseIdx_le (mapsP l lo hi (l.cuts lo hi)) t
  refine tab_ref (s0.cuts (fun c h => .inl (List.mem_of_mem_eraseIdx h)) (by have := s0.cl; omega) (fun r hr => .inl (List.mem_of_mem_eraseIdx hr)) (by have := s0.ml; omega)) fun _ T => ?_
  obtain ⟨i, i1, i2, ic⟩ := cut_row (List.mem_of_getElem? hc)
  have er : risT l ((l.cuts lo hi).eraseIdx t) = (risingP l (l.cuts lo hi)).eraseIdx (t + 1) := by
    rw [risT_of l (fun c h => lastW o l4 (by omega) (List.mem_of_mem_eraseIdx h)), ris_erase l tl']
  obtain ⟨np, ca⟩ := (hF.cut_at o hc i1 i2 ic rfl rfl).2
  have cf := ca f (Int.le_refl _)
  obtain ⟨b, hb⟩ := ris_get l (l.cuts lo hi) (t := t) (by omega)
  obtain ⟨d, hd⟩ := ris_get l (l.cuts lo hi) (t := t + 1 + 1) (by omega)
  have hcr : (risingP l (l.cuts lo hi))[t + 1]? = some c := by rw [ris_at l _ t tl']; exact hc
  have asc := hF.asc (Int.le_refl f) t b c hb hcr
  obtain ⟨k, ek, hk⟩ := mapP_hasW (l := l) i1 i2 ((l.cuts lo hi).take (t + 1))
  have hh := T.led t _ (by rw [List.getElem?_eraseIdx, if_neg (by omega)]; exact mapsP_get l lo hi (l.cuts lo hi) (by omega)) b d (by rw [er, List.getElem?_eraseIdx, if_pos (by omega)]; exact hb) (by rw [er, List.getElem?_eraseIdx, if_neg (by omega)]; exact hd) k _ hk
  have h3 := hh.2.2.1
  rw [ek] at h3
  have h4 := h3 np f (Int.le_refl _)
  omega
/-- a window by one too small -/
theorem ref_topW (o : l.Ok) (h1 : -4 ≤ lo) (h2 : lo ≤ 1) (h : 0 < f + lo) (hf : 1 ≤ f) (sf : Sz 250 f) : Refused l (tabD f lo (l.top - 1) (l.cuts lo (l.top - 1)) (mapsP l lo (l.top - 1) (l.cuts lo (l.top - 1)))) := by
  have tb := top_bound o
  refine tab_ref (smallW o h1 h2 (by omega) sf) fun hf' T => ?_
  have g2 := hf'.2.1
  have g3 := T.fall f (Int.le_refl _)
  rw [show l.top - 1 + 1 = l.top by omega] at g3
  have := fall_less o (by omega) (r := f) hf
  omega
theorem ref_noW (o : l.Ok) (h1 : -4 ≤ lo) (h2 : lo ≤ 1) (h3 : hi ≤ l.top + 3) (sf : Sz 250 f) (h : 0 < lo ∨ hi < 1 ∨ f + lo < 1) : Refused l (tabD f lo hi (l.cuts lo hi) (mapsP l lo hi (l.cuts lo hi))) := ref_no (smallW o h1 h2 h3 sf) fun z => by
  have := z.1; have := z.2.1; have := z.2.2.1
  omega
end
end FWL
namespace FWL
open PySem PySem.Spec PyProof.Rows L2 FW
set_option hygiene false in
local macro_rules | `(tactic| walk_at "rv") => `(tactic| (have nt := (); have nz := (); have nH := (); have ne := (); have nh := ()))
/-! ### k15: the law's own table -/
def tabsM (K : PySem.W.Frag) : List (Addr × Str) := [((He.cT K ("_law_made", none)).2, (("_law_made" : Str) ++ ".<locals>.") ++ "<lambda>")]
theorem tabsM_of {K : PySem.W.Frag} {H : Hp} (h : ∀ p ∈ ([("_law_made", none)] : List He.Defn).map (He.cT K), H p.2 = some (.tbl #[])) : LamX.Tabs (tabsM K) H := fun p hp => by
  rw [List.mem_singleton.mp hp]
  exact LamX.TabS.nil (h _ (List.mem_map.mpr ⟨_, List.mem_singleton.mpr rfl, rfl⟩))
def rd_l_made_L1 (K : PySem.W.Frag) : TS := tDrop (tBM K "list" rExtend (tVar 7) (tCons (tLc (iList K (tVar 8)) (gName 9) (tTest (tOp (rNotInD K) (tVar 9) (tVar 7))) (tVar 9) [9]) (tNil)))
def rd_l_made_L2 (K : PySem.W.Frag) : TS := tSeq (tAsg (tLc (iList K (tOp (rIxL K) (tVar 5) (tVar 12))) (gName 9) (tTest (tOp (rInD K) (tVar 9) (tSl (rSlL K) (tVar 7) (tNoPart) (tPart (tVar 11))))) (tVar 9) [9]) (gName 13)) (tDrop (tBM K "list" rAppend (tVar 8) (tCons (tOp FW.rAdd (tCall (sp_l_least K) [] E0 (tCons (tVar 0) (tCons (tVar 6) (tNil)))) (tCB (Evl.rLenS K) (tCons (tVar 13) (tNil)))) (tNil))))
def rd_l_made_L3 (K : PySem.W.Frag) : TS := tSeq (tAsg (tLst (tNil)) (gName 8)) (tSeq (tFor (FW.iEnumR (tRg2 (tVar 1) (tOp FW.rAdd (tVar 2) (tC (.int 1))))) (gTup K 2 (gCons (gName 12) (gCons (gName 6) (gNil)))) (rd_l_made_L2 K)) (tDrop (tBM K "list" rAppend (tVar 10) (tCons (tCB (FW.rTupS K) (tCons (tVar 8) (tNil))) (tNil)))))
def rd_l_made (K : PySem.W.Frag) : TS := tSeq (tAsg (tOp (rIxT K) (tVar 0) (tC (.int 0))) (gName 4)) (tSeq (tAsg (tLc (iRng2 (tCons (tVar 1) (tCons (tOp FW.rAdd (tVar 2) (tC (.int 1))) (tNil)))) (gName 6) (tYes) (tCall (sp_l_turning K) [] E0 (tCons (tVar 0) (tCons (tVar 6) (tNil)))) [6]) (gName 5)) (tSeq (tAsg (tLst (tNil)) (gName 7)) (tSeq (tFor (iList K (tVar 5)) (gName 8) (rd_l_made_L1 K)) (tSeq (tAsg (FWK.tSortKey (FWL.tabsM K) K (tVar 7) (tRevL K (tOp rCat (tCB (Evl.rListS K) (tCons (tVar 14) (tNil))) (tOp rRep (tLst (tCons (tC (.int 0)) (tNil))) (tOp FW.rSub (tVar 4) (tCB (Evl.rLenS K) (tCons (tVar 14) (tNil)))))))) (gName 7)) (tSeq (tAsg (tLst (tNil)) (gName 10)) (tSeq (tFor (iRng1 (tCons (tOp FW.rAdd (tCB (Evl.rLenS K) (tCons (tVar 7) (tNil))) (tC (.int 1))) (tNil))) (gName 11) (rd_l_made_L3 K)) (tRet (tTup (tCons (tVar 3) (tCons (tVar 1) (tCons (tVar 2) (tCons (tCB (FW.rTupS K) (tCons (tVar 7) (tNil))) (tCons (tCB (FW.rTupS K) (tCons (tVar 10) (tNil))) (tNil))))))))))))))
/-- rows of cuts, one for each gap -/
def Rws (l : Lp) (H : Hp) (ys : List V) (is : List Int) : Prop := Paired (fun y i => ∃ a xs, y = V.ref a ∧ H a = some (.lst xs) ∧ Pls H xs (l.rowC i)) ys is
theorem Rws.ext {l : Lp} {H H' : Hp} {ys : List V} {is : List Int} (h : Rws l H ys is) (e : Ext H H') : Rws l H' ys is := Paired.mapP h fun _ _ ⟨a, xs, h1, h2, h3⟩ => ⟨a, xs, h1, e _ _ h2, h3.ext e⟩
theorem Rws.at {l : Lp} {H : Hp} : ∀ {ys : List V} {is : List Int} {n : Nat} {i : Int}, Rws l H ys is → is[n]? = some i → ∃ a xs, ys[n]? = some (.ref a) ∧ H a = some (.lst xs) ∧ Pls H xs (l.rowC i)
  | _, _, _, _, .nil, h => by cases h
  | _, _, 0, _, .cons ⟨a, xs, e, h2, h3⟩ _, h => by cases h; exact ⟨a, xs, by rw [e]; rfl, h2, h3⟩
  | _, _, n + 1, _, .cons _ r, h => Rws.at (n := n) r h
theorem rgZ_get {lo hi : Int} {n : Nat} (h : lo + (n : Nat) < hi) : (rgZ lo hi)[n]? = some (lo + (n : Nat)) := by
  unfold rgZ
  rw [List.getElem?_map, List.getElem?_range (by omega)]; rfl
theorem rgZ_nil (lo : Int) : rgZ lo (lo + ((0 : Nat) : Int)) = [] := by
  have := rgZ_len lo (lo + ((0 : Nat) : Int))
  rw [show (lo + ((0 : Nat) : Int) - lo).toNat = 0 by omega] at this
  exact List.eq_nil_of_length_eq_zero this
theorem cons_le {a b : List Int} : (0 :: a ≤ 0 :: b) ↔ a ≤ b := by
  rw [List.cons_le_cons_iff]
  constructor
  · rintro (h | h)
    · omega
    · exact h.2
  · exact fun h => .inr ⟨rfl, h⟩
/-- a table of a window -/
def TabQ (H : Hp) (t : Addr) (l : Lp) (f lo hi : Int) : Prop := ∃ (tc tm : Addr) (xs ys : List V), H t = some (.tup [.int f, .int lo, .int hi, .ref tc, .ref tm]) ∧ H tc = some (.tup xs) ∧ Pls H xs (l.cuts lo hi) ∧ H tm = some (.tup ys) ∧ Pls H ys (mapsP l lo hi (l.cuts lo hi))
def sp_l_made (K : PySem.W.Frag) : Sp := fun vs H Q _ => ∃ (t : Addr) (l : Lp) (lo hi f : Int), vs = [.ref t, .int lo, .int hi, .int f] ∧ H t = some (.tup l.V) ∧ l.Ok ∧ LamX.Tabs (tabsM K) H ∧ -4 ≤ lo ∧ lo ≤ 1 ∧ 0 ≤ hi ∧ hi ≤ 30 ∧
  ∀ T H', LamX.ExtN H H' → LamX.Tabs (tabsM K) H' → TabQ H' T l f lo hi → Q (.ref T) H'
section
variable {K : PySem.W.Frag} {H : Hp} {D : Ends} {t R C B : Addr} {l : Lp} {lo hi f : Int} {xs ys zs : List V} {cs : List (List Int)}
/-- a gap of a map -/
theorem made_L2 {n m : Nat} {W : Addr} {ws : List Int} {v9 v13 : Option V} (o : l.Ok) (hT : H t = some (.tup l.V)) (hR : H R = some (.lst ys)) (hr : Rws l H ys (rgZ lo (hi + 1))) (hC : H C = some (.lst xs)) (hP : Pls H xs cs) (cl : cs.length ≤ 1000) (lo1 : -4 ≤ lo) (hi2 : hi ≤ 30)
    (hW : H W = some (.lst (ws.map V.int))) (wl : ws.length ≤ 1000) (hm : lo + (m : Nat) ≤ hi) (hn : n ≤ cs.length)
    (k : ∀ H' u9 u13, (∀ b u, b ≠ W → H b = some u → H' b = some u) → H' W = some (.lst ((ws ++ [l.ll (lo + (m : Nat)) + (l.passed (lo + (m : Nat)) (cs.take n) : Nat)]).map V.int)) → D.nx [some (.ref t), some (.int lo), some (.int hi), some (.int f), some (.int l.k), some (.ref R), some (.int (lo + (m : Nat))), some (.ref C), some (.ref W), u9, some (.ref B), some (.int (n : Nat)), some (.int (m : Nat)), u13] H') :
    rd_l_made_L2 K D [some (.ref t), some (.int lo), some (.int hi), some (.int f), some (.int l.k), some (.ref R), some (.int (lo + (m : Nat))), some (.ref C), some (.ref W), v9, some (.ref B), some (.int (n : Nat)), some (.int (m : Nat)), v13] H := by
  have sz := sizeLine_eq
  have xl := hP.len
  obtain ⟨a, rs, hra, ha, hPa⟩ := hr.at (rgZ_get (show lo + (m : Nat) < hi + 1 by omega))
  have y4 : rs.length ≤ 4 := by
    rw [hPa.len]
    unfold Lp.rowC
    rw [List.length_map]
    exact rowJ_len o _
  unfold rd_l_made_L2
  walk_at "rx"
  refine ha_ixL hR (atI_of hra rfl) ?_
  walk_at "rx"
  refine i_list' _ ?_ (SqL.of ha)
  refine lcLX (P := fun x v => v = x) (p := fun x => (cs.take n).any fun z => decide (z = polyAt H x)) (SqL.of ha) (by omega) (fun v => rfl) (fun x hx H3 R3 e3 k => ?_) (fun x hx px H3 R3 e3 k => ?_) fun D' G3 zs' hD eG hG hp => ?_
  · obtain ⟨c, rfl, hc⟩ := hPa.at.2 x hx
    walk_at "re"
    refine e_sl (e_var (e_noP (e_part (e_var (e_part' ?_) rfl))) rfl)
    refine e_slL (fun b hb => ?_) (SqL.of (e3 _ _ hC))
    rw [cutV_take]
    generalize hG : upd H3 b _ = G
    obtain ⟨e1, hb1⟩ := al_of hb hG
    clear hG
    have e31 := e3.tr e1
    refine ⟨tupD (polyAt H (.ref c)), (cs.take n).map tupD, dpTup (e31 _ _ hc), .lst (SqL.of hb1) (dpPls ((hP.take n).ext e31)), shT _, shPL _, ?_⟩
    rw [any_tupD]
    walk_at "re"
    exact k _ e1
  · refine FW.e_var ?_ rfl
    exact k _ _ Ext.rfl' rfl
  have e0 := paired_eq hp
  subst e0
  have hPf := Pls.filter (p := fun x => (cs.take n).any fun z => decide (z = polyAt H x)) (q := fun p => (cs.take n).any fun z => decide (z = p)) (fun x => rfl) hPa
  have fl : (rs.filter fun x => (cs.take n).any fun z => decide (z = polyAt H x)).length = l.passed (lo + (m : Nat)) (cs.take n) := hPf.len
  walk_at "rx"
  refine ⟨t, l, _, rfl, eG _ _ hT, o, by omega, fun H4 e4 => ?_⟩
  walk_at "rx"
  rw [fl]
  have e04 := eG.tr e4
  refine ha_app (e04 _ _ hW) (by rw [List.length_map]; omega) ?_
  walk_at "rx"
  exact k _ _ _ (fun b u nb h => by rw [upd_ne nb]; exact e04 _ _ h) (by rw [upd_same, List.map_append]; rfl)
theorem walk_enumR (lo : Int) (n : Nat) : Walk (FW.IteR lo n) n (fun _ => True) (fun i H v H' => ∃ T, v = .ref T ∧ H T = none ∧ H' = upd H T (.tup [.int (i : Nat), .int (lo + (i : Nat))])) := ⟨fun i _ hi _ => hi, fun _ _ => rfl, fun i H v H' _ _ y => y⟩
theorem for_enumR {te : L2.St → Hp → (Int → Int → Hp → Prop) → Prop} {g : TG} {tb : TS} {σ : L2.St} {a b : Int} (Pv : Nat → L2.St → Hp → Prop)
    (hv : ∀ R : Int → Int → Hp → Prop, R a b H → te σ H R) (sm : Builtin.Range.small a b 1 = true) (h0 : Pv 0 σ H)
    (hs : ∀ i σ H' T, i < (b - a).toNat → Pv i σ H' → H' T = none → g (.ref T) σ (upd H' T (.tup [.int (i : Nat), .int (a + (i : Nat))])) fun σ2 H2 => tb { D with nx := Pv (i + 1), ct := Pv (i + 1), bk := D.nx } σ2 H2) (hd : ∀ σ H', Pv (b - a).toNat σ H' → D.nx σ H') :
    FW.iEnumR te σ H (fun J H1 => ForK g tb D σ J H1) := by
  refine i_enumR (hv _ ⟨sm, ?_⟩)
  refine for_it (walk_enumR a (b - a).toNat) Pv h0 (fun _ _ _ _ _ => trivial) ?_ hd
  rintro i x σ H' H'' hi p ⟨T, rfl, hT, rfl⟩
  exact hs i σ H' T hi p hT
theorem made_L3 {n : Nat} {fs : List (List Int)} {v6 v8 v9 v12 v13 : Option V} (o : l.Ok) (hT : H t = some (.tup l.V)) (hR : H R = some (.lst ys)) (hr : Rws l H ys (rgZ lo (hi + 1))) (hC : H C = some (.lst xs)) (hP : Pls H xs cs) (cl : cs.length ≤ 1000) (lo1 : -4 ≤ lo) (lo2 : lo ≤ 1) (hi1 : 0 ≤ hi) (hi2 : hi ≤ 30)
    (hB : H B = some (.lst zs)) (hz : Pls H zs fs) (zl : fs.length ≤ 2000) (hn : n ≤ cs.length)
    (k : ∀ H' T u6 u8 u9 u12 u13, (∀ b u, b ≠ B → H b = some u → H' b = some u) → H' B = some (.lst (zs ++ [.ref T])) → H' T = some (.tup ((mapP l lo hi (cs.take n)).map V.int)) → D.nx [some (.ref t), some (.int lo), some (.int hi), some (.int f), some (.int l.k), some (.ref R), u6, some (.ref C), u8, u9, some (.ref B), some (.int (n : Nat)), u12, u13] H') :
    rd_l_made_L3 K D [some (.ref t), some (.int lo), some (.int hi), some (.int f), some (.int l.k), some (.ref R), v6, some (.ref C), v8, v9, some (.ref B), some (.int (n : Nat)), v12, v13] H := by
  have sz := sizeLine_eq
  have zl2 := hz.len
  unfold rd_l_made_L3
  walk_at "rx"
  have zn := nz
  refine for_enumR (a := lo) (b := hi + 1) (fun m σ H' => Ext H H' ∧ ∃ u6 u9 u12 u13 : Option V, H' nt = some (.lst (((rgZ lo (lo + (m : Nat))).map fun i => l.ll i + (l.passed i (cs.take n) : Nat)).map V.int)) ∧ σ = [some (.ref t), some (.int lo), some (.int hi), some (.int f), some (.int l.k), some (.ref R), u6, some (.ref C), some (.ref nt), u9, some (.ref B), some (.int (n : Nat)), u12, u13]) (fun R q => ?_) (small_one (by omega) (by omega) (by omega) (by omega)) ⟨ne, _, _, _, _, by rw [rgZ_nil]; exact nh, rfl⟩ ?_ ?_
  · unfold tRg2
    walk_at "rx"
    exact ⟨_, _, rfl, rfl, q⟩
  · rintro m σ H' T hm ⟨e, u6, u9, u12, u13, hW, rfl⟩ hTn
    generalize hG : upd H' T _ = G
    obtain ⟨eG, gT⟩ := al_of hTn hG
    clear hG
    have e0 := e.tr eG
    refine g_tup ?_ (SqT.of gT) rfl
    walk_at "rx"
    refine made_L2 (ws := (rgZ lo (lo + (m : Nat))).map fun i => l.ll i + (l.passed i (cs.take n) : Nat)) o (e0 _ _ hT) (e0 _ _ hR) (hr.ext e0) (e0 _ _ hC) (hP.ext e0) cl lo1 hi2 (eG _ _ hW) (by rw [List.length_map, rgZ_len]; omega) (by omega) hn fun H2 w9 w13 kp h2 => ?_
    refine ⟨fun b u hb => kp b u (ne_of_none hb zn) (e0 _ _ hb), _, _, _, _, ?_, rfl⟩
    rw [h2, rgZ_succ]
    simp only [List.map_append, List.map_cons, List.map_nil]
  · rintro σ H' ⟨e, u6, u9, u12, u13, hW, rfl⟩
    have er : lo + (((hi + 1 - lo).toNat : Nat) : Int) = hi + 1 := by omega
    rw [er] at hW
    have hW' : H' nt = some (.lst ((mapP l lo hi (cs.take n)).map V.int)) := hW
    walk_at "rx"
    walk_at "rv"
    rename_i q1 z1 H1 e1 h1
    have hBn := e1 _ _ (e _ _ hB)
    refine ha_app hBn (by omega) ?_
    walk_at "rx"
    refine k _ q1 _ _ _ _ _ (fun b' u' hb' h => ?_) upd_same ?_
    · rw [upd_ne hb']; exact e1 _ _ (e _ _ h)
    · rw [upd_ne (ne_of h1 hBn (fun z => nomatch z))]; exact h1
end
end FWL
namespace FWL
open PySem PySem.Spec PyProof.Rows L2 FW
set_option hygiene false in
local macro_rules | `(tactic| walk_at "rv") => `(tactic| (have nt := (); have nz := (); have nH := (); have ne := (); have nh := ()))
/-! ### k15: the law's own table, joined -/
section
variable {K : PySem.W.Frag} {H : Hp} {D : Ends} {t R C B : Addr} {l : Lp} {lo hi f : Int} {xs ys zs : List V}
theorem made_5 {v6 v8 v9 v10 v11 v12 v13 : Option V} (o : l.Ok) (hT : H t = some (.tup l.V)) (hR : H R = some (.lst ys)) (hr : Rws l H ys (rgZ lo (hi + 1))) (hC : H C = some (.lst xs)) (hP : Pls H xs (l.cuts lo hi)) (lo1 : -4 ≤ lo) (lo2 : lo ≤ 1) (hi1 : 0 ≤ hi) (hi2 : hi ≤ 30)
    (k : ∀ T H', Ext H H' → TabQ H' T l f lo hi → D.rt (.ref T) H') :
    (tSeq (tAsg (tLst (tNil)) (gName 10)) (tSeq (tFor (iRng1 (tCons (tOp FW.rAdd (tCB (Evl.rLenS K) (tCons (tVar 7) (tNil))) (tC (.int 1))) (tNil))) (gName 11) (rd_l_made_L3 K)) (tRet (tTup (tCons (tVar 3) (tCons (tVar 1) (tCons (tVar 2) (tCons (tCB (FW.rTupS K) (tCons (tVar 7) (tNil))) (tCons (tCB (FW.rTupS K) (tCons (tVar 10) (tNil))) (tNil)))))))))) D [some (.ref t), some (.int lo), some (.int hi), some (.int f), some (.int l.k), some (.ref R), v6, some (.ref C), v8, v9, v10, v11, v12, v13] H := by
  have cl := cuts_len o lo hi
  have xl := hP.len
  have sz := sizeLine_eq
  walk_at "rx"
  rotate_left
  · rw [xl]; constructor <;> omega
  have hF0 := nz
  have et : ((xs.length : Int) + 1).toNat = (l.cuts lo hi).length + 1 := by rw [xl]; omega
  rw [et]
  refine for_range (lo := 0) (n := (l.cuts lo hi).length + 1) (fun n σ H' => Ext H H' ∧ ∃ (zs : List V) (u6 u8 u9 u11 u12 u13 : Option V), H' nt = some (.lst zs) ∧ Pls H' zs ((List.range n).map fun t => mapP l lo hi ((l.cuts lo hi).take t)) ∧ σ = [some (.ref t), some (.int lo), some (.int hi), some (.int f), some (.int l.k), some (.ref R), u6, some (.ref C), u8, u9, some (.ref nt), u11, u12, u13]) ⟨ne, [], _, _, _, _, _, _, nh, .nil, rfl⟩ ?_ ?_
  · rintro n σ H' hn ⟨e, zs, u6, u8, u9, u11, u12, u13, hF, hz, rfl⟩
    refine g_name ?_
    rw [show (0 + (n : Int)) = (n : Int) by omega]
    refine made_L3 (n := n) o (e _ _ hT) (e _ _ hR) (hr.ext e) (e _ _ hC) (hP.ext e) (by omega) lo1 lo2 hi1 hi2 hF hz (by rw [List.length_map, List.length_range]; omega) (by omega) fun H2 T u6 u8 u9 u12 u13 kp h2 ht => ?_
    have e2 : Ext H H2 := fun b o' hb => kp b o' (ne_of_none hb hF0) (e b o' hb)
    refine ⟨e2, _, _, _, _, _, _, _, h2, ?_, rfl⟩
    rw [List.range_succ, List.map_append]
    have hz2 : Pls H2 zs ((List.range n).map fun t => mapP l lo hi ((l.cuts lo hi).take t)) := Paired.mapP hz fun y c ⟨b, h1, h3⟩ => ⟨b, h1, kp b _ (ne_of h3 hF (fun z => nomatch z)) h3⟩
    exact hz2.snoc ht
  · rintro σ H' ⟨e, zs, u6, u8, u9, u11, u12, u13, hF, hz, rfl⟩
    have hC' := e _ _ hC
    walk_at "rx"
    walk_at "rv"
    rename_i q1 z1 H1 e1 h1 q2 z2 H2 e2 h2 q3 z3 H3 e3 h3
    have e13 := e1.tr (e2.tr e3)
    exact k _ _ (e.tr e13) ⟨q1, q2, xs, zs, h3, e3 _ _ (e2 _ _ h1), hP.ext (e.tr e13), e3 _ _ h2, hz.ext e13⟩
theorem made_4 {v6 v8 v9 v10 v11 v12 v13 : Option V} (o : l.Ok) (hT : H t = some (.tup l.V)) (hR : H R = some (.lst ys)) (hr : Rws l H ys (rgZ lo (hi + 1))) (hC : H C = some (.lst xs)) (hP : Pls H xs (l.accC lo (hi + 1 - lo).toNat)) (hTs : LamX.Tabs (tabsM K) H) (lo1 : -4 ≤ lo) (lo2 : lo ≤ 1) (hi1 : 0 ≤ hi) (hi2 : hi ≤ 30)
    (k : ∀ T H', LamX.ExtN H H' → LamX.Tabs (tabsM K) H' → TabQ H' T l f lo hi → D.rt (.ref T) H') :
    (tSeq (tAsg (FWK.tSortKey (FWL.tabsM K) K (tVar 7) (tRevL K (tOp rCat (tCB (Evl.rListS K) (tCons (tVar 14) (tNil))) (tOp rRep (tLst (tCons (tC (.int 0)) (tNil))) (tOp FW.rSub (tVar 4) (tCB (Evl.rLenS K) (tCons (tVar 14) (tNil)))))))) (gName 7)) (tSeq (tAsg (tLst (tNil)) (gName 10)) (tSeq (tFor (iRng1 (tCons (tOp FW.rAdd (tCB (Evl.rLenS K) (tCons (tVar 7) (tNil))) (tC (.int 1))) (tNil))) (gName 11) (rd_l_made_L3 K)) (tRet (tTup (tCons (tVar 3) (tCons (tVar 1) (tCons (tVar 2) (tCons (tCB (FW.rTupS K) (tCons (tVar 7) (tNil))) (tCons (tCB (FW.rTupS K) (tCons (tVar 10) (tNil))) (tNil))))))))))) D [some (.ref t), some (.int lo), some (.int hi), some (.int f), some (.int l.k), some (.ref R), v6, some (.ref C), v8, v9, v10, v11, v12, v13] H := by
  have hk := o.hk
  have sz := sizeLine_eq
  have xl := hP.len
  have al := acc_len o lo (hi + 1 - lo).toNat
  have hat := hP.at
  generalize hTL : (tSeq (tAsg (tLst (tNil)) (gName 10)) (tSeq (tFor (iRng1 (tCons (tOp FW.rAdd (tCB (Evl.rLenS K) (tCons (tVar 7) (tNil))) (tC (.int 1))) (tNil))) (gName 11) (rd_l_made_L3 K)) (tRet (tTup (tCons (tVar 3) (tCons (tVar 1) (tCons (tVar 2) (tCons (tCB (FW.rTupS K) (tCons (tVar 7) (tNil))) (tCons (tCB (FW.rTupS K) (tCons (tVar 10) (tNil))) (tNil)))))))))) = TL
  walk_at "rx"
  refine (show ∀ {ta tb : TE} {σ : L2.St} {H : Hp} {Q : VK}, (ta σ H fun v H1 => ∃ (l : Addr) (xs : List V) (kd : V → PyData), v = .ref l ∧ SqL K H1 l xs ∧ xs.length ≤ 1000 ∧
      PySem.W.AllAlike (xs.map kd) ∧ PySem.W.Sortable (xs.map kd) ∧ (∀ x, x ∈ xs → (kd x).depth ≤ 8) ∧ LamX.Tabs (tabsM K) H1 ∧ ∀ H2, LamX.ExtN H1 H2 → LamX.Tabs (tabsM K) H2 →
        (∀ x, x ∈ xs → ∀ H3, Ext H2 H3 → tb (σ ++ [some x]) H3 fun w H4 => Ext H3 H4 ∧ Dp K H4 w (kd x)) ∧
        ∀ p H3, Ext H2 H3 → H2 p = none → H3 p = some (.lst (xs.mergeSort (PySem.W.dataLe false kd))) → Q (.ref p) H3) → FWK.tSortKey (tabsM K) K ta tb σ H Q from fun h => h) ?_
  walk_at "rx"
  refine ⟨C, xs, fun v => .list ((polyAt H v).reverse.map PyData.int), rfl, SqL.of hC, by omega, PySem.W.AllAlike.of fun a b => PySem.W.alike_ints _ _, PySem.W.Sortable.others fun b => ⟨(fun z => nomatch z), fun _ z => nomatch z⟩, fun x hx => ?_, hTs, fun H2 eN T2 => ⟨fun x hx H3 e3 => ?_, fun q1 H3 e3 ht h3 => ?_⟩⟩
  · show (PyData.list ((polyAt H x).reverse.map PyData.int)).depth ≤ 8
    rw [PyData.depth, depI]; decide
  · obtain ⟨a, rfl, ha⟩ := hat.2 x hx
    have ha3 := e3 _ _ (nx_tup eN ha)
    have hmem : polyAt H (.ref a) ∈ l.accC lo (hi + 1 - lo).toNat := by rw [hat.1]; exact List.mem_map.mpr ⟨_, hx, rfl⟩
    obtain ⟨m, _, hr⟩ := acc_mem.mp hmem
    obtain ⟨j, _, _, _, er⟩ := row_ok o hr
    have hlen : (((polyAt H (.ref a)).length : Nat) : Int) = l.k := by rw [er, restE_len hk]; omega
    refine (show ∀ {te : TE} {σ : L2.St} {H : Hp} {Q : VK}, (te σ H fun x H1 => ∃ a xs, x = .ref a ∧ SqL K H1 a xs ∧ ∀ p, H1 p = none → Q (.ref p) (upd H1 p (.lst xs.reverse))) → tRevL K te σ H Q from fun h => h) ?_
    walk_at "ry"
    refine e_listS (fun b hb => ?_) (.inr (SqT.of ha3))
    generalize hG : upd H3 b _ = G
    obtain ⟨e5, gb⟩ := al_of hb hG
    clear hG
    walk_at "ry"
    refine e_len ?_ (.inr (SqT.of ((e5.tr ne) _ _ ha3)))
    walk_at "ry"
    rw [List.length_map, hlen, Int.sub_self]
    refine e_rep (fun p hp => ?_) nh (by decide) (by decide)
    generalize hG : upd nH p _ = G2
    obtain ⟨e6, gp⟩ := al_of hp hG
    clear hG
    refine e_catX (e6 _ _ (ne _ _ gb)) gp (by rw [List.length_map, List.length_replicate]; omega) fun q1 G3 z3 e7 h7 => ?_
    refine ⟨q1, _, rfl, SqL.of h7, fun u hu => ⟨(e5.tr (ne.tr (e6.tr e7))).tr (Ext.new hu), ?_⟩⟩
    have he : ((polyAt H (.ref a)).map V.int ++ List.replicate (0 : Int).toNat (V.int 0)).reverse = (polyAt H (.ref a)).reverse.map V.int := by
      rw [show List.replicate (0 : Int).toNat (V.int 0) = [] from rfl, List.append_nil, List.map_reverse]
    rw [he]
    exact .lst (SqL.of upd_same) (dpI _)
  · rw [PySem.W.dataLe_rows] at h3
    have eN2 := eN.trans (LamX.ExtN.of e3)
    have hS := hP.sorted
    have hle : (fun p q : V => decide ((polyAt H p).reverse ≤ (polyAt H q).reverse)) = fun p q : V => decide (keyL (polyAt H p) ≤ keyL (polyAt H q)) := by
      funext p q
      unfold keyL
      exact decide_eq_decide.mpr cons_le.symm
    rw [hle] at h3
    have hP3 : Pls H3 (xs.mergeSort fun p q => decide (keyL (polyAt H p) ≤ keyL (polyAt H q))) (sortP (l.accC lo (hi + 1 - lo).toNat)) := Paired.mapP hS fun v cs ⟨a, h1, h2⟩ => ⟨a, h1, nx_tup eN2 h2⟩
    have hr3 : Rws l H3 ys (rgZ lo (hi + 1)) := Paired.mapP hr fun y i ⟨a, xs, h1, h2, h3⟩ => ⟨a, xs, h1, nx_lst eN2 h2, Paired.mapP h3 fun v cs ⟨b, g1, g2⟩ => ⟨b, g1, nx_tup eN2 g2⟩⟩
    subst hTL
    exact made_5 o (nx_tup eN2 hT) (nx_lst eN2 hR) hr3 h3 hP3 lo1 lo2 hi1 hi2 fun T H4 e4 q => k T H4 (eN2.trans (LamX.ExtN.of e4)) (T2.ext fun b o h => e4 _ _ (e3 _ _ h)) q
theorem made_3 {v6 v8 v10 v11 v12 v13 : Option V} {H0 : Hp} (o : l.Ok) (E : Ext H0 H) (zC : H0 C = none) (hT : H0 t = some (.tup l.V)) (hR : H0 R = some (.lst ys)) (hr : Rws l H0 ys (rgZ lo (hi + 1))) (hC : H C = some (.lst [])) (hTs : LamX.Tabs (tabsM K) H0) (lo1 : -4 ≤ lo) (lo2 : lo ≤ 1) (hi1 : 0 ≤ hi) (hi2 : hi ≤ 30)
    (k : ∀ T H', LamX.ExtN H0 H' → LamX.Tabs (tabsM K) H' → TabQ H' T l f lo hi → D.rt (.ref T) H') :
    (tSeq (tFor (iList K (tVar 5)) (gName 8) (rd_l_made_L1 K)) (tSeq (tAsg (FWK.tSortKey (FWL.tabsM K) K (tVar 7) (tRevL K (tOp rCat (tCB (Evl.rListS K) (tCons (tVar 14) (tNil))) (tOp rRep (tLst (tCons (tC (.int 0)) (tNil))) (tOp FW.rSub (tVar 4) (tCB (Evl.rLenS K) (tCons (tVar 14) (tNil)))))))) (gName 7)) (tSeq (tAsg (tLst (tNil)) (gName 10)) (tSeq (tFor (iRng1 (tCons (tOp FW.rAdd (tCB (Evl.rLenS K) (tCons (tVar 7) (tNil))) (tC (.int 1))) (tNil))) (gName 11) (rd_l_made_L3 K)) (tRet (tTup (tCons (tVar 3) (tCons (tVar 1) (tCons (tVar 2) (tCons (tCB (FW.rTupS K) (tCons (tVar 7) (tNil))) (tCons (tCB (FW.rTupS K) (tCons (tVar 10) (tNil))) (tNil)))))))))))) D [some (.ref t), some (.int lo), some (.int hi), some (.int f), some (.int l.k), some (.ref R), v6, some (.ref C), v8, none, v10, v11, v12, v13] H := by
  have sz := sizeLine_eq
  have yl : ys.length = (hi + 1 - lo).toNat := by rw [Paired.length hr, rgZ_len]
  generalize hTL : (tSeq (tAsg (FWK.tSortKey (FWL.tabsM K) K (tVar 7) (tRevL K (tOp rCat (tCB (Evl.rListS K) (tCons (tVar 14) (tNil))) (tOp rRep (tLst (tCons (tC (.int 0)) (tNil))) (tOp FW.rSub (tVar 4) (tCB (Evl.rLenS K) (tCons (tVar 14) (tNil)))))))) (gName 7)) (tSeq (tAsg (tLst (tNil)) (gName 10)) (tSeq (tFor (iRng1 (tCons (tOp FW.rAdd (tCB (Evl.rLenS K) (tCons (tVar 7) (tNil))) (tC (.int 1))) (tNil))) (gName 11) (rd_l_made_L3 K)) (tRet (tTup (tCons (tVar 3) (tCons (tVar 1) (tCons (tVar 2) (tCons (tCB (FW.rTupS K) (tCons (tVar 7) (tNil))) (tCons (tCB (FW.rTupS K) (tCons (tVar 10) (tNil))) (tNil))))))))))) = TL
  refine s_seq ?_
  refine s_for ?_
  refine i_list ?_
  walk_at "rx"
  refine i_list' _ ?_ (SqL.of (E _ _ hR))
  refine for_list (K := K) (a := R) (xs := ys) (fun n σ H' => Ext H0 H' ∧ ∃ (xs : List V) (u8 : Option V), H' C = some (.lst xs) ∧ Pls H' xs (l.accC lo n) ∧ σ = [some (.ref t), some (.int lo), some (.int hi), some (.int f), some (.int l.k), some (.ref R), v6, some (.ref C), u8, none, v10, v11, v12, v13]) ⟨E, [], _, hC, .nil, rfl⟩ (fun i σ H' _ h => SqL.of (h.1 _ _ hR)) ?_ ?_
  · rintro n v σ H' hv ⟨e, xs, u8, hF, hP, rfl⟩
    have hn : n < (hi + 1 - lo).toNat := by have := (List.getElem?_eq_some_iff.mp hv).1; omega
    obtain ⟨a, rs, hra, h2, hP2⟩ := hr.at (rgZ_get (show lo + (n : Nat) < hi + 1 by omega))
    rw [hv] at hra
    cases hra
    refine g_name ?_
    unfold rd_l_made_L1
    have h2' := e _ _ h2
    have hP2' := hP2.ext e
    have y4 : rs.length ≤ 4 := by
      rw [hP2.len]
      unfold Lp.rowC
      rw [List.length_map]
      exact rowJ_len o _
    walk_at "rx"
    refine i_list' _ ?_ (SqL.of h2')
    refine lcLX (P := fun x v => v = x) (p := fun x => !(l.accC lo n).any fun z => decide (z = polyAt H' x)) (SqL.of h2') (by omega) (fun v => rfl) (fun x hx H3 R3 e3 k => ?_) (fun x hx px H3 R3 e3 k => ?_) fun D' G zs hD eG hG hp => ?_
    · obtain ⟨a, rfl, ha⟩ := hP2'.at.2 x hx
      walk_at "re"
      refine ⟨tupD (polyAt H' (.ref a)), (l.accC lo n).map tupD, dpTup (e3 _ _ ha), .lst (SqL.of (e3 _ _ hF)) (dpPls (hP.ext e3)), shT _, shPL _, ?_⟩
      rw [any_tupD]
      walk_at "re"
      exact k _ Ext.rfl'
    · refine FW.e_var ?_ rfl
      exact k _ _ Ext.rfl' rfl
    have e0 := paired_eq hp
    subst e0
    have hPf : Pls H' (rs.filter fun x => !(l.accC lo n).any fun z => decide (z = polyAt H' x)) ((l.rowC (lo + (n : Nat))).filter fun p => !(l.accC lo n).any fun z => decide (z = p)) := Pls.filter (q := fun p => !(l.accC lo n).any fun z => decide (z = p)) (fun x => rfl) hP2'
    have xl := hP.len
    have al := acc_len o lo n
    have fl := List.length_filter_le (fun x => !(l.accC lo n).any fun z => decide (z = polyAt H' x)) rs
    walk_at "rx"
    refine ⟨C, D', xs, _, rfl, rfl, eG _ _ hF, hG, by omega, ?_⟩
    walk_at "rx"
    have e4 := e.tr eG
    refine ⟨e4.upds zC, _, _, upd_same, ?_, rfl⟩
    have hFG := eG _ _ hF
    have up : ∀ b vs, G b = some (.tup vs) → upd G C (.lst (xs ++ rs.filter fun x => !(l.accC lo n).any fun z => decide (z = polyAt H' x))) b = some (.tup vs) := fun b vs h => by
      rw [upd_ne (ne_of h hFG (fun z => nomatch z))]; exact h
    have hA := (hP.ext eG).append (hPf.ext eG)
    exact Paired.mapP hA fun v cs ⟨a, h1, h2⟩ => ⟨a, h1, up _ _ h2⟩
  · rintro σ H' ⟨e, xs, u8, hF, hP, rfl⟩
    rw [yl] at hP
    subst hTL
    exact made_4 o (e _ _ hT) (e _ _ hR) (hr.ext e) hF hP (hTs.ext e) lo1 lo2 hi1 hi2 fun T H4 e4 T4 q => k T H4 ((LamX.ExtN.of e).trans e4) T4 q
end
theorem pure_l_made (K : PySem.W.Frag) (vs : List V) (H : Hp) (Q : VK) (E : XK) (h : sp_l_made K vs H Q E) : rd_l_made K { nx := fun _ H' => Q .non H', rt := Q } (start ["_law_parts_here", "_law_low", "_law_high", "_law_first", "_law_k", "_law_turning_here", "_law_i", "_law_cuts", "_law_row", "_law_cut", "_law_maps", "_law_t", "_law_at", "_law_passed"] vs) H := by
  obtain ⟨t, l, lo, hi, f, rfl, hT, o, hTs, lo1, lo2, hi1, hi2, q⟩ := h
  have sz := sizeLine_eq
  unfold rd_l_made
  generalize hTL : (tSeq (tFor (iList K (tVar 5)) (gName 8) (rd_l_made_L1 K)) (tSeq (tAsg (FWK.tSortKey (FWL.tabsM K) K (tVar 7) (tRevL K (tOp rCat (tCB (Evl.rListS K) (tCons (tVar 14) (tNil))) (tOp rRep (tLst (tCons (tC (.int 0)) (tNil))) (tOp FW.rSub (tVar 4) (tCB (Evl.rLenS K) (tCons (tVar 14) (tNil)))))))) (gName 7)) (tSeq (tAsg (tLst (tNil)) (gName 10)) (tSeq (tFor (iRng1 (tCons (tOp FW.rAdd (tCB (Evl.rLenS K) (tCons (tVar 7) (tNil))) (tC (.int 1))) (tNil))) (gName 11) (rd_l_made_L3 K)) (tRet (tTup (tCons (tVar 3) (tCons (tVar 1) (tCons (tVar 2) (tCons (tCB (FW.rTupS K) (tCons (tVar 7) (tNil))) (tCons (tCB (FW.rTupS K) (tCons (tVar 10) (tNil))) (tNil)))))))))))) = TL
  walk_at "rx"
  rotate_left
  · omega
  intro D0 hD
  refine lc_range (fun n H' => Ext H H' ∧ ∃ ys, H' D0 = some (.lst ys) ∧ ys.length = n ∧ Paired (fun y i => ∃ a xs, y = V.ref a ∧ a ≠ D0 ∧ H' a = some (.lst xs) ∧ Pls H' xs (l.rowC i)) ys (rgZ lo (lo + (n : Nat)))) ⟨Ext.new hD, [], upd_same, rfl, by rw [rgZ_nil]; exact .nil⟩ ?_ ?_
  · rintro n H' hn ⟨e, ys, hy, yl, hp⟩
    refine g_name ⟨rfl, ?_⟩
    walk_at "re"
    refine ⟨t, l, lo + (n : Nat), rfl, e _ _ hT, o, by omega, by omega, fun a xs H2 za e2 h2 hP => ?_⟩
    have aD : a ≠ D0 := fun z => by rw [z, hy] at za; cases za
    have up : ∀ {v : V} b vs, H2 b = some (.tup vs) → upd H2 D0 (.lst (ys ++ [v])) b = some (.tup vs) := fun b vs h => by
      rw [upd_ne (ne_of h (e2 _ _ hy) (fun z => nomatch z))]; exact h
    refine ⟨ys, e2 _ _ hy, by omega, (e.tr e2).upds hD, ys ++ [.ref a], upd_same, by rw [List.length_append, yl]; rfl, ?_⟩
    rw [rgZ_succ]
    refine Paired.snoc (Paired.mapP hp fun y i ⟨b, xs, h1, bD, h3, h4⟩ => ⟨b, xs, h1, bD, by rw [upd_ne bD]; exact e2 _ _ h3, Paired.mapP h4 fun v cs ⟨c, g1, g2⟩ => ⟨c, g1, up _ _ (e2 _ _ g2)⟩⟩) ⟨a, xs, rfl, aD, by rw [upd_ne aD]; exact h2, Paired.mapP hP fun v cs ⟨c, g1, g2⟩ => ⟨c, g1, up _ _ g2⟩⟩
  · rintro H' ⟨e, ys, hy, yl, hp⟩
    have er : lo + (((hi + 1 - lo).toNat : Nat) : Int) = hi + 1 := by omega
    rw [er] at hp
    have hr : Rws l H' ys (rgZ lo (hi + 1)) := Paired.mapP hp fun y i ⟨b, xs, h1, bD, h3, h4⟩ => ⟨b, xs, h1, h3, h4⟩
    walk_at "rx"
    subst hTL
    exact made_3 o ne nz (e _ _ hT) hy hr nh (hTs.ext e) lo1 lo2 hi1 hi2 fun T H4 e4 T4 q4 => q T H4 ((LamX.ExtN.of e).trans e4) T4 q4
end FWL
namespace FWL
open PySem PySem.Spec PyProof.Rows L2 FW
set_option hygiene false in
local macro_rules | `(tactic| walk_at "rv") => `(tactic| (have nt := (); have nz := (); have nH := (); have ne := (); have nh := ()))
/-! ### k15: a table that is spoilt -/
def BadW (H : Hp) (l : Lp) (v : V) : Prop := ∃ d, Dt H v d ∧ Refused l d
theorem TabQ.extT {H H' : Hp} {t : Addr} {l : Lp} {f lo hi : Int} (h : TabQ H t l f lo hi) (e : ExtT H H') : TabQ H' t l f lo hi := by
  obtain ⟨tc, tm, xs, ys, h1, h2, h3, h4, h5⟩ := h
  exact ⟨tc, tm, xs, ys, e _ _ h1, e _ _ h2, h3.extT e, e _ _ h4, h5.extT e⟩
theorem pls_erase {H : Hp} : ∀ {xs : List V} {ps : List (List Int)} (i : Nat), Pls H xs ps → Pls H (xs.eraseIdx i) (ps.eraseIdx i)
  | _, _, i, .nil => .nil
  | _, _, 0, .cons _ r => r
  | _, _, i + 1, .cons x r => .cons x (pls_erase i r)
theorem log_fewW {m : Int} (h0 : 0 < m) (h : m < 2 ^ 200) : m.natAbs.log2 < 9000 := by
  have h1 : m.natAbs < 2 ^ 200 := by
    have h3 : ((2 : Int) ^ 200) = ((2 ^ 200 : Nat) : Int) := by norm_cast
    omega
  have := (Nat.log2_lt (n := m.natAbs) (k := 200) (by omega)).mpr h1
  omega
def sp_l_wrong (K : PySem.W.Frag) : Sp := fun vs H Q _ => ∃ (p T : Addr) (l : Lp) (f lo hi : Int) (m : Nat), vs = [.ref p, .ref T] ∧ Strm H p m ∧ m < 10000 ∧ TabQ H T l f lo hi ∧ l.Ok ∧ Hold l lo hi f ∧ -4 ≤ lo ∧ l.top ≤ hi ∧ hi ≤ l.top + 3 ∧ Sz 250 f ∧
  ∀ v H', ExtB p H H' → BadW H' l v → Q v H'
def rd_l_wrong (K : PySem.W.Frag) : TS := tSeq (tAsg (tVar 1) (gTup K 5 (gCons (gName 2) (gCons (gName 3) (gCons (gName 4) (gCons (gName 5) (gCons (gName 6) (gNil)))))))) (tSeq (tAsg (tCall (sp_l_draw K) [] E0 (tCons (tVar 0) (tCons (tCB (Evl.rLenS K) (tCons (tVar 6) (tNil))) (tNil)))) (gName 7)) (tSeq (tAsg (tCall (sp_l_draw K) [] E0 (tCons (tVar 0) (tCons (tOp FW.rAdd (tOp FW.rSub (tVar 4) (tVar 3)) (tC (.int 1))) (tNil)))) (gName 8)) (tSeq (tAsg (tOp (rCatA K) (tOp (rCatA K) (tSl (rSlA K) (tOp (rIxT K) (tVar 6) (tVar 7)) (tNoPart) (tPart (tVar 8))) (tTup (tCons (tOp FW.rSub (tOp (rIxT K) (tOp (rIxT K) (tVar 6) (tVar 7)) (tVar 8)) (tC (.int 1))) (tNil)))) (tSl (rSlA K) (tOp (rIxT K) (tVar 6) (tVar 7)) (tPart (tOp FW.rAdd (tVar 8) (tC (.int 1)))) (tNoPart))) (gName 9)) (tSeq (tIfS (tOr (tTest (tOp (rEqD K) (tVar 5) (tTup (tNil)))) (tTest (tOp rEq (tCall (sp_l_draw K) [] E0 (tCons (tVar 0) (tCons (tC (.int 2)) (tNil)))) (tC (.int 0))))) (tRet (tTup (tCons (tVar 2) (tCons (tVar 3) (tCons (tVar 4) (tCons (tVar 5) (tCons (tOp (rCatA K) (tOp (rCatA K) (tSl (rSlA K) (tVar 6) (tNoPart) (tPart (tVar 7))) (tTup (tCons (tVar 9) (tNil)))) (tSl (rSlA K) (tVar 6) (tPart (tOp FW.rAdd (tVar 7) (tC (.int 1)))) (tNoPart))) (tNil)))))))) (tNext)) (tSeq (tAsg (tCall (sp_l_draw K) [] E0 (tCons (tVar 0) (tCons (tCB (Evl.rLenS K) (tCons (tVar 5) (tNil))) (tNil)))) (gName 7)) (tRet (tTup (tCons (tVar 2) (tCons (tVar 3) (tCons (tVar 4) (tCons (tOp (rCatA K) (tSl (rSlA K) (tVar 5) (tNoPart) (tPart (tVar 7))) (tSl (rSlA K) (tVar 5) (tPart (tOp FW.rAdd (tVar 7) (tC (.int 1)))) (tNoPart))) (tCons (tOp (rCatA K) (tSl (rSlA K) (tVar 6) (tNoPart) (tPart (tVar 7))) (tSl (rSlA K) (tVar 6) (tPart (tOp FW.rAdd (tVar 7) (tC (.int 1)))) (tNoPart))) (tNil)))))))))))))
section
variable {K : PySem.W.Frag} {H : Hp} {D : Ends} {p T tc tm ra : Addr} {l : Lp} {f lo hi : Int} {xs ys : List V}
/-- a cut left out -/
theorem wrong_5 {m : Nat} {v1 v7 v8 v9 : Option V} (o : l.Ok) (hF : Hold l lo hi f) (l4 : -4 ≤ lo) (h3 : hi ≤ l.top + 3) (sf : Sz 250 f) (S : Strm H p m) (hm : m < 20000) (hc : H tc = some (.tup xs)) (pc : Pls H xs (l.cuts lo hi)) (hmm : H tm = some (.tup ys)) (pm : Pls H ys (mapsP l lo hi (l.cuts lo hi))) (nn : 0 < (l.cuts lo hi).length)
    (k : ∀ v H', ExtB p H H' → BadW H' l v → D.rt v H') :
    (tSeq (tAsg (tCall (sp_l_draw K) [] E0 (tCons (tVar 0) (tCons (tCB (Evl.rLenS K) (tCons (tVar 5) (tNil))) (tNil)))) (gName 7)) (tRet (tTup (tCons (tVar 2) (tCons (tVar 3) (tCons (tVar 4) (tCons (tOp (rCatA K) (tSl (rSlA K) (tVar 5) (tNoPart) (tPart (tVar 7))) (tSl (rSlA K) (tVar 5) (tPart (tOp FW.rAdd (tVar 7) (tC (.int 1)))) (tNoPart))) (tCons (tOp (rCatA K) (tSl (rSlA K) (tVar 6) (tNoPart) (tPart (tVar 7))) (tSl (rSlA K) (tVar 6) (tPart (tOp FW.rAdd (tVar 7) (tC (.int 1)))) (tNoPart))) (tNil))))))))) D [some (.ref p), v1, some (.int f), some (.int lo), some (.int hi), some (.ref tc), some (.ref tm), v7, v8, v9] H := by
  have tb := top_bound o
  have cl := cuts_len o lo hi
  have ML := mapsP_len l lo hi (l.cuts lo hi)
  have xl : xs.length = (l.cuts lo hi).length := Paired.length pc
  have yl : ys.length = (l.cuts lo hi).length + 1 := (Paired.length pm).trans ML
  walk_at "rx"
  refine ha_lenT hc ?_
  walk_at "rx"
  refine ⟨p, _, m, rfl, S, by omega, by omega, log_fewW (by omega) (by omega), fun z H1 z0 z1 e1 s1 => ?_⟩
  obtain ⟨n, rfl⟩ : ∃ n : Nat, z = n := ⟨z.toNat, by omega⟩
  have t1 := ExtT.ofB S e1
  walk_at "rx"
  refine e_sl (e_var (e_noP (e_part (e_var (e_part' ?_) rfl))) rfl)
  refine sl_to (n := n) (t1 _ _ hc) (by omega) fun q1 H2 e2 q1h => ?_
  refine e_sl (e_var (e_part ?_) rfl)
  walk_at "rx"
  refine e_part' (e_noP ?_)
  rw [show ((n : Int) + 1) = ((n + 1 : Nat) : Int) by omega]
  refine sl_from (n := n + 1) (e2 _ _ (t1 _ _ hc)) (by omega) fun q2 H3 e3 q2h => ?_
  refine cat_A (e3 _ _ q1h) q2h (by rw [List.length_take, List.length_drop]; omega) fun q3 H4 e4 q3h => ?_
  have e14 := e2.tr (e3.tr e4)
  walk_at "rx"
  refine e_sl (e_var (e_noP (e_part (e_var (e_part' ?_) rfl))) rfl)
  refine sl_to (n := n) (e14 _ _ (t1 _ _ hmm)) (by omega) fun q4 H5 e5 q4h => ?_
  refine e_sl (e_var (e_part ?_) rfl)
  walk_at "rx"
  refine e_part' (e_noP ?_)
  rw [show ((n : Int) + 1) = ((n + 1 : Nat) : Int) by omega]
  refine sl_from (n := n + 1) (e5 _ _ (e14 _ _ (t1 _ _ hmm))) (by omega) fun q5 H6 e6 q5h => ?_
  refine cat_A (e6 _ _ q4h) q5h (by rw [List.length_take, List.length_drop]; omega) fun q6 H7 e7 q6h => ?_
  have e47 := e5.tr (e6.tr e7)
  walk_at "rx"
  rw [← List.eraseIdx_eq_take_drop_succ] at q3h q6h
  have E : ExtB p H nH := e1.tr (ExtB.of (e14.tr (e47.tr ne)))
  have tE := ExtT.ofB S E
  obtain ⟨c, hcc⟩ : ∃ c, (l.cuts lo hi)[n]? = some c := ⟨_, List.getElem?_eq_getElem (by omega)⟩
  exact k _ _ E ⟨_, tab_dt nh ((e47.tr ne) _ _ q3h) (pls_erase n (pc.extT tE)) (ne _ _ q6h) (pls_erase n (pm.extT tE)), ref_leftW o hF l4 h3 sf hcc⟩
theorem wrong_ret {n j : Nat} {row : List Int} {g : Int} {v0 v1 v8 : Option V} (o : l.Ok) (hF : Hold l lo hi f) (l4 : -4 ≤ lo) (h3 : hi ≤ l.top + 3) (sf : Sz 250 f) (hc : H tc = some (.tup xs)) (pc : Pls H xs (l.cuts lo hi)) (hmm : H tm = some (.tup ys)) (pm : Pls H ys (mapsP l lo hi (l.cuts lo hi)))
    (hn : (mapsP l lo hi (l.cuts lo hi))[n]? = some row) (hj : row[j]? = some g) (hra : H ra = some (.tup ((row.set j (g - 1)).map V.int)))
    (k : ∀ v H', Ext H H' → BadW H' l v → D.rt v H') :
    (tRet (tTup (tCons (tVar 2) (tCons (tVar 3) (tCons (tVar 4) (tCons (tVar 5) (tCons (tOp (rCatA K) (tOp (rCatA K) (tSl (rSlA K) (tVar 6) (tNoPart) (tPart (tVar 7))) (tTup (tCons (tVar 9) (tNil)))) (tSl (rSlA K) (tVar 6) (tPart (tOp FW.rAdd (tVar 7) (tC (.int 1)))) (tNoPart))) (tNil)))))))) D [v0, v1, some (.int f), some (.int lo), some (.int hi), some (.ref tc), some (.ref tm), some (.int (n : Nat)), v8, some (.ref ra)] H := by
  have tb := top_bound o
  have cl := cuts_len o lo hi
  have ML := mapsP_len l lo hi (l.cuts lo hi)
  have yl : ys.length = (l.cuts lo hi).length + 1 := (Paired.length pm).trans ML
  have nl := (List.getElem?_eq_some_iff.mp hn).1
  walk_at "rx"
  refine e_sl (e_var (e_noP (e_part (e_var (e_part' ?_) rfl))) rfl)
  refine sl_to (n := n) hmm (by omega) fun q1 H1 e1 q1h => ?_
  walk_at "rx"
  refine cat_A (ne _ _ q1h) nh (by rw [List.length_take]; simp only [List.length_cons, List.length_nil]; omega) fun q2 H2 e2 h2 => ?_
  have e02 := e1.tr (ne.tr e2)
  refine e_sl (e_var (e_part ?_) rfl)
  walk_at "rx"
  refine e_part' (e_noP ?_)
  rw [show ((n : Int) + 1) = ((n + 1 : Nat) : Int) by omega]
  refine sl_from (n := n + 1) (e02 _ _ hmm) (by omega) fun q3 H3 e3 q3h => ?_
  refine cat_A (e3 _ _ h2) q3h (by rw [List.length_append, List.length_take, List.length_drop]; simp only [List.length_cons, List.length_nil]; omega) fun q4 H4 e4 h4 => ?_
  rw [set_cut ys (by omega)] at h4
  have e04 := e02.tr (e3.tr e4)
  walk_at "rx"
  have E := e04.tr ne
  exact k _ _ E ⟨_, tab_dt nh (E _ _ hc) (pc.ext E) (ne _ _ h4) (pls_set n (pm.ext E) (E _ _ hra)), ref_gapW o hF l4 h3 sf hn hj (by omega)⟩
theorem wrong_4 {m n j : Nat} {row : List Int} {g : Int} {v1 v8 : Option V} (o : l.Ok) (hF : Hold l lo hi f) (l4 : -4 ≤ lo) (h3 : hi ≤ l.top + 3) (sf : Sz 250 f) (S : Strm H p m) (hm : m < 19000) (hc : H tc = some (.tup xs)) (pc : Pls H xs (l.cuts lo hi)) (hmm : H tm = some (.tup ys)) (pm : Pls H ys (mapsP l lo hi (l.cuts lo hi)))
    (hn : (mapsP l lo hi (l.cuts lo hi))[n]? = some row) (hj : row[j]? = some g) (hra : H ra = some (.tup ((row.set j (g - 1)).map V.int)))
    (k : ∀ v H', ExtB p H H' → BadW H' l v → D.rt v H') :
    (tSeq (tIfS (tOr (tTest (tOp (rEqD K) (tVar 5) (tTup (tNil)))) (tTest (tOp rEq (tCall (sp_l_draw K) [] E0 (tCons (tVar 0) (tCons (tC (.int 2)) (tNil)))) (tC (.int 0))))) (tRet (tTup (tCons (tVar 2) (tCons (tVar 3) (tCons (tVar 4) (tCons (tVar 5) (tCons (tOp (rCatA K) (tOp (rCatA K) (tSl (rSlA K) (tVar 6) (tNoPart) (tPart (tVar 7))) (tTup (tCons (tVar 9) (tNil)))) (tSl (rSlA K) (tVar 6) (tPart (tOp FW.rAdd (tVar 7) (tC (.int 1)))) (tNoPart))) (tNil)))))))) (tNext)) (tSeq (tAsg (tCall (sp_l_draw K) [] E0 (tCons (tVar 0) (tCons (tCB (Evl.rLenS K) (tCons (tVar 5) (tNil))) (tNil)))) (gName 7)) (tRet (tTup (tCons (tVar 2) (tCons (tVar 3) (tCons (tVar 4) (tCons (tOp (rCatA K) (tSl (rSlA K) (tVar 5) (tNoPart) (tPart (tVar 7))) (tSl (rSlA K) (tVar 5) (tPart (tOp FW.rAdd (tVar 7) (tC (.int 1)))) (tNoPart))) (tCons (tOp (rCatA K) (tSl (rSlA K) (tVar 6) (tNoPart) (tPart (tVar 7))) (tSl (rSlA K) (tVar 6) (tPart (tOp FW.rAdd (tVar 7) (tC (.int 1)))) (tNoPart))) (tNil)))))))))) D [some (.ref p), v1, some (.int f), some (.int lo), some (.int hi), some (.ref tc), some (.ref tm), some (.int (n : Nat)), v8, some (.ref ra)] H := by
  have tb := top_bound o
  have cl := cuts_len o lo hi
  have ML := mapsP_len l lo hi (l.cuts lo hi)
  have xl : xs.length = (l.cuts lo hi).length := Paired.length pc
  have yl : ys.length = (l.cuts lo hi).length + 1 := (Paired.length pm).trans ML
  have nl := (List.getElem?_eq_some_iff.mp hn).1
  generalize hTL : (tSeq (tAsg (tCall (sp_l_draw K) [] E0 (tCons (tVar 0) (tCons (tCB (Evl.rLenS K) (tCons (tVar 5) (tNil))) (tNil)))) (gName 7)) (tRet (tTup (tCons (tVar 2) (tCons (tVar 3) (tCons (tVar 4) (tCons (tOp (rCatA K) (tSl (rSlA K) (tVar 5) (tNoPart) (tPart (tVar 7))) (tSl (rSlA K) (tVar 5) (tPart (tOp FW.rAdd (tVar 7) (tC (.int 1)))) (tNoPart))) (tCons (tOp (rCatA K) (tSl (rSlA K) (tVar 6) (tNoPart) (tPart (tVar 7))) (tSl (rSlA K) (tVar 6) (tPart (tOp FW.rAdd (tVar 7) (tC (.int 1)))) (tNoPart))) (tNil))))))))) = TL
  generalize hTR : (tRet (tTup (tCons (tVar 2) (tCons (tVar 3) (tCons (tVar 4) (tCons (tVar 5) (tCons (tOp (rCatA K) (tOp (rCatA K) (tSl (rSlA K) (tVar 6) (tNoPart) (tPart (tVar 7))) (tTup (tCons (tVar 9) (tNil)))) (tSl (rSlA K) (tVar 6) (tPart (tOp FW.rAdd (tVar 7) (tC (.int 1)))) (tNoPart))) (tNil)))))))) = TR
  walk_at "rx"
  have sh : SeqAt.shaped (.tuple ((l.cuts lo hi).map tupD)) = true := shPT _
  have nc : (l.cuts lo hi = [] ∨ 0 < (l.cuts lo hi).length) := by
    cases l.cuts lo hi with
    | nil => exact .inl rfl
    | cons c cs => exact .inr (Nat.succ_pos _)
  have key : ∀ b : Bool, PyData.eqv (.tuple ((l.cuts lo hi).map tupD)) (.tuple []) = b → (b = false → 0 < (l.cuts lo hi).length) := fun b hb e => by
    rcases nc with z | z
    · rw [z, e] at hb
      exact absurd hb (by decide)
    · exact z
  refine e_eqD (d := .tuple ((l.cuts lo hi).map tupD)) (e := .tuple []) ?_ (.tup (SqT.of (ne _ _ hc)) (dpPls (pc.ext ne))) (.tup (SqT.of nh) .nil) sh rfl
  obtain ⟨b, hb⟩ : ∃ b, PyData.eqv (.tuple ((l.cuts lo hi).map tupD)) (.tuple []) = b := ⟨_, rfl⟩
  have k2 := key b hb
  rw [hb]
  refine ⟨b, rfl, ?_⟩
  have S1 := S.ext ne
  cases b with
  | true =>
    walk_at "rx"
    subst hTR
    exact wrong_ret o hF l4 h3 sf (ne _ _ hc) (pc.ext ne) (ne _ _ hmm) (pm.ext ne) hn hj (ne _ _ hra) fun v H' e q => k v H' (ExtB.of (ne.tr e)) q
  | false =>
    have k3 := k2 rfl
    walk_at "rx"
    refine ⟨p, 2, m, rfl, S1, by omega, by decide, log_fewW (by decide) (by decide), fun z H1 z0 z1 e1 s1 => ?_⟩
    walk_at "rx"
    have E : ExtB p H H1 := (ExtB.of ne).tr e1
    have tE := ExtT.ofB S E
    refine e_ite (fun h => ?_) (fun h => ?_)
    · subst hTR
      exact wrong_ret o hF l4 h3 sf (tE _ _ hc) (pc.extT tE) (tE _ _ hmm) (pm.extT tE) hn hj (tE _ _ hra) fun v H' e q => k v H' (E.tr (ExtB.of e)) q
    · walk_at "rx"
      subst hTL
      exact wrong_5 o hF l4 h3 sf s1 (by omega) (tE _ _ hc) (pc.extT tE) (tE _ _ hmm) (pm.extT tE) k3 fun v H' e q => k v H' (E.tr e) q
end
theorem pure_l_wrong (K : PySem.W.Frag) (vs : List V) (H : Hp) (Q : VK) (E : XK) (h : sp_l_wrong K vs H Q E) : rd_l_wrong K { nx := fun _ H' => Q .non H', rt := Q } (start ["_law_stream_here", "_law_found", "_law_first", "_law_low", "_law_high", "_law_cuts", "_law_maps", "_law_t", "_law_at", "_law_row"] vs) H := by
  obtain ⟨p, T, l, f, lo, hi, m, rfl, S, hm, ⟨tc, tm, xs, ys, h1, h2, h3, h4, h5⟩, o, hF, l4, ht, hh, sf, q⟩ := h
  have tb := top_bound o
  have l0 := hF.lo0
  have cl := cuts_len o lo hi
  have ML := mapsP_len l lo hi (l.cuts lo hi)
  have xl : xs.length = (l.cuts lo hi).length := Paired.length h3
  have yl : ys.length = (l.cuts lo hi).length + 1 := (Paired.length h5).trans ML
  unfold rd_l_wrong
  generalize hTL : (tSeq (tIfS (tOr (tTest (tOp (rEqD K) (tVar 5) (tTup (tNil)))) (tTest (tOp rEq (tCall (sp_l_draw K) [] E0 (tCons (tVar 0) (tCons (tC (.int 2)) (tNil)))) (tC (.int 0))))) (tRet (tTup (tCons (tVar 2) (tCons (tVar 3) (tCons (tVar 4) (tCons (tVar 5) (tCons (tOp (rCatA K) (tOp (rCatA K) (tSl (rSlA K) (tVar 6) (tNoPart) (tPart (tVar 7))) (tTup (tCons (tVar 9) (tNil)))) (tSl (rSlA K) (tVar 6) (tPart (tOp FW.rAdd (tVar 7) (tC (.int 1)))) (tNoPart))) (tNil)))))))) (tNext)) (tSeq (tAsg (tCall (sp_l_draw K) [] E0 (tCons (tVar 0) (tCons (tCB (Evl.rLenS K) (tCons (tVar 5) (tNil))) (tNil)))) (gName 7)) (tRet (tTup (tCons (tVar 2) (tCons (tVar 3) (tCons (tVar 4) (tCons (tOp (rCatA K) (tSl (rSlA K) (tVar 5) (tNoPart) (tPart (tVar 7))) (tSl (rSlA K) (tVar 5) (tPart (tOp FW.rAdd (tVar 7) (tC (.int 1)))) (tNoPart))) (tCons (tOp (rCatA K) (tSl (rSlA K) (tVar 6) (tNoPart) (tPart (tVar 7))) (tSl (rSlA K) (tVar 6) (tPart (tOp FW.rAdd (tVar 7) (tC (.int 1)))) (tNoPart))) (tNil)))))))))) = TL
  walk_at "rx"
  refine ha_lenT h4 ?_
  walk_at "rx"
  refine ⟨p, _, m, rfl, S, by omega, by omega, log_fewW (by omega) (by omega), fun z H1 z0 z1 e1 s1 => ?_⟩
  obtain ⟨n, rfl⟩ : ∃ n : Nat, z = n := ⟨z.toNat, by omega⟩
  have t1 := ExtT.ofB S e1
  walk_at "rx"
  refine ⟨p, hi - lo + 1, m + 1, rfl, s1, by omega, by omega, log_fewW (by omega) (by omega), fun z H2 y0 y1 e2 s2 => ?_⟩
  obtain ⟨j, rfl⟩ : ∃ j : Nat, z = j := ⟨z.toNat, by omega⟩
  have t2 := t1.tr (ExtT.ofB s1 e2)
  obtain ⟨ra, row, g1, g2, g3⟩ := pls_at h5 (i := n) (by omega)
  have rl := mapsP_row (List.mem_of_getElem? g2)
  obtain ⟨g, hg⟩ : ∃ g, row[j]? = some g := ⟨_, List.getElem?_eq_getElem (by omega)⟩
  walk_at "rx"
  refine e_sl ?_
  walk_at "rx"
  refine ha_ixT (t2 _ _ h4) (atI_of g1 rfl) ?_
  refine e_noP (e_part (e_var (e_part' ?_) rfl))
  refine sl_to (n := j) (t2 _ _ g3) (by rw [List.length_map]; omega) fun q1 H3 e3 q1h => ?_
  walk_at "rx"
  refine ha_ixT (e3 _ _ (t2 _ _ h4)) (atI_of g1 rfl) ?_
  walk_at "rx"
  refine ha_ixT (v := .int g) (e3 _ _ (t2 _ _ g3)) (atI_of (by rw [List.getElem?_map, hg]; rfl) rfl) ?_
  walk_at "rx"
  refine cat_A (ne _ _ q1h) nh (by rw [List.length_take, List.length_map]; simp only [List.length_cons, List.length_nil]; omega) fun q2 H4 e4 h6 => ?_
  have e24 := e3.tr (ne.tr e4)
  refine e_sl ?_
  walk_at "rx"
  refine ha_ixT (e24 _ _ (t2 _ _ h4)) (atI_of g1 rfl) ?_
  refine e_part ?_
  walk_at "rx"
  refine e_part' (e_noP ?_)
  rw [show ((j : Int) + 1) = ((j + 1 : Nat) : Int) by omega]
  refine sl_from (n := j + 1) (e24 _ _ (t2 _ _ g3)) (by rw [List.length_map]; omega) fun q3 H5 e5 q3h => ?_
  refine cat_A (e5 _ _ h6) q3h (by rw [List.length_append, List.length_take, List.length_drop, List.length_map]; simp only [List.length_cons, List.length_nil]; omega) fun q4 H6 e6 q4h => ?_
  rw [set_cut (row.map V.int) (by rw [List.length_map]; omega), show (V.int (g - 1)) = V.int (g - 1) from rfl, ← List.map_set] at q4h
  have e26 := e24.tr (e5.tr e6)
  have t6 := t2.tr (ExtT.of e26)
  walk_at "rx"
  subst hTL
  exact wrong_4 (n := n) (j := j) (g := g) o hF l4 hh sf (s2.ext e26) (by omega) (t6 _ _ h2) (h3.extT t6) (t6 _ _ h4) (h5.extT t6) g2 hg q4h fun v H' e b => q v H' ((e1.tr e2).tr ((ExtB.of e26).tr e)) b
end FWL
namespace FWL
open PySem PySem.Spec PyProof.Rows L2 FW
set_option hygiene false in
local macro_rules | `(tactic| walk_at "rv") => `(tactic| (have nt := (); have nz := (); have nH := (); have ne := (); have nh := ()))
/-! ### k15: the law's data -/
def rowL (c : List Int) : PyData := .list (c.map PyData.int)
def lisD (f lo hi : Int) (cs ms : List (List Int)) : PyData := .list [.int f, .int lo, .int hi, .list (cs.map rowL), .list (ms.map rowL)]
theorem rows_L : ∀ cs : List (List Int), RowsD (cs.map rowL) cs
  | [] => .nil
  | c :: cs => .cons rfl (rows_L cs)
theorem lisD_is (f lo hi : Int) (cs ms : List (List Int)) : IsTab (lisD f lo hi cs ms) f lo hi cs ms := ⟨_, _, _, _, rfl, rfl, rfl, rows_L cs, rows_L ms⟩
theorem rowB_L (m : Option Int) (c : List Int) : rowB (rowL c) m = rowB (rowT c) m := rfl
theorem all_L (m : Option Int) : ∀ cs : List (List Int), (cs.map rowL).all (rowB · m) = (cs.map rowT).all (rowB · m)
  | [] => rfl
  | c :: cs => by rw [List.map_cons, List.map_cons, List.all_cons, List.all_cons, all_L m cs, rowB_L]
theorem lisD_form (f lo hi : Int) (cs ms : List (List Int)) : formB (lisD f lo hi cs ms) = formB (tabD f lo hi cs ms) := by
  have e1 : formB (lisD f lo hi cs ms) = formR f lo hi (cs.map rowL) (ms.map rowL) := rfl
  have e2 : formB (tabD f lo hi cs ms) = formR f lo hi (cs.map rowT) (ms.map rowT) := rfl
  rw [e1, e2]
  unfold formR
  rw [all_L, all_L, List.length_map, List.length_map, List.length_map, List.length_map]
theorem smD_rowL {n : Nat} {c : List Int} (h : c.length ≤ 1000) : smD n (rowL c) := by
  cases n with
  | zero => trivial
  | succ n =>
    refine smD_at rfl (by rw [List.length_map]; exact h) fun x hx => ?_
    obtain ⟨i, _, rfl⟩ := List.mem_map.mp hx
    exact smD_int
theorem smD_rowsL {n : Nat} {cs : List (List Int)} (h1 : cs.length ≤ 1000) (h2 : ∀ c, c ∈ cs → c.length ≤ 1000) : smD n (.list (cs.map rowL)) := by
  cases n with
  | zero => trivial
  | succ n =>
    refine smD_at rfl (by rw [List.length_map]; exact h1) fun x hx => ?_
    obtain ⟨c, hc, rfl⟩ := List.mem_map.mp hx
    exact smD_rowL (h2 c hc)
theorem lisD_sm {f lo hi : Int} {cs ms : List (List Int)} (h1 : cs.length ≤ 1000) (h2 : ∀ c, c ∈ cs → c.length ≤ 1000) (h3 : ms.length ≤ 1000) (h4 : ∀ c, c ∈ ms → c.length ≤ 1000) : smD 3 (lisD f lo hi cs ms) := by
  refine smD_at rfl (Nat.le_of_ble_eq_true rfl) fun x hx => ?_
  simp only [List.mem_cons, List.not_mem_nil, or_false] at hx
  rcases hx with rfl | rfl | rfl | rfl | rfl
  · exact smD_int
  · exact smD_int
  · exact smD_int
  · exact smD_rowsL h1 h2
  · exact smD_rowsL h3 h4
/-! heaps without an address -/
def hole (p : Addr) (H : Hp) : Hp := fun a => if a = p then none else H a
theorem hole_of {p a : Addr} {H : Hp} {o : HO} (h : H a = some o) (n : a ≠ p) : hole p H a = some o := by unfold hole; rw [if_neg n]; exact h
theorem hole_at {p a : Addr} {H : Hp} {o : HO} (h : hole p H a = some o) : a ≠ p ∧ H a = some o := by
  unfold hole at h
  split at h
  · cases h
  · exact ⟨‹_›, h⟩
theorem Strm.extN {H H' : Hp} {p : Addr} {n : Nat} (h : Strm H p n) (e : LamX.ExtN H H') : Strm H' p n := by
  obtain ⟨a, b, c, h1, h2⟩ := h
  exact ⟨a, b, c, nx_lst e h1, h2⟩
theorem tabs_extB {T : List (Addr × Str)} {H G : Hp} {p : Addr} {xs : List V} (t : LamX.Tabs T H) (hp : H p = some (.lst xs)) (e : ExtB p H G) : LamX.Tabs T G := fun q hq => by
  obtain ⟨ps, h1, h2, h3⟩ := t q hq
  refine ⟨ps, e _ _ (ne_of h1 hp (fun z => nomatch z)) h1, h2, fun pos cv hc => ?_⟩
  obtain ⟨d, e1, e2⟩ := h3 pos cv hc
  exact ⟨d, e1, e _ _ (ne_of e2 hp (fun z => nomatch z)) e2⟩
theorem is_nbF {H : Hp} {Q : VK} {a : Bool} (q : Q (.bl false) H) : FW.rIsNB (.bl a) (.bl a) H Q := ⟨a, a, rfl, rfl, by rw [show (!decide (a = a)) = false by simp]; exact q⟩
def ExtS (S : List Addr) (H H' : Hp) : Prop := ∀ b u, b ∉ S → H b = some u → (∀ ps, u ≠ .tbl ps) → H' b = some u
theorem ExtS.ofB {p : Addr} {H H' : Hp} (e : ExtB p H H') : ExtS [p] H H' := fun b u n h _ => e _ _ (fun z => n (by rw [z]; exact List.mem_singleton.mpr rfl)) h
theorem ExtS.ofN {S : List Addr} {H H' : Hp} (e : LamX.ExtN H H') : ExtS S H H' := fun b u _ h n => e _ _ h n
theorem ExtS.tr {S : List Addr} {H H1 H2 : Hp} (a : ExtS S H H1) (b : ExtS S H1 H2) : ExtS S H H2 := fun x u n h t => b _ _ n (a _ _ n h t) t
theorem dts_ints {H : Hp} : ∀ ns : List Int, DtAll H (ns.map V.int) (ns.map PyData.int)
  | [] => .nil
  | n :: ns => .cons (.int n) (dts_ints ns)
/-! noughts at the end -/
def z0 (c : List Int) : List Int := c ++ [0]
theorem pv_z0 (r : Int) : ∀ c : List Int, pvl (z0 c) r = pvl c r
  | [] => by show (0 : Int) + r * 0 = 0; omega
  | x :: c => by
    have ih := pv_z0 r c
    show x + r * pvl (z0 c) r = x + r * pvl c r
    rw [ih]
theorem trm_z0 (c : List Int) : trm (z0 c) = trm c := pv_uniq (fun r => by rw [pv_trm, pv_trm, pv_z0]) (trm_last _) (trm_last _)
theorem TabP.z0 {l : Lp} {f lo hi : Int} {cs ms : List (List Int)} (h : TabP l f lo hi cs ms) : TabP l f lo hi (cs.map FWL.z0) ms := by
  have e : risT l (cs.map FWL.z0) = risT l cs := by
    unfold risT
    rw [List.map_map]
    congr 1
    exact List.map_congr_left fun c _ => trm_z0 c
  exact ⟨by rw [e]; exact h.ris, h.fall, by rw [e]; exact h.led⟩
theorem small_z0 {l : Lp} {f lo hi : Int} (o : l.Ok) (h1 : -4 ≤ lo) (h2 : lo ≤ 1) (h3 : hi ≤ l.top + 3) (sf : Sz 250 f) : Small l f lo hi ((l.cuts lo hi).map z0) (mapsP l lo hi (l.cuts lo hi)) := by
  have tb := top_bound o
  have s := smallW o h1 h2 h3 sf
  refine ⟨s.lo1, s.hi1, s.sf, fun c hc => ?_, by rw [List.length_map]; exact s.cl, s.ml, s.rl⟩
  obtain ⟨d, hd, rfl⟩ := List.mem_map.mp hc
  have pz := (cut_pz o (by omega) (by omega) hd).1
  refine ⟨by unfold z0; rw [List.length_append]; have := pz.1; simp only [List.length_cons, List.length_nil]; omega, fun x hx => ?_⟩
  rcases List.mem_append.mp hx with hx | hx
  · exact Sz.mono (pz.2 x hx) (by decide)
  · rw [List.mem_singleton.mp hx]; decide
theorem form_z0 {l : Lp} {f lo hi : Int} (h1 : lo ≤ 0) (h2 : 1 ≤ hi) (h3 : 1 ≤ f + lo) : FormOk f lo hi ((l.cuts lo hi).map z0) (mapsP l lo hi (l.cuts lo hi)) := by
  have f0 := formW (l := l) h1 h2 h3
  exact ⟨f0.1, f0.2.1, f0.2.2.1, by rw [List.length_map]; exact f0.2.2.2.1, f0.2.2.2.2⟩
theorem TabQ.extN {H H' : Hp} {t : Addr} {l : Lp} {f lo hi : Int} (h : TabQ H t l f lo hi) (e : LamX.ExtN H H') : TabQ H' t l f lo hi := h.extT fun a xs h => nx_tup e h
theorem Dt.tabQ {H : Hp} {T : Addr} {l : Lp} {f lo hi : Int} (h : TabQ H T l f lo hi) : Dt H (.ref T) (tabD f lo hi (l.cuts lo hi) (mapsP l lo hi (l.cuts lo hi))) := by
  obtain ⟨tc, tm, xs, ys, h1, h2, h3, h4, h5⟩ := h
  exact tab_dt h1 h2 h3 h4 h5
/-- a table that is refused -/
def BadQ (H : Hp) (l : Lp) (v : V) : Prop := ∃ T f lo hi, v = V.ref T ∧ TabQ H T l f lo hi ∧ Refused l (tabD f lo hi (l.cuts lo hi) (mapsP l lo hi (l.cuts lo hi)))
theorem BadQ.extT {H H' : Hp} {l : Lp} {v : V} (h : BadQ H l v) (e : ExtT H H') : BadQ H' l v := by
  obtain ⟨T, f, lo, hi, rfl, h1, h2⟩ := h
  exact ⟨T, f, lo, hi, rfl, h1.extT e, h2⟩
/-- the loop with the greatest d -/
def Lp.up (l : Lp) : Lp := { l with d := l.a + l.c }
theorem Lp.Ok.up {l : Lp} (o : l.Ok) : l.up.Ok := ⟨o.hk, o.a1, o.a5, o.c1, o.c3, o.ca, o.ac, by have := o.a1; have := o.c1; show -l.a ≤ l.a + l.c; omega, Int.le_refl _, o.hs, o.ht, o.hl, o.hm⟩
def rd_law_L1 (K : PySem.W.Frag) : TS := tSeq (tAsg (tCall (sp_l_stream K) [] E0 (tCons (tVar 0) (tCons (tVar 1) (tNil)))) (gName 2)) (tSeq (tAsg (tCall (sp_l_parts K) [] E0 (tCons (tVar 2) (tNil))) (gName 3)) (tSeq (tAsg (tCall (sp_l_loop K) [] E0 (tCons (tVar 3) (tNil))) (gName 4)) (tSeq (tAsg (tCall (sp_l_window K) [] E0 (tCons (tVar 3) (tNil))) (gTup K 2 (gCons (gName 5) (gCons (gName 6) (gNil))))) (tSeq (tAsg (tOp FW.rAdd (tOp FW.rPow (tC (.int 10)) (tC (.int 6))) (tCall (sp_l_draw K) [] E0 (tCons (tVar 2) (tCons (tOp FW.rPow (tC (.int 10)) (tC (.int 9))) (tNil))))) (gName 7)) (tSeq (tAsg (tCall (sp_l_made K) [] E0 (tCons (tVar 3) (tCons (tOp FW.rSub (tVar 5) (tCall (sp_l_draw K) [] E0 (tCons (tVar 2) (tCons (tC (.int 2)) (tNil))))) (tCons (tOp FW.rAdd (tVar 6) (tCall (sp_l_draw K) [] E0 (tCons (tVar 2) (tCons (tC (.int 4)) (tNil))))) (tCons (tVar 7) (tNil)))))) (gName 8)) (tSeq (tAsg (tOp rCat (tCB (Evl.rListS K) (tCons (tSl (rSlA K) (tVar 8) (tNoPart) (tPart (tC (.int 3)))) (tNil))) (tLst (tCons (tLc (iTup K (tOp (rIxT K) (tVar 8) (tC (.int 3)))) (gName 10) (tYes) (tOp rCat (tCB (Evl.rListS K) (tCons (tVar 10) (tNil))) (tLst (tCons (tC (.int 0)) (tNil)))) [10]) (tNil)))) (gName 9)) (tSeq (tDrop (tBM K "list" rAppend (tVar 9) (tCons (tLc (iTup K (tOp (rIxT K) (tVar 8) (tC (.int 4)))) (gName 11) (tYes) (tCB (Evl.rListS K) (tCons (tVar 11) (tNil))) [11]) (tNil)))) (tSeq (tIfS (tOr (tTest (tOp FW.rIsNB (tCall (sp_is_table K) [] E0 (tCons (tVar 4) (tCons (tVar 8) (tNil)))) (tC (.bl true)))) (tTest (tOp FW.rIsNB (tCall (sp_is_table K) [] E0 (tCons (tVar 4) (tCons (tVar 9) (tNil)))) (tC (.bl true))))) (tRet (tC (.bl false))) (tNext)) (tSeq (tIfS (tTest (tOp (rNeD K) (tOp (rIxL K) (tVar 9) (tC (.int 3))) (tLc (iTup K (tOp (rIxT K) (tVar 8) (tC (.int 3)))) (gName 10) (tYes) (tOp rCat (tCB (Evl.rListS K) (tCons (tVar 10) (tNil))) (tLst (tCons (tC (.int 0)) (tNil)))) [10]))) (tRet (tC (.bl false))) (tNext)) (tSeq (tIfS (tTest (tOp FW.rIsNB (tCall (sp_is_table K) [] E0 (tCons (tVar 4) (tCons (tCall (sp_l_wrong K) [] E0 (tCons (tVar 2) (tCons (tVar 8) (tNil)))) (tNil)))) (tC (.bl false)))) (tRet (tC (.bl false))) (tNext)) (tSeq (tAsg (tLst (tCons (tCall (sp_l_made K) [] E0 (tCons (tVar 3) (tCons (tVar 5) (tCons (tOp FW.rSub (tVar 6) (tC (.int 1))) (tCons (tVar 7) (tNil)))))) (tCons (tCall (sp_l_made K) [] E0 (tCons (tVar 3) (tCons (tC (.int 1)) (tCons (tVar 6) (tCons (tVar 7) (tNil)))))) (tNil)))) (gName 12)) (tSeq (tDrop (tBM K "list" rExtend (tVar 12) (tCons (tLst (tCons (tCall (sp_l_made K) [] E0 (tCons (tVar 3) (tCons (tVar 5) (tCons (tC (.int 0)) (tCons (tVar 7) (tNil)))))) (tCons (tCall (sp_l_made K) [] E0 (tCons (tVar 3) (tCons (tOp (rIxT K) (tVar 8) (tC (.int 1))) (tCons (tVar 6) (tCons (tUn FW.rNeg (tOp (rIxT K) (tVar 8) (tC (.int 1)))) (tNil)))))) (tNil)))) (tNil)))) (tSeq (tIfS (tTest (tOp (rNeD K) (tLc (iList K (tVar 12)) (gName 13) (tTest (tOp FW.rIsNB (tCall (sp_is_table K) [] E0 (tCons (tVar 4) (tCons (tVar 13) (tNil)))) (tC (.bl false)))) (tVar 13) [13]) (tLst (tNil)))) (tRet (tC (.bl false))) (tNext)) (tSeq (tAsg (tOp (rCatA K) (tOp (rCatA K) (tSl (rSlA K) (tVar 3) (tNoPart) (tPart (tC (.int 3)))) (tTup (tCons (tOp FW.rAdd (tOp (rIxT K) (tVar 3) (tC (.int 1))) (tOp (rIxT K) (tVar 3) (tC (.int 2)))) (tNil)))) (tSl (rSlA K) (tVar 3) (tPart (tC (.int 4))) (tNoPart))) (gName 14)) (tIfS (tTest (tOp FW.rIsNB (tCall (sp_is_table K) [] E0 (tCons (tCall (sp_l_loop K) [] E0 (tCons (tVar 14) (tNil))) (tCons (tCall (sp_l_made K) [] E0 (tCons (tVar 14) (tCons (tC (.int 1)) (tCons (tOp (rIxT K) (tCall (sp_l_window K) [] E0 (tCons (tVar 14) (tNil))) (tC (.int 1))) (tCons (tVar 7) (tNil)))))) (tNil)))) (tC (.bl false)))) (tRet (tC (.bl false))) (tNext))))))))))))))))
def rd_law (K : PySem.W.Frag) : TS := tSeq (tFor (iRng1 (tCons (tC (.int 5)) (tNil))) (gName 1) (rd_law_L1 K)) (tRet (tC (.bl true)))
section
variable {K : PySem.W.Frag} {H : Hp} {D : Ends} {p tp lp T L W a : Addr} {l : Lp} {f : Int}
theorem fin_15 {tq : Addr} {v0 v1 v2 v3 v4 v5 v6 v8 v9 v10 v11 v12 v13 : Option V} (o : l.Ok) (f1 : 1000000 ≤ f) (f2 : f ≤ 2000000000) (hT : H tq = some (.tup l.V)) (hTs : LamX.Tabs (tabsM K) H)
    (k : ∀ H', LamX.ExtN H H' → LamX.Tabs (tabsM K) H' → D.nx [v0, v1, v2, v3, v4, v5, v6, some (.int f), v8, v9, v10, v11, v12, v13, some (.ref tq)] H') :
    (tIfS (tTest (tOp FW.rIsNB (tCall (sp_is_table K) [] E0 (tCons (tCall (sp_l_loop K) [] E0 (tCons (tVar 14) (tNil))) (tCons (tCall (sp_l_made K) [] E0 (tCons (tVar 14) (tCons (tC (.int 1)) (tCons (tOp (rIxT K) (tCall (sp_l_window K) [] E0 (tCons (tVar 14) (tNil))) (tC (.int 1))) (tCons (tVar 7) (tNil)))))) (tNil)))) (tC (.bl false)))) (tRet (tC (.bl false))) (tNext)) D [v0, v1, v2, v3, v4, v5, v6, some (.int f), v8, v9, v10, v11, v12, v13, some (.ref tq)] H := by
  have tb := top_bound o
  walk_at "rx"
  refine ⟨tq, l, rfl, hT, o, fun x H1 zx e1 hL => ?_⟩
  walk_at "rx"
  refine ⟨tq, l, rfl, e1 _ _ hT, o, fun w H2 e2 hw => ?_⟩
  walk_at "rx"
  have e12 := e1.tr e2
  refine ⟨tq, l, 1, l.top, f, rfl, e12 _ _ hT, o, hTs.ext e12, by decide, by decide, by omega, by omega, fun T H3 e3 T3 q3 => ?_⟩
  walk_at "rx"
  refine call_ref ((hL.ext e2).extN e3) o (Dt.tabQ q3) (ref_noW o (by decide) (by decide) (by omega) (by unfold Sz; omega) (.inl (by decide))) fun H4 e4 => ?_
  walk_at "rx"
  refine is_nbF ?_
  walk_at "rx"
  exact k _ (((LamX.ExtN.of e12).trans e3).trans (LamX.ExtN.of e4)) (T3.ext e4)
theorem fin_14 {v0 v1 v2 v8 v9 v10 v11 v12 v13 v14 : Option V} (o : l.Ok) (f1 : 1000000 ≤ f) (f2 : f ≤ 2000000000) (hT : H tp = some (.tup l.V)) (hTs : LamX.Tabs (tabsM K) H)
    (k : ∀ H', LamX.ExtN H H' → LamX.Tabs (tabsM K) H' → ∀ w14 : Option V, D.nx [v0, v1, v2, some (.ref tp), some (.ref lp), some (.int l.low), some (.int l.top), some (.int f), v8, v9, v10, v11, v12, v13, w14] H') :
    (tSeq (tAsg (tOp (rCatA K) (tOp (rCatA K) (tSl (rSlA K) (tVar 3) (tNoPart) (tPart (tC (.int 3)))) (tTup (tCons (tOp FW.rAdd (tOp (rIxT K) (tVar 3) (tC (.int 1))) (tOp (rIxT K) (tVar 3) (tC (.int 2)))) (tNil)))) (tSl (rSlA K) (tVar 3) (tPart (tC (.int 4))) (tNoPart))) (gName 14)) (tIfS (tTest (tOp FW.rIsNB (tCall (sp_is_table K) [] E0 (tCons (tCall (sp_l_loop K) [] E0 (tCons (tVar 14) (tNil))) (tCons (tCall (sp_l_made K) [] E0 (tCons (tVar 14) (tCons (tC (.int 1)) (tCons (tOp (rIxT K) (tCall (sp_l_window K) [] E0 (tCons (tVar 14) (tNil))) (tC (.int 1))) (tCons (tVar 7) (tNil)))))) (tNil)))) (tC (.bl false)))) (tRet (tC (.bl false))) (tNext))) D [v0, v1, v2, some (.ref tp), some (.ref lp), some (.int l.low), some (.int l.top), some (.int f), v8, v9, v10, v11, v12, v13, v14] H := by
  have tb := top_bound o.up
  generalize hTL : (tIfS (tTest (tOp FW.rIsNB (tCall (sp_is_table K) [] E0 (tCons (tCall (sp_l_loop K) [] E0 (tCons (tVar 14) (tNil))) (tCons (tCall (sp_l_made K) [] E0 (tCons (tVar 14) (tCons (tC (.int 1)) (tCons (tOp (rIxT K) (tCall (sp_l_window K) [] E0 (tCons (tVar 14) (tNil))) (tC (.int 1))) (tCons (tVar 7) (tNil)))))) (tNil)))) (tC (.bl false)))) (tRet (tC (.bl false))) (tNext)) = TL
  walk_at "rx"
  refine e_sl (e_var (e_noP (e_part (e_c (e_part' ?_)))) rfl)
  refine sl_to (n := 3) hT (Nat.le_of_ble_eq_true rfl) fun q1 H1 e1 q1h => ?_
  walk_at "rx"
  refine cat_A (ne _ _ q1h) nh (Nat.le_of_ble_eq_true rfl) fun q2 H2 e2 h2 => ?_
  have e02 := e1.tr (ne.tr e2)
  refine e_sl (e_var (e_part (e_c (e_part' (e_noP ?_)))) rfl)
  refine sl_from (n := 4) (e02 _ _ hT) (Nat.le_of_ble_eq_true rfl) fun q3 H3 e3 h3 => ?_
  refine cat_A (e3 _ _ h2) h3 (Nat.le_of_ble_eq_true rfl) fun q4 H4 e4 h4 => ?_
  have e04 := e02.tr (e3.tr e4)
  have h4' : H4 q4 = some (.tup l.up.V) := h4
  walk_at "rx"
  subst hTL
  exact fin_15 o.up f1 f2 h4' (hTs.ext e04) fun H' e T' => k H' ((LamX.ExtN.of e04).trans e) T' _
theorem fin_13 {v0 v1 v2 v8 v9 v10 v11 v13 v14 : Option V} {ws : List V} (o : l.Ok) (f1 : 1000000 ≤ f) (f2 : f ≤ 2000000000) (hT : H tp = some (.tup l.V)) (hL : IsLp K H lp l) (hTs : LamX.Tabs (tabsM K) H) (hW : H W = some (.lst ws)) (wl : ws.length ≤ 10) (hb : ∀ v, v ∈ ws → BadQ H l v)
    (k : ∀ H', LamX.ExtN H H' → LamX.Tabs (tabsM K) H' → ∀ w14 : Option V, D.nx [v0, v1, v2, some (.ref tp), some (.ref lp), some (.int l.low), some (.int l.top), some (.int f), v8, v9, v10, v11, some (.ref W), v13, w14] H') :
    (tSeq (tIfS (tTest (tOp (rNeD K) (tLc (iList K (tVar 12)) (gName 13) (tTest (tOp FW.rIsNB (tCall (sp_is_table K) [] E0 (tCons (tVar 4) (tCons (tVar 13) (tNil)))) (tC (.bl false)))) (tVar 13) [13]) (tLst (tNil)))) (tRet (tC (.bl false))) (tNext)) (tSeq (tAsg (tOp (rCatA K) (tOp (rCatA K) (tSl (rSlA K) (tVar 3) (tNoPart) (tPart (tC (.int 3)))) (tTup (tCons (tOp FW.rAdd (tOp (rIxT K) (tVar 3) (tC (.int 1))) (tOp (rIxT K) (tVar 3) (tC (.int 2)))) (tNil)))) (tSl (rSlA K) (tVar 3) (tPart (tC (.int 4))) (tNoPart))) (gName 14)) (tIfS (tTest (tOp FW.rIsNB (tCall (sp_is_table K) [] E0 (tCons (tCall (sp_l_loop K) [] E0 (tCons (tVar 14) (tNil))) (tCons (tCall (sp_l_made K) [] E0 (tCons (tVar 14) (tCons (tC (.int 1)) (tCons (tOp (rIxT K) (tCall (sp_l_window K) [] E0 (tCons (tVar 14) (tNil))) (tC (.int 1))) (tCons (tVar 7) (tNil)))))) (tNil)))) (tC (.bl false)))) (tRet (tC (.bl false))) (tNext)))) D [v0, v1, v2, some (.ref tp), some (.ref lp), some (.int l.low), some (.int l.top), some (.int f), v8, v9, v10, v11, some (.ref W), v13, v14] H := by
  generalize hTL : (tSeq (tAsg (tOp (rCatA K) (tOp (rCatA K) (tSl (rSlA K) (tVar 3) (tNoPart) (tPart (tC (.int 3)))) (tTup (tCons (tOp FW.rAdd (tOp (rIxT K) (tVar 3) (tC (.int 1))) (tOp (rIxT K) (tVar 3) (tC (.int 2)))) (tNil)))) (tSl (rSlA K) (tVar 3) (tPart (tC (.int 4))) (tNoPart))) (gName 14)) (tIfS (tTest (tOp FW.rIsNB (tCall (sp_is_table K) [] E0 (tCons (tCall (sp_l_loop K) [] E0 (tCons (tVar 14) (tNil))) (tCons (tCall (sp_l_made K) [] E0 (tCons (tVar 14) (tCons (tC (.int 1)) (tCons (tOp (rIxT K) (tCall (sp_l_window K) [] E0 (tCons (tVar 14) (tNil))) (tC (.int 1))) (tCons (tVar 7) (tNil)))))) (tNil)))) (tC (.bl false)))) (tRet (tC (.bl false))) (tNext))) = TL
  walk_at "rx"
  refine i_list' _ ?_ (SqL.of hW)
  refine lcLX (P := fun _ _ => False) (p := fun _ => false) (SqL.of hW) (by omega) (fun v => rfl) (fun x hx H' R ex kk => ?_) (fun x hx px => absurd px (by decide)) fun D7 G ys7 hD eG hG hp => ?_
  · obtain ⟨T, f', lo, hi, rfl, h1, h2⟩ := (hb x hx).extT (ExtT.of ex)
    walk_at "re"
    refine call_ref (hL.ext ex) o (Dt.tabQ h1) h2 fun H7 e7 => ?_
    walk_at "re"
    refine is_nbF ?_
    walk_at "re"
    exact kk _ e7
  · rw [List.filter_eq_nil_iff.mpr (fun _ _ => Bool.false_ne_true)] at hp
    cases hp
    walk_at "rx"
    refine e_neD (d := .list []) (e := .list []) ?_ (.lst (SqL.of (ne _ _ hG)) .nil) (.lst (SqL.of nh) .nil) rfl rfl
    rw [SeqAt.eqv_refl _ (SeqAt.canLay_of_shaped rfl)]
    walk_at "rx"
    have E := eG.tr ne
    subst hTL
    exact fin_14 o f1 f2 (E _ _ hT) (hTs.ext E) fun H' e T' => k H' ((LamX.ExtN.of E).trans e) T'
theorem fin_12 {lo' hi' : Int} {v0 v1 v2 v9 v10 v11 v13 v14 : Option V} {ws : List V} (o : l.Ok) (f1 : 1000000 ≤ f) (f2 : f ≤ 2000000000) (hT : H tp = some (.tup l.V)) (hL : IsLp K H lp l) (hTs : LamX.Tabs (tabsM K) H) (hW : H W = some (.lst ws)) (wl : ws.length ≤ 5) (hb : ∀ v, v ∈ ws → BadQ H l v) (hQ : TabQ H T l f lo' hi') (l4 : -4 ≤ lo') (l0 : lo' ≤ 0)
    (k : ∀ H', ExtS [W] H H' → LamX.Tabs (tabsM K) H' → ∀ w14 : Option V, D.nx [v0, v1, v2, some (.ref tp), some (.ref lp), some (.int l.low), some (.int l.top), some (.int f), some (.ref T), v9, v10, v11, some (.ref W), v13, w14] H') :
    (tSeq (tDrop (tBM K "list" rExtend (tVar 12) (tCons (tLst (tCons (tCall (sp_l_made K) [] E0 (tCons (tVar 3) (tCons (tVar 5) (tCons (tC (.int 0)) (tCons (tVar 7) (tNil)))))) (tCons (tCall (sp_l_made K) [] E0 (tCons (tVar 3) (tCons (tOp (rIxT K) (tVar 8) (tC (.int 1))) (tCons (tVar 6) (tCons (tUn FW.rNeg (tOp (rIxT K) (tVar 8) (tC (.int 1)))) (tNil)))))) (tNil)))) (tNil)))) (tSeq (tIfS (tTest (tOp (rNeD K) (tLc (iList K (tVar 12)) (gName 13) (tTest (tOp FW.rIsNB (tCall (sp_is_table K) [] E0 (tCons (tVar 4) (tCons (tVar 13) (tNil)))) (tC (.bl false)))) (tVar 13) [13]) (tLst (tNil)))) (tRet (tC (.bl false))) (tNext)) (tSeq (tAsg (tOp (rCatA K) (tOp (rCatA K) (tSl (rSlA K) (tVar 3) (tNoPart) (tPart (tC (.int 3)))) (tTup (tCons (tOp FW.rAdd (tOp (rIxT K) (tVar 3) (tC (.int 1))) (tOp (rIxT K) (tVar 3) (tC (.int 2)))) (tNil)))) (tSl (rSlA K) (tVar 3) (tPart (tC (.int 4))) (tNoPart))) (gName 14)) (tIfS (tTest (tOp FW.rIsNB (tCall (sp_is_table K) [] E0 (tCons (tCall (sp_l_loop K) [] E0 (tCons (tVar 14) (tNil))) (tCons (tCall (sp_l_made K) [] E0 (tCons (tVar 14) (tCons (tC (.int 1)) (tCons (tOp (rIxT K) (tCall (sp_l_window K) [] E0 (tCons (tVar 14) (tNil))) (tC (.int 1))) (tCons (tVar 7) (tNil)))))) (tNil)))) (tC (.bl false)))) (tRet (tC (.bl false))) (tNext))))) D [v0, v1, v2, some (.ref tp), some (.ref lp), some (.int l.low), some (.int l.top), some (.int f), some (.ref T), v9, v10, v11, some (.ref W), v13, v14] H := by
  have w := win o
  generalize hTL : (tSeq (tIfS (tTest (tOp (rNeD K) (tLc (iList K (tVar 12)) (gName 13) (tTest (tOp FW.rIsNB (tCall (sp_is_table K) [] E0 (tCons (tVar 4) (tCons (tVar 13) (tNil)))) (tC (.bl false)))) (tVar 13) [13]) (tLst (tNil)))) (tRet (tC (.bl false))) (tNext)) (tSeq (tAsg (tOp (rCatA K) (tOp (rCatA K) (tSl (rSlA K) (tVar 3) (tNoPart) (tPart (tC (.int 3)))) (tTup (tCons (tOp FW.rAdd (tOp (rIxT K) (tVar 3) (tC (.int 1))) (tOp (rIxT K) (tVar 3) (tC (.int 2)))) (tNil)))) (tSl (rSlA K) (tVar 3) (tPart (tC (.int 4))) (tNoPart))) (gName 14)) (tIfS (tTest (tOp FW.rIsNB (tCall (sp_is_table K) [] E0 (tCons (tCall (sp_l_loop K) [] E0 (tCons (tVar 14) (tNil))) (tCons (tCall (sp_l_made K) [] E0 (tCons (tVar 14) (tCons (tC (.int 1)) (tCons (tOp (rIxT K) (tCall (sp_l_window K) [] E0 (tCons (tVar 14) (tNil))) (tC (.int 1))) (tCons (tVar 7) (tNil)))))) (tNil)))) (tC (.bl false)))) (tRet (tC (.bl false))) (tNext)))) = TL
  walk_at "rx"
  refine ⟨tp, l, l.low, 0, f, rfl, hT, o, hTs, by omega, by omega, by decide, by decide, fun T3 H1 e1 t1 q1 => ?_⟩
  have hT1 := nx_tup e1 hT
  obtain ⟨tc, tm, xs, ys, h1, h2, h3, h4, h5⟩ := hQ.extN e1
  walk_at "rx"
  refine ⟨tp, l, lo', l.top, -lo', rfl, hT1, o, t1, l4, by omega, by omega, by omega, fun T4 H2 e2 t2 q2 => ?_⟩
  walk_at "rx"
  have eN := e1.trans (e2.trans (LamX.ExtN.of ne))
  have hWn := nx_lst eN hW
  have sz := sizeLine_eq
  refine ⟨W, nt, ws, _, rfl, rfl, hWn, nh, by rw [sz]; simp only [List.length_cons, List.length_nil]; omega, ?_⟩
  generalize hG : upd nH W _ = G
  obtain ⟨a1, a2, a3, a4⟩ := ap_of hWn hG
  clear hG
  walk_at "rx"
  subst hTL
  have tG : ExtT H G := fun a xs h => a3 _ _ (nx_tup eN h)
  have tG1 : ExtT H1 G := fun a xs h => a3 _ _ (nx_tup (e2.trans (LamX.ExtN.of ne)) h)
  have tG2 : ExtT H2 G := fun a xs h => a3 _ _ (ne _ _ h)
  have hLG : IsLp K G lp l := by
    obtain ⟨dx, hi⟩ := hL.extN eN
    exact ⟨dx, a2 _ _ _ _ hi⟩
  refine fin_13 o f1 f2 (tG _ _ hT) hLG (tabs_extB (t2.ext ne) hWn a4) a1 (by rw [List.length_append]; simp only [List.length_cons, List.length_nil]; omega) (fun v hv => ?_) fun H' e T' => k H' (fun b u n h t => e _ _ (a4 _ _ (fun z => n (by rw [z]; exact List.mem_singleton.mpr rfl)) (eN _ _ h t)) t) T'
  rcases List.mem_append.mp hv with hv | hv
  · exact (hb v hv).extT tG
  · simp only [List.mem_cons, List.not_mem_nil, or_false] at hv
    rcases hv with rfl | rfl
    · exact ⟨_, _, _, _, rfl, q1.extT tG1, ref_noW o (by omega) (by omega) (by omega) (by unfold Sz; omega) (.inr (.inl (by decide)))⟩
    · exact ⟨_, _, _, _, rfl, q2.extT tG2, ref_noW o l4 (by omega) (by omega) (by unfold Sz; omega) (.inr (.inr (by omega)))⟩
theorem fin_11 {lo' hi' : Int} {v0 v1 v2 v9 v10 v11 v12 v13 v14 : Option V} (o : l.Ok) (f1 : 1000000 ≤ f) (f2 : f ≤ 2000000000) (hT : H tp = some (.tup l.V)) (hL : IsLp K H lp l) (hTs : LamX.Tabs (tabsM K) H) (hQ : TabQ H T l f lo' hi') (l4 : -4 ≤ lo') (l0 : lo' ≤ 0)
    (k : ∀ H', LamX.ExtN H H' → LamX.Tabs (tabsM K) H' → ∀ w12 w14 : Option V, D.nx [v0, v1, v2, some (.ref tp), some (.ref lp), some (.int l.low), some (.int l.top), some (.int f), some (.ref T), v9, v10, v11, w12, v13, w14] H') :
    (tSeq (tAsg (tLst (tCons (tCall (sp_l_made K) [] E0 (tCons (tVar 3) (tCons (tVar 5) (tCons (tOp FW.rSub (tVar 6) (tC (.int 1))) (tCons (tVar 7) (tNil)))))) (tCons (tCall (sp_l_made K) [] E0 (tCons (tVar 3) (tCons (tC (.int 1)) (tCons (tVar 6) (tCons (tVar 7) (tNil)))))) (tNil)))) (gName 12)) (tSeq (tDrop (tBM K "list" rExtend (tVar 12) (tCons (tLst (tCons (tCall (sp_l_made K) [] E0 (tCons (tVar 3) (tCons (tVar 5) (tCons (tC (.int 0)) (tCons (tVar 7) (tNil)))))) (tCons (tCall (sp_l_made K) [] E0 (tCons (tVar 3) (tCons (tOp (rIxT K) (tVar 8) (tC (.int 1))) (tCons (tVar 6) (tCons (tUn FW.rNeg (tOp (rIxT K) (tVar 8) (tC (.int 1)))) (tNil)))))) (tNil)))) (tNil)))) (tSeq (tIfS (tTest (tOp (rNeD K) (tLc (iList K (tVar 12)) (gName 13) (tTest (tOp FW.rIsNB (tCall (sp_is_table K) [] E0 (tCons (tVar 4) (tCons (tVar 13) (tNil)))) (tC (.bl false)))) (tVar 13) [13]) (tLst (tNil)))) (tRet (tC (.bl false))) (tNext)) (tSeq (tAsg (tOp (rCatA K) (tOp (rCatA K) (tSl (rSlA K) (tVar 3) (tNoPart) (tPart (tC (.int 3)))) (tTup (tCons (tOp FW.rAdd (tOp (rIxT K) (tVar 3) (tC (.int 1))) (tOp (rIxT K) (tVar 3) (tC (.int 2)))) (tNil)))) (tSl (rSlA K) (tVar 3) (tPart (tC (.int 4))) (tNoPart))) (gName 14)) (tIfS (tTest (tOp FW.rIsNB (tCall (sp_is_table K) [] E0 (tCons (tCall (sp_l_loop K) [] E0 (tCons (tVar 14) (tNil))) (tCons (tCall (sp_l_made K) [] E0 (tCons (tVar 14) (tCons (tC (.int 1)) (tCons (tOp (rIxT K) (tCall (sp_l_window K) [] E0 (tCons (tVar 14) (tNil))) (tC (.int 1))) (tCons (tVar 7) (tNil)))))) (tNil)))) (tC (.bl false)))) (tRet (tC (.bl false))) (tNext)))))) D [v0, v1, v2, some (.ref tp), some (.ref lp), some (.int l.low), some (.int l.top), some (.int f), some (.ref T), v9, v10, v11, v12, v13, v14] H := by
  have w := win o
  generalize hTL : (tSeq (tDrop (tBM K "list" rExtend (tVar 12) (tCons (tLst (tCons (tCall (sp_l_made K) [] E0 (tCons (tVar 3) (tCons (tVar 5) (tCons (tC (.int 0)) (tCons (tVar 7) (tNil)))))) (tCons (tCall (sp_l_made K) [] E0 (tCons (tVar 3) (tCons (tOp (rIxT K) (tVar 8) (tC (.int 1))) (tCons (tVar 6) (tCons (tUn FW.rNeg (tOp (rIxT K) (tVar 8) (tC (.int 1)))) (tNil)))))) (tNil)))) (tNil)))) (tSeq (tIfS (tTest (tOp (rNeD K) (tLc (iList K (tVar 12)) (gName 13) (tTest (tOp FW.rIsNB (tCall (sp_is_table K) [] E0 (tCons (tVar 4) (tCons (tVar 13) (tNil)))) (tC (.bl false)))) (tVar 13) [13]) (tLst (tNil)))) (tRet (tC (.bl false))) (tNext)) (tSeq (tAsg (tOp (rCatA K) (tOp (rCatA K) (tSl (rSlA K) (tVar 3) (tNoPart) (tPart (tC (.int 3)))) (tTup (tCons (tOp FW.rAdd (tOp (rIxT K) (tVar 3) (tC (.int 1))) (tOp (rIxT K) (tVar 3) (tC (.int 2)))) (tNil)))) (tSl (rSlA K) (tVar 3) (tPart (tC (.int 4))) (tNoPart))) (gName 14)) (tIfS (tTest (tOp FW.rIsNB (tCall (sp_is_table K) [] E0 (tCons (tCall (sp_l_loop K) [] E0 (tCons (tVar 14) (tNil))) (tCons (tCall (sp_l_made K) [] E0 (tCons (tVar 14) (tCons (tC (.int 1)) (tCons (tOp (rIxT K) (tCall (sp_l_window K) [] E0 (tCons (tVar 14) (tNil))) (tC (.int 1))) (tCons (tVar 7) (tNil)))))) (tNil)))) (tC (.bl false)))) (tRet (tC (.bl false))) (tNext))))) = TL
  walk_at "rx"
  refine ⟨tp, l, l.low, l.top - 1, f, rfl, hT, o, hTs, by omega, by omega, by omega, by omega, fun T1 H1 e1 t1 q1 => ?_⟩
  have hT1 := nx_tup e1 hT
  walk_at "rx"
  refine ⟨tp, l, 1, l.top, f, rfl, hT1, o, t1, by decide, by decide, by omega, by omega, fun T2 H2 e2 t2 q2 => ?_⟩
  walk_at "rx"
  have eN := e1.trans (e2.trans (LamX.ExtN.of ne))
  have tG1 : ExtT H1 nH := fun a xs h => nx_tup (e2.trans (LamX.ExtN.of ne)) h
  subst hTL
  refine fin_12 o f1 f2 (nx_tup eN hT) (hL.extN eN) (t2.ext ne) nh (Nat.le_of_ble_eq_true rfl) (fun v hv => ?_) (hQ.extN eN) l4 l0 fun H' e T' w14 => k H' (fun b u h t => e b u (fun z => ?_) (eN _ _ h t) t) T' _ _
  · simp only [List.mem_cons, List.not_mem_nil, or_false] at hv
    rcases hv with rfl | rfl
    · exact ⟨_, _, _, _, rfl, q1.extT tG1, ref_topW o (by omega) (by omega) (by omega) (by omega) (by unfold Sz; omega)⟩
    · exact ⟨_, _, _, _, rfl, q2.extT (ExtT.of ne), ref_noW o (by decide) (by decide) (by omega) (by unfold Sz; omega) (.inl (by decide))⟩
  · have z := List.mem_singleton.mp z
    rw [z] at h
    have := (e1.trans e2) _ _ h t
    rw [nz] at this
    cases this
theorem fin_10 {m : Nat} {lo hi : Int} {v0 v1 v9 v10 v11 v12 v13 v14 : Option V} (o : l.Ok) (f1 : 1000000 ≤ f) (f2 : f ≤ 2000000000) (S : Strm H p m) (hm : m < 9000) (hT : H tp = some (.tup l.V)) (hL : IsLp K H lp l) (hTs : LamX.Tabs (tabsM K) H) (hQ : TabQ H T l f lo hi) (l4 : -4 ≤ lo) (l0 : lo ≤ 0) (h3 : l.top ≤ hi) (h4 : hi ≤ l.top + 3)
    (k : ∀ H', ExtS [p] H H' → LamX.Tabs (tabsM K) H' → ∀ w12 w14 : Option V, D.nx [v0, v1, some (.ref p), some (.ref tp), some (.ref lp), some (.int l.low), some (.int l.top), some (.int f), some (.ref T), v9, v10, v11, w12, v13, w14] H') :
    (tSeq (tIfS (tTest (tOp FW.rIsNB (tCall (sp_is_table K) [] E0 (tCons (tVar 4) (tCons (tCall (sp_l_wrong K) [] E0 (tCons (tVar 2) (tCons (tVar 8) (tNil)))) (tNil)))) (tC (.bl false)))) (tRet (tC (.bl false))) (tNext)) (tSeq (tAsg (tLst (tCons (tCall (sp_l_made K) [] E0 (tCons (tVar 3) (tCons (tVar 5) (tCons (tOp FW.rSub (tVar 6) (tC (.int 1))) (tCons (tVar 7) (tNil)))))) (tCons (tCall (sp_l_made K) [] E0 (tCons (tVar 3) (tCons (tC (.int 1)) (tCons (tVar 6) (tCons (tVar 7) (tNil)))))) (tNil)))) (gName 12)) (tSeq (tDrop (tBM K "list" rExtend (tVar 12) (tCons (tLst (tCons (tCall (sp_l_made K) [] E0 (tCons (tVar 3) (tCons (tVar 5) (tCons (tC (.int 0)) (tCons (tVar 7) (tNil)))))) (tCons (tCall (sp_l_made K) [] E0 (tCons (tVar 3) (tCons (tOp (rIxT K) (tVar 8) (tC (.int 1))) (tCons (tVar 6) (tCons (tUn FW.rNeg (tOp (rIxT K) (tVar 8) (tC (.int 1)))) (tNil)))))) (tNil)))) (tNil)))) (tSeq (tIfS (tTest (tOp (rNeD K) (tLc (iList K (tVar 12)) (gName 13) (tTest (tOp FW.rIsNB (tCall (sp_is_table K) [] E0 (tCons (tVar 4) (tCons (tVar 13) (tNil)))) (tC (.bl false)))) (tVar 13) [13]) (tLst (tNil)))) (tRet (tC (.bl false))) (tNext)) (tSeq (tAsg (tOp (rCatA K) (tOp (rCatA K) (tSl (rSlA K) (tVar 3) (tNoPart) (tPart (tC (.int 3)))) (tTup (tCons (tOp FW.rAdd (tOp (rIxT K) (tVar 3) (tC (.int 1))) (tOp (rIxT K) (tVar 3) (tC (.int 2)))) (tNil)))) (tSl (rSlA K) (tVar 3) (tPart (tC (.int 4))) (tNoPart))) (gName 14)) (tIfS (tTest (tOp FW.rIsNB (tCall (sp_is_table K) [] E0 (tCons (tCall (sp_l_loop K) [] E0 (tCons (tVar 14) (tNil))) (tCons (tCall (sp_l_made K) [] E0 (tCons (tVar 14) (tCons (tC (.int 1)) (tCons (tOp (rIxT K) (tCall (sp_l_window K) [] E0 (tCons (tVar 14) (tNil))) (tC (.int 1))) (tCons (tVar 7) (tNil)))))) (tNil)))) (tC (.bl false)))) (tRet (tC (.bl false))) (tNext))))))) D [v0, v1, some (.ref p), some (.ref tp), some (.ref lp), some (.int l.low), some (.int l.top), some (.int f), some (.ref T), v9, v10, v11, v12, v13, v14] H := by
  have w := win o
  generalize hTL : (tSeq (tAsg (tLst (tCons (tCall (sp_l_made K) [] E0 (tCons (tVar 3) (tCons (tVar 5) (tCons (tOp FW.rSub (tVar 6) (tC (.int 1))) (tCons (tVar 7) (tNil)))))) (tCons (tCall (sp_l_made K) [] E0 (tCons (tVar 3) (tCons (tC (.int 1)) (tCons (tVar 6) (tCons (tVar 7) (tNil)))))) (tNil)))) (gName 12)) (tSeq (tDrop (tBM K "list" rExtend (tVar 12) (tCons (tLst (tCons (tCall (sp_l_made K) [] E0 (tCons (tVar 3) (tCons (tVar 5) (tCons (tC (.int 0)) (tCons (tVar 7) (tNil)))))) (tCons (tCall (sp_l_made K) [] E0 (tCons (tVar 3) (tCons (tOp (rIxT K) (tVar 8) (tC (.int 1))) (tCons (tVar 6) (tCons (tUn FW.rNeg (tOp (rIxT K) (tVar 8) (tC (.int 1)))) (tNil)))))) (tNil)))) (tNil)))) (tSeq (tIfS (tTest (tOp (rNeD K) (tLc (iList K (tVar 12)) (gName 13) (tTest (tOp FW.rIsNB (tCall (sp_is_table K) [] E0 (tCons (tVar 4) (tCons (tVar 13) (tNil)))) (tC (.bl false)))) (tVar 13) [13]) (tLst (tNil)))) (tRet (tC (.bl false))) (tNext)) (tSeq (tAsg (tOp (rCatA K) (tOp (rCatA K) (tSl (rSlA K) (tVar 3) (tNoPart) (tPart (tC (.int 3)))) (tTup (tCons (tOp FW.rAdd (tOp (rIxT K) (tVar 3) (tC (.int 1))) (tOp (rIxT K) (tVar 3) (tC (.int 2)))) (tNil)))) (tSl (rSlA K) (tVar 3) (tPart (tC (.int 4))) (tNoPart))) (gName 14)) (tIfS (tTest (tOp FW.rIsNB (tCall (sp_is_table K) [] E0 (tCons (tCall (sp_l_loop K) [] E0 (tCons (tVar 14) (tNil))) (tCons (tCall (sp_l_made K) [] E0 (tCons (tVar 14) (tCons (tC (.int 1)) (tCons (tOp (rIxT K) (tCall (sp_l_window K) [] E0 (tCons (tVar 14) (tNil))) (tC (.int 1))) (tCons (tVar 7) (tNil)))))) (tNil)))) (tC (.bl false)))) (tRet (tC (.bl false))) (tNext)))))) = TL
  walk_at "rx"
  refine ⟨p, T, l, f, lo, hi, m, rfl, S, by omega, hQ, o, hold_far o l4 l0 h3 h4 f1, l4, h3, h4, by unfold Sz; omega, fun v H1 e1 ⟨d, hd, hr⟩ => ?_⟩
  walk_at "rx"
  refine call_ref (hL.extB S e1) o hd hr fun H2 e2 => ?_
  walk_at "rx"
  refine is_nbF ?_
  walk_at "rx"
  subst hTL
  have E : ExtB p H H2 := e1.tr (ExtB.of e2)
  have tE := ExtT.ofB S E
  obtain ⟨c1, c2, c3, hp4, _⟩ := id S
  exact fin_11 o f1 f2 (tE _ _ hT) (hL.extB S E) (tabs_extB hTs hp4 E) (hQ.extT tE) l4 l0 fun H' e T' => k H' (ExtS.tr (ExtS.ofB E) (ExtS.ofN e)) T'
end
end FWL
namespace FWL
open PySem PySem.Spec PyProof.Rows L2 FW
set_option hygiene false in
local macro_rules | `(tactic| walk_at "rv") => `(tactic| (have nt := (); have nz := (); have nH := (); have ne := (); have nh := ()))
/-! ### k15: the law, joined -/
section
variable {K : PySem.W.Frag} {H : Hp} {σ : L2.St} {Q : VK} {n : Nat} {tc L : Addr} {xs ys : List V} {cs : List (List Int)} {g : List Int → List Int} {te : TE}
def LsG (g : List Int → List Int) (H G : Hp) (ys : List V) (cs : List (List Int)) : Prop := Paired (fun y c => ∃ b, y = V.ref b ∧ H b = none ∧ G b = some (.lst ((g c).map V.int))) ys cs
theorem LsG.dt {G : Hp} : ∀ {ys : List V} {cs : List (List Int)}, LsG g H G ys cs → DtAll G ys ((cs.map g).map rowL)
  | _, _, .nil => .nil
  | _, c :: _, .cons ⟨b, e, z, g⟩ r => by
    rw [e]
    exact .cons (.lst g (dts_ints _)) (LsG.dt r)
theorem LsG.dtL {G : Hp} {o : HO} (hp : H L = some o) : ∀ {ys : List V} {cs : List (List Int)}, LsG g H G ys cs → DtAll (hole L G) ys ((cs.map g).map rowL)
  | _, _, .nil => .nil
  | _, c :: _, .cons ⟨b, e, z, g⟩ r => by
    rw [e]
    exact .cons (.lst (hole_of g fun w => by rw [w, hp] at z; cases z) (dts_ints _)) (LsG.dtL hp r)
theorem lc_rowsG (hw : ∀ v : V, wipe ((wipe σ [n]).set n (some v)) [n] = wipe σ [n]) (hc : H tc = some (.tup xs)) (px : Pls H xs cs) (hl : xs.length ≤ 1000)
    (hte : ∀ a c (H' : Hp) (R : VK), c ∈ cs → H' a = some (.tup ((c : List Int).map V.int)) → (∀ b H'', H' b = none → Ext H' H'' → H'' b = some (.lst ((g c).map V.int)) → R (.ref b) H'') → te ((wipe σ [n]).set n (some (.ref a))) H' R)
    (q : ∀ D G ys, H D = none → Ext H G → G D = some (.lst ys) → LsG g H G ys cs → Q (.ref D) G) : LcK (gName n) tYes te [n] σ Q (Itt K tc) H := by
  intro D hD
  have xl : xs.length = cs.length := Paired.length px
  refine lc_tup (K := K) (a := tc) (xs := xs) (fun i H' => Ext H H' ∧ ∃ ys, H' D = some (.lst ys) ∧ ys.length = i ∧ Paired (fun y c => ∃ b, y = V.ref b ∧ H b = none ∧ b ≠ D ∧ H' b = some (.lst ((g c).map V.int))) ys (cs.take i)) ⟨Ext.new hD, [], upd_same, rfl, .nil⟩ (fun i H' _ h' => SqT.of (h'.1 _ _ hc)) ?_ ?_
  · rintro i x H' hx ⟨e, ys, hy, yl, hp⟩
    have hi := (List.getElem?_eq_some_iff.mp hx).1
    obtain ⟨a, c, h1, h2, h3⟩ := pls_at px (i := i) (by omega)
    rw [hx] at h1
    cases h1
    refine g_name ⟨hw _, ?_⟩
    dsimp only [tYes]
    rw [if_pos rfl]
    refine hte a c H' _ (List.mem_of_getElem? h2) (e _ _ h3) fun b G hb eG gb => ?_
    have bD : b ≠ D := fun z => by rw [z, hy] at hb; cases hb
    refine ⟨ys, eG _ _ hy, by show _ < 2 ^ 24; omega, (e.tr eG).upds hD, ys ++ [.ref b], upd_same, by rw [List.length_append, yl]; rfl, ?_⟩
    rw [List.take_add_one, h2]
    exact Paired.snoc (Paired.mapP hp fun y c ⟨b', z1, z2, z3, z4⟩ => ⟨b', z1, z2, z3, by rw [upd_ne z3]; exact eG _ _ z4⟩) ⟨b, rfl, none_ofE e hb, bD, by rw [upd_ne bD]; exact gb⟩
  · rintro H' ⟨e, ys, hy, yl, hp⟩
    rw [xl, List.take_length] at hp
    exact q D H' ys hD e hy (Paired.mapP hp fun y c ⟨b', z1, z2, z3, z4⟩ => ⟨b', z1, z2, z4⟩)
theorem rows_layL : ∀ cs : List (List Int), PyData.canLayAll0 (cs.map rowL) = true ∧ PyData.depthAll (cs.map rowL) ≤ 1
  | [] => ⟨rfl, Nat.zero_le _⟩
  | c :: cs => by
    obtain ⟨h1, h2⟩ := rows_layL cs
    refine ⟨?_, ?_⟩
    · rw [List.map_cons, PyData.canLayAll0, h1, rowL, PyData.canLay0, layI]; rfl
    · rw [List.map_cons, PyData.depthAll, rowL, PyData.depth, depI]; omega
theorem rowsL_sh (cs : List (List Int)) : SeqAt.shaped (.list (cs.map rowL)) = true := by
  obtain ⟨a1, a2⟩ := rows_layL cs
  unfold SeqAt.shaped
  rw [PyData.canLay0, a1, PyData.depth, Bool.true_and]
  exact decide_eq_true (by omega)
end
section
variable {K : PySem.W.Frag} {H : Hp} {D : Ends} {p tp lp T L W a : Addr} {l : Lp} {f lo hi : Int}
def lisQ (l : Lp) (f lo hi : Int) : PyData := lisD f lo hi ((l.cuts lo hi).map z0) (mapsP l lo hi (l.cuts lo hi))
theorem fin_9 {m : Nat} {v0 v1 v10 v11 v12 v13 v14 : Option V} (o : l.Ok) (f1 : 1000000 ≤ f) (f2 : f ≤ 2000000000) (S : Strm H p m) (hm : m < 9000) (hT : H tp = some (.tup l.V)) (hL : IsLp K H lp l) (hTs : LamX.Tabs (tabsM K) H) (hQ : TabQ H T l f lo hi) (l4 : -4 ≤ lo) (l0 : lo ≤ 0) (h3 : l.top ≤ hi) (h4 : hi ≤ l.top + 3) (hD : Dt H (.ref L) (lisQ l f lo hi))
    (k : ∀ H', ExtS [p] H H' → LamX.Tabs (tabsM K) H' → ∀ w12 w14 : Option V, D.nx [v0, v1, some (.ref p), some (.ref tp), some (.ref lp), some (.int l.low), some (.int l.top), some (.int f), some (.ref T), some (.ref L), v10, v11, w12, v13, w14] H') :
    (tSeq (tIfS (tTest (tOp (rNeD K) (tOp (rIxL K) (tVar 9) (tC (.int 3))) (tLc (iTup K (tOp (rIxT K) (tVar 8) (tC (.int 3)))) (gName 10) (tYes) (tOp rCat (tCB (Evl.rListS K) (tCons (tVar 10) (tNil))) (tLst (tCons (tC (.int 0)) (tNil)))) [10]))) (tRet (tC (.bl false))) (tNext)) (tSeq (tIfS (tTest (tOp FW.rIsNB (tCall (sp_is_table K) [] E0 (tCons (tVar 4) (tCons (tCall (sp_l_wrong K) [] E0 (tCons (tVar 2) (tCons (tVar 8) (tNil)))) (tNil)))) (tC (.bl false)))) (tRet (tC (.bl false))) (tNext)) (tSeq (tAsg (tLst (tCons (tCall (sp_l_made K) [] E0 (tCons (tVar 3) (tCons (tVar 5) (tCons (tOp FW.rSub (tVar 6) (tC (.int 1))) (tCons (tVar 7) (tNil)))))) (tCons (tCall (sp_l_made K) [] E0 (tCons (tVar 3) (tCons (tC (.int 1)) (tCons (tVar 6) (tCons (tVar 7) (tNil)))))) (tNil)))) (gName 12)) (tSeq (tDrop (tBM K "list" rExtend (tVar 12) (tCons (tLst (tCons (tCall (sp_l_made K) [] E0 (tCons (tVar 3) (tCons (tVar 5) (tCons (tC (.int 0)) (tCons (tVar 7) (tNil)))))) (tCons (tCall (sp_l_made K) [] E0 (tCons (tVar 3) (tCons (tOp (rIxT K) (tVar 8) (tC (.int 1))) (tCons (tVar 6) (tCons (tUn FW.rNeg (tOp (rIxT K) (tVar 8) (tC (.int 1)))) (tNil)))))) (tNil)))) (tNil)))) (tSeq (tIfS (tTest (tOp (rNeD K) (tLc (iList K (tVar 12)) (gName 13) (tTest (tOp FW.rIsNB (tCall (sp_is_table K) [] E0 (tCons (tVar 4) (tCons (tVar 13) (tNil)))) (tC (.bl false)))) (tVar 13) [13]) (tLst (tNil)))) (tRet (tC (.bl false))) (tNext)) (tSeq (tAsg (tOp (rCatA K) (tOp (rCatA K) (tSl (rSlA K) (tVar 3) (tNoPart) (tPart (tC (.int 3)))) (tTup (tCons (tOp FW.rAdd (tOp (rIxT K) (tVar 3) (tC (.int 1))) (tOp (rIxT K) (tVar 3) (tC (.int 2)))) (tNil)))) (tSl (rSlA K) (tVar 3) (tPart (tC (.int 4))) (tNoPart))) (gName 14)) (tIfS (tTest (tOp FW.rIsNB (tCall (sp_is_table K) [] E0 (tCons (tCall (sp_l_loop K) [] E0 (tCons (tVar 14) (tNil))) (tCons (tCall (sp_l_made K) [] E0 (tCons (tVar 14) (tCons (tC (.int 1)) (tCons (tOp (rIxT K) (tCall (sp_l_window K) [] E0 (tCons (tVar 14) (tNil))) (tC (.int 1))) (tCons (tVar 7) (tNil)))))) (tNil)))) (tC (.bl false)))) (tRet (tC (.bl false))) (tNext)))))))) D [v0, v1, some (.ref p), some (.ref tp), some (.ref lp), some (.int l.low), some (.int l.top), some (.int f), some (.ref T), some (.ref L), v10, v11, v12, v13, v14] H := by
  have tb := top_bound o
  have cl := cuts_len o lo hi
  obtain ⟨tc, tm, xs, ys, g1, g2, g3, g4, g5⟩ := id hQ
  have xl : xs.length = (l.cuts lo hi).length := Paired.length g3
  obtain ⟨la, zs, e, hz, hd⟩ := hD.seq (ds := [.int f, .int lo, .int hi, .list (((l.cuts lo hi).map z0).map rowL), .list ((mapsP l lo hi (l.cuts lo hi)).map rowL)]) rfl
  cases e
  have hz : H L = some (.lst zs) := by
    cases hD with
    | lst h _ => rcases hz with hz | hz
                 · exact hz
                 · rw [h] at hz; cases hz
  obtain ⟨v4, hv4, hd4⟩ := hd.at (i := 3) rfl
  generalize hTL : (tSeq (tIfS (tTest (tOp FW.rIsNB (tCall (sp_is_table K) [] E0 (tCons (tVar 4) (tCons (tCall (sp_l_wrong K) [] E0 (tCons (tVar 2) (tCons (tVar 8) (tNil)))) (tNil)))) (tC (.bl false)))) (tRet (tC (.bl false))) (tNext)) (tSeq (tAsg (tLst (tCons (tCall (sp_l_made K) [] E0 (tCons (tVar 3) (tCons (tVar 5) (tCons (tOp FW.rSub (tVar 6) (tC (.int 1))) (tCons (tVar 7) (tNil)))))) (tCons (tCall (sp_l_made K) [] E0 (tCons (tVar 3) (tCons (tC (.int 1)) (tCons (tVar 6) (tCons (tVar 7) (tNil)))))) (tNil)))) (gName 12)) (tSeq (tDrop (tBM K "list" rExtend (tVar 12) (tCons (tLst (tCons (tCall (sp_l_made K) [] E0 (tCons (tVar 3) (tCons (tVar 5) (tCons (tC (.int 0)) (tCons (tVar 7) (tNil)))))) (tCons (tCall (sp_l_made K) [] E0 (tCons (tVar 3) (tCons (tOp (rIxT K) (tVar 8) (tC (.int 1))) (tCons (tVar 6) (tCons (tUn FW.rNeg (tOp (rIxT K) (tVar 8) (tC (.int 1)))) (tNil)))))) (tNil)))) (tNil)))) (tSeq (tIfS (tTest (tOp (rNeD K) (tLc (iList K (tVar 12)) (gName 13) (tTest (tOp FW.rIsNB (tCall (sp_is_table K) [] E0 (tCons (tVar 4) (tCons (tVar 13) (tNil)))) (tC (.bl false)))) (tVar 13) [13]) (tLst (tNil)))) (tRet (tC (.bl false))) (tNext)) (tSeq (tAsg (tOp (rCatA K) (tOp (rCatA K) (tSl (rSlA K) (tVar 3) (tNoPart) (tPart (tC (.int 3)))) (tTup (tCons (tOp FW.rAdd (tOp (rIxT K) (tVar 3) (tC (.int 1))) (tOp (rIxT K) (tVar 3) (tC (.int 2)))) (tNil)))) (tSl (rSlA K) (tVar 3) (tPart (tC (.int 4))) (tNoPart))) (gName 14)) (tIfS (tTest (tOp FW.rIsNB (tCall (sp_is_table K) [] E0 (tCons (tCall (sp_l_loop K) [] E0 (tCons (tVar 14) (tNil))) (tCons (tCall (sp_l_made K) [] E0 (tCons (tVar 14) (tCons (tC (.int 1)) (tCons (tOp (rIxT K) (tCall (sp_l_window K) [] E0 (tCons (tVar 14) (tNil))) (tC (.int 1))) (tCons (tVar 7) (tNil)))))) (tNil)))) (tC (.bl false)))) (tRet (tC (.bl false))) (tNext))))))) = TL
  walk_at "rx"
  refine ha_ixL hz (atI_of (n := 3) hv4 rfl) ?_
  walk_at "rx"
  refine ⟨tc, rfl, ⟨xs, SqT.of g2⟩, ?_⟩
  refine lc_rowsG (g := z0) (fun v => rfl) g2 g3 (by omega) (fun a c H' R hc ha kk => ?_) fun D2 G ws hD2 eG hG hls => ?_
  · have pz := (cut_pz o (by omega) (by omega) hc).1
    walk_at "re"
    refine e_listS (fun b hb => ?_) (.inr (SqT.of ha))
    generalize hG : upd H' b _ = G
    obtain ⟨eG, gb⟩ := al_of hb hG
    clear hG
    walk_at "rx"
    refine e_catX (ne _ _ gb) nh (by rw [List.length_map]; have := pz.1; simp only [List.length_cons, List.length_nil]; omega) fun q1 G1 z1 e1 h1 => ?_
    refine kk q1 G1 (none_ofE (eG.tr ne) z1) (eG.tr (ne.tr e1)) ?_
    rw [h1]
    unfold z0
    rw [List.map_append]; rfl
  · refine e_neD ?_ (Dt.dp _ _ (Dt.ext eG _ _ hd4)) (Dt.dp _ _ (.lst hG hls.dt)) (rowsL_sh _) (rowsL_sh _)
    rw [SeqAt.eqv_refl _ (SeqAt.canLay_of_shaped (rowsL_sh _))]
    walk_at "rx"
    subst hTL
    exact fin_10 o f1 f2 (S.ext eG) hm (eG _ _ hT) (hL.ext eG) (hTs.ext eG) (hQ.extT (ExtT.of eG)) l4 l0 h3 h4 fun H' e T' => k H' (ExtS.tr (ExtS.ofN (LamX.ExtN.of eG)) e) T'
theorem fin_8 {m : Nat} {v0 v1 v10 v11 v12 v13 v14 : Option V} (o : l.Ok) (f1 : 1000000 ≤ f) (f2 : f ≤ 2000000000) (S : Strm H p m) (hm : m < 9000) (hT : H tp = some (.tup l.V)) (hL : IsLp K H lp l) (hTs : LamX.Tabs (tabsM K) H) (hQ : TabQ H T l f lo hi) (l4 : -4 ≤ lo) (l0 : lo ≤ 0) (h3 : l.top ≤ hi) (h4 : hi ≤ l.top + 3) (hlo : lo ≤ l.ll lo) (hD : Dt H (.ref L) (lisQ l f lo hi))
    (k : ∀ H', ExtS [p] H H' → LamX.Tabs (tabsM K) H' → ∀ w12 w14 : Option V, D.nx [v0, v1, some (.ref p), some (.ref tp), some (.ref lp), some (.int l.low), some (.int l.top), some (.int f), some (.ref T), some (.ref L), v10, v11, w12, v13, w14] H') :
    (tSeq (tIfS (tOr (tTest (tOp FW.rIsNB (tCall (sp_is_table K) [] E0 (tCons (tVar 4) (tCons (tVar 8) (tNil)))) (tC (.bl true)))) (tTest (tOp FW.rIsNB (tCall (sp_is_table K) [] E0 (tCons (tVar 4) (tCons (tVar 9) (tNil)))) (tC (.bl true))))) (tRet (tC (.bl false))) (tNext)) (tSeq (tIfS (tTest (tOp (rNeD K) (tOp (rIxL K) (tVar 9) (tC (.int 3))) (tLc (iTup K (tOp (rIxT K) (tVar 8) (tC (.int 3)))) (gName 10) (tYes) (tOp rCat (tCB (Evl.rListS K) (tCons (tVar 10) (tNil))) (tLst (tCons (tC (.int 0)) (tNil)))) [10]))) (tRet (tC (.bl false))) (tNext)) (tSeq (tIfS (tTest (tOp FW.rIsNB (tCall (sp_is_table K) [] E0 (tCons (tVar 4) (tCons (tCall (sp_l_wrong K) [] E0 (tCons (tVar 2) (tCons (tVar 8) (tNil)))) (tNil)))) (tC (.bl false)))) (tRet (tC (.bl false))) (tNext)) (tSeq (tAsg (tLst (tCons (tCall (sp_l_made K) [] E0 (tCons (tVar 3) (tCons (tVar 5) (tCons (tOp FW.rSub (tVar 6) (tC (.int 1))) (tCons (tVar 7) (tNil)))))) (tCons (tCall (sp_l_made K) [] E0 (tCons (tVar 3) (tCons (tC (.int 1)) (tCons (tVar 6) (tCons (tVar 7) (tNil)))))) (tNil)))) (gName 12)) (tSeq (tDrop (tBM K "list" rExtend (tVar 12) (tCons (tLst (tCons (tCall (sp_l_made K) [] E0 (tCons (tVar 3) (tCons (tVar 5) (tCons (tC (.int 0)) (tCons (tVar 7) (tNil)))))) (tCons (tCall (sp_l_made K) [] E0 (tCons (tVar 3) (tCons (tOp (rIxT K) (tVar 8) (tC (.int 1))) (tCons (tVar 6) (tCons (tUn FW.rNeg (tOp (rIxT K) (tVar 8) (tC (.int 1)))) (tNil)))))) (tNil)))) (tNil)))) (tSeq (tIfS (tTest (tOp (rNeD K) (tLc (iList K (tVar 12)) (gName 13) (tTest (tOp FW.rIsNB (tCall (sp_is_table K) [] E0 (tCons (tVar 4) (tCons (tVar 13) (tNil)))) (tC (.bl false)))) (tVar 13) [13]) (tLst (tNil)))) (tRet (tC (.bl false))) (tNext)) (tSeq (tAsg (tOp (rCatA K) (tOp (rCatA K) (tSl (rSlA K) (tVar 3) (tNoPart) (tPart (tC (.int 3)))) (tTup (tCons (tOp FW.rAdd (tOp (rIxT K) (tVar 3) (tC (.int 1))) (tOp (rIxT K) (tVar 3) (tC (.int 2)))) (tNil)))) (tSl (rSlA K) (tVar 3) (tPart (tC (.int 4))) (tNoPart))) (gName 14)) (tIfS (tTest (tOp FW.rIsNB (tCall (sp_is_table K) [] E0 (tCons (tCall (sp_l_loop K) [] E0 (tCons (tVar 14) (tNil))) (tCons (tCall (sp_l_made K) [] E0 (tCons (tVar 14) (tCons (tC (.int 1)) (tCons (tOp (rIxT K) (tCall (sp_l_window K) [] E0 (tCons (tVar 14) (tNil))) (tC (.int 1))) (tCons (tVar 7) (tNil)))))) (tNil)))) (tC (.bl false)))) (tRet (tC (.bl false))) (tNext))))))))) D [v0, v1, some (.ref p), some (.ref tp), some (.ref lp), some (.int l.low), some (.int l.top), some (.int f), some (.ref T), some (.ref L), v10, v11, v12, v13, v14] H := by
  have tb := top_bound o
  have hF := hold_far o l4 l0 h3 h4 f1
  have sf : Sz 250 f := by unfold Sz; omega
  have sm := smallW o l4 (show lo ≤ 1 by omega) h4 sf
  have s2 := small_z0 o l4 (show lo ≤ 1 by omega) h4 sf
  have tw := tabW o hF hlo h3
  generalize hTL : (tSeq (tIfS (tTest (tOp (rNeD K) (tOp (rIxL K) (tVar 9) (tC (.int 3))) (tLc (iTup K (tOp (rIxT K) (tVar 8) (tC (.int 3)))) (gName 10) (tYes) (tOp rCat (tCB (Evl.rListS K) (tCons (tVar 10) (tNil))) (tLst (tCons (tC (.int 0)) (tNil)))) [10]))) (tRet (tC (.bl false))) (tNext)) (tSeq (tIfS (tTest (tOp FW.rIsNB (tCall (sp_is_table K) [] E0 (tCons (tVar 4) (tCons (tCall (sp_l_wrong K) [] E0 (tCons (tVar 2) (tCons (tVar 8) (tNil)))) (tNil)))) (tC (.bl false)))) (tRet (tC (.bl false))) (tNext)) (tSeq (tAsg (tLst (tCons (tCall (sp_l_made K) [] E0 (tCons (tVar 3) (tCons (tVar 5) (tCons (tOp FW.rSub (tVar 6) (tC (.int 1))) (tCons (tVar 7) (tNil)))))) (tCons (tCall (sp_l_made K) [] E0 (tCons (tVar 3) (tCons (tC (.int 1)) (tCons (tVar 6) (tCons (tVar 7) (tNil)))))) (tNil)))) (gName 12)) (tSeq (tDrop (tBM K "list" rExtend (tVar 12) (tCons (tLst (tCons (tCall (sp_l_made K) [] E0 (tCons (tVar 3) (tCons (tVar 5) (tCons (tC (.int 0)) (tCons (tVar 7) (tNil)))))) (tCons (tCall (sp_l_made K) [] E0 (tCons (tVar 3) (tCons (tOp (rIxT K) (tVar 8) (tC (.int 1))) (tCons (tVar 6) (tCons (tUn FW.rNeg (tOp (rIxT K) (tVar 8) (tC (.int 1)))) (tNil)))))) (tNil)))) (tNil)))) (tSeq (tIfS (tTest (tOp (rNeD K) (tLc (iList K (tVar 12)) (gName 13) (tTest (tOp FW.rIsNB (tCall (sp_is_table K) [] E0 (tCons (tVar 4) (tCons (tVar 13) (tNil)))) (tC (.bl false)))) (tVar 13) [13]) (tLst (tNil)))) (tRet (tC (.bl false))) (tNext)) (tSeq (tAsg (tOp (rCatA K) (tOp (rCatA K) (tSl (rSlA K) (tVar 3) (tNoPart) (tPart (tC (.int 3)))) (tTup (tCons (tOp FW.rAdd (tOp (rIxT K) (tVar 3) (tC (.int 1))) (tOp (rIxT K) (tVar 3) (tC (.int 2)))) (tNil)))) (tSl (rSlA K) (tVar 3) (tPart (tC (.int 4))) (tNoPart))) (gName 14)) (tIfS (tTest (tOp FW.rIsNB (tCall (sp_is_table K) [] E0 (tCons (tCall (sp_l_loop K) [] E0 (tCons (tVar 14) (tNil))) (tCons (tCall (sp_l_made K) [] E0 (tCons (tVar 14) (tCons (tC (.int 1)) (tCons (tOp (rIxT K) (tCall (sp_l_window K) [] E0 (tCons (tVar 14) (tNil))) (tC (.int 1))) (tCons (tVar 7) (tNil)))))) (tNil)))) (tC (.bl false)))) (tRet (tC (.bl false))) (tNext)))))))) = TL
  walk_at "rx"
  refine call_pas hL o (Dt.tabQ hQ) sm.sm (tabD_form.mpr (formW l0 (by omega) (by omega))) (tabD_is ..) sm tw fun H1 e1 => ?_
  walk_at "rx"
  refine is_nbF ?_
  walk_at "rx"
  refine call_pas (hL.ext e1) o (Dt.ext e1 _ _ hD) (lisD_sm (by have := s2.cl; omega) (fun c hc => Nat.le_trans (s2.zc c hc).1 (by decide)) (by have := s2.ml; omega) s2.rl) (by unfold lisQ; rw [lisD_form]; exact tabD_form.mpr (form_z0 l0 (by omega) (by omega))) (lisD_is ..) s2 tw.z0 fun H2 e2 => ?_
  walk_at "rx"
  refine is_nbF ?_
  walk_at "rx"
  have E := e1.tr e2
  subst hTL
  exact fin_9 o f1 f2 (S.ext E) hm (E _ _ hT) (hL.ext E) (hTs.ext E) (hQ.extT (ExtT.of E)) l4 l0 h3 h4 (Dt.ext E _ _ hD) fun H' e T' => k H' (ExtS.tr (ExtS.ofN (LamX.ExtN.of E)) e) T'
theorem fin_7 {m : Nat} {C2 : Addr} {v0 v1 v10 v11 v12 v13 v14 : Option V} (o : l.Ok) (f1 : 1000000 ≤ f) (f2 : f ≤ 2000000000) (S : Strm H p m) (hm : m < 9000) (hT : H tp = some (.tup l.V)) (hL : IsLp K H lp l) (hTs : LamX.Tabs (tabsM K) H) (hQ : TabQ H T l f lo hi) (l4 : -4 ≤ lo) (l0 : lo ≤ 0) (h3 : l.top ≤ hi) (h4 : hi ≤ l.top + 3) (hlo : lo ≤ l.ll lo)
    (hLl : H L = some (.lst [.int f, .int lo, .int hi, .ref C2])) (Lp' : L ≠ p) (hC : Dt (hole L H) (.ref C2) (.list (((l.cuts lo hi).map z0).map rowL)))
    (k : ∀ H', ExtS [p, L] H H' → LamX.Tabs (tabsM K) H' → ∀ w12 w14 : Option V, D.nx [v0, v1, some (.ref p), some (.ref tp), some (.ref lp), some (.int l.low), some (.int l.top), some (.int f), some (.ref T), some (.ref L), v10, v11, w12, v13, w14] H') :
    (tSeq (tDrop (tBM K "list" rAppend (tVar 9) (tCons (tLc (iTup K (tOp (rIxT K) (tVar 8) (tC (.int 4)))) (gName 11) (tYes) (tCB (Evl.rListS K) (tCons (tVar 11) (tNil))) [11]) (tNil)))) (tSeq (tIfS (tOr (tTest (tOp FW.rIsNB (tCall (sp_is_table K) [] E0 (tCons (tVar 4) (tCons (tVar 8) (tNil)))) (tC (.bl true)))) (tTest (tOp FW.rIsNB (tCall (sp_is_table K) [] E0 (tCons (tVar 4) (tCons (tVar 9) (tNil)))) (tC (.bl true))))) (tRet (tC (.bl false))) (tNext)) (tSeq (tIfS (tTest (tOp (rNeD K) (tOp (rIxL K) (tVar 9) (tC (.int 3))) (tLc (iTup K (tOp (rIxT K) (tVar 8) (tC (.int 3)))) (gName 10) (tYes) (tOp rCat (tCB (Evl.rListS K) (tCons (tVar 10) (tNil))) (tLst (tCons (tC (.int 0)) (tNil)))) [10]))) (tRet (tC (.bl false))) (tNext)) (tSeq (tIfS (tTest (tOp FW.rIsNB (tCall (sp_is_table K) [] E0 (tCons (tVar 4) (tCons (tCall (sp_l_wrong K) [] E0 (tCons (tVar 2) (tCons (tVar 8) (tNil)))) (tNil)))) (tC (.bl false)))) (tRet (tC (.bl false))) (tNext)) (tSeq (tAsg (tLst (tCons (tCall (sp_l_made K) [] E0 (tCons (tVar 3) (tCons (tVar 5) (tCons (tOp FW.rSub (tVar 6) (tC (.int 1))) (tCons (tVar 7) (tNil)))))) (tCons (tCall (sp_l_made K) [] E0 (tCons (tVar 3) (tCons (tC (.int 1)) (tCons (tVar 6) (tCons (tVar 7) (tNil)))))) (tNil)))) (gName 12)) (tSeq (tDrop (tBM K "list" rExtend (tVar 12) (tCons (tLst (tCons (tCall (sp_l_made K) [] E0 (tCons (tVar 3) (tCons (tVar 5) (tCons (tC (.int 0)) (tCons (tVar 7) (tNil)))))) (tCons (tCall (sp_l_made K) [] E0 (tCons (tVar 3) (tCons (tOp (rIxT K) (tVar 8) (tC (.int 1))) (tCons (tVar 6) (tCons (tUn FW.rNeg (tOp (rIxT K) (tVar 8) (tC (.int 1)))) (tNil)))))) (tNil)))) (tNil)))) (tSeq (tIfS (tTest (tOp (rNeD K) (tLc (iList K (tVar 12)) (gName 13) (tTest (tOp FW.rIsNB (tCall (sp_is_table K) [] E0 (tCons (tVar 4) (tCons (tVar 13) (tNil)))) (tC (.bl false)))) (tVar 13) [13]) (tLst (tNil)))) (tRet (tC (.bl false))) (tNext)) (tSeq (tAsg (tOp (rCatA K) (tOp (rCatA K) (tSl (rSlA K) (tVar 3) (tNoPart) (tPart (tC (.int 3)))) (tTup (tCons (tOp FW.rAdd (tOp (rIxT K) (tVar 3) (tC (.int 1))) (tOp (rIxT K) (tVar 3) (tC (.int 2)))) (tNil)))) (tSl (rSlA K) (tVar 3) (tPart (tC (.int 4))) (tNoPart))) (gName 14)) (tIfS (tTest (tOp FW.rIsNB (tCall (sp_is_table K) [] E0 (tCons (tCall (sp_l_loop K) [] E0 (tCons (tVar 14) (tNil))) (tCons (tCall (sp_l_made K) [] E0 (tCons (tVar 14) (tCons (tC (.int 1)) (tCons (tOp (rIxT K) (tCall (sp_l_window K) [] E0 (tCons (tVar 14) (tNil))) (tC (.int 1))) (tCons (tVar 7) (tNil)))))) (tNil)))) (tC (.bl false)))) (tRet (tC (.bl false))) (tNext)))))))))) D [v0, v1, some (.ref p), some (.ref tp), some (.ref lp), some (.int l.low), some (.int l.top), some (.int f), some (.ref T), some (.ref L), v10, v11, v12, v13, v14] H := by
  have tb := top_bound o
  have cl := cuts_len o lo hi
  have ML := mapsP_len l lo hi (l.cuts lo hi)
  obtain ⟨tc, tm, xs, ys, g1, g2, g3, g4, g5⟩ := id hQ
  have yl : ys.length = (l.cuts lo hi).length + 1 := (Paired.length g5).trans ML
  generalize hTL : (tSeq (tIfS (tOr (tTest (tOp FW.rIsNB (tCall (sp_is_table K) [] E0 (tCons (tVar 4) (tCons (tVar 8) (tNil)))) (tC (.bl true)))) (tTest (tOp FW.rIsNB (tCall (sp_is_table K) [] E0 (tCons (tVar 4) (tCons (tVar 9) (tNil)))) (tC (.bl true))))) (tRet (tC (.bl false))) (tNext)) (tSeq (tIfS (tTest (tOp (rNeD K) (tOp (rIxL K) (tVar 9) (tC (.int 3))) (tLc (iTup K (tOp (rIxT K) (tVar 8) (tC (.int 3)))) (gName 10) (tYes) (tOp rCat (tCB (Evl.rListS K) (tCons (tVar 10) (tNil))) (tLst (tCons (tC (.int 0)) (tNil)))) [10]))) (tRet (tC (.bl false))) (tNext)) (tSeq (tIfS (tTest (tOp FW.rIsNB (tCall (sp_is_table K) [] E0 (tCons (tVar 4) (tCons (tCall (sp_l_wrong K) [] E0 (tCons (tVar 2) (tCons (tVar 8) (tNil)))) (tNil)))) (tC (.bl false)))) (tRet (tC (.bl false))) (tNext)) (tSeq (tAsg (tLst (tCons (tCall (sp_l_made K) [] E0 (tCons (tVar 3) (tCons (tVar 5) (tCons (tOp FW.rSub (tVar 6) (tC (.int 1))) (tCons (tVar 7) (tNil)))))) (tCons (tCall (sp_l_made K) [] E0 (tCons (tVar 3) (tCons (tC (.int 1)) (tCons (tVar 6) (tCons (tVar 7) (tNil)))))) (tNil)))) (gName 12)) (tSeq (tDrop (tBM K "list" rExtend (tVar 12) (tCons (tLst (tCons (tCall (sp_l_made K) [] E0 (tCons (tVar 3) (tCons (tVar 5) (tCons (tC (.int 0)) (tCons (tVar 7) (tNil)))))) (tCons (tCall (sp_l_made K) [] E0 (tCons (tVar 3) (tCons (tOp (rIxT K) (tVar 8) (tC (.int 1))) (tCons (tVar 6) (tCons (tUn FW.rNeg (tOp (rIxT K) (tVar 8) (tC (.int 1)))) (tNil)))))) (tNil)))) (tNil)))) (tSeq (tIfS (tTest (tOp (rNeD K) (tLc (iList K (tVar 12)) (gName 13) (tTest (tOp FW.rIsNB (tCall (sp_is_table K) [] E0 (tCons (tVar 4) (tCons (tVar 13) (tNil)))) (tC (.bl false)))) (tVar 13) [13]) (tLst (tNil)))) (tRet (tC (.bl false))) (tNext)) (tSeq (tAsg (tOp (rCatA K) (tOp (rCatA K) (tSl (rSlA K) (tVar 3) (tNoPart) (tPart (tC (.int 3)))) (tTup (tCons (tOp FW.rAdd (tOp (rIxT K) (tVar 3) (tC (.int 1))) (tOp (rIxT K) (tVar 3) (tC (.int 2)))) (tNil)))) (tSl (rSlA K) (tVar 3) (tPart (tC (.int 4))) (tNoPart))) (gName 14)) (tIfS (tTest (tOp FW.rIsNB (tCall (sp_is_table K) [] E0 (tCons (tCall (sp_l_loop K) [] E0 (tCons (tVar 14) (tNil))) (tCons (tCall (sp_l_made K) [] E0 (tCons (tVar 14) (tCons (tC (.int 1)) (tCons (tOp (rIxT K) (tCall (sp_l_window K) [] E0 (tCons (tVar 14) (tNil))) (tC (.int 1))) (tCons (tVar 7) (tNil)))))) (tNil)))) (tC (.bl false)))) (tRet (tC (.bl false))) (tNext))))))))) = TL
  walk_at "rx"
  refine ⟨tm, rfl, ⟨ys, SqT.of g4⟩, ?_⟩
  refine lc_rowsG (g := id) (fun v => rfl) g4 g5 (by omega) (fun a c H' R hc ha kk => ?_) fun D2 G zs hD2 eG hG hls => ?_
  · walk_at "re"
    refine e_listS (fun b hb => ?_) (.inr (SqT.of ha))
    generalize hG : upd H' b _ = G
    obtain ⟨eG, gb⟩ := al_of hb hG
    exact kk b G hb eG gb
  have sz := sizeLine_eq
  walk_at "rx"
  refine ha_app (eG _ _ hLl) (by rw [sz]; exact Nat.le_of_ble_eq_true rfl) ?_
  generalize hG2 : upd G L _ = G2
  obtain ⟨a1, a2, a3, a4⟩ := ap_of (eG _ _ hLl) hG2
  walk_at "rx"
  subst hTL
  have eT : ExtT H G2 := fun a xs h => a3 _ _ (eG _ _ h)
  have D2L : D2 ≠ L := fun z => by rw [z, hLl] at hD2; cases hD2
  have S2 : Strm G2 p m := by
    obtain ⟨d1, d2, d3, hp5, hr⟩ := S
    exact ⟨d1, d2, d3, a4 _ _ (fun z => Lp' z.symm) (eG _ _ hp5), hr⟩
  have hL2 : IsLp K G2 lp l := by
    obtain ⟨dx, hi⟩ := hL
    exact ⟨dx, a2 _ _ _ _ (eG _ _ hi)⟩
  have hD : Dt G2 (.ref L) (lisQ l f lo hi) := by
    have hm' : DtAll G2 zs ((mapsP l lo hi (l.cuts lo hi)).map rowL) := by
      have h0 := hls.dtL hLl
      rw [List.map_id] at h0
      exact DtAll.ext (fun a u h => a4 _ _ (hole_at h).1 (hole_at h).2) _ _ h0
    refine .lst a1 (.cons (.int f) (.cons (.int _) (.cons (.int _) (.cons (Dt.ext (fun a u h => ?_) _ _ hC) (.cons (.lst (a4 _ _ D2L hG) hm') .nil)))))
    obtain ⟨n1, h⟩ := hole_at h
    exact a4 _ _ n1 (eG _ _ h)
  refine fin_8 o f1 f2 S2 hm (eT _ _ hT) hL2 (tabs_extB (hTs.ext eG) (eG _ _ hLl) a4) (hQ.extT eT) l4 l0 h3 h4 hlo hD fun H' e T' w12 w14 => k H' (fun b u n h t => ?_) T' _ _
  refine e b u (fun z => n ?_) (a4 _ _ (fun z => n ?_) (eG _ _ h)) t
  · rw [List.mem_singleton.mp z]; exact List.mem_cons_self
  · rw [z]; exact List.mem_cons_of_mem _ List.mem_cons_self
theorem fin_6 {m : Nat} {v0 v1 v9 v10 v11 v12 v13 v14 : Option V} (o : l.Ok) (f1 : 1000000 ≤ f) (f2 : f ≤ 2000000000) (S : Strm H p m) (hm : m < 9000) (hT : H tp = some (.tup l.V)) (hL : IsLp K H lp l) (hTs : LamX.Tabs (tabsM K) H) (hQ : TabQ H T l f lo hi) (l4 : -4 ≤ lo) (l0 : lo ≤ 0) (h3 : l.top ≤ hi) (h4 : hi ≤ l.top + 3) (hlo : lo ≤ l.ll lo)
    (k : ∀ H', ExtS [p] H H' → LamX.Tabs (tabsM K) H' → ∀ w9 w12 w14 : Option V, D.nx [v0, v1, some (.ref p), some (.ref tp), some (.ref lp), some (.int l.low), some (.int l.top), some (.int f), some (.ref T), w9, v10, v11, w12, v13, w14] H') :
    (tSeq (tAsg (tOp rCat (tCB (Evl.rListS K) (tCons (tSl (rSlA K) (tVar 8) (tNoPart) (tPart (tC (.int 3)))) (tNil))) (tLst (tCons (tLc (iTup K (tOp (rIxT K) (tVar 8) (tC (.int 3)))) (gName 10) (tYes) (tOp rCat (tCB (Evl.rListS K) (tCons (tVar 10) (tNil))) (tLst (tCons (tC (.int 0)) (tNil)))) [10]) (tNil)))) (gName 9)) (tSeq (tDrop (tBM K "list" rAppend (tVar 9) (tCons (tLc (iTup K (tOp (rIxT K) (tVar 8) (tC (.int 4)))) (gName 11) (tYes) (tCB (Evl.rListS K) (tCons (tVar 11) (tNil))) [11]) (tNil)))) (tSeq (tIfS (tOr (tTest (tOp FW.rIsNB (tCall (sp_is_table K) [] E0 (tCons (tVar 4) (tCons (tVar 8) (tNil)))) (tC (.bl true)))) (tTest (tOp FW.rIsNB (tCall (sp_is_table K) [] E0 (tCons (tVar 4) (tCons (tVar 9) (tNil)))) (tC (.bl true))))) (tRet (tC (.bl false))) (tNext)) (tSeq (tIfS (tTest (tOp (rNeD K) (tOp (rIxL K) (tVar 9) (tC (.int 3))) (tLc (iTup K (tOp (rIxT K) (tVar 8) (tC (.int 3)))) (gName 10) (tYes) (tOp rCat (tCB (Evl.rListS K) (tCons (tVar 10) (tNil))) (tLst (tCons (tC (.int 0)) (tNil)))) [10]))) (tRet (tC (.bl false))) (tNext)) (tSeq (tIfS (tTest (tOp FW.rIsNB (tCall (sp_is_table K) [] E0 (tCons (tVar 4) (tCons (tCall (sp_l_wrong K) [] E0 (tCons (tVar 2) (tCons (tVar 8) (tNil)))) (tNil)))) (tC (.bl false)))) (tRet (tC (.bl false))) (tNext)) (tSeq (tAsg (tLst (tCons (tCall (sp_l_made K) [] E0 (tCons (tVar 3) (tCons (tVar 5) (tCons (tOp FW.rSub (tVar 6) (tC (.int 1))) (tCons (tVar 7) (tNil)))))) (tCons (tCall (sp_l_made K) [] E0 (tCons (tVar 3) (tCons (tC (.int 1)) (tCons (tVar 6) (tCons (tVar 7) (tNil)))))) (tNil)))) (gName 12)) (tSeq (tDrop (tBM K "list" rExtend (tVar 12) (tCons (tLst (tCons (tCall (sp_l_made K) [] E0 (tCons (tVar 3) (tCons (tVar 5) (tCons (tC (.int 0)) (tCons (tVar 7) (tNil)))))) (tCons (tCall (sp_l_made K) [] E0 (tCons (tVar 3) (tCons (tOp (rIxT K) (tVar 8) (tC (.int 1))) (tCons (tVar 6) (tCons (tUn FW.rNeg (tOp (rIxT K) (tVar 8) (tC (.int 1)))) (tNil)))))) (tNil)))) (tNil)))) (tSeq (tIfS (tTest (tOp (rNeD K) (tLc (iList K (tVar 12)) (gName 13) (tTest (tOp FW.rIsNB (tCall (sp_is_table K) [] E0 (tCons (tVar 4) (tCons (tVar 13) (tNil)))) (tC (.bl false)))) (tVar 13) [13]) (tLst (tNil)))) (tRet (tC (.bl false))) (tNext)) (tSeq (tAsg (tOp (rCatA K) (tOp (rCatA K) (tSl (rSlA K) (tVar 3) (tNoPart) (tPart (tC (.int 3)))) (tTup (tCons (tOp FW.rAdd (tOp (rIxT K) (tVar 3) (tC (.int 1))) (tOp (rIxT K) (tVar 3) (tC (.int 2)))) (tNil)))) (tSl (rSlA K) (tVar 3) (tPart (tC (.int 4))) (tNoPart))) (gName 14)) (tIfS (tTest (tOp FW.rIsNB (tCall (sp_is_table K) [] E0 (tCons (tCall (sp_l_loop K) [] E0 (tCons (tVar 14) (tNil))) (tCons (tCall (sp_l_made K) [] E0 (tCons (tVar 14) (tCons (tC (.int 1)) (tCons (tOp (rIxT K) (tCall (sp_l_window K) [] E0 (tCons (tVar 14) (tNil))) (tC (.int 1))) (tCons (tVar 7) (tNil)))))) (tNil)))) (tC (.bl false)))) (tRet (tC (.bl false))) (tNext))))))))))) D [v0, v1, some (.ref p), some (.ref tp), some (.ref lp), some (.int l.low), some (.int l.top), some (.int f), some (.ref T), v9, v10, v11, v12, v13, v14] H := by
  have tb := top_bound o
  have cl := cuts_len o lo hi
  obtain ⟨tc, tm, xs, ys, g1, g2, g3, g4, g5⟩ := id hQ
  have xl : xs.length = (l.cuts lo hi).length := Paired.length g3
  generalize hTL : (tSeq (tDrop (tBM K "list" rAppend (tVar 9) (tCons (tLc (iTup K (tOp (rIxT K) (tVar 8) (tC (.int 4)))) (gName 11) (tYes) (tCB (Evl.rListS K) (tCons (tVar 11) (tNil))) [11]) (tNil)))) (tSeq (tIfS (tOr (tTest (tOp FW.rIsNB (tCall (sp_is_table K) [] E0 (tCons (tVar 4) (tCons (tVar 8) (tNil)))) (tC (.bl true)))) (tTest (tOp FW.rIsNB (tCall (sp_is_table K) [] E0 (tCons (tVar 4) (tCons (tVar 9) (tNil)))) (tC (.bl true))))) (tRet (tC (.bl false))) (tNext)) (tSeq (tIfS (tTest (tOp (rNeD K) (tOp (rIxL K) (tVar 9) (tC (.int 3))) (tLc (iTup K (tOp (rIxT K) (tVar 8) (tC (.int 3)))) (gName 10) (tYes) (tOp rCat (tCB (Evl.rListS K) (tCons (tVar 10) (tNil))) (tLst (tCons (tC (.int 0)) (tNil)))) [10]))) (tRet (tC (.bl false))) (tNext)) (tSeq (tIfS (tTest (tOp FW.rIsNB (tCall (sp_is_table K) [] E0 (tCons (tVar 4) (tCons (tCall (sp_l_wrong K) [] E0 (tCons (tVar 2) (tCons (tVar 8) (tNil)))) (tNil)))) (tC (.bl false)))) (tRet (tC (.bl false))) (tNext)) (tSeq (tAsg (tLst (tCons (tCall (sp_l_made K) [] E0 (tCons (tVar 3) (tCons (tVar 5) (tCons (tOp FW.rSub (tVar 6) (tC (.int 1))) (tCons (tVar 7) (tNil)))))) (tCons (tCall (sp_l_made K) [] E0 (tCons (tVar 3) (tCons (tC (.int 1)) (tCons (tVar 6) (tCons (tVar 7) (tNil)))))) (tNil)))) (gName 12)) (tSeq (tDrop (tBM K "list" rExtend (tVar 12) (tCons (tLst (tCons (tCall (sp_l_made K) [] E0 (tCons (tVar 3) (tCons (tVar 5) (tCons (tC (.int 0)) (tCons (tVar 7) (tNil)))))) (tCons (tCall (sp_l_made K) [] E0 (tCons (tVar 3) (tCons (tOp (rIxT K) (tVar 8) (tC (.int 1))) (tCons (tVar 6) (tCons (tUn FW.rNeg (tOp (rIxT K) (tVar 8) (tC (.int 1)))) (tNil)))))) (tNil)))) (tNil)))) (tSeq (tIfS (tTest (tOp (rNeD K) (tLc (iList K (tVar 12)) (gName 13) (tTest (tOp FW.rIsNB (tCall (sp_is_table K) [] E0 (tCons (tVar 4) (tCons (tVar 13) (tNil)))) (tC (.bl false)))) (tVar 13) [13]) (tLst (tNil)))) (tRet (tC (.bl false))) (tNext)) (tSeq (tAsg (tOp (rCatA K) (tOp (rCatA K) (tSl (rSlA K) (tVar 3) (tNoPart) (tPart (tC (.int 3)))) (tTup (tCons (tOp FW.rAdd (tOp (rIxT K) (tVar 3) (tC (.int 1))) (tOp (rIxT K) (tVar 3) (tC (.int 2)))) (tNil)))) (tSl (rSlA K) (tVar 3) (tPart (tC (.int 4))) (tNoPart))) (gName 14)) (tIfS (tTest (tOp FW.rIsNB (tCall (sp_is_table K) [] E0 (tCons (tCall (sp_l_loop K) [] E0 (tCons (tVar 14) (tNil))) (tCons (tCall (sp_l_made K) [] E0 (tCons (tVar 14) (tCons (tC (.int 1)) (tCons (tOp (rIxT K) (tCall (sp_l_window K) [] E0 (tCons (tVar 14) (tNil))) (tC (.int 1))) (tCons (tVar 7) (tNil)))))) (tNil)))) (tC (.bl false)))) (tRet (tC (.bl false))) (tNext)))))))))) = TL
  walk_at "rx"
  refine e_sl (e_var (e_noP (e_part (e_c (e_part' ?_)))) rfl)
  refine sl_to (n := 3) g1 (Nat.le_of_ble_eq_true rfl) fun q1 H1 e1 q1h => ?_
  walk_at "rx"
  refine e_listS (fun q2 hq2 => ?_) (.inr (SqT.of q1h))
  generalize hG : upd H1 q2 _ = H2
  obtain ⟨e2, q2h⟩ := al_of hq2 hG
  clear hG
  have e02 := e1.tr e2
  walk_at "rx"
  refine ⟨tc, rfl, ⟨xs, SqT.of (e02 _ _ g2)⟩, ?_⟩
  refine lc_rowsG (g := z0) (fun v => rfl) (e02 _ _ g2) (g3.ext e02) (by omega) (fun a c H' R hc ha kk => ?_) fun D2 G zs hD2 eG hG hls => ?_
  · have pz := (cut_pz o (by omega) (by omega) hc).1
    walk_at "re"
    refine e_listS (fun b hb => ?_) (.inr (SqT.of ha))
    generalize hG : upd H' b _ = G
    obtain ⟨eG, gb⟩ := al_of hb hG
    clear hG
    walk_at "rx"
    refine e_catX (ne _ _ gb) nh (by rw [List.length_map]; have := pz.1; simp only [List.length_cons, List.length_nil]; omega) fun q1 G1 z1 e1 h1 => ?_
    refine kk q1 G1 (none_ofE (eG.tr ne) z1) (eG.tr (ne.tr e1)) ?_
    rw [h1]
    unfold z0
    rw [List.map_append]; rfl
  walk_at "rx"
  walk_at "rv"
  rename_i A0 z0' G0 e0 g0 q5 H5 z5 e5 q5h
  have e25 := e0.tr e5
  have E := e02.tr (eG.tr e25)
  subst hTL
  have q5n : H q5 = none := none_ofE (e02.tr (eG.tr e0)) z5
  have Gq : G q5 = none := none_ofE e0 z5
  have up : ∀ b u, G b = some u → hole q5 H5 b = some u := fun b u h => hole_of (e25 _ _ h) fun z => by rw [z, Gq] at h; cases h
  refine fin_7 (C2 := D2) o f1 f2 (S.ext E) hm (E _ _ hT) (hL.ext E) (hTs.ext E) (hQ.extT (ExtT.of E)) l4 l0 h3 h4 hlo q5h (S.ne q5n) (.lst (up _ _ hG) (DtAll.ext up _ _ hls.dt)) fun H' e T' w12 w14 => k H' (fun b u n h t => ?_) T' _ _ _
  refine e b u (fun z => ?_) (E _ _ h) t
  simp only [List.mem_cons, List.not_mem_nil, or_false] at z
  rcases z with z | z
  · exact n (by rw [z]; exact List.mem_singleton.mpr rfl)
  · rw [z, q5n] at h; cases h
theorem law_L1 {ns : List Int} {tt : Int} {ws : List (Option V)} (hl : ws.length = 13) (ht0 : 0 ≤ tt) (ht1 : tt < 10) (hA : SqL K H a (ns.map V.int)) (hT : LamX.Tabs (tabsM K) H)
    (k : ∀ H', LamX.ExtN H H' → LamX.Tabs (tabsM K) H' → ∀ ws' : List (Option V), ws'.length = 13 → D.nx (some (.ref a) :: some (.int tt) :: ws') H') : rd_law_L1 K D (some (.ref a) :: some (.int tt) :: ws) H := by
  match ws, hl with
  | [v2, v3, v4, v5, v6, v7, v8, v9, v10, v11, v12, v13, v14], _ =>
  have sz := sizeLine_eq
  unfold rd_law_L1
  generalize hTL : (tSeq (tAsg (tOp rCat (tCB (Evl.rListS K) (tCons (tSl (rSlA K) (tVar 8) (tNoPart) (tPart (tC (.int 3)))) (tNil))) (tLst (tCons (tLc (iTup K (tOp (rIxT K) (tVar 8) (tC (.int 3)))) (gName 10) (tYes) (tOp rCat (tCB (Evl.rListS K) (tCons (tVar 10) (tNil))) (tLst (tCons (tC (.int 0)) (tNil)))) [10]) (tNil)))) (gName 9)) (tSeq (tDrop (tBM K "list" rAppend (tVar 9) (tCons (tLc (iTup K (tOp (rIxT K) (tVar 8) (tC (.int 4)))) (gName 11) (tYes) (tCB (Evl.rListS K) (tCons (tVar 11) (tNil))) [11]) (tNil)))) (tSeq (tIfS (tOr (tTest (tOp FW.rIsNB (tCall (sp_is_table K) [] E0 (tCons (tVar 4) (tCons (tVar 8) (tNil)))) (tC (.bl true)))) (tTest (tOp FW.rIsNB (tCall (sp_is_table K) [] E0 (tCons (tVar 4) (tCons (tVar 9) (tNil)))) (tC (.bl true))))) (tRet (tC (.bl false))) (tNext)) (tSeq (tIfS (tTest (tOp (rNeD K) (tOp (rIxL K) (tVar 9) (tC (.int 3))) (tLc (iTup K (tOp (rIxT K) (tVar 8) (tC (.int 3)))) (gName 10) (tYes) (tOp rCat (tCB (Evl.rListS K) (tCons (tVar 10) (tNil))) (tLst (tCons (tC (.int 0)) (tNil)))) [10]))) (tRet (tC (.bl false))) (tNext)) (tSeq (tIfS (tTest (tOp FW.rIsNB (tCall (sp_is_table K) [] E0 (tCons (tVar 4) (tCons (tCall (sp_l_wrong K) [] E0 (tCons (tVar 2) (tCons (tVar 8) (tNil)))) (tNil)))) (tC (.bl false)))) (tRet (tC (.bl false))) (tNext)) (tSeq (tAsg (tLst (tCons (tCall (sp_l_made K) [] E0 (tCons (tVar 3) (tCons (tVar 5) (tCons (tOp FW.rSub (tVar 6) (tC (.int 1))) (tCons (tVar 7) (tNil)))))) (tCons (tCall (sp_l_made K) [] E0 (tCons (tVar 3) (tCons (tC (.int 1)) (tCons (tVar 6) (tCons (tVar 7) (tNil)))))) (tNil)))) (gName 12)) (tSeq (tDrop (tBM K "list" rExtend (tVar 12) (tCons (tLst (tCons (tCall (sp_l_made K) [] E0 (tCons (tVar 3) (tCons (tVar 5) (tCons (tC (.int 0)) (tCons (tVar 7) (tNil)))))) (tCons (tCall (sp_l_made K) [] E0 (tCons (tVar 3) (tCons (tOp (rIxT K) (tVar 8) (tC (.int 1))) (tCons (tVar 6) (tCons (tUn FW.rNeg (tOp (rIxT K) (tVar 8) (tC (.int 1)))) (tNil)))))) (tNil)))) (tNil)))) (tSeq (tIfS (tTest (tOp (rNeD K) (tLc (iList K (tVar 12)) (gName 13) (tTest (tOp FW.rIsNB (tCall (sp_is_table K) [] E0 (tCons (tVar 4) (tCons (tVar 13) (tNil)))) (tC (.bl false)))) (tVar 13) [13]) (tLst (tNil)))) (tRet (tC (.bl false))) (tNext)) (tSeq (tAsg (tOp (rCatA K) (tOp (rCatA K) (tSl (rSlA K) (tVar 3) (tNoPart) (tPart (tC (.int 3)))) (tTup (tCons (tOp FW.rAdd (tOp (rIxT K) (tVar 3) (tC (.int 1))) (tOp (rIxT K) (tVar 3) (tC (.int 2)))) (tNil)))) (tSl (rSlA K) (tVar 3) (tPart (tC (.int 4))) (tNoPart))) (gName 14)) (tIfS (tTest (tOp FW.rIsNB (tCall (sp_is_table K) [] E0 (tCons (tCall (sp_l_loop K) [] E0 (tCons (tVar 14) (tNil))) (tCons (tCall (sp_l_made K) [] E0 (tCons (tVar 14) (tCons (tC (.int 1)) (tCons (tOp (rIxT K) (tCall (sp_l_window K) [] E0 (tCons (tVar 14) (tNil))) (tC (.int 1))) (tCons (tVar 7) (tNil)))))) (tNil)))) (tC (.bl false)))) (tRet (tC (.bl false))) (tNext))))))))))) = TL
  walk_at "rx"
  refine ⟨a, ns, tt, rfl, hA, ht0, by omega, fun p H1 hp e1 s1 => ?_⟩
  walk_at "rx"
  refine ⟨p, 0, rfl, s1, by decide, fun t l H2 o ht e2 s2 hT2 => ?_⟩
  walk_at "rx"
  refine ⟨t, l, rfl, hT2, o, fun lp H3 hlp e3 hL3 => ?_⟩
  have s3 := s2.ext e3
  have eB3 : ExtB p H1 H3 := e2.tr (ExtB.of e3)
  have eH3 : Ext H H3 := fun b o hb => eB3 b o (ne_of_none hb hp) (e1 b o hb)
  have w := win o
  walk_at "rx"
  refine ⟨t, l, rfl, e3 _ _ hT2, o, fun wq H4 e4 hw => ?_⟩
  have s4 := s3.ext e4
  have eH4 : Ext H H4 := eH3.tr e4
  have tp4 : t ≠ p := fun z => by
    obtain ⟨c1, c2, c3, hp4, _⟩ := s2
    rw [z, hp4] at hT2
    cases hT2
  refine g_tup ?_ (SqT.of hw) rfl
  rw [show List.map V.int [l.low, l.top] = [V.int l.low, V.int l.top] from rfl]
  walk_at "rx"
  rotate_left
  · exact ⟨by decide, by decide, by decide⟩
  · exact ⟨by decide, by decide, by decide⟩
  refine ⟨p, _, _, rfl, s4, by decide, by decide, log_fewW (by decide) (by decide), fun z H5 z0 z1 e5 s5 => ?_⟩
  have z1 : z < 1000000000 := z1
  obtain ⟨f, hf⟩ : ∃ f : Int, (10 : Int) ^ Int.toNat 6 + z = f := ⟨_, rfl⟩
  have t6 : (10 : Int) ^ Int.toNat 6 = 1000000 := by decide
  walk_at "rx"
  rw [hf]
  refine ⟨p, 2, _, rfl, s5, by decide, by decide, log_fewW (by decide) (by decide), fun x H6 x0 x1 e6 s6 => ?_⟩
  walk_at "rx"
  refine ⟨p, 4, _, rfl, s6, by decide, by decide, log_fewW (by decide) (by decide), fun y H7 y0 y1 e7 s7 => ?_⟩
  walk_at "rx"
  have E47 : ExtB p H4 H7 := e5.tr (e6.tr e7)
  have hT7 : H7 t = some (.tup l.V) := E47 _ _ tp4 (e4 _ _ (e3 _ _ hT2))
  obtain ⟨c1, c2, c3, hp4, _⟩ := id s4
  have T7 := tabs_extB (hT.ext eH4) hp4 E47
  refine ⟨t, l, l.low - x, l.top + y, f, rfl, hT7, o, T7, by omega, by omega, by omega, by omega, fun T H8 e8 T8 hQ => ?_⟩
  walk_at "rx"
  have s8 := s7.extN e8
  have hL8 : IsLp K H8 lp l := ((hL3.ext e4).extB s4 E47).extN e8
  have hlo : l.low - x ≤ l.ll (l.low - x) := by
    have g := Int.not_lt.mp o.low0.2.2
    rcases (by omega : x = 0 ∨ x = 1) with rfl | rfl
    · rw [Int.sub_zero]; exact g
    · exact ll_down o g
  subst hTL
  refine fin_6 o (by omega) (by omega) s8 (by omega) (nx_tup e8 hT7) hL8 T8 hQ (by omega) (by omega) (by omega) (by omega) hlo fun H9 e9 T9 w9 w12 w14 => ?_
  refine k H9 (fun b u hb nt => ?_) T9 _ rfl
  have bp : b ≠ p := ne_of_none hb hp
  exact e9 b u (fun z => bp (List.mem_singleton.mp z)) (e8 _ _ (E47 _ _ bp (eH4 _ _ hb)) nt) nt
end
def sp_law (K : PySem.W.Frag) : Sp := fun vs H Q _ => ∃ (a : Addr) (ns : List Int), vs = [.ref a] ∧ LamX.Tabs (tabsM K) H ∧ SqL K H a (ns.map V.int) ∧ ∀ H', Q (.bl true) H'
theorem pure_law (K : PySem.W.Frag) (vs : List V) (H : Hp) (Q : VK) (E : XK) (h : sp_law K vs H Q E) : rd_law K { nx := fun _ H' => Q .non H', rt := Q } (start ["_law_script", "_law_turn", "_law_stream_here", "_law_parts_here", "_law_loop_here", "_law_low", "_law_high", "_law_first", "_law_found", "_law_listed", "_law_cut", "_law_row", "_law_wrong_here", "_law_thing", "_law_top"] vs) H := by
  obtain ⟨a, ns, rfl, hT, hA, q⟩ := h
  unfold rd_law
  walk_at "rx"
  · refine for_range (lo := 0) (n := 5) (fun i σ H' => LamX.ExtN H H' ∧ LamX.Tabs (tabsM K) H' ∧ ∃ (u : Option V) (ws : List (Option V)), ws.length = 13 ∧ σ = some (.ref a) :: u :: ws) ⟨LamX.ExtN.refl H, hT, none, _, rfl, rfl⟩ ?_ ?_
    · rintro i σ H' hi ⟨e, hT', u, ws, hl, rfl⟩
      walk_at "re"
      refine law_L1 (tt := 0 + (i : Int)) hl (by omega) (by omega) (extN_sqL e hA) hT' ?_
      intro H'' e'' T'' ws' hl'
      exact ⟨e.trans e'', T'', _, _, hl', rfl⟩
    · rintro σ H' ⟨e, hT', u, ws, hl, rfl⟩
      walk_at "rx"
      exact q _
  · decide
end FWL
namespace FWL
open PySem PySem.Spec PyProof.Rows L2 FW
local macro_rules | `(tactic| walk_at "ln") => `(tactic| (intro vs H Q E h; repeat (obtain ⟨x', h⟩ := h; first | (rw [x']; rfl) | skip)))
structure Tx (K : PySem.W.Frag) (mg : Str → Option Value) (base : Heap) : Prop where
  n_abs : mg "abs" = none
  n_all : mg "all" = none
  n_bool : mg "bool" = none
  n_enumerate : mg "enumerate" = none
  n_int : mg "int" = none
  n_isinstance : mg "isinstance" = none
  n_len : mg "len" = none
  n_list : mg "list" = none
  n_max : mg "max" = none
  n_range : mg "range" = none
  n_sorted : mg "sorted" = none
  n_str : mg "str" = none
  n_tuple : mg "tuple" = none
  n_zip : mg "zip" = none
  g_LOOKS : mg "LOOKS" = some (.ref (He.ga K "LOOKS"))
  g_MENDS : mg "MENDS" = some (.ref (He.ga K "MENDS"))
  g_STOPS : mg "STOPS" = some (.ref (He.ga K "STOPS"))
  g_TOLDS : mg "TOLDS" = some (.ref (He.ga K "TOLDS"))
  g_is_whole : mg "is_whole" = some (.ref (He.ga K "is_whole"))
  g_is_whole_from : mg "is_whole_from" = some (.ref (He.ga K "is_whole_from"))
  g_power : mg "power" = some (.ref (He.ga K "power"))
  g_trimmed : mg "trimmed" = some (.ref (He.ga K "trimmed"))
  g_poly_value : mg "poly_value" = some (.ref (He.ga K "poly_value"))
  g_poly_sum : mg "poly_sum" = some (.ref (He.ga K "poly_sum"))
  g_poly_product : mg "poly_product" = some (.ref (He.ga K "poly_product"))
  g_poly_less : mg "poly_less" = some (.ref (He.ga K "poly_less"))
  g_poly_power : mg "poly_power" = some (.ref (He.ga K "poly_power"))
  g_poly_shift : mg "poly_shift" = some (.ref (He.ga K "poly_shift"))
  g_sign : mg "sign" = some (.ref (He.ga K "sign"))
  g_settled : mg "settled" = some (.ref (He.ga K "settled"))
  g_next_change : mg "next_change" = some (.ref (He.ga K "next_change"))
  g_changes : mg "changes" = some (.ref (He.ga K "changes"))
  g_sign_from : mg "sign_from" = some (.ref (He.ga K "sign_from"))
  g_is_word_of : mg "is_word_of" = some (.ref (He.ga K "is_word_of"))
  g_wrong_part : mg "wrong_part" = some (.ref (He.ga K "wrong_part"))
  g_slant : mg "slant" = some (.ref (He.ga K "slant"))
  g_end_poly : mg "end_poly" = some (.ref (He.ga K "end_poly"))
  g_rest_poly : mg "rest_poly" = some (.ref (He.ga K "rest_poly"))
  g_needed : mg "needed" = some (.ref (He.ga K "needed"))
  g_fall_poly : mg "fall_poly" = some (.ref (He.ga K "fall_poly"))
  g_above : mg "above" = some (.ref (He.ga K "above"))
  g_is_row_of : mg "is_row_of" = some (.ref (He.ga K "is_row_of"))
  g_has_form : mg "has_form" = some (.ref (He.ga K "has_form"))
  g_is_led : mg "is_led" = some (.ref (He.ga K "is_led"))
  g_is_table : mg "is_table" = some (.ref (He.ga K "is_table"))
  g__law_stream : mg "_law_stream" = some (.ref (He.ga K "_law_stream"))
  g__law_draw : mg "_law_draw" = some (.ref (He.ga K "_law_draw"))
  g__law_pick : mg "_law_pick" = some (.ref (He.ga K "_law_pick"))
  g__law_weights : mg "_law_weights" = some (.ref (He.ga K "_law_weights"))
  g__law_parts : mg "_law_parts" = some (.ref (He.ga K "_law_parts"))
  g__law_loop : mg "_law_loop" = some (.ref (He.ga K "_law_loop"))
  g__law_near : mg "_law_near" = some (.ref (He.ga K "_law_near"))
  g__law_window : mg "_law_window" = some (.ref (He.ga K "_law_window"))
  g__law_poly : mg "_law_poly" = some (.ref (He.ga K "_law_poly"))
  g__law_least : mg "_law_least" = some (.ref (He.ga K "_law_least"))
  g__law_turning : mg "_law_turning" = some (.ref (He.ga K "_law_turning"))
  g__law_made : mg "_law_made" = some (.ref (He.ga K "_law_made"))
  g__law_wrong : mg "_law_wrong" = some (.ref (He.ga K "_law_wrong"))
  g_law : mg "law" = some (.ref (He.ga K "law"))
  g_Average : mg "Average" = some (.ref (He.ga K "Average"))
  d_is_whole : ∃ fd, FunD K "is_whole" "is_whole" (defArgs st_is_whole) (defBody st_is_whole) (defScope st_is_whole) [] [] (He.ga K "is_whole") fd
  d_is_whole_from : ∃ fd, FunD K "is_whole_from" "is_whole_from" (defArgs st_is_whole_from) (defBody st_is_whole_from) (defScope st_is_whole_from) [] [] (He.ga K "is_whole_from") fd
  d_power : ∃ fd, FunD K "power" "power" (defArgs st_power) (defBody st_power) (defScope st_power) [] [] (He.ga K "power") fd
  d_trimmed : ∃ fd, FunD K "trimmed" "trimmed" (defArgs st_trimmed) (defBody st_trimmed) (defScope st_trimmed) [] [] (He.ga K "trimmed") fd
  d_poly_value : ∃ fd, FunD K "poly_value" "poly_value" (defArgs st_poly_value) (defBody st_poly_value) (defScope st_poly_value) [] [] (He.ga K "poly_value") fd
  d_poly_sum : ∃ fd, FunD K "poly_sum" "poly_sum" (defArgs st_poly_sum) (defBody st_poly_sum) (defScope st_poly_sum) [] [] (He.ga K "poly_sum") fd
  d_poly_product : ∃ fd, FunD K "poly_product" "poly_product" (defArgs st_poly_product) (defBody st_poly_product) (defScope st_poly_product) [] [] (He.ga K "poly_product") fd
  d_poly_less : ∃ fd, FunD K "poly_less" "poly_less" (defArgs st_poly_less) (defBody st_poly_less) (defScope st_poly_less) [] [] (He.ga K "poly_less") fd
  d_poly_power : ∃ fd, FunD K "poly_power" "poly_power" (defArgs st_poly_power) (defBody st_poly_power) (defScope st_poly_power) [] [] (He.ga K "poly_power") fd
  d_poly_shift : ∃ fd, FunD K "poly_shift" "poly_shift" (defArgs st_poly_shift) (defBody st_poly_shift) (defScope st_poly_shift) [] [] (He.ga K "poly_shift") fd
  d_sign : ∃ fd, FunD K "sign" "sign" (defArgs st_sign) (defBody st_sign) (defScope st_sign) [] [] (He.ga K "sign") fd
  d_settled : ∃ fd, FunD K "settled" "settled" (defArgs st_settled) (defBody st_settled) (defScope st_settled) [] [] (He.ga K "settled") fd
  d_next_change : ∃ fd, FunD K "next_change" "next_change" (defArgs st_next_change) (defBody st_next_change) (defScope st_next_change) [] [] (He.ga K "next_change") fd
  d_changes : ∃ fd, FunD K "changes" "changes" (defArgs st_changes) (defBody st_changes) (defScope st_changes) [] [] (He.ga K "changes") fd
  d_sign_from : ∃ fd, FunD K "sign_from" "sign_from" (defArgs st_sign_from) (defBody st_sign_from) (defScope st_sign_from) [] [] (He.ga K "sign_from") fd
  d_is_word_of : ∃ fd, FunD K "is_word_of" "is_word_of" (defArgs st_is_word_of) (defBody st_is_word_of) (defScope st_is_word_of) [] [] (He.ga K "is_word_of") fd
  d_wrong_part : ∃ fd, FunD K "wrong_part" "wrong_part" (defArgs st_wrong_part) (defBody st_wrong_part) (defScope st_wrong_part) [] [] (He.ga K "wrong_part") fd
  d_Average_init : ∃ fd, FunD K "__init__" "Average.__init__" (defArgs st_Average_init) (defBody st_Average_init) (defScope st_Average_init) [.str "old", .str "none"] [] (He.ma K (He.ga K "Average") "__init__") fd
  d_Average_led : ∃ fd, FunD K "led" "Average.led" (defArgs st_Average_led) (defBody st_Average_led) (defScope st_Average_led) [] [] (He.ma K (He.ga K "Average") "led") fd
  d_Average_nearness : ∃ fd, FunD K "nearness" "Average.nearness" (defArgs st_Average_nearness) (defBody st_Average_nearness) (defScope st_Average_nearness) [] [] (He.ma K (He.ga K "Average") "nearness") fd
  d_slant : ∃ fd, FunD K "slant" "slant" (defArgs st_slant) (defBody st_slant) (defScope st_slant) [] [] (He.ga K "slant") fd
  d_end_poly : ∃ fd, FunD K "end_poly" "end_poly" (defArgs st_end_poly) (defBody st_end_poly) (defScope st_end_poly) [] [] (He.ga K "end_poly") fd
  d_rest_poly : ∃ fd, FunD K "rest_poly" "rest_poly" (defArgs st_rest_poly) (defBody st_rest_poly) (defScope st_rest_poly) [] [] (He.ga K "rest_poly") fd
  d_needed : ∃ fd, FunD K "needed" "needed" (defArgs st_needed) (defBody st_needed) (defScope st_needed) [] [] (He.ga K "needed") fd
  d_fall_poly : ∃ fd, FunD K "fall_poly" "fall_poly" (defArgs st_fall_poly) (defBody st_fall_poly) (defScope st_fall_poly) [] [] (He.ga K "fall_poly") fd
  d_above : ∃ fd, FunD K "above" "above" (defArgs st_above) (defBody st_above) (defScope st_above) [] [] (He.ga K "above") fd
  d_is_row_of : ∃ fd, FunD K "is_row_of" "is_row_of" (defArgs st_is_row_of) (defBody st_is_row_of) (defScope st_is_row_of) [] [] (He.ga K "is_row_of") fd
  d_has_form : ∃ fd, FunD K "has_form" "has_form" (defArgs st_has_form) (defBody st_has_form) (defScope st_has_form) [] [] (He.ga K "has_form") fd
  d_is_led : ∃ fd, FunD K "is_led" "is_led" (defArgs st_is_led) (defBody st_is_led) (defScope st_is_led) [] [] (He.ga K "is_led") fd
  d_is_table : ∃ fd, FunD K "is_table" "is_table" (defArgs st_is_table) (defBody st_is_table) (defScope st_is_table) [] [] (He.ga K "is_table") fd
  d_l_stream : ∃ fd, FunD K "_law_stream" "_law_stream" (defArgs st_l_stream) (defBody st_l_stream) (defScope st_l_stream) [] [] (He.ga K "_law_stream") fd
  d_l_draw : ∃ fd, FunD K "_law_draw" "_law_draw" (defArgs st_l_draw) (defBody st_l_draw) (defScope st_l_draw) [] [] (He.ga K "_law_draw") fd
  d_l_pick : ∃ fd, FunD K "_law_pick" "_law_pick" (defArgs st_l_pick) (defBody st_l_pick) (defScope st_l_pick) [] [] (He.ga K "_law_pick") fd
  d_l_weights : ∃ fd, FunD K "_law_weights" "_law_weights" (defArgs st_l_weights) (defBody st_l_weights) (defScope st_l_weights) [] [] (He.ga K "_law_weights") fd
  d_l_parts : ∃ fd, FunD K "_law_parts" "_law_parts" (defArgs st_l_parts) (defBody st_l_parts) (defScope st_l_parts) [] [] (He.ga K "_law_parts") fd
  d_l_loop : ∃ fd, FunD K "_law_loop" "_law_loop" (defArgs st_l_loop) (defBody st_l_loop) (defScope st_l_loop) [] [] (He.ga K "_law_loop") fd
  d_l_near : ∃ fd, FunD K "_law_near" "_law_near" (defArgs st_l_near) (defBody st_l_near) (defScope st_l_near) [] [] (He.ga K "_law_near") fd
  d_l_window : ∃ fd, FunD K "_law_window" "_law_window" (defArgs st_l_window) (defBody st_l_window) (defScope st_l_window) [] [] (He.ga K "_law_window") fd
  d_l_poly : ∃ fd, FunD K "_law_poly" "_law_poly" (defArgs st_l_poly) (defBody st_l_poly) (defScope st_l_poly) [] [] (He.ga K "_law_poly") fd
  d_l_least : ∃ fd, FunD K "_law_least" "_law_least" (defArgs st_l_least) (defBody st_l_least) (defScope st_l_least) [] [] (He.ga K "_law_least") fd
  d_l_turning : ∃ fd, FunD K "_law_turning" "_law_turning" (defArgs st_l_turning) (defBody st_l_turning) (defScope st_l_turning) [] [] (He.ga K "_law_turning") fd
  d_l_made : ∃ fd, FunD K "_law_made" "_law_made" (defArgs st_l_made) (defBody st_l_made) (defScope st_l_made) [] [] (He.ga K "_law_made") fd
  d_l_wrong : ∃ fd, FunD K "_law_wrong" "_law_wrong" (defArgs st_l_wrong) (defBody st_l_wrong) (defScope st_l_wrong) [] [] (He.ga K "_law_wrong") fd
  d_law : ∃ fd, FunD K "law" "law" (defArgs st_law) (defBody st_law) (defScope st_law) [] [] (He.ga K "law") fd
  c_Average : Cls K (He.ga K "Average")
  k_Average : Mk K (He.ga K "Average") (He.ma K (He.ga K "Average") "__init__")
  m_Average_led : Meth K (He.ga K "Average") "led" (He.ma K (He.ga K "Average") "led")
  m_Average_nearness : Meth K (He.ga K "Average") "nearness" (He.ma K (He.ga K "Average") "nearness")
  a_Average_k : NoAttr K (He.ga K "Average") "k"
  a_Average_a : NoAttr K (He.ga K "Average") "a"
  a_Average_c : NoAttr K (He.ga K "Average") "c"
  a_Average_d : NoAttr K (He.ga K "Average") "d"
  a_Average_stop : NoAttr K (He.ga K "Average") "stop"
  a_Average_told : NoAttr K (He.ga K "Average") "told"
  a_Average_mend : NoAttr K (He.ga K "Average") "mend"
  t_STOPS : ∀ H, SqT K H (He.ga K "STOPS") [.str "notless", .str "equal", .str "near1", .str "near2", .str "back", .str "under", .str "held"]
  t_TOLDS : ∀ H, SqT K H (He.ga K "TOLDS") [.str "old", .str "new", .str "less", .str "more"]
  t_MENDS : ∀ H, SqT K H (He.ga K "MENDS") [.str "none", .str "down", .str "up", .str "both"]
  t_LOOKS : ∀ H, SqT K H (He.ga K "LOOKS") [.str "under", .str "held"]
  tb_l_made : LamX.TabB base mg (He.cT K ("_law_made", none)).1 (He.cT K ("_law_made", none)).2
theorem Tx.av {K : PySem.W.Frag} {mg : Str → Option Value} {base : Heap} (T : Tx K mg base) : AvK K := ⟨T.c_Average, T.a_Average_k, T.a_Average_a, T.a_Average_c, T.a_Average_d, T.a_Average_stop, T.a_Average_told, T.a_Average_mend, T.t_STOPS, T.t_TOLDS, T.t_MENDS, T.t_LOOKS⟩
abbrev PP : Program := PySem.Challenge.pw_floorward_k15_tables_of_other_windows
theorem hu_l_made {K : PySem.W.Frag} {mg : Str → Option Value} {base : Heap} (T : Tx K mg base) : ∀ p ∈ tabsM K, p.1 = (He.cT K ("_law_made", none)).2 → p.2 = (("_law_made" : Str) ++ ".<locals>.") ++ "<lambda>" := fun p hp _ => by rw [List.mem_singleton.mp hp]
section
variable {w : World} {K : PySem.W.Frag} {mg : Str → Option Value} {base : Heap}
theorem dv_is_whole {f : Addr} {cdv : Value} {A : Around} {outer : List Env} {s : Shared} {H : Hp} {E : XK} (T : Tx K mg base) (hr : Room 0 (A.deeper (envOfC "is_whole" (defScope st_is_whole) s.heap.objs.size f cdv))) : PSs (cxOf CX0 PP w K mg base N_is_whole "is_whole" (defScope st_is_whole) f cdv A outer s H E).nox (defBody st_is_whole) (rd_is_whole K) := by
  exact pss_one (ps_ret (pe_and (pe_callB call_isi (by rfl) T.n_isinstance (by decide +kernel) (pa_cons (pv 0) (pa_cons (pe_bltn (by rfl) T.n_int (by decide +kernel) rfl) (pa_nil)))) (pe_one (pe_not (pe_callB call_isi (by rfl) T.n_isinstance (by decide +kernel) (pa_cons (pv 0) (pa_cons (pe_bltn (by rfl) T.n_bool (by decide +kernel) rfl) (pa_nil))))))))
theorem ok_is_whole (T : Tx K mg base) : Fn PP w K mg base CX0 1 "is_whole" (sp_is_whole K) [] :=
  Fn.mk0 T.d_is_whole T.g_is_whole sc_is_whole (fun _ _ _ _ _ _ us hl => match us, hl with | [_], _ => rfl) (by walk_at "ln") (fun cdv A outer s H vs Q E hr h => ⟨rd_is_whole K, dv_is_whole T hr, pure_is_whole K vs H Q E h⟩)
theorem dv_trimmed {f : Addr} {cdv : Value} {A : Around} {outer : List Env} {s : Shared} {H : Hp} {E : XK} (T : Tx K mg base) (hr : Room 0 (A.deeper (envOfC "trimmed" (defScope st_trimmed) s.heap.objs.size f cdv))) : PSs (cxOf CX0 PP w K mg base N_trimmed "trimmed" (defScope st_trimmed) f cdv A outer s H E).nox (defBody st_trimmed) (rd_trimmed K) := by
  exact pss_cons (ps_set (i := 1) sc_trimmed.nd rfl (Or.inl rfl) (pe_callB call_len_seq (by rfl) T.n_len (by decide +kernel) (pa_cons (pv 0) (pa_nil)))) (pss_cons (ps_while PassesOwn.never (PW.pt (pw_and (pt_cmpR op_gt (pv 1) (pe_int) (nomark _)) (pw_and1 (pt_cmpR op_eq (pe_ix ix_seq (pv 0) (pe_op FW.opSub (pv 1) (pe_int)) (fun _ _ => rfl)) (pe_int) (nomark _))))) (pss_one (ps_aug (i := 1) sc_trimmed.nd rfl (Or.inl rfl) (pe_int) FW.ipSub))) (pss_one (ps_ret (pe_callTy call_tuple_of (by rfl) T.n_tuple (by decide +kernel) (pa_cons (FW.pe_either (pe_slice sl_list (pv 0) (po_none) (po_some (pv 1))) (pe_slice sl_tupA (pv 0) (po_none) (po_some (pv 1)))) (pa_nil))))))
theorem ok_trimmed (T : Tx K mg base) : Fn PP w K mg base CX0 1 "trimmed" (sp_trimmed K) [] :=
  Fn.mk0 T.d_trimmed T.g_trimmed sc_trimmed (fun _ _ _ _ _ _ us hl => match us, hl with | [_], _ => rfl) (by rintro vs H Q E (⟨_, _, rfl, _⟩ | ⟨_, _, rfl, _⟩) <;> rfl) (fun cdv A outer s H vs Q E hr h => ⟨rd_trimmed K, dv_trimmed T hr, pure_trimmed K vs H Q E h⟩)
theorem dv_poly_value {f : Addr} {cdv : Value} {A : Around} {outer : List Env} {s : Shared} {H : Hp} {E : XK} (T : Tx K mg base) (hr : Room 0 (A.deeper (envOfC "poly_value" (defScope st_poly_value) s.heap.objs.size f cdv))) : PSs (cxOf CX0 PP w K mg base N_poly_value "poly_value" (defScope st_poly_value) f cdv A outer s H E).nox (defBody st_poly_value) (rd_poly_value K) := by
  exact pss_cons (ps_set (i := 2) sc_poly_value.nd rfl (Or.inl rfl) (pe_int)) (pss_cons (ps_for PassesOwn.never rfl (FW.pi_either (pi_list (FW.pe_either (pe_revL (pv 0)) (FW.pe_revT (pv 0)))) (pi_tup (FW.pe_either (pe_revL (pv 0)) (FW.pe_revT (pv 0))))) (pg_name (i := 3) sc_poly_value.nd rfl (Or.inl rfl)) (pss_one (ps_set (i := 2) sc_poly_value.nd rfl (Or.inl rfl) (pe_op FW.opAdd (pe_op FW.opMul (pv 2) (pv 1)) (pv 3))))) (pss_one (ps_ret (pv 2))))
theorem ok_poly_value (T : Tx K mg base) : Fn PP w K mg base CX0 1 "poly_value" (sp_poly_value K) [] :=
  Fn.mk0 T.d_poly_value T.g_poly_value sc_poly_value (fun _ _ _ _ _ _ us hl => match us, hl with | [_, _], _ => rfl) (by walk_at "ln") (fun cdv A outer s H vs Q E hr h => ⟨rd_poly_value K, dv_poly_value T hr, pure_poly_value K vs H Q E h⟩)
theorem dv_sign {f : Addr} {cdv : Value} {A : Around} {outer : List Env} {s : Shared} {H : Hp} {E : XK} (T : Tx K mg base) (hr : Room 0 (A.deeper (envOfC "sign" (defScope st_sign) s.heap.objs.size f cdv))) : PSs (cxOf CX0 PP w K mg base N_sign "sign" (defScope st_sign) f cdv A outer s H E).nox (defBody st_sign) (rd_sign K) := by
  exact pss_one (ps_ret (pe_op FW.opSub (pe_callTy call_int1 (by rfl) T.n_int (by decide +kernel) (pa_cons (pe_cmpR op_gt (pv 0) (pe_int) (nomark _)) (pa_nil))) (pe_callTy call_int1 (by rfl) T.n_int (by decide +kernel) (pa_cons (pe_cmpR op_lt (pv 0) (pe_int) (nomark _)) (pa_nil)))))
theorem ok_sign (T : Tx K mg base) : Fn PP w K mg base CX0 1 "sign" (sp_sign K) [] :=
  Fn.mk0 T.d_sign T.g_sign sc_sign (fun _ _ _ _ _ _ us hl => match us, hl with | [_], _ => rfl) (by walk_at "ln") (fun cdv A outer s H vs Q E hr h => ⟨rd_sign K, dv_sign T hr, pure_sign K vs H Q E h⟩)
theorem dv_settled {f : Addr} {cdv : Value} {A : Around} {outer : List Env} {s : Shared} {H : Hp} {E : XK} (T : Tx K mg base) (hr : Room 0 (A.deeper (envOfC "settled" (defScope st_settled) s.heap.objs.size f cdv))) : PSs (cxOf CX0 PP w K mg base N_settled "settled" (defScope st_settled) f cdv A outer s H E).nox (defBody st_settled) (rd_settled K) := by
  exact pss_one (ps_ret (pe_op FW.opAdd (pe_int) (pe_op FW.opDiv (pe_callB (cr_max rfl) (by rfl) T.n_max (by decide +kernel) (pa_cons (pe_lc (own := [("coefficient", 1)]) (g := gName 1) (tt := tYes) rfl sc_settled.nd (pi_tup (pv 0)) (blkOk_by (own := [("coefficient", 1)]) (N := N_settled) (sc := defScope st_settled) (by decide +kernel)) (fun _ _ _ _ _ => pg_name (i := 1) sc_settled.nd rfl (Or.inl rfl)) (fun _ _ _ _ _ => pts_nil) (fun _ _ _ _ _ => pe_callB call_abs (by rfl) T.n_abs (by decide +kernel) (pa_cons (pv 1) (pa_nil)))) (pa_nil))) (pe_callB call_abs (by rfl) T.n_abs (by decide +kernel) (pa_cons (pe_ix ix_tup (pv 0) (pe_un un_neg (pe_int)) (fun _ _ => rfl)) (pa_nil))))))
theorem ok_settled (T : Tx K mg base) : Fn PP w K mg base CX0 1 "settled" (sp_settled K) [] :=
  Fn.mk0 T.d_settled T.g_settled sc_settled (fun _ _ _ _ _ _ us hl => match us, hl with | [_], _ => rfl) (by walk_at "ln") (fun cdv A outer s H vs Q E hr h => ⟨rd_settled K, dv_settled T hr, pure_settled K vs H Q E h⟩)
theorem dv_is_word_of {f : Addr} {cdv : Value} {A : Around} {outer : List Env} {s : Shared} {H : Hp} {E : XK} (T : Tx K mg base) (hr : Room 0 (A.deeper (envOfC "is_word_of" (defScope st_is_word_of) s.heap.objs.size f cdv))) : PSs (cxOf CX0 PP w K mg base N_is_word_of "is_word_of" (defScope st_is_word_of) f cdv A outer s H E).nox (defBody st_is_word_of) (rd_is_word_of K) := by
  exact pss_one (ps_ret (pe_and (pe_callB call_isi (by rfl) T.n_isinstance (by decide +kernel) (pa_cons (pv 0) (pa_cons (pe_bltn (by rfl) T.n_str (by decide +kernel) rfl) (pa_nil)))) (pe_one (pe_cmpR op_in_seq (pv 0) (pv 1) (by rfl)))))
theorem ok_is_word_of (T : Tx K mg base) : Fn PP w K mg base CX0 1 "is_word_of" (sp_is_word_of K) [] :=
  Fn.mk0 T.d_is_word_of T.g_is_word_of sc_is_word_of (fun _ _ _ _ _ _ us hl => match us, hl with | [_, _], _ => rfl) (by walk_at "ln") (fun cdv A outer s H vs Q E hr h => ⟨rd_is_word_of K, dv_is_word_of T hr, pure_is_word_of K vs H Q E h⟩)
theorem dv_Average_nearness {f : Addr} {cdv : Value} {A : Around} {outer : List Env} {s : Shared} {H : Hp} {E : XK} (T : Tx K mg base) (hr : Room 0 (A.deeper (envOfC "Average.nearness" (defScope st_Average_nearness) s.heap.objs.size f cdv))) : PSs (cxOf CX0 PP w K mg base N_Average_nearness "Average.nearness" (defScope st_Average_nearness) f cdv A outer s H E).nox (defBody st_Average_nearness) (rd_Average_nearness K) := by
  exact pss_one (ps_ret (pe_dget2 (FW.u1 hr) (pe_disp (pps_cons (pe_str) (pe_int) (pps_cons (pe_str) (pe_int) (pps_nil))) rfl rfl (fun z => nomatch z) (by decide)) (pe_fld (pv 0) rfl) (pe_int) ⟨rfl, rfl, rfl, rfl⟩))
theorem ok_Average_nearness (T : Tx K mg base) : Mt PP w K mg base CX0 1 (He.ga K "Average") "nearness" (sp_Average_nearness K) [] :=
  Mt.mk0 T.c_Average T.m_Average_nearness T.d_Average_nearness sc_Average_nearness (fun _ _ _ _ _ _ us hl => match us, hl with | [_], _ => rfl) (by walk_at "ln") (fun cdv A outer s H vs Q E hr h => ⟨rd_Average_nearness K, dv_Average_nearness T hr, pure_Average_nearness K T.av vs H Q E h⟩)
theorem dv_slant {f : Addr} {cdv : Value} {A : Around} {outer : List Env} {s : Shared} {H : Hp} {E : XK} (T : Tx K mg base) (hr : Room 0 (A.deeper (envOfC "slant" (defScope st_slant) s.heap.objs.size f cdv))) : PSs (cxOf CX0 PP w K mg base N_slant "slant" (defScope st_slant) f cdv A outer s H E).nox (defBody st_slant) (rd_slant K) := by
  exact pss_one (ps_ret (pe_op FW.opSub (pe_fld (pv 0) rfl) (pe_op FW.opMul (pe_fld (pv 0) rfl) (pe_op FW.opSub (pe_fld (pv 0) rfl) (pe_int)))))
theorem ok_slant (T : Tx K mg base) : Fn PP w K mg base CX0 1 "slant" (sp_slant K) [] :=
  Fn.mk0 T.d_slant T.g_slant sc_slant (fun _ _ _ _ _ _ us hl => match us, hl with | [_], _ => rfl) (by walk_at "ln") (fun cdv A outer s H vs Q E hr h => ⟨rd_slant K, dv_slant T hr, pure_slant K T.av vs H Q E h⟩)
theorem dv_l_stream {f : Addr} {cdv : Value} {A : Around} {outer : List Env} {s : Shared} {H : Hp} {E : XK} (T : Tx K mg base) (hr : Room 0 (A.deeper (envOfC "_law_stream" (defScope st_l_stream) s.heap.objs.size f cdv))) : PSs (cxOf CX0 PP w K mg base N_l_stream "_law_stream" (defScope st_l_stream) f cdv A outer s H E).nox (defBody st_l_stream) (rd_l_stream K) := by
  exact pss_cons (ps_set (i := 2) sc_l_stream.nd rfl (Or.inl rfl) (pe_ifExp (pt_cmpR op_lt (pv 1) (pe_callB call_len_seq (by rfl) T.n_len (by decide +kernel) (pa_cons (pv 0) (pa_nil))) (nomark _)) (pe_callB call_abs (by rfl) T.n_abs (by decide +kernel) (pa_cons (pe_ix ix_list (pv 0) (pv 1) (fun _ _ => rfl)) (pa_nil))) (pe_int))) (pss_one (ps_ret (pe_lst (pa_cons (pe_ifExp (pt_cmpR op_ge (pv 2) (pe_op FW.opPow (pe_int) (pe_int)) (nomark _)) (pv 2) (pe_int)) (pa_cons (pe_op FW.opAdd (pe_op FW.opMod (pe_callTy call_int1 (by rfl) T.n_int (by decide +kernel) (pa_cons (pv 2) (pa_nil))) (pe_int)) (pe_op FW.opMul (pe_int) (pv 1))) (pa_cons (pe_int) (pa_nil)))))))
theorem ok_l_stream (T : Tx K mg base) : Fn PP w K mg base CX0 1 "_law_stream" (sp_l_stream K) [] :=
  Fn.mk0 T.d_l_stream T.g__law_stream sc_l_stream (fun _ _ _ _ _ _ us hl => match us, hl with | [_, _], _ => rfl) (by walk_at "ln") (fun cdv A outer s H vs Q E hr h => ⟨rd_l_stream K, dv_l_stream T hr, pure_l_stream K vs H Q E h⟩)
theorem dv_l_draw {f : Addr} {cdv : Value} {A : Around} {outer : List Env} {s : Shared} {H : Hp} {E : XK} (T : Tx K mg base) (hr : Room 0 (A.deeper (envOfC "_law_draw" (defScope st_l_draw) s.heap.objs.size f cdv))) : PSs (cxOf CX0 PP w K mg base N_l_draw "_law_draw" (defScope st_l_draw) f cdv A outer s H E).nox (defBody st_l_draw) (rd_l_draw K) := by
  exact pss_cons (ps_if (pt_cmpR op_gt (pe_ix ix_list (pv 0) (pe_int) (fun _ _ => rfl)) (pe_int) (nomark _)) (pss_cons (ps_set (i := 2) sc_l_draw.nd rfl (Or.inl rfl) (pe_op FW.opMod (pe_callTy call_int1 (by rfl) T.n_int (by decide +kernel) (pa_cons (pe_ix ix_list (pv 0) (pe_int) (fun _ _ => rfl)) (pa_nil))) (pv 1))) (pss_cons (ps_asg (pe_op FW.opDiv (pe_ix ix_list (pv 0) (pe_int) (fun _ _ => rfl)) (pv 1)) (pg_sub (pv 0) (pe_int) set_list)) (pss_one (ps_ret (pv 2))))) (pss_nil)) (pss_cons (ps_asg (pe_op FW.opAdd (pe_ix ix_list (pv 0) (pe_int) (fun _ _ => rfl)) (pe_int)) (pg_sub (pv 0) (pe_int) set_list)) (pss_cons (ps_set (i := 3) sc_l_draw.nd rfl (Or.inl rfl) (pe_op FW.opMod (pe_op FW.opPow (pe_callTy call_int1 (by rfl) T.n_int (by decide +kernel) (pa_cons (pe_op FW.opAdd (pe_op FW.opAdd (pe_ix ix_list (pv 0) (pe_int) (fun _ _ => rfl)) (pe_op FW.opMul (pe_int) (pe_ix ix_list (pv 0) (pe_int) (fun _ _ => rfl)))) (pe_int)) (pa_nil))) (pe_int)) (pe_int))) (pss_one (ps_ret (pe_op FW.opMod (pe_op FW.opDiv (pe_op FW.opMod (pe_callTy call_int1 (by rfl) T.n_int (by decide +kernel) (pa_cons (pe_op FW.opMul (pe_op FW.opAdd (pv 3) (pe_ix ix_list (pv 0) (pe_int) (fun _ _ => rfl))) (pe_int)) (pa_nil))) (pe_int)) (pe_int)) (pv 1))))))
theorem ok_l_draw (T : Tx K mg base) : Fn PP w K mg base CX0 1 "_law_draw" (sp_l_draw K) [] :=
  Fn.mk0 T.d_l_draw T.g__law_draw sc_l_draw (fun _ _ _ _ _ _ us hl => match us, hl with | [_, _], _ => rfl) (by walk_at "ln") (fun cdv A outer s H vs Q E hr h => ⟨rd_l_draw K, dv_l_draw T hr, pure_l_draw K vs H Q E h⟩)
theorem dv_l_weights {f : Addr} {cdv : Value} {A : Around} {outer : List Env} {s : Shared} {H : Hp} {E : XK} (T : Tx K mg base) (hr : Room 0 (A.deeper (envOfC "_law_weights" (defScope st_l_weights) s.heap.objs.size f cdv))) : PSs (cxOf CX0 PP w K mg base N_l_weights "_law_weights" (defScope st_l_weights) f cdv A outer s H E).nox (defBody st_l_weights) (rd_l_weights K) := by
  exact pss_cons (ps_set (i := 1) sc_l_weights.nd rfl (Or.inl rfl) (pe_lst (pa_nil))) (pss_cons (ps_for PassesOwn.never rfl (pi_range2 (by rfl) T.n_range (pa_cons (pe_int) (pa_cons (pe_int) (pa_nil)))) (pg_name (i := 2) sc_l_weights.nd rfl (Or.inr rfl)) (pss_one (ps_expr (pe_bm PySem.F.plainAttrs_list PySem.F.slot_list_extend PySem.F.type_list_extend mt_extend (pv 1) (pa_cons (pe_lc (own := [("_law_c", 3)]) (g := gName 3) (tt := tAnd (tTest (tOp FW.rGe (tVar 2) (tOp FW.rMul (tVar 3) (tOp FW.rSub (tVar 0) (tC (.int 1)))))) (tTest (tOp FW.rLe (tOp FW.rAdd (tVar 2) (tVar 3)) (tC (.int 6))))) rfl sc_l_weights.nd (pi_tup (pe_tup (pa_cons (pe_int) (pa_cons (pe_int) (pa_cons (pe_int) (pa_nil)))))) (blkOk_by (own := [("_law_c", 3)]) (N := N_l_weights) (sc := defScope st_l_weights) (by decide +kernel)) (fun _ _ _ _ _ => pg_name (i := 3) sc_l_weights.nd rfl (Or.inl rfl)) (fun _ _ _ _ _ => pts_one (PW.pt (pw_and (pt_cmpR op_ge (pv 2) (pe_op FW.opMul (pv 3) (pe_op FW.opSub (pv 0) (pe_int))) (nomark _)) (pw_and1 (pt_cmpR op_le (pe_op FW.opAdd (pv 2) (pv 3)) (pe_int) (nomark _)))))) (fun _ _ _ _ _ => pe_tup (pa_cons (pv 2) (pa_cons (pv 3) (pa_nil))))) (pa_nil)))))) (pss_one (ps_ret (pv 1))))
theorem ok_l_weights (T : Tx K mg base) : Fn PP w K mg base CX0 1 "_law_weights" (sp_l_weights K) [] :=
  Fn.mk0 T.d_l_weights T.g__law_weights sc_l_weights (fun _ _ _ _ _ _ us hl => match us, hl with | [_], _ => rfl) (by walk_at "ln") (fun cdv A outer s H vs Q E hr h => ⟨rd_l_weights K, dv_l_weights T hr, pure_l_weights K vs H Q E h⟩)
theorem dv_l_near {f : Addr} {cdv : Value} {A : Around} {outer : List Env} {s : Shared} {H : Hp} {E : XK} (T : Tx K mg base) (hr : Room 0 (A.deeper (envOfC "_law_near" (defScope st_l_near) s.heap.objs.size f cdv))) : PSs (cxOf CX0 PP w K mg base N_l_near "_law_near" (defScope st_l_near) f cdv A outer s H E).nox (defBody st_l_near) (rd_l_near K) := by
  exact pss_one (ps_ret (pe_dget2 (FW.u1 hr) (pe_disp (pps_cons (pe_str) (pe_int) (pps_cons (pe_str) (pe_int) (pps_nil))) rfl rfl (fun z => nomatch z) (by decide)) (pe_ix ix_tup (pv 0) (pe_int) (fun _ _ => rfl)) (pe_int) ⟨rfl, rfl, rfl, rfl⟩))
theorem ok_l_near (T : Tx K mg base) : Fn PP w K mg base CX0 1 "_law_near" (sp_l_near K) [] :=
  Fn.mk0 T.d_l_near T.g__law_near sc_l_near (fun _ _ _ _ _ _ us hl => match us, hl with | [_], _ => rfl) (by walk_at "ln") (fun cdv A outer s H vs Q E hr h => ⟨rd_l_near K, dv_l_near T hr, pure_l_near K vs H Q E h⟩)
theorem dv_l_poly {f : Addr} {cdv : Value} {A : Around} {outer : List Env} {s : Shared} {H : Hp} {E : XK} (T : Tx K mg base) (hr : Room 0 (A.deeper (envOfC "_law_poly" (defScope st_l_poly) s.heap.objs.size f cdv))) : PSs (cxOf CX0 PP w K mg base N_l_poly "_law_poly" (defScope st_l_poly) f cdv A outer s H E).nox (defBody st_l_poly) (rd_l_poly K) := by
  exact pss_cons (ps_set (i := 3) sc_l_poly.nd rfl (Or.inl rfl) (pe_lst (pa_cons (pe_op FW.opSub (pv 2) (pe_op FW.opMul (pe_op FW.opSub (pv 0) (pe_int)) (pv 1))) (pa_cons (pe_int) (pa_nil))))) (pss_cons (ps_for PassesOwn.never rfl (pi_range1 (by rfl) T.n_range (pa_cons (pe_op FW.opSub (pv 0) (pe_int)) (pa_nil))) (pg_name (i := 4) sc_l_poly.nd rfl (Or.inl rfl)) (pss_cons (ps_set (i := 5) sc_l_poly.nd rfl (Or.inr rfl) (pe_op op_cat (pe_lst (pa_cons (pe_int) (pa_nil))) (pv 3))) (pss_one (ps_setLc (i := 3) (own := [("_law_at", 6), ("_law_x", 7)]) (g := gTup K 2 (gCons (gName 6) (gCons (gName 7) (gNil)))) (tt := tYes) rfl sc_l_poly.nd rfl rfl (sw_true rfl rfl rfl (by decide +kernel)) (pi_enum (by rfl) T.n_enumerate (pa_cons (pe_op op_cat (pv 3) (pe_lst (pa_cons (pe_int) (pa_nil)))) (pa_nil))) (blkOk_by (own := [("_law_at", 6), ("_law_x", 7)]) (N := N_l_poly) (sc := defScope st_l_poly) (by decide +kernel)) (fun _ _ _ _ _ => pg_tup rfl (pgs_cons (pg_name (i := 6) sc_l_poly.nd rfl (Or.inl rfl)) (pgs_cons (pg_name (i := 7) sc_l_poly.nd rfl (Or.inl rfl)) (pgs_nil)))) (fun _ _ _ _ _ => pts_nil) (fun _ _ _ _ _ => pe_op FW.opAdd (pe_ix ix_list (pv 5) (pv 6) (fun _ _ => rfl)) (pe_op FW.opMul (pv 1) (pv 7))))))) (pss_cons (ps_asg (pe_op FW.opSub (pe_ix ix_list (pv 3) (pv 0) (fun _ _ => rfl)) (pe_int)) (pg_sub (pv 3) (pv 0) set_list)) (pss_cons (ps_while PassesOwn.never (pt_cmpR (op_eqD hr.units) (pe_slice sl_list (pv 3) (po_some (pe_un un_neg (pe_int))) (po_none)) (pe_lst (pa_cons (pe_int) (pa_nil))) (nomark _)) (pss_one (ps_expr (pe_bm0 PySem.F.plainAttrs_list PySem.F.slot_list_pop PySem.F.type_list_pop mt_pop (pv 3))))) (pss_one (ps_ret (pe_callTy call_tuple_of (by rfl) T.n_tuple (by decide +kernel) (pa_cons (pv 3) (pa_nil))))))))
theorem ok_l_poly (T : Tx K mg base) : Fn PP w K mg base CX0 1 "_law_poly" (sp_l_poly K) [] :=
  Fn.mk0 T.d_l_poly T.g__law_poly sc_l_poly (fun _ _ _ _ _ _ us hl => match us, hl with | [_, _, _], _ => rfl) (by walk_at "ln") (fun cdv A outer s H vs Q E hr h => ⟨rd_l_poly K, dv_l_poly T hr, pure_l_poly K vs H Q E h⟩)
theorem dv_l_least {f : Addr} {cdv : Value} {A : Around} {outer : List Env} {s : Shared} {H : Hp} {E : XK} (T : Tx K mg base) (hr : Room 0 (A.deeper (envOfC "_law_least" (defScope st_l_least) s.heap.objs.size f cdv))) : PSs (cxOf CX0 PP w K mg base N_l_least "_law_least" (defScope st_l_least) f cdv A outer s H E).nox (defBody st_l_least) (rd_l_least K) := by
  exact pss_cons (ps_asg (pe_slice sl_tupA (pv 0) (po_none) (po_some (pe_int))) (pg_tup rfl (pgs_cons (pg_name (i := 2) sc_l_least.nd rfl (Or.inl rfl)) (pgs_cons (pg_name (i := 3) sc_l_least.nd rfl (Or.inl rfl)) (pgs_cons (pg_name (i := 4) sc_l_least.nd rfl (Or.inl rfl)) (pgs_cons (pg_name (i := 5) sc_l_least.nd rfl (Or.inl rfl)) (pgs_nil))))))) (pss_one (ps_ret (pe_op FW.opDiv (pe_op FW.opAdd (pe_op FW.opMul (pe_op FW.opSub (pv 3) (pe_op FW.opMul (pv 4) (pe_op FW.opSub (pv 2) (pe_int)))) (pv 1)) (pv 5)) (pe_op FW.opAdd (pv 3) (pv 4)))))
theorem ok_l_least (T : Tx K mg base) : Fn PP w K mg base CX0 1 "_law_least" (sp_l_least K) [] :=
  Fn.mk0 T.d_l_least T.g__law_least sc_l_least (fun _ _ _ _ _ _ us hl => match us, hl with | [_, _], _ => rfl) (by walk_at "ln") (fun cdv A outer s H vs Q E hr h => ⟨rd_l_least K, dv_l_least T hr, pure_l_least K vs H Q E h⟩)
theorem dv_is_whole_from {f : Addr} {cdv : Value} {A : Around} {outer : List Env} {s : Shared} {H : Hp} {E : XK} (T : Tx K mg base) (hr : Room 1 (A.deeper (envOfC "is_whole_from" (defScope st_is_whole_from) s.heap.objs.size f cdv))) : PSs (cxOf CX0 PP w K mg base N_is_whole_from "is_whole_from" (defScope st_is_whole_from) f cdv A outer s H E).nox (defBody st_is_whole_from) (rd_is_whole_from K) := by
  exact pss_one (ps_ret (pe_and (FW.pe_f (ok_is_whole T) hr (by decide) (by rfl) (pa_cons (pv 0) (pa_nil))) (pe_one (pe_cmpR op_ge (pv 0) (pv 1) (nomark _)))))
theorem ok_is_whole_from (T : Tx K mg base) : Fn PP w K mg base CX0 2 "is_whole_from" (sp_is_whole_from K) [] :=
  Fn.mk0 T.d_is_whole_from T.g_is_whole_from sc_is_whole_from (fun _ _ _ _ _ _ us hl => match us, hl with | [_, _], _ => rfl) (by walk_at "ln") (fun cdv A outer s H vs Q E hr h => ⟨rd_is_whole_from K, dv_is_whole_from T hr, pure_is_whole_from K vs H Q E h⟩)
theorem dv_poly_sum {f : Addr} {cdv : Value} {A : Around} {outer : List Env} {s : Shared} {H : Hp} {E : XK} (T : Tx K mg base) (hr : Room 1 (A.deeper (envOfC "poly_sum" (defScope st_poly_sum) s.heap.objs.size f cdv))) : PSs (cxOf CX0 PP w K mg base N_poly_sum "poly_sum" (defScope st_poly_sum) f cdv A outer s H E).nox (defBody st_poly_sum) (rd_poly_sum K) := by
  exact pss_cons (ps_set (i := 2) sc_poly_sum.nd rfl (Or.inl rfl) (pe_callB (call_max2 rfl) (by rfl) T.n_max (by decide +kernel) (pa_cons (pe_callB call_len_seq (by rfl) T.n_len (by decide +kernel) (pa_cons (pv 0) (pa_nil))) (pa_cons (pe_callB call_len_seq (by rfl) T.n_len (by decide +kernel) (pa_cons (pv 1) (pa_nil))) (pa_nil))))) (pss_cons (ps_set (i := 3) sc_poly_sum.nd rfl (Or.inl rfl) (pe_op op_cat (pe_callTy call_list_of (by rfl) T.n_list (by decide +kernel) (pa_cons (pv 0) (pa_nil))) (pe_op op_rep (pe_lst (pa_cons (pe_int) (pa_nil))) (pe_op FW.opSub (pv 2) (pe_callB call_len_seq (by rfl) T.n_len (by decide +kernel) (pa_cons (pv 0) (pa_nil))))))) (pss_cons (ps_set (i := 4) sc_poly_sum.nd rfl (Or.inl rfl) (pe_op op_cat (pe_callTy call_list_of (by rfl) T.n_list (by decide +kernel) (pa_cons (pv 1) (pa_nil))) (pe_op op_rep (pe_lst (pa_cons (pe_int) (pa_nil))) (pe_op FW.opSub (pv 2) (pe_callB call_len_seq (by rfl) T.n_len (by decide +kernel) (pa_cons (pv 1) (pa_nil))))))) (pss_one (ps_ret (FW.pe_f (ok_trimmed T) hr (by decide) (by rfl) (pa_cons (pe_lc (own := [("x", 5), ("y", 6)]) (g := gTup K 2 (gCons (gName 5) (gCons (gName 6) (gNil)))) (tt := tYes) rfl sc_poly_sum.nd (pi_zip (by rfl) T.n_zip (pa_cons (pv 3) (pa_cons (pv 4) (pa_nil)))) (blkOk_by (own := [("x", 5), ("y", 6)]) (N := N_poly_sum) (sc := defScope st_poly_sum) (by decide +kernel)) (fun _ _ _ _ _ => pg_tup rfl (pgs_cons (pg_name (i := 5) sc_poly_sum.nd rfl (Or.inl rfl)) (pgs_cons (pg_name (i := 6) sc_poly_sum.nd rfl (Or.inl rfl)) (pgs_nil)))) (fun _ _ _ _ _ => pts_nil) (fun _ _ _ _ _ => pe_op FW.opAdd (pv 5) (pv 6))) (pa_nil)))))))
theorem ok_poly_sum (T : Tx K mg base) : Fn PP w K mg base CX0 2 "poly_sum" (sp_poly_sum K) [] :=
  Fn.mk0 T.d_poly_sum T.g_poly_sum sc_poly_sum (fun _ _ _ _ _ _ us hl => match us, hl with | [_, _], _ => rfl) (by walk_at "ln") (fun cdv A outer s H vs Q E hr h => ⟨rd_poly_sum K, dv_poly_sum T hr, pure_poly_sum K vs H Q E h⟩)
theorem dv_poly_product {f : Addr} {cdv : Value} {A : Around} {outer : List Env} {s : Shared} {H : Hp} {E : XK} (T : Tx K mg base) (hr : Room 1 (A.deeper (envOfC "poly_product" (defScope st_poly_product) s.heap.objs.size f cdv))) : PSs (cxOf CX0 PP w K mg base N_poly_product "poly_product" (defScope st_poly_product) f cdv A outer s H E).nox (defBody st_poly_product) (rd_poly_product K) := by
  exact pss_cons (ps_set (i := 2) sc_poly_product.nd rfl (Or.inl rfl) (pe_op op_rep (pe_lst (pa_cons (pe_int) (pa_nil))) (pe_op FW.opAdd (pe_callB call_len_seq (by rfl) T.n_len (by decide +kernel) (pa_cons (pv 0) (pa_nil))) (pe_callB call_len_seq (by rfl) T.n_len (by decide +kernel) (pa_cons (pv 1) (pa_nil)))))) (pss_cons (ps_for PassesOwn.never rfl (FW.pi_either (pi_enum (by rfl) T.n_enumerate (pa_cons (pv 0) (pa_nil))) (FW.pi_enumT (by rfl) T.n_enumerate (pa_cons (pv 0) (pa_nil)))) (pg_tup rfl (pgs_cons (pg_name (i := 3) sc_poly_product.nd rfl (Or.inl rfl)) (pgs_cons (pg_name (i := 4) sc_poly_product.nd rfl (Or.inl rfl)) (pgs_nil)))) (pss_one (ps_for PassesOwn.never rfl (FW.pi_either (pi_enum (by rfl) T.n_enumerate (pa_cons (pv 1) (pa_nil))) (FW.pi_enumT (by rfl) T.n_enumerate (pa_cons (pv 1) (pa_nil)))) (pg_tup rfl (pgs_cons (pg_name (i := 5) sc_poly_product.nd rfl (Or.inl rfl)) (pgs_cons (pg_name (i := 6) sc_poly_product.nd rfl (Or.inl rfl)) (pgs_nil)))) (pss_one (ps_augS (pv 2) (pe_op FW.opAdd (pv 3) (pv 5)) FW.get_list (pe_op FW.opMul (pv 4) (pv 6)) FW.ipAdd set_list))))) (pss_one (ps_ret (FW.pe_f (ok_trimmed T) hr (by decide) (by rfl) (pa_cons (pv 2) (pa_nil))))))
theorem ok_poly_product (T : Tx K mg base) : Fn PP w K mg base CX0 2 "poly_product" (sp_poly_product K) [] :=
  Fn.mk0 T.d_poly_product T.g_poly_product sc_poly_product (fun _ _ _ _ _ _ us hl => match us, hl with | [_, _], _ => rfl) (by walk_at "ln") (fun cdv A outer s H vs Q E hr h => ⟨rd_poly_product K, dv_poly_product T hr, pure_poly_product K vs H Q E h⟩)
theorem dv_next_change {f : Addr} {cdv : Value} {A : Around} {outer : List Env} {s : Shared} {H : Hp} {E : XK} (T : Tx K mg base) (hr : Room 1 (A.deeper (envOfC "next_change" (defScope st_next_change) s.heap.objs.size f cdv))) : PSs (cxOf CX0 PP w K mg base N_next_change "next_change" (defScope st_next_change) f cdv A outer s H E).nox (defBody st_next_change) (rd_next_change K) := by
  exact pss_cons (ps_par (by rfl) sc_next_change.nd rfl rfl (by decide) rfl rfl (pa_cons (pv 1) (pa_cons (pv 2) (pa_nil))) (by rfl)) (pss_cons (ps_while PassesOwn.never (pt_cmpR op_gt (pe_op FW.opSub (pv 4) (pv 3)) (pe_int) (nomark _)) (pss_cons (ps_set (i := 5) sc_next_change.nd rfl (Or.inl rfl) (pe_op FW.opDiv (pe_op FW.opAdd (pv 3) (pv 4)) (pe_int))) (pss_one (ps_if (pt_cmpR op_eq (FW.pe_f (ok_sign T) hr (by decide) (by rfl) (pa_cons (FW.pe_f (ok_poly_value T) hr (by decide) (by rfl) (pa_cons (pv 0) (pa_cons (pv 5) (pa_nil)))) (pa_nil))) (FW.pe_f (ok_sign T) hr (by decide) (by rfl) (pa_cons (FW.pe_f (ok_poly_value T) hr (by decide) (by rfl) (pa_cons (pv 0) (pa_cons (pv 1) (pa_nil)))) (pa_nil))) (nomark _)) (pss_one (ps_set (i := 3) sc_next_change.nd rfl (Or.inl rfl) (pv 5))) (pss_one (ps_set (i := 4) sc_next_change.nd rfl (Or.inl rfl) (pv 5))))))) (pss_one (ps_ret (pv 4))))
theorem ok_next_change (T : Tx K mg base) : Fn PP w K mg base CX0 2 "next_change" (sp_next_change K) [] :=
  Fn.mk0 T.d_next_change T.g_next_change sc_next_change (fun _ _ _ _ _ _ us hl => match us, hl with | [_, _, _], _ => rfl) (by walk_at "ln") (fun cdv A outer s H vs Q E hr h => ⟨rd_next_change K, dv_next_change T hr, pure_next_change K vs H Q E h⟩)
theorem dv_needed {f : Addr} {cdv : Value} {A : Around} {outer : List Env} {s : Shared} {H : Hp} {E : XK} (T : Tx K mg base) (hr : Room 1 (A.deeper (envOfC "needed" (defScope st_needed) s.heap.objs.size f cdv))) : PSs (cxOf CX0 PP w K mg base N_needed "needed" (defScope st_needed) f cdv A outer s H E).nox (defBody st_needed) (rd_needed K) := by
  exact pss_one (ps_ret (pe_un un_neg (pe_op FW.opDiv (pe_op FW.opSub (pe_op FW.opAdd (pe_fld (pv 0) rfl) (pe_op FW.opMul (FW.pe_f (ok_slant T) hr (by decide) (by rfl) (pa_cons (pv 0) (pa_nil))) (pv 1))) (pe_op FW.opMul (pv 2) (pe_op FW.opAdd (pe_fld (pv 0) rfl) (pe_fld (pv 0) rfl)))) (pe_fld (pv 0) rfl))))
theorem ok_needed (T : Tx K mg base) : Fn PP w K mg base CX0 2 "needed" (sp_needed K) [] :=
  Fn.mk0 T.d_needed T.g_needed sc_needed (fun _ _ _ _ _ _ us hl => match us, hl with | [_, _, _], _ => rfl) (by walk_at "ln") (fun cdv A outer s H vs Q E hr h => ⟨rd_needed K, dv_needed T hr, pure_needed K T.av vs H Q E h⟩)
theorem dv_is_row_of {f : Addr} {cdv : Value} {A : Around} {outer : List Env} {s : Shared} {H : Hp} {E : XK} (T : Tx K mg base) (hr : Room 1 (A.deeper (envOfC "is_row_of" (defScope st_is_row_of) s.heap.objs.size f cdv))) : PSs (cxOf CX0 PP w K mg base N_is_row_of "is_row_of" (defScope st_is_row_of) f cdv A outer s H E).nox (defBody st_is_row_of) (rd_is_row_of K) := by
  exact pss_cons (ps_if (PW.pt (pw_or (pt_not (pt_val (pe_callB call_isiT (by rfl) T.n_isinstance (by decide +kernel) (pa_cons (pv 0) (pa_cons (pe_tup (pa_cons (pe_bltn (by rfl) T.n_list (by decide +kernel) rfl) (pa_cons (pe_bltn (by rfl) T.n_tuple (by decide +kernel) rfl) (pa_nil)))) (pa_nil)))))) (pw_or1 (PW.pt (pw_and (pt_cmpR op_notN (pv 1) (pe_non) (nomark _)) (pw_and1 (pt_cmpR op_ne (pe_callB call_len_seq (by rfl) T.n_len (by decide +kernel) (pa_cons (pv 0) (pa_nil))) (pv 1) (nomark _)))))))) (pss_one (ps_ret (pe_bl))) (pss_nil)) (pss_one (ps_ret (pe_callB (cr_all rfl) (by rfl) T.n_all (by decide +kernel) (pa_cons (pe_lc (own := [("x", 2)]) (g := gName 2) (tt := tYes) rfl sc_is_row_of.nd (FW.pi_either (pi_list (pv 0)) (pi_tup (pv 0))) (blkOk_by (own := [("x", 2)]) (N := N_is_row_of) (sc := defScope st_is_row_of) (by decide +kernel)) (fun _ _ _ _ _ => pg_name (i := 2) sc_is_row_of.nd rfl (Or.inl rfl)) (fun _ _ _ _ _ => pts_nil) (fun _ _ _ _ _ => FW.pe_f (ok_is_whole T) hr (by decide) (by rfl) (pa_cons (pv 2) (pa_nil)))) (pa_nil)))))
theorem ok_is_row_of (T : Tx K mg base) : Fn PP w K mg base CX0 2 "is_row_of" (sp_is_row_of K) [] :=
  Fn.mk0 T.d_is_row_of T.g_is_row_of sc_is_row_of (fun _ _ _ _ _ _ us hl => match us, hl with | [_, _], _ => rfl) (by walk_at "ln") (fun cdv A outer s H vs Q E hr h => ⟨rd_is_row_of K, dv_is_row_of T hr, pure_is_row_of K vs H Q E h⟩)
theorem dv_l_pick {f : Addr} {cdv : Value} {A : Around} {outer : List Env} {s : Shared} {H : Hp} {E : XK} (T : Tx K mg base) (hr : Room 1 (A.deeper (envOfC "_law_pick" (defScope st_l_pick) s.heap.objs.size f cdv))) : PSs (cxOf CX0 PP w K mg base N_l_pick "_law_pick" (defScope st_l_pick) f cdv A outer s H E).nox (defBody st_l_pick) (rd_l_pick K) := by
  exact pss_one (ps_ret (pe_ix ix_list (pv 1) (FW.pe_f (ok_l_draw T) hr (by decide) (by rfl) (pa_cons (pv 0) (pa_cons (pe_callB call_len_seq (by rfl) T.n_len (by decide +kernel) (pa_cons (pv 1) (pa_nil))) (pa_nil)))) (fun _ _ => rfl)))
theorem ok_l_pick (T : Tx K mg base) : Fn PP w K mg base CX0 2 "_law_pick" (sp_l_pick K) [] :=
  Fn.mk0 T.d_l_pick T.g__law_pick sc_l_pick (fun _ _ _ _ _ _ us hl => match us, hl with | [_, _], _ => rfl) (by walk_at "ln") (fun cdv A outer s H vs Q E hr h => ⟨rd_l_pick K, dv_l_pick T hr, pure_l_pick K vs H Q E h⟩)
theorem dv_l_window {f : Addr} {cdv : Value} {A : Around} {outer : List Env} {s : Shared} {H : Hp} {E : XK} (T : Tx K mg base) (hr : Room 1 (A.deeper (envOfC "_law_window" (defScope st_l_window) s.heap.objs.size f cdv))) : PSs (cxOf CX0 PP w K mg base N_l_window "_law_window" (defScope st_l_window) f cdv A outer s H E).nox (defBody st_l_window) (rd_l_window K) := by
  exact pss_cons (ps_asg (pv 0) (pg_tup rfl (pgs_cons (pg_name (i := 1) sc_l_window.nd rfl (Or.inl rfl)) (pgs_cons (pg_name (i := 2) sc_l_window.nd rfl (Or.inl rfl)) (pgs_cons (pg_name (i := 3) sc_l_window.nd rfl (Or.inl rfl)) (pgs_cons (pg_name (i := 4) sc_l_window.nd rfl (Or.inl rfl)) (pgs_cons (pg_name (i := 5) sc_l_window.nd rfl (Or.inl rfl)) (pgs_cons (pg_name (i := 6) sc_l_window.nd rfl (Or.inl rfl)) (pgs_cons (pg_name (i := 7) sc_l_window.nd rfl (Or.inl rfl)) (pgs_nil)))))))))) (pss_cons (ps_par (by rfl) sc_l_window.nd rfl rfl (by decide) rfl rfl (pa_cons (pe_int) (pa_cons (pe_op FW.opDiv (pv 4) (pe_op FW.opAdd (pv 2) (pv 3))) (pa_nil))) (by rfl)) (pss_cons (ps_while PassesOwn.never (pt_cmpR op_lt (pv 9) (pv 8) (nomark _)) (pss_one (ps_par (by rfl) sc_l_window.nd rfl rfl (by decide) rfl rfl (pa_cons (pv 9) (pa_cons (pe_op FW.opDiv (pe_op FW.opAdd (pe_op FW.opMul (pe_op FW.opSub (pv 2) (pe_op FW.opMul (pv 3) (pe_op FW.opSub (pv 1) (pe_int)))) (pv 9)) (pv 4)) (pe_op FW.opAdd (pv 2) (pv 3))) (pa_nil))) (by rfl)))) (pss_one (ps_ret (pe_tup (pa_cons (pv 8) (pa_cons (pe_op FW.opAdd (pe_int) (pe_op FW.opDiv (pe_callB (call_max2 rfl) (by rfl) T.n_max (by decide +kernel) (pa_cons (pe_int) (pa_cons (pe_op FW.opAdd (pv 4) (pe_op FW.opMul (FW.pe_f (ok_l_near T) hr (by decide) (by rfl) (pa_cons (pv 0) (pa_nil))) (pe_op FW.opAdd (pv 2) (pv 3)))) (pa_nil)))) (pe_op FW.opMul (pv 3) (pv 1)))) (pa_nil))))))))
theorem ok_l_window (T : Tx K mg base) : Fn PP w K mg base CX0 2 "_law_window" (sp_l_window K) [] :=
  Fn.mk0 T.d_l_window T.g__law_window sc_l_window (fun _ _ _ _ _ _ us hl => match us, hl with | [_], _ => rfl) (by walk_at "ln") (fun cdv A outer s H vs Q E hr h => ⟨rd_l_window K, dv_l_window T hr, pure_l_window K vs H Q E h⟩)
theorem dv_l_turning {f : Addr} {cdv : Value} {A : Around} {outer : List Env} {s : Shared} {H : Hp} {E : XK} (T : Tx K mg base) (hr : Room 1 (A.deeper (envOfC "_law_turning" (defScope st_l_turning) s.heap.objs.size f cdv))) : PSs (cxOf CX0 PP w K mg base N_l_turning "_law_turning" (defScope st_l_turning) f cdv A outer s H E).nox (defBody st_l_turning) (rd_l_turning K) := by
  exact pss_cons (ps_asg (pv 0) (pg_tup rfl (pgs_cons (pg_name (i := 2) sc_l_turning.nd rfl (Or.inl rfl)) (pgs_cons (pg_name (i := 3) sc_l_turning.nd rfl (Or.inl rfl)) (pgs_cons (pg_name (i := 4) sc_l_turning.nd rfl (Or.inl rfl)) (pgs_cons (pg_name (i := 5) sc_l_turning.nd rfl (Or.inl rfl)) (pgs_cons (pg_name (i := 6) sc_l_turning.nd rfl (Or.inl rfl)) (pgs_cons (pg_name (i := 7) sc_l_turning.nd rfl (Or.inl rfl)) (pgs_cons (pg_name (i := 8) sc_l_turning.nd rfl (Or.inl rfl)) (pgs_nil)))))))))) (pss_cons (ps_par (by rfl) sc_l_turning.nd rfl rfl (by decide) rfl rfl (pa_cons (pe_op FW.opAdd (pv 3) (pv 4)) (pa_cons (pe_op FW.opSub (pv 3) (pe_op FW.opMul (pv 4) (pe_op FW.opSub (pv 2) (pe_int)))) (pa_nil))) (by rfl)) (pss_cons (ps_set (i := 11) sc_l_turning.nd rfl (Or.inl rfl) (pe_op FW.opAdd (FW.pe_f (ok_l_least T) hr (by decide) (by rfl) (pa_cons (pv 0) (pa_cons (pv 1) (pa_nil)))) (pe_int))) (pss_cons (ps_set (i := 12) sc_l_turning.nd rfl (Or.inl rfl) (pe_lst (pa_nil))) (pss_cons (ps_for PassesOwn.never rfl (pi_range1 (by rfl) T.n_range (pa_cons (pe_op FW.opAdd (pv 2) (pe_int)) (pa_nil))) (pg_name (i := 13) sc_l_turning.nd rfl (Or.inl rfl)) (pss_cons (ps_set (i := 14) sc_l_turning.nd rfl (Or.inl rfl) (pe_un un_neg (pe_op FW.opDiv (pe_op FW.opSub (pe_op FW.opAdd (pv 5) (pe_op FW.opMul (pv 10) (pv 1))) (pe_op FW.opMul (pe_op FW.opAdd (pv 11) (pv 13)) (pv 9))) (pv 4)))) (pss_one (ps_if (pt_cmpR op_le (pv 14) (pe_op FW.opSub (pv 2) (pe_callTy call_int1 (by rfl) T.n_int (by decide +kernel) (pa_cons (pe_cmpR op_eq (pv 1) (pe_int) (nomark _)) (pa_nil)))) (nomark _)) (pss_one (ps_expr (pe_bm PySem.F.plainAttrs_list PySem.F.slot_list_append PySem.F.type_list_append mt_append (pv 12) (pa_cons (FW.pe_f (ok_l_poly T) hr (by decide) (by rfl) (pa_cons (pv 2) (pa_cons (pv 1) (pa_cons (pv 14) (pa_nil))))) (pa_nil))))) (pss_nil))))) (pss_one (ps_ret (pv 12)))))))
theorem ok_l_turning (T : Tx K mg base) : Fn PP w K mg base CX0 2 "_law_turning" (sp_l_turning K) [] :=
  Fn.mk0 T.d_l_turning T.g__law_turning sc_l_turning (fun _ _ _ _ _ _ us hl => match us, hl with | [_, _], _ => rfl) (by walk_at "ln") (fun cdv A outer s H vs Q E hr h => ⟨rd_l_turning K, dv_l_turning T hr, pure_l_turning K vs H Q E h⟩)
theorem dv_l_wrong {f : Addr} {cdv : Value} {A : Around} {outer : List Env} {s : Shared} {H : Hp} {E : XK} (T : Tx K mg base) (hr : Room 1 (A.deeper (envOfC "_law_wrong" (defScope st_l_wrong) s.heap.objs.size f cdv))) : PSs (cxOf CX0 PP w K mg base N_l_wrong "_law_wrong" (defScope st_l_wrong) f cdv A outer s H E).nox (defBody st_l_wrong) (rd_l_wrong K) := by
  exact pss_cons (ps_asg (pv 1) (pg_tup rfl (pgs_cons (pg_name (i := 2) sc_l_wrong.nd rfl (Or.inl rfl)) (pgs_cons (pg_name (i := 3) sc_l_wrong.nd rfl (Or.inl rfl)) (pgs_cons (pg_name (i := 4) sc_l_wrong.nd rfl (Or.inl rfl)) (pgs_cons (pg_name (i := 5) sc_l_wrong.nd rfl (Or.inl rfl)) (pgs_cons (pg_name (i := 6) sc_l_wrong.nd rfl (Or.inl rfl)) (pgs_nil)))))))) (pss_cons (ps_set (i := 7) sc_l_wrong.nd rfl (Or.inl rfl) (FW.pe_f (ok_l_draw T) hr (by decide) (by rfl) (pa_cons (pv 0) (pa_cons (pe_callB call_len_seq (by rfl) T.n_len (by decide +kernel) (pa_cons (pv 6) (pa_nil))) (pa_nil))))) (pss_cons (ps_set (i := 8) sc_l_wrong.nd rfl (Or.inl rfl) (FW.pe_f (ok_l_draw T) hr (by decide) (by rfl) (pa_cons (pv 0) (pa_cons (pe_op FW.opAdd (pe_op FW.opSub (pv 4) (pv 3)) (pe_int)) (pa_nil))))) (pss_cons (ps_set (i := 9) sc_l_wrong.nd rfl (Or.inl rfl) (pe_op op_catA (pe_op op_catA (pe_slice sl_tupA (pe_ix ix_tup (pv 6) (pv 7) (fun _ _ => rfl)) (po_none) (po_some (pv 8))) (pe_tup (pa_cons (pe_op FW.opSub (pe_ix ix_tup (pe_ix ix_tup (pv 6) (pv 7) (fun _ _ => rfl)) (pv 8) (fun _ _ => rfl)) (pe_int)) (pa_nil)))) (pe_slice sl_tupA (pe_ix ix_tup (pv 6) (pv 7) (fun _ _ => rfl)) (po_some (pe_op FW.opAdd (pv 8) (pe_int))) (po_none)))) (pss_cons (ps_if (PW.pt (pw_or (pt_cmpR (op_eqD hr.units) (pv 5) (pe_tup (pa_nil)) (nomark _)) (pw_or1 (pt_cmpR op_eq (FW.pe_f (ok_l_draw T) hr (by decide) (by rfl) (pa_cons (pv 0) (pa_cons (pe_int) (pa_nil)))) (pe_int) (nomark _))))) (pss_one (ps_ret (pe_tup (pa_cons (pv 2) (pa_cons (pv 3) (pa_cons (pv 4) (pa_cons (pv 5) (pa_cons (pe_op op_catA (pe_op op_catA (pe_slice sl_tupA (pv 6) (po_none) (po_some (pv 7))) (pe_tup (pa_cons (pv 9) (pa_nil)))) (pe_slice sl_tupA (pv 6) (po_some (pe_op FW.opAdd (pv 7) (pe_int))) (po_none))) (pa_nil))))))))) (pss_nil)) (pss_cons (ps_set (i := 7) sc_l_wrong.nd rfl (Or.inl rfl) (FW.pe_f (ok_l_draw T) hr (by decide) (by rfl) (pa_cons (pv 0) (pa_cons (pe_callB call_len_seq (by rfl) T.n_len (by decide +kernel) (pa_cons (pv 5) (pa_nil))) (pa_nil))))) (pss_one (ps_ret (pe_tup (pa_cons (pv 2) (pa_cons (pv 3) (pa_cons (pv 4) (pa_cons (pe_op op_catA (pe_slice sl_tupA (pv 5) (po_none) (po_some (pv 7))) (pe_slice sl_tupA (pv 5) (po_some (pe_op FW.opAdd (pv 7) (pe_int))) (po_none))) (pa_cons (pe_op op_catA (pe_slice sl_tupA (pv 6) (po_none) (po_some (pv 7))) (pe_slice sl_tupA (pv 6) (po_some (pe_op FW.opAdd (pv 7) (pe_int))) (po_none))) (pa_nil))))))))))))))
theorem ok_l_wrong (T : Tx K mg base) : Fn PP w K mg base CX0 2 "_law_wrong" (sp_l_wrong K) [] :=
  Fn.mk0 T.d_l_wrong T.g__law_wrong sc_l_wrong (fun _ _ _ _ _ _ us hl => match us, hl with | [_, _], _ => rfl) (by walk_at "ln") (fun cdv A outer s H vs Q E hr h => ⟨rd_l_wrong K, dv_l_wrong T hr, pure_l_wrong K vs H Q E h⟩)
theorem dv_poly_less {f : Addr} {cdv : Value} {A : Around} {outer : List Env} {s : Shared} {H : Hp} {E : XK} (T : Tx K mg base) (hr : Room 2 (A.deeper (envOfC "poly_less" (defScope st_poly_less) s.heap.objs.size f cdv))) : PSs (cxOf CX0 PP w K mg base N_poly_less "poly_less" (defScope st_poly_less) f cdv A outer s H E).nox (defBody st_poly_less) (rd_poly_less K) := by
  exact pss_one (ps_ret (FW.pe_f (ok_poly_sum T) hr (by decide) (by rfl) (pa_cons (pv 0) (pa_cons (pe_callTy call_tuple_of (by rfl) T.n_tuple (by decide +kernel) (pa_cons (pe_lc (own := [("coefficient", 2)]) (g := gName 2) (tt := tYes) rfl sc_poly_less.nd (pi_tup (pv 1)) (blkOk_by (own := [("coefficient", 2)]) (N := N_poly_less) (sc := defScope st_poly_less) (by decide +kernel)) (fun _ _ _ _ _ => pg_name (i := 2) sc_poly_less.nd rfl (Or.inl rfl)) (fun _ _ _ _ _ => pts_nil) (fun _ _ _ _ _ => pe_un un_neg (pv 2))) (pa_nil))) (pa_nil)))))
theorem ok_poly_less (T : Tx K mg base) : Fn PP w K mg base CX0 3 "poly_less" (sp_poly_less K) [] :=
  Fn.mk0 T.d_poly_less T.g_poly_less sc_poly_less (fun _ _ _ _ _ _ us hl => match us, hl with | [_, _], _ => rfl) (by walk_at "ln") (fun cdv A outer s H vs Q E hr h => ⟨rd_poly_less K, dv_poly_less T hr, pure_poly_less K vs H Q E h⟩)
theorem dv_poly_power {f : Addr} {cdv : Value} {A : Around} {outer : List Env} {s : Shared} {H : Hp} {E : XK} (T : Tx K mg base) (hr : Room 2 (A.deeper (envOfC "poly_power" (defScope st_poly_power) s.heap.objs.size f cdv))) : PSs (cxOf CX0 PP w K mg base N_poly_power "poly_power" (defScope st_poly_power) f cdv A outer s H E).nox (defBody st_poly_power) (rd_poly_power K) := by
  exact pss_cons (ps_set (i := 2) sc_poly_power.nd rfl (Or.inl rfl) (pe_tup (pa_cons (pe_int) (pa_nil)))) (pss_cons (ps_for PassesOwn.never rfl (pi_range1 (by rfl) T.n_range (pa_cons (pv 1) (pa_nil))) (pg_name (i := 3) sc_poly_power.nd rfl (Or.inl rfl)) (pss_one (ps_set (i := 2) sc_poly_power.nd rfl (Or.inl rfl) (FW.pe_f (ok_poly_product T) hr (by decide) (by rfl) (pa_cons (pv 2) (pa_cons (pv 0) (pa_nil))))))) (pss_one (ps_ret (pv 2))))
theorem ok_poly_power (T : Tx K mg base) : Fn PP w K mg base CX0 3 "poly_power" (sp_poly_power K) [] :=
  Fn.mk0 T.d_poly_power T.g_poly_power sc_poly_power (fun _ _ _ _ _ _ us hl => match us, hl with | [_, _], _ => rfl) (by walk_at "ln") (fun cdv A outer s H vs Q E hr h => ⟨rd_poly_power K, dv_poly_power T hr, pure_poly_power K vs H Q E h⟩)
theorem dv_poly_shift {f : Addr} {cdv : Value} {A : Around} {outer : List Env} {s : Shared} {H : Hp} {E : XK} (T : Tx K mg base) (hr : Room 2 (A.deeper (envOfC "poly_shift" (defScope st_poly_shift) s.heap.objs.size f cdv))) : PSs (cxOf CX0 PP w K mg base N_poly_shift "poly_shift" (defScope st_poly_shift) f cdv A outer s H E).nox (defBody st_poly_shift) (rd_poly_shift K) := by
  exact pss_cons (ps_set (i := 2) sc_poly_shift.nd rfl (Or.inl rfl) (pe_tup (pa_nil))) (pss_cons (ps_for PassesOwn.never rfl (FW.pi_either (pi_list (FW.pe_either (pe_revL (pv 0)) (FW.pe_revT (pv 0)))) (pi_tup (FW.pe_either (pe_revL (pv 0)) (FW.pe_revT (pv 0))))) (pg_name (i := 3) sc_poly_shift.nd rfl (Or.inl rfl)) (pss_one (ps_set (i := 2) sc_poly_shift.nd rfl (Or.inl rfl) (FW.pe_f (ok_poly_sum T) hr (by decide) (by rfl) (pa_cons (FW.pe_f (ok_poly_product T) hr (by decide) (by rfl) (pa_cons (pv 2) (pa_cons (pe_tup (pa_cons (pv 1) (pa_cons (pe_int) (pa_nil)))) (pa_nil)))) (pa_cons (pe_tup (pa_cons (pv 3) (pa_nil))) (pa_nil))))))) (pss_one (ps_ret (pv 2))))
theorem ok_poly_shift (T : Tx K mg base) : Fn PP w K mg base CX0 3 "poly_shift" (sp_poly_shift K) [] :=
  Fn.mk0 T.d_poly_shift T.g_poly_shift sc_poly_shift (fun _ _ _ _ _ _ us hl => match us, hl with | [_, _], _ => rfl) (by walk_at "ln") (fun cdv A outer s H vs Q E hr h => ⟨rd_poly_shift K, dv_poly_shift T hr, pure_poly_shift K vs H Q E h⟩)
theorem dv_wrong_part {f : Addr} {cdv : Value} {A : Around} {outer : List Env} {s : Shared} {H : Hp} {E : XK} (T : Tx K mg base) (hr : Room 2 (A.deeper (envOfC "wrong_part" (defScope st_wrong_part) s.heap.objs.size f cdv))) : PSs (cxOf CX0 PP w K mg base N_wrong_part "wrong_part" (defScope st_wrong_part) f cdv A outer s H E).nox (defBody st_wrong_part) (rd_wrong_part K) := by
  exact pss_cons (ps_if (PW.pt (pw_or (pt_not (pt_val (FW.pe_f (ok_is_whole T) hr (by decide) (by rfl) (pa_cons (pv 0) (pa_nil))))) (pw_or1 (pt_cmpR op_notIn_seq (pv 0) (pe_tup (pa_cons (pe_int) (pa_cons (pe_int) (pa_cons (pe_int) (pa_nil))))) (by rfl))))) (pss_one (ps_ret (pe_str))) (pss_nil)) (pss_cons (ps_if (PW.pt (pw_or (pt_not (pt_val (FW.pe_f (ok_is_whole T) hr (by decide) (by rfl) (pa_cons (pv 1) (pa_nil))))) (pw_or1 (pt_not (pt_chain op_le op_le (pe_int) (pv 1) (pe_int)))))) (pss_one (ps_ret (pe_str))) (pss_nil)) (pss_cons (ps_if (PW.pt (pw_or (pt_not (pt_val (FW.pe_f (ok_is_whole_from T) hr (by decide) (by rfl) (pa_cons (pv 2) (pa_cons (pe_int) (pa_nil)))))) (pw_or (pt_cmpR op_lt (pv 1) (pe_op FW.opMul (pv 2) (pe_op FW.opSub (pv 0) (pe_int))) (nomark _)) (pw_or1 (pt_cmpR op_gt (pe_op FW.opAdd (pv 1) (pv 2)) (pe_int) (nomark _)))))) (pss_one (ps_ret (pe_str))) (pss_nil)) (pss_cons (ps_if (PW.pt (pw_or (pt_not (pt_val (FW.pe_f (ok_is_whole T) hr (by decide) (by rfl) (pa_cons (pv 3) (pa_nil))))) (pw_or1 (pt_not (pt_chain op_le op_le (pe_un un_neg (pv 1)) (pv 3) (pe_op FW.opAdd (pv 1) (pv 2))))))) (pss_one (ps_ret (pe_str))) (pss_nil)) (pss_cons (ps_if (pt_not (pt_val (FW.pe_f (ok_is_word_of T) hr (by decide) (by rfl) (pa_cons (pv 4) (pa_cons (pe_glob (by rfl) T.g_STOPS rfl) (pa_nil)))))) (pss_one (ps_ret (pe_str))) (pss_nil)) (pss_cons (ps_if (PW.pt (pw_or (pt_not (pt_val (FW.pe_f (ok_is_word_of T) hr (by decide) (by rfl) (pa_cons (pv 5) (pa_cons (pe_glob (by rfl) T.g_TOLDS rfl) (pa_nil)))))) (pw_or1 (PW.pt (pw_and (pt_cmpR op_in_seq (pv 4) (pe_glob (by rfl) T.g_LOOKS rfl) (by rfl)) (pw_and1 (pt_cmpR op_ne (pv 5) (pe_str) (nomark _)))))))) (pss_one (ps_ret (pe_str))) (pss_nil)) (pss_one (ps_ret (pe_ifExp (pt_val (FW.pe_f (ok_is_word_of T) hr (by decide) (by rfl) (pa_cons (pv 6) (pa_cons (pe_glob (by rfl) T.g_MENDS rfl) (pa_nil))))) (pe_non) (pe_str)))))))))
theorem ok_wrong_part (T : Tx K mg base) : Fn PP w K mg base CX0 3 "wrong_part" (sp_wrong_part K) [] :=
  Fn.mk0 T.d_wrong_part T.g_wrong_part sc_wrong_part (fun _ _ _ _ _ _ us hl => match us, hl with | [_, _, _, _, _, _, _], _ => rfl) (by walk_at "ln") (fun cdv A outer s H vs Q E hr h => ⟨rd_wrong_part K, dv_wrong_part T hr, pure_wrong_part K T.av vs H Q E h⟩)
theorem dv_has_form {f : Addr} {cdv : Value} {A : Around} {outer : List Env} {s : Shared} {H : Hp} {E : XK} (T : Tx K mg base) (hr : Room 2 (A.deeper (envOfC "has_form" (defScope st_has_form) s.heap.objs.size f cdv))) : PSs (cxOf CX0 PP w K mg base N_has_form "has_form" (defScope st_has_form) f cdv A outer s H E).nox (defBody st_has_form) (rd_has_form K) := by
  exact pss_cons (ps_if (PW.pt (pw_or (pt_not (pt_val (pe_callB call_isiT (by rfl) T.n_isinstance (by decide +kernel) (pa_cons (pv 0) (pa_cons (pe_tup (pa_cons (pe_bltn (by rfl) T.n_list (by decide +kernel) rfl) (pa_cons (pe_bltn (by rfl) T.n_tuple (by decide +kernel) rfl) (pa_nil)))) (pa_nil)))))) (pw_or (pt_cmpR op_ne (pe_callB call_len_seq (by rfl) T.n_len (by decide +kernel) (pa_cons (pv 0) (pa_nil))) (pe_int) (nomark _)) (pw_or1 (pt_not (pt_val (FW.pe_f (ok_is_row_of T) hr (by decide) (by rfl) (pa_cons (FW.pe_either (pe_slice sl_list (pv 0) (po_none) (po_some (pe_int))) (pe_slice sl_tupA (pv 0) (po_none) (po_some (pe_int)))) (pa_cons (pe_int) (pa_nil)))))))))) (pss_one (ps_ret (pe_bl))) (pss_nil)) (pss_cons (ps_asg (pv 0) (FW.pg_either (pg_tup rfl (pgs_cons (pg_name (i := 1) sc_has_form.nd rfl (Or.inl rfl)) (pgs_cons (pg_name (i := 2) sc_has_form.nd rfl (Or.inr rfl)) (pgs_cons (pg_name (i := 3) sc_has_form.nd rfl (Or.inr rfl)) (pgs_cons (pg_name (i := 4) sc_has_form.nd rfl (Or.inl rfl)) (pgs_cons (pg_name (i := 5) sc_has_form.nd rfl (Or.inl rfl)) (pgs_nil))))))) (pg_lst rfl (pgs_cons (pg_name (i := 1) sc_has_form.nd rfl (Or.inl rfl)) (pgs_cons (pg_name (i := 2) sc_has_form.nd rfl (Or.inr rfl)) (pgs_cons (pg_name (i := 3) sc_has_form.nd rfl (Or.inr rfl)) (pgs_cons (pg_name (i := 4) sc_has_form.nd rfl (Or.inl rfl)) (pgs_cons (pg_name (i := 5) sc_has_form.nd rfl (Or.inl rfl)) (pgs_nil))))))))) (pss_cons (ps_if (PW.pt (pw_or (pt_not (pt_val (pe_callB call_isiT (by rfl) T.n_isinstance (by decide +kernel) (pa_cons (pv 4) (pa_cons (pe_tup (pa_cons (pe_bltn (by rfl) T.n_list (by decide +kernel) rfl) (pa_cons (pe_bltn (by rfl) T.n_tuple (by decide +kernel) rfl) (pa_nil)))) (pa_nil)))))) (pw_or1 (pt_not (pt_val (pe_callB call_isiT (by rfl) T.n_isinstance (by decide +kernel) (pa_cons (pv 5) (pa_cons (pe_tup (pa_cons (pe_bltn (by rfl) T.n_list (by decide +kernel) rfl) (pa_cons (pe_bltn (by rfl) T.n_tuple (by decide +kernel) rfl) (pa_nil)))) (pa_nil))))))))) (pss_one (ps_ret (pe_bl))) (pss_nil)) (pss_cons (ps_if (PW.pt (pw_or (pt_cmpR op_gt (pv 2) (pe_int) (nomark _)) (pw_or (pt_cmpR op_lt (pv 3) (pe_int) (nomark _)) (pw_or (pt_cmpR op_lt (pe_op FW.opAdd (pv 1) (pv 2)) (pe_int) (nomark _)) (pw_or1 (pt_cmpR op_ne (pe_callB call_len_seq (by rfl) T.n_len (by decide +kernel) (pa_cons (pv 5) (pa_nil))) (pe_op FW.opAdd (pe_callB call_len_seq (by rfl) T.n_len (by decide +kernel) (pa_cons (pv 4) (pa_nil))) (pe_int)) (nomark _))))))) (pss_one (ps_ret (pe_bl))) (pss_nil)) (pss_one (ps_ret (pe_and (pe_callB (cr_all rfl) (by rfl) T.n_all (by decide +kernel) (pa_cons (pe_lc (own := [("cut", 6)]) (g := gName 6) (tt := tYes) rfl sc_has_form.nd (FW.pi_either (pi_list (pv 4)) (pi_tup (pv 4))) (blkOk_by (own := [("cut", 6)]) (N := N_has_form) (sc := defScope st_has_form) (by decide +kernel)) (fun _ _ _ _ _ => pg_name (i := 6) sc_has_form.nd rfl (Or.inl rfl)) (fun _ _ _ _ _ => pts_nil) (fun _ _ _ _ _ => FW.pe_f (ok_is_row_of T) hr (by decide) (by rfl) (pa_cons (pv 6) (pa_cons (pe_non) (pa_nil))))) (pa_nil))) (pe_one (pe_callB (cr_all rfl) (by rfl) T.n_all (by decide +kernel) (pa_cons (pe_lc (own := [("row", 7)]) (g := gName 7) (tt := tYes) rfl sc_has_form.nd (FW.pi_either (pi_list (pv 5)) (pi_tup (pv 5))) (blkOk_by (own := [("row", 7)]) (N := N_has_form) (sc := defScope st_has_form) (by decide +kernel)) (fun _ _ _ _ _ => pg_name (i := 7) sc_has_form.nd rfl (Or.inl rfl)) (fun _ _ _ _ _ => pts_nil) (fun _ _ _ _ _ => FW.pe_f (ok_is_row_of T) hr (by decide) (by rfl) (pa_cons (pv 7) (pa_cons (pe_op FW.opAdd (pe_op FW.opSub (pv 3) (pv 2)) (pe_int)) (pa_nil))))) (pa_nil))))))))))
theorem ok_has_form (T : Tx K mg base) : Fn PP w K mg base CX0 3 "has_form" (sp_has_form K) [] :=
  Fn.mk0 T.d_has_form T.g_has_form sc_has_form (fun _ _ _ _ _ _ us hl => match us, hl with | [_], _ => rfl) (by walk_at "ln") (fun cdv A outer s H vs Q E hr h => ⟨rd_has_form K, dv_has_form T hr, pure_has_form K vs H Q E h⟩)
theorem dv_l_parts {f : Addr} {cdv : Value} {A : Around} {outer : List Env} {s : Shared} {H : Hp} {E : XK} (T : Tx K mg base) (hr : Room 2 (A.deeper (envOfC "_law_parts" (defScope st_l_parts) s.heap.objs.size f cdv))) : PSs (cxOf CX0 PP w K mg base N_l_parts "_law_parts" (defScope st_l_parts) f cdv A outer s H E).nox (defBody st_l_parts) (rd_l_parts K) := by
  exact pss_cons (ps_set (i := 1) sc_l_parts.nd rfl (Or.inl rfl) (pe_op FW.opAdd (pe_int) (FW.pe_f (ok_l_draw T) hr (by decide) (by rfl) (pa_cons (pv 0) (pa_cons (pe_int) (pa_nil)))))) (pss_cons (ps_asg (FW.pe_f (ok_l_pick T) hr (by decide) (by rfl) (pa_cons (pv 0) (pa_cons (FW.pe_f (ok_l_weights T) hr (by decide) (by rfl) (pa_cons (pv 1) (pa_nil))) (pa_nil)))) (pg_tup rfl (pgs_cons (pg_name (i := 2) sc_l_parts.nd rfl (Or.inl rfl)) (pgs_cons (pg_name (i := 3) sc_l_parts.nd rfl (Or.inl rfl)) (pgs_nil))))) (pss_cons (ps_set (i := 4) sc_l_parts.nd rfl (Or.inl rfl) (FW.pe_f (ok_l_pick T) hr (by decide) (by rfl) (pa_cons (pv 0) (pa_cons (pe_lst (pa_cons (pe_int) (pa_cons (pe_int) (pa_cons (pe_int) (pa_cons (pe_op FW.opSub (pv 3) (pe_int)) (pa_cons (pv 3) (pa_cons (pe_un un_neg (pe_int)) (pa_cons (pe_op FW.opSub (FW.pe_f (ok_l_draw T) hr (by decide) (by rfl) (pa_cons (pv 0) (pa_cons (pe_op FW.opAdd (pe_op FW.opAdd (pe_op FW.opMul (pe_int) (pv 2)) (pv 3)) (pe_int)) (pa_nil)))) (pv 2)) (pa_nil))))))))) (pa_nil))))) (pss_cons (ps_set (i := 5) sc_l_parts.nd rfl (Or.inl rfl) (FW.pe_f (ok_l_pick T) hr (by decide) (by rfl) (pa_cons (pv 0) (pa_cons (pe_lst (pa_cons (pe_str) (pa_cons (pe_str) (pa_cons (pe_str) (pa_cons (pe_str) (pa_cons (pe_str) (pa_cons (pe_str) (pa_cons (pe_str) (pa_nil))))))))) (pa_nil))))) (pss_cons (ps_set (i := 6) sc_l_parts.nd rfl (Or.inl rfl) (FW.pe_f (ok_l_pick T) hr (by decide) (by rfl) (pa_cons (pv 0) (pa_cons (pe_lst (pa_cons (pe_str) (pa_cons (pe_str) (pa_cons (pe_str) (pa_cons (pe_str) (pa_nil)))))) (pa_nil))))) (pss_cons (ps_set (i := 7) sc_l_parts.nd rfl (Or.inl rfl) (FW.pe_f (ok_l_pick T) hr (by decide) (by rfl) (pa_cons (pv 0) (pa_cons (pe_lst (pa_cons (pe_str) (pa_cons (pe_str) (pa_cons (pe_str) (pa_cons (pe_str) (pa_cons (pe_str) (pa_nil))))))) (pa_nil))))) (pss_one (ps_ret (pe_tup (pa_cons (pv 1) (pa_cons (pv 2) (pa_cons (pv 3) (pa_cons (pv 4) (pa_cons (pv 5) (pa_cons (pe_ifExp (pt_cmpR op_in_seq (pv 5) (pe_tup (pa_cons (pe_str) (pa_cons (pe_str) (pa_nil)))) (by rfl)) (pe_str) (pv 6)) (pa_cons (pv 7) (pa_nil))))))))))))))))
theorem ok_l_parts (T : Tx K mg base) : Fn PP w K mg base CX0 3 "_law_parts" (sp_l_parts K) [] :=
  Fn.mk0 T.d_l_parts T.g__law_parts sc_l_parts (fun _ _ _ _ _ _ us hl => match us, hl with | [_], _ => rfl) (by walk_at "ln") (fun cdv A outer s H vs Q E hr h => ⟨rd_l_parts K, dv_l_parts T hr, pure_l_parts K vs H Q E h⟩)
theorem dv_changes {f : Addr} {cdv : Value} {A : Around} {outer : List Env} {s : Shared} {H : Hp} {E : XK} {R : Sp} {m j : Nat} (T : Tx K mg base) (ih : Fn PP w K mg base CX0 m "changes" R []) (hm : m ≤ j) (hj : 3 ≤ j) (hr : Room j (A.deeper (envOfC "changes" (defScope st_changes) s.heap.objs.size f cdv))) : PSs (cxOf CX0 PP w K mg base N_changes "changes" (defScope st_changes) f cdv A outer s H E).nox (defBody st_changes) (rd_changes K R) := by
  exact pss_cons (ps_if (pt_cmpR op_lt (pe_callB call_len_seq (by rfl) T.n_len (by decide +kernel) (pa_cons (pv 0) (pa_nil))) (pe_int) (nomark _)) (pss_one (ps_ret (pe_lst (pa_nil)))) (pss_nil)) (pss_cons (ps_set (i := 2) sc_changes.nd rfl (Or.inr rfl) (pe_op FW.opAdd (pe_callB (call_max2 rfl) (by rfl) T.n_max (by decide +kernel) (pa_cons (pv 1) (pa_cons (FW.pe_f (ok_settled T) hr (by omega) (by rfl) (pa_cons (pv 0) (pa_nil))) (pa_nil)))) (pe_int))) (pss_cons (ps_set (i := 3) sc_changes.nd rfl (Or.inl rfl) (FW.pe_f ih hr hm (by rfl) (pa_cons (FW.pe_f (ok_poly_less T) hr (by omega) (by rfl) (pa_cons (FW.pe_f (ok_poly_shift T) hr (by omega) (by rfl) (pa_cons (pv 0) (pa_cons (pe_int) (pa_nil)))) (pa_cons (pv 0) (pa_nil)))) (pa_cons (pv 1) (pa_nil))))) (pss_cons (ps_set (i := 4) sc_changes.nd rfl (Or.inl rfl) (pe_op op_cat (pe_op op_cat (pe_lst (pa_cons (pv 1) (pa_nil))) (pe_lc (own := [("r", 5)]) (g := gName 5) (tt := tTest (tOp FW.rLt (tVar 5) (tVar 2))) rfl sc_changes.nd (pi_list (pv 3)) (blkOk_by (own := [("r", 5)]) (N := N_changes) (sc := defScope st_changes) (by decide +kernel)) (fun _ _ _ _ _ => pg_name (i := 5) sc_changes.nd rfl (Or.inl rfl)) (fun _ _ _ _ _ => pts_one (pt_cmpR op_lt (pv 5) (pv 2) (nomark _))) (fun _ _ _ _ _ => pv 5))) (pe_lst (pa_cons (pv 2) (pa_nil))))) (pss_cons (ps_set (i := 6) sc_changes.nd rfl (Or.inl rfl) (pe_lst (pa_nil))) (pss_cons (ps_for PassesOwn.never rfl (pi_zip (by rfl) T.n_zip (pa_cons (pv 4) (pa_cons (pe_slice sl_list (pv 4) (po_some (pe_int)) (po_none)) (pa_nil)))) (pg_tup rfl (pgs_cons (pg_name (i := 7) sc_changes.nd rfl (Or.inl rfl)) (pgs_cons (pg_name (i := 8) sc_changes.nd rfl (Or.inl rfl)) (pgs_nil)))) (pss_one (ps_while PassesOwn.never (pt_cmpR op_ne (FW.pe_f (ok_sign T) hr (by omega) (by rfl) (pa_cons (FW.pe_f (ok_poly_value T) hr (by omega) (by rfl) (pa_cons (pv 0) (pa_cons (pv 7) (pa_nil)))) (pa_nil))) (FW.pe_f (ok_sign T) hr (by omega) (by rfl) (pa_cons (FW.pe_f (ok_poly_value T) hr (by omega) (by rfl) (pa_cons (pv 0) (pa_cons (pv 8) (pa_nil)))) (pa_nil))) (nomark _)) (pss_cons (ps_set (i := 7) sc_changes.nd rfl (Or.inl rfl) (FW.pe_f (ok_next_change T) hr (by omega) (by rfl) (pa_cons (pv 0) (pa_cons (pv 7) (pa_cons (pv 8) (pa_nil)))))) (pss_one (ps_expr (pe_bm PySem.F.plainAttrs_list PySem.F.slot_list_append PySem.F.type_list_append mt_append (pv 6) (pa_cons (pv 7) (pa_nil))))))))) (pss_one (ps_ret (pv 6))))))))
theorem ok_changes_no (T : Tx K mg base) : Fn PP w K mg base CX0 1 "changes" (fun _ _ _ _ => False) [] :=
  Fn.mk0 T.d_changes T.g_changes sc_changes (fun _ _ _ _ _ _ us hl => match us, hl with | [_, _], _ => rfl) (fun _ _ _ _ h => h.elim) (fun _ _ _ _ _ _ _ _ _ h => h.elim)
theorem ok_changes (T : Tx K mg base) : ∀ n : Nat, Fn PP w K mg base CX0 (4 + n) "changes" (sp_changes K n) []
  | 0 => Fn.mk0 T.d_changes T.g_changes sc_changes (fun _ _ _ _ _ _ us hl => match us, hl with | [_, _], _ => rfl) (by walk_at "ln") (fun cdv A outer s H vs Q E hr h => ⟨rd_changes K _, dv_changes T (ok_changes_no T) (by omega) (by omega) hr, pure_changes0 K vs H Q E h⟩)
  | n + 1 => Fn.mk0 (k := 4 + n) T.d_changes T.g_changes sc_changes (fun _ _ _ _ _ _ us hl => match us, hl with | [_, _], _ => rfl) (by walk_at "ln") (fun cdv A outer s H vs Q E hr h => ⟨rd_changes K _, dv_changes T (ok_changes T n) (by omega) (by omega) hr, pure_changesS K n vs H Q E h⟩)
theorem dv_Average_init {f : Addr} {cdv : Value} {A : Around} {outer : List Env} {s : Shared} {H : Hp} {E : XK} (T : Tx K mg base) (hr : Room 3 (A.deeper (envOfC "Average.__init__" (defScope st_Average_init) s.heap.objs.size f cdv))) : PSs (cxOf CX0 PP w K mg base N_Average_init "Average.__init__" (defScope st_Average_init) f cdv A outer s H E).nox (defBody st_Average_init) (rd_Average_init K) := by
  exact pss_cons (ps_set (i := 8) sc_Average_init.nd rfl (Or.inl rfl) (FW.pe_f (ok_wrong_part T) hr (by decide) (by rfl) (pa_cons (pv 1) (pa_cons (pv 2) (pa_cons (pv 3) (pa_cons (pv 4) (pa_cons (pv 5) (pa_cons (pv 6) (pa_cons (pv 7) (pa_nil)))))))))) (pss_cons (ps_if (pt_cmpR op_notN (pv 8) (pe_non) (nomark _)) (pss_one (ps_never)) (pss_nil)) (pss_cons (ps_fld (pv 0) (pv 1) rfl) (pss_cons (ps_fld (pv 0) (pv 2) rfl) (pss_cons (ps_fld (pv 0) (pv 3) rfl) (pss_cons (ps_fld (pv 0) (pv 4) rfl) (pss_cons (ps_fld (pv 0) (pv 5) rfl) (pss_cons (ps_fld (pv 0) (pv 6) rfl) (pss_one (ps_fld (pv 0) (pv 7) rfl)))))))))
theorem ok_Average_init (T : Tx K mg base) : Mkr PP w K mg base CX0 4 "Average" (He.ga K "Average") (sp_Average_init K) [] :=
  Mkr.mkD 8 2 T.k_Average T.g_Average T.d_Average_init sc_Average_init (by simp) rfl (fun _ _ _ _ _ _ _ us its hl hi => match us, its, hl, hi with | [_, _, _, _, _, _, _, _], [_, _], _, _ => ⟨_, rfl, rfl⟩) (by walk_at "ln") (fun cdv A outer s H vs Q E hr h => ⟨rd_Average_init K, dv_Average_init T hr, pure_Average_init K T.av vs H Q E h⟩)
theorem dv_end_poly {f : Addr} {cdv : Value} {A : Around} {outer : List Env} {s : Shared} {H : Hp} {E : XK} (T : Tx K mg base) (hr : Room 3 (A.deeper (envOfC "end_poly" (defScope st_end_poly) s.heap.objs.size f cdv))) : PSs (cxOf CX0 PP w K mg base N_end_poly "end_poly" (defScope st_end_poly) f cdv A outer s H E).nox (defBody st_end_poly) (rd_end_poly K) := by
  exact pss_one (ps_ret (FW.pe_f (ok_poly_less T) hr (by decide) (by rfl) (pa_cons (FW.pe_f (ok_poly_power T) hr (by decide) (by rfl) (pa_cons (pe_tup (pa_cons (pe_int) (pa_cons (pe_int) (pa_nil)))) (pa_cons (pv 0) (pa_nil)))) (pa_cons (FW.pe_f (ok_poly_power T) hr (by decide) (by rfl) (pa_cons (pe_tup (pa_cons (pe_int) (pa_cons (pe_int) (pa_nil)))) (pa_cons (pv 0) (pa_nil)))) (pa_nil)))))
theorem ok_end_poly (T : Tx K mg base) : Fn PP w K mg base CX0 4 "end_poly" (sp_end_poly K) [] :=
  Fn.mk0 T.d_end_poly T.g_end_poly sc_end_poly (fun _ _ _ _ _ _ us hl => match us, hl with | [_], _ => rfl) (by walk_at "ln") (fun cdv A outer s H vs Q E hr h => ⟨rd_end_poly K, dv_end_poly T hr, pure_end_poly K vs H Q E h⟩)
theorem dv_rest_poly {f : Addr} {cdv : Value} {A : Around} {outer : List Env} {s : Shared} {H : Hp} {E : XK} (T : Tx K mg base) (hr : Room 3 (A.deeper (envOfC "rest_poly" (defScope st_rest_poly) s.heap.objs.size f cdv))) : PSs (cxOf CX0 PP w K mg base N_rest_poly "rest_poly" (defScope st_rest_poly) f cdv A outer s H E).nox (defBody st_rest_poly) (rd_rest_poly K) := by
  exact pss_one (ps_ret (FW.pe_f (ok_poly_less T) hr (by decide) (by rfl) (pa_cons (FW.pe_f (ok_poly_product T) hr (by decide) (by rfl) (pa_cons (FW.pe_f (ok_poly_power T) hr (by decide) (by rfl) (pa_cons (pe_tup (pa_cons (pv 1) (pa_cons (pe_int) (pa_nil)))) (pa_cons (pe_op FW.opSub (pv 0) (pe_int)) (pa_nil)))) (pa_cons (pe_tup (pa_cons (pe_op FW.opSub (pv 2) (pe_op FW.opMul (pe_op FW.opSub (pv 0) (pe_int)) (pv 1))) (pa_cons (pe_int) (pa_nil)))) (pa_nil)))) (pa_cons (FW.pe_f (ok_poly_power T) hr (by decide) (by rfl) (pa_cons (pe_tup (pa_cons (pe_int) (pa_cons (pe_int) (pa_nil)))) (pa_cons (pv 0) (pa_nil)))) (pa_nil)))))
theorem ok_rest_poly (T : Tx K mg base) : Fn PP w K mg base CX0 4 "rest_poly" (sp_rest_poly K) [] :=
  Fn.mk0 T.d_rest_poly T.g_rest_poly sc_rest_poly (fun _ _ _ _ _ _ us hl => match us, hl with | [_, _, _], _ => rfl) (by walk_at "ln") (fun cdv A outer s H vs Q E hr h => ⟨rd_rest_poly K, dv_rest_poly T hr, pure_rest_poly K vs H Q E h⟩)
theorem dv_fall_poly {f : Addr} {cdv : Value} {A : Around} {outer : List Env} {s : Shared} {H : Hp} {E : XK} (T : Tx K mg base) (hr : Room 3 (A.deeper (envOfC "fall_poly" (defScope st_fall_poly) s.heap.objs.size f cdv))) : PSs (cxOf CX0 PP w K mg base N_fall_poly "fall_poly" (defScope st_fall_poly) f cdv A outer s H E).nox (defBody st_fall_poly) (rd_fall_poly K) := by
  exact pss_cons (ps_set (i := 2) sc_fall_poly.nd rfl (Or.inl rfl) (pe_op FW.opDiv (pe_op FW.opAdd (pe_fld (pv 0) rfl) (pe_op FW.opMul (FW.pe_o0 (ok_Average_nearness T) hr (by decide) (pv 0)) (pe_op FW.opAdd (pe_fld (pv 0) rfl) (pe_fld (pv 0) rfl)))) (pe_fld (pv 0) rfl))) (pss_cons (ps_set (i := 3) sc_fall_poly.nd rfl (Or.inl rfl) (FW.pe_f (ok_poly_product T) hr (by decide) (by rfl) (pa_cons (pe_tup (pa_cons (pe_op FW.opSub (pv 1) (pv 2)) (pa_cons (pe_int) (pa_nil)))) (pa_cons (FW.pe_f (ok_poly_power T) hr (by decide) (by rfl) (pa_cons (pe_tup (pa_cons (pv 1) (pa_cons (pe_int) (pa_nil)))) (pa_cons (pe_op FW.opSub (pe_fld (pv 0) rfl) (pe_int)) (pa_nil)))) (pa_nil))))) (pss_one (ps_ret (FW.pe_f (ok_poly_less T) hr (by decide) (by rfl) (pa_cons (pv 3) (pa_cons (FW.pe_f (ok_poly_power T) hr (by decide) (by rfl) (pa_cons (pe_tup (pa_cons (pe_int) (pa_cons (pe_int) (pa_nil)))) (pa_cons (pe_fld (pv 0) rfl) (pa_nil)))) (pa_nil)))))))
theorem ok_fall_poly (T : Tx K mg base) : Fn PP w K mg base CX0 4 "fall_poly" (sp_fall_poly K) [] :=
  Fn.mk0 T.d_fall_poly T.g_fall_poly sc_fall_poly (fun _ _ _ _ _ _ us hl => match us, hl with | [_, _], _ => rfl) (by walk_at "ln") (fun cdv A outer s H vs Q E hr h => ⟨rd_fall_poly K, dv_fall_poly T hr, pure_fall_poly K T.av vs H Q E h⟩)
theorem dv_above {f : Addr} {cdv : Value} {A : Around} {outer : List Env} {s : Shared} {H : Hp} {E : XK} (T : Tx K mg base) (hr : Room 3 (A.deeper (envOfC "above" (defScope st_above) s.heap.objs.size f cdv))) : PSs (cxOf CX0 PP w K mg base N_above "above" (defScope st_above) f cdv A outer s H E).nox (defBody st_above) (rd_above K) := by
  exact pss_one (ps_ret (FW.pe_f (ok_poly_sum T) hr (by decide) (by rfl) (pa_cons (FW.pe_f (ok_poly_less T) hr (by decide) (by rfl) (pa_cons (pv 0) (pa_cons (pv 1) (pa_nil)))) (pa_cons (pe_tup (pa_cons (pe_int) (pa_nil))) (pa_nil)))))
theorem ok_above (T : Tx K mg base) : Fn PP w K mg base CX0 4 "above" (sp_above K) [] :=
  Fn.mk0 T.d_above T.g_above sc_above (fun _ _ _ _ _ _ us hl => match us, hl with | [_, _], _ => rfl) (by walk_at "ln") (fun cdv A outer s H vs Q E hr h => ⟨rd_above K, dv_above T hr, pure_above K vs H Q E h⟩)
theorem dv_l_loop {f : Addr} {cdv : Value} {A : Around} {outer : List Env} {s : Shared} {H : Hp} {E : XK} (T : Tx K mg base) (hr : Room 5 (A.deeper (envOfC "_law_loop" (defScope st_l_loop) s.heap.objs.size f cdv))) : PSs (cxOf CX0 PP w K mg base N_l_loop "_law_loop" (defScope st_l_loop) f cdv A outer s H E).nox (defBody st_l_loop) (rd_l_loop K) := by
  exact pss_one (ps_ret (FW.pe_m (ok_Average_init T) hr (by decide) (by rfl) (pa_cons (pe_ix ix_tup (pv 0) (pe_int) (fun _ _ => rfl)) (pa_cons (pe_ix ix_tup (pv 0) (pe_int) (fun _ _ => rfl)) (pa_cons (pe_ix ix_tup (pv 0) (pe_int) (fun _ _ => rfl)) (pa_cons (pe_ix ix_tup (pv 0) (pe_int) (fun _ _ => rfl)) (pa_cons (pe_ix ix_tup (pv 0) (pe_int) (fun _ _ => rfl)) (pa_cons (pe_ix ix_tup (pv 0) (pe_int) (fun _ _ => rfl)) (pa_cons (pe_ix ix_tup (pv 0) (pe_int) (fun _ _ => rfl)) (pa_nil))))))))))
theorem ok_l_loop (T : Tx K mg base) : Fn PP w K mg base CX0 6 "_law_loop" (sp_l_loop K) [] :=
  Fn.mk0 T.d_l_loop T.g__law_loop sc_l_loop (fun _ _ _ _ _ _ us hl => match us, hl with | [_], _ => rfl) (by walk_at "ln") (fun cdv A outer s H vs Q E hr h => ⟨rd_l_loop K, dv_l_loop T hr, pure_l_loop K vs H Q E h⟩)
theorem dv_l_made {A : Around} {outer : List Env} {s : Shared} {H : Hp} {E : XK} (T : Tx K mg base) (hr : Room 7 (A.deeper (envOfC "_law_made" (defScope st_l_made) s.heap.objs.size (He.fAd K ("_law_made", none)) (.ref (He.codeOf K ("_law_made", none)))))) : PSs (cxOf CX0 PP w K mg base N_l_made "_law_made" (defScope st_l_made) (He.fAd K ("_law_made", none)) (.ref (He.codeOf K ("_law_made", none))) A outer s H E).nox (defBody st_l_made) (rd_l_made K) := by
  exact pss_cons (ps_set (i := 4) sc_l_made.nd rfl (Or.inr rfl) (pe_ix ix_tup (pv 0) (pe_int) (fun _ _ => rfl))) (pss_cons (ps_setLc (i := 5) (own := [("_law_i", 6)]) (g := gName 6) (tt := tYes) rfl sc_l_made.nd rfl rfl (sw_true rfl rfl rfl (by decide +kernel)) (pi_range2 (by rfl) T.n_range (pa_cons (pv 1) (pa_cons (pe_op FW.opAdd (pv 2) (pe_int)) (pa_nil)))) (blkOk_by (own := [("_law_i", 6)]) (N := N_l_made) (sc := defScope st_l_made) (by decide +kernel)) (fun _ _ _ _ _ => pg_name (i := 6) sc_l_made.nd rfl (Or.inl rfl)) (fun _ _ _ _ _ => pts_nil) (fun _ _ _ _ _ => FW.pe_f (ok_l_turning T) hr (by decide) (by rfl) (pa_cons (pv 0) (pa_cons (pv 6) (pa_nil))))) (pss_cons (ps_set (i := 7) sc_l_made.nd rfl (Or.inr rfl) (pe_lst (pa_nil))) (pss_cons (ps_for PassesOwn.never rfl (pi_list (pv 5)) (pg_name (i := 8) sc_l_made.nd rfl (Or.inl rfl)) (pss_one (ps_expr (pe_bm PySem.F.plainAttrs_list PySem.F.slot_list_extend PySem.F.type_list_extend mt_extend (pv 7) (pa_cons (pe_lc (own := [("_law_cut", 9)]) (g := gName 9) (tt := tTest (tOp (rNotInD K) (tVar 9) (tVar 7))) rfl sc_l_made.nd (pi_list (pv 8)) (blkOk_by (own := [("_law_cut", 9)]) (N := N_l_made) (sc := defScope st_l_made) (by decide +kernel)) (fun _ _ _ _ _ => pg_name (i := 9) sc_l_made.nd rfl (Or.inl rfl)) (fun _ _ _ _ _ => pts_one (pt_cmpR (op_notInD (FW.u65 hr)) (pv 9) (pv 7) (by rfl))) (fun _ _ _ _ _ => pv 9)) (pa_nil)))))) (pss_cons (ps_set (i := 7) sc_l_made.nd rfl (Or.inr rfl) (FWK.pe_sortKeyM (i0 := 9) (x := "_law_cut") (k := 1) rfl (by rfl) T.n_sorted (pv 7) T.tb_l_made rfl (by first | exact List.mem_cons_self | exact List.mem_cons_of_mem _ List.mem_cons_self | exact List.mem_cons_of_mem _ (List.mem_cons_of_mem _ List.mem_cons_self)) (hu_l_made T) hr (by decide) (FWP.lamP_by (by kernel_rfl)) (FWK.only_at (N := N_l_made) (by decide +kernel)) (fun σ v H Q h => by simpa only [tCall, tCons, tNil, tFld, tVar, tOp, tC, tRevL, tCB, tLst, FWK.mask_at σ (some v) (show (14 : Nat) ≠ 9 by decide), FWK.mask_at σ (some v) (show (4 : Nat) ≠ 9 by decide)] using h) rfl (fun _ _ _ _ _ _ => rfl) (fun A outer s H f c hr => pe_revL (pe_op op_cat (pe_callTy call_list_of (by rfl) T.n_list (by decide +kernel) (pa_cons (pv 14) (pa_nil))) (pe_op op_rep (pe_lst (pa_cons (pe_int) (pa_nil))) (pe_op FW.opSub (pv 4) (pe_callB call_len_seq (by rfl) T.n_len (by decide +kernel) (pa_cons (pv 14) (pa_nil))))))))) (pss_cons (ps_set (i := 10) sc_l_made.nd rfl (Or.inl rfl) (pe_lst (pa_nil))) (pss_cons (ps_for PassesOwn.never rfl (pi_range1 (by rfl) T.n_range (pa_cons (pe_op FW.opAdd (pe_callB call_len_seq (by rfl) T.n_len (by decide +kernel) (pa_cons (pv 7) (pa_nil))) (pe_int)) (pa_nil))) (pg_name (i := 11) sc_l_made.nd rfl (Or.inr rfl)) (pss_cons (ps_set (i := 8) sc_l_made.nd rfl (Or.inl rfl) (pe_lst (pa_nil))) (pss_cons (ps_for PassesOwn.never rfl (FW.pi_enumR (by rfl) T.n_enumerate (prg_2 (by rfl) T.n_range (pv 1) (pe_op FW.opAdd (pv 2) (pe_int)))) (pg_tup rfl (pgs_cons (pg_name (i := 12) sc_l_made.nd rfl (Or.inl rfl)) (pgs_cons (pg_name (i := 6) sc_l_made.nd rfl (Or.inl rfl)) (pgs_nil)))) (pss_cons (ps_setLc (i := 13) (own := [("_law_cut", 9)]) (g := gName 9) (tt := tTest (tOp (rInD K) (tVar 9) (tSl (rSlL K) (tVar 7) (tNoPart) (tPart (tVar 11))))) rfl sc_l_made.nd rfl rfl (sw_true rfl rfl rfl (by decide +kernel)) (pi_list (pe_ix ix_list (pv 5) (pv 12) (fun _ _ => rfl))) (blkOk_by (own := [("_law_cut", 9)]) (N := N_l_made) (sc := defScope st_l_made) (by decide +kernel)) (fun _ _ _ _ _ => pg_name (i := 9) sc_l_made.nd rfl (Or.inl rfl)) (fun _ _ _ _ _ => pts_one (pt_cmpR (op_inD (FW.u65 hr)) (pv 9) (pe_slice sl_list (pv 7) (po_none) (po_some (pv 11))) (by rfl))) (fun _ _ _ _ _ => pv 9)) (pss_one (ps_expr (pe_bm PySem.F.plainAttrs_list PySem.F.slot_list_append PySem.F.type_list_append mt_append (pv 8) (pa_cons (pe_op FW.opAdd (FW.pe_f (ok_l_least T) hr (by decide) (by rfl) (pa_cons (pv 0) (pa_cons (pv 6) (pa_nil)))) (pe_callB call_len_seq (by rfl) T.n_len (by decide +kernel) (pa_cons (pv 13) (pa_nil)))) (pa_nil))))))) (pss_one (ps_expr (pe_bm PySem.F.plainAttrs_list PySem.F.slot_list_append PySem.F.type_list_append mt_append (pv 10) (pa_cons (pe_callTy call_tuple_of (by rfl) T.n_tuple (by decide +kernel) (pa_cons (pv 8) (pa_nil))) (pa_nil)))))))) (pss_one (ps_ret (pe_tup (pa_cons (pv 3) (pa_cons (pv 1) (pa_cons (pv 2) (pa_cons (pe_callTy call_tuple_of (by rfl) T.n_tuple (by decide +kernel) (pa_cons (pv 7) (pa_nil))) (pa_cons (pe_callTy call_tuple_of (by rfl) T.n_tuple (by decide +kernel) (pa_cons (pv 10) (pa_nil))) (pa_nil)))))))))))))))
theorem ok_l_made (T : Tx K mg base) : Fn PP w K mg base CX0 8 "_law_made" (sp_l_made K) [] :=
  Fn.mkC T.d_l_made T.g__law_made sc_l_made (fun _ _ _ _ _ _ us hl => match us, hl with | [_, _, _, _], _ => rfl) (by walk_at "ln") (fun A outer s H vs Q E hr h => ⟨rd_l_made K, dv_l_made T hr, pure_l_made K vs H Q E h⟩)
theorem dv_sign_from {f : Addr} {cdv : Value} {A : Around} {outer : List Env} {s : Shared} {H : Hp} {E : XK} (T : Tx K mg base) (hr : Room 11 (A.deeper (envOfC "sign_from" (defScope st_sign_from) s.heap.objs.size f cdv))) : PSs (cxOf CX0 PP w K mg base N_sign_from "sign_from" (defScope st_sign_from) f cdv A outer s H E).nox (defBody st_sign_from) (rd_sign_from K) := by
  exact pss_cons (ps_set (i := 0) sc_sign_from.nd rfl (Or.inl rfl) (FW.pe_f (ok_trimmed T) hr (by decide) (by rfl) (pa_cons (pv 0) (pa_nil)))) (pss_cons (ps_if (pt_cmpR (op_eqD hr.units) (pv 0) (pe_tup (pa_nil)) (nomark _)) (pss_one (ps_ret (pe_int))) (pss_nil)) (pss_cons (ps_if (pt_cmpR (op_neD hr.units) (FW.pe_f (ok_changes T 7) hr (by decide) (by rfl) (pa_cons (pv 0) (pa_cons (pv 1) (pa_nil)))) (pe_lst (pa_nil)) (nomark _)) (pss_one (ps_ret (pe_non))) (pss_nil)) (pss_one (ps_ret (FW.pe_f (ok_sign T) hr (by decide) (by rfl) (pa_cons (FW.pe_f (ok_poly_value T) hr (by decide) (by rfl) (pa_cons (pv 0) (pa_cons (pv 1) (pa_nil)))) (pa_nil)))))))
theorem ok_sign_from (T : Tx K mg base) : Fn PP w K mg base CX0 12 "sign_from" (sp_sign_from K) [] :=
  Fn.mk0 T.d_sign_from T.g_sign_from sc_sign_from (fun _ _ _ _ _ _ us hl => match us, hl with | [_, _], _ => rfl) (by walk_at "ln") (fun cdv A outer s H vs Q E hr h => ⟨rd_sign_from K, dv_sign_from T hr, pure_sign_from K vs H Q E h⟩)
theorem dv_is_led {f : Addr} {cdv : Value} {A : Around} {outer : List Env} {s : Shared} {H : Hp} {E : XK} (T : Tx K mg base) (hr : Room 12 (A.deeper (envOfC "is_led" (defScope st_is_led) s.heap.objs.size f cdv))) : PSs (cxOf CX0 PP w K mg base N_is_led "is_led" (defScope st_is_led) f cdv A outer s H E).nox (defBody st_is_led) (rd_is_led K) := by
  exact pss_cons (ps_par (by rfl) sc_is_led.nd rfl rfl (by decide) rfl rfl (pa_cons (FW.pe_f (ok_needed T) hr (by decide) (by rfl) (pa_cons (pv 0) (pa_cons (pv 1) (pa_cons (pv 2) (pa_nil))))) (pa_cons (FW.pe_f (ok_needed T) hr (by decide) (by rfl) (pa_cons (pv 0) (pa_cons (pv 1) (pa_cons (pe_op FW.opAdd (pv 2) (pe_int)) (pa_nil))))) (pa_nil))) (by rfl)) (pss_cons (ps_if (PW.pt (pw_and (pt_cmpR op_gt (pv 6) (pe_int) (nomark _)) (pw_and1 (pt_cmpR op_ne (FW.pe_f (ok_sign_from T) hr (by decide) (by rfl) (pa_cons (FW.pe_f (ok_above T) hr (by decide) (by rfl) (pa_cons (pv 4) (pa_cons (FW.pe_f (ok_rest_poly T) hr (by decide) (by rfl) (pa_cons (pe_fld (pv 0) rfl) (pa_cons (pv 1) (pa_cons (pv 6) (pa_nil))))) (pa_nil)))) (pa_cons (pv 3) (pa_nil)))) (pe_int) (nomark _))))) (pss_one (ps_ret (pe_bl))) (pss_nil)) (pss_one (ps_ret (pe_and (pe_cmpR op_gt (pv 7) (pe_int) (nomark _)) (pe_one (pe_cmpR op_eq (FW.pe_f (ok_sign_from T) hr (by decide) (by rfl) (pa_cons (FW.pe_f (ok_above T) hr (by decide) (by rfl) (pa_cons (FW.pe_f (ok_rest_poly T) hr (by decide) (by rfl) (pa_cons (pe_fld (pv 0) rfl) (pa_cons (pv 1) (pa_cons (pv 7) (pa_nil))))) (pa_cons (pv 5) (pa_nil)))) (pa_cons (pv 3) (pa_nil)))) (pe_int) (nomark _)))))))
theorem ok_is_led (T : Tx K mg base) : Fn PP w K mg base CX0 13 "is_led" (sp_is_led K) [] :=
  Fn.mk0 T.d_is_led T.g_is_led sc_is_led (fun _ _ _ _ _ _ us hl => match us, hl with | [_, _, _, _, _, _], _ => rfl) (by walk_at "ln") (fun cdv A outer s H vs Q E hr h => ⟨rd_is_led K, dv_is_led T hr, pure_is_led K T.av vs H Q E h⟩)
theorem dv_is_table {f : Addr} {cdv : Value} {A : Around} {outer : List Env} {s : Shared} {H : Hp} {E : XK} (T : Tx K mg base) (hr : Room 13 (A.deeper (envOfC "is_table" (defScope st_is_table) s.heap.objs.size f cdv))) : PSs (cxOf CX0 PP w K mg base N_is_table "is_table" (defScope st_is_table) f cdv A outer s H E).nox (defBody st_is_table) (rd_is_table K) := by
  exact pss_cons (ps_if (pt_not (pt_val (FW.pe_f (ok_has_form T) hr (by decide) (by rfl) (pa_cons (pv 1) (pa_nil))))) (pss_one (ps_ret (pe_bl))) (pss_nil)) (pss_cons (ps_asg (pv 1) (FW.pg_either (pg_tup rfl (pgs_cons (pg_name (i := 2) sc_is_table.nd rfl (Or.inl rfl)) (pgs_cons (pg_name (i := 3) sc_is_table.nd rfl (Or.inl rfl)) (pgs_cons (pg_name (i := 4) sc_is_table.nd rfl (Or.inl rfl)) (pgs_cons (pg_name (i := 5) sc_is_table.nd rfl (Or.inl rfl)) (pgs_cons (pg_name (i := 6) sc_is_table.nd rfl (Or.inl rfl)) (pgs_nil))))))) (pg_lst rfl (pgs_cons (pg_name (i := 2) sc_is_table.nd rfl (Or.inl rfl)) (pgs_cons (pg_name (i := 3) sc_is_table.nd rfl (Or.inl rfl)) (pgs_cons (pg_name (i := 4) sc_is_table.nd rfl (Or.inl rfl)) (pgs_cons (pg_name (i := 5) sc_is_table.nd rfl (Or.inl rfl)) (pgs_cons (pg_name (i := 6) sc_is_table.nd rfl (Or.inl rfl)) (pgs_nil))))))))) (pss_cons (ps_set (i := 7) sc_is_table.nd rfl (Or.inl rfl) (pe_op op_cat (pe_op op_cat (pe_lst (pa_cons (pe_tup (pa_nil)) (pa_nil))) (pe_lc (own := [("cut", 8)]) (g := gName 8) (tt := tYes) rfl sc_is_table.nd (FW.pi_either (pi_list (pv 5)) (pi_tup (pv 5))) (blkOk_by (own := [("cut", 8)]) (N := N_is_table) (sc := defScope st_is_table) (by decide +kernel)) (fun _ _ _ _ _ => pg_name (i := 8) sc_is_table.nd rfl (Or.inl rfl)) (fun _ _ _ _ _ => pts_nil) (fun _ _ _ _ _ => FW.pe_f (ok_trimmed T) hr (by decide) (by rfl) (pa_cons (pv 8) (pa_nil))))) (pe_lst (pa_cons (FW.pe_f (ok_end_poly T) hr (by decide) (by rfl) (pa_cons (pe_fld (pv 0) rfl) (pa_nil))) (pa_nil))))) (pss_cons (ps_for PassesOwn.never rfl (pi_range1 (by rfl) T.n_range (pa_cons (pe_op FW.opSub (pe_callB call_len_seq (by rfl) T.n_len (by decide +kernel) (pa_cons (pv 7) (pa_nil))) (pe_int)) (pa_nil))) (pg_name (i := 9) sc_is_table.nd rfl (Or.inl rfl)) (pss_one (ps_if (pt_cmpR op_ne (FW.pe_f (ok_sign_from T) hr (by decide) (by rfl) (pa_cons (FW.pe_f (ok_poly_less T) hr (by decide) (by rfl) (pa_cons (pe_ix ix_list (pv 7) (pe_op FW.opAdd (pv 9) (pe_int)) (fun _ _ => rfl)) (pa_cons (pe_ix ix_list (pv 7) (pv 9) (fun _ _ => rfl)) (pa_nil)))) (pa_cons (pv 2) (pa_nil)))) (pe_int) (nomark _)) (pss_one (ps_ret (pe_bl))) (pss_nil)))) (pss_cons (ps_if (pt_cmpR op_ne (FW.pe_f (ok_sign_from T) hr (by decide) (by rfl) (pa_cons (FW.pe_f (ok_above T) hr (by decide) (by rfl) (pa_cons (FW.pe_f (ok_fall_poly T) hr (by decide) (by rfl) (pa_cons (pv 0) (pa_cons (pe_op FW.opAdd (pv 4) (pe_int)) (pa_nil)))) (pa_cons (pe_tup (pa_nil)) (pa_nil)))) (pa_cons (pv 2) (pa_nil)))) (pe_int) (nomark _)) (pss_one (ps_ret (pe_bl))) (pss_nil)) (pss_cons (ps_for PassesOwn.never rfl (FW.pi_either (pi_enum (by rfl) T.n_enumerate (pa_cons (pv 6) (pa_nil))) (FW.pi_enumT (by rfl) T.n_enumerate (pa_cons (pv 6) (pa_nil)))) (pg_tup rfl (pgs_cons (pg_name (i := 9) sc_is_table.nd rfl (Or.inl rfl)) (pgs_cons (pg_name (i := 10) sc_is_table.nd rfl (Or.inl rfl)) (pgs_nil)))) (pss_one (ps_for PassesOwn.never rfl (FW.pi_either (pi_enum (by rfl) T.n_enumerate (pa_cons (pv 10) (pa_nil))) (FW.pi_enumT (by rfl) T.n_enumerate (pa_cons (pv 10) (pa_nil)))) (pg_tup rfl (pgs_cons (pg_name (i := 11) sc_is_table.nd rfl (Or.inl rfl)) (pgs_cons (pg_name (i := 12) sc_is_table.nd rfl (Or.inl rfl)) (pgs_nil)))) (pss_one (ps_if (PW.pt (pw_or (pt_not (pt_chain op_le op_le (pv 3) (pv 12) (pv 4))) (pw_or1 (pt_not (pt_val (FW.pe_f (ok_is_led T) hr (by decide) (by rfl) (pa_cons (pv 0) (pa_cons (pe_op FW.opAdd (pv 3) (pv 11)) (pa_cons (pv 12) (pa_cons (pv 2) (pa_cons (pe_ix ix_list (pv 7) (pv 9) (fun _ _ => rfl)) (pa_cons (pe_ix ix_list (pv 7) (pe_op FW.opAdd (pv 9) (pe_int)) (fun _ _ => rfl)) (pa_nil))))))))))))) (pss_one (ps_ret (pe_bl))) (pss_nil)))))) (pss_one (ps_ret (pe_bl))))))))
theorem ok_is_table (T : Tx K mg base) : Fn PP w K mg base CX0 14 "is_table" (sp_is_table K) [] :=
  Fn.mk0 T.d_is_table T.g_is_table sc_is_table (fun _ _ _ _ _ _ us hl => match us, hl with | [_, _], _ => rfl) (by walk_at "ln") (fun cdv A outer s H vs Q E hr h => ⟨rd_is_table K, dv_is_table T hr, pure_is_table K T.av vs H Q E h⟩)
theorem dv_law {f : Addr} {cdv : Value} {A : Around} {outer : List Env} {s : Shared} {H : Hp} {E : XK} (T : Tx K mg base) (hr : Room 14 (A.deeper (envOfC "law" (defScope st_law) s.heap.objs.size f cdv))) : PSs (cxOf CX0 PP w K mg base N_law "law" (defScope st_law) f cdv A outer s H E).nox (defBody st_law) (rd_law K) := by
  exact pss_cons (ps_for PassesOwn.never rfl (pi_range1 (by rfl) T.n_range (pa_cons (pe_int) (pa_nil))) (pg_name (i := 1) sc_law.nd rfl (Or.inl rfl)) (pss_cons (ps_set (i := 2) sc_law.nd rfl (Or.inl rfl) (FW.pe_f (ok_l_stream T) hr (by decide) (by rfl) (pa_cons (pv 0) (pa_cons (pv 1) (pa_nil))))) (pss_cons (ps_set (i := 3) sc_law.nd rfl (Or.inl rfl) (FW.pe_f (ok_l_parts T) hr (by decide) (by rfl) (pa_cons (pv 2) (pa_nil)))) (pss_cons (ps_set (i := 4) sc_law.nd rfl (Or.inr rfl) (FW.pe_f (ok_l_loop T) hr (by decide) (by rfl) (pa_cons (pv 3) (pa_nil)))) (pss_cons (ps_asg (FW.pe_f (ok_l_window T) hr (by decide) (by rfl) (pa_cons (pv 3) (pa_nil))) (pg_tup rfl (pgs_cons (pg_name (i := 5) sc_law.nd rfl (Or.inl rfl)) (pgs_cons (pg_name (i := 6) sc_law.nd rfl (Or.inl rfl)) (pgs_nil))))) (pss_cons (ps_set (i := 7) sc_law.nd rfl (Or.inl rfl) (pe_op FW.opAdd (pe_op FW.opPow (pe_int) (pe_int)) (FW.pe_f (ok_l_draw T) hr (by decide) (by rfl) (pa_cons (pv 2) (pa_cons (pe_op FW.opPow (pe_int) (pe_int)) (pa_nil)))))) (pss_cons (ps_set (i := 8) sc_law.nd rfl (Or.inl rfl) (FW.pe_f (ok_l_made T) hr (by decide) (by rfl) (pa_cons (pv 3) (pa_cons (pe_op FW.opSub (pv 5) (FW.pe_f (ok_l_draw T) hr (by decide) (by rfl) (pa_cons (pv 2) (pa_cons (pe_int) (pa_nil))))) (pa_cons (pe_op FW.opAdd (pv 6) (FW.pe_f (ok_l_draw T) hr (by decide) (by rfl) (pa_cons (pv 2) (pa_cons (pe_int) (pa_nil))))) (pa_cons (pv 7) (pa_nil))))))) (pss_cons (ps_set (i := 9) sc_law.nd rfl (Or.inl rfl) (pe_op op_cat (pe_callTy call_list_of (by rfl) T.n_list (by decide +kernel) (pa_cons (pe_slice sl_tupA (pv 8) (po_none) (po_some (pe_int))) (pa_nil))) (pe_lst (pa_cons (pe_lc (own := [("_law_cut", 10)]) (g := gName 10) (tt := tYes) rfl sc_law.nd (pi_tup (pe_ix ix_tup (pv 8) (pe_int) (fun _ _ => rfl))) (blkOk_by (own := [("_law_cut", 10)]) (N := N_law) (sc := defScope st_law) (by decide +kernel)) (fun _ _ _ _ _ => pg_name (i := 10) sc_law.nd rfl (Or.inl rfl)) (fun _ _ _ _ _ => pts_nil) (fun _ _ _ _ _ => pe_op op_cat (pe_callTy call_list_of (by rfl) T.n_list (by decide +kernel) (pa_cons (pv 10) (pa_nil))) (pe_lst (pa_cons (pe_int) (pa_nil))))) (pa_nil))))) (pss_cons (ps_expr (pe_bm PySem.F.plainAttrs_list PySem.F.slot_list_append PySem.F.type_list_append mt_append (pv 9) (pa_cons (pe_lc (own := [("_law_row", 11)]) (g := gName 11) (tt := tYes) rfl sc_law.nd (pi_tup (pe_ix ix_tup (pv 8) (pe_int) (fun _ _ => rfl))) (blkOk_by (own := [("_law_row", 11)]) (N := N_law) (sc := defScope st_law) (by decide +kernel)) (fun _ _ _ _ _ => pg_name (i := 11) sc_law.nd rfl (Or.inl rfl)) (fun _ _ _ _ _ => pts_nil) (fun _ _ _ _ _ => pe_callTy call_list_of (by rfl) T.n_list (by decide +kernel) (pa_cons (pv 11) (pa_nil)))) (pa_nil)))) (pss_cons (ps_if (PW.pt (pw_or (pt_cmpR FW.op_isNB (FW.pe_f (ok_is_table T) hr (by decide) (by rfl) (pa_cons (pv 4) (pa_cons (pv 8) (pa_nil)))) (pe_bl) (nomark _)) (pw_or1 (pt_cmpR FW.op_isNB (FW.pe_f (ok_is_table T) hr (by decide) (by rfl) (pa_cons (pv 4) (pa_cons (pv 9) (pa_nil)))) (pe_bl) (nomark _))))) (pss_one (ps_ret (pe_bl))) (pss_nil)) (pss_cons (ps_if (pt_cmpR (op_neD hr.units) (pe_ix ix_list (pv 9) (pe_int) (fun _ _ => rfl)) (pe_lc (own := [("_law_cut", 10)]) (g := gName 10) (tt := tYes) rfl sc_law.nd (pi_tup (pe_ix ix_tup (pv 8) (pe_int) (fun _ _ => rfl))) (blkOk_by (own := [("_law_cut", 10)]) (N := N_law) (sc := defScope st_law) (by decide +kernel)) (fun _ _ _ _ _ => pg_name (i := 10) sc_law.nd rfl (Or.inl rfl)) (fun _ _ _ _ _ => pts_nil) (fun _ _ _ _ _ => pe_op op_cat (pe_callTy call_list_of (by rfl) T.n_list (by decide +kernel) (pa_cons (pv 10) (pa_nil))) (pe_lst (pa_cons (pe_int) (pa_nil))))) (nomark _)) (pss_one (ps_ret (pe_bl))) (pss_nil)) (pss_cons (ps_if (pt_cmpR FW.op_isNB (FW.pe_f (ok_is_table T) hr (by decide) (by rfl) (pa_cons (pv 4) (pa_cons (FW.pe_f (ok_l_wrong T) hr (by decide) (by rfl) (pa_cons (pv 2) (pa_cons (pv 8) (pa_nil)))) (pa_nil)))) (pe_bl) (nomark _)) (pss_one (ps_ret (pe_bl))) (pss_nil)) (pss_cons (ps_set (i := 12) sc_law.nd rfl (Or.inl rfl) (pe_lst (pa_cons (FW.pe_f (ok_l_made T) hr (by decide) (by rfl) (pa_cons (pv 3) (pa_cons (pv 5) (pa_cons (pe_op FW.opSub (pv 6) (pe_int)) (pa_cons (pv 7) (pa_nil)))))) (pa_cons (FW.pe_f (ok_l_made T) hr (by decide) (by rfl) (pa_cons (pv 3) (pa_cons (pe_int) (pa_cons (pv 6) (pa_cons (pv 7) (pa_nil)))))) (pa_nil))))) (pss_cons (ps_expr (pe_bm PySem.F.plainAttrs_list PySem.F.slot_list_extend PySem.F.type_list_extend mt_extend (pv 12) (pa_cons (pe_lst (pa_cons (FW.pe_f (ok_l_made T) hr (by decide) (by rfl) (pa_cons (pv 3) (pa_cons (pv 5) (pa_cons (pe_int) (pa_cons (pv 7) (pa_nil)))))) (pa_cons (FW.pe_f (ok_l_made T) hr (by decide) (by rfl) (pa_cons (pv 3) (pa_cons (pe_ix ix_tup (pv 8) (pe_int) (fun _ _ => rfl)) (pa_cons (pv 6) (pa_cons (pe_un un_neg (pe_ix ix_tup (pv 8) (pe_int) (fun _ _ => rfl))) (pa_nil)))))) (pa_nil)))) (pa_nil)))) (pss_cons (ps_if (pt_cmpR (op_neD hr.units) (pe_lc (own := [("_law_thing", 13)]) (g := gName 13) (tt := tTest (tOp FW.rIsNB (tCall (sp_is_table K) [] E0 (tCons (tVar 4) (tCons (tVar 13) (tNil)))) (tC (.bl false)))) rfl sc_law.nd (pi_list (pv 12)) (blkOk_by (own := [("_law_thing", 13)]) (N := N_law) (sc := defScope st_law) (by decide +kernel)) (fun _ _ _ _ _ => pg_name (i := 13) sc_law.nd rfl (Or.inl rfl)) (fun _ _ _ _ _ => pts_one (pt_cmpR FW.op_isNB (FW.pe_f (ok_is_table T) hr (by decide) (by rfl) (pa_cons (pv 4) (pa_cons (pv 13) (pa_nil)))) (pe_bl) (nomark _))) (fun _ _ _ _ _ => pv 13)) (pe_lst (pa_nil)) (nomark _)) (pss_one (ps_ret (pe_bl))) (pss_nil)) (pss_cons (ps_set (i := 14) sc_law.nd rfl (Or.inl rfl) (pe_op op_catA (pe_op op_catA (pe_slice sl_tupA (pv 3) (po_none) (po_some (pe_int))) (pe_tup (pa_cons (pe_op FW.opAdd (pe_ix ix_tup (pv 3) (pe_int) (fun _ _ => rfl)) (pe_ix ix_tup (pv 3) (pe_int) (fun _ _ => rfl))) (pa_nil)))) (pe_slice sl_tupA (pv 3) (po_some (pe_int)) (po_none)))) (pss_one (ps_if (pt_cmpR FW.op_isNB (FW.pe_f (ok_is_table T) hr (by decide) (by rfl) (pa_cons (FW.pe_f (ok_l_loop T) hr (by decide) (by rfl) (pa_cons (pv 14) (pa_nil))) (pa_cons (FW.pe_f (ok_l_made T) hr (by decide) (by rfl) (pa_cons (pv 14) (pa_cons (pe_int) (pa_cons (pe_ix ix_tup (FW.pe_f (ok_l_window T) hr (by decide) (by rfl) (pa_cons (pv 14) (pa_nil))) (pe_int) (fun _ _ => rfl)) (pa_cons (pv 7) (pa_nil)))))) (pa_nil)))) (pe_bl) (nomark _)) (pss_one (ps_ret (pe_bl))) (pss_nil))))))))))))))))))) (pss_one (ps_ret (pe_bl)))
end
/-! ### the head -/
theorem tx_of {K : PySem.W.Frag} {h : Heap} {mg : Str → Option Value} {base : Heap} (X : K.In h) (G : h.Ns mainGlobals mg) (c : He.SaysD fa fn K) (cx : ex K = true) (ce : er.map (fun d => fnE K d.x) = er.map ErrD.val) (TB : ∀ p ∈ tf.map (He.cT K), LamX.TabB base mg p.1 p.2) : Tx K mg base := by
  have EX0 : He.tupB K "STOPS" [.str "notless", .str "equal", .str "near1", .str "near2", .str "back", .str "under", .str "held"] = true := List.all_eq_true.mp cx _ (List.mem_of_getElem? (i := 0) rfl)
  have EX1 : He.tupB K "TOLDS" [.str "old", .str "new", .str "less", .str "more"] = true := List.all_eq_true.mp cx _ (List.mem_of_getElem? (i := 1) rfl)
  have EX2 : He.tupB K "MENDS" [.str "none", .str "down", .str "up", .str "both"] = true := List.all_eq_true.mp cx _ (List.mem_of_getElem? (i := 2) rfl)
  have EX3 : He.tupB K "LOOKS" [.str "under", .str "held"] = true := List.all_eq_true.mp cx _ (List.mem_of_getElem? (i := 3) rfl)
  exact {
    n_abs := He.free_ok X G (c.fact 0 (f := .free "abs") rfl),
    n_all := He.free_ok X G (c.fact 1 (f := .free "all") rfl),
    n_bool := He.free_ok X G (c.fact 2 (f := .free "bool") rfl),
    n_enumerate := He.free_ok X G (c.fact 3 (f := .free "enumerate") rfl),
    n_int := He.free_ok X G (c.fact 4 (f := .free "int") rfl),
    n_isinstance := He.free_ok X G (c.fact 5 (f := .free "isinstance") rfl),
    n_len := He.free_ok X G (c.fact 6 (f := .free "len") rfl),
    n_list := He.free_ok X G (c.fact 7 (f := .free "list") rfl),
    n_max := He.free_ok X G (c.fact 8 (f := .free "max") rfl),
    n_range := He.free_ok X G (c.fact 9 (f := .free "range") rfl),
    n_sorted := He.free_ok X G (c.fact 10 (f := .free "sorted") rfl),
    n_str := He.free_ok X G (c.fact 11 (f := .free "str") rfl),
    n_tuple := He.free_ok X G (c.fact 12 (f := .free "tuple") rfl),
    n_zip := He.free_ok X G (c.fact 13 (f := .free "zip") rfl),
    g_LOOKS := He.glo_ok X G (c.fact 14 (f := .glo "LOOKS") rfl),
    g_MENDS := He.glo_ok X G (c.fact 15 (f := .glo "MENDS") rfl),
    g_STOPS := He.glo_ok X G (c.fact 16 (f := .glo "STOPS") rfl),
    g_TOLDS := He.glo_ok X G (c.fact 17 (f := .glo "TOLDS") rfl),
    g_is_whole := He.glo_ok X G (c.fact 18 (f := .glo "is_whole") rfl),
    g_is_whole_from := He.glo_ok X G (c.fact 19 (f := .glo "is_whole_from") rfl),
    g_power := He.glo_ok X G (c.fact 20 (f := .glo "power") rfl),
    g_trimmed := He.glo_ok X G (c.fact 21 (f := .glo "trimmed") rfl),
    g_poly_value := He.glo_ok X G (c.fact 22 (f := .glo "poly_value") rfl),
    g_poly_sum := He.glo_ok X G (c.fact 23 (f := .glo "poly_sum") rfl),
    g_poly_product := He.glo_ok X G (c.fact 24 (f := .glo "poly_product") rfl),
    g_poly_less := He.glo_ok X G (c.fact 25 (f := .glo "poly_less") rfl),
    g_poly_power := He.glo_ok X G (c.fact 26 (f := .glo "poly_power") rfl),
    g_poly_shift := He.glo_ok X G (c.fact 27 (f := .glo "poly_shift") rfl),
    g_sign := He.glo_ok X G (c.fact 28 (f := .glo "sign") rfl),
    g_settled := He.glo_ok X G (c.fact 29 (f := .glo "settled") rfl),
    g_next_change := He.glo_ok X G (c.fact 30 (f := .glo "next_change") rfl),
    g_changes := He.glo_ok X G (c.fact 31 (f := .glo "changes") rfl),
    g_sign_from := He.glo_ok X G (c.fact 32 (f := .glo "sign_from") rfl),
    g_is_word_of := He.glo_ok X G (c.fact 33 (f := .glo "is_word_of") rfl),
    g_wrong_part := He.glo_ok X G (c.fact 34 (f := .glo "wrong_part") rfl),
    g_slant := He.glo_ok X G (c.fact 35 (f := .glo "slant") rfl),
    g_end_poly := He.glo_ok X G (c.fact 36 (f := .glo "end_poly") rfl),
    g_rest_poly := He.glo_ok X G (c.fact 37 (f := .glo "rest_poly") rfl),
    g_needed := He.glo_ok X G (c.fact 38 (f := .glo "needed") rfl),
    g_fall_poly := He.glo_ok X G (c.fact 39 (f := .glo "fall_poly") rfl),
    g_above := He.glo_ok X G (c.fact 40 (f := .glo "above") rfl),
    g_is_row_of := He.glo_ok X G (c.fact 41 (f := .glo "is_row_of") rfl),
    g_has_form := He.glo_ok X G (c.fact 42 (f := .glo "has_form") rfl),
    g_is_led := He.glo_ok X G (c.fact 43 (f := .glo "is_led") rfl),
    g_is_table := He.glo_ok X G (c.fact 44 (f := .glo "is_table") rfl),
    g__law_stream := He.glo_ok X G (c.fact 45 (f := .glo "_law_stream") rfl),
    g__law_draw := He.glo_ok X G (c.fact 46 (f := .glo "_law_draw") rfl),
    g__law_pick := He.glo_ok X G (c.fact 47 (f := .glo "_law_pick") rfl),
    g__law_weights := He.glo_ok X G (c.fact 48 (f := .glo "_law_weights") rfl),
    g__law_parts := He.glo_ok X G (c.fact 49 (f := .glo "_law_parts") rfl),
    g__law_loop := He.glo_ok X G (c.fact 50 (f := .glo "_law_loop") rfl),
    g__law_near := He.glo_ok X G (c.fact 51 (f := .glo "_law_near") rfl),
    g__law_window := He.glo_ok X G (c.fact 52 (f := .glo "_law_window") rfl),
    g__law_poly := He.glo_ok X G (c.fact 53 (f := .glo "_law_poly") rfl),
    g__law_least := He.glo_ok X G (c.fact 54 (f := .glo "_law_least") rfl),
    g__law_turning := He.glo_ok X G (c.fact 55 (f := .glo "_law_turning") rfl),
    g__law_made := He.glo_ok X G (c.fact 56 (f := .glo "_law_made") rfl),
    g__law_wrong := He.glo_ok X G (c.fact 57 (f := .glo "_law_wrong") rfl),
    g_law := He.glo_ok X G (c.fact 58 (f := .glo "law") rfl),
    g_Average := He.glo_ok X G (c.fact 59 (f := .glo "Average") rfl),
    d_is_whole := c.def_ 0 rfl,
    d_is_whole_from := c.def_ 1 rfl,
    d_power := c.def_ 2 rfl,
    d_trimmed := c.def_ 3 rfl,
    d_poly_value := c.def_ 4 rfl,
    d_poly_sum := c.def_ 5 rfl,
    d_poly_product := c.def_ 6 rfl,
    d_poly_less := c.def_ 7 rfl,
    d_poly_power := c.def_ 8 rfl,
    d_poly_shift := c.def_ 9 rfl,
    d_sign := c.def_ 10 rfl,
    d_settled := c.def_ 11 rfl,
    d_next_change := c.def_ 12 rfl,
    d_changes := c.def_ 13 rfl,
    d_sign_from := c.def_ 14 rfl,
    d_is_word_of := c.def_ 15 rfl,
    d_wrong_part := c.def_ 16 rfl,
    d_Average_init := c.def_ 17 rfl,
    d_Average_led := c.def_ 18 rfl,
    d_Average_nearness := c.def_ 19 rfl,
    d_slant := c.def_ 20 rfl,
    d_end_poly := c.def_ 21 rfl,
    d_rest_poly := c.def_ 22 rfl,
    d_needed := c.def_ 23 rfl,
    d_fall_poly := c.def_ 24 rfl,
    d_above := c.def_ 25 rfl,
    d_is_row_of := c.def_ 26 rfl,
    d_has_form := c.def_ 27 rfl,
    d_is_led := c.def_ 28 rfl,
    d_is_table := c.def_ 29 rfl,
    d_l_stream := c.def_ 30 rfl,
    d_l_draw := c.def_ 31 rfl,
    d_l_pick := c.def_ 32 rfl,
    d_l_weights := c.def_ 33 rfl,
    d_l_parts := c.def_ 34 rfl,
    d_l_loop := c.def_ 35 rfl,
    d_l_near := c.def_ 36 rfl,
    d_l_window := c.def_ 37 rfl,
    d_l_poly := c.def_ 38 rfl,
    d_l_least := c.def_ 39 rfl,
    d_l_turning := c.def_ 40 rfl,
    d_l_made := c.def_ 41 rfl,
    d_l_wrong := c.def_ 42 rfl,
    d_law := c.def_ 43 rfl,
    c_Average := He.cls_ok (c.fact 60 (f := .cls "Average") rfl),
    k_Average := He.mkr_ok (c.fact 61 (f := .mkr "Average") rfl),
    m_Average_led := He.meth_ok (c.fact 62 (f := .meth "Average" "led") rfl),
    m_Average_nearness := He.meth_ok (c.fact 63 (f := .meth "Average" "nearness") rfl),
    a_Average_k := He.noat_ok (c.fact 64 (f := .noat "Average" "k") rfl),
    a_Average_a := He.noat_ok (c.fact 65 (f := .noat "Average" "a") rfl),
    a_Average_c := He.noat_ok (c.fact 66 (f := .noat "Average" "c") rfl),
    a_Average_d := He.noat_ok (c.fact 67 (f := .noat "Average" "d") rfl),
    a_Average_stop := He.noat_ok (c.fact 68 (f := .noat "Average" "stop") rfl),
    a_Average_told := He.noat_ok (c.fact 69 (f := .noat "Average" "told") rfl),
    a_Average_mend := He.noat_ok (c.fact 70 (f := .noat "Average" "mend") rfl),
    t_STOPS := fun H => He.tupB_ok (vs := [.str "notless", .str "equal", .str "near1", .str "near2", .str "back", .str "under", .str "held"]) EX0 H,
    t_TOLDS := fun H => He.tupB_ok (vs := [.str "old", .str "new", .str "less", .str "more"]) EX1 H,
    t_MENDS := fun H => He.tupB_ok (vs := [.str "none", .str "down", .str "up", .str "both"]) EX2 H,
    t_LOOKS := fun H => He.tupB_ok (vs := [.str "under", .str "held"]) EX3 H,
    tb_l_made := TB _ (List.mem_map.mpr ⟨("_law_made", none), by simp [tf], rfl⟩) }
theorem facts {w : World} {K : PySem.W.Frag} {h : Heap} {mg : Str → Option Value} {f : Addr} (X : K.In h) (G : h.Ns mainGlobals mg) (hfa : mg ("law" : Str) = some (.ref f)) (c : He.SaysD fa fn K) (cx : ex K = true) (ce : er.map (fun d => fnE K d.x) = er.map ErrD.val) :
    ∃ fd : FuncData, (∀ (s : Shared) (v : Value), BindsTo s fd ⟨[v], []⟩ [("_law_script", v)]) ∧ ∀ base : Heap, K.In base → base.Ns mainGlobals mg → (∀ p ∈ tf.map (He.cT K), LamX.TabB base mg p.1 p.2) → FnOk PP w K mg base CX0 15 f fd ["_law_script"] (sp_law K) := by
  have e := hfa.symm.trans (He.glo_ok X G (c.fact 58 (f := .glo "law") rfl))
  cases e
  obtain ⟨fd, F⟩ := (c.def_ 43 rfl : ∃ fd, FunD K "law" "law" (defArgs st_law) (defBody st_law) (defScope st_law) [] [] (He.ga K "law") fd)
  have b := FunD.bindsA (ps := ["_law_script"]) F fun _ _ _ _ _ _ us hl => match us, hl with | [_], _ => rfl
  refine ⟨fd, fun s v => b s [v] rfl, fun base _ _ TB => ?_⟩
  have T := tx_of (base := base) X G c cx ce TB
  refine F.ok sc_law (by walk_at "ln") fun cdv A outer s H vs Q E hr h => ?_
  exact ⟨rd_law K, (dv_law T hr).nox, pure_law K vs H Q E h⟩
end FWL
open PySem PySem.W PySem.Calls PyProof.Rows
theorem PySem.Challenge.cw_floorward_k15_tables_of_other_windows_holds : PySem.Challenge.rw_floorward_k15_tables_of_other_windows.Holds := by
  w_on; o_law
  refine HandSHeadRun.head_any (r := OpenLaw.row PySem.Challenge.rw_floorward_k15_tables_of_other_windows) (q := view (OpenLaw.row PySem.Challenge.rw_floorward_k15_tables_of_other_windows).prog [57]) (H := FWL.hk) (ob := FWL.ob) (M := 30000) (loose := FWL.loose) (d := HandSHeadRun.topDef (OpenLaw.row PySem.Challenge.rw_floorward_k15_tables_of_other_windows).prog 57) (kwd := []) FWL.ob_eq
    (by kernel_rfl) (fun s => by kernel_rfl) FWL.run (by kernel_rfl) (by kernel_rfl) (by kernel_rfl) (by rfl) (by first | assumption | decide +kernel) (by decide +kernel) ⟨rfl, rfl, rfl, rfl, rfl, by decide +kernel⟩ ?hw ?hc
  case hw => w_witness2
  case hc =>
    refine LamX.walk_ofTsE (l := PySem.Challenge.rw_floorward_k15_tables_of_other_windows) (n := 63) (k := 15) (x := "_law_script") (CX := fun _ => L2.CX0) rfl (by decide) (by kernel_rfl) ⟨rfl, by decide, by decide⟩ ?F (fun _ _ _ _ _ z => z)
    intro w mg fa h Y G hmg0
    obtain ⟨K, KX, S⟩ := Y
    have hmg : mg ("law" : PySem.Str) = some (.ref fa) := by
      have e : (HandSHeadRun.topDef (OpenLaw.row PySem.Challenge.rw_floorward_k15_tables_of_other_windows).prog 57).name = ("law" : PySem.Str) := by kernel_rfl
      rw [← e]
      exact hmg0
    obtain ⟨fd, hb, hF⟩ := FWL.facts (w := w) KX G hmg S.d S.ex S.er
    refine ⟨K, KX, fd, FWL.tf.map (He.cT K), FWL.sp_law K, fun p hp => ?_, fun p hp => ?_, fun p hp => ?_, hb, fun H a ns hl hbits hH hS => ⟨a, ns, rfl, FWL.tabsM_of hH, hS, fun _ => rfl⟩, hF⟩
    · obtain ⟨q, hq, rfl⟩ := List.mem_map.mp hp; exact S.empty q hq
    · obtain ⟨q, hq, rfl⟩ := List.mem_map.mp hp; exact S.out q hq
    · obtain ⟨q, hq, rfl⟩ := List.mem_map.mp hp; exact PySem.W.codeHd_of_K KX (S.hd q hq)
