import PyProof.Rows.All
import Wide.All
import OpenK.AllK
import Wide.FinOn
import KE.KStateDown
import Lean
import HandS.Base
import HandS.Call
import HandS.List
import HandS.Comp
import HandS.Ends
import HandS.More
import HandS.Text
import HandS.Words
import HandS.WordsList
import HandS.Exc
import HandS.WordsExc
import HandS.Defaults
import HandS.Wide
import HandS.WideBits
import HandS.IsInst
import HandS.FStr
import HandS.MakeKwOnly
import HandS.Property
import HandS.ClsMeth
import HandS.Evl
import HandS.Head0
import HandS.Head1
import HandS.Head2
import HandS.HeadEnd
import HandS.HeadHook1
import HandS.HeadHook2
import HandS.Codes
import HandS.MakeKw
import HandS.TupAny
import KE.IntTextLaws
import KE.KOpsOwn
import HandS.SlotsOwn
import PyProof.InstEq
import HandS.RevRange
import HandS.Style
import HandS.SortInts
import HandS.ExcInit
import HandS.ExcField
import KE.KExcIs
import PyProof.ExcBaseAll.LookupError
import PyProof.ExcBaseAll.ArithmeticError
import PyProof.ExcBaseAll.ValueError
import HandS.Dict
import HandS.HotCalls
import KE.KTryMore
import HandS.Lambda
import HandS.HeadHook4
import HandS.TupMul
import HandS.Conv
import HandS.Iter
import HandS.Steps
import PySem.Challenge.RW_drawclaims_k04_texts_of_ratios_and_share
set_option Elab.async false
set_option linter.all false
set_option maxRecDepth 100000
set_option maxHeartbeats 4000000
/-! LayA: a hook of facts about defs at any place; good defs; steps of readings -/
namespace Hk
open PySem PySem.Spec PyProof.Rows L2 He
/-- one def: where it stands, its name, qualified name, parameters, body, scope, defaults -/
structure DefE where
  adr : PySem.W.Frag → Addr
  name : Str
  qual : Str
  params : Arguments
  body : List Stmt
  scope : Scope
  dfl : List Dv := []
  kwd : List (Str × Dv) := []
def fnE (K : PySem.W.Frag) (a : Addr) : FnW := match K.lookup a with
  | some ⟨_, _, .func fd, _⟩ => some (fd.name, fd.qualname, fd.params, fd.body, fd.scope, fd.globals, fd.closure, fd.builtins)
  | _ => none
def DefE.val (d : DefE) : FnW := some (d.name, d.qual, d.params, .stmts d.body, d.scope, mainGlobals, [], builtinsNs)
def DefE.dvs (K : PySem.W.Frag) (d : DefE) : List V := d.dfl.map (Dv.v K)
def DefE.kws (K : PySem.W.Frag) (d : DefE) : List (Str × V) := d.kwd.map fun q => (q.1, q.2.v K)
def DefE.ok (K : PySem.W.Frag) (d : DefE) : Bool := PySem.W.keepIn K (.ref (d.adr K)) && (match K.lookup (d.adr K) with
  | some ⟨_, _, .func fd, _⟩ => PySem.W.codeIn K fd.code d.qual && (dflB K fd.defaults (d.dvs K) && kwdB K fd.kwdefaults (d.kws K))
  | _ => false)
theorem DefE.funD {K : PySem.W.Frag} {d : DefE} (e : fnE K (d.adr K) = d.val) (c : d.ok K = true) : ∃ fd, FunD K d.name d.qual d.params d.body d.scope (d.dvs K) (d.kws K) (d.adr K) fd := by
  obtain ⟨kp, c2⟩ := ba c
  unfold fnE at e
  cases q : K.lookup (d.adr K) with
  | none =>
    rw [q] at c2
    cases c2
  | some o =>
    obtain ⟨oc, od, dt, osl⟩ := o
    rw [q] at c2 e
    cases dt with
    | func fd =>
      obtain ⟨n1, n2, n3, n4, n5, n6, n7, n8, n9, n10, n11, n12, n13, n14, n15⟩ := fd
      have e2 : (some (n1, n2, n3, n4, n5, n6, n7, n15) : FnW) = some (d.name, d.qual, d.params, .stmts d.body, d.scope, mainGlobals, [], builtinsNs) := e
      simp only [Option.some.injEq, Prod.mk.injEq] at e2
      obtain ⟨h1, h2, h3, h4, h5, h6, h7, h8⟩ := e2
      subst h1 h2 h3 h4 h5 h6 h7 h8
      have c3 : (PySem.W.codeIn K n13 d.qual && (dflB K n8 (d.dvs K) && kwdB K n9 (d.kws K))) = true := c2
      obtain ⟨k1, k2⟩ := ba c3
      obtain ⟨k3, k4⟩ := ba k2
      exact ⟨_, ⟨oc, od, n8, n9, n10, n11, n12, n13, n14, osl, rfl, q, k1, dflB_ok k3, kwdB_ok k4⟩, kp⟩
    | _ => cases c2
/-! the Hook -/
abbrev AlE : Type := Bool × List FnW
def obsE (fa : List Fa) (fn : List DefE) (ex : PySem.W.Frag → Bool) (K : PySem.W.Frag) : AlE := ((fa.all fun f => f.ok K) && ((fn.all fun d => d.ok K) && ex K), fn.map fun d => fnE K (d.adr K))
def valE (fn : List DefE) : AlE := (true, fn.map DefE.val)
def SaysE (fa : List Fa) (fn : List DefE) (ex : PySem.W.Frag → Bool) (K : PySem.W.Frag) : Prop := obsE fa fn ex K = valE fn
def obsEG (n : Nat) (fa : List Fa) (fn : List DefE) (ex : PySem.W.Frag → Bool) (g : Addr → Option Obj) : AlE := obsE fa fn ex (frG g (asD g n ++ [cStatics]))
def hookE (n : Nat) (fa : List Fa) (fn : List DefE) (ex : PySem.W.Frag → Bool) : PySem.W.Hook where
  α := AlE
  obs := fun s => obsEG n fa fn ex s.heap.get?
  val := fun _ => valE fn
  says := fun _ h => ∃ K : PySem.W.Frag, K.In h ∧ SaysE fa fn ex K
  of := fun _ _ e => ⟨_, frG_in, e⟩
  keeps := fun _ _ _ ⟨K, hK, c⟩ k => ⟨K, PySem.W.Frag.In.keeps hK k, c⟩
theorem obsEG_eq {n : Nat} {fa : List Fa} {fn : List DefE} {ex : PySem.W.Frag → Bool} {g : Addr → Option Obj} {s : Shared} (h : ∀ a, g a = s.heap.get? a) : obsEG n fa fn ex g = (hookE n fa fn ex).obs s := by
  have e : g = s.heap.get? := funext h
  rw [e] <;> rfl
section
variable {fa : List Fa} {fn : List DefE} {ex : PySem.W.Frag → Bool} {K : PySem.W.Frag}
theorem SaysE.parts (c : SaysE fa fn ex K) : (fa.all fun f => f.ok K) = true ∧ (fn.all fun d => d.ok K) = true ∧ ex K = true := by
  have c1 : ((fa.all fun f => f.ok K) && ((fn.all fun d => d.ok K) && ex K)) = true := congrArg (fun z : AlE => z.1) c
  obtain ⟨h1, h2⟩ := ba c1
  obtain ⟨h3, h4⟩ := ba h2
  exact ⟨h1, h3, h4⟩
theorem SaysE.fact (c : SaysE fa fn ex K) (i : Nat) {f : Fa} (h : fa[i]? = some f := by rfl) : f.ok K = true :=
  List.all_eq_true.mp c.parts.1 f (List.mem_of_getElem? h)
theorem SaysE.more (c : SaysE fa fn ex K) : ex K = true := c.parts.2.2
theorem SaysE.def_ (c : SaysE fa fn ex K) (i : Nat) {d : DefE} (h : fn[i]? = some d := by rfl) : ∃ fd, FunD K d.name d.qual d.params d.body d.scope (d.dvs K) (d.kws K) (d.adr K) fd := by
  have c2 := c.parts.2.1
  have e : fn.map (fun d => fnE K (d.adr K)) = fn.map DefE.val := congrArg (fun z : AlE => z.2) c
  have e2 : (fn.map fun d => fnE K (d.adr K))[i]? = (fn.map DefE.val)[i]? := by rw [e]
  rw [List.getElem?_map, List.getElem?_map, h] at e2
  exact DefE.funD (Option.some.inj e2) (List.all_eq_true.mp c2 d (List.mem_of_getElem? h))
end
/-- the def of the record (a property, a classmethod, a staticmethod) that the class has under this name -/
def wfA (x : Str) (T : String) (m : Str) (K : PySem.W.Frag) : Addr := match PySem.W.recIn K (ma K (ga K x) m) T with
  | some (.ref f :: _) => f
  | _ => 0
end Hk
namespace My
open PySem PySem.Spec PyProof.Rows L2
/-! good defs: beside the room it is known that no repr is under way -/
structure RG (k : Nat) (A : Around) : Prop where
  r : Room k A
  g : A.guards = some []
theorem RG.mono {j k : Nat} {A : Around} (r : RG k A) (h : j ≤ k) : RG j A := ⟨r.r.mono h, r.g⟩
theorem RG.deeper {k : Nat} {A : Around} (r : RG (k + 1) A) (env : Env) : RG k (A.deeper env) := ⟨r.r.deeper env, r.g⟩
theorem RG.in1 {k : Nat} {A : Around} (r : RG (k + 1) A) : RG k A.in1 := ⟨r.r.in1, r.g⟩
theorem RG.units {k : Nat} {A : Around} (r : RG k A) : A.units + 64 < cLine := r.r.units
theorem RG.make {k : Nat} {A : Around} (r : RG (k + 1) A) (C : Addr) (us : List Value) (kw : List (Str × Value)) : RG k (A.under (.builtin "type.__call__" ⟨.ref C :: us, kw⟩)) := by
  refine ⟨r.r.make C us kw, ?_⟩
  show pushGuards (Code.guards (.builtin "type.__call__" ⟨.ref C :: us, kw⟩)) A.guards = some []
  have e : Code.guards (.builtin "type.__call__" ⟨.ref C :: us, kw⟩) = [] := by
    unfold Code.guards Code.isGuard
    rw [if_neg (show ¬ (guardIds.contains "type.__call__" = true) from by decide +kernel)]
  rw [e]
  exact r.g
/-- the def fd at f keeps its promise wherever no repr is under way -/
structure FnG (P : Program) (w : World) (K : PySem.W.Frag) (mg : Str → Option Value) (base : Heap) (CX : CXT) (k : Nat) (f : Addr) (fd : FuncData) (ps : List Str) (sp : Sp) : Prop where
  len : ∀ vs H Q E, sp vs H Q E → vs.length = ps.length
  run : ∀ (A : Around) (outer : List Env) (s : Shared) (H : Hp) (args : Args) (us : List Value) (vs : List V) (Q : VK) (E : XK), RG k A → Env0 P w K mg base A outer s H → BindsTo s fd args (ps.zip us) → Vals vs us → sp vs H Q E →
    codeAny (model P w) A (.call (.ref f) args) (CR CX outer P w H s Q E) s
/-- dvs: the values of the parameters that a call by position does not write -/
structure Gf (P : Program) (w : World) (K : PySem.W.Frag) (mg : Str → Option Value) (base : Heap) (CX : CXT) (k : Nat) (f : Addr) (ps : List Str) (dvs : List V) (sp : Sp) : Prop where
  ex : ∃ (fd : FuncData) (ds : List Value), FnG P w K mg base CX k f fd ps sp ∧ Binds K fd ps ds ∧ Vals dvs ds
  kp : PySem.W.keepIn K (.ref f) = true
section
variable {CX : CXT} {P : Program} {w : World} {K : PySem.W.Frag} {mg : Str → Option Value} {base : Heap} {k : Nat} {f : Addr} {x qual : Str} {params : Arguments} {body : List Stmt} {scope : Scope} {dvs : List V} {kws : List (Str × V)} {fd : FuncData} {N ps : List Str} {sp : Sp}
theorem fnG (F : FunD K x qual params body scope dvs kws f fd) (S : FnScope N ps scope) (len : ∀ vs H Q E, sp vs H Q E → vs.length = ps.length)
    (hbody : ∀ (cdv : Value) (A : Around) (outer : List Env) (s : Shared) (H : Hp) (vs : List V) (Q : VK) (E : XK), RG k (A.deeper (envOfC qual scope s.heap.objs.size f cdv)) → sp vs H Q E →
      ∃ t, PSs (cxOf CX P w K mg base N qual scope f cdv A outer s H E) body t ∧ t { nx := fun _ H' => Q .non H', rt := Q } (start N vs) H) : FnG P w K mg base CX (k + 1) f fd ps sp := by
  obtain ⟨oc, od, dV, kV, doc, pm, an, cdv, ct, osl, rfl, lk, hcd, _, _⟩ := F.ex
  refine ⟨len, fun A outer s H args us vs Q E hr e0 hb r hsp => ?_⟩
  have old := fun b o e => (e0.bs b o e).1
  have KX : K.In s.heap := e0.mod.kin.keeps old
  refine codeAny_call_function hr.r.depth (KX _ _ lk) rfl S.co S.gen rfl (PySem.W.codeRec_of KX hcd) (hb _ _ _ _ ?_)
  refine wpAny_newFunctionEnv_cells S.kind (fun p hy => ?_) fun env he s1 z => ?_
  · obtain ⟨n, v⟩ := p
    exact (S.par n (List.of_mem_zip hy).1).elim (fun q => .inl q) fun q => .inr ⟨q, PySem.W.cellsFrom_some _ _ _ (.inl q)⟩
  subst he
  refine ⟨(e0.mod.nolimit.keeps old).keeps z.toInCall.keep, codeAny_func ?_⟩
  obtain ⟨t, ht, hq⟩ := hbody cdv A outer s H vs Q E (hr.deeper _) hsp
  refine wpAny_mono (ht.run [] s1 (start N vs) H _ (inv_start S hr.r.hd e0 (len _ _ _ _ hsp) r z) hq) (fun fl s' hs => ?_) fun _ _ hs => hs
  cases fl with
  | ret u => exact let ⟨v, _, H', J, rv, q⟩ := hs; ⟨v, H', J.os, J.bare, J.base, J.hok, rv, q⟩
  | next => exact let ⟨_, H', J, q⟩ := hs; ⟨.non, H', J.os, J.bare, J.base, J.hok, rfl, q⟩
  | brk => exact let ⟨_, _, _, q⟩ := hs; q.elim
  | cont => exact let ⟨_, _, _, q⟩ := hs; q.elim
/-- from a def without defaults -/
theorem gf0 (F : FunD K x qual params body scope [] kws f fd) (G : FnG P w K mg base CX k f fd ps sp)
    (h : ∀ (kV doc pm : Value) (an : Option Addr) (cdv ct : Value) (us : List Value), us.length = ps.length → bindArgs (PySem.W.fnOf x qual params body scope .none kV doc pm an cdv ct) ⟨us, []⟩ = pure (ps.zip us)) : Gf P w K mg base CX k f ps [] sp :=
  ⟨⟨fd, [], G, F.bindsN h, .nil⟩, F.kp⟩
end
section
variable {X : Cx} {CX : CXT} {k j : Nat} {f C : Addr} {x : Str} {ps : List Str} {dvs : List V} {sp : Sp} {E : XK} {e : Expr} {es : List Expr} {p pos : Pos} {t : TA}
theorem Gf.go {A : Around} {H : Hp} {s : Shared} {us : List Value} {vs : List V} {Q : VK} {outer : List Env} {P : Program} {w : World} {K : PySem.W.Frag} {mg : Str → Option Value} {base : Heap} (G : Gf P w K mg base CX k f ps dvs sp) (hr : RG j A) (hj : k ≤ j) (e0 : Env0 P w K mg base A outer s H) (KX : K.In s.heap) (r : Vals vs us) (h : sp (vs ++ dvs) H Q E) :
    codeAny (model P w) A (.call (.ref f) ⟨us, []⟩) (CR CX outer P w H s Q E) s := by
  obtain ⟨fd, ds, F, hb, hd⟩ := G.ex
  have r2 := r.append hd
  exact F.run A outer s H ⟨us, []⟩ (us ++ ds) (vs ++ dvs) Q E (hr.mono hj) e0 (hb s us KX (by rw [← r2.length]; exact F.len _ _ _ _ h)) r2 h
theorem run_g {pins : List (Addr × Obj)} {σ : L2.St} {H : Hp} {s : Shared} {Q : VK} {us : List Value} {vs : List V} (G : Gf X.prog X.w X.K X.mg X.base CX k f ps dvs sp) (hr : RG j X.A) (hj : k ≤ j) (hx : Passes CX X E)
    (I : Inv X pins σ H s) (r : Vals vs us) (h : sp (vs ++ dvs) H Q E) : wpAny (model X.prog X.w) X.A (call (.ref f) us) (EP X pins σ Q) X.xe s := by
  refine wpAny_call (codeAny_mono (G.go hr hj I.env0 I.kIn r h) fun y s' hq => ?_)
  match y, hq with
  | .error e, hq => exact hx pins σ H s e s' I hq
  | .ok (.ret u), hq => exact I.after hq
theorem pe_g (G : Gf X.prog X.w X.K X.mg X.base CX k f ps dvs sp) (hm : X.mg x = some (.ref f)) (hr : RG j X.A) (hj : k ≤ j) (hx : Passes CX X E) (ha : PA X (e :: es) t) (hg : Gl X x := by rfl)
    (hdb : (x == ("__debug__" : Str)) = false := by decide) (he : starEach (e :: es) X.env = (false, eval e X.env) :: starEach es X.env := by rfl) (hpl : (backTo pos (starEach es X.env)).any (·.1) = false := by rfl) :
    PE X (.Call (.Name x p) (e :: es) [] pos) (tCall sp dvs E t) := by
  refine ⟨fun pins s σ H Q I h => ?_⟩
  refine wpAny_Call_Name_kw (ld_glob I hg hm ?_ hdb)
  exact PySem.W.callWith_K (h₀ := X.base) I.ok.mod.kin G.kp (thn (ha.run pos pins s σ H _ I h) fun us s1 ⟨vs, H1, I1, r, q⟩ => ⟨I1.kIn, run_g G hr hj hx I1 r q⟩) he hpl
/-- a class whose instances its own __init__ makes -/
structure Mg (K : PySem.W.Frag) (C f : Addr) : Prop where
  makes : PySem.W.makesIn K C = true
  init : PySem.W.findIn K (.ref C) "__init__" = some (some (.ref f))
  fn : PySem.W.isFn K (.ref f) = true
  kp : PySem.W.keepIn K (.ref C) = true
theorem run_mk {pins : List (Addr × Obj)} {σ : L2.St} {H : Hp} {s : Shared} {Q : VK} {us : List Value} {vs : List V} (M : Mg X.K C f) (G : Gf X.prog X.w X.K X.mg X.base CX k f ps dvs sp) (hr : RG j X.A) (hj : k + 1 ≤ j) (hx : Passes CX X E) (I : Inv X pins σ H s) (r : Vals vs us)
    (h : ∀ x dx, H x = none → H dx = none → dx ≠ x → sp (.ref x :: (vs ++ dvs)) (upd (upd H dx (.own x)) x (.ins C dx [])) (fun v H2 => v = .non ∧ Q (.ref x) H2) E) :
    wpAny (model X.prog X.w) X.A (call (.ref C) us) (EP X pins σ Q) X.xe s := by
  have n := s.heap.objs.size
  have hq := h (s.heap.objs.size + 1) s.heap.objs.size (I.hok.fresh (Nat.le_succ _)) (I.hok.fresh (Nat.le_refl _)) (Nat.ne_of_lt (Nat.lt_succ_self _))
  have I2 := Inv.made (C := C) I
  have r2 : Vals (V.ref (s.heap.objs.size + 1) :: vs) (Value.ref (s.heap.objs.size + 1) :: us) := .cons rfl r
  refine wpAny_call (make_map (f := f) I.kIn M.makes M.init (beq_iff_eq.mp M.fn) (codeAny_mono (G.go (outer := X.stack) (RG.make (hr.mono hj) C us []) (Nat.le_refl _) (I2.env0.make C us []) I2.kIn r2 hq) fun y s' hq' => ?_))
  match y, hq' with
  | .error e, hq' => exact hx pins σ _ _ e s' I2 hq'
  | .ok (.ret u), hq' =>
    obtain ⟨v, H', I3, rv, ev, q3⟩ := I2.after hq'
    subst ev
    exact ⟨rv, ⟨V.ref (s.heap.objs.size + 1), H', I3, rfl, q3⟩⟩
theorem pe_mk (M : Mg X.K C f) (G : Gf X.prog X.w X.K X.mg X.base CX k f ps dvs sp) (hm : X.mg x = some (.ref C)) (hr : RG j X.A) (hj : k + 1 ≤ j) (hx : Passes CX X E) (ha : PA X (e :: es) t) (hg : Gl X x := by rfl)
    (hdb : (x == ("__debug__" : Str)) = false := by decide) (he : starEach (e :: es) X.env = (false, eval e X.env) :: starEach es X.env := by rfl) (hpl : (backTo pos (starEach es X.env)).any (·.1) = false := by rfl) :
    PE X (.Call (.Name x p) (e :: es) [] pos) (tMake C sp dvs E t) := by
  refine ⟨fun pins s σ H Q I h => ?_⟩
  refine wpAny_Call_Name_kw (ld_glob I hg hm ?_ hdb)
  exact PySem.W.callWith_K (h₀ := X.base) I.ok.mod.kin M.kp (thn (ha.run pos pins s σ H _ I h) fun us s1 ⟨vs, H1, I1, r, q⟩ => ⟨I1.kIn, run_mk M G hr hj hx I1 r q⟩) he hpl
/-- the class stands in the i-th slot -/
def tMakeL (i : Nat) (C : Addr) (sp : Sp) (dvs : List V) (E : XK) (t : TA) : TE := fun σ H Q => σ[i]? = some (some (.ref C)) ∧ tMake C sp dvs E t σ H Q
theorem pe_mkL {i : Nat} (M : Mg X.K C f) (G : Gf X.prog X.w X.K X.mg X.base CX k f ps dvs sp) (hN : X.N[i]? = some x) (hv : Vis X.env.scope x) (hr : RG j X.A) (hj : k + 1 ≤ j) (hx : Passes CX X E) (ha : PA X (e :: es) t)
    (hdb : (x == ("__debug__" : Str)) = false := by decide) (hcd : (x == ("__classdict__" : Str)) = false := by decide) (he : starEach (e :: es) X.env = (false, eval e X.env) :: starEach es X.env := by rfl) (hpl : (backTo pos (starEach es X.env)).any (·.1) = false := by rfl) :
    PE X (.Call (.Name x p) (e :: es) [] pos) (tMakeL i C sp dvs E t) := by
  refine ⟨fun pins s σ H Q I h => ?_⟩
  refine wpAny_Call_Name_kw (thn ((pe_var (pos := p) hN hv hdb hcd).run pins s σ H (fun v H1 => v = .ref C ∧ H1 = H) I ⟨.ref C, h.1, rfl, rfl⟩) fun u s1 ⟨v, H1, I1, r1, e1, e2⟩ => ?_)
  subst e1 e2
  obtain rfl : u = Value.ref C := r1
  exact PySem.W.callWith_K (h₀ := X.base) I.ok.mod.kin M.kp (thn (ha.run pos pins s1 σ _ _ I1 h.2) fun us s2 ⟨vs, H2, I2, r, q⟩ => ⟨I2.kIn, run_mk M G hr hj hx I2 r q⟩) he hpl
end
section
theorem pe_gi {X : Cx} {x : Str} {i : Int} {pos : Pos} (hg : Gl X x) (h : ∃ t, X.mg x = some (.int i t)) (hd : (x == ("__debug__" : Str)) = false := by decide) : PE X (.Name x pos) (tC (.int i)) := by
  obtain ⟨t, hm⟩ := h
  exact pe_glob hg hm ⟨t, rfl⟩ hd
end
/-! tests -/
section
variable {A B : Prop}
theorem b_bl {b : Bool} {F : Bool → Prop} (h : F b) : ∃ k, V.bl b = .bl k ∧ F k := ⟨b, rfl, h⟩
theorem i_pos {p : Prop} [Decidable p] (hp : p) (h : A) : if decide p = true then A else B := by
  rw [if_pos (decide_eq_true hp)]
  exact h
theorem i_neg {p : Prop} [Decidable p] (hp : ¬ p) (h : B) : if decide p = true then A else B := by
  rw [if_neg (by rw [decide_eq_false hp]; exact Bool.false_ne_true)]
  exact h
theorem i_two {p : Prop} [Decidable p] (h1 : p → A) (h2 : ¬ p → B) : if decide p = true then A else B := by
  by_cases hp : p
  · exact i_pos hp (h1 hp)
  · exact i_neg hp (h2 hp)
theorem n_pos {p : Prop} [Decidable p] (hp : p) (h : B) : if (!decide p) = true then A else B := by
  rw [if_neg (by rw [decide_eq_true hp]; exact Bool.false_ne_true)]
  exact h
theorem n_neg {p : Prop} [Decidable p] (hp : ¬ p) (h : A) : if (!decide p) = true then A else B := by
  rw [if_pos (by rw [decide_eq_false hp] <;> rfl)]
  exact h
theorem n_two {p : Prop} [Decidable p] (h1 : p → B) (h2 : ¬ p → A) : if (!decide p) = true then A else B := by
  by_cases hp : p
  · exact n_pos hp (h1 hp)
  · exact n_neg hp (h2 hp)
theorem b_two {b : Bool} (h1 : b = true → A) (h2 : b = false → B) : if b = true then A else B := by
  cases b with
  | true => exact h1 rfl
  | false => exact h2 rfl
theorem nb_two {b : Bool} (h1 : b = true → B) (h2 : b = false → A) : if (!b) = true then A else B := by
  cases b with
  | true => exact h1 rfl
  | false => exact h2 rfl
theorem i_t (h : A) : if true = true then A else B := h
theorem i_f (h : B) : if false = true then A else B := h
theorem i_nt (h : B) : if (!true) = true then A else B := h
theorem i_nf (h : A) : if (!false) = true then A else B := h
end
/-! operators on ints, texts, bools with their own readings -/
section
variable {X : Cx}
theorem op_mulA : OpR X (binaryOp .Mult) (rI IntMulOk fun i j => .int (i * j)) := opI fun _ _ _ _ _ _ _ hc q => mul_int q hc
def rSB (f : Str → Str → Bool) : R2 := fun x y H Q => ∃ a b, x = .str a ∧ y = .str b ∧ Q (.bl (f a b)) H
theorem op_eqI : OpR X (compareOp .Eq) (rI0 fun i j => .bl (decide (i = j))) := fun pins s σ H x y v u Q I rx ry h => by
  obtain ⟨i, j, rfl, rfl, q⟩ := h
  refine op_eq pins s σ H _ _ v u Q I rx ry ⟨rfl, ?_⟩
  rw [dec_int, Bool.beq_eq_decide_eq]
  exact q
theorem op_neI : OpR X (compareOp .NotEq) (rI0 fun i j => .bl (!decide (i = j))) := fun pins s σ H x y v u Q I rx ry h => by
  obtain ⟨i, j, rfl, rfl, q⟩ := h
  refine op_ne pins s σ H _ _ v u Q I rx ry ⟨rfl, ?_⟩
  rw [dec_int, Bool.beq_eq_decide_eq]
  exact q
theorem op_eqS : OpR X (compareOp .Eq) (rSB fun a b => decide (a = b)) := fun pins s σ H x y v u Q I rx ry h => by
  obtain ⟨i, j, rfl, rfl, q⟩ := h
  refine op_eq pins s σ H _ _ v u Q I rx ry ⟨rfl, ?_⟩
  rw [dec_str, Bool.beq_eq_decide_eq]
  exact q
theorem op_neS : OpR X (compareOp .NotEq) (rSB fun a b => !decide (a = b)) := fun pins s σ H x y v u Q I rx ry h => by
  obtain ⟨i, j, rfl, rfl, q⟩ := h
  refine op_ne pins s σ H _ _ v u Q I rx ry ⟨rfl, ?_⟩
  rw [dec_str, Bool.beq_eq_decide_eq]
  exact q
end
/-! steps -/
section
variable {K : PySem.W.Frag} {σ : L2.St} {H : Hp} {nx bk ct : L2.St → Hp → Prop} {rt : VK} {ta tb tc te tv : TE} {Q : VK} {t u : TS} {g : TG} {tA : TA} {c d : TT} {R : Bool → Hp → Prop} {RA : List V → Hp → Prop}
theorem r_seq (h : t ⟨u ⟨nx, rt, bk, ct⟩, rt, bk, ct⟩ σ H) : tSeq t u ⟨nx, rt, bk, ct⟩ σ H := h
theorem r_next (h : nx σ H) : tNext ⟨nx, rt, bk, ct⟩ σ H := h
theorem r_brk (h : bk σ H) : tBreak ⟨nx, rt, bk, ct⟩ σ H := h
theorem r_cont (h : ct σ H) : tCont ⟨nx, rt, bk, ct⟩ σ H := h
theorem r_ret (h : te σ H rt) : tRet te ⟨nx, rt, bk, ct⟩ σ H := h
theorem r_retN (h : rt .non H) : tRetN ⟨nx, rt, bk, ct⟩ σ H := h
theorem r_asg (h : te σ H fun x H1 => g x σ H1 nx) : tAsg te g ⟨nx, rt, bk, ct⟩ σ H := h
theorem r_drop (h : te σ H fun _ H1 => nx σ H1) : tDrop te ⟨nx, rt, bk, ct⟩ σ H := h
theorem r_ifS (h : c σ H fun b H1 => if b = true then t ⟨nx, rt, bk, ct⟩ σ H1 else u ⟨nx, rt, bk, ct⟩ σ H1) : tIfS c t u ⟨nx, rt, bk, ct⟩ σ H := h
theorem r_par {i j : Nat} (h : tA σ H fun vs H1 => ∃ v w, vs = [v, w] ∧ nx ((σ.set i (some v)).set j (some w)) H1) : tPar i j tA ⟨nx, rt, bk, ct⟩ σ H := h
theorem r_two {v w : V} {F : V → V → Prop} (h : F v w) : ∃ a b, ([v, w] : List V) = [a, b] ∧ F a b := ⟨v, w, rfl, h⟩
theorem r_gname {i : Nat} {v : V} {N : L2.St → Hp → Prop} (h : N (σ.set i (some v)) H) : gName i v σ H N := h
theorem r_gsub {v : V} {ts : TSet} {N : L2.St → Hp → Prop} (h : ta σ H fun o H1 => tb σ H1 fun i H2 => ts o i v H2 fun H3 => N σ H3) : gSub ta tb ts v σ H N := h
theorem r_var {i : Nat} {v : V} (e : σ[i]? = some (some v)) (h : Q v H) : tVar i σ H Q := ⟨v, e, h⟩
theorem r_c {v : V} (h : Q v H) : tC v σ H Q := h
theorem r_op {r : R2} (h : ta σ H fun x H1 => tb σ H1 fun y H2 => r x y H2 Q) : tOp r ta tb σ H Q := h
theorem r_un {r : V → Hp → VK → Prop} (h : ta σ H fun x H1 => r x H1 Q) : tUn r ta σ H Q := h
theorem r_i0 {f : Int → Int → V} {i j : Int} (h : Q (f i j) H) : rI0 f (.int i) (.int j) H Q := ⟨i, j, rfl, rfl, h⟩
theorem r_i {C : Int → Int → Prop} {f : Int → Int → V} {i j : Int} (hc : C i j) (h : Q (f i j) H) : rI C f (.int i) (.int j) H Q := ⟨i, j, rfl, rfl, hc, h⟩
theorem r_u {f : Int → V} {i : Int} (h : Q (f i) H) : rU f (.int i) H Q := ⟨i, rfl, h⟩
theorem r_sb {f : Str → Str → Bool} {a b : Str} (h : Q (.bl (f a b)) H) : rSB f (.str a) (.str b) H Q := ⟨a, b, rfl, rfl, h⟩
theorem r_test (h : te σ H fun x H' => ∃ k, x = .bl k ∧ R k H') : tTest te σ H R := h
theorem r_tB (h : te σ H fun x H' => ∃ k, x = .bl k ∧ R k H') : tB te σ H R := h
theorem r_and (h : c σ H fun b H1 => if b = true then d σ H1 R else R false H1) : tAnd c d σ H R := h
theorem r_or (h : c σ H fun b H1 => if b = true then R true H1 else d σ H1 R) : tOr c d σ H R := h
theorem r_not (h : c σ H fun b H1 => R (!b) H1) : tNot c σ H R := h
theorem r_andV (h : ta σ H fun x H1 => ∃ k, x = .bl k ∧ if k = true then tb σ H1 Q else Q (.bl false) H1) : tAndV ta tb σ H Q := h
theorem r_orV (h : ta σ H fun x H1 => ∃ k, x = .bl k ∧ if k = true then Q (.bl true) H1 else tb σ H1 Q) : tOrV ta tb σ H Q := h
theorem r_notV (h : ta σ H fun x H1 => ∃ k, x = .bl k ∧ Q (.bl (!k)) H1) : tNotV ta σ H Q := h
theorem r_tif (h : c σ H fun b H1 => if b = true then ta σ H1 Q else tb σ H1 Q) : tIf c ta tb σ H Q := h
theorem r_nil (h : RA [] H) : tNil σ H RA := h
theorem r_cons {tR : TA} (h : te σ H fun x H1 => tR σ H1 fun xs H2 => RA (x :: xs) H2) : tCons te tR σ H RA := h
theorem r_call {sp : Sp} {dvs : List V} {E : XK} (h : tA σ H fun vs H1 => sp (vs ++ dvs) H1 Q E) : tCall sp dvs E tA σ H Q := h
theorem r_cb {r : List V → Hp → VK → Prop} (h : tA σ H fun vs H1 => r vs H1 Q) : tCB r tA σ H Q := h
theorem r_lst (h : tA σ H fun xs H1 => xs.length ≤ sizeLine ∧ ∀ p, H1 p = none → Q (.ref p) (upd H1 p (.lst xs))) : tLst tA σ H Q := h
theorem r_tup (h : tA σ H fun xs H1 => xs.length ≤ sizeLine ∧ ∀ p, H1 p = none → Q (.ref p) (upd H1 p (.tup xs))) : tTup tA σ H Q := h
theorem r_int {i : Int} {F : Int → Prop} {B : Prop} (h : F i) : (∃ j, ([V.int i] : List V) = [.int j] ∧ F j) ∨ B := .inl ⟨i, rfl, h⟩
theorem r_intb {b : Bool} {F : Bool → Prop} {B : Prop} (h : F b) : B ∨ ∃ k, ([V.bl b] : List V) = [.bl k] ∧ F k := .inr ⟨b, rfl, h⟩
theorem r_call0 {sp : Sp} {E : XK} (h : tA σ H fun vs H1 => sp vs H1 Q E) : tCall sp [] E tA σ H Q := by
  unfold tCall
  simp only [List.append_nil]
  exact h
theorem r_i1 {i : Int} {F : Int → Prop} (h : F i) : ∃ j, ([V.int i] : List V) = [.int j] ∧ F j := ⟨i, rfl, h⟩
theorem r_i2 {i j : Int} {F : Int → Int → Prop} (h : F i j) : ∃ a b, ([V.int i, V.int j] : List V) = [.int a, .int b] ∧ F a b := ⟨i, j, rfl, h⟩
end
end My

set_option Elab.async false
set_option linter.all false
set_option maxRecDepth 100000
set_option maxHeartbeats 4000000
/-! LayB: methods, properties, classmethods, keywords, str and repr of own objects, repr of data -/
namespace My
open PySem PySem.Spec PyProof.Rows L2
section
variable {X : Cx} {CX : CXT} {k j : Nat} {f C : Addr} {x m : Str} {ps : List Str} {dvs : List V} {sp : Sp} {E : XK} {o e : Expr} {es : List Expr} {p pos apos : Pos} {t : TA} {ta : TE}
theorem pe_me {pl : Sem Bool} (he : PE X o ta) (c : Cls X.K C) (hm : Meth X.K C m f) (G : Gf X.prog X.w X.K X.mg X.base CX k f ps dvs sp) (hr : RG j X.A) (hj : k ≤ j) (hx : Passes CX X E) (ha : PA X (e :: es) t)
    (hst : starEach (e :: es) X.env = (false, eval e X.env) :: starEach es X.env := by rfl) (hpl : (backTo pos (starEach es X.env)).any (·.1) = false := by rfl)
    (ht : eval (.Call (.Attribute o m apos) (e :: es) [] pos) X.env = (do
      let ov ← eval o X.env
      standAt apos.atName
      let (f, first) ← holding [ov] (getMethod ov m pl)
      callWith pos f first (backTo pos (starEach (e :: es) X.env)) (backToKw pos (keywordEach [] X.env))) := by rfl) :
    PE X (.Call (.Attribute o m apos) (e :: es) [] pos) (tMeth C m sp dvs E ta t) := by
  refine ⟨fun pins s σ H Q I h => PySem.W.methodCall_KW (pl := pl) (thn (he.run pins s σ H _ I h) fun u s1 ⟨x, H1, I1, rx, a, dx, fs, ex, ea, l, q⟩ => ?_) ht⟩
  subst ex
  obtain rfl : u = Value.ref a := rx
  refine getmeth_ok I1 ea c hm l ?_
  exact PySem.W.callWith_K (first := [.ref a]) (h₀ := X.base) I.ok.mod.kin hm.kp (thn (ha.run pos pins s1 σ H1 _ I1 q) fun us s2 ⟨vs, H2, I2, r, q2⟩ => ⟨I2.kIn, run_g (us := .ref a :: us) (vs := .ref a :: vs) G hr hj hx I2 (.cons rfl r) q2⟩) hst hpl
theorem pe_me0 {pl : Sem Bool} (he : PE X o ta) (c : Cls X.K C) (hm : Meth X.K C m f) (G : Gf X.prog X.w X.K X.mg X.base CX k f ps dvs sp) (hr : RG j X.A) (hj : k ≤ j) (hx : Passes CX X E)
    (ht : eval (.Call (.Attribute o m apos) [] [] pos) X.env = (do
      let ov ← eval o X.env
      standAt apos.atName
      let (f, first) ← holding [ov] (getMethod ov m pl)
      callWith pos f first (backTo pos (starEach [] X.env)) (backToKw pos (keywordEach [] X.env))) := by rfl) :
    PE X (.Call (.Attribute o m apos) [] [] pos) (tMeth C m sp dvs E ta tNil) := by
  refine ⟨fun pins s σ H Q I h => PySem.W.methodCall_KW (pl := pl) (thn (he.run pins s σ H _ I h) fun u s1 ⟨x, H1, I1, rx, a, dx, fs, ex, ea, l, q⟩ => ?_) ht⟩
  subst ex
  obtain rfl : u = Value.ref a := rx
  refine getmeth_ok I1 ea c hm l ?_
  exact PySem.W.callWith_K0 (first := [.ref a]) I1.kIn hm.kp (run_g (us := [.ref a]) (vs := [.ref a]) G hr hj hx I1 (.cons rfl .nil) q)
/-- e.f, a property at q whose getter is the def at f -/
theorem pe_pr {q : Addr} {n : Str} (he : PE X e ta) (c : Cls X.K C) (hp : PropOf X.K C n q f) (G : Gf X.prog X.w X.K X.mg X.base CX k f ps dvs sp) (hr : RG j X.A) (hj : k + 1 ≤ j) (hx : Passes CX X.nox E)
    (hab : attributeBase e n X.env (eval e X.env) = eval e X.env := by rfl) : PE X (.Attribute e n pos) (tProp C sp dvs E ta) := by
  refine ⟨fun pins s σ H Q I h => attr_of hab (thn (he.run pins s σ H _ I h) fun u s1 ⟨y, H1, I1, rx, a, dx, fs, ex, ea, h1⟩ => ?_)⟩
  subst ex
  obtain rfl : u = Value.ref a := rx
  obtain ⟨mA, O, _, _, _, _⟩ := ins_get I1.hok ea
  obtain ⟨od, J, _⟩ := O.look
  obtain ⟨rest, hrec⟩ := hp.rec_
  have I2 := I1.tok (s1.toks + 1)
  have hc : (PySem.W.clsIn X.K C).isSome = true := let ⟨cd, hc, _⟩ := PySem.W.any_some c.hd; by rw [hc] <;> rfl
  refine PySem.W.get_bind I1.kIn J (PySem.W.plainGet_of (c.get n)).1 (PySem.W.findObj_data hc hp.at_ hp.get hp.tak) (PySem.W.plainGet_of (c.get n)).2 (wpAny_call (PySem.W.prop_get (s := { s1 with toks := s1.toks + 1 }) I1.kIn hrec ?_))
  refine codeAny_mono (G.go (outer := X.stack) (us := [.ref a]) (vs := [.ref a]) (hr.mono hj).in1 (Nat.le_refl _) I2.env0.in1 I2.kIn (.cons rfl .nil) h1) fun y s' hq => ?_
  match y, hq with
  | .error er, hq => exact (hx pins σ H1 { s1 with toks := s1.toks + 1 } er s' (I2.wish _) hq).elim
  | .ok (.ret u), hq =>
    obtain ⟨v, H', I3, rv, q3⟩ := I2.after hq
    show wpAny _ _ (handedOut u) _ _ _
    rw [PySem.W.handedOut_of (handed_of rv)]
    exact wpAny_pure ⟨v, H', I3, rv, q3⟩
/-- C.m(..), m a classmethod: its record at q, its def at f -/
theorem pe_cm {q : Addr} {mc : Value} {pl : Sem Bool} (he : PE X o ta) (r : ClX.CRead X.K C mc) (c : ClX.CMet X.K C mc m q f) (G : Gf X.prog X.w X.K X.mg X.base CX k f ps dvs sp) (hr : RG j X.A) (hj : k ≤ j) (hx : Passes CX X E) (ha : PA X (e :: es) t)
    (hst : starEach (e :: es) X.env = (false, eval e X.env) :: starEach es X.env := by rfl) (hpl : (backTo pos (starEach es X.env)).any (·.1) = false := by rfl)
    (ht : eval (.Call (.Attribute o m apos) (e :: es) [] pos) X.env = (do
      let ov ← eval o X.env
      standAt apos.atName
      let (f, first) ← holding [ov] (getMethod ov m pl)
      callWith pos f first (backTo pos (starEach (e :: es) X.env)) (backToKw pos (keywordEach [] X.env))) := by rfl) :
    PE X (.Call (.Attribute o m apos) (e :: es) [] pos) (ClX.tCMeth C (fun vs => sp (vs ++ dvs)) E ta t) := by
  refine ⟨fun pins s σ H Q I h => PySem.W.methodCall_KW (pl := pl) (thn (he.run pins s σ H _ I h) fun u s1 ⟨x, H1, I1, rx, ex, h1⟩ => ?_) ht⟩
  subst ex
  obtain rfl : u = Value.ref C := rx
  refine ClX.getmethcm_ok I1 r c fun s2 I2 => ?_
  refine ClX.callwith_cm I2 (ClX.base_none I1 (Nat.le_refl _)) c.fi (thn (ha.run pos _ s2 σ H1 _ I2 h1) fun us s3 ⟨vs, H2, I3, rv, q2⟩ => ⟨⟨ClX.pin_at I3, I3.kIn⟩, ?_⟩) hst hpl
  have z : wpAny (model X.prog X.w) X.A (call (.ref s1.heap.objs.size) us) (EP X ((s1.heap.objs.size, PySem.W.methodObj (.ref f) (.ref C)) :: pins) σ Q) X.xe s3 := by
    refine wpAny_call (PySem.W.method_call (ClX.pin_at I3) (codeAny_mono (G.go (outer := X.stack) (us := .ref C :: us) (vs := .ref C :: vs) hr hj I3.env0 I3.kIn (.cons rfl rv) q2) fun y s' hq => ?_))
    match y, hq with
    | .error er, hq => exact hx _ σ H2 s3 er s' I3 hq
    | .ok (.ret u), hq => exact I3.after hq
  exact thn z fun _ _ y => ClX.unpinE y
end
/-! f(.., k = v, ..), C(.., k = v, ..) -/
/-- a def as a call with n positional values and keywords ks finds it; gV puts both in the parameters' order -/
structure Gk (P : Program) (w : World) (K : PySem.W.Frag) (mg : Str → Option Value) (base : Heap) (CX : CXT) (k : Nat) (f : Addr) (ps : List Str) (n : Nat) (ks : List Str) (gV : List V → List V → List V) (sp : Sp) : Prop where
  ex : ∃ (fd : FuncData) (g : List Value → List Value → List Value), FnG P w K mg base CX k f fd ps sp ∧ KBn K fd ps n ks g gV
  kp : PySem.W.keepIn K (.ref f) = true
section
variable {X : Cx} {CX : CXT} {k j n : Nat} {f C : Addr} {x m : Str} {ps ks : List Str} {sp : Sp} {E : XK} {o e : Expr} {es : List Expr} {p pos apos : Pos} {t tk : TA} {ta : TE} {kws : List Keyword} {gV : List V → List V → List V}
theorem Gk.go {A : Around} {H : Hp} {s : Shared} {us ws : List Value} {vs zs : List V} {Q : VK} {outer : List Env} {P : Program} {w : World} {K : PySem.W.Frag} {mg : Str → Option Value} {base : Heap} (G : Gk P w K mg base CX k f ps n ks gV sp) (hr : RG j A) (hj : k ≤ j) (e0 : Env0 P w K mg base A outer s H) (KX : K.In s.heap)
    (r : Vals vs us) (rz : Vals zs ws) (l1 : vs.length = n) (l2 : zs.length = ks.length) (h : sp (gV vs zs) H Q E) :
    codeAny (model P w) A (.call (.ref f) ⟨us, ks.zip ws⟩) (CR CX outer P w H s Q E) s := by
  obtain ⟨fd, g, F, hb⟩ := G.ex
  exact F.run A outer s H ⟨us, ks.zip ws⟩ (g us ws) (gV vs zs) Q E (hr.mono hj) e0 (hb.to s us ws KX (r.length.symm.trans l1) (rz.length.symm.trans l2)) (hb.rel r rz) h
theorem run_gk {pins : List (Addr × Obj)} {σ : L2.St} {H : Hp} {s : Shared} {Q : VK} {us ws : List Value} {vs zs : List V} (G : Gk X.prog X.w X.K X.mg X.base CX k f ps n ks gV sp) (hr : RG j X.A) (hj : k ≤ j) (hx : Passes CX X E)
    (I : Inv X pins σ H s) (r : Vals vs us) (rz : Vals zs ws) (l1 : vs.length = n) (l2 : zs.length = ks.length) (h : sp (gV vs zs) H Q E) : wpAny (model X.prog X.w) X.A (call (.ref f) us (ks.zip ws)) (EP X pins σ Q) X.xe s := by
  refine wpAny_call (codeAny_mono (G.go hr hj I.env0 I.kIn r rz l1 l2 h) fun y s' hq => ?_)
  match y, hq with
  | .error e, hq => exact hx pins σ H s e s' I hq
  | .ok (.ret u), hq => exact I.after hq
theorem run_mkk {pins : List (Addr × Obj)} {σ : L2.St} {H : Hp} {s : Shared} {Q : VK} {us ws : List Value} {vs zs : List V} (M : Mg X.K C f) (G : Gk X.prog X.w X.K X.mg X.base CX k f ps (n + 1) ks gV sp) (hr : RG j X.A) (hj : k + 1 ≤ j) (hx : Passes CX X E) (I : Inv X pins σ H s) (r : Vals vs us) (rz : Vals zs ws) (l1 : vs.length = n) (l2 : zs.length = ks.length)
    (h : ∀ x dx, H x = none → H dx = none → dx ≠ x → sp (gV (.ref x :: vs) zs) (upd (upd H dx (.own x)) x (.ins C dx [])) (fun v H2 => v = .non ∧ Q (.ref x) H2) E) :
    wpAny (model X.prog X.w) X.A (call (.ref C) us (ks.zip ws)) (EP X pins σ Q) X.xe s := by
  have hq := h (s.heap.objs.size + 1) s.heap.objs.size (I.hok.fresh (Nat.le_succ _)) (I.hok.fresh (Nat.le_refl _)) (Nat.ne_of_lt (Nat.lt_succ_self _))
  have I2 := Inv.made (C := C) I
  have r2 : Vals (V.ref (s.heap.objs.size + 1) :: vs) (Value.ref (s.heap.objs.size + 1) :: us) := .cons rfl r
  refine wpAny_call (make_map (f := f) I.kIn M.makes M.init (beq_iff_eq.mp M.fn) (codeAny_mono (G.go (outer := X.stack) (RG.make (hr.mono hj) C us (ks.zip ws)) (Nat.le_refl _) (I2.env0.make C us (ks.zip ws)) I2.kIn r2 rz (by rw [List.length_cons, l1]) l2 hq) fun y s' hq' => ?_))
  match y, hq' with
  | .error e, hq' => exact hx pins σ _ _ e s' I2 hq'
  | .ok (.ret u), hq' =>
    obtain ⟨v, H', I3, rv, ev, q3⟩ := I2.after hq'
    subst ev
    exact ⟨rv, ⟨V.ref (s.heap.objs.size + 1), H', I3, rfl, q3⟩⟩
theorem pe_mkK0 (M : Mg X.K C f) (G : Gk X.prog X.w X.K X.mg X.base CX k f ps 1 ks gV sp) (hm : X.mg x = some (.ref C)) (hr : RG j X.A) (hj : k + 1 ≤ j) (hx : Passes CX X E) (hkw : PK X kws tk) (hg : Gl X x := by rfl)
    (hall : (backToKw pos (keywordEach kws X.env)).all (·.1.isSome) = true := by rfl) (hks : (backToKw pos (keywordEach kws X.env)).filterMap (·.1) = ks := by rfl) (hdb : (x == ("__debug__" : Str)) = false := by decide)
    (hpl : ((backTo pos (starEach [] X.env)).any (·.1) || (backToKw pos (keywordEach kws X.env)).any (·.1.isNone)) = false := by rfl) :
    PE X (.Call (.Name x p) [] kws pos) (tMakeK C 0 ks.length sp gV E tNil tk) := by
  refine ⟨fun pins s σ H Q I h => wpAny_Call_Name_kw (ld_glob I hg hm ?_ hdb)⟩
  refine PySem.W.callWith_KW0 (h₀ := X.base) I.ok.mod.kin M.kp hall ?_ hpl
  refine thn (hkw.run pos pins s σ H _ I h) fun ws s2 ⟨zs, H2, I2, rz, l1, l2, q2⟩ => ⟨I2.kIn, ?_⟩
  rw [hks]
  exact run_mkk (us := []) (vs := []) M G hr hj hx I2 .nil rz rfl l2 q2
/-- f(k = v, ..) -/
theorem pe_gk0 (G : Gk X.prog X.w X.K X.mg X.base CX k f ps 0 ks gV sp) (hm : X.mg x = some (.ref f)) (hr : RG j X.A) (hj : k ≤ j) (hx : Passes CX X E) (hkw : PK X kws tk) (hg : Gl X x := by rfl)
    (hall : (backToKw pos (keywordEach kws X.env)).all (·.1.isSome) = true := by rfl) (hks : (backToKw pos (keywordEach kws X.env)).filterMap (·.1) = ks := by rfl) (hdb : (x == ("__debug__" : Str)) = false := by decide)
    (hpl : ((backTo pos (starEach [] X.env)).any (·.1) || (backToKw pos (keywordEach kws X.env)).any (·.1.isNone)) = false := by rfl) :
    PE X (.Call (.Name x p) [] kws pos) (tCallN 0 ks.length sp gV E tNil tk) := by
  refine ⟨fun pins s σ H Q I h => wpAny_Call_Name_kw (ld_glob I hg hm ?_ hdb)⟩
  refine PySem.W.callWith_KW0 (h₀ := X.base) I.ok.mod.kin G.kp hall ?_ hpl
  refine thn (hkw.run pos pins s σ H _ I h) fun ws s2 ⟨zs, H2, I2, rz, l1, l2, q2⟩ => ⟨I2.kIn, ?_⟩
  rw [hks]
  exact run_gk (us := []) (vs := []) G hr hj hx I2 .nil rz l1 l2 q2
end
/-! str, repr of an own object; repr of data -/
section
variable {X : Cx} {CX : CXT} {k j : Nat} {f C : Addr} {ps : List Str} {sp : Sp}
/-- what a one-argument special def f of the class C gives of the object -/
theorem run_sp {A : Around} {pins : List (Addr × Obj)} {σ : L2.St} {H : Hp} {s : Shared} {Q : VK} {a : Addr} {R : Value → Shared → Prop} (G : Gf X.prog X.w X.K X.mg X.base CX0 k f ps [] sp) (hr : RG k A) (hf : A.frames = X.A.frames)
    (I : Inv X pins σ H s) (h : sp [.ref a] H Q E0) (hR : ∀ v H' u s', Inv X pins σ H' s' → RelV v u → Q v H' → R u s') : wpAny (model X.prog X.w) A (call (.ref f) [.ref a]) R X.xe s := by
  have e0 : Env0 X.prog X.w X.K X.mg X.base A X.stack s H := ⟨by rw [hf]; exact I.ok.frames, I.env0.mod, I.env0.bs, I.env0.bsz, I.env0.funs, I.env0.frf, I.env0.hok, I.env0.bare⟩
  refine wpAny_call (codeAny_mono (G.go (outer := X.stack) (us := [.ref a]) (vs := [.ref a]) hr (Nat.le_refl _) e0 I.kIn (.cons rfl .nil) h) fun y s' hq => ?_)
  match y, hq with
  | .error er, hq => exact hq.elim
  | .ok (.ret u), hq =>
    obtain ⟨v, H', I3, rv, q3⟩ := I.after hq
    exact hR v H' u s' I3 rv q3
def rStrOwn (C : Addr) (sp : Sp) : List V → Hp → VK → Prop := fun xs H Q => ∃ a dx fs, xs = [.ref a] ∧ H a = some (.ins C dx fs) ∧ sp [.ref a] H (fun v H' => ∃ y : Str, v = .str y ∧ Q v H') E0
theorem call_strOwn (G : Gf X.prog X.w X.K X.mg X.base CX0 k f ps [] sp) (hs : PySem.W.findIn X.K (.ref C) "__str__" = some (some (.ref f))) (hf : PySem.W.isFn X.K (.ref f) = true) (hr : RG j X.A) (hj : k + 2 ≤ j) : CallR X (.type "str") (rStrOwn C sp) := by
  intro pins s σ H xs us Q I r h
  obtain ⟨a, dx, fs, rfl, ea, h1⟩ := h
  obtain ⟨u, rfl, rx⟩ := vals1 r
  obtain rfl : u = Value.ref a := rx
  obtain ⟨mA, O, _⟩ := ins_get I.hok ea
  obtain ⟨od, J, _⟩ := O.look
  have hr2 : RG (k + 2) X.A := hr.mono hj
  refine PySem.W.kso_call hr2.in1.in1.r.units0 I.kIn J hs hf (run_sp G hr2.in1.in1 rfl I h1 fun v H' u s' I' rv q => ?_)
  obtain ⟨y, rfl, q⟩ := q
  obtain ⟨t, rfl⟩ := rv
  exact ⟨.str y, H', I', ⟨t, rfl⟩, q⟩
theorem call_reprOwn (G : Gf X.prog X.w X.K X.mg X.base CX0 k f ps [] sp) (hs : PySem.W.findIn X.K (.ref C) "__repr__" = some (some (.ref f))) (hf : PySem.W.isFn X.K (.ref f) = true) (hr : RG j X.A) (hj : k + 1 ≤ j) : CallR X (.builtin "repr") (rStrOwn C sp) := by
  intro pins s σ H xs us Q I r h
  obtain ⟨a, dx, fs, rfl, ea, h1⟩ := h
  obtain ⟨u, rfl, rx⟩ := vals1 r
  obtain rfl : u = Value.ref a := rx
  obtain ⟨mA, O, _⟩ := ins_get I.hok ea
  obtain ⟨od, J, _⟩ := O.look
  obtain ⟨m, hF⟩ := I.fr
  have hr2 : RG (k + 1) X.A := hr.mono hj
  refine PySem.W.repr_K hr2.in1.r.units0 hF I.ok.mod.kin J hs hf (run_sp G hr2.in1 rfl I h1 fun v H' u s' I' rv q => ?_)
  obtain ⟨y, rfl, q⟩ := q
  obtain ⟨t, rfl⟩ := rv
  exact ⟨.str y, H', I', ⟨t, rfl⟩, q⟩
/-- repr of a list or tuple of data -/
def rRepr (K : PySem.W.Frag) : List V → Hp → VK → Prop := fun xs H Q => ∃ a d, xs = [.ref a] ∧ Dp K H (.ref a) d ∧ d.showable = true ∧ d.hasDict = false ∧ d.depth ≤ 50 ∧ d.shown.length ≤ sizeLine ∧ Q (.str d.shown) H
theorem call_reprD (hr : RG j X.A) : CallR X (.builtin "repr") (rRepr X.K) := by
  intro pins s σ H xs us Q I r h
  obtain ⟨a, d, rfl, hd, h1, h2, h3, h4, q⟩ := h
  obtain ⟨u, rfl, rx⟩ := vals1 r
  obtain ⟨as, R⟩ := Dp.reads I d _ _ hd rx
  obtain rfl : u = Value.ref a := rx
  refine repr_of_reads' R h1 (PyData.noDict_hsm h2) hr.g (by have := hr.units; omega) (fun _ _ z => z) (fun h' u tk hk => ?_) h4
  exact ⟨.str d.shown, H, I.kept (t' := tk) hk, ⟨u, rfl⟩, q⟩
end
end My

set_option Elab.async false
set_option linter.all false
set_option maxRecDepth 100000
set_option maxHeartbeats 4000000
/-! LayC: what a head tells of classes, as Bools -/
namespace My
open PySem PySem.Spec PyProof.Rows L2 He
def propB (K : PySem.W.Frag) (x m : Str) : Bool := eqO (PySem.W.findIn K (.ref (ga K x)) m) (some (some (.ref (ma K (ga K x) m)))) && (eqO (PySem.W.specialIn K (.ref (ma K (ga K x) m)) "__get__") (some (some (.builtin "property.__get__"))) &&
  (decide (PySem.W.takesIn K (.ref (ma K (ga K x) m)) = some true) && (match PySem.W.recIn K (ma K (ga K x) m) "property" with
    | some (.ref f :: _) => decide (f = Hk.wfA x "property" m K)
    | _ => false)))
theorem propB_ok {K : PySem.W.Frag} {x m : Str} (h : propB K x m = true) : PropOf K (ga K x) m (ma K (ga K x) m) (Hk.wfA x "property" m K) := by
  obtain ⟨h1, h⟩ := ba h
  obtain ⟨h2, h⟩ := ba h
  obtain ⟨h3, h4⟩ := ba h
  refine ⟨eqO_ok h1, eqO_ok h2, of_decide_eq_true h3, ?_⟩
  split at h4
  · rename_i f rest e
    exact ⟨rest, by rw [e, of_decide_eq_true h4]⟩
  · cases h4
def crB (K : PySem.W.Frag) (x : Str) : Bool := PySem.W.readsIn K (ga K x) (.type "type") && eqO (PySem.W.specialIn K (.ref (ga K x)) "__getattribute__") (some (some (.builtin "type.__getattribute__")))
theorem crB_ok {K : PySem.W.Frag} {x : Str} (h : crB K x = true) : ClX.CRead K (ga K x) (.type "type") := by
  obtain ⟨h1, h2⟩ := ba h
  exact ⟨h1, eqO_ok h2⟩
def cmB (K : PySem.W.Frag) (x m : Str) : Bool := (match PySem.W.findCls K (.ref (ga K x)) (.type "type") m with
    | some (.get (.builtin g) (.ref p) .none (.ref D)) => decide (g = "classmethod.__get__") && (decide (p = ma K (ga K x) m) && decide (D = ga K x))
    | _ => false) && ((match PySem.W.recIn K (ma K (ga K x) m) "classmethod" with
    | some (.ref f :: _) => decide (f = Hk.wfA x "classmethod" m K)
    | _ => false) && PySem.W.fnIn K (Hk.wfA x "classmethod" m K))
theorem cmB_ok {K : PySem.W.Frag} {x m : Str} (h : cmB K x m = true) : ClX.CMet K (ga K x) (.type "type") m (ma K (ga K x) m) (Hk.wfA x "classmethod" m K) := by
  obtain ⟨h1, h⟩ := ba h
  obtain ⟨h2, h3⟩ := ba h
  refine ⟨?_, ?_, h3⟩
  · split at h1
    · rename_i g p D e
      obtain ⟨e1, e2⟩ := ba h1
      obtain ⟨e2, e3⟩ := ba e2
      rw [e, of_decide_eq_true e1, of_decide_eq_true e2, of_decide_eq_true e3]
    · cases h1
  · split at h2
    · rename_i f rest e
      exact ⟨rest, by rw [e, of_decide_eq_true h2]⟩
    · cases h2
/-- isinstance may be asked of the class's instances -/
structure InsOk (K : PySem.W.Frag) (C : Addr) : Prop where
  cl : Cls K C
  ha : PySem.W.findIn K (.ref C) "__class__" = some (some (.builtin "object.__class__"))
  hn : PySem.W.specialIn K (.builtin "object.__class__") "__get__" = some (some (.builtin "getset_descriptor.__get__"))
  htk : PySem.W.takesIn K (.builtin "object.__class__") = some true
  hm : PySem.W.mroIn K C (.type "object") = some true
theorem InsOk.ty {K : PySem.W.Frag} {H : Hp} {a C dx : Addr} {fs : List (Str × V)} (i : InsOk K C) (e : H a = some (.ins C dx fs)) : TyX K H (.ref a) (.ref C) := .base (.ins e i.cl i.ha i.hn i.htk i.hm)
def insB (K : PySem.W.Frag) (x : Str) : Bool := eqO (PySem.W.findIn K (.ref (ga K x)) "__class__") (some (some (.builtin "object.__class__"))) && (eqO (PySem.W.specialIn K (.builtin "object.__class__") "__get__") (some (some (.builtin "getset_descriptor.__get__"))) &&
  (decide (PySem.W.takesIn K (.builtin "object.__class__") = some true) && decide (PySem.W.mroIn K (ga K x) (.type "object") = some true)))
theorem insB_ok {K : PySem.W.Frag} {x : Str} (c : Cls K (ga K x)) (h : insB K x = true) : InsOk K (ga K x) := by
  obtain ⟨h1, h⟩ := ba h
  obtain ⟨h2, h⟩ := ba h
  obtain ⟨h3, h4⟩ := ba h
  exact ⟨c, eqO_ok h1, eqO_ok h2, of_decide_eq_true h3, of_decide_eq_true h4⟩
/-- a special def of a class -/
def spB (K : PySem.W.Frag) (x m : Str) : Bool := eqO (PySem.W.findIn K (.ref (ga K x)) m) (some (some (.ref (ma K (ga K x) m)))) && PySem.W.isFn K (.ref (ma K (ga K x) m))
structure SpOk (K : PySem.W.Frag) (C : Addr) (m : Str) (f : Addr) : Prop where
  at_ : PySem.W.findIn K (.ref C) m = some (some (.ref f))
  fn : PySem.W.isFn K (.ref f) = true
theorem spB_ok {K : PySem.W.Frag} {x m : Str} (h : spB K x m = true) : SpOk K (ga K x) m (ma K (ga K x) m) := by
  obtain ⟨h1, h2⟩ := ba h
  exact ⟨eqO_ok h1, h2⟩
def isiB (K : PySem.W.Frag) (t c : Value) (b : Bool) : Bool := decide (PySem.W.kitOne K t c = some b)
theorem isiB_ok {K : PySem.W.Frag} {t c : Value} {b : Bool} (h : isiB K t c b = true) : PySem.W.kitOne K t c = some b := of_decide_eq_true h
theorem mg_ok {K : PySem.W.Frag} {x : Str} (h : (Fa.mkr x).ok K = true) : Mg K (ga K x) (ma K (ga K x) "__init__") := by
  obtain ⟨h1, h⟩ := ba h
  obtain ⟨h2, h⟩ := ba h
  obtain ⟨h3, h4⟩ := ba h
  exact ⟨h1, eqO_ok h2, h3, h4⟩
end My

set_option Elab.async false
set_option linter.all false
set_option maxRecDepth 100000
set_option maxHeartbeats 4000000
/-! LayD: the law's end, where it is known that no repr is under way -/
namespace My
open PySem PySem.Spec PyProof.Rows L2
/-- from an abstract heap in which the script alone may be tracked -/
theorem law_at {P : Program} {w : World} {K : PySem.W.Frag} {mg mb : Str → Option Value} {CX : CXT} {k : Nat} {fa a : Addr} {fd : FuncData} {x : Str} {sp : Sp} {t : Shared} {vs : List Value} {ns : List Int} {H : Hp}
    (KX : K.In t.heap) (hns : t.heap.Ns mainGlobals mg) (hb : t.heap.Ns builtinsNs mb) (hbb : ∀ x : Str, x ≠ "__name__" → mb x = bootBuiltins x) (hlim : t.heap.NoLimit) (hg : t.gens = #[])
    (ha : t.heap.get? a = some { cls := .type "list", data := .seq vs.toArray }) (hr : RG k callerA)
    (F : ∀ base : Heap, K.In base → base.Ns mainGlobals mg → FnG P w K mg base CX k fa fd [x] sp) (hbind : ∀ (s : Shared) (u : Value), BindsTo s fd ⟨[u], []⟩ [(x, u)])
    (hsp : sp [.ref a] H (fun v _ => v = .bl true) fun _ _ _ => False) (hCX : ∀ H e s', CX [] H t (fun _ _ _ => False) e s' → False)
    (hO : Only H) (hok : HOk P w H t.heap) (hA : ∀ b, H b ≠ none → b = a) (hK : H a ≠ none → K.lookup a = none) :
    codeAny (model P w) callerA (.call (.ref fa) ⟨[.ref a], []⟩) (fun r s' => r = .ok (.ret (.bool true)) ∧ OldK t.heap s'.heap ∧ s'.os = t.os ∧ AllBare s'.gens) t := by
  have off : ∀ {b : Addr}, (b = a → False) → H b = none := fun {b} n => Classical.byContradiction fun q => n (hA b q)
  have kb : K.In (hidT t.heap H) := fun b o e => hidT_get (KX b o e) (Classical.byContradiction fun q => by
    have z := hA b q
    subst z
    rw [hK q] at e
    cases e)
  have nsK : ∀ {b : Addr} {m : Str → Option Value}, t.heap.Ns b m → (hidT t.heap H).Ns b m := fun {b m} ⟨o, es, ep, e, d, r⟩ => ⟨o, es, ep, hidT_get e (off fun z => by
    subst z
    rw [ha] at e
    cases e
    have d2 : Data.seq vs.toArray _ = Data.dict es ep := d
    cases d2), d, r⟩
  have hM : Mod K mg (hidT t.heap H) := ⟨kb, nsK hns, ⟨mb, nsK hb, hbb⟩, let ⟨mc, h1, h2⟩ := hlim; ⟨mc, nsK h1, h2⟩⟩
  have e0 : Env0 P w K mg (hidT t.heap H) callerA [] t H := ⟨rfl, hM, fun b o e => of_hidT e, Nat.le_of_eq (hidT_size _ _), trivial, fun b z => (List.not_mem_nil (a := b) z).elim, hok, .of_eq hg⟩
  refine codeAny_mono ((F _ kb (nsK hns)).run callerA [] t H ⟨[.ref a], []⟩ [.ref a] [.ref a] _ _ hr e0 (hbind t (.ref a)) (.cons rfl .nil) hsp) fun y s' h => ?_
  match y, h with
  | .error e, h => exact (hCX H e s' h).elim
  | .ok (.ret u), h =>
    obtain ⟨v, H', os, bare, un, hok', r', q⟩ := h
    have q2 : v = .bl true := q
    subst q2
    obtain rfl : u = Value.bool true := r'
    refine ⟨rfl, OldK.of_keep fun b o e => ?_, os, bare⟩
    cases q : H b with
    | none => exact un.keep b o e q (fun z => (List.not_mem_nil (a := b) z).elim) (by simp)
    | some u =>
      rcases hO b with z | ⟨ob, xs, z⟩
      · rw [q] at z
        cases z
      · obtain ⟨e1, _⟩ := hok b _ z
        obtain ⟨e2, _⟩ := hok' b _ (un.frzs b ob _ z)
        rw [e] at e1
        cases e1
        exact e2
theorem law_g {P : Program} {w : World} {K : PySem.W.Frag} {mg mb : Str → Option Value} {CX : CXT} {k : Nat} {fa a : Addr} {fd : FuncData} {x : Str} {sp : Sp} {t : Shared} {vs : List Value} {ns : List Int}
    (KX : K.In t.heap) (hns : t.heap.Ns mainGlobals mg) (hb : t.heap.Ns builtinsNs mb) (hbb : ∀ x : Str, x ≠ "__name__" → mb x = bootBuiltins x) (hlim : t.heap.NoLimit) (hg : t.gens = #[])
    (ha : t.heap.get? a = some { cls := .type "list", data := .seq vs.toArray }) (hi : IntsAre vs ns) (hl : ns.length ≤ sizeLine) (hr : RG k callerA)
    (F : ∀ base : Heap, K.In base → base.Ns mainGlobals mg → FnG P w K mg base CX k fa fd [x] sp) (hbind : ∀ (s : Shared) (u : Value), BindsTo s fd ⟨[u], []⟩ [(x, u)])
    (hsp : ∀ H : Hp, Only H → SqL K H a (ns.map V.int) → sp [.ref a] H (fun v _ => v = .bl true) fun _ _ _ => False) (hCX : ∀ H e s', CX [] H t (fun _ _ _ => False) e s' → False) :
    codeAny (model P w) callerA (.call (.ref fa) ⟨[.ref a], []⟩) (fun r s' => r = .ok (.ret (.bool true)) ∧ OldK t.heap s'.heap ∧ s'.os = t.os ∧ AllBare s'.gens) t := by
  have rv := vals_ints hi
  cases hk : K.lookup a with
  | some o =>
    have e := KX a o hk
    rw [ha] at e
    cases e
    have O : Only (fun _ => none) := fun _ => .inl rfl
    exact law_at (ns := ns) KX hns hb hbb hlim hg ha hr F hbind (hsp _ O (.inr ⟨_, vs.toArray, _, hk, rfl, rfl, rfl, by rw [List.size_toArray, hi.length]; exact hl, by simpa using rv⟩)) hCX O (fun b u z => by cases (show (none : Option HO) = some u from z)) (fun b z => absurd rfl z) fun z => absurd rfl z
  | none =>
    let ob : Obj := { cls := .type "list", data := .seq vs.toArray }
    let H : Hp := fun b => if b = a then some (.frz ob (.lst (ns.map V.int))) else none
    have Ha : H a = some (.frz ob (.lst (ns.map V.int))) := if_pos rfl
    have Hn : ∀ {b}, b ≠ a → H b = none := fun {b} z => if_neg z
    have O : Only H := fun b => by
      by_cases z : b = a
      · exact .inr ⟨_, _, if_pos z⟩
      · exact .inl (Hn z)
    refine law_at (H := H) (ns := ns) KX hns hb hbb hlim hg ha hr F hbind (hsp H O (.inl (.inr ⟨ob, Ha⟩))) hCX O (fun b u z => ?_) (fun b z => Classical.byContradiction fun n => z (Hn n)) fun _ => hk
    by_cases n : b = a
    · subst n
      rw [Ha] at z
      cases z
      exact ⟨ha, by rw [List.length_map]; exact hl, vs, _, rv, ha⟩
    · rw [Hn n] at z
      cases z
theorem walk_g {l : PySem.W.OpenLaw} {n k : Nat} {q : Program} {loose : List Str} {XP : (Str → Option Value) → Heap → Prop} {YP : World → Heap → Prop} {d : DefRec} {x : Str}
    (hn : l.most = some n) (hn2 : n ≤ sizeLine) (hdf : d.params.defaults = []) (hr : RG k callerA)
    (F : ∀ (w : World) (mg : Str → Option Value) (fa : Addr) (h : Heap), YP w h → h.Ns mainGlobals mg → mg d.name = some (.ref fa) →
      ∃ (K : PySem.W.Frag) (fd : FuncData) (sp : Sp), K.In h ∧ (∀ (s : Shared) (u : Value), BindsTo s fd ⟨[u], []⟩ [(x, u)]) ∧
        (∀ (H : Hp) (a : Addr) (ns : List Int), ns.length ≤ n → SqL K H a (ns.map V.int) → sp [.ref a] H (fun v _ => v = .bl true) fun _ _ _ => False) ∧
        ∀ base : Heap, K.In base → base.Ns mainGlobals mg → FnG l.prog w K mg base CX0 k fa fd [x] sp) :
    PySem.W.WalkO q loose XP YP l.row.toRowW d [] (fun f vs => PySem.call f vs) := by
  refine Att.attach_call hn hdf fun w s₀ t mg mb fa o pm cd doc a vs ns G Y ho hd hcd hmg hobj hints hlen hg => ?_
  obtain ⟨K, fd, sp, KX, hb, hsp, hF⟩ := F w mg fa _ Y G.T.g hmg
  exact law_g KX G.T.g G.T.b G.T.builtins G.T.nolimit hg hobj hints (Nat.le_trans hlen hn2) hr hF hb (fun H _ hS => hsp H a ns hlen hS) fun H e s' z => z
end My

set_option Elab.async false
set_option linter.all false
set_option maxRecDepth 100000
set_option maxHeartbeats 4000000
/-! LayE: heaps, lists, texts: steps -/
namespace My
open PySem PySem.Spec PyProof.Rows L2
/-- all but p stands -/
def But (p : Addr) (H H' : Hp) : Prop := ∀ q o, q ≠ p → H q = some o → H' q = some o
theorem But.at {p q : Addr} {H H' : Hp} {o : HO} (b : But p H H') (n : q ≠ p) (h : H q = some o) : H' q = some o := b q o n h
theorem But.rfl {p : Addr} {H : Hp} : But p H H := fun _ _ _ h => h
theorem But.trans {p : Addr} {H H1 H2 : Hp} (a : But p H H1) (b : But p H1 H2) : But p H H2 := fun q o n h => b q o n (a q o n h)
theorem But.new {p r : Addr} {H H1 : Hp} {u : HO} (a : But p H H1) (n : H1 r = none) : But p H (upd H1 r u) := fun q o m h => by
  have z := a q o m h
  rw [upd_ne (ne_of_none z n)]
  exact z
theorem But.put {p : Addr} {H H1 : Hp} {u : HO} (a : But p H H1) : But p H (upd H1 p u) := fun q o m h => by
  rw [upd_ne m]
  exact a q o m h
/-- an object that H does not know changes -/
theorem But.own {p r : Addr} {H H1 : Hp} {u : HO} (a : But p H H1) (n : H r = none) : But p H (upd H1 r u) := fun q o m h => by
  rw [upd_ne (ne_of_none h n)]
  exact a q o m h
theorem But.none {p r : Addr} {H H1 : Hp} (a : But p H H1) (n : H1 r = none) (m : r ≠ p) : H r = none := by
  cases q : H r with
  | none => rfl
  | some o =>
    rw [a r o m q] at n
    cases n
theorem Same.at {q : Addr} {H H' : Hp} {o : HO} (b : Same H H') (h : H q = some o) : H' q = some o := b q o h
theorem Same.but {p : Addr} {H H' : Hp} (b : Same H H') : But p H H' := fun q o _ h => b q o h
theorem Same.new {r : Addr} {H H1 : Hp} {u : HO} (a : Same H H1) (n : H1 r = none) : Same H (upd H1 r u) := fun q o h => by
  have z := a q o h
  rw [upd_ne (ne_of_none z n)]
  exact z
theorem Same.own {r : Addr} {H H1 : Hp} {u : HO} (a : Same H H1) (n : H r = none) : Same H (upd H1 r u) := fun q o h => by
  rw [upd_ne (ne_of_none h n)]
  exact a q o h
theorem But.sqL {K : PySem.W.Frag} {p a : Addr} {H H' : Hp} {xs : List V} (b : But p H H') (n : a ≠ p) (h : SqL K H a xs) : SqL K H' a xs := by
  rcases h with (h | ⟨o, h⟩) | h
  · exact .inl (.inl (b _ _ n h))
  · exact .inl (.inr ⟨o, b _ _ n h⟩)
  · exact .inr h
section
variable {K : PySem.W.Frag} {σ : L2.St} {H : Hp} {nx bk ct : L2.St → Hp → Prop} {rt : VK} {ta tb tc te tv : TE} {Q : VK} {t u : TS} {g : TG} {tA : TA} {c d : TT} {R : Bool → Hp → Prop} {RA : List V → Hp → Prop} {N : L2.St → Hp → Prop}
theorem r_ixL {p : Addr} {xs : List V} {i : Int} {v : V} (h : SqL K H p xs) (e : atI xs i = some v) (q : Q v H) : rIxL K (.ref p) (.int i) H Q := ⟨p, xs, i, v, rfl, rfl, h, e, q⟩
theorem r_ixT {p : Addr} {xs : List V} {i : Int} {v : V} (h : SqT K H p xs) (e : atI xs i = some v) (q : Q v H) : rIxT K (.ref p) (.int i) H Q := ⟨p, xs, i, v, rfl, rfl, h, e, q⟩
theorem r_setL {p : Addr} {xs : List V} {v : V} {k : Int} {j : Nat} {F : Hp → Prop} (h : H p = some (.lst xs)) (e : ixN xs.length k = some j) (q : F (upd H p (.lst (xs.set j v)))) : rSetL (.ref p) (.int k) v H F := ⟨p, xs, k, j, rfl, rfl, h, e, q⟩
theorem r_gtup {a : Addr} {xs : List V} {n : Nat} {tg : TGs} (h : SqT K H a xs) (e : xs.length = n) (q : tg xs σ H N) : gTup K n tg (.ref a) σ H N := ⟨a, xs, rfl, h, e, q⟩
theorem r_gcons {v : V} {r : List V} {tg : TG} {us : TGs} (q : tg v σ H fun σ' H' => us r σ' H' N) : gCons tg us (v :: r) σ H N := ⟨v, r, rfl, q⟩
theorem r_gnil (q : N σ H) : gNil [] σ H N := ⟨rfl, q⟩
theorem r_sl {r : V → Option Int → Option Int → Hp → VK → Prop} {tl th : TO} (h : te σ H fun x H1 => tl σ H1 fun l H2 => th σ H2 fun u H3 => r x l u H3 Q) : tSl r te tl th σ H Q := h
theorem r_nopart {F : Option Int → Hp → Prop} (h : F none H) : tNoPart σ H F := h
theorem r_part {F : Option Int → Hp → Prop} (h : te σ H fun x H1 => ∃ i, x = .int i ∧ F (some i) H1) : tPart te σ H F := h
theorem r_pint {i : Int} {F : Int → Prop} (h : F i) : ∃ j, V.int i = .int j ∧ F j := ⟨i, rfl, h⟩
theorem r_slL {p : Addr} {xs : List V} {lo hi : Option Int} (h : SqL K H p xs) (q : ∀ r, H r = none → Q (.ref r) (upd H r (.lst (cutV xs lo hi)))) : rSlL K (.ref p) lo hi H Q := ⟨p, xs, rfl, h, q⟩
theorem r_lenS {p : Addr} {xs : List V} {F : List V → Prop} (h : SqL K H p xs ∨ SqT K H p xs) (q : F xs) : ∃ a ys, ([V.ref p] : List V) = [.ref a] ∧ (SqL K H a ys ∨ SqT K H a ys) ∧ F ys := ⟨p, xs, rfl, h, q⟩
theorem r_dm {i j : Int} {C : Int → Int → Prop} {F : Int → Int → Prop} (hc : C i j) (q : F i j) : ∃ a b, ([V.int i, V.int j] : List V) = [.int a, .int b] ∧ C a b ∧ F a b := ⟨i, j, rfl, hc, q⟩
theorem r_len {xs : List V} {B : Prop} (h : xs.length ≤ sizeLine) (q : B) : xs.length ≤ sizeLine ∧ B := ⟨h, q⟩
theorem f_fld {f : Str} {a C dx : Addr} {fs : List (Str × V)} {v : V} {F : V → Prop} (h : H a = some (.ins C dx fs)) (c : Cls K C) (n : NoAttr K C f) (l : fs.lookup f = some v) (q : F v) :
    ∃ a' C' dx' fs' v', V.ref a = .ref a' ∧ H a' = some (.ins C' dx' fs') ∧ Cls K C' ∧ NoAttr K C' f ∧ fs'.lookup f = some v' ∧ F v' := ⟨a, C, dx, fs, v, rfl, h, c, n, l, q⟩
theorem r_tfld {f : Str} (h : ta σ H fun x H1 => ∃ a C dx fs v, x = .ref a ∧ H1 a = some (.ins C dx fs) ∧ Cls K C ∧ NoAttr K C f ∧ fs.lookup f = some v ∧ Q v H1) : tFld K ta f σ H Q := h
theorem r_isi_ii {F : VK} (q : F (.bl true) H) : rIsi K [.int i, .ty "int"] H F := ⟨_, _, _, _, true, rfl, .ty _, .base (.int i), kit_ty (by decide +kernel), q⟩
theorem r_isi_ib {F : VK} {i : Int} (q : F (.bl false) H) : rIsi K [.int i, .ty "bool"] H F := ⟨_, _, _, _, false, rfl, .ty _, .base (.int i), kit_ty (by decide +kernel), q⟩
theorem r_isi_ss {F : VK} {s : Str} (q : F (.bl true) H) : rIsi K [.str s, .ty "str"] H F := ⟨_, _, _, _, true, rfl, .ty _, .base (.str s), kit_ty (by decide +kernel), q⟩
theorem r_isi_own {F : VK} {a C C2 dx : Addr} {fs : List (Str × V)} {b : Bool} (h : H a = some (.ins C dx fs)) (i : InsOk K C) (k : PySem.W.kitOne K (.ref C) (.ref C2) = some b) (q : F (.bl b) H) : rIsi K [.ref a, .ref C2] H F := ⟨_, _, _, _, b, rfl, .own _, i.ty h, k, q⟩
theorem r_isi_ty {F : VK} {a C dx : Addr} {fs : List (Str × V)} {b : Bool} {n : String} (h : H a = some (.ins C dx fs)) (i : InsOk K C) (k : PySem.W.kitOne K (.ref C) (.type n) = some b) (q : F (.bl b) H) : rIsi K [.ref a, .ty n] H F := ⟨_, _, _, _, b, rfl, .ty _, i.ty h, k, q⟩
theorem r_isi_int_own {F : VK} {i : Int} {C2 : Addr} {b : Bool} (k : PySem.W.kitOne K (.type "int") (.ref C2) = some b) (q : F (.bl b) H) : rIsi K [.int i, .ref C2] H F := ⟨_, _, _, _, b, rfl, .own _, .base (.int i), k, q⟩
theorem r_make {C : Addr} {sp : Sp} {dvs : List V} {E : XK} (h : tA σ H fun vs H1 => ∀ x dx, H1 x = none → H1 dx = none → dx ≠ x → sp (.ref x :: (vs ++ dvs)) (upd (upd H1 dx (.own x)) x (.ins C dx [])) (fun v H2 => v = .non ∧ Q (.ref x) H2) E) : tMake C sp dvs E tA σ H Q := h
theorem r_makeL {i : Nat} {C : Addr} {sp : Sp} {dvs : List V} {E : XK} (e : σ[i]? = some (some (.ref C))) (h : tMake C sp dvs E tA σ H Q) : tMakeL i C sp dvs E tA σ H Q := ⟨e, h⟩
theorem r_isN {v w : V} (hw : w = .non) (q : Q (.bl (decide (v = .non))) H) : w = .non ∧ Q (.bl (decide (v = .non))) H := ⟨hw, q⟩
end
section
theorem r_pow {i j z : Int} {H : Hp} {Q : VK} (hc : CPow i j) (e : i ^ j.toNat = z) (q : Q (.int z) H) : rI CPow (fun i j => .int (i ^ j.toNat)) (.int i) (.int j) H Q := by
  subst e
  exact r_i hc q
theorem and_i {A B : Prop} (a : A) (b : B) : A ∧ B := ⟨a, b⟩
end
/-! loops -/
/-- what is left of a for once it is known what is walked -/
def LoopG (J : It) (g : TG) (tb : TS) (D : Ends) (σ : L2.St) (H : Hp) : Prop := tFor (fun _ H R => R J H) g tb D σ H
section
variable {K : PySem.W.Frag} {σ : L2.St} {H : Hp} {nx bk ct : L2.St → Hp → Prop} {rt : VK} {tl : TE} {tb : TS} {g : TG} {tA : TA} {c : TT}
theorem r_forR1 (h : tA σ H fun vs H1 => ∃ j : Int, vs = [.int j] ∧ -(2 ^ 62) ≤ j ∧ j < 2 ^ 62 ∧ LoopG (Itr 0 j.toNat) g tb ⟨nx, rt, bk, ct⟩ σ H1) : tFor (iRng1 tA) g tb ⟨nx, rt, bk, ct⟩ σ H := h
theorem r_forR2 (h : tA σ H fun vs H1 => ∃ i j : Int, vs = [.int i, .int j] ∧ (-(2 ^ 62) ≤ i ∧ i < 2 ^ 62 ∧ -(2 ^ 62) ≤ j ∧ j < 2 ^ 62) ∧ LoopG (Itr i (j - i).toNat) g tb ⟨nx, rt, bk, ct⟩ σ H1) : tFor (iRng2 tA) g tb ⟨nx, rt, bk, ct⟩ σ H := h
theorem r_forL (h : tl σ H fun x H1 => ∃ a, x = .ref a ∧ (∃ xs, SqL K H1 a xs) ∧ LoopG (Itl K a) g tb ⟨nx, rt, bk, ct⟩ σ H1) : tFor (iList K tl) g tb ⟨nx, rt, bk, ct⟩ σ H := h
theorem r_forT (h : tl σ H fun x H1 => ∃ a, x = .ref a ∧ (∃ xs, SqT K H1 a xs) ∧ LoopG (Itt K a) g tb ⟨nx, rt, bk, ct⟩ σ H1) : tFor (iTup K tl) g tb ⟨nx, rt, bk, ct⟩ σ H := h
theorem r_ref1 {p : Addr} {F : Addr → Prop} (h : F p) : ∃ a, V.ref p = .ref a ∧ F a := ⟨p, rfl, h⟩
theorem r_ex {xs : List V} {F : List V → Prop} {B : Prop} (h : F xs) (q : B) : (∃ ys, F ys) ∧ B := ⟨⟨xs, h⟩, q⟩
theorem lp_range {lo : Int} {n : Nat} (Pv : Nat → L2.St → Hp → Prop) (h0 : Pv 0 σ H) (hs : ∀ i σ H, i < n → Pv i σ H → g (.int (lo + i)) σ H fun σ2 H2 => tb ⟨Pv (i + 1), rt, nx, Pv (i + 1)⟩ σ2 H2) (hd : ∀ σ H, Pv n σ H → nx σ H) :
    LoopG (Itr lo n) g tb ⟨nx, rt, bk, ct⟩ σ H := for_range (D := ⟨nx, rt, bk, ct⟩) Pv h0 hs hd
theorem lp_list {a : Addr} {xs : List V} (Pv : Nat → L2.St → Hp → Prop) (h0 : Pv 0 σ H) (hl : ∀ i σ H, i ≤ xs.length → Pv i σ H → SqL K H a xs)
    (hs : ∀ i x σ H, xs[i]? = some x → Pv i σ H → g x σ H fun σ2 H2 => tb ⟨Pv (i + 1), rt, nx, Pv (i + 1)⟩ σ2 H2) (hd : ∀ σ H, Pv xs.length σ H → nx σ H) :
    LoopG (Itl K a) g tb ⟨nx, rt, bk, ct⟩ σ H := for_list (D := ⟨nx, rt, bk, ct⟩) Pv h0 hl hs hd
theorem lp_tup {a : Addr} {xs : List V} (Pv : Nat → L2.St → Hp → Prop) (h0 : Pv 0 σ H) (hl : ∀ i σ H, i ≤ xs.length → Pv i σ H → SqT K H a xs)
    (hs : ∀ i x σ H, xs[i]? = some x → Pv i σ H → g x σ H fun σ2 H2 => tb ⟨Pv (i + 1), rt, nx, Pv (i + 1)⟩ σ2 H2) (hd : ∀ σ H, Pv xs.length σ H → nx σ H) :
    LoopG (Itt K a) g tb ⟨nx, rt, bk, ct⟩ σ H := for_tup (D := ⟨nx, rt, bk, ct⟩) Pv h0 hl hs hd
theorem lp_while (Pv : L2.St → Hp → Prop) (μ : L2.St → Hp → Nat) (h0 : Pv σ H)
    (hs : ∀ σ H, Pv σ H → c σ H fun b H1 => if b = true then (∃ N : L2.St → Hp → Prop, (∀ σ' H', N σ' H' → ∃ m', m' < μ σ H ∧ (m' = μ σ' H' ∧ Pv σ' H')) ∧ tb ⟨N, rt, nx, N⟩ σ H1) else nx σ H1) : tWhile c tb ⟨nx, rt, bk, ct⟩ σ H := by
  refine ⟨fun m σ H => m = μ σ H ∧ Pv σ H, ⟨_, rfl, h0⟩, ?_⟩
  rintro m σ H ⟨rfl, p⟩
  exact hs σ H p
theorem w_turn {Pv : L2.St → Hp → Prop} {μ : L2.St → Hp → Nat} {m : Nat} (h : tb ⟨fun σ' H' => Pv σ' H' ∧ μ σ' H' < m, rt, nx, fun σ' H' => Pv σ' H' ∧ μ σ' H' < m⟩ σ H) :
    ∃ N : L2.St → Hp → Prop, (∀ σ' H', N σ' H' → ∃ m', m' < m ∧ (m' = μ σ' H' ∧ Pv σ' H')) ∧ tb ⟨N, rt, nx, N⟩ σ H := ⟨_, fun σ' H' q => ⟨_, q.2, rfl, q.1⟩, h⟩
end
theorem call_divmodA {X : Cx} : CallR X (.builtin "divmod") (fun xs H Q => ∃ i j, xs = [.int i, .int j] ∧ CDivW i j ∧ ∀ p, H p = none → Q (.ref p) (upd H p (.tup [.int (i / j), .int (i % j)]))) := by
  intro pins s σ H xs us Q I r h
  obtain ⟨i, j, rfl, hc, q⟩ := h
  exact call_divmodW pins s σ H _ us Q I r ⟨i, j, rfl, ⟨hc.1, PyProof.noPylong_of_log2 hc.2⟩, q⟩
/-- a product one of whose factors is below 2 ^ 64 -/
theorem ml {i j : Int} (h1 : -(2 ^ 64) < i) (h2 : i < 2 ^ 64) : IntMulOk i j := CMul.ok (.inl ⟨h1, h2⟩)
theorem mr {i j : Int} (h1 : -(2 ^ 64) < j) (h2 : j < 2 ^ 64) : IntMulOk i j := CMul.ok (.inr ⟨h1, h2⟩)
theorem sz {n : Nat} (h : n ≤ 1000) : n ≤ sizeLine := Nat.le_trans h (by decide)
theorem szl {n : Nat} (h : n ≤ 1000) : n < sizeLine := Nat.lt_of_le_of_lt h (by decide)
theorem atI_map {ns : List Int} {i : Int} (h0 : 0 ≤ i) (h : i < ns.length) : atI (ns.map V.int) i = some (.int (ns.getD i.toNat 0)) := by
  obtain ⟨k, rfl⟩ := Int.eq_ofNat_of_zero_le h0
  refine atI_nat ?_
  have hk : k < ns.length := by omega
  rw [List.getElem?_map, List.getElem?_eq_getElem hk, Int.toNat_natCast, List.getD_eq_getElem?_getD, List.getElem?_eq_getElem hk] <;> rfl
theorem cut_map (ns : List Int) (lo hi : Option Int) : ∃ ms : List Int, cutV (ns.map V.int) lo hi = ms.map V.int ∧ ms.length ≤ ns.length := by
  refine ⟨(ns.drop (HT.sIx ns.length 0 lo)).take (HT.sIx ns.length ns.length hi - HT.sIx ns.length 0 lo), ?_, ?_⟩
  · unfold cutV
    rw [List.length_map, List.map_take, List.map_drop]
  · rw [List.length_take, List.length_drop]
    omega
theorem pickV {xs : List V} {i : Int} (h0 : 0 ≤ i) (h : i < xs.length) : ∃ v, atI xs i = some v ∧ v ∈ xs := by
  obtain ⟨k, rfl⟩ := Int.eq_ofNat_of_zero_le h0
  have hk : k < xs.length := by omega
  exact ⟨xs[k], atI_nat (List.getElem?_eq_getElem hk), List.getElem_mem hk⟩
theorem pickI (xs : List Int) {i : Int} (h0 : 0 ≤ i) (h : i < xs.length) : ∃ z, atI (xs.map V.int) i = some (.int z) ∧ z ∈ xs := by
  obtain ⟨v, e, m⟩ := pickV (xs := xs.map V.int) h0 (by rw [List.length_map]; exact h)
  obtain ⟨z, hz, rfl⟩ := List.mem_map.mp m
  exact ⟨z, e, hz⟩
/-- an item of a list of ints -/
theorem get_map {ns : List Int} {i : Nat} {y : V} (h : (ns.map V.int)[i]? = some y) : ∃ z, y = .int z ∧ ns[i]? = some z ∧ i < ns.length := by
  rw [List.getElem?_map] at h
  cases e : ns[i]? with
  | none =>
    rw [e] at h
    cases h
  | some z =>
    rw [e] at h
    exact ⟨z, (Option.some.inj h).symm, rfl, (List.getElem?_eq_some_iff.mp e).1⟩
/-- a divisor below 2 ^ 60 -/
theorem dv {i j : Int} (h1 : 0 < j) (h2 : j < 2 ^ 60) : CDivW i j := wide_div (b := 60) h1 (by omega) (by decide) (by decide)
end My

set_option Elab.async false
set_option linter.all false
set_option maxRecDepth 100000
set_option maxHeartbeats 4000000
/-! LayF: sizes of ints, texts of ints, more steps, comparisons of data, list comprehensions -/
namespace My
open PySem PySem.Builtin PySem.Builtin.Str PySem.Spec PyProof.Rows L2 SX
/-! ### sizes -/
def Bd (b : Nat) (i : Int) : Prop := i.natAbs < 2 ^ b
theorem Bd.of {b : Nat} {i : Int} (h1 : -(2 ^ b) < i) (h2 : i < 2 ^ b) : Bd b i := by
  have e : ((2 : Nat) ^ b : Int) = (2 : Int) ^ b := rfl
  unfold Bd
  have z : ((2 ^ b : Nat) : Int) = (2 : Int) ^ b := by push_cast; rfl
  omega
theorem Bd.mono {a b : Nat} {i : Int} (h : Bd a i) (hab : a ≤ b) : Bd b i := Nat.lt_of_lt_of_le h (Nat.pow_le_pow_right (by decide) hab)
theorem Bd.mul {a b : Nat} {i j : Int} (h : Bd a i) (k : Bd b j) : Bd (a + b) (i * j) := by
  unfold Bd at *
  rw [Int.natAbs_mul, Nat.pow_add]
  exact Nat.mul_lt_mul_of_lt_of_le h (Nat.le_of_lt k) (Nat.pow_pos (by decide))
theorem Bd.add {a b : Nat} {i j : Int} (h : Bd a i) (k : Bd b j) : Bd (a + b + 1) (i + j) := by
  unfold Bd at *
  have h1 : (2 : Nat) ^ a ≤ 2 ^ (a + b) := Nat.pow_le_pow_right (by decide) (by omega)
  have h2 : (2 : Nat) ^ b ≤ 2 ^ (a + b) := Nat.pow_le_pow_right (by decide) (by omega)
  have h3 : (2 : Nat) ^ (a + b + 1) = 2 ^ (a + b) * 2 := Nat.pow_succ ..
  omega
theorem Bd.neg {a : Nat} {i : Int} (h : Bd a i) : Bd a (-i) := by
  unfold Bd at *
  rw [Int.natAbs_neg]
  exact h
theorem Bd.sub {a b : Nat} {i j : Int} (h : Bd a i) (k : Bd b j) : Bd (a + b + 1) (i - j) := by
  rw [Int.sub_eq_add_neg]
  exact h.add k.neg
theorem Bd.le {a : Nat} {i j : Int} (h : Bd a i) (k : j.natAbs ≤ i.natAbs) : Bd a j := Nat.lt_of_le_of_lt k h
theorem Bd.quo {a : Nat} {i : Int} (h : Bd a i) (j : Int) : Bd a (i / j) := h.le (Int.natAbs_ediv_le_natAbs i j)
theorem Bd.rem {a : Nat} {i j : Int} (h : Bd a j) (h0 : 0 < j) : Bd a (i % j) := h.le (by
  have h1 := Int.emod_nonneg i (show j ≠ 0 by omega)
  have h2 := Int.emod_lt_of_pos i h0
  omega)
theorem Bd.mulOk {a b : Nat} {i j : Int} (h : Bd a i) (k : Bd b j) (h0 : 0 < a) (h1 : 0 < b) (hs : a + b ≤ 1000000) : IntMulOk i j := CMulW.ok (wide_mul h k h0 h1 hs)
theorem Bd.div {b : Nat} {i j : Int} (h : Bd b j) (hp : 0 < j) (h0 : 0 < b) (h9 : b ≤ 9000) : CDivW i j := wide_div hp h h0 h9
theorem Bd.lg {b : Nat} {i : Int} (h : Bd b i) (h0 : 0 < b) (h9 : b ≤ 1920) : i.natAbs.log2 < 1920 := Nat.lt_of_lt_of_le (PySem.Flt.log2_lt_of h0 h) h9
theorem Bd.ten {k : Nat} {i : Int} (h1 : -(10 ^ k) < i) (h2 : i < 10 ^ k) : Bd (4 * k) i := by
  unfold Bd
  have e : (2 : Nat) ^ (4 * k) = 16 ^ k := by rw [Nat.pow_mul] <;> rfl
  have l : (10 : Nat) ^ k ≤ 16 ^ k := Nat.pow_le_pow_left (by decide) k
  have z : ((10 ^ k : Nat) : Int) = (10 : Int) ^ k := by push_cast; rfl
  omega
/-! ### texts of ints -/
def intL (i : Int) : List Nat := if i < 0 then 45 :: TL.numL i.natAbs else TL.numL i.natAbs
theorem intL_neg {i : Int} (h : i < 0) : intL i = 45 :: TL.numL i.natAbs := if_pos h
theorem intL_nn {i : Int} (h : ¬ i < 0) : intL i = TL.numL i.natAbs := if_neg h
theorem txt_int (i : Int) : Str.ofString (toString i) = S (intL i) := by
  by_cases h : i < 0
  · obtain ⟨n, rfl⟩ : ∃ n : Nat, i = Int.negSucc n := by
      cases i with
      | ofNat n => exact absurd h (by simp)
      | negSucc n => exact ⟨n, rfl⟩
    rw [intL_neg h]
    refine TL.ext_tl ?_
    rw [TL.tl_ofString]
    have e : toString (Int.negSucc n) = "-" ++ toString (n + 1) := rfl
    rw [e, String.toList_append, List.map_append]
    have e2 := TL.tl_num (n + 1)
    rw [TL.tl_ofString] at e2
    have e3 : toString (((n + 1 : Nat)) : Int) = toString (n + 1) := rfl
    rw [e3] at e2
    rw [e2]
    rfl
  · obtain ⟨n, rfl⟩ := Int.eq_ofNat_of_zero_le (Int.not_lt.mp h)
    rw [intL_nn h, num_S, Int.natAbs_natCast]
theorem numL_first {n : Nat} (h : 0 < n) : ∃ c l, TL.numL n = c :: l ∧ c ≠ 48 := by
  induction n using Nat.strongRecOn with
  | _ n ih =>
    by_cases h10 : n < 10
    · exact ⟨48 + n, [], TL.numL_lt h10, by omega⟩
    · obtain ⟨c, l, e, hc⟩ := ih (n / 10) (by omega) (by omega)
      exact ⟨c, l ++ [48 + n % 10], by rw [TL.numL_step (by omega), e] <;> rfl, hc⟩
theorem intL_len {k : Nat} {i : Int} (hk : 0 < k) (h1 : -(10 ^ k) < i) (h2 : i < 10 ^ k) : (intL i).length ≤ k + 1 := by
  have z : ((10 ^ k : Nat) : Int) = (10 : Int) ^ k := by push_cast; rfl
  have hn : i.natAbs < 10 ^ k := by omega
  have l := TL.numL_len hk hn
  unfold intL
  split
  · rw [List.length_cons]
    omega
  · omega
theorem bd_numL {b : Nat} {n : Nat} (hb : 0 < b) (h : n < 2 ^ b) : (TL.numL n).length ≤ b := TL.numL_len hb (Nat.lt_of_lt_of_le h (Nat.pow_le_pow_left (by decide) b))
theorem bd_intL {b : Nat} {i : Int} (hb : 0 < b) (h : Bd b i) : (intL i).length ≤ b + 1 := by
  have l := bd_numL hb h
  unfold intL
  split
  · rw [List.length_cons]
    omega
  · omega
theorem intL_free {i : Int} {s : Nat} (h : s < 48 ∨ 57 < s) (h2 : s ≠ 45) : s ∉ intL i := by
  unfold intL
  split
  · intro z
    rcases List.mem_cons.mp z with z | z
    · exact h2 z
    · exact TL.numL_free h z
  · exact TL.numL_free h
theorem intL_ne (i : Int) : intL i ≠ [] := by
  unfold intL
  split
  · exact List.cons_ne_nil _ _
  · exact TL.numL_ne _
theorem intL_val {i : Int} (h : (intL i).length ≤ 4300) : intText? (S (intL i)) = some i := by
  by_cases hi : i < 0
  · rw [intL_neg hi] at h ⊢
    have e := PySem.intText_neg (x := S (45 :: TL.numL i.natAbs)) rfl (TL.numL_digits _) (TL.numL_ne _) (by rw [S_len]; exact h)
    rw [e, TL.numL_val]
    congr 1
    omega
  · rw [intL_nn hi] at h ⊢
    have e := PySem.intText_digits (x := S (TL.numL i.natAbs)) (TL.numL_digits _) (TL.numL_ne _) (by rw [S_len]; exact h)
    rw [e]
    show some ((PySem.NumText.digitsVal (TL.numL i.natAbs) : Nat) : Int) = some i
    rw [TL.numL_val]
    congr 1
    omega
theorem intL_inj {i j : Int} (h : intL i = intL j) : i = j := by
  have hd : ∀ n, ∃ c l, TL.numL n = c :: l ∧ 48 ≤ c := fun n => by
    have d := TL.numL_digits n
    have e := TL.numL_ne n
    revert d e
    generalize TL.numL n = q
    intro d e
    match q, d, e with
    | [], _, e => exact (e rfl).elim
    | c :: l, d, _ => exact ⟨c, l, rfl, (d c (List.mem_cons_self ..)).1⟩
  unfold intL at h
  split at h <;> split at h
  · have e := TL.numL_inj (List.cons.inj h).2
    omega
  · obtain ⟨c, l, e, hc⟩ := hd j.natAbs
    rw [e] at h
    have := (List.cons.inj h).1
    omega
  · obtain ⟨c, l, e, hc⟩ := hd i.natAbs
    rw [e] at h
    have := (List.cons.inj h).1
    omega
  · have e := TL.numL_inj h
    omega
theorem starts1 (c d : Nat) (l : List Nat) : Txt.startswith (S (c :: l)) (S [d]) = decide (c = d) := by
  unfold Txt.startswith
  rw [S_len, S_len]
  have e1 : decide (0 + [d].length ≤ (c :: l).length) = true := decide_eq_true (by simp)
  rw [e1, Bool.true_and]
  have e2 : subAt (S (c :: l)) (S [d]) 0 = (c == d) := by
    unfold subAt
    simp [S, Str.length]
  rw [e2]
  cases h : (c == d) with
  | true => rw [decide_eq_true (eq_of_beq h)]
  | false => rw [decide_eq_false (by intro z; rw [z, beq_self_eq_true] at h; cases h)]
theorem isdig {l : List Nat} (h : PySem.NumText.AllDigits l) (hn : l ≠ []) : Txt.isdigit (S l) = true := by
  unfold Txt.isdigit
  have e1 : decide ((S l).length > 0) = true := decide_eq_true (by rw [S_len]; exact List.length_pos_iff.mpr hn)
  rw [e1, Bool.true_and]
  show (S l).cps.all Unicode.isDigit = true
  rw [← Array.all_toList, List.all_eq_true]
  intro c hc
  have hc2 : c ∈ l := hc
  obtain ⟨a, b⟩ := h c hc2
  have all : ∀ k : Nat, k < 10 → Unicode.isDigit (48 + k) = true := by decide +kernel
  have := all (c - 48) (by omega)
  rwa [show 48 + (c - 48) = c by omega] at this
theorem cut_tail (c : Nat) (l : List Nat) : cutS (S (c :: l)) (some 1) none = S l := by
  unfold cutS
  refine congrArg S ?_
  rw [S_len]
  show List.take (HT.sIx (c :: l).length (c :: l).length none - HT.sIx (c :: l).length 0 (some 1)) (List.drop (HT.sIx (c :: l).length 0 (some 1)) (c :: l)) = l
  have e1 : HT.sIx (c :: l).length 0 (some 1) = 1 := by
    simp [HT.sIx]
  have e2 : HT.sIx (c :: l).length (c :: l).length none = l.length + 1 := by
    simp [HT.sIx]
  rw [e1, e2]
  simp
theorem split1 {p : List Nat} {c : Nat} (hk : c < 256) (h : c ∉ p) : Txt.split (S p) (S [c]) = [S p] := by
  rw [split_S (List.cons_ne_nil _ _) (by simp [hk])]
  have e := spl_join (c := c) (sep := []) (parts := [p]) (List.cons_ne_nil _ _) (by simpa using h)
  have j : TL.joinL [c] [p] = p := by simp [TL.joinL]
  rw [j] at e
  rw [e]
  rfl
theorem split2 {p q : List Nat} {c : Nat} (hk : c < 256) (h : c ∉ p) (h2 : c ∉ q) : Txt.split (S (p ++ c :: q)) (S [c]) = [S p, S q] := by
  rw [split_S (List.cons_ne_nil _ _) (by simp [hk])]
  have e := spl_join (c := c) (sep := []) (parts := [p, q]) (List.cons_ne_nil _ _) (by simp [h, h2])
  have j : TL.joinL [c] [p, q] = p ++ c :: q := by simp [TL.joinL]
  rw [j] at e
  rw [e]
  rfl
theorem cat_S (a b : Str) : a ++ b = S (a.cps.toList ++ b.cps.toList) := TL.ext_tl (TL.tl_append a b)
theorem lcat (a b : Str) : (a ++ b).length = a.length + b.length := by
  rw [cat_S, S_len, List.length_append]
  rfl
theorem at_new {H : Hp} {a l : Addr} {o u : HO} (n : H l = none) (h : H a = some o) : upd H l u a = some o := (upd_ne (ne_of_none h n)).trans h
theorem at_or {H : Hp} {a l : Addr} {o u : HO} (h : H a = some o) (n : H l = none ∨ a ≠ l) : upd H l u a = some o := n.elim (fun n => at_new n h) fun n => (upd_ne n).trans h
theorem abs_nat (i : Int) : (if i < 0 then -i else i) = (i.natAbs : Int) := by split <;> omega
theorem same_made {H H' : Hp} {x dx C : Addr} {fs : List (Str × V)} (h1 : H x = none) (h2 : H dx = none) (b : But x (upd (upd H dx (.own x)) x (.ins C dx fs)) H') : Same H H' := fun q o h => by
  have q1 : q ≠ x := ne_of_none h h1
  have q2 : q ≠ dx := ne_of_none h h2
  exact b q o q1 (by rw [upd_ne q1, upd_ne q2]; exact h)
theorem sq_but {K : PySem.W.Frag} {H H1 H2 : Hp} {a p : Addr} {xs : List V} (h : SqL K H a xs) (n : H p = none) (s : Same H H1) (b : But p H1 H2) : SqL K H2 a xs := by
  rcases h with (h | ⟨o, h⟩) | h
  · exact .inl (.inl (b _ _ (ne_of_none h n) (s _ _ h)))
  · exact .inl (.inr ⟨o, b _ _ (ne_of_none h n) (s _ _ h)⟩)
  · exact .inr h
/-! ### more steps -/
section
variable {K : PySem.W.Frag} {σ : L2.St} {H : Hp} {nx bk ct : L2.St → Hp → Prop} {rt : VK} {ta tb tc te tv tl : TE} {Q : VK} {t u : TS} {g : TG} {tA tk : TA} {c d : TT} {R : Bool → Hp → Prop} {RA : List V → Hp → Prop} {N : L2.St → Hp → Prop} {C : Addr} {sp : Sp} {dvs : List V} {E : XK}
theorem r_fmt (h : te σ H fun x H1 => (∃ y : Str, x = .str y ∧ y.length ≤ sizeLine ∧ Q (.str y) H1) ∨ ∃ i : Int, x = .int i ∧ i.natAbs.log2 < 1920 ∧ Q (.str (toString i)) H1) : tFmt te σ H Q := h
theorem r_fmti {i : Int} {A : Prop} {F : Int → Prop} (h : i.natAbs.log2 < 1920) (q : F i) : A ∨ ∃ j : Int, V.int i = .int j ∧ j.natAbs.log2 < 1920 ∧ F j := .inr ⟨i, rfl, h, q⟩
theorem r_fmts {y : Str} {A : Prop} {F : Str → Prop} (h : y.length ≤ 1000) (q : F y) : (∃ z : Str, V.str y = .str z ∧ z.length ≤ sizeLine ∧ F z) ∨ A := .inl ⟨y, rfl, sz h, q⟩
theorem r_js0 {acc : Str} {F : Str → Hp → Prop} (h : F acc H) : tJs [] acc σ H F := h
theorem r_js {ts : List TE} {acc : Str} {F : Str → Hp → Prop} (h : te σ H fun x H1 => ∃ y : Str, x = .str y ∧ (acc ++ y).length ≤ sizeLine ∧ tJs ts (acc ++ y) σ H1 F) : tJs (te :: ts) acc σ H F := h
theorem r_jsp {acc y : Str} {F : Str → Prop} (h : (acc ++ y).length ≤ 1000) (q : F y) : ∃ z : Str, V.str y = .str z ∧ (acc ++ z).length ≤ sizeLine ∧ F z := ⟨y, rfl, sz h, q⟩
theorem r_strI {i : Int} {F : Int → Prop} (h : i.natAbs.log2 < 1920) (q : F i) : ∃ j : Int, ([V.int i] : List V) = [.int j] ∧ j.natAbs.log2 < 1920 ∧ F j := ⟨i, rfl, h, q⟩
theorem r_m0 {r : V → List V → Hp → VK → Prop} (h : ta σ H fun x H1 => (∃ a, x = .str a) ∧ r x [] H1 Q) : tM0 r ta σ H Q := h
theorem r_m1 {r : V → List V → Hp → VK → Prop} (h : ta σ H fun x H1 => (∃ a, x = .str a) ∧ tb σ H1 fun y H2 => r x [y] H2 Q) : tM1 r ta tb σ H Q := h
theorem r_str {a : Str} {B : Prop} (h : B) : (∃ b, V.str a = .str b) ∧ B := ⟨⟨a, rfl⟩, h⟩
theorem r_ss {a b : Str} {F : Str → Str → Prop} (h : F a b) : ∃ x y, V.str a = .str x ∧ ([V.str b] : List V) = [.str y] ∧ F x y := ⟨a, b, rfl, rfl, h⟩
theorem r_s0 {a : Str} {F : Str → Prop} (h : F a) : ∃ x, V.str a = .str x ∧ ([] : List V) = [] ∧ True ∧ F x := ⟨a, rfl, rfl, trivial, h⟩
theorem r_addS {a b : Str} {F : Str → Str → Prop} (h : a.length + b.length ≤ 1000) (q : F a b) : ∃ x y, V.str a = .str x ∧ V.str b = .str y ∧ x.length + y.length ≤ sizeLine ∧ F x y := ⟨a, b, rfl, rfl, sz h, q⟩
theorem r_slS {z : Str} {lo hi : Option Int} (h : z.length ≤ 1000) (q : Q (.str (cutS z lo hi)) H) : rSlS (.str z) lo hi H Q := ⟨z, rfl, sz h, q⟩
theorem r_lenT {z : Str} {F : Str → Prop} (h : z.length ≤ 1000) (q : F z) : ∃ y, ([V.str z] : List V) = [.str y] ∧ y.length ≤ sizeLine ∧ F y := ⟨z, rfl, sz h, q⟩
theorem r_intS {a : Str} {n : Int} {F : Int → Prop} (h : intText? a = some n) (hl : a.length ≤ 640) (q : F n) : ∃ b m, ([V.str a] : List V) = [.str b] ∧ intText? b = some m ∧ b.length ≤ 640 ∧ F m := ⟨a, n, rfl, h, hl, q⟩
theorem r_prop {a dx : Addr} {fs : List (Str × V)} (h : ta σ H fun x H1 => ∃ a dx fs, x = .ref a ∧ H1 a = some (.ins C dx fs) ∧ sp (.ref a :: dvs) H1 Q E) : tProp C sp dvs E ta σ H Q := h
theorem r_tprop (h : ta σ H fun x H1 => ∃ a dx fs, x = .ref a ∧ H1 a = some (.ins C dx fs) ∧ sp (.ref a :: dvs) H1 Q E) : tProp C sp dvs E ta σ H Q := h
theorem f_prop {a dx : Addr} {fs : List (Str × V)} {F : Addr → Prop} (h : H a = some (.ins C dx fs)) (q : F a) : ∃ a' dx' fs', V.ref a = .ref a' ∧ H a' = some (.ins C dx' fs') ∧ F a' := ⟨a, dx, fs, rfl, h, q⟩
theorem r_tmeth {m : Str} (h : ta σ H fun x H1 => ∃ a dx fs, x = .ref a ∧ H1 a = some (.ins C dx fs) ∧ fs.lookup m = none ∧ tA σ H1 fun vs H2 => sp (x :: (vs ++ dvs)) H2 Q E) : tMeth C m sp dvs E ta tA σ H Q := h
theorem f_meth {m : Str} {a dx : Addr} {fs : List (Str × V)} {B : Prop} (h : H a = some (.ins C dx fs)) (n : fs.lookup m = none) (q : B) : ∃ a' dx' fs', V.ref a = .ref a' ∧ H a' = some (.ins C dx' fs') ∧ fs'.lookup m = none ∧ B := ⟨a, dx, fs, rfl, h, n, q⟩
theorem r_tcm (h : ta σ H fun x H1 => x = .ref C ∧ tA σ H1 fun vs H2 => sp (.ref C :: vs) H2 Q E) : ClX.tCMeth C sp E ta tA σ H Q := h
theorem r_rr {v : V} {B : Prop} (h : B) : v = v ∧ B := ⟨rfl, h⟩
theorem r_makeK {n m : Nat} {gV : List V → List V → List V} (h : tA σ H fun vs H1 => tk σ H1 fun zs H2 => vs.length = n ∧ zs.length = m ∧ ∀ x dx, H2 x = none → H2 dx = none → dx ≠ x → sp (gV (.ref x :: vs) zs) (upd (upd H2 dx (.own x)) x (.ins C dx [])) (fun v H3 => v = .non ∧ Q (.ref x) H3) E) : tMakeK C n m sp gV E tA tk σ H Q := h
theorem r_callN {n m : Nat} {gV : List V → List V → List V} (h : tA σ H fun vs H1 => tk σ H1 fun zs H2 => vs.length = n ∧ zs.length = m ∧ sp (gV vs zs) H2 Q E) : tCallN n m sp gV E tA tk σ H Q := h
theorem f_strOwn {a dx : Addr} {fs : List (Str × V)} (h : H a = some (.ins C dx fs)) (q : sp [.ref a] H (fun v H' => ∃ y : Str, v = .str y ∧ Q v H') E0) : rStrOwn C sp [.ref a] H Q := ⟨a, dx, fs, rfl, h, q⟩
theorem f_str {y : Str} {H : Hp} (q : Q (.str y) H) : ∃ z : Str, V.str y = .str z ∧ Q (.str y) H := ⟨y, rfl, q⟩
theorem r_sfld {f : Str} (h : tv σ H fun y H1 => ta σ H1 fun x H2 => ∃ a C dx fs, x = .ref a ∧ H2 a = some (.ins C dx fs) ∧ Cls K C ∧ NoAttr K C f ∧ fs.length < 1000 ∧ nx σ (upd H2 a (.ins C dx (putF f y fs)))) : sFld K ta tv f ⟨nx, rt, bk, ct⟩ σ H := h
theorem f_sfld {f : Str} {a dx : Addr} {fs : List (Str × V)} {F : Addr → Addr → Addr → List (Str × V) → Prop} (h : H a = some (.ins C dx fs)) (c : Cls K C) (n : NoAttr K C f) (l : fs.length < 1000) (q : F a C dx fs) :
    ∃ a' C' dx' fs', V.ref a = .ref a' ∧ H a' = some (.ins C' dx' fs') ∧ Cls K C' ∧ NoAttr K C' f ∧ fs'.length < 1000 ∧ F a' C' dx' fs' := ⟨a, C, dx, fs, rfl, h, c, n, l, q⟩
theorem r_inT {p : Addr} {xs : List V} {v : V} {neg : Bool} (h : SqT K H p xs) (f : (flatV v && xs.all flatV) = true) (e : (if neg then !inV v xs else inV v xs) = true) (q : Q (.bl true) H) : rIn K neg v (.ref p) H Q := by
  rw [Bool.and_eq_true] at f
  exact ⟨p, xs, rfl, .inr h, f.1, f.2, by rw [e]; exact q⟩
theorem r_inF {p : Addr} {xs : List V} {v : V} {neg : Bool} (h : SqT K H p xs) (f : (flatV v && xs.all flatV) = true) (e : (if neg then !inV v xs else inV v xs) = false) (q : Q (.bl false) H) : rIn K neg v (.ref p) H Q := by
  rw [Bool.and_eq_true] at f
  exact ⟨p, xs, rfl, .inr h, f.1, f.2, by rw [e]; exact q⟩
theorem r_eqD {x y : V} {d e : PyData} {b : Bool} (h1 : Dp K H x d) (h2 : Dp K H y e) (s1 : SeqAt.shaped d = true) (s2 : SeqAt.shaped e = true) (hb : PyData.eqv d e = b) (q : Q (.bl b) H) : rEqD K x y H Q := ⟨d, e, h1, h2, s1, s2, by rw [hb]; exact q⟩
theorem r_neD {x y : V} {d e : PyData} {b : Bool} (h1 : Dp K H x d) (h2 : Dp K H y e) (s1 : SeqAt.shaped d = true) (s2 : SeqAt.shaped e = true) (hb : PyData.eqv d e = b) (q : Q (.bl (!b)) H) : rNeD K x y H Q := ⟨d, e, h1, h2, s1, s2, by rw [hb]; exact q⟩
/-! lists of ints, of texts as data -/
theorem dp_ints : ∀ ns : List Int, DpAll K H (ns.map V.int) (ns.map PyData.int)
  | [] => .nil
  | n :: ns => .cons (.int n) (dp_ints ns)
theorem dp_strs : ∀ ns : List Str, DpAll K H (ns.map V.str) (ns.map PyData.str)
  | [] => .nil
  | n :: ns => .cons (.str n) (dp_strs ns)
theorem eqv_ints : ∀ ns ms : List Int, PyData.eqvAll (ns.map PyData.int) (ms.map PyData.int) = decide (ns = ms)
  | [], [] => by simp [PyData.eqvAll]
  | [], _ :: _ => by simp [PyData.eqvAll]
  | _ :: _, [] => by simp [PyData.eqvAll]
  | n :: ns, m :: ms => by
    rw [List.map_cons, List.map_cons, PyData.eqvAll, eqv_ints ns ms, PyData.eqv]
    by_cases h : n = m
    · subst h
      simp
    · have e : (n == m) = false := by simp [h]
      rw [e]
      simp [h]
theorem eqv_strs : ∀ ns ms : List Str, PyData.eqvAll (ns.map PyData.str) (ms.map PyData.str) = decide (ns = ms)
  | [], [] => by simp [PyData.eqvAll]
  | [], _ :: _ => by simp [PyData.eqvAll]
  | _ :: _, [] => by simp [PyData.eqvAll]
  | n :: ns, m :: ms => by
    rw [List.map_cons, List.map_cons, PyData.eqvAll, eqv_strs ns ms, PyData.eqv]
    by_cases h : n = m
    · subst h
      simp
    · have e : (n == m) = false := by simp [h]
      rw [e]
      simp [h]
theorem lay_ints : ∀ ns : List Int, PyData.canLayAll0 (ns.map PyData.int) = true
  | [] => by simp [PyData.canLayAll0]
  | n :: ns => by rw [List.map_cons, PyData.canLayAll0, lay_ints ns, PyData.canLay0] <;> rfl
theorem dep_ints : ∀ ns : List Int, PyData.depthAll (ns.map PyData.int) ≤ 1
  | [] => by simp [PyData.depthAll]
  | n :: ns => by
    have := dep_ints ns
    rw [List.map_cons, PyData.depthAll, PyData.depth]
    omega
theorem shp_ints (ns : List Int) : SeqAt.shaped (.list (ns.map PyData.int)) = true := by
  unfold SeqAt.shaped
  rw [PyData.canLay0, lay_ints, Bool.true_and, decide_eq_true_eq, PyData.depth]
  have := dep_ints ns
  omega
theorem lay_strs : ∀ ns : List Str, (∀ s ∈ ns, PyData.strOk s = true) → PyData.canLayAll0 (ns.map PyData.str) = true
  | [], _ => by simp [PyData.canLayAll0]
  | n :: ns, h => by rw [List.map_cons, PyData.canLayAll0, lay_strs ns (fun s hs => h s (List.mem_cons_of_mem _ hs)), PyData.canLay0, h n (List.mem_cons_self ..)] <;> rfl
theorem dep_strs : ∀ ns : List Str, PyData.depthAll (ns.map PyData.str) ≤ 1
  | [] => by simp [PyData.depthAll]
  | n :: ns => by
    have := dep_strs ns
    rw [List.map_cons, PyData.depthAll, PyData.depth]
    omega
theorem shp_strs (ns : List Str) (h : ∀ s ∈ ns, PyData.strOk s = true) : SeqAt.shaped (.list (ns.map PyData.str)) = true := by
  unfold SeqAt.shaped
  rw [PyData.canLay0, lay_strs ns h, Bool.true_and, decide_eq_true_eq, PyData.depth]
  have := dep_strs ns
  omega
theorem strOk_S {l : List Nat} (h : ∀ c ∈ l, c < 0x110000) : PyData.strOk (S l) = true := by
  unfold PyData.strOk
  rw [← Array.all_toList, List.all_eq_true]
  intro c hc
  exact decide_eq_true (h c hc)
theorem r_eqI {a b : Addr} {xs ys : List V} (ns ms : List Int) (h1 : SqL K H a xs) (h2 : SqL K H b ys) (e1 : xs = ns.map V.int) (e2 : ys = ms.map V.int) (q : Q (.bl (decide (ns = ms))) H) : rEqD K (.ref a) (.ref b) H Q := by
  subst e1 e2
  exact r_eqD (.lst h1 (dp_ints ns)) (.lst h2 (dp_ints ms)) (shp_ints ns) (shp_ints ms) (by rw [PyData.eqv]; exact eqv_ints ns ms) q
theorem r_neI {a b : Addr} {xs ys : List V} (ns ms : List Int) (h1 : SqL K H a xs) (h2 : SqL K H b ys) (e1 : xs = ns.map V.int) (e2 : ys = ms.map V.int) (q : Q (.bl (!decide (ns = ms))) H) : rNeD K (.ref a) (.ref b) H Q := by
  subst e1 e2
  exact r_neD (.lst h1 (dp_ints ns)) (.lst h2 (dp_ints ms)) (shp_ints ns) (shp_ints ms) (by rw [PyData.eqv]; exact eqv_ints ns ms) q
theorem r_neS {a b : Addr} {xs ys : List V} (ns ms : List Str) (h1 : SqL K H a xs) (h2 : SqL K H b ys) (e1 : xs = ns.map V.str) (e2 : ys = ms.map V.str) (s1 : ∀ s ∈ ns, PyData.strOk s = true) (s2 : ∀ s ∈ ms, PyData.strOk s = true) (q : Q (.bl (!decide (ns = ms))) H) : rNeD K (.ref a) (.ref b) H Q := by
  subst e1 e2
  exact r_neD (.lst h1 (dp_strs ns)) (.lst h2 (dp_strs ms)) (shp_strs ns s1) (shp_strs ms s2) (by rw [PyData.eqv]; exact eqv_strs ns ms) q
theorem r_neIt {a b : Addr} {xs ys : List V} (ns : List Int) (h1 : SqL K H a xs) (h2 : SqL K H b ys) (e1 : xs = ns.map V.int) (e2 : ys = ns.map V.int) (q : Q (.bl false) H) : rNeD K (.ref a) (.ref b) H Q := r_neI ns ns h1 h2 e1 e2 (by rw [decide_eq_true rfl]; exact q)
theorem r_eqIt {a b : Addr} {xs ys : List V} (ns : List Int) (h1 : SqL K H a xs) (h2 : SqL K H b ys) (e1 : xs = ns.map V.int) (e2 : ys = ns.map V.int) (q : Q (.bl true) H) : rEqD K (.ref a) (.ref b) H Q := r_eqI ns ns h1 h2 e1 e2 (by rw [decide_eq_true rfl]; exact q)
theorem r_neSt {a b : Addr} {xs ys : List V} (ns : List Str) (h1 : SqL K H a xs) (h2 : SqL K H b ys) (e1 : xs = ns.map V.str) (e2 : ys = ns.map V.str) (s1 : ∀ s ∈ ns, PyData.strOk s = true) (q : Q (.bl false) H) : rNeD K (.ref a) (.ref b) H Q := r_neS ns ns h1 h2 e1 e2 s1 s1 (by rw [decide_eq_true rfl]; exact q)
/-! list comprehensions over a list -/
/-- what is left of a list comprehension once it is known what is walked -/
def LcG (J : It) (g : TG) (tt : TT) (te : TE) (vs : List Nat) (σ : L2.St) (H : Hp) (Q : VK) : Prop := tLc (fun _ H R => R J H) g tt te vs σ H Q
theorem r_lcL {tt : TT} {vs : List Nat} (h : tl σ H fun x H1 => ∃ a, x = .ref a ∧ (∃ xs, SqL K H1 a xs) ∧ LcG (Itl K a) g tt te vs σ H1 Q) : tLc (iList K tl) g tt te vs σ H Q := h
theorem r_lcT {tt : TT} {vs : List Nat} (h : tl σ H fun x H1 => ∃ a, x = .ref a ∧ (∃ xs, SqT K H1 a xs) ∧ LcG (Itt K a) g tt te vs σ H1 Q) : tLc (iTup K tl) g tt te vs σ H Q := h
theorem r_lcR1 {tt : TT} {vs : List Nat} (h : tA σ H fun ws H1 => ∃ j : Int, ws = [.int j] ∧ -(2 ^ 62) ≤ j ∧ j < 2 ^ 62 ∧ LcG (Itr 0 j.toNat) g tt te vs σ H1 Q) : tLc (iRng1 tA) g tt te vs σ H Q := h
theorem r_lcR2 {tt : TT} {vs : List Nat} (h : tA σ H fun ws H1 => ∃ i j : Int, ws = [.int i, .int j] ∧ (-(2 ^ 62) ≤ i ∧ i < 2 ^ 62 ∧ -(2 ^ 62) ≤ j ∧ j < 2 ^ 62) ∧ LcG (Itr i (j - i).toNat) g tt te vs σ H1 Q) : tLc (iRng2 tA) g tt te vs σ H Q := h
theorem lc_list {tt : TT} {vs : List Nat} {a : Addr} {xs : List V} (Pv : Nat → Addr → Hp → Prop) (h0 : ∀ D, H D = none → Pv 0 D (upd H D (.lst []))) (hl : ∀ i D H, i ≤ xs.length → Pv i D H → SqL K H a xs)
    (hs : ∀ i x D H, xs[i]? = some x → Pv i D H → g x (wipe σ vs) H fun σ2 H2 => wipe σ2 vs = wipe σ vs ∧ tt σ2 H2 fun b H3 => if b = true then te σ2 H3 fun y H4 => ∃ acc, H4 D = some (.lst acc) ∧ acc.length < sizeLine ∧ Pv (i + 1) D (upd H4 D (.lst (acc ++ [y]))) else Pv (i + 1) D H3)
    (hd : ∀ D H, Pv xs.length D H → Q (.ref D) H) : LcG (Itl K a) g tt te vs σ H Q := by
  intro D hD
  refine ⟨fun i m H => m = xs.length - i ∧ i ≤ xs.length ∧ Pv i D H, ⟨_, rfl, Nat.zero_le _, h0 D hD⟩, ?_⟩
  rintro i m H ⟨rfl, hi, p⟩
  have q := hl i D H hi p
  by_cases hlt : i < xs.length
  · refine .inr ⟨⟨xs, xs[i], q, by simp [hlt]⟩, fun H' => Pv (i + 1) D H', fun H' p' => ⟨xs.length - (i + 1), by omega, rfl, hlt, p'⟩, ?_⟩
    rintro x H' ⟨rfl, y⟩
    exact hs i x D _ (y xs q) p
  · have e : i = xs.length := by omega
    subst e
    exact .inl ⟨⟨xs, q, Nat.le_refl _⟩, hd D H p⟩
theorem lc_tup {tt : TT} {vs : List Nat} {a : Addr} {xs : List V} (Pv : Nat → Addr → Hp → Prop) (h0 : ∀ D, H D = none → Pv 0 D (upd H D (.lst []))) (hl : ∀ i D H, i ≤ xs.length → Pv i D H → SqT K H a xs)
    (hs : ∀ i x D H, xs[i]? = some x → Pv i D H → g x (wipe σ vs) H fun σ2 H2 => wipe σ2 vs = wipe σ vs ∧ tt σ2 H2 fun b H3 => if b = true then te σ2 H3 fun y H4 => ∃ acc, H4 D = some (.lst acc) ∧ acc.length < sizeLine ∧ Pv (i + 1) D (upd H4 D (.lst (acc ++ [y]))) else Pv (i + 1) D H3)
    (hd : ∀ D H, Pv xs.length D H → Q (.ref D) H) : LcG (Itt K a) g tt te vs σ H Q := by
  intro D hD
  refine ⟨fun i m H => m = xs.length - i ∧ i ≤ xs.length ∧ Pv i D H, ⟨_, rfl, Nat.zero_le _, h0 D hD⟩, ?_⟩
  rintro i m H ⟨rfl, hi, p⟩
  have q := hl i D H hi p
  by_cases hlt : i < xs.length
  · refine .inr ⟨⟨xs, xs[i], q, by simp [hlt]⟩, fun H' => Pv (i + 1) D H', fun H' p' => ⟨xs.length - (i + 1), by omega, rfl, hlt, p'⟩, ?_⟩
    rintro x H' ⟨rfl, y⟩
    exact hs i x D _ (y xs q) p
  · have e : i = xs.length := by omega
    subst e
    exact .inl ⟨⟨xs, q, Nat.le_refl _⟩, hd D H p⟩
theorem lc_range {tt : TT} {vs : List Nat} {lo : Int} {n : Nat} (Pv : Nat → Addr → Hp → Prop) (h0 : ∀ D, H D = none → Pv 0 D (upd H D (.lst [])))
    (hs : ∀ i D H, i < n → Pv i D H → g (.int (lo + i)) (wipe σ vs) H fun σ2 H2 => wipe σ2 vs = wipe σ vs ∧ tt σ2 H2 fun b H3 => if b = true then te σ2 H3 fun y H4 => ∃ acc, H4 D = some (.lst acc) ∧ acc.length < sizeLine ∧ Pv (i + 1) D (upd H4 D (.lst (acc ++ [y]))) else Pv (i + 1) D H3)
    (hd : ∀ D H, Pv n D H → Q (.ref D) H) : LcG (Itr lo n) g tt te vs σ H Q := by
  intro D hD
  refine ⟨fun i m H => m = n - i ∧ i ≤ n ∧ Pv i D H, ⟨_, rfl, Nat.zero_le _, h0 D hD⟩, ?_⟩
  rintro i m H ⟨rfl, hi, p⟩
  by_cases hlt : i < n
  · refine .inr ⟨hlt, fun H' => Pv (i + 1) D H', fun H' p' => ⟨n - (i + 1), by omega, rfl, hlt, p'⟩, ?_⟩
    rintro x H' ⟨rfl, rfl⟩
    exact hs i D _ hlt p
  · have e : i = n := by omega
    subst e
    exact .inl ⟨Nat.le_refl _, hd D H p⟩
theorem r_bl1 {b : Bool} {F : Bool → Prop} (h : F b) : ∃ k, ([V.bl b] : List V) = [.bl k] ∧ F k := ⟨b, rfl, h⟩
theorem r_yes {R : Bool → Hp → Prop} (h : R true H) : tYes σ H R := h
theorem r_chain {r r' : R2} (h : ta σ H fun x H1 => tb σ H1 fun y H2 => r x y H2 fun z H3 => ∃ k, z = .bl k ∧ (if k = true then tc σ H3 fun w' H4 => r' y w' H4 Q else Q (.bl false) H3)) : tChain r r' ta tb tc σ H Q := h
/-- both arms of an if-expression give one value -/
theorem r_join {p : Prop} [Decidable p] (v : V) (q : Q v H) (h1 : p → ∀ Q' : VK, Q' v H → ta σ H Q') (h2 : ¬ p → ∀ Q' : VK, Q' v H → tb σ H Q') : if decide p = true then ta σ H Q else tb σ H Q := i_two (fun h => h1 h Q q) (fun h => h2 h Q q)
theorem strOk_cat {a b : Str} (h1 : PyData.strOk a = true) (h2 : PyData.strOk b = true) : PyData.strOk (a ++ b) = true := by
  rw [cat_S]
  refine strOk_S fun c hc => ?_
  have f : ∀ {x : Str}, PyData.strOk x = true → ∀ c ∈ x.cps.toList, c < 0x110000 := fun {x} hx c hc => by
    unfold PyData.strOk at hx
    rw [← Array.all_toList, List.all_eq_true] at hx
    exact of_decide_eq_true (hx c hc)
  rcases List.mem_append.mp hc with z | z
  · exact f h1 c z
  · exact f h2 c z
theorem strOk_int (i : Int) : PyData.strOk (S (intL i)) = true := strOk_S fun c hc => by
  have d : ∀ c ∈ TL.numL i.natAbs, c < 0x110000 := fun c hc => by
    have := (TL.numL_digits i.natAbs c hc).2
    omega
  unfold intL at hc
  split at hc
  · rcases List.mem_cons.mp hc with z | z
    · omega
    · exact d c z
  · exact d c hc
end
end My
namespace My
open PySem PySem.Spec PyProof.Rows L2
theorem ni_non {i : Int} : ¬ (V.int i = V.non) := fun h => V.noConfusion h
theorem nr_non {a : Addr} : ¬ (V.ref a = V.non) := fun h => V.noConfusion h
theorem ns_non {x : Str} : ¬ (V.str x = V.non) := fun h => V.noConfusion h
end My

/-! ### readings whose Frag is written out: within a comprehension's block, too -/
namespace My
open PySem PySem.Spec PyProof.Rows L2
section
variable {K : PySem.W.Frag} {X : Cx}
theorem call_isiK (h : X.K = K) : CallR X (.builtin "isinstance") (rIsi K) := by subst h; exact call_isi
theorem call_lenK (h : X.K = K) : CallR X (.builtin "len") (fun xs H Q => ∃ p ys, xs = [.ref p] ∧ (SqL K H p ys ∨ SqT K H p ys) ∧ Q (.int ys.length) H) := by subst h; exact call_len_seq
theorem call_listK (h : X.K = K) : CallR X (.type "list") (fun xs H Q => ∃ p ys, xs = [.ref p] ∧ (SqL K H p ys ∨ SqT K H p ys) ∧ ∀ l, H l = none → Q (.ref l) (upd H l (.lst ys))) := by subst h; exact call_list_of
theorem call_tupleK (h : X.K = K) : CallR X (.type "tuple") (fun xs H Q => ∃ p ys, xs = [.ref p] ∧ ((SqL K H p ys ∧ ∀ l, H l = none → Q (.ref l) (upd H l (.tup ys))) ∨ (SqT K H p ys ∧ Q (.ref p) H))) := by subst h; exact call_tuple_of
theorem call_reprK {j : Nat} (h : X.K = K) (hr : RG j X.A) : CallR X (.builtin "repr") (rRepr K) := by subst h; exact call_reprD hr
theorem ix_listK (h : X.K = K) : IxR X (rIxL K) := by subst h; exact ix_list
theorem ix_tupK (h : X.K = K) : IxR X (rIxT K) := by subst h; exact ix_tup
theorem sl_listK (h : X.K = K) : SlR X (rSlL K) := by subst h; exact sl_list
theorem sl_tupK (h : X.K = K) : SlR X (rSlA K) := by subst h; exact sl_tupA
theorem op_eqDK (h : X.K = K) (hu : X.A.units + 64 < cLine) : OpR X (compareOp .Eq) (rEqD K) := by subst h; exact op_eqD hu
theorem op_neDK (h : X.K = K) (hu : X.A.units + 64 < cLine) : OpR X (compareOp .NotEq) (rNeD K) := by subst h; exact op_neD hu
theorem op_inK (h : X.K = K) : OpR X (compareOp .In) (rIn K false) := by subst h; exact op_in_seq
theorem op_notInK (h : X.K = K) : OpR X (compareOp .NotIn) (rIn K true) := by subst h; exact op_notIn_seq
theorem op_catK (h : X.K = K) : OpR X (binaryOp .Add) (rCatA K) := by subst h; exact op_catA
theorem pe_fldK {e : Expr} {ta : TE} {f : Str} {pos : Pos} (h : X.K = K) (he : PE X e ta) (hb : attributeBase e f X.env (eval e X.env) = eval e X.env) : PE X (.Attribute e f pos) (tFld K ta f) := by subst h; exact pe_fld he hb
theorem pi_listK {tg l : Expr} {tl : TE} (h : X.K = K) (hl : PE X l tl) : PI X tg l (iList K tl) := by subst h; exact pi_list hl
theorem pi_tupK {tg l : Expr} {tl : TE} (h : X.K = K) (hl : PE X l tl) : PI X tg l (iTup K tl) := by subst h; exact pi_tup hl
theorem pg_tupK {es : List Expr} {k : Nat} {t : TGs} {n : Nat} {pos : Pos} (h : X.K = K) (hc : X.calm = true) (hs : PGs X es t) (hn : (assignEach es X.env).length = n := by rfl) (hst : (assignEach es X.env).findIdx? (·.1) = none := by rfl) : PG X (.Tuple es k pos) (gTup K n t) := by subst h; exact pg_tup hc hs hn hst
end
end My

set_option Elab.async false
set_option linter.all false
set_option maxRecDepth 100000
set_option maxHeartbeats 4000000
/-! LayG: operators of own classes, also with ints on either side -/
namespace My
open PySem PySem.Spec PyProof.Rows L2 He
theorem ins_obj {P : Program} {w : World} {H : Hp} {h : Heap} {a C dx : Addr} {fs : List (Str × V)} (hok : HOk P w H h) (e : H a = some (.ins C dx fs)) : h.get? a = some (PySem.W.instObj C dx) := by
  obtain ⟨_, _, _, ob, _⟩ := (show ObjOk P w H h a (.ins C dx fs) from hok a _ e)
  exact ob
section
variable (a : Int) (t : Tok) (l C dx : Addr)
theorem dec_add : Meets (Builtin.«int.__add__» ⟨[.int a t, .ref l], []⟩) (fun _ R s => s.heap.get? l = some (PySem.W.instObj C dx) ∧ R (.ok (.ret Value.notImplemented)) s) :=
  .of_wp fun prog w A R s h => by obtain ⟨hp, g, d, tk, os⟩ := s; obtain ⟨hl, h⟩ := h; wp_walk; exact ⟨_, rfl, h⟩
theorem dec_sub : Meets (Builtin.«int.__sub__» ⟨[.int a t, .ref l], []⟩) (fun _ R s => s.heap.get? l = some (PySem.W.instObj C dx) ∧ R (.ok (.ret Value.notImplemented)) s) :=
  .of_wp fun prog w A R s h => by obtain ⟨hp, g, d, tk, os⟩ := s; obtain ⟨hl, h⟩ := h; wp_walk; exact ⟨_, rfl, h⟩
theorem dec_mul : Meets (Builtin.«int.__mul__» ⟨[.int a t, .ref l], []⟩) (fun _ R s => s.heap.get? l = some (PySem.W.instObj C dx) ∧ R (.ok (.ret Value.notImplemented)) s) :=
  .of_wp fun prog w A R s h => by obtain ⟨hp, g, d, tk, os⟩ := s; obtain ⟨hl, h⟩ := h; wp_walk; exact ⟨_, rfl, h⟩
theorem dec_lt : Meets (Builtin.«int.__lt__» ⟨[.int a t, .ref l], []⟩) (fun _ R s => s.heap.get? l = some (PySem.W.instObj C dx) ∧ R (.ok (.ret Value.notImplemented)) s) :=
  .of_wp fun prog w A R s h => by obtain ⟨hp, g, d, tk, os⟩ := s; obtain ⟨hl, h⟩ := h; wp_walk; exact ⟨_, rfl, h⟩
theorem dec_le : Meets (Builtin.«int.__le__» ⟨[.int a t, .ref l], []⟩) (fun _ R s => s.heap.get? l = some (PySem.W.instObj C dx) ∧ R (.ok (.ret Value.notImplemented)) s) :=
  .of_wp fun prog w A R s h => by obtain ⟨hp, g, d, tk, os⟩ := s; obtain ⟨hl, h⟩ := h; wp_walk; exact ⟨_, rfl, h⟩
theorem dec_gt : Meets (Builtin.«int.__gt__» ⟨[.int a t, .ref l], []⟩) (fun _ R s => s.heap.get? l = some (PySem.W.instObj C dx) ∧ R (.ok (.ret Value.notImplemented)) s) :=
  .of_wp fun prog w A R s h => by obtain ⟨hp, g, d, tk, os⟩ := s; obtain ⟨hl, h⟩ := h; wp_walk; exact ⟨_, rfl, h⟩
theorem dec_ge : Meets (Builtin.«int.__ge__» ⟨[.int a t, .ref l], []⟩) (fun _ R s => s.heap.get? l = some (PySem.W.instObj C dx) ∧ R (.ok (.ret Value.notImplemented)) s) :=
  .of_wp fun prog w A R s h => by obtain ⟨hp, g, d, tk, os⟩ := s; obtain ⟨hl, h⟩ := h; wp_walk; exact ⟨_, rfl, h⟩
theorem dec_eq : Meets (Builtin.«int.__eq__» ⟨[.int a t, .ref l], []⟩) (fun _ R s => s.heap.get? l = some (PySem.W.instObj C dx) ∧ R (.ok (.ret Value.notImplemented)) s) :=
  .of_wp fun prog w A R s h => by obtain ⟨hp, g, d, tk, os⟩ := s; obtain ⟨hl, h⟩ := h; wp_walk; exact ⟨_, rfl, h⟩
theorem dec_ne : Meets (Builtin.«int.__ne__» ⟨[.int a t, .ref l], []⟩) (fun _ R s => s.heap.get? l = some (PySem.W.instObj C dx) ∧ R (.ok (.ret Value.notImplemented)) s) :=
  .of_wp fun prog w A R s h => by obtain ⟨hp, g, d, tk, os⟩ := s; obtain ⟨hl, h⟩ := h; wp_walk; exact ⟨_, rfl, h⟩
end
/-- an operator of int that declines an instance of an own class -/
structure DecB (op : Operator) : Prop where
  ex : ∃ (id : String) (B : Builtin), Slot "int" (PySem.dunder op.info.2) id ∧ fillsNumberSlot (.type "int") op.info.2 = pure true ∧ entryFor table id = some B ∧ (∀ (a : Int) (t : Tok) (l : Addr), argsOk id ⟨[.int a t, .ref l], []⟩) ∧
    ∀ (a : Int) (t : Tok) (l C dx : Addr), Meets (B ⟨[.int a t, .ref l], []⟩) (fun _ R s => s.heap.get? l = some (PySem.W.instObj C dx) ∧ R (.ok (.ret Value.notImplemented)) s)
theorem decB_add : DecB .Add := ⟨⟨_, _, F.slot_int_add, F.fills_int_add, F.entry_int_add, fun _ _ _ => F.args_int_add_2 _ _, dec_add⟩⟩
theorem decB_sub : DecB .Sub := ⟨⟨_, _, F.slot_int_sub, F.fills_int_sub, F.entry_int_sub, fun _ _ _ => F.args_int_sub_2 _ _, dec_sub⟩⟩
theorem decB_mul : DecB .Mult := ⟨⟨_, _, F.slot_int_mul, F.fills_int_mul, F.entry_int_mul, fun _ _ _ => F.args_int_mul_2 _ _, dec_mul⟩⟩
structure DecC (op : CmpOp) : Prop where
  ex : ∃ (id : String) (B : Builtin), Slot "int" (cmpInfo op).2.1 id ∧ entryFor table id = some B ∧ (∀ (a : Int) (t : Tok) (l : Addr), argsOk id ⟨[.int a t, .ref l], []⟩) ∧
    ∀ (a : Int) (t : Tok) (l C dx : Addr), Meets (B ⟨[.int a t, .ref l], []⟩) (fun _ R s => s.heap.get? l = some (PySem.W.instObj C dx) ∧ R (.ok (.ret Value.notImplemented)) s)
theorem decC_lt : DecC .Lt := ⟨⟨_, _, F.slot_int_lt, F.entry_int_lt, fun _ _ _ => F.args_int_lt_2 _ _, dec_lt⟩⟩
theorem decC_le : DecC .LtE := ⟨⟨_, _, F.slot_int_le, F.entry_int_le, fun _ _ _ => F.args_int_le_2 _ _, dec_le⟩⟩
theorem decC_gt : DecC .Gt := ⟨⟨_, _, F.slot_int_gt, F.entry_int_gt, fun _ _ _ => F.args_int_gt_2 _ _, dec_gt⟩⟩
theorem decC_ge : DecC .GtE := ⟨⟨_, _, F.slot_int_ge, F.entry_int_ge, fun _ _ _ => F.args_int_ge_2 _ _, dec_ge⟩⟩
theorem decC_eq : DecC .Eq := ⟨⟨_, _, F.slot_int_eq, F.entry_int_eq, fun _ _ _ => F.args_int_eq_2 _ _, dec_eq⟩⟩
theorem decC_ne : DecC .NotEq := ⟨⟨_, _, F.slot_int_ne, F.entry_int_ne, fun _ _ _ => F.args_int_ne_2 _ _, dec_ne⟩⟩
/-! the rules -/
namespace Own
open PySem.W PySem.Calls
section
variable {prog : Program} {w : World} {A : Around} {E : Value → Shared → Prop} {s : Shared} {K : Frag} {x C L f fd dx : Addr} {h₀ : Heap} {m : Str → Option Value} {ox : Obj} {od : Option Obj}
/-- int op own: the int declines, the own reflected def answers -/
theorem bin_intL {op : Operator} {i : Int} {t : Tok} {Q : Value → Shared → Prop} (D : DecB op) (F : Fr h₀ L s.heap m) (X₀ : K.In h₀) (I : InstAt s.heap x ox C od) (ho : s.heap.get? x = some (instObj C dx)) (hc : selfFirst K C = true)
    (hd : findIn K (.ref C) (PySem.dunder op.info.2) = some (some (.ref fd))) (hs : findIn K (.ref C) (dunderR op.info.2) = some (some (.ref f))) (hf : isFn K (.ref f) = true) (hsub : subIn K (.ref C) (.type "int") = some false)
    (h : wpAny (model prog w) A (call (.ref f) [.ref x, .int i t]) (PySem.W.CmpBack Q) E s) : wpAny (model prog w) A (binaryOp op (.int i t) (.ref x)) Q E s := by
  have X := X₀.keeps F.keep
  obtain ⟨cd, rest, hcd, hm⟩ := ksp_first hc
  obtain ⟨id, B, slot, fills, entry, args, gives⟩ := D.ex
  rcases hi : op.info with ⟨sym, nm'⟩
  rw [hi] at hs hd slot fills
  dsimp only at hs hd slot fills
  have two := ksp_try X I hs hf h
  have cl : wpAny (model prog w) A (call (.builtin id) [.int i t, .ref x]) (fun v s' => v = .notImplemented ∧ s' = s) E s :=
    call_meets slot (typeIs_int s i t) entry (args i t x) (gives i t x C dx) ⟨ho, rfl, rfl⟩
  have ti := typeIs_int s i t
  obtain ⟨hh, g, d, tt, os⟩ := s
  have L1 : Looks (model prog w) hh (typeOf (.int i t)) (.type "int") := Looks.of_pure rfl
  have L2 : Looks (model prog w) hh (typeOf (.ref x)) (.ref C) := I.type
  have L3 : Looks (model prog w) hh (fillsNumberSlot (.type "int") nm') true := Looks.of_pure fills
  have L4 : Looks (model prog w) hh (fillsNumberSlot (.ref C) nm') true := fills_K X hcd hm hd
  have L5 : Looks (model prog w) hh (isSubtype (.ref C) (.type "int")) false := looks_subIn X hsub
  have L6 : Looks (model prog w) hh (numberSlotInPython (.type "int") nm') false := Looks.of_pure rfl
  have hne : (Value.type "int" == Value.ref C) = false := Bool.eq_false_iff.mpr fun q => by cases beq_iff_eq.mp q
  simp only [binaryOp, hi]
  refine wpAny_holding (wpAny_bind ?_)
  unfold binaryOp1
  refine wpAny_bind (L1.at (wpAny_bind (L2.at (wpAny_bind (L3.at ?_)))))
  simp only [hne, Bool.false_eq_true, if_false]
  refine wpAny_bind (L4.at ?_)
  simp only [Bool.and_self, if_true]
  refine wpAny_bind (L5.at ?_)
  simp only [Bool.false_eq_true, if_false]
  ksp_lk
  refine wpAny_tryMethod_declines ti slot (wpAny_mono cl (fun v s' hv => ⟨hv.1, ?_⟩) fun _ _ e => e)
  obtain ⟨_, rfl⟩ := hv
  ksp_lk
  refine wpAny_mono two (fun r s' hr' => ?_) fun _ _ e => e
  obtain ⟨v, rfl, hq⟩ := hr'
  ksp_lk
  exact hq
/-- int < own and its like: the int declines, the own mirrored def answers -/
theorem cmp_intL {op : CmpOp} {i : Int} {t : Tok} {Q : Value → Shared → Prop} (D : DecC op) (hu : A.units < cLine) (F : Fr h₀ L s.heap m) (X₀ : K.In h₀) (I : InstAt s.heap x ox C od) (ho : s.heap.get? x = some (instObj C dx))
    (hs : findIn K (.ref C) (cmpInfo op).2.2 = some (some (.ref f))) (hf : isFn K (.ref f) = true) (hsub : subIn K (.ref C) (.type "int") = some false)
    (h : wpAny (model prog w) A (call (.ref f) [.ref x, .int i t]) (PySem.W.CmpBack Q) E s) : wpAny (model prog w) A (richCompare op (.int i t) (.ref x)) Q E s := by
  have X := X₀.keeps F.keep
  obtain ⟨id, B, slot, entry, args, gives⟩ := D.ex
  have one : wpAny (model prog w) A (tryCompare (.ref x) (cmpInfo op).2.2 (.int i t)) (fun r s' => ∃ v, r = some v ∧ Q v s') E s := by
    unfold tryCompare
    refine wpAny_bind (ifBound_K X I hs hf (wpAny_mono h (fun v s' hv => ?_) fun _ _ e => e))
    cases v <;> first | exact hv.elim | exact wpAny_pure ⟨_, rfl, hv⟩
  have cl : wpAny (model prog w) A (call (.builtin id) [.int i t, .ref x]) (fun v s' => v = .notImplemented ∧ s' = s) E s :=
    call_meets slot (typeIs_int s i t) entry (args i t x) (gives i t x C dx) ⟨ho, rfl, rfl⟩
  have ti := typeIs_int s i t
  have one0 : oneThing? op (.int i t) (.ref x) = none := ti.oneThing_none op _
  unfold richCompare
  simp only [one0]
  refine wpAny_holding (wpAny_bind (wpAny_cRoomFor hu ?_))
  have L1 : Looks (model prog w) s.heap (typeOf (.int i t)) (.type "int") := Looks.of_pure rfl
  refine wpAny_bind (L1.here (wpAny_bind (I.type.here ?_)))
  rw [if_pos (show (Value.type "int" != Value.ref C) = true from rfl)]
  refine wpAny_bind ((looks_subIn X hsub).here ?_)
  simp only [Bool.false_eq_true, if_false]
  refine wpAny_bind (wpAny_tryCompare_declines ti slot (wpAny_mono cl (fun v s' hv => ⟨hv.1, ?_⟩) fun _ _ e => e))
  obtain ⟨_, rfl⟩ := hv
  refine wpAny_bind (wpAny_mono one (fun r s' z => ?_) fun _ _ e => e)
  obtain ⟨v, rfl, hq⟩ := z
  exact wpAny_pure hq
theorem bool_own {Q : Value → Shared → Prop} (X : K.In s.heap) (F : Fr h₀ L s.heap m) (X₀ : K.In h₀) (I : InstAt s.heap x ox C od) (hs : findIn K (.ref C) "__bool__" = some (some (.ref f))) (hf : isFn K (.ref f) = true)
    (h : wpAny (model prog w) A.in1.in1 (call (.ref f) [.ref x]) (PySem.W.BoolBack fun b s' => Q (.bool b) s') E s) : wpAny (model prog w) A (call (.type "bool") [.ref x]) Q E s := by
  refine callType_codes (T := "bool") (Bi := Builtin.«object.__init__») (Q₁ := fun r s₁ => ∃ b, r = .bool b ∧ Q r s₁) PySem.F.called_bool (PySem.F.typeCall_bool_1 _) PySem.F.entry_object_init ?_ ?_
  · refine codeAny_of_tree ?_
    show wpAny _ A.in1.in1 (do checkBuiltinCall "bool.__new__" ⟨[.type "bool", .ref x], []⟩; again (.builtin "bool.__new__" ⟨[.type "bool", .ref x], []⟩)) _ _ s
    refine wpAny_bind (wpAny_of_eq (PySem.F.newCall_bool_1 _) (wpAny_pure ⟨plainId_quiet (by decide +kernel) _, codeAny_builtin PySem.F.entry_bool_new ?_⟩))
    rw [Around.under_plainId (by decide +kernel) _]
    have tr : wpAny (model prog w) A.in1.in1 (truthy (.ref x)) (fun b s' => ∃ c, Value.bool b = .bool c ∧ Q (.bool b) s') E s := truthy_K F X₀ I hs hf (wpAny_mono h (fun r s₁ hr => by cases r <;> first | exact ⟨_, rfl, hr⟩ | exact False.elim hr) fun _ _ y => y)
    unfold Builtin.«bool.__new__»
    refine wpAny_bind (wpAny_pure ?_)
    dsimp only
    rw [if_neg (by decide)]
    refine wpAny_bind (wpAny_of_eq PySem.F.conv_sub_bool ?_)
    rw [if_neg (by decide)]
    refine wpAny_bind (wpAny_pure ?_)
    exact wpAny_bind (wpAny_mono tr (fun b s₁ hb => wpAny_pure hb) fun _ _ y => y)
  · rintro obj s₁ ⟨b, rfl, hq⟩
    exact ⟨PySem.typeIs_bool _ _, PySem.F.args_object_init_2 _ _, object_init_meets PySem.F.called_bool.init.lookup PySem.F.called_bool.made (by decide) prog w A.in1 _ s₁ ⟨PySem.typeIs_bool _ _, rfl, hq⟩⟩
end
end Own
/-! the readings -/
structure OwOk (K : PySem.W.Frag) (C : Addr) : Prop where
  first : PySem.W.selfFirst K C = true
  sub1 : PySem.W.subIn K (.type "int") (.ref C) = some false
  sub2 : PySem.W.subIn K (.ref C) (.type "int") = some false
  fi : ∀ n ∈ ([PySem.dunder "add", PySem.dunder "sub", PySem.dunder "mul", dunderR "add", dunderR "sub", dunderR "mul"] : List Str), ∃ fo, PySem.W.findIn K (.type "int") n = some fo
def owB (K : PySem.W.Frag) (x : Str) : Bool := PySem.W.selfFirst K (ga K x) && (decide (PySem.W.subIn K (.type "int") (.ref (ga K x)) = some false) && (decide (PySem.W.subIn K (.ref (ga K x)) (.type "int") = some false) &&
  ([PySem.dunder "add", PySem.dunder "sub", PySem.dunder "mul", dunderR "add", dunderR "sub", dunderR "mul"] : List Str).all fun n => (PySem.W.findIn K (.type "int") n).isSome))
theorem owB_ok {K : PySem.W.Frag} {x : Str} (h : owB K x = true) : OwOk K (ga K x) := by
  obtain ⟨h1, h⟩ := ba h
  obtain ⟨h2, h⟩ := ba h
  obtain ⟨h3, h4⟩ := ba h
  exact ⟨h1, of_decide_eq_true h2, of_decide_eq_true h3, fun n hn => Option.isSome_iff_exists.mp (List.all_eq_true.mp h4 n hn)⟩
def rRR (C : Addr) (sp : Sp) : R2 := fun x y H Q => ∃ a dx fs b dy gs, x = .ref a ∧ y = .ref b ∧ H a = some (.ins C dx fs) ∧ H b = some (.ins C dy gs) ∧ sp [.ref a, .ref b] H Q E0
def rRI (C : Addr) (sp : Sp) : R2 := fun x y H Q => ∃ a dx fs i, x = .ref a ∧ y = .int i ∧ H a = some (.ins C dx fs) ∧ sp [.ref a, .int i] H Q E0
def rIR (C : Addr) (sp : Sp) : R2 := fun x y H Q => ∃ a dx fs i, x = .int i ∧ y = .ref a ∧ H a = some (.ins C dx fs) ∧ sp [.ref a, .int i] H Q E0
section
variable {X : Cx} {k j : Nat} {f g C : Addr} {ps qs : List Str} {sp : Sp} {n m : Str}
theorem back {pins : List (Addr × Obj)} {σ : L2.St} {Q : VK} {v : Value} {s' : Shared} (z : EP X pins σ Q v s') : PySem.W.CmpBack (EP X pins σ Q) v s' := by
  obtain ⟨z', H', I', rz, qz⟩ := z
  exact SlX.cmpback rz ⟨z', H', I', rz, qz⟩
theorem op_RR {op : Operator} (G : Gf X.prog X.w X.K X.mg X.base CX0 k f ps [] sp) (o : OwOk X.K C) (p : SpOk X.K C n f) (hr : RG j X.A) (hj : k ≤ j) (e : PySem.dunder op.info.2 = n := by rfl) : OpR X (binaryOp op) (rRR C sp) := by
  intro pins s σ H x y v u Q I rx ry h
  obtain ⟨a, dx, fs, b, dy, gs, rfl, rfl, ea, eb, h1⟩ := h
  obtain rfl : v = Value.ref a := rx
  obtain rfl : u = Value.ref b := ry
  obtain ⟨mA, O, _⟩ := ins_get I.hok ea
  obtain ⟨od, J, _⟩ := O.look
  obtain ⟨mB, O', _⟩ := ins_get I.hok eb
  obtain ⟨od', J', _⟩ := O'.look
  obtain ⟨m, hF⟩ := I.fr
  refine PySem.W.binop_K hF I.ok.mod.kin J J'.type o.first (by rw [e]; exact p.at_) p.fn ?_
  exact wpAny_mono (run_g (us := [.ref a, .ref b]) (vs := [.ref a, .ref b]) G hr hj pass0 I (.cons rfl (.cons rfl .nil)) h1) (fun w s' z => back z) fun _ _ x => x
theorem op_RI {op : Operator} (G : Gf X.prog X.w X.K X.mg X.base CX0 k f ps [] sp) (o : OwOk X.K C) (p : SpOk X.K C n f) (q : SpOk X.K C m g) (hr : RG j X.A) (hj : k ≤ j) (e : PySem.dunder op.info.2 = n := by rfl) (e2 : dunderR op.info.2 = m := by rfl)
    (h1 : PySem.dunder op.info.2 ∈ ([PySem.dunder "add", PySem.dunder "sub", PySem.dunder "mul", dunderR "add", dunderR "sub", dunderR "mul"] : List Str) := by decide) (h2 : dunderR op.info.2 ∈ ([PySem.dunder "add", PySem.dunder "sub", PySem.dunder "mul", dunderR "add", dunderR "sub", dunderR "mul"] : List Str) := by decide) :
    OpR X (binaryOp op) (rRI C sp) := by
  intro pins s σ H x y v u Q I rx ry h
  obtain ⟨a, dx, fs, i, rfl, rfl, ea, h3⟩ := h
  obtain rfl : v = Value.ref a := rx
  obtain ⟨t, rfl⟩ := ry
  obtain ⟨mA, O, _⟩ := ins_get I.hok ea
  obtain ⟨od, J, _⟩ := O.look
  obtain ⟨m, hF⟩ := I.fr
  obtain ⟨fo, f1⟩ := o.fi _ h1
  obtain ⟨ro, f2⟩ := o.fi _ h2
  refine PySem.W.ksp_binT (T := "int") hF I.ok.mod.kin J rfl o.first (by rw [e]; exact p.at_) p.fn (by rw [e2]; exact q.at_) (.inr ⟨g, rfl⟩) f1 f2 o.sub1 ?_
  exact wpAny_mono (run_g (us := [.ref a, .int i t]) (vs := [.ref a, .int i]) G hr hj pass0 I (.cons rfl (.cons ⟨t, rfl⟩ .nil)) h3) (fun w s' z => back z) fun _ _ x => x
theorem op_IR {op : Operator} (D : DecB op) (G : Gf X.prog X.w X.K X.mg X.base CX0 k g qs [] sp) (o : OwOk X.K C) (p : SpOk X.K C n f) (q : SpOk X.K C m g) (hr : RG j X.A) (hj : k ≤ j) (e : PySem.dunder op.info.2 = n := by rfl) (e2 : dunderR op.info.2 = m := by rfl) :
    OpR X (binaryOp op) (rIR C sp) := by
  intro pins s σ H x y v u Q I rx ry h
  obtain ⟨a, dx, fs, i, rfl, rfl, ea, h3⟩ := h
  obtain rfl : u = Value.ref a := ry
  obtain ⟨t, rfl⟩ := rx
  obtain ⟨mA, O, _⟩ := ins_get I.hok ea
  obtain ⟨od, J, _⟩ := O.look
  obtain ⟨m, hF⟩ := I.fr
  refine Own.bin_intL D hF I.ok.mod.kin J (ins_obj I.hok ea) o.first (by rw [e]; exact p.at_) (by rw [e2]; exact q.at_) q.fn o.sub2 ?_
  exact wpAny_mono (run_g (us := [.ref a, .int i t]) (vs := [.ref a, .int i]) G hr hj pass0 I (.cons rfl (.cons ⟨t, rfl⟩ .nil)) h3) (fun w s' z => back z) fun _ _ x => x
theorem cmp_RR {op : CmpOp} (hop : ∀ a b, compareOp op a b = richCompare op a b) (G : Gf X.prog X.w X.K X.mg X.base CX0 k f ps [] sp) (p : SpOk X.K C n f) (hr : RG j X.A) (hj : k ≤ j) (e : (cmpInfo op).2.1 = n := by rfl) : OpR X (compareOp op) (rRR C sp) := by
  intro pins s σ H x y v u Q I rx ry h
  obtain ⟨a, dx, fs, b, dy, gs, rfl, rfl, ea, eb, h1⟩ := h
  obtain rfl : v = Value.ref a := rx
  obtain rfl : u = Value.ref b := ry
  obtain ⟨mA, O, _⟩ := ins_get I.hok ea
  obtain ⟨od, J, _⟩ := O.look
  obtain ⟨mB, O', _⟩ := ins_get I.hok eb
  obtain ⟨od', J', _⟩ := O'.look
  obtain ⟨m, hF⟩ := I.fr
  rw [hop]
  refine PySem.W.cmp_K (op := op) (tb := .ref C) hr.r.units0 hF I.ok.mod.kin J J'.type (by simp [PySem.W.notFirst]) (by rw [e]; exact p.at_) p.fn ?_
  exact wpAny_mono (run_g (us := [.ref a, .ref b]) (vs := [.ref a, .ref b]) G hr hj pass0 I (.cons rfl (.cons rfl .nil)) h1) (fun w s' z => back z) fun _ _ x => x
theorem cmp_RI {op : CmpOp} (hop : ∀ a b, compareOp op a b = richCompare op a b) (G : Gf X.prog X.w X.K X.mg X.base CX0 k f ps [] sp) (o : OwOk X.K C) (p : SpOk X.K C n f) (hr : RG j X.A) (hj : k ≤ j) (e : (cmpInfo op).2.1 = n := by rfl) : OpR X (compareOp op) (rRI C sp) := by
  intro pins s σ H x y v u Q I rx ry h
  obtain ⟨a, dx, fs, i, rfl, rfl, ea, h1⟩ := h
  obtain rfl : v = Value.ref a := rx
  obtain ⟨t, rfl⟩ := ry
  obtain ⟨mA, O, _⟩ := ins_get I.hok ea
  obtain ⟨od, J, _⟩ := O.look
  obtain ⟨m, hF⟩ := I.fr
  rw [hop]
  refine PySem.W.cmp_K (op := op) (tb := .type "int") hr.r.units0 hF I.ok.mod.kin J (PySem.W.Looks.of_pure rfl) (by unfold PySem.W.notFirst; rw [o.sub1] <;> rfl) (by rw [e]; exact p.at_) p.fn ?_
  exact wpAny_mono (run_g (us := [.ref a, .int i t]) (vs := [.ref a, .int i]) G hr hj pass0 I (.cons rfl (.cons ⟨t, rfl⟩ .nil)) h1) (fun w s' z => back z) fun _ _ x => x
theorem cmp_IR {op : CmpOp} (hop : ∀ a b, compareOp op a b = richCompare op a b) (D : DecC op) (G : Gf X.prog X.w X.K X.mg X.base CX0 k f ps [] sp) (o : OwOk X.K C) (p : SpOk X.K C n f) (hr : RG j X.A) (hj : k ≤ j) (e : (cmpInfo op).2.2 = n := by rfl) : OpR X (compareOp op) (rIR C sp) := by
  intro pins s σ H x y v u Q I rx ry h
  obtain ⟨a, dx, fs, i, rfl, rfl, ea, h1⟩ := h
  obtain rfl : u = Value.ref a := ry
  obtain ⟨t, rfl⟩ := rx
  obtain ⟨mA, O, _⟩ := ins_get I.hok ea
  obtain ⟨od, J, _⟩ := O.look
  obtain ⟨m, hF⟩ := I.fr
  rw [hop]
  refine Own.cmp_intL D hr.r.units0 hF I.ok.mod.kin J (ins_obj I.hok ea) (by rw [e]; exact p.at_) p.fn o.sub2 ?_
  exact wpAny_mono (run_g (us := [.ref a, .int i t]) (vs := [.ref a, .int i]) G hr hj pass0 I (.cons rfl (.cons ⟨t, rfl⟩ .nil)) h1) (fun w s' z => back z) fun _ _ x => x
def rUn (C : Addr) (sp : Sp) : V → Hp → VK → Prop := fun x H Q => ∃ a dx fs, x = .ref a ∧ H a = some (.ins C dx fs) ∧ sp [.ref a] H Q E0
theorem un_negO (G : Gf X.prog X.w X.K X.mg X.base CX0 k f ps [] sp) (p : SpOk X.K C "__neg__" f) (hr : RG j X.A) (hj : k ≤ j) : UnR X (unaryOp .USub) (rUn C sp) := by
  intro pins s σ H x v Q I rx h
  obtain ⟨a, dx, fs, rfl, ea, h1⟩ := h
  obtain rfl : v = Value.ref a := rx
  obtain ⟨mA, O, _⟩ := ins_get I.hok ea
  obtain ⟨od, J, _⟩ := O.look
  obtain ⟨m, hF⟩ := I.fr
  exact PySem.W.ksp_neg hF I.ok.mod.kin J p.at_ p.fn (run_g (us := [.ref a]) (vs := [.ref a]) G hr hj pass0 I (.cons rfl .nil) h1)
/-- repr of a truth value -/
theorem call_reprBl : CallR X (.builtin "repr") (fun xs H Q => ∃ b, xs = [.bl b] ∧ Q (.str (if b = true then "True" else "False")) H) := by
  intro pins s σ H xs us Q I r h
  obtain ⟨b, rfl, q⟩ := h
  obtain ⟨u, rfl, rfl⟩ := vals1 r
  exact PySem.P.repr_of_bool ⟨.str _, H, I.tok _, ⟨_, rfl⟩, q⟩
def rBoolOwn (C : Addr) (sp : Sp) : List V → Hp → VK → Prop := fun xs H Q => ∃ a dx fs, xs = [.ref a] ∧ H a = some (.ins C dx fs) ∧ sp [.ref a] H (fun v H' => ∃ b, v = .bl b ∧ Q v H') E0
theorem call_boolOwn (G : Gf X.prog X.w X.K X.mg X.base CX0 k f ps [] sp) (p : SpOk X.K C "__bool__" f) (hr : RG j X.A) (hj : k + 2 ≤ j) : CallR X (.type "bool") (rBoolOwn C sp) := by
  intro pins s σ H xs us Q I r h
  obtain ⟨a, dx, fs, rfl, ea, h1⟩ := h
  obtain ⟨u, rfl, rx⟩ := vals1 r
  obtain rfl : u = Value.ref a := rx
  obtain ⟨mA, O, _⟩ := ins_get I.hok ea
  obtain ⟨od, J, _⟩ := O.look
  obtain ⟨m, hF⟩ := I.fr
  have hr2 : RG (k + 2) X.A := hr.mono hj
  refine Own.bool_own I.kIn hF I.ok.mod.kin J p.at_ p.fn (run_sp G hr2.in1.in1 rfl I h1 fun v H' u s' I' rv q => ?_)
  obtain ⟨b, rfl, q⟩ := q
  obtain rfl := rv
  exact ⟨.bl b, H', I', rfl, q⟩
end
section
variable {K : PySem.W.Frag} {C : Addr} {sp : Sp} {H : Hp} {Q : VK}
theorem f_RR {a dx b dy : Addr} {fs gs : List (Str × V)} (ha : H a = some (.ins C dx fs)) (hb : H b = some (.ins C dy gs)) (q : sp [.ref a, .ref b] H Q E0) : rRR C sp (.ref a) (.ref b) H Q := ⟨a, dx, fs, b, dy, gs, rfl, rfl, ha, hb, q⟩
theorem f_RI {a dx : Addr} {fs : List (Str × V)} {i : Int} (ha : H a = some (.ins C dx fs)) (q : sp [.ref a, .int i] H Q E0) : rRI C sp (.ref a) (.int i) H Q := ⟨a, dx, fs, i, rfl, rfl, ha, q⟩
theorem f_IR {a dx : Addr} {fs : List (Str × V)} {i : Int} (ha : H a = some (.ins C dx fs)) (q : sp [.ref a, .int i] H Q E0) : rIR C sp (.int i) (.ref a) H Q := ⟨a, dx, fs, i, rfl, rfl, ha, q⟩
theorem f_un {a dx : Addr} {fs : List (Str × V)} (ha : H a = some (.ins C dx fs)) (q : sp [.ref a] H Q E0) : rUn C sp (.ref a) H Q := ⟨a, dx, fs, rfl, ha, q⟩
theorem f_boolOwn {a dx : Addr} {fs : List (Str × V)} (ha : H a = some (.ins C dx fs)) (q : sp [.ref a] H (fun v H' => ∃ b, v = .bl b ∧ Q v H') E0) : rBoolOwn C sp [.ref a] H Q := ⟨a, dx, fs, rfl, ha, q⟩
end
end My

set_option Elab.async false
set_option linter.all false
set_option maxRecDepth 100000
set_option maxHeartbeats 4000000
/-! LayH: != of a class with its own __eq__ -/
namespace My
open PySem PySem.Spec PyProof.Rows L2 He
namespace Own
open PySem.W PySem.Calls
section
variable {prog : Program} {w : World} {A : Around} {E : Value → Shared → Prop} {s : Shared} {K : Frag} {x C L f : Addr} {h₀ : Heap} {m : Str → Option Value} {ox : Obj} {od : Option Obj} {b tb : Value}
theorem ne_try {Q : Value → Shared → Prop} (hu : A.in1.units < cLine) (X : K.In s.heap) (I : InstAt s.heap x ox C od) (hne : findIn K (.ref C) "__ne__" = some (some (.builtin "object.__ne__"))) (hob : subIn K (.ref C) (.type "object") = some true)
    (hs : findIn K (.ref C) "__eq__" = some (some (.ref f))) (hf : isFn K (.ref f) = true)
    (h : wpAny (model prog w) A.in1 (call (.ref f) [.ref x, b]) (fun v s' => ∃ c, v = .bool c ∧ Q (.bool (!c)) s') E s) : wpAny (model prog w) A (tryCompare (.ref x) "__ne__" b) (fun r s' => ∃ v, r = some v ∧ Q v s') E s := by
  have FB := F.cmp_object
  unfold tryCompare
  refine wpAny_bind ?_
  simp only [callSpecialIfBound?, bindSpecialIfBound?]
  refine wpAny_holding (wpAny_bind (wpAny_bind (wpAny_bind (I.type.here ((looks_findIn X hne).here ?_)))))
  simp only [FB.ne.bind]
  refine wpAny_bind (wpAny_askSetting (wpAny_ite ?_))
  have ent : wpAny (model prog w) A.in1 (Builtin.«object.__ne__» ⟨[.ref x, b], []⟩) (fun fl s' => ∃ c, fl = .done (.ret (.bool (!c))) ∧ Q (.bool (!c)) s') E s := by
    unfold Builtin.«object.__ne__»
    refine wpAny_bind (wpAny_pure ?_)
    refine wpAny_bind (wpAny_cRoomFor hu ?_)
    refine wpAny_bind (ifBound_K X I hs hf (wpAny_mono h (fun v s' hv => ?_) fun _ _ e => e))
    obtain ⟨c, rfl, hq⟩ := hv
    exact wpAny_bind (wpAny_pure (wpAny_pure ⟨c, rfl, hq⟩))
  have chk : wpAny (model prog w) A.in1 (checkBuiltinCall "object.__ne__" ⟨[.ref x, b], []⟩) (fun _ s' => s' = s) E s := by
    simp only [checkBuiltinCall, F.cmpKind_ne, F.cmpSplit_ne]
    refine wpAny_bind ?_
    unfold isInstance
    refine wpAny_bind (I.type.here ?_)
    refine (looks_subIn X hob).here ?_
    rw [if_neg (show ¬ ((!true) = true) from Bool.false_ne_true)]
    have ha := F.cmpArgs_ne (.ref x) b
    cases hsig : Manifest.signature? "object.__ne__" with
    | none => exact wpAny_pure rfl
    | some sig =>
      simp only [argsOk, hsig] at ha
      have h2 : Bind.checkArgs "object.__ne__" sig ⟨[.ref x, b], []⟩ = pure () := ha
      show wpAny _ A.in1 (Bind.checkArgs "object.__ne__" sig ⟨[.ref x, b], []⟩) _ E _
      rw [h2]
      exact wpAny_pure rfl
  have fin : wpAny (model prog w) A (call (.builtin "object.__ne__") ([.ref x] ++ [b]) >>= fun v => pure (some v)) (fun r s' => ∃ v, r = some v ∧ (∃ c, v = .bool c) ∧ Q v s') E s := by
    refine wpAny_bind (wpAny_call (codeAny_call_builtin FB.ne.plain F.cmpEntry_ne ?_))
    refine wpAny_mono chk (fun _ s' e => ?_) fun _ _ e => e
    subst e
    refine wpAny_mono ent (fun fl s1 hfl => ?_) fun _ _ e => e
    obtain ⟨c, rfl, hq⟩ := hfl
    exact wpAny_pure ⟨_, rfl, ⟨_, rfl⟩, hq⟩
  have last : ∀ (a : Option Value) (s' : Shared), (∃ v, a = some v ∧ (∃ c, v = .bool c) ∧ Q v s') → wpAny (model prog w) A (match a with | some Value.notImplemented => pure none | none => pure none | some v => pure (some v)) (fun r s' => ∃ v, r = some v ∧ Q v s') E s' := by
    rintro a s' ⟨v, rfl, ⟨c, rfl⟩, hq⟩
    exact wpAny_pure ⟨_, rfl, hq⟩
  split
  · exact wpAny_bind (wpAny_pure (wpAny_pure (wpAny_mono fin (fun a s' z => last a s' z) fun _ _ e => e)))
  · exact wpAny_tryCatch (wpAny_bind (wpAny_pure (wpAny_pure (wpAny_mono fin (fun a s' z => last a s' z) fun _ _ e => e))))
theorem ne_own {Q : Value → Shared → Prop} (hu : A.units < cLine) (hu1 : A.in1.units < cLine) (F : Fr h₀ L s.heap m) (X₀ : K.In h₀) (I : InstAt s.heap x ox C od) (hb : Looks (model prog w) s.heap (typeOf b) tb) (hn : notFirst K C tb = true)
    (hne : findIn K (.ref C) "__ne__" = some (some (.builtin "object.__ne__"))) (hob : subIn K (.ref C) (.type "object") = some true) (hs : findIn K (.ref C) "__eq__" = some (some (.ref f))) (hf : isFn K (.ref f) = true)
    (h : wpAny (model prog w) A.in1 (call (.ref f) [.ref x, b]) (fun v s' => ∃ c, v = .bool c ∧ Q (.bool (!c)) s') E s) : wpAny (model prog w) A (richCompare .NotEq (.ref x) b) Q E s := by
  have X := X₀.keeps F.keep
  have one := ne_try (Q := Q) hu1 X I hne hob hs hf h
  unfold richCompare
  simp only [oneThing_ref]
  refine wpAny_holding (wpAny_bind (wpAny_cRoomFor hu ?_))
  refine wpAny_bind (I.type.here (wpAny_bind (hb.here ?_)))
  split
  · rename_i q
    have e : subIn K tb (.ref C) = some false := by
      rcases Bool.or_eq_true_iff.mp hn with e | e
      · rw [beq_iff_eq.mp e] at q
        simp at q
      · exact beq_iff_eq.mp e
    refine wpAny_bind ((looks_subIn X e).here ?_)
    simp only [Bool.false_eq_true, if_false]
    refine wpAny_bind (wpAny_mono one (fun r s' z => ?_) fun _ _ e => e)
    obtain ⟨v, rfl, hq⟩ := z
    exact wpAny_pure hq
  · refine wpAny_bind (wpAny_pure ?_)
    simp only [Bool.false_eq_true, if_false]
    refine wpAny_bind (wpAny_mono one (fun r s' z => ?_) fun _ _ e => e)
    obtain ⟨v, rfl, hq⟩ := z
    exact wpAny_pure hq
/-- int != own: the int declines, object's __ne__ of the own class answers -/
theorem ne_intL {i : Int} {t : Tok} {dx : Addr} {Q : Value → Shared → Prop} (hu : A.units < cLine) (hu1 : A.in1.units < cLine) (F : Fr h₀ L s.heap m) (X₀ : K.In h₀) (I : InstAt s.heap x ox C od) (ho : s.heap.get? x = some (instObj C dx))
    (hne : findIn K (.ref C) "__ne__" = some (some (.builtin "object.__ne__"))) (hob : subIn K (.ref C) (.type "object") = some true) (hs : findIn K (.ref C) "__eq__" = some (some (.ref f))) (hf : isFn K (.ref f) = true) (hsub : subIn K (.ref C) (.type "int") = some false)
    (h : wpAny (model prog w) A.in1 (call (.ref f) [.ref x, .int i t]) (fun v s' => ∃ c, v = .bool c ∧ Q (.bool (!c)) s') E s) : wpAny (model prog w) A (richCompare .NotEq (.int i t) (.ref x)) Q E s := by
  have X := X₀.keeps F.keep
  obtain ⟨id, B, slot, entry, args, gives⟩ := decC_ne.ex
  have one : wpAny (model prog w) A (tryCompare (.ref x) (cmpInfo .NotEq).2.2 (.int i t)) (fun r s' => ∃ v, r = some v ∧ Q v s') E s := ne_try hu1 X I hne hob hs hf h
  have cl : wpAny (model prog w) A (call (.builtin id) [.int i t, .ref x]) (fun v s' => v = .notImplemented ∧ s' = s) E s :=
    call_meets slot (typeIs_int s i t) entry (args i t x) (gives i t x C dx) ⟨ho, rfl, rfl⟩
  have ti := typeIs_int s i t
  have one0 : oneThing? .NotEq (.int i t) (.ref x) = none := ti.oneThing_none .NotEq _
  unfold richCompare
  simp only [one0]
  refine wpAny_holding (wpAny_bind (wpAny_cRoomFor hu ?_))
  have L1 : Looks (model prog w) s.heap (typeOf (.int i t)) (.type "int") := Looks.of_pure rfl
  refine wpAny_bind (L1.here (wpAny_bind (I.type.here ?_)))
  rw [if_pos (show (Value.type "int" != Value.ref C) = true from rfl)]
  refine wpAny_bind ((looks_subIn X hsub).here ?_)
  simp only [Bool.false_eq_true, if_false]
  refine wpAny_bind (wpAny_tryCompare_declines ti slot (wpAny_mono cl (fun v s' hv => ⟨hv.1, ?_⟩) fun _ _ e => e))
  obtain ⟨_, rfl⟩ := hv
  refine wpAny_bind (wpAny_mono one (fun r s' z => ?_) fun _ _ e => e)
  obtain ⟨v, rfl, hq⟩ := z
  exact wpAny_pure hq
end
end Own
/-! the readings -/
structure NeOk (K : PySem.W.Frag) (C : Addr) : Prop where
  ne : PySem.W.findIn K (.ref C) "__ne__" = some (some (.builtin "object.__ne__"))
  ob : PySem.W.subIn K (.ref C) (.type "object") = some true
def neB (K : PySem.W.Frag) (x : Str) : Bool := eqO (PySem.W.findIn K (.ref (ga K x)) "__ne__") (some (some (.builtin "object.__ne__"))) && decide (PySem.W.subIn K (.ref (ga K x)) (.type "object") = some true)
theorem neB_ok {K : PySem.W.Frag} {x : Str} (h : neB K x = true) : NeOk K (ga K x) := by
  obtain ⟨h1, h2⟩ := ba h
  exact ⟨eqO_ok h1, of_decide_eq_true h2⟩
/-- the own == answers by a truth value, != by the other one -/
def turned (Q : VK) : VK := fun v H' => ∃ c, v = .bl c ∧ Q (.bl (!c)) H'
def nRR (C : Addr) (sp : Sp) : R2 := fun x y H Q => rRR C sp x y H (turned Q)
def nRI (C : Addr) (sp : Sp) : R2 := fun x y H Q => rRI C sp x y H (turned Q)
def nIR (C : Addr) (sp : Sp) : R2 := fun x y H Q => rIR C sp x y H (turned Q)
section
variable {X : Cx} {k j : Nat} {f C : Addr} {ps : List Str} {sp : Sp}
theorem run_turned {pins : List (Addr × Obj)} {σ : L2.St} {H : Hp} {s : Shared} {Q : VK} {us : List Value} {vs : List V} (G : Gf X.prog X.w X.K X.mg X.base CX0 k f ps [] sp) (hr : RG (k + 1) X.A) (I : Inv X pins σ H s) (r : Vals vs us) (h : sp vs H (turned Q) E0) :
    wpAny (model X.prog X.w) X.A.in1 (call (.ref f) us) (fun v s' => ∃ c, v = .bool c ∧ EP X pins σ Q (.bool (!c)) s') X.xe s := by
  have h2 : sp (vs ++ []) H (turned Q) E0 := by
    rw [List.append_nil]
    exact h
  refine wpAny_call (codeAny_mono (G.go (outer := X.stack) (us := us) (vs := vs) hr.in1 (Nat.le_refl _) I.env0.in1 I.kIn r h2) fun y s' hq => ?_)
  match y, hq with
  | .error er, hq => exact hq.elim
  | .ok (.ret u), hq =>
    obtain ⟨v, H', I3, rv, c, rfl, q3⟩ := I.after hq
    obtain rfl := rv
    exact ⟨c, rfl, .bl (!c), H', I3, rfl, q3⟩
theorem ne_RR (G : Gf X.prog X.w X.K X.mg X.base CX0 k f ps [] sp) (n : NeOk X.K C) (p : SpOk X.K C "__eq__" f) (hr : RG j X.A) (hj : k + 1 ≤ j) : OpR X (compareOp .NotEq) (nRR C sp) := by
  intro pins s σ H x y v u Q I rx ry h
  obtain ⟨a, dx, fs, b, dy, gs, rfl, rfl, ea, eb, h1⟩ := h
  obtain rfl : v = Value.ref a := rx
  obtain rfl : u = Value.ref b := ry
  obtain ⟨mA, O, _⟩ := ins_get I.hok ea
  obtain ⟨od, J, _⟩ := O.look
  obtain ⟨mB, O', _⟩ := ins_get I.hok eb
  obtain ⟨od', J', _⟩ := O'.look
  obtain ⟨m, hF⟩ := I.fr
  have hr1 : RG (k + 1) X.A := hr.mono hj
  exact Own.ne_own (tb := .ref C) hr.r.units0 hr1.in1.r.units0 hF I.ok.mod.kin J J'.type (by simp [PySem.W.notFirst]) n.ne n.ob p.at_ p.fn (run_turned (us := [.ref a, .ref b]) (vs := [.ref a, .ref b]) G hr1 I (.cons rfl (.cons rfl .nil)) h1)
theorem ne_RI (G : Gf X.prog X.w X.K X.mg X.base CX0 k f ps [] sp) (o : OwOk X.K C) (n : NeOk X.K C) (p : SpOk X.K C "__eq__" f) (hr : RG j X.A) (hj : k + 1 ≤ j) : OpR X (compareOp .NotEq) (nRI C sp) := by
  intro pins s σ H x y v u Q I rx ry h
  obtain ⟨a, dx, fs, i, rfl, rfl, ea, h1⟩ := h
  obtain rfl : v = Value.ref a := rx
  obtain ⟨t, rfl⟩ := ry
  obtain ⟨mA, O, _⟩ := ins_get I.hok ea
  obtain ⟨od, J, _⟩ := O.look
  obtain ⟨m, hF⟩ := I.fr
  have hr1 : RG (k + 1) X.A := hr.mono hj
  exact Own.ne_own (tb := .type "int") hr.r.units0 hr1.in1.r.units0 hF I.ok.mod.kin J (PySem.W.Looks.of_pure rfl) (by unfold PySem.W.notFirst; rw [o.sub1] <;> rfl) n.ne n.ob p.at_ p.fn (run_turned (us := [.ref a, .int i t]) (vs := [.ref a, .int i]) G hr1 I (.cons rfl (.cons ⟨t, rfl⟩ .nil)) h1)
theorem ne_IR (G : Gf X.prog X.w X.K X.mg X.base CX0 k f ps [] sp) (o : OwOk X.K C) (n : NeOk X.K C) (p : SpOk X.K C "__eq__" f) (hr : RG j X.A) (hj : k + 1 ≤ j) : OpR X (compareOp .NotEq) (nIR C sp) := by
  intro pins s σ H x y v u Q I rx ry h
  obtain ⟨a, dx, fs, i, rfl, rfl, ea, h1⟩ := h
  obtain rfl : u = Value.ref a := ry
  obtain ⟨t, rfl⟩ := rx
  obtain ⟨mA, O, _⟩ := ins_get I.hok ea
  obtain ⟨od, J, _⟩ := O.look
  obtain ⟨m, hF⟩ := I.fr
  have hr1 : RG (k + 1) X.A := hr.mono hj
  exact Own.ne_intL hr.r.units0 hr1.in1.r.units0 hF I.ok.mod.kin J (ins_obj I.hok ea) n.ne n.ob p.at_ p.fn o.sub2 (run_turned (us := [.ref a, .int i t]) (vs := [.ref a, .int i]) G hr1 I (.cons rfl (.cons ⟨t, rfl⟩ .nil)) h1)
/-- one of three readings of an operator -/
def r3 (r1 r2 r3 : R2) : R2 := fun x y H Q => r1 x y H Q ∨ r2 x y H Q ∨ r3 x y H Q
theorem op_3 {g : Value → Value → Sem Value} {r1 r2 r3' : R2} (h1 : OpR X g r1) (h2 : OpR X g r2) (h3 : OpR X g r3') : OpR X g (r3 r1 r2 r3') := fun pins s σ H x y v u Q I rx ry h =>
  h.elim (h1 pins s σ H x y v u Q I rx ry) fun h => h.elim (h2 pins s σ H x y v u Q I rx ry) (h3 pins s σ H x y v u Q I rx ry)
end
end My

set_option Elab.async false
set_option linter.all false
set_option maxRecDepth 100000
set_option maxHeartbeats 4000000
/-! LayI: other kinds of values beside an instance of an own class -/
namespace My
open PySem PySem.Spec PyProof.Rows L2 He
section
variable (l C dx : Addr)
theorem dec_eqBool (b : Bool) : Meets (Builtin.«int.__eq__» ⟨[.bool b, .ref l], []⟩) (fun _ R s => s.heap.get? l = some (PySem.W.instObj C dx) ∧ R (.ok (.ret Value.notImplemented)) s) :=
  .of_wp fun prog w A R s h => by obtain ⟨hp, g, d, tk, os⟩ := s; obtain ⟨hl, h⟩ := h; wp_walk; exact ⟨_, rfl, h⟩
theorem dec_eqNone : Meets (Builtin.«NoneType.__eq__» ⟨[.none, .ref l], []⟩) (fun _ R s => s.heap.get? l = some (PySem.W.instObj C dx) ∧ R (.ok (.ret Value.notImplemented)) s) :=
  .of_wp fun prog w A R s h => by obtain ⟨hp, g, d, tk, os⟩ := s; obtain ⟨hl, h⟩ := h; wp_walk; exact ⟨_, rfl, h⟩
theorem dec_eqStr (x : Str) (t : Tok) : Meets (Builtin.«str.__eq__» ⟨[.str x t, .ref l], []⟩) (fun _ R s => s.heap.get? l = some (PySem.W.instObj C dx) ∧ R (.ok (.ret Value.notImplemented)) s) :=
  .of_wp fun prog w A R s h => by obtain ⟨hp, g, d, tk, os⟩ := s; obtain ⟨hl, h⟩ := h; wp_walk; exact ⟨_, rfl, h⟩
theorem dec_eqTuple {K : PySem.W.Frag} (a : Addr) (o : Obj) (its : Array Value) (n : Nat) (hd : o.data = .seq its n) (hc : o.cls = .type "tuple") (hsub : PySem.W.subIn K (.ref C) (.type "tuple") = some false) :
    Meets (Builtin.«tuple.__eq__» ⟨[.ref a, .ref l], []⟩) (fun _ R s => K.In s.heap ∧ s.heap.get? a = some o ∧ s.heap.get? l = some (PySem.W.instObj C dx) ∧ R (.ok (.ret Value.notImplemented)) s) :=
  .of_wp fun prog w A R s h => by
    obtain ⟨hp, g, d, tk, os⟩ := s
    obtain ⟨X, ha, hl, h⟩ := h
    obtain ⟨oc, od, dd, sl⟩ := o
    subst hd
    subst hc
    wp_walk
    refine (PySem.W.looks_subIn (M := model prog w) X hsub).here ?_
    wp_walk
    exact ⟨_, rfl, h⟩
theorem dec_eqList {K : PySem.W.Frag} (a : Addr) (o : Obj) (its : Array Value) (n : Nat) (hd : o.data = .seq its n) (hc : o.cls = .type "list") (hsub : PySem.W.subIn K (.ref C) (.type "list") = some false) :
    Meets (Builtin.«list.__eq__» ⟨[.ref a, .ref l], []⟩) (fun _ R s => K.In s.heap ∧ s.heap.get? a = some o ∧ s.heap.get? l = some (PySem.W.instObj C dx) ∧ R (.ok (.ret Value.notImplemented)) s) :=
  .of_wp fun prog w A R s h => by
    obtain ⟨hp, g, d, tk, os⟩ := s
    obtain ⟨X, ha, hl, h⟩ := h
    obtain ⟨oc, od, dd, sl⟩ := o
    subst hd
    subst hc
    wp_walk
    refine (PySem.W.looks_subIn (M := model prog w) X hsub).here ?_
    wp_walk
    exact ⟨_, rfl, h⟩
theorem dec_eqDict {K : PySem.W.Frag} (a : Addr) (o : Obj) (hc : o.cls = .type "dict") (hsub : PySem.W.subIn K (.ref C) (.type "dict") = some false) :
    Meets (Builtin.«dict.__eq__» ⟨[.ref a, .ref l], []⟩) (fun _ R s => K.In s.heap ∧ s.heap.get? a = some o ∧ s.heap.get? l = some (PySem.W.instObj C dx) ∧ R (.ok (.ret Value.notImplemented)) s) :=
  .of_wp fun prog w A R s h => by
    obtain ⟨hp, g, d, tk, os⟩ := s
    obtain ⟨X, ha, hl, h⟩ := h
    obtain ⟨oc, od, dd, sl⟩ := o
    subst hc
    wp_walk
    refine (PySem.W.looks_subIn (M := model prog w) X hsub).here ?_
    wp_walk
    exact ⟨_, rfl, h⟩
end
/-! the rule: v == own, v declines -/
namespace Own
open PySem.W PySem.Calls
section
variable {prog : Program} {w : World} {A : Around} {E : Value → Shared → Prop} {s : Shared} {K : Frag} {x C L f : Addr} {h₀ : Heap} {m : Str → Option Value} {ox : Obj} {od : Option Obj} {v : Value} {T id : String}
theorem eq_declL {Q : Value → Shared → Prop} (ti : s.TypeIs v T) (slot : Slot T (cmpInfo .Eq).2.1 id) (cl : wpAny (model prog w) A (call (.builtin id) [v, .ref x]) (fun r s' => r = .notImplemented ∧ s' = s) E s) (hu : A.units < cLine) (F : Fr h₀ L s.heap m) (X₀ : K.In h₀) (I : InstAt s.heap x ox C od)
    (hs : findIn K (.ref C) "__eq__" = some (some (.ref f))) (hf : isFn K (.ref f) = true) (hsub : subIn K (.ref C) (.type T) = some false)
    (h : wpAny (model prog w) A (call (.ref f) [.ref x, v]) (PySem.W.CmpBack Q) E s) : wpAny (model prog w) A (richCompare .Eq v (.ref x)) Q E s := by
  have X := X₀.keeps F.keep
  have one : wpAny (model prog w) A (tryCompare (.ref x) (cmpInfo .Eq).2.2 v) (fun r s' => ∃ v, r = some v ∧ Q v s') E s := by
    unfold tryCompare
    refine wpAny_bind (ifBound_K X I hs hf (wpAny_mono h (fun v s' hv => ?_) fun _ _ e => e))
    cases v <;> first | exact hv.elim | exact wpAny_pure ⟨_, rfl, hv⟩
  have one0 : oneThing? .Eq v (.ref x) = none := ti.oneThing_none .Eq _
  unfold richCompare
  simp only [one0]
  refine wpAny_holding (wpAny_bind (wpAny_cRoomFor hu ?_))
  refine wpAny_bind (wpAny_typeOf ti (wpAny_bind (I.type.here ?_)))
  rw [if_pos (show (Value.type T != Value.ref C) = true from rfl)]
  refine wpAny_bind ((looks_subIn X hsub).here ?_)
  simp only [Bool.false_eq_true, if_false]
  refine wpAny_bind (wpAny_tryCompare_declines ti slot (wpAny_mono cl (fun v s' hv => ⟨hv.1, ?_⟩) fun _ _ e => e))
  obtain ⟨_, rfl⟩ := hv
  refine wpAny_bind (wpAny_mono one (fun r s' z => ?_) fun _ _ e => e)
  obtain ⟨v, rfl, hq⟩ := z
  exact wpAny_pure hq
end
end Own
/-! kinds of values -/
inductive Kd (H : Hp) : V → String → Prop where
  | bl (b : Bool) : Kd H (.bl b) "bool"
  | non : Kd H .non "NoneType"
  | str (x : Str) : Kd H (.str x) "str"
  | lst {a : Addr} {xs : List V} (e : H a = some (.lst xs)) : Kd H (.ref a) "list"
  | tup {a : Addr} {xs : List V} (e : H a = some (.tup xs)) : Kd H (.ref a) "tuple"
  | dct {a : Addr} {kvs : List (Key × V)} (e : H a = some (.dK kvs)) : Kd H (.ref a) "dict"
theorem Kd.ty {K : PySem.W.Frag} {H : Hp} {x : V} {T : String} (k : Kd H x T) : TyX K H x (.type T) := by
  cases k with
  | bl b => exact .base (.bl b)
  | non => exact .base .non
  | str x => exact .base (.str x)
  | lst e => exact .base (.lst e)
  | tup e => exact .base (.tup e)
  | dct e => exact .base (.dK e)
def kinds : List String := ["bool", "NoneType", "str", "list", "tuple", "dict"]
theorem Kd.mem {H : Hp} {x : V} {T : String} (k : Kd H x T) : T ∈ kinds := by cases k <;> decide
section
variable {X : Cx} {pins : List (Addr × Obj)} {σ : L2.St} {H : Hp} {s : Shared}
theorem looks_type {M : Model} {v : Value} {T : String} (ti : s.TypeIs v T) : PySem.W.Looks M s.heap (typeOf v) (.type T) := fun A Q E s' kp q => by
  refine wpAny_typeOf (s := s') ?_ q
  cases v with
  | ref a =>
    obtain ⟨o, h1, h2⟩ := ti
    exact ⟨o, kp _ _ h1, h2⟩
  | _ => exact ti
theorem Kd.decl {x : V} {v : Value} {T : String} {l C dx : Addr} {A : Around} {E : Value → Shared → Prop} (k : Kd H x T) (I : Inv X pins σ H s) (r : RelV x v) (ho : s.heap.get? l = some (PySem.W.instObj C dx)) (hsub : ∀ T ∈ kinds, PySem.W.subIn X.K (.ref C) (.type T) = some false) :
    s.TypeIs v T ∧ ∃ id, Slot T (cmpInfo .Eq).2.1 id ∧ wpAny (model X.prog X.w) A (call (.builtin id) [v, .ref l]) (fun r s' => r = .notImplemented ∧ s' = s) E s := by
  cases k with
  | bl b =>
    obtain rfl := r
    exact ⟨rfl, _, F.slot_bool_eq, call_meets F.slot_bool_eq (PySem.typeIs_bool s b) F.entry_int_eq (F.args_int_eq_2 _ _) (dec_eqBool l C dx b) ⟨ho, rfl, rfl⟩⟩
  | non =>
    obtain rfl := r
    exact ⟨rfl, _, F.slot_NoneType_eq, call_meets F.slot_NoneType_eq rfl F.entry_NoneType_eq (F.args_NoneType_eq_2 _ _) (dec_eqNone l C dx) ⟨ho, rfl, rfl⟩⟩
  | str x =>
    obtain ⟨t, rfl⟩ := r
    exact ⟨rfl, _, F.slot_str_eq, call_meets F.slot_str_eq rfl F.entry_str_eq (F.args_str_eq_2 _ _) (dec_eqStr l C dx x t) ⟨ho, rfl, rfl⟩⟩
  | @lst a xs e =>
    obtain rfl : v = Value.ref a := r
    obtain ⟨_, its, n, _, g⟩ := (show ObjOk _ _ H s.heap a (.lst xs) from I.hok a _ e)
    have ti : s.TypeIs (.ref a) "list" := ⟨_, g, rfl⟩
    exact ⟨ti, _, F.slot_list_eq, call_meets F.slot_list_eq ti F.entry_list_eq (F.args_list_eq_2 _ _) (dec_eqList l C dx a _ _ _ rfl rfl (hsub _ (by decide))) ⟨I.kIn, g, ho, rfl, rfl⟩⟩
  | @tup a xs e =>
    obtain rfl : v = Value.ref a := r
    obtain ⟨_, its, _, o, g, c, n, d⟩ := (show ObjOk _ _ H s.heap a (.tup xs) from I.hok a _ e)
    have ti : s.TypeIs (.ref a) "tuple" := ⟨_, g, c⟩
    exact ⟨ti, _, F.slot_tuple_eq, call_meets F.slot_tuple_eq ti F.entry_tuple_eq (F.args_tuple_eq_2 _ _) (dec_eqTuple l C dx a _ _ _ d c (hsub _ (by decide))) ⟨I.kIn, g, ho, rfl, rfl⟩⟩
  | @dct a kvs e =>
    obtain rfl : v = Value.ref a := r
    obtain ⟨_, _, vs, _, o, es, ep, g, ⟨c, _, _⟩, _⟩ := (show ObjOk _ _ H s.heap a (.dK kvs) from I.hok a _ e)
    have ti : s.TypeIs (.ref a) "dict" := ⟨_, g, c⟩
    exact ⟨ti, _, F.slot_dict_eq, call_meets F.slot_dict_eq ti F.entry_dict_eq (F.args_dict_eq_2 _ _) (dec_eqDict l C dx a _ c (hsub _ (by decide))) ⟨I.kIn, g, ho, rfl, rfl⟩⟩
end
/-! the readings -/
structure KdOk (K : PySem.W.Frag) (C : Addr) : Prop where
  one : ∀ T ∈ kinds, PySem.W.subIn K (.ref C) (.type T) = some false
  two : ∀ T ∈ kinds, PySem.W.subIn K (.type T) (.ref C) = some false
def kdB (K : PySem.W.Frag) (x : Str) : Bool := kinds.all fun T => decide (PySem.W.subIn K (.ref (ga K x)) (.type T) = some false) && decide (PySem.W.subIn K (.type T) (.ref (ga K x)) = some false)
theorem kdB_ok {K : PySem.W.Frag} {x : Str} (h : kdB K x = true) : KdOk K (ga K x) :=
  ⟨fun T hT => of_decide_eq_true (ba (List.all_eq_true.mp h T hT)).1, fun T hT => of_decide_eq_true (ba (List.all_eq_true.mp h T hT)).2⟩
def eRK (C : Addr) (sp : Sp) : R2 := fun x y H Q => ∃ a dx fs T, x = .ref a ∧ H a = some (.ins C dx fs) ∧ Kd H y T ∧ sp [.ref a, y] H Q E0
def eKR (C : Addr) (sp : Sp) : R2 := fun x y H Q => ∃ a dx fs T, y = .ref a ∧ H a = some (.ins C dx fs) ∧ Kd H x T ∧ sp [.ref a, x] H Q E0
def nRK (C : Addr) (sp : Sp) : R2 := fun x y H Q => eRK C sp x y H (turned Q)
section
variable {X : Cx} {k j : Nat} {f C : Addr} {ps : List Str} {sp : Sp}
theorem eq_RK (G : Gf X.prog X.w X.K X.mg X.base CX0 k f ps [] sp) (o : KdOk X.K C) (p : SpOk X.K C "__eq__" f) (hr : RG j X.A) (hj : k ≤ j) : OpR X (compareOp .Eq) (eRK C sp) := by
  intro pins s σ H x y v u Q I rx ry h
  obtain ⟨a, dx, fs, T, rfl, ea, kd, h1⟩ := h
  obtain rfl : v = Value.ref a := rx
  obtain ⟨mA, O, _⟩ := ins_get I.hok ea
  obtain ⟨od, J, _⟩ := O.look
  obtain ⟨m, hF⟩ := I.fr
  obtain ⟨ti, _⟩ := kd.decl (A := X.A) (E := X.xe) I ry (ins_obj I.hok ea) o.one
  have nf : PySem.W.notFirst X.K C (.type T) = true := by
    unfold PySem.W.notFirst
    rw [o.two T kd.mem] <;> rfl
  refine PySem.W.cmp_K (op := .Eq) (tb := .type T) hr.r.units0 hF I.ok.mod.kin J (looks_type ti) nf p.at_ p.fn ?_
  exact wpAny_mono (run_g (us := [.ref a, u]) (vs := [.ref a, y]) G hr hj pass0 I (.cons rfl (.cons ry .nil)) h1) (fun w s' z => back z) fun _ _ x => x
theorem eq_KR (G : Gf X.prog X.w X.K X.mg X.base CX0 k f ps [] sp) (o : KdOk X.K C) (p : SpOk X.K C "__eq__" f) (hr : RG j X.A) (hj : k ≤ j) : OpR X (compareOp .Eq) (eKR C sp) := by
  intro pins s σ H x y v u Q I rx ry h
  obtain ⟨a, dx, fs, T, rfl, ea, kd, h1⟩ := h
  obtain rfl : u = Value.ref a := ry
  obtain ⟨mA, O, _⟩ := ins_get I.hok ea
  obtain ⟨od, J, _⟩ := O.look
  obtain ⟨m, hF⟩ := I.fr
  obtain ⟨ti, id, slot, cl⟩ := kd.decl (A := X.A) (E := X.xe) I rx (ins_obj I.hok ea) o.one
  refine Own.eq_declL ti slot cl hr.r.units0 hF I.ok.mod.kin J p.at_ p.fn (o.one T kd.mem) ?_
  exact wpAny_mono (run_g (us := [.ref a, v]) (vs := [.ref a, x]) G hr hj pass0 I (.cons rfl (.cons rx .nil)) h1) (fun w s' z => back z) fun _ _ x => x
theorem ne_RK (G : Gf X.prog X.w X.K X.mg X.base CX0 k f ps [] sp) (o : KdOk X.K C) (n : NeOk X.K C) (p : SpOk X.K C "__eq__" f) (hr : RG j X.A) (hj : k + 1 ≤ j) : OpR X (compareOp .NotEq) (nRK C sp) := by
  intro pins s σ H x y v u Q I rx ry h
  obtain ⟨a, dx, fs, T, rfl, ea, kd, h1⟩ := h
  obtain rfl : v = Value.ref a := rx
  obtain ⟨mA, O, _⟩ := ins_get I.hok ea
  obtain ⟨od, J, _⟩ := O.look
  obtain ⟨m, hF⟩ := I.fr
  obtain ⟨ti, _⟩ := kd.decl (A := X.A) (E := X.xe) I ry (ins_obj I.hok ea) o.one
  have nf : PySem.W.notFirst X.K C (.type T) = true := by
    unfold PySem.W.notFirst
    rw [o.two T kd.mem] <;> rfl
  have hr1 : RG (k + 1) X.A := hr.mono hj
  exact Own.ne_own (tb := .type T) hr.r.units0 hr1.in1.r.units0 hF I.ok.mod.kin J (looks_type ti) nf n.ne n.ob p.at_ p.fn (run_turned (us := [.ref a, u]) (vs := [.ref a, y]) G hr1 I (.cons rfl (.cons ry .nil)) h1)
end
/-- f() -/
theorem pe_g0 {X : Cx} {CX : CXT} {k j : Nat} {f : Addr} {x : Str} {ps : List Str} {dvs : List V} {sp : Sp} {E : XK} {p pos : Pos} (G : Gf X.prog X.w X.K X.mg X.base CX k f ps dvs sp) (hm : X.mg x = some (.ref f)) (hr : RG j X.A) (hj : k ≤ j) (hx : Passes CX X E) (hg : Gl X x := by rfl)
    (hdb : (x == ("__debug__" : Str)) = false := by decide) : PE X (.Call (.Name x p) [] [] pos) (tCall sp dvs E tNil) := by
  refine ⟨fun pins s σ H Q I h => ?_⟩
  refine wpAny_Call_Name_kw (ld_glob I hg hm ?_ hdb)
  exact PySem.W.callWith_K0 I.kIn G.kp (run_g (us := []) (vs := []) G hr hj hx I .nil h)
end My

set_option Elab.async false
set_option linter.all false
set_option maxRecDepth 100000
set_option maxHeartbeats 4000000
/-! LayJ: comprehensions by what they gather, append, pop, reversed ranges and slices -/
namespace My
open PySem PySem.Builtin PySem.Builtin.Str PySem.Spec PyProof.Rows L2 SX
theorem tupS {K : PySem.W.Frag} {H H' : Hp} {a : Addr} {xs : List V} (h : SqT K H a xs) (e : Same H H') : SqT K H' a xs :=
  h.elim (fun h => .inl (h.elim (fun h => .inl (e _ _ h)) fun ⟨o, h⟩ => .inr ⟨o, e _ _ h⟩)) fun h => .inr h
theorem ne_lst {H : Hp} {D q : Addr} {acc : List V} {o : HO} (hD : H D = some (.lst acc)) (h : H q = some o) (n : o ≠ .lst acc) : q ≠ D := fun e => by
  rw [e, hD] at h
  exact n (Option.some.inj h).symm
theorem tupB {K : PySem.W.Frag} {H H' : Hp} {a D : Addr} {xs acc : List V} (hD : H D = some (.lst acc)) (b : But D H H') (h : SqT K H a xs) : SqT K H' a xs := by
  rcases h with (h | ⟨o, h⟩) | h
  · exact .inl (.inl (b _ _ (ne_lst hD h fun z => by cases z) h))
  · exact .inl (.inr ⟨o, b _ _ (ne_lst hD h fun z => by cases z) h⟩)
  · exact .inr h
section
variable {K : PySem.W.Frag} {σ : L2.St} {H : Hp} {nx bk ct : L2.St → Hp → Prop} {rt : VK} {ta tb tc te tv tl : TE} {Q : VK} {g : TG} {tA : TA} {tt : TT} {vs : List Nat} {ts : TS}
/-- what a comprehension over a range gathers -/
theorem lc_rangeG {lo : Int} {n : Nat} (Pa : Nat → List V → Hp → Prop) (hn : ∀ i acc H, Pa i acc H → acc.length ≤ 1000) (mono : ∀ i acc D acc' H1 H2, H1 D = some (.lst acc') → But D H1 H2 → Pa i acc H1 → Pa i acc H2) (h0 : ∀ H', Same H H' → Pa 0 [] H')
    (hs : ∀ i acc H1 (X : VK) (Y : Hp → Prop), i < n → Same H H1 → Pa i acc H1 → (∀ y H4, Same H1 H4 → Pa (i + 1) (acc ++ [y]) H4 → X y H4) → (∀ H3, Same H1 H3 → Pa (i + 1) acc H3 → Y H3) → g (.int (lo + i)) (wipe σ vs) H1 fun σ2 H2 => wipe σ2 vs = wipe σ vs ∧ tt σ2 H2 fun b H3 => if b = true then te σ2 H3 X else Y H3)
    (hd : ∀ D acc H1, H D = none → H1 D = some (.lst acc) → Same H H1 → Pa n acc H1 → Q (.ref D) H1) : LcG (Itr lo n) g tt te vs σ H Q := by
  refine My.lc_range (fun i D H1 => H D = none ∧ ∃ acc, H1 D = some (.lst acc) ∧ Same H H1 ∧ Pa i acc H1) (fun D hD => ⟨hD, [], upd_same, My.Same.new (Same.refl H) hD, h0 _ (My.Same.new (Same.refl H) hD)⟩) ?_ (fun D H1 ⟨hD, acc, h1, s1, p⟩ => hd D acc H1 hD h1 s1 p)
  rintro i D H1 hi ⟨hD, acc, h1, s1, p⟩
  exact hs i acc H1 _ _ hi s1 p (fun y H4 s4 p4 => ⟨acc, s4 _ _ h1, szl (hn _ _ _ p), hD, _, upd_same, My.Same.own (s1.trans s4) hD, mono _ _ _ _ _ _ (s4 _ _ h1) (My.But.put But.rfl) p4⟩) fun H3 s3 p3 => ⟨hD, acc, s3 _ _ h1, s1.trans s3, p3⟩
/-- over a list -/
theorem lc_listG {a : Addr} {xs : List V} (ha : SqL K H a xs) (Pa : Nat → List V → Hp → Prop) (hn : ∀ i acc H, Pa i acc H → acc.length ≤ 1000) (mono : ∀ i acc D acc' H1 H2, H1 D = some (.lst acc') → But D H1 H2 → Pa i acc H1 → Pa i acc H2) (h0 : ∀ H', Same H H' → Pa 0 [] H')
    (hs : ∀ i x acc H1 (X : VK) (Y : Hp → Prop), xs[i]? = some x → Same H H1 → Pa i acc H1 → (∀ y H4, Same H1 H4 → Pa (i + 1) (acc ++ [y]) H4 → X y H4) → (∀ H3, Same H1 H3 → Pa (i + 1) acc H3 → Y H3) → g x (wipe σ vs) H1 fun σ2 H2 => wipe σ2 vs = wipe σ vs ∧ tt σ2 H2 fun b H3 => if b = true then te σ2 H3 X else Y H3)
    (hd : ∀ D acc H1, H D = none → H1 D = some (.lst acc) → Same H H1 → Pa xs.length acc H1 → Q (.ref D) H1) : LcG (Itl K a) g tt te vs σ H Q := by
  refine My.lc_list (xs := xs) (fun i D H1 => H D = none ∧ ∃ acc, H1 D = some (.lst acc) ∧ Same H H1 ∧ Pa i acc H1) (fun D hD => ⟨hD, [], upd_same, My.Same.new (Same.refl H) hD, h0 _ (My.Same.new (Same.refl H) hD)⟩) (fun i D H1 _ ⟨_, _, _, s, _⟩ => s.seq ha) ?_ (fun D H1 ⟨hD, acc, h1, s1, p⟩ => hd D acc H1 hD h1 s1 p)
  rintro i x D H1 hi ⟨hD, acc, h1, s1, p⟩
  exact hs i x acc H1 _ _ hi s1 p (fun y H4 s4 p4 => ⟨acc, s4 _ _ h1, szl (hn _ _ _ p), hD, _, upd_same, My.Same.own (s1.trans s4) hD, mono _ _ _ _ _ _ (s4 _ _ h1) (My.But.put But.rfl) p4⟩) fun H3 s3 p3 => ⟨hD, acc, s3 _ _ h1, s1.trans s3, p3⟩
/-- over a tuple -/
theorem lc_tupG {a : Addr} {xs : List V} (ha : SqT K H a xs) (Pa : Nat → List V → Hp → Prop) (hn : ∀ i acc H, Pa i acc H → acc.length ≤ 1000) (mono : ∀ i acc D acc' H1 H2, H1 D = some (.lst acc') → But D H1 H2 → Pa i acc H1 → Pa i acc H2) (h0 : ∀ H', Same H H' → Pa 0 [] H')
    (hs : ∀ i x acc H1 (X : VK) (Y : Hp → Prop), xs[i]? = some x → Same H H1 → Pa i acc H1 → (∀ y H4, Same H1 H4 → Pa (i + 1) (acc ++ [y]) H4 → X y H4) → (∀ H3, Same H1 H3 → Pa (i + 1) acc H3 → Y H3) → g x (wipe σ vs) H1 fun σ2 H2 => wipe σ2 vs = wipe σ vs ∧ tt σ2 H2 fun b H3 => if b = true then te σ2 H3 X else Y H3)
    (hd : ∀ D acc H1, H D = none → H1 D = some (.lst acc) → Same H H1 → Pa xs.length acc H1 → Q (.ref D) H1) : LcG (Itt K a) g tt te vs σ H Q := by
  refine My.lc_tup (xs := xs) (fun i D H1 => H D = none ∧ ∃ acc, H1 D = some (.lst acc) ∧ Same H H1 ∧ Pa i acc H1) (fun D hD => ⟨hD, [], upd_same, My.Same.new (Same.refl H) hD, h0 _ (My.Same.new (Same.refl H) hD)⟩) (fun i D H1 _ ⟨_, _, _, s, _⟩ => tupS ha s) ?_ (fun D H1 ⟨hD, acc, h1, s1, p⟩ => hd D acc H1 hD h1 s1 p)
  rintro i x D H1 hi ⟨hD, acc, h1, s1, p⟩
  exact hs i x acc H1 _ _ hi s1 p (fun y H4 s4 p4 => ⟨acc, s4 _ _ h1, szl (hn _ _ _ p), hD, _, upd_same, My.Same.own (s1.trans s4) hD, mono _ _ _ _ _ _ (s4 _ _ h1) (My.But.put But.rfl) p4⟩) fun H3 s3 p3 => ⟨hD, acc, s3 _ _ h1, s1.trans s3, p3⟩
theorem r_tbm {T : String} {r : V → List V → Hp → VK → Prop} (h : ta σ H fun x H1 => tyV K T x H1 ∧ tA σ H1 fun xs H2 => r x xs H2 Q) : tBM K T r ta tA σ H Q := h
theorem r_tbm0 {T : String} {r : V → List V → Hp → VK → Prop} (h : ta σ H fun x H1 => tyV K T x H1 ∧ r x [] H1 Q) : tBM0 K T r ta σ H Q := h
theorem f_tyL {a : Addr} {xs : List V} {B : Prop} (h : H a = some (.lst xs)) (q : B) : tyV K "list" (.ref a) H ∧ B := ⟨.inl ⟨rfl, xs, SqL.of h⟩, q⟩
theorem r_app {l : Addr} {xs : List V} {y : V} (h : H l = some (.lst xs)) (n : xs.length ≤ 1000) (q : Q .non (upd H l (.lst (xs ++ [y])))) : rAppend (.ref l) [y] H Q := ⟨l, xs, y, rfl, rfl, h, szl n, q⟩
theorem r_pop {l : Addr} {xs : List V} {y : V} (h : H l = some (.lst xs)) (e : xs[xs.length - 1]? = some y) (q : Q y (upd H l (.lst xs.dropLast))) : rPop (.ref l) [] H Q := ⟨l, xs, y, rfl, rfl, h, e, q⟩
theorem r_rev {a : Addr} {xs : List V} (h : SqL K H a xs) (q : ∀ p, H p = none → Q (.ref p) (upd H p (.lst xs.reverse))) : ∃ b ys, V.ref a = .ref b ∧ SqL K H b ys ∧ ∀ p, H p = none → Q (.ref p) (upd H p (.lst ys.reverse)) := ⟨a, xs, rfl, h, q⟩
theorem r_tRev (h : te σ H fun x H1 => ∃ a xs, x = .ref a ∧ SqL K H1 a xs ∧ ∀ p, H1 p = none → Q (.ref p) (upd H1 p (.lst xs.reverse))) : tRevL K te σ H Q := h
theorem atI_last (xs : List V) (v : V) : atI (xs ++ [v]) (-1) = some v := by
  unfold atI ixN
  rw [List.length_append, if_neg (by decide), if_pos (by simp; omega)]
  show (xs ++ [v])[((-1 : Int) + ((xs.length + 1 : Nat) : Int)).toNat]? = some v
  have e : ((-1 : Int) + ((xs.length + 1 : Nat) : Int)).toNat = xs.length := by omega
  rw [e]
  simp
/-- a for over reversed(range(n)) -/
def RvF (n : Int) (g : TG) (ts : TS) (D : Ends) (σ : L2.St) (H : Hp) : Prop := -(2 ^ 62) ≤ (0 : Int) ∧ (0 : Int) < 2 ^ 62 ∧ -(2 ^ 62) ≤ n ∧ n < 2 ^ 62 ∧ LoopG (Itc (0 + (((n - 0).toNat : Nat) : Int) - 1) (-1) (n - 0).toNat) g ts D σ H
theorem r_forRV {te : TE} (h : te σ H fun x H1 => ∃ n : Int, x = .int n ∧ RvF n g ts ⟨nx, rt, bk, ct⟩ σ H1) : tFor (iRevR (tRg1 te)) g ts ⟨nx, rt, bk, ct⟩ σ H := h
theorem rv_at {n : Int} {m : Nat} (e : n.toNat = m) (n1 : -(2 ^ 62) ≤ n) (n2 : n < 2 ^ 62) (q : LoopG (Itc ((m : Int) - 1) (-1) m) g ts ⟨nx, rt, bk, ct⟩ σ H) : RvF n g ts ⟨nx, rt, bk, ct⟩ σ H := by
  refine ⟨by decide, by decide, n1, n2, ?_⟩
  rw [Int.sub_zero, e, Int.zero_add]
  exact q
theorem lp_rev {lo c : Int} {n : Nat} (Pv : Nat → L2.St → Hp → Prop) (h0 : Pv 0 σ H) (hs : ∀ i σ H, i < n → Pv i σ H → g (.int (lo + (i : Nat) * c)) σ H fun σ2 H2 => ts ⟨Pv (i + 1), rt, nx, Pv (i + 1)⟩ σ2 H2) (hd : ∀ σ H, Pv n σ H → nx σ H) :
    LoopG (Itc lo c n) g ts ⟨nx, rt, bk, ct⟩ σ H := for_rangeC (D := ⟨nx, rt, bk, ct⟩) Pv h0 hs hd
/-- the last item -/
theorem r_lastL {p : Addr} {xs : List V} {v : V} (h : SqL K H p (xs ++ [v])) (q : Q v H) : rIxL K (.ref p) (.int (-1)) H Q := ⟨p, xs ++ [v], -1, v, rfl, rfl, h, atI_last xs v, q⟩
theorem r_lastT {p : Addr} {xs : List V} {v : V} (h : SqT K H p (xs ++ [v])) (q : Q v H) : rIxT K (.ref p) (.int (-1)) H Q := ⟨p, xs ++ [v], -1, v, rfl, rfl, h, atI_last xs v, q⟩
theorem r_memI {K : PySem.W.Frag} {a : Addr} {rs : List Int} {t : Int} {H : Hp} {Q : VK} (h : SqL K H a (rs.map V.int)) (q : Q (.bl (decide (t ∈ rs))) H) : rIn K false (.int t) (.ref a) H Q := by
  refine ⟨a, _, rfl, .inl h, rfl, ?_, ?_⟩
  · rw [List.all_eq_true]
    intro x hx
    obtain ⟨z, _, rfl⟩ := List.mem_map.mp hx
    rfl
  · have e : inV (.int t) (rs.map V.int) = decide (t ∈ rs) := by
      unfold inV
      rw [List.any_map]
      by_cases m : t ∈ rs
      · rw [decide_eq_true m, List.any_eq_true]
        exact ⟨t, m, by show (t == t) = true; simp⟩
      · rw [decide_eq_false m, List.any_eq_false]
        intro x hx
        show ¬ (x == t) = true
        simp
        intro z
        exact m (z ▸ hx)
    show Q (.bl (inV (.int t) (rs.map V.int))) H
    rw [e]
    exact q
theorem r_eqB {a b : Bool} {H : Hp} {Q : VK} (q : Q (.bl (decide (a = b))) H) : rEq (.bl a) (.bl b) H Q := ⟨rfl, by
  have e : decide (V.bl a = V.bl b) = decide (a = b) := by
    rw [decide_eq_decide]
    exact ⟨fun z => V.bl.inj z, fun z => by rw [z]⟩
  rw [e]
  exact q⟩
end
end My

set_option Elab.async false
set_option linter.all false
set_option maxRecDepth 100000
set_option maxHeartbeats 4000000
/-! LayK0: own error classes over ValueError, LookupError or ArithmeticError: made, their fields set -/
namespace My
open PySem PySem.Spec PyProof.Rows L2 He
/-! ### the classes above -/
/-- own classes, then the list tl -/
def ownThen (tl : List Value) : List Value → Bool
  | .ref _ :: r => ownThen tl r
  | l => l == tl
theorem ownThen_two {tl : List Value} {l : List Value} (e : ownThen tl l = true) : (∃ c r, l = .ref c :: r ∧ ownThen tl r = true) ∨ l = tl := by
  unfold ownThen at e
  split at e
  · exact .inl ⟨_, _, rfl, e⟩
  · exact .inr (eq_of_beq e)
theorem ownThen_in {tl : List Value} (B : String) : ∀ l : List Value, ownThen tl l = true → l.contains (.type B) = tl.contains (.type B)
  | [], e => by
    rcases ownThen_two e with ⟨c, r, q, _⟩ | q
    · cases q
    · rw [q]
  | a :: r, e => by
    rcases ownThen_two e with ⟨c, r2, q, h⟩ | q
    · obtain ⟨e1, e2⟩ := List.cons.inj q
      subst e1 e2
      have hc : (Value.ref c :: r).contains (.type B) = r.contains (.type B) := by rw [List.contains_cons] <;> rfl
      exact hc.trans (ownThen_in B r h)
    · rw [q]
theorem ownThen_pass {tl : List Value} (p : ∀ v : Value, refuseLoop v "__setattr__" tl = pure ()) (v : Value) : ∀ l : List Value, ownThen tl l = true → refuseLoop v "__setattr__" l = pure ()
  | [], e => by
    rcases ownThen_two e with ⟨c, r, q, _⟩ | q
    · cases q
    · rw [q]; exact p v
  | a :: r, e => by
    rcases ownThen_two e with ⟨c, r2, q, h⟩ | q
    · obtain ⟨e1, e2⟩ := List.cons.inj q
      subst e1 e2
      rw [refuseLoop_ref]
      exact ownThen_pass p v r h
    · rw [q]; exact p v
def tailOf (B : String) : List Value := [.type B, .type "Exception", .type "BaseException", .type "object"]
/-- what is asked of the classes bm above an own error class whose instances `new` makes -/
structure Above (bm : List Value) (new : String) : Prop where
  how : ∃ (B ini : String) (tl : List Value), ExcBaseFacts B new ini tl ∧ ∀ Y : String, bm.contains (.type Y) = tl.contains (.type Y)
  pass : ∀ v : Value, refuseLoop v "__setattr__" bm = pure ()
  ob : bm.contains (.type "object") = true
theorem above_of {B new ini : String} {bm : List Value} {sa ow : String} (F : ExcBaseFacts B new ini (tailOf B)) (S : StoreFacts B (tailOf B) sa ow) (h : ownThen (tailOf B) bm = true) : Above bm new :=
  ⟨⟨B, ini, tailOf B, F, fun Y => ownThen_in Y bm h⟩, fun v => ownThen_pass S.passes v bm h, (ownThen_in "object" bm h).trans (by
    unfold tailOf
    simp)⟩
def aboveB (bm : List Value) (new : String) : Bool :=
  (new == "ValueError.__new__" && ownThen (tailOf "ValueError") bm) || ((new == "LookupError.__new__" && ownThen (tailOf "LookupError") bm) || (new == "ArithmeticError.__new__" && ownThen (tailOf "ArithmeticError") bm))
theorem aboveB_ok {bm : List Value} {new : String} (h : aboveB bm new = true) : Above bm new := by
  unfold aboveB at h
  rcases Bool.or_eq_true_iff.mp h with h | h
  · obtain ⟨e, h⟩ := ba h
    obtain rfl := eq_of_beq e
    exact above_of F.excBase_ValueError F.store_ValueError h
  · rcases Bool.or_eq_true_iff.mp h with h | h
    · obtain ⟨e, h⟩ := ba h
      obtain rfl := eq_of_beq e
      exact above_of F.excBase_LookupError F.store_LookupError h
    · obtain ⟨e, h⟩ := ba h
      obtain rfl := eq_of_beq e
      exact above_of F.excBase_ArithmeticError F.store_ArithmeticError h
/-- what the written part says of an own error class -/
structure OexG (K : PySem.W.Frag) (C : Addr) : Prop where
  cls : ∃ nm qn N bs bm sn sub ab col dd k0 k1 k2 k3 k5 new, K.lookup C = some (excClassObj nm qn C N bs bm true sn sub ab col dd k0 k1 k2 k3 k5 new) ∧ Above bm new
  sa : PySem.W.findIn K (.ref C) "__setattr__" = some (some (.builtin "object.__setattr__"))
  exC : PySem.W.subIn K (.ref C) (.type "BaseException") = some true
  tyC : PySem.W.typeIn K (.ref C) = some (.type "type")
  kC : PySem.W.keepIn K (.ref C) = true
/-! ### a field is set -/
section
variable {prog : Program} {w : World} {A : Around} {R : Result → Shared → Prop} {hp : Heap} {g : Array GenState} {dw : Drawn} {tk0 : Nat} {os : OsState} {K : PySem.W.Frag} {name : Str} {tk : Tok} {v : Value} {x C dx : Addr} {fv : Array Value} {cd : ClassData}
open Builtin Builtin.ObjectAttr PySem.W
/-- the first field: a dict is made -/
theorem osa_first (X : K.In hp) (hx : hp.get? x = some { cls := .ref C, data := .fields fv }) (hcd : clsIn K C = some cd) (hh : cd.hasDict = true) (ne : cd.mro.isEmpty = false) (ob : cd.mro.contains (.type "object") = true)
    (pass : ∀ v : Value, refuseLoop v "__setattr__" cd.mro = pure ()) (ha : findIn K (.ref C) name = some none)
    (k : ∀ h2 t2 dx, (∀ b o, b ≠ x → hp.get? b = some o → h2.get? b = some o) → hp.objs.size ≤ dx → dx ≠ x → h2.get? x = some { cls := .ref C, dict := some dx, data := .fields fv } → h2.Ns1 dx (fun y => if y = name then some v else none) → R (.ok (.ret .none)) ⟨h2, g, dw, t2, os⟩) :
    codeAny (model prog w) A (.call (.builtin "object.__setattr__") ⟨[.ref x, .str name tk, v], []⟩) R ⟨hp, g, dw, tk0, os⟩ := by
  have J : InstAt hp x { cls := .ref C, data := .fields fv } C none := ⟨hx, rfl, rfl, trivial⟩
  have nx : hp.objs.size ≠ x := (Nat.ne_of_lt (Heap.lt_size hx)).symm
  have LC : Looks (model prog w) hp (classData C) cd := looks_clsIn X hcd
  have LM : Looks (model prog w) hp (mroOf (.ref C)) cd.mro := LC.andThen .now
  have isO : mroIn K C (.type "object") = some true := by
    unfold mroIn
    rw [hcd, Option.bind_some, if_neg (by rw [ne]; decide), ob]
  refine codeAny_call_builtin F.store_object.slot.plain F.store_object.entry ?_
  refine @check_slot (model prog w) _ _ ⟨hp, g, dw, tk0, os⟩ "object.__setattr__" "object" "__setattr__" (.ref x) [.str name tk, v] [] _ F.store_object.kind F.store_object.split ?c1 ?c2 ?c3
  case c1 => exact J.type.andThen (looks_mroIn X isO)
  case c2 => exact F.store_object.args (.ref x) (.str name tk) v
  case c3 =>
    rw [osa_eq, refuse_eq]
    refine wpAny_bind (wpAny_bind ?_)
    refine J.type.at (wpAny_bind (LM.at ?_))
    rw [pass]
    refine wpAny_pure (wpAny_bind ?_)
    refine J.type.at (wpAny_bind ((looks_findIn X ha).at ?_))
    have LT : Looks (model prog w) hp (storeTaker? none) none := .now
    refine wpAny_bind (LT.at ?_)
    obtain ⟨c1, c2, c3, c4, c5, c6, c7, c8, c9, c10, c11⟩ := cd
    dsimp only at hh
    subst hh
    show wpAny _ _ (storeInOwnDict (.ref x) (.ref C) (.str name tk) name v false) _ _ _
    unfold storeInOwnDict ownDictForStores
    repeat (first
      | with_reducible refine HandSPX.store_in_new ?_ ?_
      | with_reducible refine wpAny_loadPart_at hx ?_
      | with_reducible refine LC.at ?_
      | wp_step)
    · exact ⟨_, #[], _,
        (Heap.get?_update_ne _ _ _ _ nx).trans (Heap.get?_push_at rfl rfl),
        rfl, fun e he => absurd he (by simp), fun _ => rfl⟩
    · intro h2 t2 hn sb
      have hx1 : (hp.push { cls := .type "dict", data := .dict #[] }).get? x = some { cls := .ref C, data := .fields fv } := Heap.get?_push_of_some _ hx
      refine k h2 t2 _ (fun b o hb ho => ?_) (Nat.le_refl _) nx ?_ hn
      · refine (sb.2 b (Nat.ne_of_lt (Heap.lt_size ho))).trans ?_
        exact (Heap.get?_update_ne _ _ _ _ hb).trans (Heap.get?_push_of_some _ ho)
      · exact (sb.2 x nx.symm).trans (Heap.get?_update_self _ hx1 rfl)
/-- a further field: the dict is there -/
theorem osa_later {m0 : Str → Option Value} {nl : List Str} (X : K.In hp) (hx : hp.get? x = some { cls := .ref C, dict := some dx, data := .fields fv }) (hns : hp.Ns1 dx m0) (hw : Within m0 nl) (hz : nl.length ≤ 1000) (hcd : clsIn K C = some cd) (hh : cd.hasDict = true)
    (ne : cd.mro.isEmpty = false) (ob : cd.mro.contains (.type "object") = true) (pass : ∀ v : Value, refuseLoop v "__setattr__" cd.mro = pure ()) (ha : findIn K (.ref C) name = some none)
    (k : ∀ h2 t2, (∀ b o, b ≠ dx → hp.get? b = some o → h2.get? b = some o) → h2.Ns1 dx (fun y => if y = name then some v else m0 y) → R (.ok (.ret .none)) ⟨h2, g, dw, t2, os⟩) :
    codeAny (model prog w) A (.call (.builtin "object.__setattr__") ⟨[.ref x, .str name tk, v], []⟩) R ⟨hp, g, dw, tk0, os⟩ := by
  obtain ⟨oD, esD, epD, hoD, hdD, _⟩ := hns.count hw
  have J : InstAt hp x { cls := .ref C, dict := some dx, data := .fields fv } C (some oD) := ⟨hx, rfl, rfl, hoD⟩
  have LC : Looks (model prog w) hp (classData C) cd := looks_clsIn X hcd
  have LM : Looks (model prog w) hp (mroOf (.ref C)) cd.mro := LC.andThen .now
  have isO : mroIn K C (.type "object") = some true := by
    unfold mroIn
    rw [hcd, Option.bind_some, if_neg (by rw [ne]; decide), ob]
  refine codeAny_call_builtin F.store_object.slot.plain F.store_object.entry ?_
  refine @check_slot (model prog w) _ _ ⟨hp, g, dw, tk0, os⟩ "object.__setattr__" "object" "__setattr__" (.ref x) [.str name tk, v] [] _ F.store_object.kind F.store_object.split ?c1 ?c2 ?c3
  case c1 => exact J.type.andThen (looks_mroIn X isO)
  case c2 => exact F.store_object.args (.ref x) (.str name tk) v
  case c3 =>
    rw [osa_eq, refuse_eq]
    refine wpAny_bind (wpAny_bind ?_)
    refine J.type.at (wpAny_bind (LM.at ?_))
    rw [pass]
    refine wpAny_pure (wpAny_bind ?_)
    refine J.type.at (wpAny_bind ((looks_findIn X ha).at ?_))
    have LT : Looks (model prog w) hp (storeTaker? none) none := .now
    refine wpAny_bind (LT.at ?_)
    obtain ⟨c1, c2, c3, c4, c5, c6, c7, c8, c9, c10, c11⟩ := cd
    dsimp only at hh
    subst hh
    show wpAny _ _ (storeInOwnDict (.ref x) (.ref C) (.str name tk) name v false) _ _ _
    unfold storeInOwnDict ownDictForStores
    repeat (first
      | with_reducible refine OEX.store_in_old hns hw hz ?_
      | with_reducible refine wpAny_loadPart_at hx ?_
      | with_reducible refine LC.at ?_
      | wp_step)
    intro h2 t2 hn sb
    exact k h2 t2 (fun b o hb ho => (sb.2 b hb).trans ho) hn
end
/-! ### over the abstract heap -/
section
variable {X : Cx} {pins : List (Addr × Obj)} {σ : L2.St} {H : Hp} {s : Shared} {a C dx : Addr} {f : Str} {y : V} {u : Value} {fs : List (Str × V)} {Q : Unit → Shared → Prop} {E : Value → Shared → Prop} {A : Around}
theorem setG_first (T : OexG X.K C) (I : Inv X pins σ H s) (e : H a = some (exo a C none)) (hno : PySem.W.findIn X.K (.ref C) f = some none) (ry : RelV y u)
    (k : ∀ dx s', H dx = none → dx ≠ a → Inv X pins σ (upd (upd H dx (exd dx [(f, y)])) a (exo a C (some dx))) s' → Q () s') : wpAny (model X.prog X.w) A (setAttr (.ref a) f u) Q E s := by
  obtain ⟨nm, qn, N, bs, bm, sn, sub, ab, col, dd, k0, k1, k2, k3, k5, new, hC, up⟩ := T.cls
  have hcl : PySem.W.clsIn X.K C = some { name := nm, bases := bs, mro := .ref C :: bm, ns := N, qualname := qn, hasDict := true, slotNames := sn, subclasses := sub, abstract := ab, collection := col, hasDel := false } := by
    unfold PySem.W.clsIn
    rw [hC] <;> rfl
  have ob : (Value.ref C :: bm).contains (.type "object") = true := by
    rw [List.contains_cons, up.ob, Bool.or_true]
  obtain ⟨t1, ho⟩ := exo_at I.hok e
  obtain ⟨hp, g, d, t, os⟩ := s
  refine PySem.W.set_plain I.kIn (ox := { cls := .ref C, dict := none, data := .fields #[.ref t1, .none, .none, .none, .bool false, .none] }) (od := none) ⟨ho, rfl, rfl, trivial⟩ T.sa ?_
  refine osa_first I.kIn ho hcl rfl rfl ob (fun v => by rw [refuseLoop_ref]; exact up.pass v) hno fun h' tk' dx kp dn dne hx hn => ?_
  have hnd : H dx = none := I.hok.fresh dn
  have off : ∀ {b : Addr} {o : Obj}, hp.get? b = some o → b ≠ dx := fun {b o} z => Nat.ne_of_lt (Nat.lt_of_lt_of_le (Heap.lt_size z) dn)
  have oth : ∀ {b : Addr}, H b = none → b ≠ a := fun {b} n => ne_of_none e n |>.symm
  have un : Un X.fs [] H (upd (upd H dx (exd dx [(f, y)])) a (exo a C (some dx))) hp h' := by
    refine ⟨?_, ?_, ?_, ?_, ?_, ?_, ?_⟩
    · exact fun b o z n _ _ => kp b o (oth n) z
    · exact fun b o z n _ _ => ⟨o.slots, kp b o (oth n) z⟩
    · intro b o z n _
      rw [upd_ne (oth n), upd_ne (off z)]
      exact n
    · intro b o z _
      by_cases hb : b = a
      · exact ⟨_, by rw [hb]; exact hx⟩
      · exact ⟨o, kp b o hb z⟩
    · intro b xs z
      rw [upd_ne (at_ne e z exo_tup), upd_ne (ne_of_none z hnd)]
      exact z
    · intro b o v z
      rw [upd_ne (at_ne e z exo_frz), upd_ne (ne_of_none z hnd)]
      exact z
    · intro b ps z
      refine ⟨#[], ?_⟩
      rw [upd_ne (at_ne e z exo_tbl), upd_ne (ne_of_none z hnd), z]
      simp
  refine k dx _ hnd dne (I.un (t' := tk') un fun b o z => ?_)
  by_cases hb : b = a
  · subst hb
    rw [upd_same] at z
    obtain rfl := Option.some.inj z
    exact exo_ok hx
  rw [upd_ne hb] at z
  by_cases hd : b = dx
  · subst hd
    rw [upd_same] at z
    obtain rfl := Option.some.inj z
    exact exd_ok hn (relO_put (fs := []) ry fun g => True.intro)
  rw [upd_ne hd] at z
  refine (I.hok b o z).stay (fun c v hc z2 => kp c v ?_ z2) (fun c hc => ?_) fun c xs hc => ?_
  · rcases hc with hc | hc
    · rw [hc]
      exact hb
    · exact at_ne e hc exo_own
  · rw [upd_ne (at_ne e hc exo_own), upd_ne (ne_of_none hc hnd)]
    exact hc
  · rw [upd_ne (at_ne e hc exo_tup), upd_ne (ne_of_none hc hnd)]
    exact hc
theorem setG_later (T : OexG X.K C) (I : Inv X pins σ H s) (e : H a = some (exo a C (some dx))) (ed : H dx = some (exd dx fs)) (hl : fs.length ≤ 900) (hno : PySem.W.findIn X.K (.ref C) f = some none) (ry : RelV y u)
    (k : ∀ s', Inv X pins σ (upd H dx (exd dx ((f, y) :: fs))) s' → Q () s') : wpAny (model X.prog X.w) A (setAttr (.ref a) f u) Q E s := by
  obtain ⟨nm, qn, N, bs, bm, sn, sub, ab, col, dd, k0, k1, k2, k3, k5, new, hC, up⟩ := T.cls
  have hcl : PySem.W.clsIn X.K C = some { name := nm, bases := bs, mro := .ref C :: bm, ns := N, qualname := qn, hasDict := true, slotNames := sn, subclasses := sub, abstract := ab, collection := col, hasDel := false } := by
    unfold PySem.W.clsIn
    rw [hC] <;> rfl
  have ob : (Value.ref C :: bm).contains (.type "object") = true := by
    rw [List.contains_cons, up.ob, Bool.or_true]
  obtain ⟨t1, ho⟩ := exo_at I.hok e
  obtain ⟨mA, hns, rel⟩ := exd_at I.hok ed
  have wi := within_of rel
  obtain ⟨hp, g, d, t, os⟩ := s
  obtain ⟨oD, _, _, hoD, _, _⟩ := hns.count wi
  refine PySem.W.set_plain I.kIn (ox := { cls := .ref C, dict := some dx, data := .fields #[.ref t1, .none, .none, .none, .bool false, .none] }) (od := some oD) ⟨ho, rfl, rfl, hoD⟩ T.sa ?_
  refine osa_later I.kIn ho hns wi (by rw [List.length_map]; omega) hcl rfl rfl ob (fun v => by rw [refuseLoop_ref]; exact up.pass v) hno fun h' tk' kp hn => ?_
  obtain ⟨oN, _, _, eN, _⟩ := id hn
  exact k _ (I.write (t' := tk') (x := dx) (e := dx) (o := exd dx ((f, y) :: fs)) (by rw [ed]; exact True.intro) (.inl rfl) kp ⟨oN, eN⟩ (exd_ok hn (relO_put ry rel)))
/-- self.f = v, self an exception that is being made -/
def tOstG (K : PySem.W.Frag) (f : Str) (to te : TE) : TS := fun D σ H => te σ H fun y H1 => to σ H1 fun x H2 => ∃ a C, x = .ref a ∧ OexG K C ∧ PySem.W.findIn K (.ref C) f = some none ∧
  ((H2 a = some (exo a C none) ∧ ∀ dx, H2 dx = none → dx ≠ a → D.nx σ (upd (upd H2 dx (exd dx [(f, y)])) a (exo a C (some dx)))) ∨
   ∃ dx fs, H2 a = some (exo a C (some dx)) ∧ H2 dx = some (exd dx fs) ∧ fs.length ≤ 900 ∧ D.nx σ (upd H2 dx (exd dx ((f, y) :: fs))))
variable {e o : Expr} {te to : TE} {p' pos : Pos}
theorem ps_ostG (ho : PE X o to) (he : PE X e te) (hs : swapsWith e (some (.Attribute o f p')) pos.line X.env = pure false := by rfl) : PS X (.Assign [.Attribute o f p'] e pos) (tOstG X.K f to te) := by
  refine ⟨fun pins s σ H D I h => ?_⟩
  refine plainObj_wpAny_Assign_Attribute ?_ hs
  refine thn (he.run pins s σ H _ I h) fun v s1 ⟨y, H1, I1, r1, q1⟩ => ?_
  refine thn (ho.run pins s1 σ H1 _ I1 q1) fun u s2 ⟨x, H2, I2, r2, a, C, ex, T, hno, q⟩ => ?_
  subst ex
  obtain rfl : u = Value.ref a := r2
  rcases q with ⟨ea, q⟩ | ⟨dx, fs, ea, ed, hl, q⟩
  · exact setG_first T I2 ea hno r1 fun dx s' n ne J => ⟨σ, _, J, q dx n ne⟩
  · exact setG_later T I2 ea ed hl hno r1 fun s' J => ⟨σ, _, J, q⟩
end
/-! ### C(e, ..) -/
section
variable {X : Cx} {e : Expr} {es : List Expr} {ta : TA} {p pos : Pos}
theorem pmkG {CX : CXT} {x : Str} {C fI : Addr} {k : Nat} {fd : FuncData} {ps : List Str} {sp : Sp} {ds : List Value} {dvs : List V} (T : OexG X.K C) (iC : PySem.W.findIn X.K (.ref C) "__init__" = some (some (.ref fI))) (tI : PySem.W.typeIn X.K (.ref fI) = some (.type "function"))
    (F1 : FnOk X.prog X.w X.K X.mg X.base CX k fI fd ps sp) (hr : Room (k + 1) X.A) (hb : Binds X.K fd ps ds) (hd : Vals dvs ds) (hx : Passes CX X (fun _ _ _ => False)) (hg : Gl X x) (hm : X.mg x = some (.ref C)) (ha : PA X (e :: es) ta)
    (hdb : (x == ("__debug__" : Str)) = false := by decide) (he : starEach (e :: es) X.env = (false, eval e X.env) :: starEach es X.env := by rfl) (hpl : (backTo pos (starEach es X.env)).any (·.1) = false := by rfl) :
    PMk X (.Call (.Name x p) (e :: es) [] pos) (tMkO C sp dvs ta) := by
  intro pins s σ H Q I h
  obtain ⟨nm, qn, N, bs, bm, sn, sub, ab, col, dd, k0, k1, k2, k3, k5, new, hC, up⟩ := T.cls
  obtain ⟨B, ini, tl, FB, hT⟩ := up.how
  refine wpAny_Call_Name_kw (ld_glob I hg hm ?_ hdb)
  refine PySem.W.callWith_K (h₀ := X.base) I.ok.mod.kin T.kC ?_ he hpl
  refine thn (ha.run pos pins s σ H _ I h) fun us s1 ⟨vs, H1, I1, r1, hz, q1⟩ => ⟨I1.kIn, ?_⟩
  show wpAny _ _ (call (.ref C) us) _ _ _
  obtain ⟨hp, g, dr, tk, os⟩ := s1
  have gt : hp.objs.size ≤ hp.objs.size + 1 := Nat.le_succ _
  have hq := q1 (hp.objs.size + 1) (I1.hok.fresh gt)
  let h2 : Heap := (hp.push (PySem.W.kdv_tup us)).push (PySem.HandSPX.excO C hp.objs.size)
  have kk : ∀ b o, hp.get? b = some o → h2.get? b = some o := fun b o z => Heap.get?_push_of_some _ (Heap.get?_push_of_some _ z)
  have at2 : h2.get? (hp.objs.size + 1) = some (PySem.HandSPX.excO C hp.objs.size) := by
    show ((hp.push (PySem.W.kdv_tup us)).push (PySem.HandSPX.excO C hp.objs.size)).get? (hp.objs.size + 1) = _
    heap_get
  have I2 : Inv X pins σ (upd H1 (hp.objs.size + 1) (exo (hp.objs.size + 1) C none)) ⟨h2, g, dr, tk, os⟩ := I1.laid (t' := tk) (a := hp.objs.size + 1) (o := exo (hp.objs.size + 1) C none) (h' := h2) kk gt (exo_ok at2)
  have r2 : Vals (V.ref (hp.objs.size + 1) :: (vs ++ dvs)) (Value.ref (hp.objs.size + 1) :: (us ++ ds)) := .cons rfl (r1.append hd)
  have l2 : (Value.ref (hp.objs.size + 1) :: us ++ ds).length = ps.length := (F1.len _ _ _ _ hq ▸ r2.length).symm
  have usz : us.length ≤ sizeLine := by
    rw [← Paired.length r1, sizeLine_eq]
    omega
  have run := F1.run _ X.stack _ _ ⟨Value.ref (hp.objs.size + 1) :: us, []⟩ (Value.ref (hp.objs.size + 1) :: (us ++ ds)) _ _ (fun _ _ _ => False) (hr.make C us []) (I2.env0.make C us []) (hb _ (Value.ref (hp.objs.size + 1) :: us) I2.kIn l2) r2 hq
  refine wpAny_call (PySem.HandSPX.call_own FB hT (I1.kIn _ _ hC) (PySem.W.looks_findIn I1.kIn iC) (fun self => PySem.W.bind_fn I1.kIn self tI) usz (codeAny_mono run fun r s' z => ?_))
  match r, z with
  | .error er, z => exact hx pins σ _ _ er s' I2 z
  | .ok (.ret u), z =>
    obtain ⟨v, H2, os2, bare2, un2, hok2, rv, ev, d, fs, ea, ed, hd1, q2⟩ := z
    subst ev
    obtain ⟨hh2, g2, d2, t2, os'⟩ := s'
    exact ⟨rv, mk_end (raises_own T.exC T.tyC) I1 gt kk un2 hok2 os2 bare2 ea ed hd1 q2⟩
end
end My

set_option Elab.async false
set_option linter.all false
set_option maxRecDepth 100000
set_option maxHeartbeats 4000000
/-! LayK: own error classes whose __init__ sets one field: raised, passed on, caught by name, their class asked, their field read -/
namespace My
open PySem PySem.Spec PyProof.Rows L2 He
theorem decT {p : Prop} [Decidable p] (h : decide p = true) : p := of_decide_eq_true h
/-- the class object of an own error -/
def oexB (K : PySem.W.Frag) (C : Addr) : Bool := match K.lookup C with
  | some ⟨.type "type", _, .cls c, sl⟩ => (match c.mro, sl.toList with
    | .ref C2 :: bm, [_, _, _, _, some (.builtin n), _] => C2 == C && (aboveB bm n && (c.hasDict && !c.hasDel))
    | _, _ => false)
  | _ => false
theorem oexB_ok {K : PySem.W.Frag} {C : Addr} (q : oexB K C = true) : ∃ nm qn N bs bm sn sub ab col dd k0 k1 k2 k3 k5 new, K.lookup C = some (excClassObj nm qn C N bs bm true sn sub ab col dd k0 k1 k2 k3 k5 new) ∧ Above bm new := by
  unfold oexB at q
  split at q
  · rename_i dd c sl ho
    split at q
    · rename_i C2 bm k0 k1 k2 k3 n k5 em es
      obtain ⟨e1, q⟩ := ba q
      obtain ⟨e2, q⟩ := ba q
      obtain ⟨e3, e4⟩ := ba q
      have e1 := eq_of_beq e1
      subst e1
      obtain ⟨f1, f2, f3, f4, f5, f6, f7, f8, f9, f10, f11⟩ := c
      dsimp only at em e3 e4
      cases f11 with
      | true => cases e4
      | false =>
        subst em e3
        have esl : sl = #[k0, k1, k2, k3, some (.builtin n), k5] := by
          cases sl
          simp only at es
          rw [es]
        rw [esl] at ho
        exact ⟨_, _, _, _, _, _, _, _, _, _, _, _, _, _, _, _, ho, aboveB_ok e2⟩
    · cases q
  · cases q
/-- all that is asked of an own error class x with an __init__ of its own -/
structure ErrOk (K : PySem.W.Frag) (C f : Addr) : Prop where
  ox : OexG K C
  iC : PySem.W.findIn K (.ref C) "__init__" = some (some (.ref f))
  tI : PySem.W.typeIn K (.ref f) = some (.type "function")
  xf : XfC K C
  cl : (PySem.W.clsIn K C).isSome = true
  ca : PySem.W.findIn K (.ref C) "__class__" = some (some (.builtin "object.__class__"))
  hn : PySem.W.specialIn K (.builtin "object.__class__") "__get__" = some (some (.builtin "getset_descriptor.__get__"))
  tk : PySem.W.takesIn K (.builtin "object.__class__") = some true
  mo : PySem.W.mroIn K C (.type "object") = some true
def errB (K : PySem.W.Frag) (x : Str) : Bool := oexB K (ga K x) && (eqO (PySem.W.findIn K (.ref (ga K x)) "__setattr__") (some (some (.builtin "object.__setattr__"))) && (decide (PySem.W.typeIn K (.ref (ga K x)) = some (.type "type")) && (PySem.W.keepIn K (.ref (ga K x)) &&
  (eqO (PySem.W.findIn K (.ref (ga K x)) "__init__") (some (some (.ref (ma K (ga K x) "__init__")))) && (decide (PySem.W.typeIn K (.ref (ma K (ga K x) "__init__")) = some (.type "function")) && (xfB K (ga K x) && ((PySem.W.clsIn K (ga K x)).isSome &&
  (eqO (PySem.W.findIn K (.ref (ga K x)) "__class__") (some (some (.builtin "object.__class__"))) && (eqO (PySem.W.specialIn K (.builtin "object.__class__") "__get__") (some (some (.builtin "getset_descriptor.__get__"))) &&
  (decide (PySem.W.takesIn K (.builtin "object.__class__") = some true) && decide (PySem.W.mroIn K (ga K x) (.type "object") = some true)))))))))))
theorem errB_ok {K : PySem.W.Frag} {x : Str} (h : errB K x = true) : ErrOk K (ga K x) (ma K (ga K x) "__init__") := by
  obtain ⟨h1, h⟩ := ba h
  obtain ⟨h2, h⟩ := ba h
  obtain ⟨h3, h⟩ := ba h
  obtain ⟨h4, h⟩ := ba h
  obtain ⟨h5, h⟩ := ba h
  obtain ⟨h6, h⟩ := ba h
  obtain ⟨h7, h⟩ := ba h
  obtain ⟨h8, h⟩ := ba h
  obtain ⟨h9, h⟩ := ba h
  obtain ⟨h10, h⟩ := ba h
  obtain ⟨h11, h12⟩ := ba h
  have xf := xfB_ok h7
  exact ⟨⟨oexB_ok h1, eqO_ok h2, xf.exC, decT h3, h4⟩, eqO_ok h5, decT h6, xf, h8, eqO_ok h9, eqO_ok h10, decT h11, decT h12⟩
def noB (K : PySem.W.Frag) (x f : Str) : Bool := eqO (PySem.W.findIn K (.ref (ga K x)) f) (some none)
theorem noB_ok {K : PySem.W.Frag} {x f : Str} (h : noB K x f = true) : PySem.W.findIn K (.ref (ga K x)) f = some none := eqO_ok h
def exmB (K : PySem.W.Frag) (x y : Str) (b : Bool) : Bool := decide (PySem.W.exmOne K (.ref (ga K x)) (.ref (ga K y)) = some b)
theorem exmB_ok {K : PySem.W.Frag} {x y : Str} {b : Bool} (h : exmB K x y b = true) : PySem.W.exmOne K (.ref (ga K x)) (.ref (ga K y)) = some b := decT h
/-! ### the making -/
section
variable {P : Program} {w : World} {K : PySem.W.Frag} {mg : Str → Option Value} {base : Heap} {x qual : Str} {params : Arguments} {body : List Stmt} {scope : Scope} {dvs : List V} {kws : List (Str × V)} {f : Addr} {fd : FuncData} {N ps : List Str} {k : Nat} {sp : Sp}
/-- a def that keeps its promise anywhere -/
theorem fnR (F : FunD K x qual params body scope dvs kws f fd) (S : FnScope N ps scope) (len : ∀ vs H Q E, sp vs H Q E → vs.length = ps.length)
    (hbody : ∀ (cdv : Value) (A : Around) (outer : List Env) (s : Shared) (H : Hp) (vs : List V) (Q : VK) (E : XK), Room k (A.deeper (envOfC qual scope s.heap.objs.size f cdv)) → sp vs H Q E →
      ∃ t, PSs (cxOf CX0 P w K mg base N qual scope f cdv A outer s H E) body t ∧ t { nx := fun _ H2 => Q .non H2, rt := Q } (start N vs) H) : FnOk P w K mg base CX0 (k + 1) f fd ps sp := by
  obtain ⟨_, _, _, _, _, _, _, cdv, _, _, rfl, lk, hcd, _, _⟩ := F.ex
  exact fn_of lk hcd S len fun A outer s H vs Q E hr q => hbody cdv A outer s H vs Q E hr q
end
/-- self.f = v of a new error -/
def spErr (C : Addr) (f : Str) : Sp := fun vs H Q _ => ∃ (a : Addr) (v : V), vs = [.ref a, v] ∧ H a = some (exo a C none) ∧ ∀ dx, H dx = none → dx ≠ a → Q .non (upd (upd H dx (exd dx [(f, v)])) a (exo a C (some dx)))
/-- what follows of C(v): d is the new error's dict -/
def MkE (C : Addr) (f : Str) (vs : List V) (H : Hp) (Q : XK) : Prop := vs.length ≤ 1000 ∧ ∀ a, H a = none → spErr C f (.ref a :: (vs ++ [])) (upd H a (exo a C none))
  (fun v H2 => v = .non ∧ ∃ (d : Addr) (fs : List (Str × V)), H2 a = some (exo a C (some d)) ∧ H2 d = some (exd d fs) ∧ H d = none ∧ Q (.ref C) (some d) (upd (del H2 a) d (.xd fs))) (fun _ _ _ => False)
theorem f_mkE {C : Addr} {f : Str} {v : V} {H : Hp} {Q : XK} (h : ∀ d H2, H d = none → H2 d = some (.xd [(f, v)]) → Same H H2 → Q (.ref C) (some d) H2) : MkE C f [v] H Q := by
  refine ⟨by simp, fun a ha => ⟨a, v, rfl, upd_same, fun dx hd hne => ⟨rfl, dx, [(f, v)], upd_same, ?_, ?_, ?_⟩⟩⟩
  · rw [upd_ne hne]
    exact upd_same
  · rw [upd_ne hne] at hd
    exact hd
  · rw [upd_ne hne] at hd
    refine h dx _ hd upd_same fun q o e => ?_
    have q1 : q ≠ dx := ne_of_none e hd
    have q2 : q ≠ a := ne_of_none e ha
    rw [upd_ne q1, del_ne q2, upd_ne q2, upd_ne q1, upd_ne q2]
    exact e
section
variable {X : Cx} {x : Str} {C g : Addr} {k : Nat} {fd : FuncData} {ps : List Str} {f : Str} {W : WX} {e : Expr} {es : List Expr} {ta : TA} {p pos pos' : Pos}
def tRaise (C : Addr) (f : Str) (W : WX) (ta : TA) : TS := fun _ σ H => ta σ H fun vs H1 => MkE C f vs H1 fun cls d H2 => W cls d σ H2
/-- raise C(v) -/
theorem ps_err (hc : X.calm = true) (tk : Takes X W) (T : ErrOk X.K C g) (F : FnOk X.prog X.w X.K X.mg X.base CX0 k g fd ps (spErr C f)) (hb : Binds X.K fd ps []) (hr : RG (k + 1) X.A) (hm : X.mg x = some (.ref C)) (ha : PA X (e :: es) ta) (hg : Gl X x := by rfl)
    (hdb : (x == ("__debug__" : Str)) = false := by decide) (he : starEach (e :: es) X.env = (false, eval e X.env) :: starEach es X.env := by rfl) (hpl : (backTo pos (starEach es X.env)).any (·.1) = false := by rfl) :
    PS X (.Raise (some (.Call (.Name x p) (e :: es) [] pos)) none pos') (tRaise C f W ta) :=
  ps_raise hc tk (pmkG T.ox T.iC T.tI F hr.r hb .nil (fun _ _ _ _ _ _ _ z => z.elim) hg hm ha hdb he hpl)
end
/-! ### calls that may raise -/
section
variable {X : Cx} {CX : CXT} {k j : Nat} {f C : Addr} {x : Str} {ps : List Str} {dvs : List V} {sp : Sp} {E : L2.St → XK} {e : Expr} {es : List Expr} {p pos : Pos} {t : TA}
theorem run_gS {pins : List (Addr × Obj)} {σ : L2.St} {H : Hp} {s : Shared} {Q : VK} {us : List Value} {vs : List V} (G : Gf X.prog X.w X.K X.mg X.base CX k f ps dvs sp) (hr : RG j X.A) (hj : k ≤ j) (hx : PassesAt CX X σ (E σ))
    (I : Inv X pins σ H s) (r : Vals vs us) (h : sp (vs ++ dvs) H Q (E σ)) : wpAny (model X.prog X.w) X.A (call (.ref f) us) (EP X pins σ Q) X.xe s := by
  refine wpAny_call (codeAny_mono (G.go hr hj I.env0 I.kIn r h) fun y s' hq => ?_)
  match y, hq with
  | .error e, hq => exact hx pins H s e s' I hq
  | .ok (.ret u), hq => exact I.after hq
def tCallG (sp : Sp) (dvs : List V) (E : L2.St → XK) (t : TA) : TE := fun σ H Q => t σ H fun vs H1 => sp (vs ++ dvs) H1 Q (E σ)
theorem pe_gS (G : Gf X.prog X.w X.K X.mg X.base CX k f ps dvs sp) (hm : X.mg x = some (.ref f)) (hr : RG j X.A) (hj : k ≤ j) (hx : ∀ σ, PassesAt CX X σ (E σ)) (ha : PA X (e :: es) t) (hg : Gl X x := by rfl)
    (hdb : (x == ("__debug__" : Str)) = false := by decide) (he : starEach (e :: es) X.env = (false, eval e X.env) :: starEach es X.env := by rfl) (hpl : (backTo pos (starEach es X.env)).any (·.1) = false := by rfl) :
    PE X (.Call (.Name x p) (e :: es) [] pos) (tCallG sp dvs E t) := by
  refine ⟨fun pins s σ H Q I h => ?_⟩
  refine wpAny_Call_Name_kw (ld_glob I hg hm ?_ hdb)
  exact PySem.W.callWith_K (h₀ := X.base) I.ok.mod.kin G.kp (thn (ha.run pos pins s σ H _ I h) fun us s1 ⟨vs, H1, I1, r, q⟩ => ⟨I1.kIn, run_gS G hr hj (hx σ) I1 r q⟩) he hpl
/-- in a def that lets all out that its callee lets out -/
theorem passU {X : Cx} {E : XK} (tk : Takes X fun cls d _ H => E cls d H) : Passes (L2.CX X.prog X.w) X E := passes_call tk fun _ _ _ _ h => h
end
/-! ### in an except suite -/
section
variable {X : Cx} {a : Addr} {oe : Obj} {cls : Value} {d : Option Addr} {pn : List (Addr × Obj)}
/-- isinstance(e, c) -/
def rIsX (K : PySem.W.Frag) (a : Addr) (cls : Value) (d : Option Addr) : List V → Hp → VK → Prop := fun xs H Q => ∃ (D g : Addr) (c : V) (u : Value) (b : Bool) (dd : Addr) (fs : List (Str × V)), xs = [.ref a, c] ∧ cls = .ref D ∧ ErrOk K D g ∧ d = some dd ∧ H dd = some (.xd fs) ∧ ClsV c u ∧ PySem.W.kitOne K (.ref D) u = some b ∧ Q (.bl b) H
theorem call_isX (hz : Zc cls d oe) (hf : ∃ vs, oe.data = .fields vs) : CallR (X.suite a ((a, oe) :: pn)) (.builtin "isinstance") (rIsX X.K a cls d) := by
  intro pins s σ H xs us Q I r h
  obtain ⟨D, g, c, u, b, dd, fs, rfl, rfl, T, rfl, hd, k, e, q⟩ := h
  obtain ⟨u1, u2, rfl, r1, r2⟩ := vals2 r
  have e2 := k.eq r2
  subst e2
  obtain rfl : u1 = Value.ref a := r1
  obtain ⟨ha, _⟩ := I.pin (a, oe) (List.mem_append_left _ List.mem_cons_self)
  obtain ⟨vs, hv⟩ := hf
  have hx : ObjOk X.prog X.w H s.heap dd (.xd fs) := I.hok dd _ hd
  obtain ⟨mA, hns, hrel⟩ := hx
  obtain ⟨od, ho, hl⟩ := lookIn_ns hns
  have J : PySem.W.InstAt s.heap a oe D (some od) := ⟨ha, hz.1, by unfold PySem.W.notCls; rw [hv] <;> rfl, by rw [hz.2]; exact ho⟩
  exact PySem.W.kia_one (PySem.W.kitx_exc T.cl T.xf.ga T.xf.gg T.xf.exC T.ca T.hn T.tk T.mo) I.kIn J e (fun z => nomatch z) fun tk => ⟨.bl b, H, I.tok tk, rfl, q⟩
theorem f_isX {K : PySem.W.Frag} {H : Hp} {Q : VK} {D g dd : Addr} {fs : List (Str × V)} {c : V} {u : Value} {b : Bool} (T : ErrOk K D g) (hd : H dd = some (.xd fs)) (k : ClsV c u) (e : PySem.W.kitOne K (.ref D) u = some b) (q : Q (.bl b) H) : rIsX K a (.ref D) (some dd) [.ref a, c] H Q := ⟨D, g, c, u, b, dd, fs, rfl, rfl, T, rfl, hd, k, e, q⟩
/-- e.f, as one of the classes that the clause lets in -/
theorem f_xf {te : TE} {σ : L2.St} {H : Hp} {Q : VK} {C dd : Addr} {f : Str} {fs : List (Str × V)} {v : V} (h : te σ H fun x H1 => x = .ref a ∧ H1 dd = some (.xd fs) ∧ fs.lookup f = some v ∧ Q v H1) (mt : ∀ F G : VK, (∀ x H, F x H → G x H) → te σ H F → te σ H G) : tXf a (.ref C) (some dd) C f te σ H Q :=
  mt _ _ (fun x H1 ⟨e1, e2, e3, q⟩ => ⟨e1, rfl, dd, fs, v, rfl, e2, e3, q⟩) h
end
end My

set_option Elab.async false
set_option linter.all false
set_option maxRecDepth 100000
set_option maxHeartbeats 4000000
/-! LayL: repr of a thing of any plain kind -/
namespace My
open PySem PySem.Spec PyProof.Rows L2
def dkI (ps : List (Int × Int)) : List (Key × V) := ps.map fun p => (.inl p.1, .int p.2)
def ddI (ps : List (Int × Int)) : List (PyData × PyData) := ps.map fun p => (.int p.1, .int p.2)
/-- a value and the data that it is: none, truth values, ints, texts, lists and tuples of such, dicts of ints -/
inductive DpT (K : PySem.W.Frag) (H : Hp) : V → PyData → Prop
  | pl {x : V} {d : PyData} (h : Dp K H x d) (n : d.hasDict = false) : DpT K H x d
  | dct {a : Addr} {ps : List (Int × Int)} (h : H a = some (.dK (dkI ps))) : DpT K H (.ref a) (.dict (ddI ps))
section
variable {X : Cx} {pins : List (Addr × Obj)} {σ : L2.St} {H : Hp} {s : Shared}
theorem kv_reads {P : Program} {w : World} {h : Heap} : ∀ {ps : List (Int × Int)} {es : List DictEntry} {vs : List (Key × Value)}, KV (dkI ps) vs → Pairs (mixKind P w) es vs → ReadsAll h (es.map (·.key)) ((ddI ps).map (·.1)) [] ∧ ReadsAll h (es.map (·.val)) ((ddI ps).map (·.2)) []
  | [], es, vs, r, q => by
    cases r
    cases q
    exact ⟨.nil, .nil⟩
  | p :: ps, es, vs, r, q => by
    cases r with
    | cons r1 r2 =>
      cases q with
      | @cons en _ _ _ q1 q2 q3 =>
        obtain ⟨z1, z2⟩ := kv_reads r2 q3
        obtain ⟨k1, k2⟩ := r1
        dsimp only at k1 k2
        rw [← k1] at q1
        rcases keyIs_shape (show keyIs (Sum.inl p.1) _ = true from q1) with ⟨i, t, e1, e2⟩ | ⟨y, t, e1, e2⟩
        · cases e1
          obtain ⟨t2, e3⟩ := k2
          have g1 : Reads h en.key (.int p.1) [] := by
            rw [e2]
            exact .int _ _
          have g2 : Reads h en.val (.int p.2) [] := by
            rw [q2, e3]
            exact .int _ _
          exact ⟨ReadsAll.cons (as := []) (bs := []) g1 z1, ReadsAll.cons (as := []) (bs := []) g2 z2⟩
        · cases e1
theorem dict_reads (I : Inv X pins σ H s) {a : Addr} {ps : List (Int × Int)} (h : H a = some (.dK (dkI ps))) : Reads s.heap (.ref a) (.dict (ddI ps)) [a] ∧ a ≠ sysModules := by
  obtain ⟨_, hn, vs, rel, o, es, ep, h1, h2, h3, _, h5, _⟩ := dk_of I.hok h
  obtain ⟨z1, z2⟩ := kv_reads (h := s.heap) rel h5
  refine ⟨Reads.dict (as := []) (bs := []) h1 h2.1 h3 z1 z2, fun e => ?_⟩
  rw [e, beq_self_eq_true] at hn
  cases hn
/-- repr of such a thing -/
def rReprT (K : PySem.W.Frag) : List V → Hp → VK → Prop := fun xs H Q => ∃ x d, xs = [x] ∧ DpT K H x d ∧ d.showable = true ∧ d.depth ≤ 50 ∧ d.shown.length ≤ sizeLine ∧ Q (.str d.shown) H
theorem call_reprT {j : Nat} (hr : RG j X.A) : CallR X (.builtin "repr") (rReprT X.K) := by
  intro pins s σ H xs us Q I r h
  obtain ⟨x, d, rfl, hd, h1, h3, h4, q⟩ := h
  obtain ⟨u, rfl, rx⟩ := vals1 r
  have fin : ∀ {a : Addr} {as : List Addr}, u = .ref a → Reads s.heap (.ref a) d as → (d.hasDict = true → sysModules ∉ as) → wpAny (model X.prog X.w) X.A (call (.builtin "repr") [u]) (EP X pins σ Q) X.xe s := fun {a as} e R hs => by
    subst e
    refine repr_of_reads' R h1 hs hr.g (by have := hr.units; omega) (fun _ _ z => z) (fun h' u tk hk => ?_) h4
    exact ⟨.str d.shown, H, I.kept (t' := tk) hk, ⟨u, rfl⟩, q⟩
  cases hd with
  | pl hd hn =>
    cases hd with
    | non =>
      obtain rfl : u = Value.none := rx
      exact PySem.P.repr_of_none ⟨.str _, H, I.tok _, ⟨_, rfl⟩, q⟩
    | bl b =>
      obtain rfl : u = Value.bool b := rx
      exact PySem.P.repr_of_bool ⟨.str _, H, I.tok _, ⟨_, rfl⟩, q⟩
    | int i =>
      obtain ⟨t, rfl⟩ := (show ∃ t, u = Value.int i t from rx)
      exact PySem.P.repr_of_int (of_decide_eq_true h1) ⟨.str _, H, I.tok _, ⟨_, rfl⟩, q⟩
    | str y =>
      obtain ⟨t, rfl⟩ := (show ∃ t, u = Value.str y t from rx)
      exact PySem.P.repr_of_str ⟨.str _, H, I.tok _, ⟨_, rfl⟩, q⟩ h4
    | lst hs ha =>
      obtain ⟨as, R⟩ := Dp.reads I _ _ _ (.lst hs ha) rx
      exact fin rx (by cases (show u = Value.ref _ from rx); exact R) (PyData.noDict_hsm hn)
    | tup hs ha =>
      obtain ⟨as, R⟩ := Dp.reads I _ _ _ (.tup hs ha) rx
      exact fin rx (by cases (show u = Value.ref _ from rx); exact R) (PyData.noDict_hsm hn)
  | dct hs =>
    obtain ⟨R, n⟩ := dict_reads I hs
    exact fin rx R fun _ m => n (List.mem_singleton.mp m).symm
theorem call_reprTK {K : PySem.W.Frag} {j : Nat} (h : X.K = K) (hr : RG j X.A) : CallR X (.builtin "repr") (rReprT K) := by
  subst h
  exact call_reprT hr
end
/-- a thing whose repr may be asked -/
def Thg (K : PySem.W.Frag) (H : Hp) (x : V) (d : PyData) : Prop := DpT K H x d ∧ d.showable = true ∧ d.depth ≤ 50 ∧ d.shown.length ≤ sizeLine
theorem Thg.q {K : PySem.W.Frag} {H : Hp} {x : V} {d : PyData} {Q : VK} (h : Thg K H x d) (q : Q (.str d.shown) H) : rReprT K [x] H Q := ⟨x, d, rfl, h.1, h.2.1, h.2.2.1, h.2.2.2, q⟩
mutual
theorem dp_same {K : PySem.W.Frag} {H H' : Hp} (s : Same H H') : ∀ {d : PyData} {x : V}, Dp K H x d → Dp K H' x d
  | _, _, .non => .non
  | _, _, .bl b => .bl b
  | _, _, .int i => .int i
  | _, _, .str x => .str x
  | _, _, .lst h k => .lst (s.seq h) (dpAll_same s k)
  | _, _, .tup h k => .tup (tupS h s) (dpAll_same s k)
theorem dpAll_same {K : PySem.W.Frag} {H H' : Hp} (s : Same H H') : ∀ {ds : List PyData} {xs : List V}, DpAll K H xs ds → DpAll K H' xs ds
  | _, _, .nil => .nil
  | _, _, .cons h k => .cons (dp_same s h) (dpAll_same s k)
end
theorem Thg.same {K : PySem.W.Frag} {H H' : Hp} {x : V} {d : PyData} (h : Thg K H x d) (s : Same H H') : Thg K H' x d := by
  refine ⟨?_, h.2⟩
  cases h.1 with
  | pl k n => exact .pl (dp_same s k) n
  | dct e => exact .dct (s _ _ e)
/-- a def without defaults, called by names -/
theorem kb0 {K : PySem.W.Frag} {x qual : Str} {params : Arguments} {body : List Stmt} {scope : Scope} {kws : List (Str × V)} {f : Addr} {fd : FuncData} {ps : List Str} (F : FunD K x qual params body scope [] kws f fd) (n : Nat) (ks : List Str) (g : {α : Type} → List α → List α → List α)
    (rl : ∀ {vs zs : List V} {us ws : List Value}, Vals vs us → Vals zs ws → Vals (g vs zs) (g us ws))
    (h : ∀ (kV doc pm : Value) (an : Option Addr) (cdv ct : Value) (us ws : List Value), us.length = n → ws.length = ks.length → bindArgs (PySem.W.fnOf x qual params body scope .none kV doc pm an cdv ct) ⟨us, ks.zip ws⟩ = pure (ps.zip (g us ws))) :
    KBn K fd ps n ks (fun us ws => g us ws) (fun vs zs => g vs zs) := by
  obtain ⟨_, _, _, kV, doc, pm, an, cdv, ct, _, rfl, _, _, hD, _⟩ := F.ex
  rcases hD with ⟨_, rfl⟩ | ⟨e, _⟩
  · exact ⟨fun s us ws _ l1 l2 => .of_eq (h kV doc pm an cdv ct us ws l1 l2), fun r1 r2 => rl r1 r2⟩
  · exact absurd rfl e
section
variable {σ : L2.St} {H : Hp} {D : Ends} {Q : VK} {tA : TA} {C : Addr} {f : Str} {W : WX} {sp : Sp} {E : L2.St → XK}
theorem r_raiseE (h : tA σ H fun vs H1 => MkE C f vs H1 fun cls d H2 => W cls d σ H2) : tRaise C f W tA D σ H := h
theorem r_callG (h : tA σ H fun vs H1 => sp vs H1 Q (E σ)) : tCallG sp [] E tA σ H Q := by
  unfold tCallG
  simp only [List.append_nil]
  exact h
/-- e.f of a caught error that stands in a slot -/
theorem r_xfV {a C dd : Addr} {f : Str} {fs : List (Str × V)} {v : V} {i : Nat} (e : σ[i]? = some (some (.ref a))) (hd : H dd = some (.xd fs)) (l : fs.lookup f = some v) (q : Q v H) : tXf a (.ref C) (some dd) C f (tVar i) σ H Q := ⟨_, e, rfl, rfl, dd, fs, v, rfl, hd, l, q⟩
end
end My

set_option Elab.async false
set_option linter.all false
set_option maxRecDepth 100000
set_option maxHeartbeats 4000000
/-! LayM: a caught error handed to a def, from within the except suite -/
namespace My
open PySem PySem.Spec PyProof.Rows L2 He
/-- a promise that may tell of the error that is handled -/
abbrev SpQ : Type := (Addr × Obj) → Sp
/-- the def fd at f keeps its promise where the error p is handled -/
structure FnQ (P : Program) (w : World) (K : PySem.W.Frag) (mg : Str → Option Value) (base : Heap) (k : Nat) (f : Addr) (fd : FuncData) (ps : List Str) (sp : SpQ) : Prop where
  len : ∀ p vs H Q E, sp p vs H Q E → vs.length = ps.length
  run : ∀ (A : Around) (outer : List Env) (s : Shared) (H : Hp) (args : Args) (us : List Value) (vs : List V) (Q : VK) (p : Addr × Obj), L2H.RoomH k A → L2H.PinOk outer H s p → Env0 P w K mg base A outer s H → BindsTo s fd args (ps.zip us) → Vals vs us → sp p vs H Q E0 →
    codeAny (model P w) A (.call (.ref f) args) (CR CX0 outer P w H s Q E0) s
section
variable {P : Program} {w : World} {K : PySem.W.Frag} {mg : Str → Option Value} {base : Heap} {x qual : Str} {params : Arguments} {body : List Stmt} {scope : Scope} {dvs : List V} {kws : List (Str × V)} {f : Addr} {fd : FuncData} {N ps : List Str} {k : Nat} {sp : SpQ}
abbrev cxQ (P : Program) (w : World) (K : PySem.W.Frag) (mg : Str → Option Value) (base : Heap) (N : List Str) (qual : Str) (scope : Scope) (f : Addr) (cdv : Value) (A : Around) (outer : List Env) (s : Shared) (H : Hp) (p : Addr × Obj) : Cx := L2H.cxH CX0 P w K mg base N qual scope f cdv A outer s H E0 p
theorem _root_.L2H.RoomH.units {k : Nat} {A : Around} (r : L2H.RoomH k A) : A.units + 64 < cLine := by
  have := r.un
  omega
theorem fnQ (F : FunD K x qual params body scope dvs kws f fd) (S : FnScope N ps scope) (len : ∀ p vs H Q E, sp p vs H Q E → vs.length = ps.length)
    (hbody : ∀ (cdv : Value) (A : Around) (outer : List Env) (s : Shared) (H : Hp) (vs : List V) (Q : VK) (p : Addr × Obj), L2H.RoomH k (A.deeper (envOfC qual scope s.heap.objs.size f cdv)) → sp p vs H Q E0 →
      ∃ t, PSs (cxQ P w K mg base N qual scope f cdv A outer s H p) body t ∧ t { nx := fun _ H2 => Q .non H2, rt := Q } (start N vs) H) : FnQ P w K mg base (k + 1) f fd ps sp := by
  obtain ⟨_, _, _, _, _, _, _, cdv, _, _, rfl, lk, hcd, _, _⟩ := F.ex
  refine ⟨len, fun A outer s H args us vs Q p hr hp e0 hb r q => ?_⟩
  have old := fun b o e => (e0.bs b o e).1
  have KX : K.In s.heap := e0.mod.kin.keeps old
  refine codeAny_call_function hr.depth (KX _ _ lk) rfl S.co S.gen rfl (PySem.W.codeRec_of KX hcd) (hb _ _ _ _ ?_)
  refine wpAny_newFunctionEnv_cells S.kind (fun y hy => ?_) fun env he s1 z => ?_
  · obtain ⟨n, v⟩ := y
    exact (S.par n (List.of_mem_zip hy).1).elim (fun q => .inl q) fun q => .inr ⟨q, PySem.W.cellsFrom_some _ _ _ (.inl q)⟩
  subst he
  refine ⟨(e0.mod.nolimit.keeps old).keeps z.toInCall.keep, codeAny_func ?_⟩
  obtain ⟨t, ht, hq⟩ := hbody cdv A outer s H vs Q p (hr.deeper _) q
  refine wpAny_mono (ht.run [] s1 (start N vs) H _ (L2H.inv_startH S hp e0 (len _ _ _ _ _ q) r z) hq) (fun fl s' hs => ?_) fun _ _ hs => hs
  match fl, hs with
  | .ret u, ⟨v, _, H', J, rv, q⟩ => exact ⟨v, H', J.os, J.bare, J.base, J.hok, rv, q⟩
  | .next, ⟨_, H', J, q⟩ => exact ⟨.non, H', J.os, J.bare, J.base, J.hok, rfl, q⟩
  | .brk, ⟨_, _, _, q⟩ => exact q.elim
  | .cont, ⟨_, _, _, q⟩ => exact q.elim
end
section
variable {X : Cx} {k : Nat} {f a : Addr} {oe : Obj} {fd : FuncData} {ps : List Str} {sp : SpQ} {x : Str} {p pos : Pos} {e : Expr} {es : List Expr} {t : TA} {pn : List (Addr × Obj)}
def tCallQ (sp : SpQ) (p : Addr × Obj) (t : TA) : TE := fun σ H Q => t σ H fun vs H1 => sp p vs H1 Q E0
/-- f(e, ..) in a suite -/
theorem pe_q (F : FnQ X.prog X.w X.K X.mg X.base k f fd ps sp) (hb : Binds X.K fd ps []) (hk : PySem.W.keepIn X.K (.ref f) = true) (hm : X.mg x = some (.ref f)) (hr : L2H.RoomH k (X.suite a ((a, oe) :: pn)).A) (ha : PA (X.suite a ((a, oe) :: pn)) (e :: es) t) (hg : Gl X x := by rfl)
    (hdb : (x == ("__debug__" : Str)) = false := by decide) (he : starEach (e :: es) X.env = (false, eval e X.env) :: starEach es X.env := by rfl) (hpl : (backTo pos (starEach es X.env)).any (·.1) = false := by rfl) :
    PE (X.suite a ((a, oe) :: pn)) (.Call (.Name x p) (e :: es) [] pos) (tCallQ sp (a, oe) t) := by
  refine ⟨fun pins s σ H Q I h => wpAny_Call_Name_kw (ld_glob I hg hm (PySem.W.callWith_K (h₀ := X.base) I.ok.mod.kin hk (thn (ha.run pos pins s σ H _ I h) fun us s1 hh => ?_) he hpl) hdb)⟩
  obtain ⟨vs, H1, I1, r, q⟩ := hh
  refine ⟨I1.kIn, ?_⟩
  have P1 := I1.pin (a, oe) (List.mem_append_left _ List.mem_cons_self)
  have pin : L2H.PinOk X.stack H1 s1 (a, oe) := ⟨P1.1, P1.2.1, fun hm => (List.mem_cons.mp (I1.stkSub a hm)).elim P1.2.2.1 P1.2.2.2.1, P1.2.2.2.2⟩
  have l : us.length = ps.length := r.length.symm.trans (F.len _ _ _ _ _ q)
  have b := hb s1 us I1.kIn (by rw [List.append_nil]; exact l)
  rw [List.append_nil] at b
  refine wpAny_call (codeAny_mono (F.run _ _ s1 H1 ⟨us, []⟩ us vs Q (a, oe) hr pin I1.env0 b r q) fun y s' hq => ?_)
  match y, hq with
  | .error er, hq => exact hq.elim
  | .ok (.ret u), hq => exact I1.after hq
end
/-! in the body of such a def -/
section
variable {P : Program} {w : World} {K : PySem.W.Frag} {mg : Str → Option Value} {base : Heap} {N : List Str} {qual : Str} {scope : Scope} {f : Addr} {cdv : Value} {A : Around} {outer : List Env} {s : Shared} {H0 : Hp} {p : Addr × Obj}
def rIsQ (K : PySem.W.Frag) (p : Addr × Obj) : List V → Hp → VK → Prop := fun xs H Q => ∃ (D g : Addr) (c : V) (u : Value) (b : Bool) (dd : Addr) (fs : List (Str × V)), xs = [.ref p.1, c] ∧ Zc (.ref D) (some dd) p.2 ∧ (∃ vs, p.2.data = .fields vs) ∧ ErrOk K D g ∧ H dd = some (.xd fs) ∧ ClsV c u ∧ PySem.W.kitOne K (.ref D) u = some b ∧ Q (.bl b) H
theorem call_isQ : CallR (cxQ P w K mg base N qual scope f cdv A outer s H0 p) (.builtin "isinstance") (rIsQ K p) := by
  intro pins t σ H xs us Q I r h
  obtain ⟨D, g, c, u, b, dd, fs, rfl, hz, hf, T, hd, k, e, q⟩ := h
  obtain ⟨u1, u2, rfl, r1, r2⟩ := vals2 r
  have e2 := k.eq r2
  subst e2
  obtain rfl : u1 = Value.ref p.1 := r1
  obtain ⟨ha, _⟩ := I.pin p (List.mem_append_left _ List.mem_cons_self)
  obtain ⟨vs, hv⟩ := hf
  have hx : ObjOk P w H t.heap dd (.xd fs) := I.hok dd _ hd
  obtain ⟨mA, hns, hrel⟩ := hx
  obtain ⟨od, ho, hl⟩ := lookIn_ns hns
  have J : PySem.W.InstAt t.heap p.1 p.2 D (some od) := ⟨ha, hz.1, by unfold PySem.W.notCls; rw [hv] <;> rfl, by rw [hz.2]; exact ho⟩
  exact PySem.W.kia_one (PySem.W.kitx_exc T.cl T.xf.ga T.xf.gg T.xf.exC T.ca T.hn T.tk T.mo) I.kIn J e (fun z => nomatch z) fun tk => ⟨.bl b, H, I.tok tk, rfl, q⟩
def tXq (p : Addr × Obj) (C : Addr) (n : Str) (te : TE) : TE := fun σ H Q => te σ H fun x H1 => x = .ref p.1 ∧ ∃ (dd : Addr) (fs : List (Str × V)) (v : V), Zc (.ref C) (some dd) p.2 ∧ (∃ vs, p.2.data = .fields vs) ∧ H1 dd = some (.xd fs) ∧ fs.lookup n = some v ∧ Q v H1
theorem pe_xq {C : Addr} {e : Expr} {te : TE} {pos : Pos} {n : Str} (T : XfC K C) (hno : PySem.W.findIn K (.ref C) n = some none) (he : PE (cxQ P w K mg base N qual scope f cdv A outer s H0 p) e te)
    (hb : attributeBase e n (cxQ P w K mg base N qual scope f cdv A outer s H0 p).env (eval e (cxQ P w K mg base N qual scope f cdv A outer s H0 p).env) = eval e (cxQ P w K mg base N qual scope f cdv A outer s H0 p).env := by rfl) :
    PE (cxQ P w K mg base N qual scope f cdv A outer s H0 p) (.Attribute e n pos) (tXq p C n te) := by
  refine ⟨fun pins t σ H Q I h => attr_of hb (thn (he.run pins t σ H _ I h) fun u s1 hh => ?_)⟩
  obtain ⟨x, H1, I1, rx, rfl, dd, fs, v, hz, ⟨vs, hd⟩, ea, l, q⟩ := hh
  obtain rfl : u = Value.ref p.1 := rx
  obtain ⟨ha, _⟩ := I1.pin p (List.mem_append_left _ List.mem_cons_self)
  obtain ⟨mA, hns, hr⟩ : ObjOk P w H1 s1.heap dd (.xd fs) := I1.hok dd _ ea
  obtain ⟨od, ho, hl⟩ := lookIn_ns hns
  have hrn := hr n
  rw [l] at hrn
  obtain ⟨u, hu, ru⟩ := RelO.some_of hrn
  have J : PySem.W.InstAt s1.heap p.1 p.2 C (some od) := ⟨ha, hz.1, by unfold PySem.W.notCls; rw [hd] <;> rfl, by rw [hz.2]; exact ho⟩
  exact HandSPX.exc_get I1.kIn J T.ga T.gg T.exC (PySem.W.findObj_own T.hdC hno rfl (by rw [hl, hu])) (handed_of ru) ⟨v, H1, I1.tok _, ru, q⟩
end
end My

set_option Elab.async false
set_option linter.all false
set_option maxRecDepth 100000
set_option maxHeartbeats 4000000
/-! LayN: try: body, except (C1, C2, C3) as e: suite, where every error of the body is one of the three -/
namespace My
open PySem PySem.Spec PyProof.Rows L2 He
open PySem.HandSPX
/-- what flies goes on flying over an object more -/
theorem fly_push {B h : Heap} {l : List Env} {a : Addr} {Z : Obj → Prop} (o : Obj) (x : FlyingZ B l a Z h) : FlyingZ B l a Z (h.push o) := by
  have k : ∀ {b u}, h.get? b = some u → (h.push o).get? b = some u := fun e => Heap.get?_push_of_some _ e
  obtain ⟨x1, x2, x3, oe, vs, T, oT, ts, e1, e2, e3, e4, e5, e6, e7, e8, e9⟩ := x
  exact ⟨fun b u e => k (x1 b u e), x2, x3.of_keeps fun b u e _ => ⟨u, k e, rfl⟩, oe, vs, T, oT, ts, k e1, e2, e3, e4, e5, e6, k e7, e8, e9⟩
/-- what the clause wishes of an error -/
def wTup (K : PySem.W.Frag) (cs : List Value) (i n : Nat) (ts : Addr → Value → Option Addr → TS) (D : Ends) : WX := fun cls d σ H => PySem.W.exmAny K cls cs = some true ∧
  ∀ a, H a = none → σ.length = n → ts a cls d { nx := fun σ' H' => D.nx (σ'.set i none) H', rt := D.rt, bk := fun σ' H' => D.bk (σ'.set i none) H', ct := fun σ' H' => D.ct (σ'.set i none) H' } (σ.set i (some (.ref a))) H
section
variable {X : Cx} {x1 x2 x3 n : Str} {C1 C2 C3 : Addr} {i : Nat} {body suite : List Stmt} {b₀ : Stmt} {p1 p2 p3 tp pos pos' : Pos} {kk : Nat} {tb : WX → TS} {ts : Addr → Value → Option Addr → TS}
/-- the three classes, loaded in a suite -/
theorem load3 {A : Around} {s : Shared} {Q E : Value → Shared → Prop} (h : ∀ {x : Str} {C : Addr} {p : Pos} {Q2 : Value → Shared → Prop}, (x, C) ∈ [(x1, C1), (x2, C2), (x3, C3)] → Q2 (.ref C) s → wpAny (model X.prog X.w) A (eval (.Name x p) X.env) Q2 E s)
    (q : Q (.ref s.heap.objs.size) { s with heap := s.heap.push { cls := .type "tuple", data := .seq [.ref C1, .ref C2, .ref C3].toArray } }) :
    wpAny (model X.prog X.w) A (eval (.Tuple [.Name x1 p1, .Name x2 p2, .Name x3 p3] kk tp) X.env) Q E s := by
  refine wpAny_Tuple ?_
  show wpAny _ _ (spliced ((false, eval (.Name x1 p1) X.env) :: (false, eval (.Name x2 p2) X.env) :: (false, eval (.Name x3 p3) X.env) :: [])) _ _ _
  refine Calls.spliced_cons (h (C := C1) (by simp) (Calls.spliced_cons (h (C := C2) (by simp) (Calls.spliced_cons (h (C := C3) (by simp) (Calls.spliced_nil ⟨?_, q⟩))))))
  show 3 ≤ sizeLine
  rw [sizeLine_eq]
  decide
/-- try: body, except (x1, x2, x3) as n: suite -/
theorem ps_tryT (hs : X.stack = X.env :: X.outer) (hf : X.env.frame = some X.env.locals) (nd : X.N.Nodup) (hi : X.N[i]? = some n) (hl : X.env.kindOf n = some .local) (n1 : Names X x1 (.ref C1)) (n2 : Names X x2 (.ref C2)) (n3 : Names X x3 (.ref C3))
    (hb : ∀ (W : WX) (pn : List (Addr × Obj)) (xe : Value → Shared → Prop), Takes (X.tr pn xe) W → PSs (X.tr pn xe) body (tb W))
    (hsu : ∀ (a : Addr) (oe : Obj) (cls : Value) (d : Option Addr) (pn : List (Addr × Obj)), Zc cls d oe → (∃ vs, oe.data = .fields vs) → PSs (X.suite a ((a, oe) :: pn)) (b₀ :: suite) (ts a cls d)) :
    PS X (.Try body [.ExceptHandler (some (.Tuple [.Name x1 p1, .Name x2 p2, .Name x3 p3] kk tp)) (some n) (b₀ :: suite) pos'] [] [] pos) (fun D σ H => tb (wTup X.K [.ref C1, .ref C2, .ref C3] i X.N.length ts D) D σ H) := by
  refine ⟨fun pins s σ H D I h => wpAny_Try_except ?_⟩
  have ok := I.ok
  have fr : X.A.frames = some (X.env :: X.outer) := ok.frames.trans (congrArg some hs)
  let xe : Value → Shared → Prop := fun e t => wpAny (model X.prog X.w) X.A (noteFrame e X.env) (fun _ t2 => wpAny (model X.prog X.w) X.A (setFlight e none) (fun _ t3 =>
    wpAny (model X.prog X.w) X.A (handleBy e X.env [.ExceptHandler (some (.Tuple [.Name x1 p1, .Name x2 p2, .Name x3 p3] kk tp)) (some n) (b₀ :: suite) pos']) (SP X pins D) X.xe t3) X.xe t2) X.xe t
  have tk : Takes (X.tr (X.pn ++ pins) xe) (wTup X.K [.ref C1, .ref C2, .ref C3] i X.N.length ts D) := by
    rintro u s' ⟨a, B, sI, pins', σ', H', cls, d, rfl, J0, nb, up, sky, na, os, ag, hany, hyes⟩
    have J : Inv X pins σ' H' sI := J0.ofTry ok
    rw [show (X.tr (X.pn ++ pins) xe).stack = X.env :: X.outer from hs] at sky
    show wpAny _ X.A (noteFrame (.ref a) X.env) _ _ _
    refine Sky.land Zc.steady fr hf sky fun g fl ug => ?_
    -- the heap g with one tuple more
    let tup : Obj := { cls := .type "tuple", data := .seq [Value.ref C1, Value.ref C2, Value.ref C3].toArray }
    have J1 : Inv X pins σ' H' { s' with heap := g } := J.landed nb fl.1 (up.trans ug) os ag
    have off : ∀ {h : Heap} {o : Obj} {vs : Array Value}, FlyingZ B (X.env :: X.outer) a (Zc cls d) h → h.get? a = some o → o.data = .fields vs → a ≠ X.env.locals ∧ a ∉ X.fs := fun {h o vs} f e dd => by
      have no : a ∉ frs (X.env :: X.outer) := fun m => by
        obtain ⟨_, o2, e2, nf⟩ := f.2.2.1.mem m
        rw [e] at e2
        cases e2
        exact nf _ dd
      refine ⟨fun z => no (List.mem_filterMap.mpr ⟨X.env, List.mem_cons_self, hf.trans (congrArg some z.symm)⟩), fun m => ?_⟩
      obtain ⟨en, me, q⟩ := List.mem_filterMap.mp m
      exact no (List.mem_filterMap.mpr ⟨en, List.mem_cons_of_mem _ me, q⟩)
    obtain ⟨o3, v3, e3, z3, d3⟩ := fl.there
    obtain ⟨l3, f3⟩ := off fl e3 d3
    have S3 := J1.suite e3 d3 na l3 f3
    have fl2 := fly_push tup fl
    have LT : PySem.W.Looks (model X.prog X.w) (g.push tup) (typeOf (.ref a)) cls := fun A Q E t k q => wpAny_typeOf_ref (k _ _ (Heap.get?_push_of_some _ e3)) (by rw [z3.1]; exact q)
    have kin : X.K.In (g.push tup) := J1.kIn.keeps fun b o e => Heap.get?_push_of_some _ e
    have LM := PySem.W.exm_tup3 (M := model X.prog X.w) kin LT (Heap.get?_push_size g rfl) hany
    refine wpAny_handleBy_cons (codeAny_handlers_test ?_) (by intro q; cases q)
    refine load3 (X := X) (C1 := C1) (C2 := C2) (C3 := C3) (fun {x C p Q2} hm q => ?_) (LM.here ?_)
    · have nm : Names X x (.ref C) := by
        simp only [List.mem_cons, Prod.mk.injEq, List.not_mem_nil, or_false] at hm
        rcases hm with ⟨rfl, rfl⟩ | ⟨rfl, rfl⟩ | ⟨rfl, rfl⟩ <;> assumption
      obtain ⟨hg, hd, m | ⟨m, v, w⟩⟩ := nm
      · exact ld_glob (X := X.suite a ((a, o3) :: (X.pn ++ pins))) S3 hg m q hd
      · exact ld_blt (X := X.suite a ((a, o3) :: (X.pn ++ pins))) S3 hg m v q w hd
    · refine codeAny_handlers_suite_as (lands_againZ fl2 fun g4 fl4 u4 => ?_)
      have J4 : Inv X pins σ' H' { s' with heap := g4 } := J.landed nb fl4.1 (((up.trans ug).trans (.of_keeps fun b o e => Heap.get?_push_of_some _ e)).trans u4) os ag
      obtain ⟨o4, v4, e4, z4, d4⟩ := fl4.there
      obtain ⟨l4, f4⟩ := off fl4 e4 d4
      have S4 := J4.suite e4 d4 na l4 f4
      refine store_ok (X := X.suite a ((a, o4) :: (X.pn ++ pins))) (v := .ref a) S4 nd hi (.inl hl) rfl (fun t5 S5 => ?_) (.inr hl)
      refine wpAny_mono ((hsu a o4 cls d (X.pn ++ pins) z4 ⟨_, d4⟩).run [] t5 _ H' _ S5 (hyes a na J.len)) (fun f t6 q6 => ?_) fun _ _ z => z.elim
      have out : ∀ {τ : L2.St} {G : Hp} {R : Shared → Prop}, Inv (X.suite a ((a, o4) :: (X.pn ++ pins))) [] τ G t6 → (∀ t7, Inv X pins (τ.set i none) G t7 → R t7) →
          wpAny (model X.prog X.w) X.A (do bindName X.env n .none; unbindBehindTheSuite X.env n pos') (fun _ t7 => R t7) X.xe t6 := fun S6 k => gone_ok (S6.unsuite ok) nd hi hl k
      match f, q6 with
      | .next, ⟨τ, G, S6, q⟩ => exact out S6 fun t7 J7 => ⟨_, _, J7, q⟩
      | .brk, ⟨τ, G, S6, q⟩ => exact out S6 fun t7 J7 => ⟨_, _, J7, q⟩
      | .cont, ⟨τ, G, S6, q⟩ => exact out S6 fun t7 J7 => ⟨_, _, J7, q⟩
      | .ret u, ⟨v, τ, G, S6, r, q⟩ => exact out S6 fun t7 J7 => ⟨_, _, _, J7, r, q⟩
  refine wpAny_mono ((hb _ _ xe tk).run [] s σ H D (I.toTry xe) h) (fun f s1 hsp => ?_) fun _ _ he => he
  match f, hsp with
  | .next, ⟨σ', H', J, q⟩ => exact wpAny_execs_nil ⟨σ', H', J.ofTry ok, q⟩
  | .brk, ⟨σ', H', J, q⟩ => exact ⟨σ', H', J.ofTry ok, q⟩
  | .cont, ⟨σ', H', J, q⟩ => exact ⟨σ', H', J.ofTry ok, q⟩
  | .ret u, ⟨v, σ', H', J, r, q⟩ => exact ⟨v, σ', H', J.ofTry ok, r, q⟩
end
end My

set_option Elab.async false
set_option linter.all false
set_option maxRecDepth 100000
set_option maxHeartbeats 4000000
/-! LayO: x(lambda: body), where it is known that no repr is under way -/
namespace My
open PySem PySem.Spec PyProof.Rows L2 He LamX
section
variable {X : Cx} {pins : List (Addr × Obj)} {σ : L2.St} {H : Hp} {s : Shared} {k i : Nat} {g f c' : Addr} {params : Arguments} {body : Expr} {scope sg : Scope} {qg a : Str} {cdg pm ctv : Value} {Ng : List Str} {E : XK} {tb : TE} {pn : List (Addr × Obj)} {xe : Value → Shared → Prop} {W : WX} {p1 p2 : Pos}
abbrev envD (sg : Scope) (qg : Str) (s : Shared) (g : Addr) (cdg : Value) : Env := envOfC qg sg s.heap.objs.size g cdg
/-- the context of the def that got the lambda -/
abbrev cxD (X : Cx) (Ng : List Str) (qg : Str) (sg : Scope) (g : Addr) (cdg : Value) (s : Shared) (H : Hp) : Cx := cxOf CX0 X.prog X.w X.K X.mg X.base Ng qg sg g cdg X.A X.stack s H E0
/-- a(), there -/
theorem pe_actG (I : Inv X pins σ H s) (L : LamS X.env.scope scope) (hf : s.heap.get? f = some (PySem.W.kla_obj "<lambda>" (X.env.qual ++ "<lambda>") params body scope (cloFrom X.env.cells scope.names []) pm c' ctv)) (hn : H f = none) (hs : f ∉ frs X.stack)
    (hb : bindArgs (PySem.W.kla_fn "<lambda>" (X.env.qual ++ "<lambda>") params body scope (cloFrom X.env.cells scope.names []) pm (.ref c') ctv) ⟨[], []⟩ = pure []) (tk : Takes ((cxD X Ng qg sg g cdg s H).tr pn xe) W) (hW : ∀ cls d τ G, E cls d G → W cls d τ G)
    (hr : RG (k + 1) (X.A.deeper (envD sg qg s g cdg)))
    (hbody : ∀ (s1 : Shared) (H1 : Hp), RG k ((X.A.deeper (envD sg qg s g cdg)).deeper (lamEnv X scope s1.heap.objs.size f c')) → PE (lamCx X (X.A.deeper (envD sg qg s g cdg)) (envD sg qg s g cdg :: X.stack) s1 H1 E scope f c') body tb)
    (hN : Ng[i]? = some a) (hv : Vis sg a) (hd : (a == ("__debug__" : Str)) = false) (hc : (a == ("__classdict__" : Str)) = false) :
    PE ((cxD X Ng qg sg g cdg s H).tr pn xe) (.Call (.Name a p1) [] [] p2) (fun τ G Q => τ[i]? = some (some (.ref f)) ∧ G c' = some (CodeO c' (X.env.qual ++ "<lambda>")) ∧ tb σ G Q) := by
  refine ⟨fun pz sz τ G Q IZ ⟨e1, e2, ht⟩ => wpAny_Call_Name_kw (thn ((pe_var (pos := p1) hN hv hd hc).run pz sz τ G (fun v G1 => v = .ref f ∧ G1 = G) IZ ⟨.ref f, e1, rfl, rfl⟩) fun u s1 ⟨v, G1, I1, r1, ev, eG⟩ => ?_)⟩
  subst ev eG
  obtain rfl : u = Value.ref f := r1
  have at1 := I1.base.keep f _ hf hn hs (fun z => (List.not_mem_nil (show f ∈ ([] : List Addr) from z)).elim)
  obtain ⟨⟨oc, vs, t, h1, h2, h3⟩, _, _⟩ := I1.hok c' _ e2
  refine PySem.W.callWith_F0 ⟨_, _, _, _, at1⟩ (wpAny_call (codeAny_mono (R := CR (L2.CX X.prog X.w) (envD sg qg s g cdg :: X.stack) X.prog X.w G1 s1 Q E) ?_ fun y s' hq => ?_))
  · refine PySem.W.kla_callFunE hr.r.depth at1 rfl L.co L.gen rfl ⟨c', oc, vs, t, rfl, h1, h2, h3⟩ ?_
    refine wpAny_of_eq hb (wpAny_newFunctionEnv (fun y hy => (L.own y hy).2) (fun y hy => (List.not_mem_nil hy).elim) (fun h₁ n1 n2 => ⟨I1.nolimit.fresh _ n2, ?_⟩) L.kind)
    have kp : ∀ b o, s1.heap.get? b = some o → h₁.get? b = some o := fun b o e => n2.extBut b o (Nat.ne_of_lt (Heap.lt_size e)) (Heap.get?_push_of_some _ e)
    refine PySem.W.kla_codeExpr (wpAny_mono ((hbody s1 G1 (hr.deeper _)).run [] _ _ G1 Q (lam_start2 (E := E) I L I1.env0 hr.r.hd I1.base n1 kp) ht) (fun v s' hq => ?_) fun _ _ z => z)
    obtain ⟨w', H', J, rv, q⟩ := hq
    exact ⟨w', H', J.os, J.bare, J.base, J.hok, rv, q⟩
  · match y, hq with
    | .error e, hq => exact passes_call tk hW pz τ G1 s1 e s' I1 hq
    | .ok (.ret u), hq => exact I1.after hq
/-- what the def that got the lambda does with it -/
def GivesG (X : Cx) (Ng : List Str) (x : Str) (sg : Scope) (g : Addr) (cdg : Value) (bg : List Stmt) (a q : Str) (k : Nat) (TT : (XK → Hp → VK → Prop) → Hp → VK → Prop) : Prop :=
  ∀ (f c' : Addr) (s : Shared) (H : Hp) (Q : VK) (tl : XK → Hp → VK → Prop),
    (∀ (W : WX) (pn : List (Addr × Obj)) (xe : Value → Shared → Prop) (E : XK) (p1 p2 : Pos), Takes ((cxD X Ng x sg g cdg s H).tr pn xe) W → (∀ cls d τ G, E cls d G → W cls d τ G) → PE ((cxD X Ng x sg g cdg s H).tr pn xe) (.Call (.Name a p1) [] [] p2) (fun τ G Q => τ[0]? = some (some (.ref f)) ∧ G c' = some (CodeO c' q) ∧ tl E G Q)) →
    H c' = some (CodeO c' q) → RG k (X.A.deeper (envD sg x s g cdg)) → TT tl H Q → ∃ t, PSs (cxD X Ng x sg g cdg s H) bg t ∧ t { nx := fun _ H2 => Q .non H2, rt := Q } (start Ng [.ref f]) H
end
section
variable {X : Cx} {k : Nat} {g c P : Addr} {params pg : Arguments} {body : Expr} {scope sg : Scope} {bg : List Stmt} {x a : Str} {kws : List (Str × V)} {fd : FuncData} {Ng : List Str} {T : List (Addr × Str)} {TT : (XK → Hp → VK → Prop) → Hp → VK → Prop} {t : XK → TE} {p lpos pos : Pos}
/-- x(lambda: body) -/
theorem pe_lamG (hg : Gl X x) (hm : X.mg x = some (.ref g)) (F : FunD X.K x x pg bg sg [] kws g fd) (hb : Binds X.K fd [a] []) (S : FnScope Ng [a] sg) (n0 : Ng[0]? = some a) (va : Vis sg a) (hG : ∀ cdg, GivesG X Ng x sg g cdg bg a (X.env.qual ++ "<lambda>") (k + 1) TT)
    (TB : TabB X.base X.mg c P) (hcode : X.env.code = .ref c) (mT : (P, X.env.qual ++ "<lambda>") ∈ T) (uT : ∀ p ∈ T, p.1 = P → p.2 = X.env.qual ++ "<lambda>") (hr : RG (k + 2) X.A) (L : LamS X.env.scope scope) (df : defaultsOf params X.env = ([], []))
    (bd : ∀ (q : Str) (cl : List (Str × Addr)) (pm cv ctv : Value), bindArgs (PySem.W.kla_fn "<lambda>" q params body scope cl pm cv ctv) ⟨[], []⟩ = pure [])
    (hbody : ∀ (A : Around) (outer : List Env) (s : Shared) (H : Hp) (E : XK) (f c' : Addr), RG k (A.deeper (lamEnv X scope s.heap.objs.size f c')) → PE (lamCx X A outer s H E scope f c') body (t E))
    (hdb : (x == ("__debug__" : Str)) = false := by decide) (hd : (a == ("__debug__" : Str)) = false := by decide) (hc : (a == ("__classdict__" : Str)) = false := by decide) :
    PE X (.Call (.Name x p) [.Lambda params body scope lpos] [] pos) (tLam T TT t) := by
  refine ⟨fun pins s σ H Q I hh => ?_⟩
  obtain ⟨hT, h⟩ := hh
  have kp := F.kp
  obtain ⟨_, _, _, _, _, _, _, cdv, _, _, rfl, lk, hcd, _, _⟩ := F.ex
  refine wpAny_Call_Name_kw (ld_glob I hg hm (PySem.W.callWith_K (h₀ := X.base) I.ok.mod.kin kp ?_ (by rfl) (by rfl)) hdb)
  show wpAny _ _ (spliced ((false, eval (.Lambda params body scope lpos) X.env) :: backTo pos (starEach [] X.env))) _ _ s
  refine Calls.spliced_cons (lam_make2 I TB hcode mT uT hT df (L.has I.ok) fun f c' pm' ctv H1 s' I1 eN T1 o1 o2 o3 o4 => Calls.spliced_nil ⟨I1.kIn, ?_⟩)
  refine wpAny_call (codeAny_mono (run_ofS (CX := CX0) (N := Ng) (ps := [a]) (us := [.ref f]) (vs := [.ref f]) (H := H1) (Q := Q) (E := E0) lk hcd S hr.r I1.env0 (hb s' [.ref f] I1.kIn rfl) (.cons rfl .nil) rfl fun _ => ?_) fun y s2 hq => ?_)
  · exact hG cdv f c' s' H1 Q (fun E G R => t E σ G R) (fun W pn xe E p1 p2 tk hW => pe_actG (i := 0) I1 L o1 o2 o3 (bd _ _ _ _ _) tk hW (hr.deeper _) (fun s1 H2 hr2 => hbody _ _ s1 H2 E f c' hr2) n0 va hd hc) o4 (hr.deeper _) (h H1 eN T1)
  · match y, hq with
    | .error e, hq => exact hq.elim
    | .ok (.ret u), hq => exact I1.after hq
end
end My

set_option Elab.async false
set_option linter.all false
set_option maxRecDepth 100000
set_option maxHeartbeats 4000000
/-! LayP: the law's end where defs make lambdas: tables of code objects are tracked -/
namespace My
open PySem PySem.Spec PyProof.Rows L2 LamX
/-- a code object at p.1 with its empty table at p.2, outside of K -/
structure Tbl0 (K : PySem.W.Frag) (h : Heap) (p : Addr × Addr) : Prop where
  code : PySem.W.CodeHd h p.1 p.2
  tab : h.get? p.2 = some { cls := .none, data := .fields #[] }
  out : K.lookup p.2 = none
/-- what is tracked at the start: the script, perhaps, and the tables -/
structure Start (cs : List (Addr × Addr)) (H : Hp) (a : Addr) : Prop where
  tabs : ∀ p ∈ cs, H p.2 = some (.tbl #[])
  only : ∀ b, H b = none ∨ (∃ p ∈ cs, b = p.2) ∨ (b = a ∧ ∃ o xs, H b = some (.frz o (.lst xs)))
section
variable {P : Program} {w : World} {K : PySem.W.Frag} {mg mb : Str → Option Value} {k : Nat} {fa a : Addr} {fd : FuncData} {x : Str} {sp : Sp} {t : Shared} {vs : List Value} {ns : List Int} {H : Hp} {cs : List (Addr × Addr)}
theorem law_atT (KX : K.In t.heap) (hns : t.heap.Ns mainGlobals mg) (hb : t.heap.Ns builtinsNs mb) (hbb : ∀ x : Str, x ≠ "__name__" → mb x = bootBuiltins x) (hlim : t.heap.NoLimit) (hg : t.gens = #[])
    (hbm : ∃ (bm : Addr) (ob : Obj), mg "__builtins__" = some (.ref bm) ∧ bm ≠ builtinsNs ∧ t.heap.get? bm = some ob ∧ ob.cls = .type "module" ∧ ob.dict = some builtinsNs ∧ ob.data = .plain)
    (T0 : ∀ p ∈ cs, Tbl0 K t.heap p) (ha : t.heap.get? a = some { cls := .type "list", data := .seq vs.toArray }) (hr : RG k callerA)
    (F : ∀ base : Heap, K.In base → base.Ns mainGlobals mg → (∀ p ∈ cs, TabB base mg p.1 p.2) → FnG P w K mg base CX0 k fa fd [x] sp) (hbind : ∀ (s : Shared) (u : Value), BindsTo s fd ⟨[u], []⟩ [(x, u)])
    (hsp : sp [.ref a] H (fun v _ => v = .bl true) E0) (hO : Start cs H a) (hok : HOk P w H t.heap) (hK : H a ≠ none → K.lookup a = none) :
    codeAny (model P w) callerA (.call (.ref fa) ⟨[.ref a], []⟩) (fun r s' => r = .ok (.ret (.bool true)) ∧ OldK t.heap s'.heap ∧ s'.os = t.os ∧ AllBare s'.gens) t := by
  -- what is no list and no table is not tracked
  have off : ∀ {b : Addr} {o : Obj}, t.heap.get? b = some o → (∀ ws n, o.data ≠ .seq ws n) → o.data ≠ .fields #[] → H b = none := fun {b o} e n1 n2 => by
    rcases hO.only b with z | ⟨p, hp, rfl⟩ | ⟨rfl, _⟩
    · exact z
    · rw [(T0 p hp).tab] at e
      cases e
      exact absurd rfl n2
    · rw [ha] at e
      cases e
      exact absurd rfl (n1 _ _)
  have kb : K.In (hidT t.heap H) := fun b o e => hidT_get (KX b o e) (by
    rcases hO.only b with z | ⟨p, hp, rfl⟩ | ⟨rfl, o2, xs, z⟩
    · exact z
    · rw [(T0 p hp).out] at e
      cases e
    · rw [hK (by rw [z]; simp)] at e
      cases e)
  have nsK : ∀ {b : Addr} {m : Str → Option Value}, t.heap.Ns b m → (hidT t.heap H).Ns b m := fun {b m} ⟨o, es, ep, e, d, r⟩ => by
    have n1 : ∀ ws n, o.data ≠ .seq ws n := fun ws n z => by
      rw [d] at z
      cases z
    have n2 : o.data ≠ .fields #[] := fun z => by
      rw [d] at z
      cases z
    exact ⟨o, es, ep, hidT_get e (off e n1 n2), d, r⟩
  have hM : Mod K mg (hidT t.heap H) := ⟨kb, nsK hns, ⟨mb, nsK hb, hbb⟩, let ⟨mc, h1, h2⟩ := hlim; ⟨mc, nsK h1, h2⟩⟩
  have TB : ∀ p ∈ cs, TabB (hidT t.heap H) mg p.1 p.2 := fun p hp => by
    obtain ⟨C, tb, _⟩ := T0 p hp
    refine ⟨?_, ?_, fun z => ?_⟩
    · obtain ⟨o, us, f1, f2, f3, f4, f5, f6, f7, e1, r1, r2, r3, r⟩ := C
      refine ⟨o, us, f1, f2, f3, f4, f5, f6, f7, hidT_get e1 (off e1 (fun ws n z => ?_) fun z => ?_), r1, r2, r3, r⟩
      · rw [r2] at z
        cases z
      · rw [r2] at z
        cases z
        cases r3
    · obtain ⟨bm, ob, b1, b2, b3, b4, b5, b6⟩ := hbm
      have n1 : ∀ ws n, ob.data ≠ .seq ws n := fun ws n z => by
        rw [b6] at z
        cases z
      have n2 : ob.data ≠ .fields #[] := fun z => by
        rw [b6] at z
        cases z
      refine ⟨bm, ob, b1, b2, fun q => ?_, fun q => ?_, hidT_get b3 (off b3 n1 n2), b4, b5, b6⟩
      · obtain ⟨o, es, ep, e, d, _⟩ := hns
        rw [q, e] at b3
        cases b3
        rw [d] at b6
        cases b6
      · rw [q, tb] at b3
        cases b3
        cases b6
    · obtain ⟨o, es, ep, e, d, _⟩ := hns
      rw [z, tb] at e
      cases e
      cases d
  have e0 : Env0 P w K mg (hidT t.heap H) callerA [] t H := ⟨rfl, hM, fun b o e => of_hidT e, Nat.le_of_eq (hidT_size _ _), trivial, fun b z => (List.not_mem_nil (a := b) z).elim, hok, .of_eq hg⟩
  refine codeAny_mono ((F _ kb (nsK hns) TB).run callerA [] t H ⟨[.ref a], []⟩ [.ref a] [.ref a] _ _ hr e0 (hbind t (.ref a)) (.cons rfl .nil) hsp) fun y s' h => ?_
  match y, h with
  | .error e, h => exact h.elim
  | .ok (.ret u), h =>
    obtain ⟨v, H', os, bare, un, hok', r', q⟩ := h
    have q2 : v = .bl true := q
    subst q2
    obtain rfl : u = Value.bool true := r'
    have grown : ∀ p ∈ cs, ∃ more : Array Value, s'.heap.get? p.2 = some { cls := .none, data := .fields more } := fun p hp => by
      obtain ⟨more, z⟩ := un.tbls p.2 #[] (hO.tabs p hp)
      exact ⟨_, hok' p.2 _ z⟩
    have stays : ∀ b o, t.heap.get? b = some o → (∃ p ∈ cs, b = p.2) ∨ s'.heap.get? b = some o := fun b o e => by
      rcases hO.only b with z | z | ⟨_, ob, xs, z⟩
      · exact .inr (un.keep b o e z (fun z => (List.not_mem_nil (a := b) z).elim) (by simp))
      · exact .inl z
      · obtain ⟨e1, _⟩ := hok b _ z
        obtain ⟨e2, _⟩ := hok' b _ (un.frzs b ob _ z)
        rw [e] at e1
        cases e1
        exact .inr e2
    refine ⟨rfl, ⟨fun b o e => ?_, fun b o e => ?_⟩, os, bare⟩
    · rcases stays b o e with ⟨p, hp, rfl⟩ | z
      · obtain ⟨more, hm⟩ := grown p hp
        rw [(T0 p hp).tab] at e
        cases e
        exact .inr (.inl ⟨((T0 p hp).code.tab (T0 p hp).tab).isCodeTable, rfl, #[], more, rfl, by rw [Array.empty_append]; exact hm⟩)
      · exact .inl z
    · rcases stays b o e with ⟨p, hp, rfl⟩ | z
      · obtain ⟨more, hm⟩ := grown p hp
        exact ⟨_, hm⟩
      · exact ⟨o, z⟩
end
end My

set_option Elab.async false
set_option linter.all false
set_option maxRecDepth 100000
set_option maxHeartbeats 4000000
/-! LayQ: the hook and the law's end where some defs' tables of code objects are tracked; repr of a list that holds a dict -/
namespace Hk
open PySem PySem.Spec PyProof.Rows L2 He
/-- the object at sysModules is a dict -/
def smB (K : PySem.W.Frag) : Bool := match K.lookup sysModules with
  | some ⟨.type c, _, _, _⟩ => decide (c = "dict")
  | _ => false
structure SaysF (fa : List Fa) (fn : List DefE) (tf : List Defn) (ex : PySem.W.Frag → Bool) (h : Heap) (K : PySem.W.Frag) : Prop where
  c : SaysE fa fn ex K
  sm : smB K = true
  hd : ∀ p ∈ tf, PySem.W.codeHdIn K (cT K p).1 (cT K p).2 = true
  out : ∀ p ∈ tf, K.lookup (cT K p).2 = none
  empty : ∀ p ∈ tf, h.get? (cT K p).2 = some { cls := .none, data := .fields #[] }
def frQ (n : Nat) (g : Addr → Option Obj) : PySem.W.Frag := frT g (asD g n ++ [cStatics, sysModules])
def obsFG (n : Nat) (fa : List Fa) (fn : List DefE) (tf : List Defn) (ex : PySem.W.Frag → Bool) (g : Addr → Option Obj) : Bool × AlE := (smB (frQ n g) && tabsB g tf (frQ n g), obsE fa fn ex (frQ n g))
theorem saysF_of {n : Nat} {fa : List Fa} {fn : List DefE} {tf : List Defn} {ex : PySem.W.Frag → Bool} {h : Heap} (e : obsFG n fa fn tf ex h.get? = (true, valE fn)) : SaysF fa fn tf ex h (frQ n h.get?) := by
  have e1 : (smB (frQ n h.get?) && tabsB h.get? tf (frQ n h.get?)) = true := congrArg (fun z : Bool × AlE => z.1) e
  have e2 : obsE fa fn ex (frQ n h.get?) = valE fn := congrArg (fun z : Bool × AlE => z.2) e
  obtain ⟨h1, h2⟩ := ba e1
  have key : ∀ p ∈ tf, PySem.W.codeHdIn (frQ n h.get?) (cT (frQ n h.get?) p).1 (cT (frQ n h.get?) p).2 = true ∧ ∃ o, h.get? (cT (frQ n h.get?) p).2 = some o ∧ emptyTab o = true := fun p hp => by
    obtain ⟨h3, h4⟩ := ba (List.all_eq_true.mp h2 p hp)
    refine ⟨h3, ?_⟩
    cases q : h.get? (cT (frQ n h.get?) p).2 with
    | none =>
      rw [q] at h4
      cases h4
    | some o =>
      rw [q] at h4
      exact ⟨o, rfl, h4⟩
  exact ⟨e2, h1, fun p hp => (key p hp).1, fun p hp => by
    obtain ⟨_, o, q, z⟩ := key p hp
    exact frT_none q z, fun p hp => by
    obtain ⟨_, o, q, z⟩ := key p hp
    rw [q, emptyTab_eq z]⟩
def hookF (n : Nat) (fa : List Fa) (fn : List DefE) (tf : List Defn) (ex : PySem.W.Frag → Bool) : PySem.W.Hook where
  α := Bool × AlE
  obs := fun s => obsFG n fa fn tf ex s.heap.get?
  val := fun _ => (true, valE fn)
  says := fun _ h => ∃ K : PySem.W.Frag, K.In h ∧ SaysF fa fn tf ex h K
  of := fun _ _ e => ⟨_, frT_in, saysF_of e⟩
  keeps := fun _ _ _ ⟨K, hK, c⟩ k => ⟨K, PySem.W.Frag.In.keeps hK k, ⟨c.c, c.sm, c.hd, c.out, fun p hp => k _ _ (c.empty p hp)⟩⟩
theorem obsFG_eq {n : Nat} {fa : List Fa} {fn : List DefE} {tf : List Defn} {ex : PySem.W.Frag → Bool} {g : Addr → Option Obj} {s : Shared} (h : ∀ a, g a = s.heap.get? a) : obsFG n fa fn tf ex g = (hookF n fa fn tf ex).obs s := by
  have e : g = s.heap.get? := funext h
  rw [e] <;> rfl
/-- the code objects and tables of these defs -/
def cTs (K : PySem.W.Frag) (tf : List Defn) : List (Addr × Addr) := tf.map fun p => cT K p
theorem tbl0_of {fa : List Fa} {fn : List DefE} {tf : List Defn} {ex : PySem.W.Frag → Bool} {h : Heap} {K : PySem.W.Frag} (X : K.In h) (c : SaysF fa fn tf ex h K) : ∀ p ∈ cTs K tf, My.Tbl0 K h p := fun p hp => by
  obtain ⟨q, hq, rfl⟩ := List.mem_map.mp hp
  exact ⟨PySem.W.codeHd_of_K X (c.hd q hq), c.empty q hq, c.out q hq⟩
end Hk
namespace My
open PySem PySem.Spec PyProof.Rows L2 He LamX
section
variable {P : Program} {w : World} {K : PySem.W.Frag} {mg : Str → Option Value} {base : Heap} {k : Nat} {x qual : Str} {params : Arguments} {body : List Stmt} {scope : Scope} {dvs : List V} {kws : List (Str × V)} {fd : FuncData} {N ps : List Str} {sp : Sp} {CX : CXT}
/-- fnG, where the body knows its own code object -/
theorem fnGc (F : FunD K x qual params body scope dvs kws (ga K x) fd) (S : FnScope N ps scope) (len : ∀ vs H Q E, sp vs H Q E → vs.length = ps.length)
    (hbody : ∀ (cdv : Value) (A : Around) (outer : List Env) (s : Shared) (H : Hp) (vs : List V) (Q : VK) (E : XK), cdv = .ref (codeOf K (x, none)) → RG k (A.deeper (envOfC qual scope s.heap.objs.size (ga K x) cdv)) → sp vs H Q E →
      ∃ t, PSs (cxOf CX P w K mg base N qual scope (ga K x) cdv A outer s H E) body t ∧ t { nx := fun _ H' => Q .non H', rt := Q } (start N vs) H) : FnG P w K mg base CX (k + 1) (ga K x) fd ps sp := by
  obtain ⟨oc, od, dV, kV, doc, pm, an, cdv, ct, osl, rfl, lk, hcd, _, _⟩ := F.ex
  refine ⟨len, fun A outer s H args us vs Q E hr e0 hb r hsp => ?_⟩
  have old := fun b o e => (e0.bs b o e).1
  have KX : K.In s.heap := e0.mod.kin.keeps old
  have hc : cdv = .ref (codeOf K (x, none)) := by
    obtain ⟨c, rfl⟩ := codeIn_ref hcd
    rw [codeOf_eq (p := (x, none)) lk rfl]
  refine codeAny_call_function hr.r.depth (KX _ _ lk) rfl S.co S.gen rfl (PySem.W.codeRec_of KX hcd) (hb _ _ _ _ ?_)
  refine wpAny_newFunctionEnv_cells S.kind (fun p hy => ?_) fun env he s1 z => ?_
  · obtain ⟨n, v⟩ := p
    exact (S.par n (List.of_mem_zip hy).1).elim (fun q => .inl q) fun q => .inr ⟨q, PySem.W.cellsFrom_some _ _ _ (.inl q)⟩
  subst he
  refine ⟨(e0.mod.nolimit.keeps old).keeps z.toInCall.keep, codeAny_func ?_⟩
  obtain ⟨t, ht, hq⟩ := hbody cdv A outer s H vs Q E hc (hr.deeper _) hsp
  refine wpAny_mono (ht.run [] s1 (start N vs) H _ (inv_start S hr.r.hd e0 (len _ _ _ _ hsp) r z) hq) (fun fl s' hs => ?_) fun _ _ hs => hs
  cases fl with
  | ret u => exact let ⟨v, _, H', J, rv, q⟩ := hs; ⟨v, H', J.os, J.bare, J.base, J.hok, rv, q⟩
  | next => exact let ⟨_, H', J, q⟩ := hs; ⟨.non, H', J.os, J.bare, J.base, J.hok, rfl, q⟩
  | brk => exact let ⟨_, _, _, q⟩ := hs; q.elim
  | cont => exact let ⟨_, _, _, q⟩ := hs; q.elim
end
/-- a law of ints whose defs make lambdas -/
theorem law_gT {P : Program} {w : World} {K : PySem.W.Frag} {mg mb : Str → Option Value} {k : Nat} {fa a : Addr} {fd : FuncData} {x : Str} {sp : Sp} {t : Shared} {vs : List Value} {ns : List Int} {cs : List (Addr × Addr)}
    (KX : K.In t.heap) (hns : t.heap.Ns mainGlobals mg) (hb : t.heap.Ns builtinsNs mb) (hbb : ∀ x : Str, x ≠ "__name__" → mb x = bootBuiltins x) (hlim : t.heap.NoLimit) (hg : t.gens = #[])
    (hbm : ∃ (bm : Addr) (ob : Obj), mg "__builtins__" = some (.ref bm) ∧ bm ≠ builtinsNs ∧ t.heap.get? bm = some ob ∧ ob.cls = .type "module" ∧ ob.dict = some builtinsNs ∧ ob.data = .plain)
    (T0 : ∀ p ∈ cs, Tbl0 K t.heap p) (ha : t.heap.get? a = some { cls := .type "list", data := .seq vs.toArray }) (hi : IntsAre vs ns) (hl : ns.length ≤ sizeLine) (hr : RG k callerA)
    (F : ∀ base : Heap, K.In base → base.Ns mainGlobals mg → (∀ p ∈ cs, TabB base mg p.1 p.2) → FnG P w K mg base CX0 k fa fd [x] sp) (hbind : ∀ (s : Shared) (u : Value), BindsTo s fd ⟨[u], []⟩ [(x, u)])
    (hsp : ∀ H : Hp, (∀ p ∈ cs, H p.2 = some (.tbl #[])) → SqL K H a (ns.map V.int) → sp [.ref a] H (fun v _ => v = .bl true) E0) :
    codeAny (model P w) callerA (.call (.ref fa) ⟨[.ref a], []⟩) (fun r s' => r = .ok (.ret (.bool true)) ∧ OldK t.heap s'.heap ∧ s'.os = t.os ∧ AllBare s'.gens) t := by
  have rv := vals_ints hi
  have nT : ∀ p ∈ cs, p.2 ≠ a := fun p hp z => by
    have e := (T0 p hp).tab
    rw [z, ha] at e
    cases e
  let tb : Hp := fun b => if b ∈ cs.map (·.2) then some (.tbl #[]) else none
  have tb1 : ∀ p ∈ cs, tb p.2 = some (.tbl #[]) := fun p hp => if_pos (List.mem_map.mpr ⟨p, hp, rfl⟩)
  have tb2 : ∀ b u, tb b = some u → (∃ p ∈ cs, b = p.2) ∧ u = .tbl #[] := fun b u e => by
    by_cases hm : b ∈ cs.map (·.2)
    · have e2 := (if_pos hm).symm.trans e
      cases e2
      obtain ⟨p, hp, z⟩ := List.mem_map.mp hm
      exact ⟨⟨p, hp, z.symm⟩, rfl⟩
    · have e2 := (if_neg hm).symm.trans e
      cases e2
  have tbok : ∀ b u, tb b = some u → ∀ H : Hp, ObjOk P w H t.heap b u := fun b u e H => by
    obtain ⟨⟨p, hp, rfl⟩, rfl⟩ := tb2 b u e
    exact (T0 p hp).tab
  have tba : tb a = none := by
    cases e : tb a with
    | none => rfl
    | some u =>
      obtain ⟨⟨p, hp, z⟩, _⟩ := tb2 a u e
      exact absurd z.symm (nT p hp)
  cases hk : K.lookup a with
  | some o =>
    have e := KX a o hk
    rw [ha] at e
    cases e
    refine law_atT (H := tb) (vs := vs) KX hns hb hbb hlim hg hbm T0 ha hr F hbind (hsp tb tb1 (.inr ⟨_, vs.toArray, _, hk, rfl, rfl, rfl, by rw [List.size_toArray, hi.length]; exact hl, by simpa using rv⟩)) ⟨tb1, fun b => ?_⟩ (fun b u z => tbok b u z _) (fun z => absurd tba z)
    cases e : tb b with
    | none => exact .inl rfl
    | some u => exact .inr (.inl (tb2 b u e).1)
  | none =>
    let ob : Obj := { cls := .type "list", data := .seq vs.toArray }
    let H : Hp := fun b => if b = a then some (.frz ob (.lst (ns.map V.int))) else tb b
    have Ha : H a = some (.frz ob (.lst (ns.map V.int))) := if_pos rfl
    have Hn : ∀ {b}, b ≠ a → H b = tb b := fun {b} z => if_neg z
    have H1 : ∀ p ∈ cs, H p.2 = some (.tbl #[]) := fun p hp => (Hn (nT p hp)).trans (tb1 p hp)
    refine law_atT (H := H) (vs := vs) KX hns hb hbb hlim hg hbm T0 ha hr F hbind (hsp H H1 (.inl (.inr ⟨ob, Ha⟩))) ⟨H1, fun b => ?_⟩ (fun b u z => ?_) fun _ => hk
    · by_cases n : b = a
      · subst n
        exact .inr (.inr ⟨rfl, _, _, Ha⟩)
      · cases e : tb b with
        | none => exact .inl ((Hn n).trans e)
        | some u => exact .inr (.inl (tb2 b u e).1)
    · by_cases n : b = a
      · subst n
        rw [Ha] at z
        cases z
        exact ⟨ha, by rw [List.length_map]; exact hl, vs, _, rv, ha⟩
      · rw [Hn n] at z
        exact tbok b u z _
theorem walk_gT {l : PySem.W.OpenLaw} {n k : Nat} {q : Program} {loose : List Str} {XP : (Str → Option Value) → Heap → Prop} {YP : World → Heap → Prop} {d : DefRec} {x : Str}
    (hn : l.most = some n) (hn2 : n ≤ sizeLine) (hdf : d.params.defaults = []) (hr : RG k callerA)
    (F : ∀ (w : World) (mg : Str → Option Value) (fa : Addr) (h : Heap), YP w h → h.Ns mainGlobals mg → mg d.name = some (.ref fa) →
      ∃ (K : PySem.W.Frag) (fd : FuncData) (sp : Sp) (cs : List (Addr × Addr)), K.In h ∧ (∀ p ∈ cs, Tbl0 K h p) ∧ (∀ (s : Shared) (u : Value), BindsTo s fd ⟨[u], []⟩ [(x, u)]) ∧
        (∀ (H : Hp) (a : Addr) (ns : List Int), ns.length ≤ n → (∀ p ∈ cs, H p.2 = some (.tbl #[])) → SqL K H a (ns.map V.int) → sp [.ref a] H (fun v _ => v = .bl true) E0) ∧
        ∀ base : Heap, K.In base → base.Ns mainGlobals mg → (∀ p ∈ cs, TabB base mg p.1 p.2) → FnG l.prog w K mg base CX0 k fa fd [x] sp) :
    PySem.W.WalkO q loose XP YP l.row.toRowW d [] (fun f vs => PySem.call f vs) := by
  refine Att.attach_call hn hdf fun w s₀ t mg mb fa o pm cd doc a vs ns G Y ho hd hcd hmg hobj hints hlen hg => ?_
  obtain ⟨K, fd, sp, cs, KX, T0, hb, hsp, hF⟩ := F w mg fa _ Y G.T.g hmg
  exact law_gT KX G.T.g G.T.b G.T.builtins G.T.nolimit hg G.T.bmain T0 hobj hints (Nat.le_trans hlen hn2) hr hF hb fun H hH hS => hsp H a ns hlen hH hS
end My

set_option Elab.async false
set_option linter.all false
set_option maxRecDepth 100000
set_option maxHeartbeats 4000000
/-! LayR: repr of a pair of a text and a dict; what stays while lambdas are made -/
namespace My
open PySem PySem.Spec PyProof.Rows L2 LamX
/-! ### what stays -/
section
variable {K : PySem.W.Frag} {H H' : Hp}
theorem rdE {a : Addr} {u : HO} (s : ExtN H H') (h : Rd H a u) (n : ∀ ps, u ≠ .tbl ps) : Rd H' a u := h.elim (fun e => .inl (s _ _ e n)) fun ⟨o, e⟩ => .inr ⟨o, s _ _ e fun _ z => nomatch z⟩
theorem sqE {a : Addr} {xs : List V} (h : SqL K H a xs) (s : ExtN H H') : SqL K H' a xs := h.elim (fun e => .inl (rdE s e fun _ z => nomatch z)) .inr
theorem tupE {a : Addr} {xs : List V} (h : SqT K H a xs) (s : ExtN H H') : SqT K H' a xs := h.elim (fun e => .inl (rdE s e fun _ z => nomatch z)) .inr
theorem lstE {a : Addr} {xs : List V} (h : H a = some (.lst xs)) (s : ExtN H H') : H' a = some (.lst xs) := s _ _ h fun _ z => nomatch z
theorem tpE {a : Addr} {xs : List V} (h : H a = some (.tup xs)) (s : ExtN H H') : H' a = some (.tup xs) := s _ _ h fun _ z => nomatch z
theorem dkE {a : Addr} {ps : List (Key × V)} (h : H a = some (.dK ps)) (s : ExtN H H') : H' a = some (.dK ps) := s _ _ h fun _ z => nomatch z
mutual
theorem dpE (s : ExtN H H') : ∀ {d : PyData} {x : V}, Dp K H x d → Dp K H' x d
  | _, _, .non => .non
  | _, _, .bl b => .bl b
  | _, _, .int i => .int i
  | _, _, .str x => .str x
  | _, _, .lst h k => .lst (sqE h s) (dpAllE s k)
  | _, _, .tup h k => .tup (tupE h s) (dpAllE s k)
theorem dpAllE (s : ExtN H H') : ∀ {ds : List PyData} {xs : List V}, DpAll K H xs ds → DpAll K H' xs ds
  | _, _, .nil => .nil
  | _, _, .cons h k => .cons (dpE s h) (dpAllE s k)
end
theorem dptE {x : V} {d : PyData} (s : ExtN H H') (h : DpT K H x d) : DpT K H' x d := by
  cases h with
  | pl k n => exact .pl (dpE s k) n
  | dct e => exact .dct (dkE e s)
theorem kdE {x : V} {T : String} (k : Kd H x T) (s : ExtN H H') : Kd H' x T := by
  cases k with
  | bl b => exact .bl b
  | non => exact .non
  | str x => exact .str x
  | lst e => exact .lst (lstE e s)
  | tup e => exact .tup (tpE e s)
  | dct e => exact .dct (dkE e s)
theorem thgE {x : V} {d : PyData} (h : Thg K H x d) (s : ExtN H H') : Thg K H' x d := ⟨dptE s h.1, h.2⟩
end
/-! ### repr of a pair of a text and a thing -/
inductive DpU (K : PySem.W.Frag) (H : Hp) : V → PyData → Prop
  | one {x : V} {d : PyData} (h : DpT K H x d) : DpU K H x d
  | two {a : Addr} {s : Str} {x : V} {d : PyData} (h : SqL K H a [.str s, x]) (k : DpT K H x d) : DpU K H (.ref a) (.list [.str s, d])
section
variable {X : Cx} {pins : List (Addr × Obj)} {σ : L2.St} {H : Hp} {s : Shared}
def rReprU (K : PySem.W.Frag) : List V → Hp → VK → Prop := fun xs H Q => ∃ x d, xs = [x] ∧ DpU K H x d ∧ d.showable = true ∧ d.depth ≤ 50 ∧ d.shown.length ≤ sizeLine ∧ Q (.str d.shown) H
theorem call_reprU {j : Nat} (sm : Hk.smB X.K = true) (hr : RG j X.A) : CallR X (.builtin "repr") (rReprU X.K) := by
  intro pins s σ H xs us Q I r h
  obtain ⟨x, d, rfl, hd, h1, h3, h4, q⟩ := h
  cases hd with
  | one h => exact call_reprT hr pins s σ H _ us Q I r ⟨_, _, rfl, h, h1, h3, h4, q⟩
  | @two a y x d h k =>
    cases k with
    | pl k n => exact call_reprT hr pins s σ H _ us Q I r ⟨_, _, rfl, .pl (.lst h (.cons (.str _) (.cons k .nil))) (by simp only [PyData.hasDict, PyData.hasDictAll, n, Bool.or_false, Bool.false_or]), h1, h3, h4, q⟩
    | @dct c ps e =>
      obtain ⟨u, rfl, rx⟩ := vals1 r
      obtain rfl : u = Value.ref a := rx
      obtain ⟨its, rv, ⟨o, n, ho, hc, _, hd⟩, _⟩ := I.list h
      obtain ⟨u1, u2, ei, r1, r2⟩ := vals2 rv
      obtain ⟨t, rfl⟩ := r1
      obtain rfl : u2 = Value.ref c := r2
      obtain ⟨R2, n2⟩ := dict_reads I e
      have na : a ≠ sysModules := fun z => by
        have sm2 := sm
        unfold Hk.smB at sm2
        cases lk : X.K.lookup sysModules with
        | none =>
          rw [lk] at sm2
          cases sm2
        | some o2 =>
          rw [lk] at sm2
          have e2 := I.kIn _ _ lk
          rw [← z, ho] at e2
          obtain rfl := Option.some.inj e2
          obtain ⟨oc, od, dt, sl⟩ := o
          obtain rfl : oc = .type "list" := hc
          exact absurd (show decide (("list" : String) = "dict") = true from sm2) (by decide)
      have R : Reads s.heap (.ref a) (.list [.str y, .dict (ddI ps)]) (a :: ([] ++ ([c] ++ []))) := Reads.list ho hc hd (by
        have e3 : its = [Value.str y t, Value.ref c] := ei
        rw [e3]
        exact ReadsAll.cons (.str y t) (ReadsAll.cons R2 .nil))
      refine repr_of_reads' R h1 (fun _ m => ?_) hr.g (by have := hr.units; omega) (fun _ _ z => z) (fun h' u tk hk => ?_) h4
      · rcases List.mem_cons.mp m with z | z
        · exact na z.symm
        · exact n2 (List.mem_singleton.mp z).symm
      · exact ⟨.str _, H, I.kept (t' := tk) hk, ⟨u, rfl⟩, q⟩
theorem call_reprUK {K : PySem.W.Frag} {j : Nat} (h : X.K = K) (sm : Hk.smB K = true) (hr : RG j X.A) : CallR X (.builtin "repr") (rReprU K) := by
  subst h
  exact call_reprU sm hr
end
/-- a pair of a text and a thing, whose repr may be asked -/
theorem f_pair {K : PySem.W.Frag} {H : Hp} {a : Addr} {s : Str} {x : V} {d : PyData} {Q : VK} (h : SqL K H a [.str s, x]) (k : DpT K H x d) (h1 : (PyData.list [.str s, d]).showable = true) (h2 : (PyData.list [.str s, d]).depth ≤ 50) (h3 : (PyData.list [.str s, d]).shown.length ≤ sizeLine) (q : Q (.str (PyData.list [.str s, d]).shown) H) : rReprU K [.ref a] H Q := ⟨_, _, rfl, .two h k, h1, h2, h3, q⟩
end My

set_option Elab.async false
set_option linter.all false
set_option maxRecDepth 100000
set_option maxHeartbeats 4000000
/-! LayS: tuple * int, also for 0 and 1; names of lambdas -/
namespace My
open PySem PySem.Spec PyProof.Rows L2 LamX
theorem tuple_mul1 (l : Addr) (items : Array Value) (n : Nat) (dd : Option Addr) (sl : Array (Option Value)) (u : Tok) :
    Meets (Builtin.«tuple.__mul__» ⟨[.ref l, .int 1 u], []⟩) (fun _ R s => s.heap.get? l = some { cls := .type "tuple", dict := dd, data := .seq items n, slots := sl } ∧ R (.ok (.ret (Value.ref l))) { s with heap := s.heap, toks := s.toks }) :=
  .of_wp fun prog w A R s h => by
    obtain ⟨hp, g, d, tk, os⟩ := s
    obtain ⟨hl, h⟩ := h
    have f1 := AutoSeq1.idx_int
    have c1 : (items.isEmpty || (1 : Int) == 1) = true := by simp
    wp_walk using wpAny_loadPart' hl
    repeat (first
      | (refine wpAny_ite_false (by decide) ?_; wp_walk using wpAny_loadPart' hl)
      | (refine wpAny_ite_true (by rw [c1]) ?_; wp_walk using wpAny_loadPart' hl))
    exact ⟨_, rfl, h⟩
theorem tuple_mul0 (l : Addr) (items : Array Value) (n : Nat) (dd : Option Addr) (sl : Array (Option Value)) (u : Tok) (hi : items.isEmpty = false) :
    Meets (Builtin.«tuple.__mul__» ⟨[.ref l, .int 0 u], []⟩) (fun _ R s => s.heap.get? l = some { cls := .type "tuple", dict := dd, data := .seq items n, slots := sl } ∧ R (.ok (.ret (Value.ref s.heap.objs.size))) { s with heap := s.heap.push { cls := Value.type "tuple", data := Data.seq #[] }, toks := s.toks }) :=
  .of_wp fun prog w A R s h => by
    obtain ⟨hp, g, d, tk, os⟩ := s
    obtain ⟨hl, h⟩ := h
    have f1 := AutoSeq1.idx_int
    have c1 : (items.isEmpty || (0 : Int) == 1) = false := by rw [hi] <;> rfl
    have c2 : (decide ((0 : Int) ≤ 0) || items.isEmpty) = true := by simp
    wp_walk using wpAny_loadPart' hl
    repeat (first
      | (refine wpAny_ite_false (by decide) ?_; wp_walk using wpAny_loadPart' hl)
      | (refine wpAny_ite_false (decide_eq_false (by rw [c1]; exact Bool.false_ne_true)) ?_; wp_walk using wpAny_loadPart' hl)
      | (refine wpAny_ite_true (by rw [c2]) ?_; wp_walk using wpAny_loadPart' hl))
    exact ⟨_, rfl, h⟩
def rRepTA (K : PySem.W.Frag) : R2 := fun x y H Q => ∃ l k xs, x = .ref l ∧ y = .int k ∧ SqT K H l xs ∧ xs ≠ [] ∧ 0 ≤ k ∧ k ≤ 1000 ∧ xs.length ≤ 1000 ∧ (k = 1 → Q (.ref l) H) ∧ (k ≠ 1 → ∀ p, H p = none → Q (.ref p) (upd H p (.tup (List.replicate k.toNat xs).flatten)))
section
variable {X : Cx}
theorem op_repTA : OpR X (binaryOp .Mult) (rRepTA X.K) := by
  intro pins s σ H x y v u Q I rx ry h
  obtain ⟨l, k, xs, rfl, rfl, hT, hne, h0, h2, hz, q1, q2⟩ := h
  by_cases hk : 2 ≤ k
  · exact op_repT pins s σ H _ _ v u Q I rx ry ⟨l, k, xs, rfl, rfl, hT, hne, hk, h2, hz, q2 (by omega)⟩
  cases rx
  obtain ⟨t, rfl⟩ := ry
  obtain ⟨its, r, ⟨⟨cls, dd, data, sl⟩, ho, hc, n, hd⟩, hs⟩ := I.tuple hT
  simp only at hc hd
  subst hc hd
  have hi : its.toArray.isEmpty = false := by
    cases its with
    | nil =>
      cases r
      exact absurd rfl hne
    | cons a b => rfl
  by_cases k1 : k = 1
  · subst k1
    refine wpAny_binaryOp_repeat_ref (T := "tuple") (U := "int") (by decide) ⟨_, ho, rfl⟩ (fun s' => typeIs_int s' 1 t) noFill_tuple_mul PySem.F.fills_int_mul PySem.F.slot_int_rmul repeat_tuple PySem.F.slot_int_index.lookup
      (call_meets PySem.F.slot_int_rmul (typeIs_int s 1 t) PySem.F.entry_int_rmul (PySem.F.args_int_rmul_2 _ _) (int_rmul_tuple 1 t l its.toArray n dd sl)
        ⟨ho, rfl, ⟨_, ho, rfl⟩, call_meets PySem.F.slot_tuple_mul ⟨_, ho, rfl⟩ PySem.F.entry_tuple_mul (PySem.F.args_tuple_mul_2 _ _) (tuple_mul1 l its.toArray n dd sl t) ⟨ho, ?_⟩⟩)
    exact ⟨.ref l, H, I, rfl, q1 rfl⟩
  · obtain rfl : k = 0 := by omega
    refine wpAny_binaryOp_repeat_ref (T := "tuple") (U := "int") (by decide) ⟨_, ho, rfl⟩ (fun s' => typeIs_int s' 0 t) noFill_tuple_mul PySem.F.fills_int_mul PySem.F.slot_int_rmul repeat_tuple PySem.F.slot_int_index.lookup
      (call_meets PySem.F.slot_int_rmul (typeIs_int s 0 t) PySem.F.entry_int_rmul (PySem.F.args_int_rmul_2 _ _) (int_rmul_tuple 0 t l its.toArray n dd sl)
        ⟨ho, rfl, ⟨_, ho, rfl⟩, call_meets PySem.F.slot_tuple_mul ⟨_, ho, rfl⟩ PySem.F.entry_tuple_mul (PySem.F.args_tuple_mul_2 _ _) (tuple_mul0 l its.toArray n dd sl t hi) ⟨ho, ?_⟩⟩)
    refine ⟨.ref s.heap.objs.size, _, I.laid (t' := s.toks) (o := .tup []) (fun b ob q => Heap.get?_push_of_some _ q) (Nat.le_refl _) ?_, rfl, q2 (by decide) _ (I.hok.fresh (Nat.le_refl _))⟩
    exact ⟨Nat.zero_le _, [], .nil, IsTup.new _ _⟩
theorem op_repTK {K : PySem.W.Frag} (h : X.K = K) : OpR X (binaryOp .Mult) (rRepTA K) := by
  subst h
  exact op_repTA
end
/-! ### a comprehension over a range that also writes the object at p -/
section
variable {K : PySem.W.Frag} {σ : L2.St} {H : Hp} {tb te : TE} {Q : VK} {g : TG} {tt : TT} {vs : List Nat}
theorem lc_rangeB {p : Addr} {lo : Int} {n : Nat} (hp : H p ≠ none) (Pa : Nat → List V → Hp → Prop) (hn : ∀ i acc H, Pa i acc H → acc.length ≤ 1000) (mono : ∀ i acc D H1 H2, D ≠ p → But D H1 H2 → Pa i acc H1 → Pa i acc H2) (h0 : ∀ H', Same H H' → Pa 0 [] H')
    (hs : ∀ i acc H1 (X : VK) (Y : Hp → Prop), i < n → But p H H1 → Pa i acc H1 → (∀ y H4, But p H1 H4 → Pa (i + 1) (acc ++ [y]) H4 → X y H4) → (∀ H3, But p H1 H3 → Pa (i + 1) acc H3 → Y H3) → g (.int (lo + i)) (wipe σ vs) H1 fun σ2 H2 => wipe σ2 vs = wipe σ vs ∧ tt σ2 H2 fun b H3 => if b = true then te σ2 H3 X else Y H3)
    (hd : ∀ D acc H1, H D = none → H1 D = some (.lst acc) → But p H H1 → Pa n acc H1 → Q (.ref D) H1) : LcG (Itr lo n) g tt te vs σ H Q := by
  have ne : ∀ {D}, H D = none → D ≠ p := fun {D} z e => hp (by rw [← e]; exact z)
  refine My.lc_range (fun i D H1 => H D = none ∧ ∃ acc, H1 D = some (.lst acc) ∧ But p H H1 ∧ Pa i acc H1) (fun D hD => ⟨hD, [], upd_same, My.But.new But.rfl hD, h0 _ (My.Same.new (Same.refl H) hD)⟩) ?_ (fun D H1 ⟨hD, acc, h1, s1, q⟩ => hd D acc H1 hD h1 s1 q)
  rintro i D H1 hi ⟨hD, acc, h1, s1, q⟩
  exact hs i acc H1 _ _ hi s1 q (fun y H4 s4 p4 => ⟨acc, s4.at (ne hD) h1, szl (hn _ _ _ q), hD, _, upd_same, My.But.own (s1.trans s4) hD, mono _ _ _ _ _ (ne hD) (My.But.put But.rfl) p4⟩) fun H3 s3 p3 => ⟨hD, acc, s3.at (ne hD) h1, s1.trans s3, p3⟩
end
theorem tabsB {T : List (Addr × Str)} {p : Addr} {xs : List V} {H H' : Hp} (h : LamX.Tabs T H) (hp : H p = some (.lst xs)) (b : But p H H') : LamX.Tabs T H' := fun r hr => by
  obtain ⟨ps, h1, h2, h3⟩ := h r hr
  refine ⟨ps, b _ _ (fun z => ?_) h1, h2, fun pos cv hc => ?_⟩
  · rw [z, hp] at h1
    cases h1
  · obtain ⟨c, e1, e2⟩ := h3 pos cv hc
    refine ⟨c, e1, b _ _ (fun z => ?_) e2⟩
    rw [z, hp] at e2
    unfold CodeO at e2
    cases e2
theorem tabsS {T : List (Addr × Str)} {H H' : Hp} (h : LamX.Tabs T H) (s : Same H H') : LamX.Tabs T H' := h.ext s
/-- all but the object at p is on hand -/
theorem extP {p : Addr} {H H' : Hp} (s : ∀ b o, b ≠ p → H b = some o → (∀ ps, o ≠ .tbl ps) → H' b = some o) : LamX.ExtN (del H p) H' := fun b o e n => by
  by_cases z : b = p
  · subst z
    simp [del] at e
  · rw [del_ne z] at e
    exact s b o z e n
theorem cut_take (xs : List V) (k : Nat) : cutV xs none (some (k : Int)) = xs.take k := by
  unfold cutV
  rw [HT.sIx_nat, HT.sIx_none, List.drop_zero, Nat.sub_zero]
  exact (List.take_eq_take_min ..).symm
theorem cut_drop (xs : List V) (k : Nat) : cutV xs (some (k : Int)) none = xs.drop k := by
  unfold cutV
  rw [HT.sIx_nat, HT.sIx_none]
  rcases Nat.le_total k xs.length with h | h
  · rw [Nat.min_eq_left h]
    exact List.take_of_length_le (by rw [List.length_drop]; omega)
  · rw [Nat.min_eq_right h, List.drop_eq_nil_of_le h, List.drop_eq_nil_of_le (Nat.le_refl _)] <;> simp
/-! ### tuples joined, cut, repeated: the tuple that is there then -/
section
variable {K : PySem.W.Frag} {H : Hp} {Q : VK} {a b : Addr} {xs ys : List V}
theorem f_catT (h1 : H a = some (.tup xs)) (h2 : H b = some (.tup ys)) (hz : xs.length + ys.length ≤ sizeLine) (k : ∀ p H', H' p = some (.tup (xs ++ ys)) → Same H H' → Q (.ref p) H') : rCatA K (.ref a) (.ref b) H Q := by
  refine ⟨a, b, xs, ys, rfl, rfl, SqT.of h1, SqT.of h2, hz, fun e => ?_, fun _ e => ?_, fun _ _ p hp => k p _ upd_same (My.Same.new (Same.refl H) hp)⟩
  · subst e
    exact k b H h2 (Same.refl H)
  · subst e
    exact k a H (by rw [List.append_nil]; exact h1) (Same.refl H)
theorem f_slT {lo hi : Option Int} (h1 : H a = some (.tup xs)) (k : ∀ p H', H' p = some (.tup (cutV xs lo hi)) → Same H H' → Q (.ref p) H') : rSlA K (.ref a) lo hi H Q := by
  refine ⟨a, xs, rfl, SqT.of h1, fun e => ?_, fun _ p hp => k p _ upd_same (My.Same.new (Same.refl H) hp)⟩
  refine k a H ?_ (Same.refl H)
  have : cutV xs lo hi = xs := by
    unfold cutV
    rw [e.1, e.2, List.drop_zero, Nat.sub_zero, List.take_length]
  rw [this]
  exact h1
theorem f_repT {n : Int} (h1 : H a = some (.tup xs)) (h0 : xs ≠ []) (hz : xs.length ≤ 1000) (n0 : 0 ≤ n) (n1 : n ≤ 1000) (k : ∀ p H', H' p = some (.tup (List.replicate n.toNat xs).flatten) → Same H H' → Q (.ref p) H') : rRepTA K (.ref a) (.int n) H Q := by
  refine ⟨a, n, xs, rfl, rfl, SqT.of h1, h0, n0, n1, hz, fun e => ?_, fun _ p hp => k p _ upd_same (My.Same.new (Same.refl H) hp)⟩
  subst e
  refine k a H ?_ (Same.refl H)
  show H a = some (.tup (List.replicate 1 xs).flatten)
  simpa using h1
theorem f_tuple (h1 : H a = some (.lst xs)) (k : ∀ p H', H' p = some (.tup xs) → Same H H' → H p = none → Q (.ref p) H') : (∃ p ys, [V.ref a] = [.ref p] ∧ ((SqL K H p ys ∧ ∀ l, H l = none → Q (.ref l) (upd H l (.tup ys))) ∨ (SqT K H p ys ∧ Q (.ref p) H))) :=
  ⟨a, xs, rfl, .inl ⟨SqL.of h1, fun l hl => k l _ upd_same (My.Same.new (Same.refl H) hl) hl⟩⟩
end
/-- the name of a lambda of the def x -/
def lamN (x : Str) : Str := x ++ ".<locals>." ++ "<lambda>"
/-- the table of the def x, and the name of what is made there -/
def lamT (K : PySem.W.Frag) (x : Str) : List (Addr × Str) := [((He.cT K (x, none)).2, lamN x)]
theorem lam_u {K : PySem.W.Frag} {x : Str} {P : Addr} : ∀ p ∈ lamT K x, p.1 = P → p.2 = lamN x := fun p hp _ => by
  rw [List.mem_singleton.mp hp]
end My

set_option Elab.async false
set_option linter.all false
set_option maxRecDepth 100000
set_option maxHeartbeats 4000000
/-! LayT: more steps; readings that name the heap behind a new object -/
namespace My
open PySem PySem.Spec PyProof.Rows L2
section
variable {K : PySem.W.Frag} {σ : L2.St} {H : Hp} {te t t' : TE} {tA : TA} {Q : VK} {X : Cx} {e : Expr} {es : List Expr} {pos : Pos}
theorem r_lstRg1 (h : te σ H fun x H1 => ∃ n, x = .int n ∧ RgOk 0 n ∧ ∀ q, H1 q = none → Q (.ref q) (upd H1 q (.lst (rgV 0 n)))) : tLstRg (tRg1 te) σ H Q := h
theorem r_tupRg1 (h : te σ H fun x H1 => ∃ n, x = .int n ∧ RgOk 0 n ∧ ∀ q, H1 q = none → Q (.ref q) (upd H1 q (.tup (rgV 0 n)))) : tTupRg (tRg1 te) σ H Q := h
/-! new objects: their heap is named -/
theorem pe_conv (h : PE X e t) (c : ∀ σ H Q, t' σ H Q → t σ H Q) : PE X e t' := ⟨fun pins s σ H Q I q => h.run pins s σ H Q I (c σ H Q q)⟩
/-- a reading of arguments whose end may be weakened -/
def paW (t : TA) : TA := fun σ H Q => ∃ Q0 : List V → Hp → Prop, t σ H Q0 ∧ ∀ vs G, Q0 vs G → Q vs G
theorem pa_weak (h : PA X es tA) : PA X es (paW tA) := ⟨fun pos pins s σ H Q I ⟨Q0, h0, m⟩ => thn (h.run pos pins s σ H Q0 I h0) fun us s1 ⟨vs, H1, I1, r, q⟩ => ⟨vs, H1, I1, r, m _ _ q⟩⟩
/-- what is to be said of a new object o -/
def NewO (H : Hp) (o : HO) (Q : VK) : Prop := ∀ p H', H p = none → H' p = some o → Same H H' → Q (.ref p) H'
theorem NewO.to {o : HO} (h : NewO H o Q) : ∀ p, H p = none → Q (.ref p) (upd H p o) := fun p hp => h p _ hp upd_same (My.Same.new (Same.refl H) hp)
theorem n_new {o : HO} (h : ∀ p H', H p = none → H' p = some o → Same H H' → Q (.ref p) H') : NewO H o Q := h
def tTupN (t : TA) : TE := fun σ H Q => t σ H fun xs H1 => xs.length ≤ sizeLine ∧ NewO H1 (.tup xs) Q
def tLstN (t : TA) : TE := fun σ H Q => t σ H fun xs H1 => xs.length ≤ sizeLine ∧ NewO H1 (.lst xs) Q
def tDNewN : TE := fun _ H Q => NewO H (.dK []) Q
theorem pe_tupN {x1} (h : PA X es tA) : PE X (.Tuple es x1 pos) (tTupN tA) := pe_conv (pe_tup (pa_weak h)) fun σ H Q q => ⟨_, q, fun xs G z => ⟨z.1, z.2.to⟩⟩
theorem pe_lstN (h : PA X es tA) : PE X (.List es pos) (tLstN tA) := pe_conv (pe_lst (pa_weak h)) fun σ H Q q => ⟨_, q, fun xs G z => ⟨z.1, z.2.to⟩⟩
theorem pe_dnewN : PE X (.Dict [] [] pos) tDNewN := pe_conv pe_dnewK fun σ H Q q => q.to
theorem r_tupN (h : tA σ H fun xs H1 => xs.length ≤ sizeLine ∧ NewO H1 (.tup xs) Q) : tTupN tA σ H Q := h
theorem r_lstN (h : tA σ H fun xs H1 => xs.length ≤ sizeLine ∧ NewO H1 (.lst xs) Q) : tLstN tA σ H Q := h
theorem r_dnewN (h : NewO H (.dK []) Q) : tDNewN σ H Q := h
def rListN (K : PySem.W.Frag) : List V → Hp → VK → Prop := fun xs H Q => ∃ p ys, xs = [.ref p] ∧ (SqL K H p ys ∨ SqT K H p ys) ∧ NewO H (.lst ys) Q
def rTupleN (K : PySem.W.Frag) : List V → Hp → VK → Prop := fun xs H Q => ∃ p ys, xs = [.ref p] ∧ ((SqL K H p ys ∧ NewO H (.tup ys) Q) ∨ (SqT K H p ys ∧ Q (.ref p) H))
theorem call_listN (h : X.K = K) : CallR X (.type "list") (rListN K) := fun pins s σ H xs us Q I r ⟨p, ys, e, q, z⟩ => call_listK h pins s σ H xs us Q I r ⟨p, ys, e, q, z.to⟩
theorem call_tupleN (h : X.K = K) : CallR X (.type "tuple") (rTupleN K) := fun pins s σ H xs us Q I r ⟨p, ys, e, z⟩ => call_tupleK h pins s σ H xs us Q I r ⟨p, ys, e, z.elim (fun z => .inl ⟨z.1, z.2.to⟩) .inr⟩
theorem r_listN {p : Addr} {ys : List V} (h : SqL K H p ys ∨ SqT K H p ys) (q : NewO H (.lst ys) Q) : rListN K [.ref p] H Q := ⟨p, ys, rfl, h, q⟩
theorem r_tupleN {p : Addr} {ys : List V} (h : SqL K H p ys) (q : NewO H (.tup ys) Q) : rTupleN K [.ref p] H Q := ⟨p, ys, rfl, .inl ⟨h, q⟩⟩
def rSlLN (K : PySem.W.Frag) : V → Option Int → Option Int → Hp → VK → Prop := fun x lo hi H Q => ∃ a xs, x = .ref a ∧ SqL K H a xs ∧ NewO H (.lst (cutV xs lo hi)) Q
theorem sl_listN (h : X.K = K) : SlR X (rSlLN K) := fun pins s σ H x v vl vu lo hi sl Q I rx hs pl pu ⟨a, xs, e, q, z⟩ => sl_listK h pins s σ H x v vl vu lo hi sl Q I rx hs pl pu ⟨a, xs, e, q, z.to⟩
theorem r_slLN {p : Addr} {xs : List V} {lo hi : Option Int} (h : SqL K H p xs) (q : NewO H (.lst (cutV xs lo hi)) Q) : rSlLN K (.ref p) lo hi H Q := ⟨p, xs, rfl, h, q⟩
def rCatN : R2 := fun x y H Q => ∃ l b xs zs, x = .ref l ∧ y = .ref b ∧ H l = some (.lst xs) ∧ H b = some (.lst zs) ∧ xs.length + zs.length ≤ sizeLine ∧ NewO H (.lst (xs ++ zs)) Q
theorem op_catN : OpR X (binaryOp .Add) rCatN := fun pins s σ H x y v u Q I rx ry ⟨l, b, xs, zs, e1, e2, h1, h2, hz, z⟩ => op_cat pins s σ H x y v u Q I rx ry ⟨l, b, xs, zs, e1, e2, h1, h2, hz, z.to⟩
theorem r_catN {a b : Addr} {xs zs : List V} (h1 : H a = some (.lst xs)) (h2 : H b = some (.lst zs)) (hz : xs.length + zs.length ≤ 1000) (q : NewO H (.lst (xs ++ zs)) Q) : rCatN (.ref a) (.ref b) H Q := ⟨a, b, xs, zs, rfl, rfl, h1, h2, sz hz, q⟩
def rRepN : R2 := fun x y H Q => ∃ l k xs, x = .ref l ∧ y = .int k ∧ H l = some (.lst xs) ∧ -(2 ^ 63) ≤ k ∧ k < 2 ^ 63 ∧ xs.length * k.toNat ≤ sizeLine ∧ NewO H (.lst (List.replicate k.toNat xs).flatten) Q
theorem op_repN : OpR X (binaryOp .Mult) rRepN := fun pins s σ H x y v u Q I rx ry ⟨l, k, xs, e1, e2, h1, h2, h3, hz, z⟩ => op_rep pins s σ H x y v u Q I rx ry ⟨l, k, xs, e1, e2, h1, h2, h3, hz, z.to⟩
theorem r_repN {a : Addr} {k : Int} {xs : List V} (h1 : H a = some (.lst xs)) (h2 : 0 ≤ k) (h3 : xs.length * k.toNat ≤ 1000) (h4 : k ≤ 1000) (q : NewO H (.lst (List.replicate k.toNat xs).flatten) Q) : rRepN (.ref a) (.int k) H Q := ⟨a, k, xs, rfl, rfl, h1, by omega, by omega, sz h3, q⟩
/-! tuples: the one that is there then -/
theorem r_catTN {a b : Addr} {xs ys : List V} (h1 : H a = some (.tup xs)) (h2 : H b = some (.tup ys)) (hz : xs.length + ys.length ≤ 1000) (k : ∀ p H', H' p = some (.tup (xs ++ ys)) → Same H H' → Q (.ref p) H') : rCatA K (.ref a) (.ref b) H Q := f_catT h1 h2 (sz hz) k
/-! draws from a list of three ints that keep a condition -/
def Pu (C : Int → Int → Int → Prop) (H : Hp) (p : Addr) : Prop := ∃ a b c : Int, H p = some (.lst [.int a, .int b, .int c]) ∧ C a b c
variable {C : Int → Int → Int → Prop}
theorem Pu.same {H H' : Hp} {p : Addr} (h : Pu C H p) (s : Same H H') : Pu C H' p := let ⟨a, b, c, e, q⟩ := h; ⟨a, b, c, s _ _ e, q⟩
theorem Pu.ne {p l : Addr} (h : Pu C H p) (n : H l = none) : l ≠ p := let ⟨_, _, _, e, _⟩ := h; (ne_of_none e n).symm
theorem Pu.but {H H' : Hp} {p D : Addr} (h : Pu C H p) (n : D ≠ p) (b : But D H H') : Pu C H' p := let ⟨x, y, z, e, q⟩ := h; ⟨x, y, z, b.at (Ne.symm n) e, q⟩
theorem Pu.nn {p : Addr} (h : Pu C H p) : H p ≠ none := let ⟨_, _, _, e, _⟩ := h; by rw [e]; simp
theorem Pu.neT {p a : Addr} {xs : List V} (h : Pu C H p) (ha : H a = some (.tup xs)) : a ≠ p := let ⟨_, _, _, e, _⟩ := h; fun z => by
  rw [z, e] at ha
  cases ha
theorem Pu.neL {p a : Addr} {xs : List V} (h : Pu C H p) (ha : H a = some (.lst xs)) (n : xs.length ≠ 3) : a ≠ p := let ⟨_, _, _, e, _⟩ := h; fun z => by
  rw [z, e] at ha
  cases ha
  exact n rfl
theorem Pu.neD {p a : Addr} {xs : List (Key × V)} (h : Pu C H p) (ha : H a = some (.dK xs)) : a ≠ p := let ⟨_, _, _, e, _⟩ := h; fun z => by
  rw [z, e] at ha
  cases ha
theorem Pu.neI {p a D dx : Addr} {fs : List (Str × V)} (h : Pu C H p) (ha : H a = some (.ins D dx fs)) : a ≠ p := let ⟨_, _, _, e, _⟩ := h; fun z => by
  rw [z, e] at ha
  cases ha
end
end My

set_option Elab.async false
set_option linter.all false
set_option maxRecDepth 100000
set_option maxHeartbeats 4000000
/-! LayU: reversed ranges in comprehensions, tuples of any kind, truth values compared -/
namespace My
open PySem PySem.Spec PyProof.Rows L2
section
variable {K : PySem.W.Frag} {σ : L2.St} {H : Hp} {te t t' : TE} {tA : TA} {Q : VK} {X : Cx} {g : TG} {tt : TT} {vs : List Nat}
theorem lc_rangeC {lo c : Int} {n : Nat} (Pv : Nat → Addr → Hp → Prop) (h0 : ∀ D, H D = none → Pv 0 D (upd H D (.lst [])))
    (hs : ∀ i D H, i < n → Pv i D H → g (.int (lo + (i : Nat) * c)) (wipe σ vs) H fun σ2 H2 => wipe σ2 vs = wipe σ vs ∧ tt σ2 H2 fun b H3 => if b = true then te σ2 H3 fun y H4 => ∃ acc, H4 D = some (.lst acc) ∧ acc.length < sizeLine ∧ Pv (i + 1) D (upd H4 D (.lst (acc ++ [y]))) else Pv (i + 1) D H3)
    (hd : ∀ D H, Pv n D H → Q (.ref D) H) : LcG (Itc lo c n) g tt te vs σ H Q := by
  intro D hD
  refine ⟨fun i m H => m = n - i ∧ i ≤ n ∧ Pv i D H, ⟨_, rfl, Nat.zero_le _, h0 D hD⟩, ?_⟩
  rintro i m H ⟨rfl, hi, p⟩
  by_cases hlt : i < n
  · refine .inr ⟨hlt, fun H' => Pv (i + 1) D H', fun H' p' => ⟨n - (i + 1), by omega, rfl, hlt, p'⟩, ?_⟩
    rintro x H' ⟨rfl, rfl⟩
    exact hs i D _ hlt p
  · have e : i = n := by omega
    subst e
    exact .inl ⟨Nat.le_refl _, hd D H p⟩
/-- what a comprehension over a reversed range gathers -/
theorem lc_rangeCG {lo c : Int} {n : Nat} (Pa : Nat → List V → Hp → Prop) (hn : ∀ i acc H, Pa i acc H → acc.length ≤ 1000) (mono : ∀ i acc D acc' H1 H2, H1 D = some (.lst acc') → But D H1 H2 → Pa i acc H1 → Pa i acc H2) (h0 : ∀ H', Same H H' → Pa 0 [] H')
    (hs : ∀ i acc H1 (X : VK) (Y : Hp → Prop), i < n → Same H H1 → Pa i acc H1 → (∀ y H4, Same H1 H4 → Pa (i + 1) (acc ++ [y]) H4 → X y H4) → (∀ H3, Same H1 H3 → Pa (i + 1) acc H3 → Y H3) → g (.int (lo + (i : Nat) * c)) (wipe σ vs) H1 fun σ2 H2 => wipe σ2 vs = wipe σ vs ∧ tt σ2 H2 fun b H3 => if b = true then te σ2 H3 X else Y H3)
    (hd : ∀ D acc H1, H D = none → H1 D = some (.lst acc) → Same H H1 → Pa n acc H1 → Q (.ref D) H1) : LcG (Itc lo c n) g tt te vs σ H Q := by
  refine My.lc_rangeC (fun i D H1 => H D = none ∧ ∃ acc, H1 D = some (.lst acc) ∧ Same H H1 ∧ Pa i acc H1) (fun D hD => ⟨hD, [], upd_same, My.Same.new (Same.refl H) hD, h0 _ (My.Same.new (Same.refl H) hD)⟩) ?_ (fun D H1 ⟨hD, acc, h1, s1, p⟩ => hd D acc H1 hD h1 s1 p)
  rintro i D H1 hi ⟨hD, acc, h1, s1, p⟩
  exact hs i acc H1 _ _ hi s1 p (fun y H4 s4 p4 => ⟨acc, s4 _ _ h1, szl (hn _ _ _ p), hD, _, upd_same, My.Same.own (s1.trans s4) hD, mono _ _ _ _ _ _ (s4 _ _ h1) (My.But.put But.rfl) p4⟩) fun H3 s3 p3 => ⟨hD, acc, s3 _ _ h1, s1.trans s3, p3⟩
/-- a comprehension over reversed(range(n)) -/
def RvL (n : Int) (g : TG) (tt : TT) (te : TE) (vs : List Nat) (σ : L2.St) (H : Hp) (Q : VK) : Prop := -(2 ^ 62) ≤ (0 : Int) ∧ (0 : Int) < 2 ^ 62 ∧ -(2 ^ 62) ≤ n ∧ n < 2 ^ 62 ∧ LcG (Itc (0 + (((n - 0).toNat : Nat) : Int) - 1) (-1) (n - 0).toNat) g tt te vs σ H Q
theorem r_lcRV {t0 : TE} (h : t0 σ H fun x H1 => ∃ n : Int, x = .int n ∧ RvL n g tt te vs σ H1 Q) : tLc (iRevR (tRg1 t0)) g tt te vs σ H Q := h
theorem rvl_at {n : Int} {m : Nat} (e : n.toNat = m) (n1 : -(2 ^ 62) ≤ n) (n2 : n < 2 ^ 62) (q : LcG (Itc ((m : Int) - 1) (-1) m) g tt te vs σ H Q) : RvL n g tt te vs σ H Q := by
  refine ⟨by decide, by decide, n1, n2, ?_⟩
  rw [Int.sub_zero, e, Int.zero_add]
  exact q
theorem tyT {a : Addr} {xs : List V} (h : SqT K H a xs) : TyX K H (.ref a) (.type "tuple") := by
  rcases h with (h | ⟨o, h⟩) | ⟨o, its, n, h, c, _⟩
  · exact (Kd.tup h).ty
  · exact .fTuple h
  · exact .kTuple h c
theorem f_slS {a : Addr} {xs : List V} {lo hi : Option Int} (h1 : SqT K H a xs) (k : ∀ p H', SqT K H' p (cutV xs lo hi) → Same H H' → Q (.ref p) H') : rSlA K (.ref a) lo hi H Q := by
  refine ⟨a, xs, rfl, h1, fun e => ?_, fun _ p hp => k p _ (SqT.of upd_same) (My.Same.new (Same.refl H) hp)⟩
  refine k a H ?_ (Same.refl H)
  have : cutV xs lo hi = xs := by
    unfold cutV
    rw [e.1, e.2, List.drop_zero, Nat.sub_zero, List.take_length]
  rw [this]
  exact h1
theorem r_neB {a b : Bool} (q : Q (.bl (!decide (a = b))) H) : rNe (.bl a) (.bl b) H Q := by
  refine ⟨rfl, ?_⟩
  have e : (decide (V.bl a = V.bl b)) = decide (a = b) := by
    rw [decide_eq_decide]
    exact ⟨fun z => V.bl.inj z, fun z => by rw [z]⟩
  simpa [e] using q
end
end My

set_option Elab.async false
set_option linter.all false
set_option maxRecDepth 100000
set_option maxHeartbeats 4000000
/-! LayV: classes, methods, classmethods that may raise, within a try's body; one of two readings of a call -/
namespace My
open PySem PySem.Spec PyProof.Rows L2
section
variable {X : Cx} {CX : CXT} {k j : Nat} {f C : Addr} {x m : Str} {ps : List Str} {dvs : List V} {sp : Sp} {E : L2.St → XK} {o e : Expr} {es : List Expr} {p pos apos : Pos} {t : TA} {ta : TE}
/-- C(e, ..) in a try's body -/
def tMakeS (C : Addr) (sp : Sp) (dvs : List V) (E : L2.St → XK) (t : TA) : TE := fun σ H Q => t σ H fun vs H1 => ∀ x dx, H1 x = none → H1 dx = none → dx ≠ x → sp (.ref x :: (vs ++ dvs)) (upd (upd H1 dx (.own x)) x (.ins C dx [])) (fun v H2 => v = .non ∧ Q (.ref x) H2) (E σ)
theorem run_mkS {pins : List (Addr × Obj)} {σ : L2.St} {H : Hp} {s : Shared} {Q : VK} {us : List Value} {vs : List V} (M : Mg X.K C f) (G : Gf X.prog X.w X.K X.mg X.base CX k f ps dvs sp) (hr : RG j X.A) (hj : k + 1 ≤ j) (hx : PassesAt CX X σ (E σ)) (I : Inv X pins σ H s) (r : Vals vs us)
    (h : ∀ x dx, H x = none → H dx = none → dx ≠ x → sp (.ref x :: (vs ++ dvs)) (upd (upd H dx (.own x)) x (.ins C dx [])) (fun v H2 => v = .non ∧ Q (.ref x) H2) (E σ)) :
    wpAny (model X.prog X.w) X.A (call (.ref C) us) (EP X pins σ Q) X.xe s := by
  have hq := h (s.heap.objs.size + 1) s.heap.objs.size (I.hok.fresh (Nat.le_succ _)) (I.hok.fresh (Nat.le_refl _)) (Nat.ne_of_lt (Nat.lt_succ_self _))
  have I2 := Inv.made (C := C) I
  have r2 : Vals (V.ref (s.heap.objs.size + 1) :: vs) (Value.ref (s.heap.objs.size + 1) :: us) := .cons rfl r
  refine wpAny_call (make_map (f := f) I.kIn M.makes M.init (beq_iff_eq.mp M.fn) (codeAny_mono (G.go (outer := X.stack) (RG.make (hr.mono hj) C us []) (Nat.le_refl _) (I2.env0.make C us []) I2.kIn r2 hq) fun y s' hq' => ?_))
  match y, hq' with
  | .error e, hq' => exact hx pins _ _ e s' I2 hq'
  | .ok (.ret u), hq' =>
    obtain ⟨v, H', I3, rv, ev, q3⟩ := I2.after hq'
    subst ev
    exact ⟨rv, ⟨V.ref (s.heap.objs.size + 1), H', I3, rfl, q3⟩⟩
theorem pe_mkS (M : Mg X.K C f) (G : Gf X.prog X.w X.K X.mg X.base CX k f ps dvs sp) (hm : X.mg x = some (.ref C)) (hr : RG j X.A) (hj : k + 1 ≤ j) (hx : ∀ σ, PassesAt CX X σ (E σ)) (ha : PA X (e :: es) t) (hg : Gl X x := by rfl)
    (hdb : (x == ("__debug__" : Str)) = false := by decide) (he : starEach (e :: es) X.env = (false, eval e X.env) :: starEach es X.env := by rfl) (hpl : (backTo pos (starEach es X.env)).any (·.1) = false := by rfl) :
    PE X (.Call (.Name x p) (e :: es) [] pos) (tMakeS C sp dvs E t) := by
  refine ⟨fun pins s σ H Q I h => ?_⟩
  refine wpAny_Call_Name_kw (ld_glob I hg hm ?_ hdb)
  exact PySem.W.callWith_K (h₀ := X.base) I.ok.mod.kin M.kp (thn (ha.run pos pins s σ H _ I h) fun us s1 ⟨vs, H1, I1, r, q⟩ => ⟨I1.kIn, run_mkS M G hr hj (hx σ) I1 r q⟩) he hpl
/-- o.m(e, ..) in a try's body -/
def tMethS (C : Addr) (m : Str) (sp : Sp) (dvs : List V) (E : L2.St → XK) (ta : TE) (t : TA) : TE := fun σ H Q => ta σ H fun x H1 => ∃ a dx fs, x = .ref a ∧ H1 a = some (.ins C dx fs) ∧ fs.lookup m = none ∧ t σ H1 fun vs H2 => sp (x :: (vs ++ dvs)) H2 Q (E σ)
theorem pe_meS {pl : Sem Bool} (he : PE X o ta) (c : Cls X.K C) (hm : Meth X.K C m f) (G : Gf X.prog X.w X.K X.mg X.base CX k f ps dvs sp) (hr : RG j X.A) (hj : k ≤ j) (hx : ∀ σ, PassesAt CX X σ (E σ)) (ha : PA X (e :: es) t)
    (hst : starEach (e :: es) X.env = (false, eval e X.env) :: starEach es X.env := by rfl) (hpl : (backTo pos (starEach es X.env)).any (·.1) = false := by rfl)
    (ht : eval (.Call (.Attribute o m apos) (e :: es) [] pos) X.env = (do
      let ov ← eval o X.env
      standAt apos.atName
      let (f, first) ← holding [ov] (getMethod ov m pl)
      callWith pos f first (backTo pos (starEach (e :: es) X.env)) (backToKw pos (keywordEach [] X.env))) := by rfl) :
    PE X (.Call (.Attribute o m apos) (e :: es) [] pos) (tMethS C m sp dvs E ta t) := by
  refine ⟨fun pins s σ H Q I h => PySem.W.methodCall_KW (pl := pl) (thn (he.run pins s σ H _ I h) fun u s1 ⟨x, H1, I1, rx, a, dx, fs, ex, ea, l, q⟩ => ?_) ht⟩
  subst ex
  obtain rfl : u = Value.ref a := rx
  refine getmeth_ok I1 ea c hm l ?_
  exact PySem.W.callWith_K (first := [.ref a]) (h₀ := X.base) I1.ok.mod.kin hm.kp (thn (ha.run pos pins s1 σ H1 _ I1 q) fun us s2 ⟨vs, H2, I2, r, q2⟩ => ⟨I2.kIn, run_gS (us := .ref a :: us) (vs := .ref a :: vs) G hr hj (hx σ) I2 (.cons rfl r) q2⟩) hst hpl
theorem pe_me0S {pl : Sem Bool} (he : PE X o ta) (c : Cls X.K C) (hm : Meth X.K C m f) (G : Gf X.prog X.w X.K X.mg X.base CX k f ps dvs sp) (hr : RG j X.A) (hj : k ≤ j) (hx : ∀ σ, PassesAt CX X σ (E σ))
    (ht : eval (.Call (.Attribute o m apos) [] [] pos) X.env = (do
      let ov ← eval o X.env
      standAt apos.atName
      let (f, first) ← holding [ov] (getMethod ov m pl)
      callWith pos f first (backTo pos (starEach [] X.env)) (backToKw pos (keywordEach [] X.env))) := by rfl) :
    PE X (.Call (.Attribute o m apos) [] [] pos) (tMethS C m sp dvs E ta tNil) := by
  refine ⟨fun pins s σ H Q I h => PySem.W.methodCall_KW (pl := pl) (thn (he.run pins s σ H _ I h) fun u s1 ⟨x, H1, I1, rx, a, dx, fs, ex, ea, l, q⟩ => ?_) ht⟩
  subst ex
  obtain rfl : u = Value.ref a := rx
  refine getmeth_ok I1 ea c hm l ?_
  exact PySem.W.callWith_K0 (first := [.ref a]) I1.kIn hm.kp (run_gS (us := [.ref a]) (vs := [.ref a]) G hr hj (hx σ) I1 (.cons rfl .nil) q)
/-- C.m(e, ..), m a classmethod, in a try's body -/
def tCMethS (C : Addr) (sp : Sp) (E : L2.St → XK) (ta : TE) (t : TA) : TE := fun σ H Q => ta σ H fun x H1 => x = .ref C ∧ t σ H1 fun vs H2 => sp (.ref C :: vs) H2 Q (E σ)
theorem pe_cmS {q : Addr} {mc : Value} {pl : Sem Bool} (he : PE X o ta) (r : ClX.CRead X.K C mc) (c : ClX.CMet X.K C mc m q f) (G : Gf X.prog X.w X.K X.mg X.base CX k f ps dvs sp) (hr : RG j X.A) (hj : k ≤ j) (hx : ∀ σ, PassesAt CX X σ (E σ)) (ha : PA X (e :: es) t)
    (hst : starEach (e :: es) X.env = (false, eval e X.env) :: starEach es X.env := by rfl) (hpl : (backTo pos (starEach es X.env)).any (·.1) = false := by rfl)
    (ht : eval (.Call (.Attribute o m apos) (e :: es) [] pos) X.env = (do
      let ov ← eval o X.env
      standAt apos.atName
      let (f, first) ← holding [ov] (getMethod ov m pl)
      callWith pos f first (backTo pos (starEach (e :: es) X.env)) (backToKw pos (keywordEach [] X.env))) := by rfl) :
    PE X (.Call (.Attribute o m apos) (e :: es) [] pos) (tCMethS C (fun vs => sp (vs ++ dvs)) E ta t) := by
  refine ⟨fun pins s σ H Q I h => PySem.W.methodCall_KW (pl := pl) (thn (he.run pins s σ H _ I h) fun u s1 ⟨x, H1, I1, rx, ex, h1⟩ => ?_) ht⟩
  subst ex
  obtain rfl : u = Value.ref C := rx
  refine ClX.getmethcm_ok I1 r c fun s2 I2 => ?_
  refine ClX.callwith_cm I2 (ClX.base_none I1 (Nat.le_refl _)) c.fi (thn (ha.run pos _ s2 σ H1 _ I2 h1) fun us s3 ⟨vs, H2, I3, rv, q2⟩ => ⟨⟨ClX.pin_at I3, I3.kIn⟩, ?_⟩) hst hpl
  have z : wpAny (model X.prog X.w) X.A (call (.ref s1.heap.objs.size) us) (EP X ((s1.heap.objs.size, PySem.W.methodObj (.ref f) (.ref C)) :: pins) σ Q) X.xe s3 := by
    refine wpAny_call (PySem.W.method_call (ClX.pin_at I3) (codeAny_mono (G.go (outer := X.stack) (us := .ref C :: us) (vs := .ref C :: vs) hr hj I3.env0 I3.kIn (.cons rfl rv) q2) fun y s' hq => ?_))
    match y, hq with
    | .error er, hq => exact hx σ _ H2 s3 er s' I3 hq
    | .ok (.ret u), hq => exact I3.after hq
  exact thn z fun _ _ y => ClX.unpinE y
/-- one of two readings of a call -/
theorem call_or {g : Value} {r1 r2 : List V → Hp → VK → Prop} (h1 : CallR X g r1) (h2 : CallR X g r2) : CallR X g (fun xs H Q => r1 xs H Q ∨ r2 xs H Q) := fun pins s σ H xs us Q I r h => h.elim (h1 pins s σ H xs us Q I r) (h2 pins s σ H xs us Q I r)
end
section
variable {σ : L2.St} {H : Hp} {ta : TE} {Q : VK} {tA : TA} {C : Addr} {sp : Sp} {dvs : List V} {E : L2.St → XK}
theorem r_makeS (h : tA σ H fun vs H1 => ∀ x dx, H1 x = none → H1 dx = none → dx ≠ x → sp (.ref x :: (vs ++ dvs)) (upd (upd H1 dx (.own x)) x (.ins C dx [])) (fun v H2 => v = .non ∧ Q (.ref x) H2) (E σ)) : tMakeS C sp dvs E tA σ H Q := h
theorem r_cmS (h : ta σ H fun x H1 => x = .ref C ∧ tA σ H1 fun vs H2 => sp (.ref C :: vs) H2 Q (E σ)) : tCMethS C sp E ta tA σ H Q := h
theorem r_methS {m : Str} (h : ta σ H fun x H1 => ∃ a dx fs, x = .ref a ∧ H1 a = some (.ins C dx fs) ∧ fs.lookup m = none ∧ tA σ H1 fun vs H2 => sp (x :: (vs ++ dvs)) H2 Q (E σ)) : tMethS C m sp dvs E ta tA σ H Q := h
end
end My

set_option Elab.async false
set_option linter.all false
set_option maxRecDepth 100000
set_option maxHeartbeats 4000000
/-! LayW: chains of three comparisons; comprehensions over the signs of a text -/
namespace My
open PySem PySem.Spec PyProof.Rows L2 SX
section
variable {X : Cx} {a b c d : Expr} {ta tb tc td : TE} {pos : Pos}
/-- a op1 b op2 c op3 d -/
def tChain3 (r r' r'' : R2) (ta tb tc td : TE) : TE := fun σ H Q => ta σ H fun x H1 => tb σ H1 fun y H2 => r x y H2 fun z H3 => ∃ k, z = .bl k ∧
  (if k = true then tc σ H3 fun w' H4 => r' y w' H4 fun z2 H5 => ∃ k2, z2 = .bl k2 ∧ (if k2 = true then td σ H5 fun w2 H6 => r'' w' w2 H6 Q else Q (.bl false) H5) else Q (.bl false) H3)
theorem pe_chain3 {op op' op'' : CmpOp} {r r' r'' : R2} (ho : OpR X (compareOp op) r) (ho' : OpR X (compareOp op') r') (ho'' : OpR X (compareOp op'') r'') (ha : PE X a ta) (hb : PE X b tb) (hc : PE X c tc) (hd : PE X d td)
    (hm : lastMarks [op, op', op''] [b, c, d] = false := by with_unfolding_all rfl) : PE X (.Compare a [op, op', op''] [b, c, d] pos) (tChain3 r r' r'' ta tb tc td) := by
  refine ⟨fun pins s σ H Q I h => ?_⟩
  refine Compare_chain (thn (ha.run pins s σ H _ I h) fun v s1 ⟨x, H1, I1, r1, q1⟩ => chain_link (thn (hb.run pins s1 σ H1 _ I1 q1) fun u s2 ⟨y, H2, I2, r2, q2⟩ =>
    thn (ho pins s2 σ H2 x y v u _ I2 r1 r2 q2) fun d1 s3 ⟨z, H3, I3, r3, k, e, q3⟩ => ?_)) hm
  subst e
  cases r3
  refine wpAny_truthy_bool ?_
  cases k with
  | false => exact ite_ff ⟨.bl false, H3, I3, rfl, q3⟩
  | true =>
    refine ite_tt (chain_link (thn (hc.run pins s3 σ H3 _ I3 q3) fun w' s4 ⟨z', H4, I4, r4, q4⟩ => thn (ho' pins s4 σ H4 y z' u w' _ I4 r2 r4 q4) fun d2 s5 ⟨z2, H5, I5, r5, k2, e2, q5⟩ => ?_))
    subst e2
    cases r5
    refine wpAny_truthy_bool ?_
    cases k2 with
    | false => exact ite_ff ⟨.bl false, H5, I5, rfl, q5⟩
    | true => exact ite_tt (chain_last (thn (hd.run pins s5 σ H5 _ I5 q5) fun w2 s6 ⟨z3, H6, I6, r6, q6⟩ => ho'' pins s6 σ H6 z' z3 w' w2 Q I6 r4 r6 q6))
end
section
variable {σ : L2.St} {H : Hp} {ta tb tc td : TE} {Q : VK}
theorem r_chain3 {r r' r'' : R2} (h : ta σ H fun x H1 => tb σ H1 fun y H2 => r x y H2 fun z H3 => ∃ k, z = .bl k ∧
  (if k = true then tc σ H3 fun w' H4 => r' y w' H4 fun z2 H5 => ∃ k2, z2 = .bl k2 ∧ (if k2 = true then td σ H5 fun w2 H6 => r'' w' w2 H6 Q else Q (.bl false) H5) else Q (.bl false) H3)) : tChain3 r r' r'' ta tb tc td σ H Q := h
end
section
variable {K : PySem.W.Frag} {σ : L2.St} {H : Hp} {te t0 : TE} {Q : VK} {g : TG} {tt : TT} {vs : List Nat}
theorem r_lcS (h : t0 σ H fun v H1 => ∃ x, v = .str x ∧ LcG (Its x) g tt te vs σ H1 Q) : tLc (iStr t0) g tt te vs σ H Q := h
theorem lc_str {l : List Nat} (Pv : Nat → Addr → Hp → Prop) (h0 : ∀ D, H D = none → Pv 0 D (upd H D (.lst [])))
    (hs : ∀ i c D H, l[i]? = some c → Pv i D H → g (.str (S [c])) (wipe σ vs) H fun σ2 H2 => wipe σ2 vs = wipe σ vs ∧ tt σ2 H2 fun b H3 => if b = true then te σ2 H3 fun y H4 => ∃ acc, H4 D = some (.lst acc) ∧ acc.length < sizeLine ∧ Pv (i + 1) D (upd H4 D (.lst (acc ++ [y]))) else Pv (i + 1) D H3)
    (hd : ∀ D H, Pv l.length D H → Q (.ref D) H) : LcG (Its (S l)) g tt te vs σ H Q := by
  intro D hD
  have sz : (S l).cps.size = l.length := rfl
  refine ⟨fun i m H => m = l.length - i ∧ i ≤ l.length ∧ Pv i D H, ⟨_, rfl, Nat.zero_le _, h0 D hD⟩, ?_⟩
  rintro i m H ⟨rfl, hi, p⟩
  by_cases hlt : i < l.length
  · refine .inr ⟨show i < (S l).cps.size by rw [sz]; exact hlt, fun H' => Pv (i + 1) D H', fun H' p' => ⟨l.length - (i + 1), by omega, rfl, hlt, p'⟩, ?_⟩
    rintro x H' ⟨rfl, c, hc, rfl⟩
    exact hs i c D _ (by rw [← hc]; show l[i]? = l.toArray[i]?; simp) p
  · have e : i = l.length := by omega
    subst e
    exact .inl ⟨show (S l).cps.size ≤ l.length from Nat.le_of_eq sz, hd D H p⟩
/-- over the signs of a text -/
theorem lc_strG {l : List Nat} (Pa : Nat → List V → Hp → Prop) (hn : ∀ i acc H, Pa i acc H → acc.length ≤ 1000) (mono : ∀ i acc D acc' H1 H2, H1 D = some (.lst acc') → But D H1 H2 → Pa i acc H1 → Pa i acc H2) (h0 : ∀ H', Same H H' → Pa 0 [] H')
    (hs : ∀ i c acc H1 (X : VK) (Y : Hp → Prop), l[i]? = some c → Same H H1 → Pa i acc H1 → (∀ y H4, Same H1 H4 → Pa (i + 1) (acc ++ [y]) H4 → X y H4) → (∀ H3, Same H1 H3 → Pa (i + 1) acc H3 → Y H3) → g (.str (S [c])) (wipe σ vs) H1 fun σ2 H2 => wipe σ2 vs = wipe σ vs ∧ tt σ2 H2 fun b H3 => if b = true then te σ2 H3 X else Y H3)
    (hd : ∀ D acc H1, H D = none → H1 D = some (.lst acc) → Same H H1 → Pa l.length acc H1 → Q (.ref D) H1) : LcG (Its (S l)) g tt te vs σ H Q := by
  refine lc_str (fun i D H1 => H D = none ∧ ∃ acc, H1 D = some (.lst acc) ∧ Same H H1 ∧ Pa i acc H1) (fun D hD => ⟨hD, [], upd_same, My.Same.new (Same.refl H) hD, h0 _ (My.Same.new (Same.refl H) hD)⟩) ?_ (fun D H1 ⟨hD, acc, h1, s1, p⟩ => hd D acc H1 hD h1 s1 p)
  rintro i c D H1 hi ⟨hD, acc, h1, s1, p⟩
  exact hs i c acc H1 _ _ hi s1 p (fun y H4 s4 p4 => ⟨acc, s4 _ _ h1, szl (hn _ _ _ p), hD, _, upd_same, My.Same.own (s1.trans s4) hD, mono _ _ _ _ _ _ (s4 _ _ h1) (My.But.put But.rfl) p4⟩) fun H3 s3 p3 => ⟨hD, acc, s3 _ _ h1, s1.trans s3, p3⟩
end
/-! repr, also where an error is handled -/
section
variable {X : Cx} {pins : List (Addr × Obj)} {σ : L2.St} {H : Hp} {s : Shared}
theorem call_reprTg (hg : X.A.guards = some []) (hu : X.A.units + 64 < cLine) : CallR X (.builtin "repr") (rReprT X.K) := by
  intro pins s σ H xs us Q I r h
  obtain ⟨x, d, rfl, hd, h1, h3, h4, q⟩ := h
  obtain ⟨u, rfl, rx⟩ := vals1 r
  have fin : ∀ {a : Addr} {as : List Addr}, u = .ref a → Reads s.heap (.ref a) d as → (d.hasDict = true → sysModules ∉ as) → wpAny (model X.prog X.w) X.A (call (.builtin "repr") [u]) (EP X pins σ Q) X.xe s := fun {a as} e R hs => by
    subst e
    refine repr_of_reads' R h1 hs hg (by omega) (fun _ _ z => z) (fun h' u tk hk => ?_) h4
    exact ⟨.str d.shown, H, I.kept (t' := tk) hk, ⟨u, rfl⟩, q⟩
  cases hd with
  | pl hd hn =>
    cases hd with
    | non =>
      obtain rfl : u = Value.none := rx
      exact PySem.P.repr_of_none ⟨.str _, H, I.tok _, ⟨_, rfl⟩, q⟩
    | bl b =>
      obtain rfl : u = Value.bool b := rx
      exact PySem.P.repr_of_bool ⟨.str _, H, I.tok _, ⟨_, rfl⟩, q⟩
    | int i =>
      obtain ⟨t, rfl⟩ := (show ∃ t, u = Value.int i t from rx)
      exact PySem.P.repr_of_int (of_decide_eq_true h1) ⟨.str _, H, I.tok _, ⟨_, rfl⟩, q⟩
    | str y =>
      obtain ⟨t, rfl⟩ := (show ∃ t, u = Value.str y t from rx)
      exact PySem.P.repr_of_str ⟨.str _, H, I.tok _, ⟨_, rfl⟩, q⟩ h4
    | lst hs ha =>
      obtain ⟨as, R⟩ := Dp.reads I _ _ _ (.lst hs ha) rx
      exact fin rx (by cases (show u = Value.ref _ from rx); exact R) (PyData.noDict_hsm hn)
    | tup hs ha =>
      obtain ⟨as, R⟩ := Dp.reads I _ _ _ (.tup hs ha) rx
      exact fin rx (by cases (show u = Value.ref _ from rx); exact R) (PyData.noDict_hsm hn)
  | dct hs =>
    obtain ⟨R, n⟩ := dict_reads I hs
    exact fin rx R fun _ m => n (List.mem_singleton.mp m).symm
end
section
variable {X : Cx} {k : Nat} {f a C : Addr} {oe : Obj} {fd : FuncData} {ps : List Str} {sp : SpQ} {pn : List (Addr × Obj)}
/-- repr of an own object, where an error is handled -/
theorem call_reprOwnQ (F : FnQ X.prog X.w X.K X.mg X.base k f fd ps sp) (hb : Binds X.K fd ps []) (hs : PySem.W.findIn X.K (.ref C) "__repr__" = some (some (.ref f))) (hf : PySem.W.isFn X.K (.ref f) = true) (hr : L2H.RoomH (k + 1) (X.suite a ((a, oe) :: pn)).A) :
    CallR (X.suite a ((a, oe) :: pn)) (.builtin "repr") (rStrOwn C (sp (a, oe))) := by
  intro pins s σ H xs us Q I r h
  obtain ⟨x, dx, fs, rfl, ea, h1⟩ := h
  obtain ⟨u, rfl, rx⟩ := vals1 r
  obtain rfl : u = Value.ref x := rx
  obtain ⟨mA, O, _⟩ := ins_get I.hok ea
  obtain ⟨od, J, _⟩ := O.look
  obtain ⟨m, hF⟩ := I.fr
  have hr1 : L2H.RoomH k (X.suite a ((a, oe) :: pn)).A.in1 := ⟨by have := hr.dp; show X.A.depth + 3 * k + 5 < _; have e : (X.suite a ((a, oe) :: pn)).A.depth = X.A.depth := rfl; omega, by have := hr.un; show X.A.units + 1 + 16 * k + 200 < _; have e : (X.suite a ((a, oe) :: pn)).A.units = X.A.units := rfl; omega⟩
  refine PySem.W.repr_K (by have := hr1.un; omega) hF I.ok.mod.kin J hs hf ?_
  have P1 := I.pin (a, oe) (List.mem_append_left _ List.mem_cons_self)
  have pin : L2H.PinOk X.stack H s (a, oe) := ⟨P1.1, P1.2.1, fun hm => (List.mem_cons.mp (I.stkSub a hm)).elim P1.2.2.1 P1.2.2.2.1, P1.2.2.2.2⟩
  have l : [Value.ref x].length = ps.length := F.len _ _ _ _ _ h1
  have b := hb s [Value.ref x] I.kIn (by rw [List.append_nil]; exact l)
  rw [List.append_nil] at b
  have e0 : Env0 X.prog X.w X.K X.mg X.base (X.suite a ((a, oe) :: pn)).A.in1 X.stack s H := ⟨I.ok.frames, I.env0.mod, I.env0.bs, I.env0.bsz, I.env0.funs, I.env0.frf, I.env0.hok, I.env0.bare⟩
  refine wpAny_call (codeAny_mono (F.run _ _ s H ⟨[.ref x], []⟩ [.ref x] [.ref x] _ (a, oe) hr1 pin e0 b (.cons rfl .nil) h1) fun y s' hq => ?_)
  match y, hq with
  | .error er, hq => exact hq.elim
  | .ok (.ret u), hq =>
    obtain ⟨v, H', I3, rv, q3⟩ := I.after hq
    obtain ⟨y, rfl, q⟩ := q3
    obtain ⟨t, rfl⟩ := rv
    exact ⟨.str y, H', I3, ⟨t, rfl⟩, q⟩
end
section
variable {σ : L2.St} {H : Hp} {nx bk ct : L2.St → Hp → Prop} {rt : VK} {tA : TA}
theorem r_par3 {i j l : Nat} (h : tA σ H fun vs H1 => ∃ u v w, vs = [u, v, w] ∧ nx (((σ.set i (some u)).set j (some v)).set l (some w)) H1) : tPar3 i j l tA ⟨nx, rt, bk, ct⟩ σ H := h
theorem r_three {u v w : V} {F : V → V → V → Prop} (h : F u v w) : ∃ a b c, ([u, v, w] : List V) = [a, b, c] ∧ F a b c := ⟨u, v, w, rfl, h⟩
end
end My

set_option Elab.async false
set_option linter.all false
set_option maxRecDepth 100000
set_option maxHeartbeats 4000000
/-! Rtx: texts of integers and of quotients, read -/
namespace Rtx
open PySem PySem.Builtin PySem.Builtin.Str PySem.Spec PyProof.Rows L2 SX My PySem.NumText
/-- parts between the signs c -/
def sp (c : Nat) : List Nat → List (List Nat)
  | [] => [[]]
  | x :: l => if x = c then [] :: sp c l else match sp c l with
    | [] => [[x]]
    | w :: ws => (x :: w) :: ws
theorem sp_ne (c : Nat) : ∀ l, sp c l ≠ []
  | [] => List.cons_ne_nil _ _
  | x :: l => by
    unfold sp
    split
    · exact List.cons_ne_nil _ _
    · split <;> exact List.cons_ne_nil _ _
theorem sp_join (c : Nat) : ∀ l, TL.joinL [c] (sp c l) = l
  | [] => rfl
  | x :: l => by
    have ih := sp_join c l
    have ne := sp_ne c l
    unfold sp
    split
    · rename_i h
      cases hs : sp c l with
      | nil => exact absurd hs ne
      | cons w ws =>
        rw [hs] at ih
        show [] ++ ([c] ++ TL.joinL [c] (w :: ws)) = x :: l
        rw [ih, h] <;> rfl
    · split
      · rename_i hs
        exact absurd hs ne
      · rename_i w ws hs
        rw [hs] at ih
        cases ws with
        | nil =>
          show x :: w = x :: l
          rw [show w = l from ih]
        | cons v vs =>
          show x :: (w ++ ([c] ++ TL.joinL [c] (v :: vs))) = x :: l
          rw [show w ++ ([c] ++ TL.joinL [c] (v :: vs)) = l from ih]
theorem sp_free (c : Nat) : ∀ l, ∀ w ∈ sp c l, c ∉ w
  | [], w, hw => by
    rw [List.mem_singleton.mp hw]
    exact List.not_mem_nil
  | x :: l, w, hw => by
    have ih := sp_free c l
    unfold sp at hw
    split at hw
    · rcases List.mem_cons.mp hw with rfl | hw
      · exact List.not_mem_nil
      · exact ih w hw
    · rename_i hx
      split at hw
      · rw [List.mem_singleton.mp hw]
        intro z
        exact hx (List.mem_singleton.mp z).symm
      · rename_i v vs hs
        rcases List.mem_cons.mp hw with rfl | hw
        · intro z
          rcases List.mem_cons.mp z with z | z
          · exact hx z.symm
          · exact ih v (by rw [hs]; exact List.mem_cons_self ..) z
        · exact ih w (by rw [hs]; exact List.mem_cons_of_mem _ hw)
theorem split_sp {c : Nat} (hc : c < 256) (l : List Nat) : Txt.split (S l) (S [c]) = (sp c l).map S := by
  rw [split_S (List.cons_ne_nil _ _) (by simp [hc])]
  have e := SX.spl_join (c := c) (sep := []) (parts := sp c l) (sp_ne c l) (sp_free c l)
  rw [sp_join] at e
  rw [e]
/-! ### integers -/
def isD (c : Nat) : Bool := decide (48 ≤ c) && decide (c ≤ 57)
theorem allD {ds : List Nat} (h : ds.all isD = true) : AllDigits ds := fun c hc => by
  have := List.all_eq_true.mp h c hc
  unfold isD at this
  simpa using this
theorem val_snoc (ds : List Nat) (d : Nat) : digitsVal (ds ++ [d]) = digitsVal ds * 10 + (d - 48) := by
  unfold digitsVal
  rw [List.foldl_append] <;> rfl
theorem numL_back : ∀ (n : Nat) (ds : List Nat), ds.length = n → ds.all isD = true → ds ≠ [] → ds.head? ≠ some 48 → TL.numL (digitsVal ds) = ds ∧ 0 < digitsVal ds
  | 0, ds, hl, _, ne, _ => absurd (List.eq_nil_of_length_eq_zero hl) ne
  | n + 1, ds, hl, hd, ne, hh => by
    rcases List.eq_nil_or_concat ds with rfl | ⟨es, d, rfl⟩
    · exact absurd rfl ne
    rw [List.concat_eq_append] at *
    have hl2 : es.length = n := by rw [List.length_append] at hl; simpa using hl
    rw [List.all_append, Bool.and_eq_true] at hd
    have d1 : isD d = true := by simpa using hd.2
    have d2 : 48 ≤ d ∧ d ≤ 57 := by
      unfold isD at d1
      simpa using d1
    rw [val_snoc]
    cases es with
    | nil =>
      have : d ≠ 48 := fun z => hh (by rw [z] <;> rfl)
      have e0 : digitsVal [] = 0 := rfl
      rw [e0, Nat.zero_mul, Nat.zero_add]
      refine ⟨?_, by omega⟩
      rw [TL.numL_lt (by omega), show 48 + (d - 48) = d by omega] <;> rfl
    | cons e es =>
      obtain ⟨h1, h2⟩ := numL_back n (e :: es) hl2 hd.1 (List.cons_ne_nil _ _) hh
      refine ⟨?_, by omega⟩
      rw [TL.numL_step (by omega), show (digitsVal (e :: es) * 10 + (d - 48)) / 10 = digitsVal (e :: es) by omega, h1, show 48 + (digitsVal (e :: es) * 10 + (d - 48)) % 10 = d by omega]
/-- the integer that a word with these figures is -/
def riN (ds l : List Nat) (neg : Bool) : Option Int :=
  if ds = [] ∨ ds.all isD = false then none
  else if ds.head? = some 48 ∧ l ≠ [48] then none
  else some (if neg = true then -((digitsVal ds : Nat) : Int) else ((digitsVal ds : Nat) : Int))
/-- the integer that a word is -/
def ri (l : List Nat) : Option Int := if l.head? = some 45 then riN l.tail l true else riN l l false
theorem riN_some {ds l : List Nat} {neg : Bool} {i : Int} (h : riN ds l neg = some i) : ds ≠ [] ∧ ds.all isD = true ∧ (ds.head? = some 48 → l = [48]) ∧ i = if neg = true then -((digitsVal ds : Nat) : Int) else ((digitsVal ds : Nat) : Int) := by
  unfold riN at h
  split at h
  · cases h
  rename_i h1
  split at h
  · cases h
  rename_i h2
  refine ⟨fun z => h1 (.inl z), ?_, fun z => Classical.byContradiction fun y => h2 ⟨z, y⟩, (Option.some.inj h).symm⟩
  cases q : ds.all isD with
  | true => rfl
  | false => exact absurd (.inr q) h1
theorem ri_some {l : List Nat} {i : Int} (h : ri l = some i) : intL i = l := by
  unfold ri at h
  split at h
  · rename_i hm
    obtain ⟨ds, rfl⟩ : ∃ ds, l = 45 :: ds := by
      cases l with
      | nil => cases hm
      | cons a t => exact ⟨t, by rw [Option.some.inj (show some a = some 45 from hm)]⟩
    obtain ⟨h1, hd, h2, hi⟩ := riN_some h
    obtain ⟨e1, e2⟩ := numL_back _ ds rfl hd h1 (fun z => by cases h2 z)
    rw [if_pos rfl] at hi
    have hi2 : i = -((digitsVal ds : Nat) : Int) := hi
    have ei : i < 0 := by omega
    rw [intL_neg ei, show i.natAbs = digitsVal ds by omega, e1]
  · obtain ⟨h1, hd, h2, hi⟩ := riN_some h
    rw [if_neg (by decide)] at hi
    have ei : ¬ i < 0 := by omega
    rw [intL_nn ei, show i.natAbs = digitsVal l by omega]
    by_cases h0 : l = [48]
    · subst h0
      exact TL.numL_lt (by decide)
    · exact (numL_back _ l rfl hd h1 fun z => h0 (h2 z)).1
/-! ### quotients -/
def txt (n d : Int) : List Nat := if d = 1 then intL n else intL n ++ 47 :: intL d
theorem intL_47 (i : Int) : 47 ∉ intL i := intL_free (by decide) (by decide)
theorem app_inj {a b c d : List Nat} (h1 : 47 ∉ a) (h2 : 47 ∉ c) (e : a ++ 47 :: b = c ++ 47 :: d) : a = c ∧ b = d := by
  induction a generalizing c with
  | nil =>
    cases c with
    | nil => exact ⟨rfl, (List.cons.inj e).2⟩
    | cons x c => exact absurd (by rw [(List.cons.inj e).1]; exact List.mem_cons_self ..) h2
  | cons y a ih =>
    cases c with
    | nil => exact absurd (by rw [← (List.cons.inj e).1]; exact List.mem_cons_self ..) h1
    | cons x c =>
      obtain ⟨e1, e2⟩ := List.cons.inj e
      obtain ⟨e3, e4⟩ := ih (fun z => h1 (List.mem_cons_of_mem _ z)) (fun z => h2 (List.mem_cons_of_mem _ z)) e2
      exact ⟨by rw [e1, e3], e4⟩
/-- the reduced quotient is written so exactly if it is one in lowest terms with a bottom above 1 -/
theorem txt_iff {a b : Int} (hb : 0 < b) : txt (a / Int.gcd a b) (b / Int.gcd a b) = intL a ++ 47 :: intL b ↔ 1 < b ∧ Int.gcd a b = 1 := by
  constructor
  · intro h
    unfold txt at h
    split at h
    · exfalso
      have : 47 ∈ intL a ++ 47 :: intL b := List.mem_append_right _ (List.mem_cons_self ..)
      rw [← h] at this
      exact intL_47 _ this
    · rename_i hn
      obtain ⟨e1, e2⟩ := app_inj (intL_47 _) (intL_47 _) h
      have e3 := intL_inj e2
      have g0 : 0 < Int.gcd a b := Int.gcd_pos_of_ne_zero_right a (by omega)
      have hdv : ((Int.gcd a b : Nat) : Int) ∣ b := Int.gcd_dvd_right ..
      have hk := Int.ediv_mul_cancel hdv
      rw [e3] at hk
      have hg : ((Int.gcd a b : Nat) : Int) = 1 := by
        have h5 : b * ((Int.gcd a b : Nat) : Int) = b * 1 := by rw [Int.mul_one]; exact hk
        exact Int.eq_of_mul_eq_mul_left (Int.ne_of_gt hb) h5
      refine ⟨?_, by omega⟩
      rw [e3] at hn
      omega
  · rintro ⟨h1, h2⟩
    rw [h2]
    unfold txt
    have e : ∀ x : Int, x / ((1 : Nat) : Int) = x := fun x => Int.ediv_one x
    rw [e, e, if_neg (by omega)]
/-- what a text of a quotient is -/
def rd (l : List Nat) : Option (Int × Int) := match sp 47 l with
  | [w] => (ri w).map fun i => (i, 1)
  | [v, w] => match ri v, ri w with
    | some a, some b => if 1 < b ∧ Int.gcd a b = 1 then some (a, b) else none
    | _, _ => none
  | _ => none
end Rtx

set_option Elab.async false
set_option linter.all false
set_option maxRecDepth 100000
set_option maxHeartbeats 4000000
namespace Toy
open PySem PySem.Spec PyProof.Rows L2 My
local macro_rules | `(tactic| walk_at "ne") => `(tactic| first
  | with_reducible assumption
  | exact Ne.symm (by with_reducible assumption)
  | (refine' ne_of_none ?hx ?hy; (case hy => with_reducible assumption); (case hx => walk_at "hf"))
  | (refine' Ne.symm (ne_of_none ?hx ?hy); (case hy => with_reducible assumption); (case hx => walk_at "hf"))
  | (refine' Pu.ne ?hx ?hy; (case hy => with_reducible assumption); (case hx => walk_at "pu")))
local macro_rules | `(tactic| walk_at "pu") => `(tactic| first
  | with_reducible assumption
  | ((with_reducible refine' Pu.same ?hx ?hy); (case hy => with_reducible assumption); (case hx => walk_at "pu")))
local macro_rules | `(tactic| walk_at "hf") => `(tactic| first
  | with_reducible assumption
  | with_reducible exact upd_same
  | ((with_reducible refine' Same.at ?hs ?hr); (case hs => with_reducible assumption); (case hr => walk_at "hf"))
  | ((with_reducible refine' at_or ?hr ?hn); (case hr => walk_at "hf"); (case hn => first | exact Or.inl (by with_reducible assumption) | exact Or.inr (by walk_at "ne")))
  | ((with_reducible refine' But.at ?hb ?hn ?hr); (case hb => with_reducible assumption); (case hr => walk_at "hf"); (case hn => walk_at "ne")))
local macro_rules | `(tactic| walk_at "sq") => `(tactic| first
  | with_reducible assumption
  | ((with_reducible refine' SqL.of ?hql); (case hql => walk_at "hf"))
  | ((with_reducible refine' Same.seq ?hx ?hy); (case hx => with_reducible assumption); (case hy => walk_at "sq")))
local macro_rules | `(tactic| walk_at "sqo") => `(tactic| first
  | ((with_reducible refine' Or.inl ?hol); (case hol => with_reducible assumption))
  | ((with_reducible refine' Or.inr ?hor); (case hor => with_reducible assumption))
  | ((with_reducible refine' Or.inl (SqL.of ?hol)); (case hol => walk_at "hf"))
  | ((with_reducible refine' Or.inr (SqT.of ?hor)); (case hor => walk_at "hf"))
  | ((with_reducible refine' Or.inl ?hol); (case hol => walk_at "sq"))
  | ((with_reducible refine' Or.inr ?hor); (case hor => walk_at "sqt")))
local macro_rules | `(tactic| walk_at "sqt") => `(tactic| first
  | with_reducible assumption
  | ((with_reducible refine' SqT.of ?hqt); (case hqt => walk_at "hf"))
  | ((with_reducible refine' tupS ?hx ?hy); (case hy => with_reducible assumption); (case hx => walk_at "sqt")))
local macro_rules | `(tactic| walk_at "lg") => `(tactic| first
  | with_reducible assumption
  | exact Bd.lg (by with_reducible assumption) (by decide) (by decide)
  | exact Bd.lg (Bd.of (b := 100) (by omega) (by omega)) (by decide) (by decide))
local macro_rules | `(tactic| walk_at "len") => `(tactic| first
  | with_reducible assumption
  | ((simp only [txt_int, lcat, S_len, List.length_append, List.length_cons, List.length_nil]); omega)
  | (apply of_decide_eq_true; rfl))
local macro_rules | `(tactic| walk_at "side") => `(tactic| first
  | with_reducible assumption
  | omega
  | exact ml (by omega) (by omega)
  | exact mr (by omega) (by omega)
  | exact dv (by omega) (by omega)
  | exact Bd.mulOk (by with_reducible assumption) (by with_reducible assumption) (by decide) (by decide) (by decide)
  | exact Bd.div (by with_reducible assumption) (by omega) (by decide) (by decide)
  | (show (0 : Int) < _; omega)
  | decide
  | exact ni_non
  | exact rfl
  | ((simp only [List.length_cons, List.length_nil, List.length_map]); omega))
local macro_rules | `(tactic| walk_at "nl") => `(tactic| first
  | ((simp only [List.length_cons, List.length_nil, List.length_map, List.length_append]); omega)
  | omega
  | decide
  | exact Nat.le_of_ble_eq_true rfl)
local macro_rules | `(tactic| walk_at "sn") => `(tactic| first
  | with_reducible refine r_tupN ?_
  | with_reducible refine r_lstN ?_
  | with_reducible refine r_dnewN ?_
  | ((with_reducible refine' r_listN ?hh ?_); (case hh => walk_at "sqo"))
  | ((with_reducible refine' r_tupleN ?hh ?_); (case hh => walk_at "sq"))
  | ((with_reducible refine' r_slLN ?hh ?_); (case hh => walk_at "sq"))
  | ((with_reducible refine' r_catN ?hh ?hg ?hz ?_); (case hh => walk_at "hf"); (case hg => walk_at "hf"); (case hz => walk_at "nl"))
  | ((with_reducible refine' r_repN ?hh ?h2 ?h3 ?h4 ?_); (case hh => walk_at "hf"); (case h2 => walk_at "side"); (case h3 => walk_at "nl"); (case h4 => walk_at "side")))
local macro_rules | `(tactic| walk_at "st") => `(tactic| first
  | walk_at "sn"
  | ((with_reducible refine' r_var ?hh ?_); (case hh => rfl))
  | with_reducible refine r_c ?_
  | with_reducible refine r_op ?_
  | with_reducible refine r_i0 ?_
  | with_reducible refine r_cons ?_
  | with_reducible refine r_nil ?_
  | with_reducible refine r_seq ?_
  | with_reducible refine r_asg ?_
  | with_reducible refine r_gname ?_
  | with_reducible refine r_ret ?_
  | with_reducible refine r_ifS ?_
  | with_reducible refine r_test ?_
  | with_reducible refine r_tB ?_
  | with_reducible refine b_bl ?_
  | with_reducible refine i_t ?_
  | with_reducible refine i_f ?_
  | with_reducible refine i_nt ?_
  | with_reducible refine i_nf ?_
  | ((with_reducible refine' i_pos ?hh ?_); (case hh => walk_at "side"))
  | ((with_reducible refine' i_neg ?hh ?_); (case hh => walk_at "side"))
  | ((with_reducible refine' n_pos ?hh ?_); (case hh => walk_at "side"))
  | ((with_reducible refine' n_neg ?hh ?_); (case hh => walk_at "side"))
  | ((with_reducible refine' r_pow ?hh ?he ?_); (case hh => first | exact ⟨by decide, by decide, by decide⟩ | exact ⟨by decide, by decide, by omega⟩); (case he => first | ((simp only [Int.reduceToNat, Int.reducePow]); done) | ((simp only [Int.reduceToNat, Int.reducePow]); rfl) | rfl))
  | ((with_reducible refine' r_i ?hh ?_); (case hh => walk_at "side"))
  | with_reducible refine r_call0 ?_
  | with_reducible refine r_call ?_
  | with_reducible refine r_cb ?_
  | with_reducible refine r_int ?_
  | ((with_reducible refine' r_strI ?hh ?_); (case hh => walk_at "lg"))
  | with_reducible refine r_i1 ?_
  | with_reducible refine r_i2 ?_
  | with_reducible refine r_par ?_
  | with_reducible refine r_two ?_
  | with_reducible refine r_par3 ?_
  | with_reducible refine r_three ?_
  | with_reducible refine r_and ?_
  | with_reducible refine r_or ?_
  | with_reducible refine r_not ?_
  | with_reducible refine r_tif ?_
  | with_reducible refine r_andV ?_
  | with_reducible refine r_orV ?_
  | with_reducible refine r_notV ?_
  | with_reducible refine r_un ?_
  | with_reducible refine r_u ?_
  | with_reducible refine r_sb ?_
  | with_reducible refine r_drop ?_
  | with_reducible refine r_next ?_
  | with_reducible refine r_gsub ?_
  | ((with_reducible refine' r_ixL ?hh ?he ?_); (case hh => walk_at "sq"); (case he => rfl))
  | ((with_reducible refine' r_ixT ?hh ?he ?_); (case hh => walk_at "sqt"); (case he => rfl))
  | ((with_reducible refine' r_setL ?hh ?he ?_); (case hh => walk_at "hf"); (case he => rfl))
  | with_reducible refine r_gcons ?_
  | with_reducible refine r_gnil ?_
  | with_reducible refine r_sl ?_
  | with_reducible refine r_nopart ?_
  | with_reducible refine r_part ?_
  | with_reducible refine r_pint ?_
  | ((with_reducible refine' r_lenS ?hh ?_); (case hh => walk_at "sqo"))
  | ((with_reducible refine' r_gtup ?hh ?he ?_); (case hh => walk_at "sqt"); (case he => rfl))
  | ((with_reducible refine' r_slL ?hh ?_); (case hh => walk_at "sq"))
  | ((with_reducible refine' r_len ?hh ?_); (case hh => exact sz (by (try simp only [List.length_map]); (first | omega | decide | exact Nat.le_of_ble_eq_true rfl))))
  | with_reducible refine r_isi_ii ?_
  | with_reducible refine r_isi_ib ?_
  | with_reducible refine r_isi_ss ?_
  | ((with_reducible refine' r_isi_own ?hh ?hi ?hk ?_); (case hh => walk_at "hf"); (case hi => with_reducible assumption); (case hk => with_reducible assumption))
  | with_reducible refine r_lst ?_
  | with_reducible refine r_tup ?_
  | with_reducible refine r_make ?_
  | with_reducible refine r_forR1 ?_
  | with_reducible refine r_forL ?_
  | with_reducible refine r_forT ?_
  | with_reducible refine r_forR2 ?_
  | with_reducible refine r_ref1 ?_
  | with_reducible refine r_brk ?_
  | with_reducible refine r_cont ?_
  | with_reducible refine r_retN ?_
  | with_reducible refine r_rr ?_
  | with_reducible refine r_fmt ?_
  | ((with_reducible refine' r_fmti ?hh ?_); (case hh => walk_at "lg"))
  | with_reducible refine r_js ?_
  | with_reducible refine r_js0 ?_
  | ((with_reducible refine' r_jsp ?hh ?_); (case hh => walk_at "len"))
  | with_reducible refine r_m0 ?_
  | with_reducible refine r_m1 ?_
  | with_reducible refine r_str ?_
  | with_reducible refine r_ss ?_
  | with_reducible refine r_s0 ?_
  | ((with_reducible refine' r_addS ?hh ?_); (case hh => walk_at "len"))
  | ((with_reducible refine' r_slS ?hh ?_); (case hh => walk_at "len"))
  | ((with_reducible refine' r_lenT ?hh ?_); (case hh => walk_at "len"))
  | ((with_reducible refine' r_memI ?hh ?_); (case hh => with_reducible assumption))
  | with_reducible refine r_eqB ?_
  | ((with_reducible refine' r_inT ?hh ?hf ?he ?_); (case hh => walk_at "sqt"); (case hf => rfl); (case he => rfl))
  | ((with_reducible refine' r_inF ?hh ?hf ?he ?_); (case hh => walk_at "sqt"); (case hf => rfl); (case he => rfl))
  | ((with_reducible refine' r_makeL ?hh ?_); (case hh => rfl))
  | with_reducible refine r_tprop ?_
  | with_reducible refine r_tfld ?_
  | ((with_reducible refine' f_prop ?hh ?_); (case hh => walk_at "hf"))
  | ((with_reducible refine' f_fld ?hh ?hc ?hn ?hl ?_); (case hh => walk_at "hf"); (case hc => with_reducible assumption); (case hn => with_reducible assumption); (case hl => rfl))
  | with_reducible refine r_tcm ?_
  | with_reducible refine r_chain ?_
  | with_reducible refine r_chain3 ?_
  | with_reducible refine r_bl1 ?_
  | with_reducible refine r_intb ?_
  | with_reducible refine r_yes ?_
  | with_reducible refine r_makeK ?_
  | with_reducible refine r_sfld ?_
  | ((with_reducible refine' f_sfld ?hh ?hc ?hn ?hl ?_); (case hh => walk_at "hf"); (case hc => with_reducible assumption); (case hn => with_reducible assumption); (case hl => exact Nat.le_of_ble_eq_true rfl))
  | with_reducible refine r_lcL ?_
  | with_reducible refine r_lcS ?_
  | with_reducible refine r_lcT ?_
  | with_reducible refine r_lcR1 ?_
  | with_reducible refine r_lcR2 ?_
  | with_reducible refine r_tbm ?_
  | with_reducible refine r_tbm0 ?_
  | ((with_reducible refine' f_tyL ?hh ?_); (case hh => walk_at "hf"))
  | ((with_reducible refine' r_app ?hh ?he ?_); (case hh => walk_at "hf"); (case he => walk_at "side"))
  | with_reducible refine r_tRev ?_
  | with_reducible refine r_lstRg1 ?_
  | with_reducible refine r_lcRV ?_
  | with_reducible refine r_makeS ?_
  | with_reducible refine r_cmS ?_
  | with_reducible refine r_methS ?_
  | with_reducible refine r_tupRg1 ?_
  | with_reducible refine r_forRV ?_
  | with_reducible refine r_raiseE ?_
  | with_reducible refine r_callG ?_
  | ((with_reducible refine' r_xfV ?hh ?hf ?hl ?_); (case hh => rfl); (case hf => walk_at "hf"); (case hl => rfl)))
local macro_rules | `(tactic| walk_at "go") => `(tactic| (repeat walk_at "st"))
local macro_rules | `(tactic| walk_at "in") => `(tactic| dsimp only [cxOf, L2.start, List.map, List.length, List.replicate, Nat.reduceSub, Nat.reduceAdd, List.cons_append, List.nil_append, List.append_nil])
local macro_rules | `(tactic| walk_at "bt") => `(tactic| first
  | with_reducible assumption
  | exact But.rfl
  | exact Same.but (by with_reducible assumption)
  | (refine' But.put ?ha; (case ha => walk_at "bt"))
  | (refine' But.new ?ha ?hn; (case hn => with_reducible assumption); (case ha => walk_at "bt"))
  | (refine' But.trans ?ha ?hb; (case hb => with_reducible assumption); (case ha => walk_at "bt"))
  | (refine' But.trans ?ha (Same.but ?hb); (case hb => with_reducible assumption); (case ha => walk_at "bt")))
local macro_rules | `(tactic| walk_at "sm") => `(tactic| first
  | with_reducible assumption
  | exact Same.refl _
  | (refine' Same.new ?ha ?hn; (case hn => with_reducible assumption); (case ha => walk_at "sm"))
  | (refine' Same.trans ?ha ?hb; (case hb => with_reducible assumption); (case ha => walk_at "sm")))

def top (i : Nat) : Stmt := PySem.Challenge.pw_drawclaims_k04_texts_of_ratios_and_share.main.body.getD i (.Pass ⟨0, 0, 0, 0⟩)
abbrev s_InvalidNumber__init : Stmt := (inClass (top 3) 0)
theorem sc_InvalidNumber__init : FnScope ["self", "number"] ["self", "number"] (defScope s_InvalidNumber__init) := ⟨rfl, rfl, rfl, by decide +kernel, rfl, by decide +kernel, by decide +kernel⟩
abbrev s_InvalidText__init : Stmt := (inClass (top 4) 0)
theorem sc_InvalidText__init : FnScope ["self", "text"] ["self", "text"] (defScope s_InvalidText__init) := ⟨rfl, rfl, rfl, by decide +kernel, rfl, by decide +kernel, by decide +kernel⟩
abbrev s_is_integer : Stmt := (top 7)
theorem sc_is_integer : FnScope ["value"] ["value"] (defScope s_is_integer) := ⟨rfl, rfl, rfl, by decide +kernel, rfl, by decide +kernel, by decide +kernel⟩
abbrev s_common_divisor : Stmt := (top 8)
theorem sc_common_divisor : FnScope ["first", "second", "great", "small"] ["first", "second"] (defScope s_common_divisor) := ⟨rfl, rfl, rfl, by decide +kernel, rfl, by decide +kernel, by decide +kernel⟩
abbrev s_read_integer : Stmt := (top 9)
theorem sc_read_integer : FnScope ["text", "digits"] ["text"] (defScope s_read_integer) := ⟨rfl, rfl, rfl, by decide +kernel, rfl, by decide +kernel, by decide +kernel⟩
abbrev s_Ratio__init : Stmt := (inClass (top 12) 0)
theorem sc_Ratio__init : FnScope ["self", "top", "bottom", "divisor"] ["self", "top", "bottom"] (defScope s_Ratio__init) := ⟨rfl, rfl, rfl, by decide +kernel, rfl, by decide +kernel, by decide +kernel⟩
abbrev s_Ratio_read : Stmt := (inClass (top 12) 1)
theorem sc_Ratio_read : FnScope ["cls", "text", "words", "top", "bottom", "found"] ["cls", "text"] (defScope s_Ratio_read) := ⟨rfl, rfl, rfl, by decide +kernel, rfl, by decide +kernel, by decide +kernel⟩
abbrev s_Ratio__str : Stmt := (inClass (top 12) 16)
theorem sc_Ratio__str : FnScope ["self"] ["self"] (defScope s_Ratio__str) := ⟨rfl, rfl, rfl, by decide +kernel, rfl, by decide +kernel, by decide +kernel⟩
abbrev s_Ratio__repr : Stmt := (inClass (top 12) 17)
theorem sc_Ratio__repr : FnScope ["self"] ["self"] (defScope s_Ratio__repr) := ⟨rfl, rfl, rfl, by decide +kernel, rfl, by decide +kernel, by decide +kernel⟩
abbrev s_is_share : Stmt := (top 13)
theorem sc_is_share : FnScope ["value"] ["value"] (defScope s_is_share) := ⟨rfl, rfl, rfl, by decide +kernel, rfl, by decide +kernel, by decide +kernel⟩
abbrev s_law_purse : Stmt := (top 15)
theorem sc_law_purse : FnScope ["_law_script", "_law_place", "_law_cell", "_law_number", "_law_mixed"] ["_law_script", "_law_place"] (defScope s_law_purse) := ⟨rfl, rfl, rfl, by decide +kernel, rfl, by decide +kernel, by decide +kernel⟩
abbrev s_law_draw : Stmt := (top 16)
theorem sc_law_draw : FnScope ["_law_purse_here", "_law_many", "_law_mixed", "_law_step", "_law_digit"] ["_law_purse_here", "_law_many"] (defScope s_law_draw) := ⟨rfl, rfl, rfl, by decide +kernel, rfl, by decide +kernel, by decide +kernel⟩
abbrev s_law_great : Stmt := (top 17)
theorem sc_law_great : FnScope ["_law_purse_here", "_law_many", "_law_made_here", "_law_turn"] ["_law_purse_here", "_law_many"] (defScope s_law_great) := ⟨rfl, rfl, rfl, by decide +kernel, rfl, by decide +kernel, by decide +kernel⟩
abbrev s_law_integer : Stmt := (top 18)
theorem sc_law_integer : FnScope ["_law_purse_here", "_law_way", "_law_sign"] ["_law_purse_here"] (defScope s_law_integer) := ⟨rfl, rfl, rfl, by decide +kernel, rfl, by decide +kernel, by decide +kernel⟩
abbrev s_law_divisor : Stmt := (top 19)
theorem sc_law_divisor : FnScope ["_law_top", "_law_bottom", "_law_great_here", "_law_small"] ["_law_top", "_law_bottom"] (defScope s_law_divisor) := ⟨rfl, rfl, rfl, by decide +kernel, rfl, by decide +kernel, by decide +kernel⟩
abbrev s_law_whole : Stmt := (top 20)
theorem sc_law_whole : FnScope ["_law_word", "_law_digits", "_law_sign"] ["_law_word"] (defScope s_law_whole) := ⟨rfl, rfl, rfl, by decide +kernel, rfl, by decide +kernel, by decide +kernel⟩
abbrev s_law_value : Stmt := (top 21)
theorem sc_law_value : FnScope ["_law_text_here", "_law_words", "_law_numbers", "_law_top", "_law_bottom", "_law_word"] ["_law_text_here"] (defScope s_law_value) := ⟨rfl, rfl, rfl, by decide +kernel, rfl, by decide +kernel, by decide +kernel⟩
abbrev s_law_text : Stmt := (top 22)
theorem sc_law_text : FnScope ["_law_purse_here", "_law_text_here", "_law_way", "_law_sign", "_law_place", "_law_some"] ["_law_purse_here"] (defScope s_law_text) := ⟨rfl, rfl, rfl, by decide +kernel, rfl, by decide +kernel, by decide +kernel⟩
abbrev s_law_read : Stmt := (top 23)
theorem sc_law_read : FnScope ["_law_thing", "_law_made_here", "_law_found", "e"] ["_law_thing"] (defScope s_law_read) := ⟨rfl, rfl, rfl, by decide +kernel, rfl, by decide +kernel, by decide +kernel⟩
abbrev s_law_made : Stmt := (top 24)
theorem sc_law_made : FnScope ["_law_top", "_law_bottom", "_law_made_here", "_law_found", "e"] ["_law_top", "_law_bottom"] (defScope s_law_made) := ⟨rfl, rfl, rfl, by decide +kernel, rfl, by decide +kernel, by decide +kernel⟩
abbrev s_law_refused : Stmt := (top 25)
theorem sc_law_refused : FnScope ["_law_purse_here", "_law_odd", "_law_top", "_law_bottom", "_law_spare", "_law_low", "_law_thing"] ["_law_purse_here"] (defScope s_law_refused) := ⟨rfl, rfl, rfl, by decide +kernel, rfl, by decide +kernel, by decide +kernel⟩
abbrev s_law_due_text : Stmt := (top 26)
theorem sc_law_due_text : FnScope ["_law_thing"] ["_law_thing"] (defScope s_law_due_text) := ⟨rfl, rfl, rfl, by decide +kernel, rfl, by decide +kernel, by decide +kernel⟩
abbrev s_law_shares : Stmt := (top 27)
theorem sc_law_shares : FnScope ["_law_purse_here", "_law_bottom", "_law_some", "_law_top", "_law_one", "_law_under", "_law_things", "_law_thing"] ["_law_purse_here"] (defScope s_law_shares) := ⟨rfl, rfl, rfl, by decide +kernel, rfl, by decide +kernel, by decide +kernel⟩
abbrev s_law_right : Stmt := (top 28)
theorem sc_law_right : FnScope ["_law_purse_here", "_law_turn", "_law_text_here", "_law_due"] ["_law_purse_here"] (defScope s_law_right) := ⟨rfl, rfl, rfl, by decide +kernel, rfl, by decide +kernel, by decide +kernel⟩
abbrev s_law : Stmt := (top 29)
theorem sc_law : FnScope ["_law_script", "_law_place"] ["_law_script"] (defScope s_law) := ⟨rfl, rfl, rfl, by decide +kernel, rfl, by decide +kernel, by decide +kernel⟩
def d_InvalidNumber__init : Hk.DefE := ⟨fun K => He.ma K (He.ga K "InvalidNumber") "__init__", "__init__", "InvalidNumber.__init__", defArgs s_InvalidNumber__init, defBody s_InvalidNumber__init, defScope s_InvalidNumber__init, [], []⟩
def d_InvalidText__init : Hk.DefE := ⟨fun K => He.ma K (He.ga K "InvalidText") "__init__", "__init__", "InvalidText.__init__", defArgs s_InvalidText__init, defBody s_InvalidText__init, defScope s_InvalidText__init, [], []⟩
def d_is_integer : Hk.DefE := ⟨fun K => He.ga K "is_integer", "is_integer", "is_integer", defArgs s_is_integer, defBody s_is_integer, defScope s_is_integer, [], []⟩
def d_common_divisor : Hk.DefE := ⟨fun K => He.ga K "common_divisor", "common_divisor", "common_divisor", defArgs s_common_divisor, defBody s_common_divisor, defScope s_common_divisor, [], []⟩
def d_read_integer : Hk.DefE := ⟨fun K => He.ga K "read_integer", "read_integer", "read_integer", defArgs s_read_integer, defBody s_read_integer, defScope s_read_integer, [], []⟩
def d_Ratio__init : Hk.DefE := ⟨fun K => He.ma K (He.ga K "Ratio") "__init__", "__init__", "Ratio.__init__", defArgs s_Ratio__init, defBody s_Ratio__init, defScope s_Ratio__init, [.int 1], []⟩
def d_Ratio_read : Hk.DefE := ⟨Hk.wfA "Ratio" "classmethod" "read", "read", "Ratio.read", defArgs s_Ratio_read, defBody s_Ratio_read, defScope s_Ratio_read, [], []⟩
def d_Ratio__str : Hk.DefE := ⟨fun K => He.ma K (He.ga K "Ratio") "__str__", "__str__", "Ratio.__str__", defArgs s_Ratio__str, defBody s_Ratio__str, defScope s_Ratio__str, [], []⟩
def d_Ratio__repr : Hk.DefE := ⟨fun K => He.ma K (He.ga K "Ratio") "__repr__", "__repr__", "Ratio.__repr__", defArgs s_Ratio__repr, defBody s_Ratio__repr, defScope s_Ratio__repr, [], []⟩
def d_is_share : Hk.DefE := ⟨fun K => He.ga K "is_share", "is_share", "is_share", defArgs s_is_share, defBody s_is_share, defScope s_is_share, [], []⟩
def d_law_purse : Hk.DefE := ⟨fun K => He.ga K "_law_purse", "_law_purse", "_law_purse", defArgs s_law_purse, defBody s_law_purse, defScope s_law_purse, [], []⟩
def d_law_draw : Hk.DefE := ⟨fun K => He.ga K "_law_draw", "_law_draw", "_law_draw", defArgs s_law_draw, defBody s_law_draw, defScope s_law_draw, [], []⟩
def d_law_great : Hk.DefE := ⟨fun K => He.ga K "_law_great", "_law_great", "_law_great", defArgs s_law_great, defBody s_law_great, defScope s_law_great, [], []⟩
def d_law_integer : Hk.DefE := ⟨fun K => He.ga K "_law_integer", "_law_integer", "_law_integer", defArgs s_law_integer, defBody s_law_integer, defScope s_law_integer, [], []⟩
def d_law_divisor : Hk.DefE := ⟨fun K => He.ga K "_law_divisor", "_law_divisor", "_law_divisor", defArgs s_law_divisor, defBody s_law_divisor, defScope s_law_divisor, [], []⟩
def d_law_whole : Hk.DefE := ⟨fun K => He.ga K "_law_whole", "_law_whole", "_law_whole", defArgs s_law_whole, defBody s_law_whole, defScope s_law_whole, [], []⟩
def d_law_value : Hk.DefE := ⟨fun K => He.ga K "_law_value", "_law_value", "_law_value", defArgs s_law_value, defBody s_law_value, defScope s_law_value, [], []⟩
def d_law_text : Hk.DefE := ⟨fun K => He.ga K "_law_text", "_law_text", "_law_text", defArgs s_law_text, defBody s_law_text, defScope s_law_text, [], []⟩
def d_law_read : Hk.DefE := ⟨fun K => He.ga K "_law_read", "_law_read", "_law_read", defArgs s_law_read, defBody s_law_read, defScope s_law_read, [], []⟩
def d_law_made : Hk.DefE := ⟨fun K => He.ga K "_law_made", "_law_made", "_law_made", defArgs s_law_made, defBody s_law_made, defScope s_law_made, [], []⟩
def d_law_refused : Hk.DefE := ⟨fun K => He.ga K "_law_refused", "_law_refused", "_law_refused", defArgs s_law_refused, defBody s_law_refused, defScope s_law_refused, [], []⟩
def d_law_due_text : Hk.DefE := ⟨fun K => He.ga K "_law_due_text", "_law_due_text", "_law_due_text", defArgs s_law_due_text, defBody s_law_due_text, defScope s_law_due_text, [], []⟩
def d_law_shares : Hk.DefE := ⟨fun K => He.ga K "_law_shares", "_law_shares", "_law_shares", defArgs s_law_shares, defBody s_law_shares, defScope s_law_shares, [], []⟩
def d_law_right : Hk.DefE := ⟨fun K => He.ga K "_law_right", "_law_right", "_law_right", defArgs s_law_right, defBody s_law_right, defScope s_law_right, [], []⟩
def d_law : Hk.DefE := ⟨fun K => He.ga K "law", "law", "law", defArgs s_law, defBody s_law, defScope s_law, [], []⟩
def fn : List Hk.DefE := [d_InvalidNumber__init, d_InvalidText__init, d_is_integer, d_common_divisor, d_read_integer, d_Ratio__init, d_Ratio_read, d_Ratio__str, d_Ratio__repr, d_is_share, d_law_purse, d_law_draw, d_law_great, d_law_integer, d_law_divisor, d_law_whole, d_law_value, d_law_text, d_law_read, d_law_made, d_law_refused, d_law_due_text, d_law_shares, d_law_right, d_law]
def fa : List He.Fa := [.glo "is_integer", .glo "common_divisor", .glo "read_integer", .glo "is_share", .glo "_law_purse", .glo "_law_draw", .glo "_law_great", .glo "_law_integer", .glo "_law_divisor", .glo "_law_whole", .glo "_law_value", .glo "_law_text", .glo "_law_read", .glo "_law_made", .glo "_law_refused", .glo "_law_due_text", .glo "_law_shares", .glo "_law_right", .glo "law", .free "isinstance", .free "int", .free "bool", .free "abs", .free "len", .free "str", .free "divmod", .free "range", .free "max", .free "min", .free "repr", .free "ValueError", .int "FIGURES" 4300, .int "SHARE_BOTTOM" 1000000000, .glo "Ratio", .cls "Ratio", .noat "Ratio" "top", .noat "Ratio" "bottom", .mkr "Ratio", .glo "InvalidNumber", .glo "InvalidText", .glo "InputError"]
def exs (K : PySem.W.Frag) : List Bool := [crB K "Ratio", cmB K "Ratio" "read", spB K "Ratio" "__str__", spB K "Ratio" "__repr__", insB K "Ratio", errB K "InvalidNumber", noB K "InvalidNumber" "number", errB K "InvalidText", noB K "InvalidText" "text", exmB K "InvalidNumber" "InvalidNumber" true, exmB K "InvalidText" "InvalidText" true, isiB K (.type "int") (.ref (He.ga K "Ratio")) false, isiB K (.type "bool") (.ref (He.ga K "Ratio")) false, isiB K (.type "NoneType") (.ref (He.ga K "Ratio")) false, isiB K (.type "str") (.ref (He.ga K "Ratio")) false, isiB K (.type "list") (.ref (He.ga K "Ratio")) false, isiB K (.type "tuple") (.ref (He.ga K "Ratio")) false, isiB K (.type "dict") (.ref (He.ga K "Ratio")) false, isiB K (.ref (He.ga K "Ratio")) (.ref (He.ga K "Ratio")) true, isiB K (.ref (He.ga K "Ratio")) (.type "int") false, isiB K (.ref (He.ga K "Ratio")) (.type "str") false, isiB K (.ref (He.ga K "InvalidText")) (.ref (He.ga K "InputError")) true, isiB K (.ref (He.ga K "InvalidText")) (.type "ValueError") true, isiB K (.ref (He.ga K "InvalidNumber")) (.ref (He.ga K "InputError")) true, isiB K (.ref (He.ga K "InvalidNumber")) (.ref (He.ga K "InvalidText")) false]
def ex (K : PySem.W.Frag) : Bool := (exs K).all id
theorem ex_at {K : PySem.W.Frag} (c : Hk.SaysE fa fn ex K) (i : Nat) {b : Bool} (h : (exs K)[i]? = some b) : b = true := List.all_eq_true.mp c.more b (List.mem_of_getElem? h)
/-- what the top has written -/
structure Tx (K : PySem.W.Frag) (mg : Str → Option Value) : Prop where
  d_InvalidNumber__init : ∃ fd, FunD K "__init__" "InvalidNumber.__init__" (defArgs s_InvalidNumber__init) (defBody s_InvalidNumber__init) (defScope s_InvalidNumber__init) (d_InvalidNumber__init.dvs K) (d_InvalidNumber__init.kws K) (d_InvalidNumber__init.adr K) fd
  d_InvalidText__init : ∃ fd, FunD K "__init__" "InvalidText.__init__" (defArgs s_InvalidText__init) (defBody s_InvalidText__init) (defScope s_InvalidText__init) (d_InvalidText__init.dvs K) (d_InvalidText__init.kws K) (d_InvalidText__init.adr K) fd
  d_is_integer : ∃ fd, FunD K "is_integer" "is_integer" (defArgs s_is_integer) (defBody s_is_integer) (defScope s_is_integer) (d_is_integer.dvs K) (d_is_integer.kws K) (d_is_integer.adr K) fd
  g_is_integer : mg "is_integer" = some (.ref (He.ga K "is_integer"))
  d_common_divisor : ∃ fd, FunD K "common_divisor" "common_divisor" (defArgs s_common_divisor) (defBody s_common_divisor) (defScope s_common_divisor) (d_common_divisor.dvs K) (d_common_divisor.kws K) (d_common_divisor.adr K) fd
  g_common_divisor : mg "common_divisor" = some (.ref (He.ga K "common_divisor"))
  d_read_integer : ∃ fd, FunD K "read_integer" "read_integer" (defArgs s_read_integer) (defBody s_read_integer) (defScope s_read_integer) (d_read_integer.dvs K) (d_read_integer.kws K) (d_read_integer.adr K) fd
  g_read_integer : mg "read_integer" = some (.ref (He.ga K "read_integer"))
  d_Ratio__init : ∃ fd, FunD K "__init__" "Ratio.__init__" (defArgs s_Ratio__init) (defBody s_Ratio__init) (defScope s_Ratio__init) (d_Ratio__init.dvs K) (d_Ratio__init.kws K) (d_Ratio__init.adr K) fd
  d_Ratio_read : ∃ fd, FunD K "read" "Ratio.read" (defArgs s_Ratio_read) (defBody s_Ratio_read) (defScope s_Ratio_read) (d_Ratio_read.dvs K) (d_Ratio_read.kws K) (d_Ratio_read.adr K) fd
  d_Ratio__str : ∃ fd, FunD K "__str__" "Ratio.__str__" (defArgs s_Ratio__str) (defBody s_Ratio__str) (defScope s_Ratio__str) (d_Ratio__str.dvs K) (d_Ratio__str.kws K) (d_Ratio__str.adr K) fd
  d_Ratio__repr : ∃ fd, FunD K "__repr__" "Ratio.__repr__" (defArgs s_Ratio__repr) (defBody s_Ratio__repr) (defScope s_Ratio__repr) (d_Ratio__repr.dvs K) (d_Ratio__repr.kws K) (d_Ratio__repr.adr K) fd
  d_is_share : ∃ fd, FunD K "is_share" "is_share" (defArgs s_is_share) (defBody s_is_share) (defScope s_is_share) (d_is_share.dvs K) (d_is_share.kws K) (d_is_share.adr K) fd
  g_is_share : mg "is_share" = some (.ref (He.ga K "is_share"))
  d_law_purse : ∃ fd, FunD K "_law_purse" "_law_purse" (defArgs s_law_purse) (defBody s_law_purse) (defScope s_law_purse) (d_law_purse.dvs K) (d_law_purse.kws K) (d_law_purse.adr K) fd
  g_law_purse : mg "_law_purse" = some (.ref (He.ga K "_law_purse"))
  d_law_draw : ∃ fd, FunD K "_law_draw" "_law_draw" (defArgs s_law_draw) (defBody s_law_draw) (defScope s_law_draw) (d_law_draw.dvs K) (d_law_draw.kws K) (d_law_draw.adr K) fd
  g_law_draw : mg "_law_draw" = some (.ref (He.ga K "_law_draw"))
  d_law_great : ∃ fd, FunD K "_law_great" "_law_great" (defArgs s_law_great) (defBody s_law_great) (defScope s_law_great) (d_law_great.dvs K) (d_law_great.kws K) (d_law_great.adr K) fd
  g_law_great : mg "_law_great" = some (.ref (He.ga K "_law_great"))
  d_law_integer : ∃ fd, FunD K "_law_integer" "_law_integer" (defArgs s_law_integer) (defBody s_law_integer) (defScope s_law_integer) (d_law_integer.dvs K) (d_law_integer.kws K) (d_law_integer.adr K) fd
  g_law_integer : mg "_law_integer" = some (.ref (He.ga K "_law_integer"))
  d_law_divisor : ∃ fd, FunD K "_law_divisor" "_law_divisor" (defArgs s_law_divisor) (defBody s_law_divisor) (defScope s_law_divisor) (d_law_divisor.dvs K) (d_law_divisor.kws K) (d_law_divisor.adr K) fd
  g_law_divisor : mg "_law_divisor" = some (.ref (He.ga K "_law_divisor"))
  d_law_whole : ∃ fd, FunD K "_law_whole" "_law_whole" (defArgs s_law_whole) (defBody s_law_whole) (defScope s_law_whole) (d_law_whole.dvs K) (d_law_whole.kws K) (d_law_whole.adr K) fd
  g_law_whole : mg "_law_whole" = some (.ref (He.ga K "_law_whole"))
  d_law_value : ∃ fd, FunD K "_law_value" "_law_value" (defArgs s_law_value) (defBody s_law_value) (defScope s_law_value) (d_law_value.dvs K) (d_law_value.kws K) (d_law_value.adr K) fd
  g_law_value : mg "_law_value" = some (.ref (He.ga K "_law_value"))
  d_law_text : ∃ fd, FunD K "_law_text" "_law_text" (defArgs s_law_text) (defBody s_law_text) (defScope s_law_text) (d_law_text.dvs K) (d_law_text.kws K) (d_law_text.adr K) fd
  g_law_text : mg "_law_text" = some (.ref (He.ga K "_law_text"))
  d_law_read : ∃ fd, FunD K "_law_read" "_law_read" (defArgs s_law_read) (defBody s_law_read) (defScope s_law_read) (d_law_read.dvs K) (d_law_read.kws K) (d_law_read.adr K) fd
  g_law_read : mg "_law_read" = some (.ref (He.ga K "_law_read"))
  d_law_made : ∃ fd, FunD K "_law_made" "_law_made" (defArgs s_law_made) (defBody s_law_made) (defScope s_law_made) (d_law_made.dvs K) (d_law_made.kws K) (d_law_made.adr K) fd
  g_law_made : mg "_law_made" = some (.ref (He.ga K "_law_made"))
  d_law_refused : ∃ fd, FunD K "_law_refused" "_law_refused" (defArgs s_law_refused) (defBody s_law_refused) (defScope s_law_refused) (d_law_refused.dvs K) (d_law_refused.kws K) (d_law_refused.adr K) fd
  g_law_refused : mg "_law_refused" = some (.ref (He.ga K "_law_refused"))
  d_law_due_text : ∃ fd, FunD K "_law_due_text" "_law_due_text" (defArgs s_law_due_text) (defBody s_law_due_text) (defScope s_law_due_text) (d_law_due_text.dvs K) (d_law_due_text.kws K) (d_law_due_text.adr K) fd
  g_law_due_text : mg "_law_due_text" = some (.ref (He.ga K "_law_due_text"))
  d_law_shares : ∃ fd, FunD K "_law_shares" "_law_shares" (defArgs s_law_shares) (defBody s_law_shares) (defScope s_law_shares) (d_law_shares.dvs K) (d_law_shares.kws K) (d_law_shares.adr K) fd
  g_law_shares : mg "_law_shares" = some (.ref (He.ga K "_law_shares"))
  d_law_right : ∃ fd, FunD K "_law_right" "_law_right" (defArgs s_law_right) (defBody s_law_right) (defScope s_law_right) (d_law_right.dvs K) (d_law_right.kws K) (d_law_right.adr K) fd
  g_law_right : mg "_law_right" = some (.ref (He.ga K "_law_right"))
  d_law : ∃ fd, FunD K "law" "law" (defArgs s_law) (defBody s_law) (defScope s_law) (d_law.dvs K) (d_law.kws K) (d_law.adr K) fd
  g_law : mg "law" = some (.ref (He.ga K "law"))
  f_isinstance : mg "isinstance" = none
  f_int : mg "int" = none
  f_bool : mg "bool" = none
  f_abs : mg "abs" = none
  f_len : mg "len" = none
  f_str : mg "str" = none
  f_divmod : mg "divmod" = none
  f_range : mg "range" = none
  f_max : mg "max" = none
  f_min : mg "min" = none
  f_repr : mg "repr" = none
  f_ValueError : mg "ValueError" = none
  c_FIGURES : ∃ t, mg "FIGURES" = some (.int 4300 t)
  c_SHARE_BOTTOM : ∃ t, mg "SHARE_BOTTOM" = some (.int 1000000000 t)
  g_Ratio : mg "Ratio" = some (.ref (He.ga K "Ratio"))
  cl_Ratio : Cls K (He.ga K "Ratio")
  n_Ratio_top : NoAttr K (He.ga K "Ratio") "top"
  n_Ratio_bottom : NoAttr K (He.ga K "Ratio") "bottom"
  mk_Ratio : Mg K (He.ga K "Ratio") (He.ma K (He.ga K "Ratio") "__init__")
  cr_Ratio : ClX.CRead K (He.ga K "Ratio") (.type "type")
  cm_Ratio_read : ClX.CMet K (He.ga K "Ratio") (.type "type") "read" (He.ma K (He.ga K "Ratio") "read") (Hk.wfA "Ratio" "classmethod" "read" K)
  sp_Ratio__str : SpOk K (He.ga K "Ratio") "__str__" (He.ma K (He.ga K "Ratio") "__str__")
  sp_Ratio__repr : SpOk K (He.ga K "Ratio") "__repr__" (He.ma K (He.ga K "Ratio") "__repr__")
  in_Ratio : InsOk K (He.ga K "Ratio")
  g_InvalidNumber : mg "InvalidNumber" = some (.ref (He.ga K "InvalidNumber"))
  er_InvalidNumber : ErrOk K (He.ga K "InvalidNumber") (He.ma K (He.ga K "InvalidNumber") "__init__")
  no_InvalidNumber : PySem.W.findIn K (.ref (He.ga K "InvalidNumber")) "number" = some none
  g_InvalidText : mg "InvalidText" = some (.ref (He.ga K "InvalidText"))
  er_InvalidText : ErrOk K (He.ga K "InvalidText") (He.ma K (He.ga K "InvalidText") "__init__")
  no_InvalidText : PySem.W.findIn K (.ref (He.ga K "InvalidText")) "text" = some none
  g_InputError : mg "InputError" = some (.ref (He.ga K "InputError"))
  xm_InvalidNumber_InvalidNumber : PySem.W.exmOne K (.ref (He.ga K "InvalidNumber")) (.ref (He.ga K "InvalidNumber")) = some true
  xm_InvalidText_InvalidText : PySem.W.exmOne K (.ref (He.ga K "InvalidText")) (.ref (He.ga K "InvalidText")) = some true
  i_Kint : PySem.W.kitOne K (.type "int") (.ref (He.ga K "Ratio")) = some false
  i_Kbool : PySem.W.kitOne K (.type "bool") (.ref (He.ga K "Ratio")) = some false
  i_KNoneType : PySem.W.kitOne K (.type "NoneType") (.ref (He.ga K "Ratio")) = some false
  i_Kstr : PySem.W.kitOne K (.type "str") (.ref (He.ga K "Ratio")) = some false
  i_Klist : PySem.W.kitOne K (.type "list") (.ref (He.ga K "Ratio")) = some false
  i_Ktuple : PySem.W.kitOne K (.type "tuple") (.ref (He.ga K "Ratio")) = some false
  i_Kdict : PySem.W.kitOne K (.type "dict") (.ref (He.ga K "Ratio")) = some false
  i_RR : PySem.W.kitOne K (.ref (He.ga K "Ratio")) (.ref (He.ga K "Ratio")) = some true
  i_RI : PySem.W.kitOne K (.ref (He.ga K "Ratio")) (.type "int") = some false
  i_RS : PySem.W.kitOne K (.ref (He.ga K "Ratio")) (.type "str") = some false
  i_TI : PySem.W.kitOne K (.ref (He.ga K "InvalidText")) (.ref (He.ga K "InputError")) = some true
  i_TV : PySem.W.kitOne K (.ref (He.ga K "InvalidText")) (.type "ValueError") = some true
  i_NI : PySem.W.kitOne K (.ref (He.ga K "InvalidNumber")) (.ref (He.ga K "InputError")) = some true
  i_NT : PySem.W.kitOne K (.ref (He.ga K "InvalidNumber")) (.ref (He.ga K "InvalidText")) = some false
theorem tx_ok {K : PySem.W.Frag} {h : Heap} {mg : Str → Option Value} (X : K.In h) (G : h.Ns mainGlobals mg) (c : Hk.SaysE fa fn ex K) : Tx K mg where
  d_InvalidNumber__init := c.def_ 0 rfl
  d_InvalidText__init := c.def_ 1 rfl
  d_is_integer := c.def_ 2 rfl
  g_is_integer := He.glo_ok X G (c.fact 0 (f := .glo "is_integer") rfl)
  d_common_divisor := c.def_ 3 rfl
  g_common_divisor := He.glo_ok X G (c.fact 1 (f := .glo "common_divisor") rfl)
  d_read_integer := c.def_ 4 rfl
  g_read_integer := He.glo_ok X G (c.fact 2 (f := .glo "read_integer") rfl)
  d_Ratio__init := c.def_ 5 rfl
  d_Ratio_read := c.def_ 6 rfl
  d_Ratio__str := c.def_ 7 rfl
  d_Ratio__repr := c.def_ 8 rfl
  d_is_share := c.def_ 9 rfl
  g_is_share := He.glo_ok X G (c.fact 3 (f := .glo "is_share") rfl)
  d_law_purse := c.def_ 10 rfl
  g_law_purse := He.glo_ok X G (c.fact 4 (f := .glo "_law_purse") rfl)
  d_law_draw := c.def_ 11 rfl
  g_law_draw := He.glo_ok X G (c.fact 5 (f := .glo "_law_draw") rfl)
  d_law_great := c.def_ 12 rfl
  g_law_great := He.glo_ok X G (c.fact 6 (f := .glo "_law_great") rfl)
  d_law_integer := c.def_ 13 rfl
  g_law_integer := He.glo_ok X G (c.fact 7 (f := .glo "_law_integer") rfl)
  d_law_divisor := c.def_ 14 rfl
  g_law_divisor := He.glo_ok X G (c.fact 8 (f := .glo "_law_divisor") rfl)
  d_law_whole := c.def_ 15 rfl
  g_law_whole := He.glo_ok X G (c.fact 9 (f := .glo "_law_whole") rfl)
  d_law_value := c.def_ 16 rfl
  g_law_value := He.glo_ok X G (c.fact 10 (f := .glo "_law_value") rfl)
  d_law_text := c.def_ 17 rfl
  g_law_text := He.glo_ok X G (c.fact 11 (f := .glo "_law_text") rfl)
  d_law_read := c.def_ 18 rfl
  g_law_read := He.glo_ok X G (c.fact 12 (f := .glo "_law_read") rfl)
  d_law_made := c.def_ 19 rfl
  g_law_made := He.glo_ok X G (c.fact 13 (f := .glo "_law_made") rfl)
  d_law_refused := c.def_ 20 rfl
  g_law_refused := He.glo_ok X G (c.fact 14 (f := .glo "_law_refused") rfl)
  d_law_due_text := c.def_ 21 rfl
  g_law_due_text := He.glo_ok X G (c.fact 15 (f := .glo "_law_due_text") rfl)
  d_law_shares := c.def_ 22 rfl
  g_law_shares := He.glo_ok X G (c.fact 16 (f := .glo "_law_shares") rfl)
  d_law_right := c.def_ 23 rfl
  g_law_right := He.glo_ok X G (c.fact 17 (f := .glo "_law_right") rfl)
  d_law := c.def_ 24 rfl
  g_law := He.glo_ok X G (c.fact 18 (f := .glo "law") rfl)
  f_isinstance := He.free_ok X G (c.fact 19 (f := .free "isinstance") rfl)
  f_int := He.free_ok X G (c.fact 20 (f := .free "int") rfl)
  f_bool := He.free_ok X G (c.fact 21 (f := .free "bool") rfl)
  f_abs := He.free_ok X G (c.fact 22 (f := .free "abs") rfl)
  f_len := He.free_ok X G (c.fact 23 (f := .free "len") rfl)
  f_str := He.free_ok X G (c.fact 24 (f := .free "str") rfl)
  f_divmod := He.free_ok X G (c.fact 25 (f := .free "divmod") rfl)
  f_range := He.free_ok X G (c.fact 26 (f := .free "range") rfl)
  f_max := He.free_ok X G (c.fact 27 (f := .free "max") rfl)
  f_min := He.free_ok X G (c.fact 28 (f := .free "min") rfl)
  f_repr := He.free_ok X G (c.fact 29 (f := .free "repr") rfl)
  f_ValueError := He.free_ok X G (c.fact 30 (f := .free "ValueError") rfl)
  c_FIGURES := He.int_ok X G (c.fact 31 (f := .int "FIGURES" 4300) rfl)
  c_SHARE_BOTTOM := He.int_ok X G (c.fact 32 (f := .int "SHARE_BOTTOM" 1000000000) rfl)
  g_Ratio := He.glo_ok X G (c.fact 33 (f := .glo "Ratio") rfl)
  cl_Ratio := He.cls_ok (c.fact 34 (f := .cls "Ratio") rfl)
  n_Ratio_top := He.noat_ok (c.fact 35 (f := .noat "Ratio" "top") rfl)
  n_Ratio_bottom := He.noat_ok (c.fact 36 (f := .noat "Ratio" "bottom") rfl)
  mk_Ratio := mg_ok (c.fact 37 (f := .mkr "Ratio") rfl)
  cr_Ratio := crB_ok (ex_at c 0 rfl)
  cm_Ratio_read := cmB_ok (ex_at c 1 rfl)
  sp_Ratio__str := spB_ok (ex_at c 2 rfl)
  sp_Ratio__repr := spB_ok (ex_at c 3 rfl)
  in_Ratio := insB_ok (He.cls_ok (c.fact 34 (f := .cls "Ratio") rfl)) (ex_at c 4 rfl)
  g_InvalidNumber := He.glo_ok X G (c.fact 38 (f := .glo "InvalidNumber") rfl)
  er_InvalidNumber := errB_ok (ex_at c 5 rfl)
  no_InvalidNumber := noB_ok (ex_at c 6 rfl)
  g_InvalidText := He.glo_ok X G (c.fact 39 (f := .glo "InvalidText") rfl)
  er_InvalidText := errB_ok (ex_at c 7 rfl)
  no_InvalidText := noB_ok (ex_at c 8 rfl)
  g_InputError := He.glo_ok X G (c.fact 40 (f := .glo "InputError") rfl)
  xm_InvalidNumber_InvalidNumber := exmB_ok (ex_at c 9 rfl)
  xm_InvalidText_InvalidText := exmB_ok (ex_at c 10 rfl)
  i_Kint := isiB_ok (ex_at c 11 rfl)
  i_Kbool := isiB_ok (ex_at c 12 rfl)
  i_KNoneType := isiB_ok (ex_at c 13 rfl)
  i_Kstr := isiB_ok (ex_at c 14 rfl)
  i_Klist := isiB_ok (ex_at c 15 rfl)
  i_Ktuple := isiB_ok (ex_at c 16 rfl)
  i_Kdict := isiB_ok (ex_at c 17 rfl)
  i_RR := isiB_ok (ex_at c 18 rfl)
  i_RI := isiB_ok (ex_at c 19 rfl)
  i_RS := isiB_ok (ex_at c 20 rfl)
  i_TI := isiB_ok (ex_at c 21 rfl)
  i_TV := isiB_ok (ex_at c 22 rfl)
  i_NI := isiB_ok (ex_at c 23 rfl)
  i_NT := isiB_ok (ex_at c 24 rfl)
/-! ### the draws: a purse at p; every number drawn is any in its range -/
def Purse (H : Hp) (p : Addr) : Prop := ∃ a b c : Int, H p = some (.lst [.int a, .int b, .int c]) ∧ 0 ≤ a ∧ a < 2147483629 ∧ 0 ≤ b
theorem Purse.same {H H' : Hp} {p : Addr} (h : Purse H p) (s : Same H H') : Purse H' p := let ⟨a, b, c, e, q⟩ := h; ⟨a, b, c, s _ _ e, q⟩
theorem Purse.new {H : Hp} {p l : Addr} {o : HO} (h : Purse H p) (n : H l = none) : Purse (upd H l o) p := h.same (My.Same.new (Same.refl H) n)
theorem Purse.ne {H : Hp} {p l : Addr} (h : Purse H p) (n : H l = none) : l ≠ p := let ⟨_, _, _, e, _⟩ := h; (ne_of_none e n).symm
def spDraw : Sp := fun vs H Q _ => ∃ p m, vs = [.ref p, .int m] ∧ Purse H p ∧ 0 < m ∧ m < 2 ^ 200 ∧ ∀ d H', 0 ≤ d → d < m → Purse H' p → But p H H' → Q (.int d) H'
theorem go_draw {p : Addr} {m : Int} {H : Hp} {Q : VK} {E : XK} (hp : Purse H p) (h0 : 0 < m) (h1 : m < 2 ^ 200) (k : ∀ d H', 0 ≤ d → d < m → Purse H' p → But p H H' → Q (.int d) H') : spDraw [.ref p, .int m] H Q E := ⟨p, m, rfl, hp, h0, h1, k⟩
section
variable {P : Program} {w : World} {K : PySem.W.Frag} {mg : Str → Option Value} {base : Heap}
theorem dv2 {i j : Int} (h1 : 0 < j) (h2 : j < 2 ^ 200) : CDivW i j := wide_div (b := 200) h1 (by omega) (by decide) (by decide)
theorem ok_law_draw (T : Tx K mg) : Gf P w K mg base CX0 2 (He.ga K "_law_draw") ["_law_purse_here", "_law_many"] [] spDraw := by
  obtain ⟨fd, F⟩ := T.d_law_draw
  refine gf0 F (fnG F sc_law_draw (fun vs H Q E h => ?_) (fun cdv A outer s H vs Q E hr h => ?_)) (fun _ _ _ _ _ _ us hl => match us, hl with | [_, _], _ => rfl)
  · obtain ⟨p, m, rfl, _⟩ := h
    rfl
  obtain ⟨p, m, rfl, ⟨a, b, c, hp, a0, a1, b0⟩, m0, m1, k⟩ := h
  refine ⟨_, PSs.nox (pss_cons (ps_asg (pe_op op_add (pe_ix (ix_listK (K := K) rfl) (pv 0) pe_int (fun _ _ => rfl)) pe_int) (pg_sub (pv 0) pe_int set_list)) (pss_cons (ps_set (i := 2) sc_law_draw.nd rfl (Or.inl rfl) (pe_callTy call_int1 (by rfl) T.f_int (by decide +kernel) (pa_cons (pe_ix (ix_listK (K := K) rfl) (pv 0) pe_int (fun _ _ => rfl)) pa_nil))) (pss_cons (ps_set (i := 3) sc_law_draw.nd rfl (Or.inl rfl) (pe_op op_add (pe_op op_mod (pe_callTy call_int1 (by rfl) T.f_int (by decide +kernel) (pa_cons (pv 2) pa_nil)) pe_int) pe_int)) (pss_cons (ps_asg (pe_op op_mod (pe_callTy call_int1 (by rfl) T.f_int (by decide +kernel) (pa_cons (pe_op op_add (pe_op op_add (pe_op op_mulA (pv 2) (pv 3)) (pe_op op_mulA pe_int (pe_ix (ix_listK (K := K) rfl) (pv 0) pe_int (fun _ _ => rfl)))) pe_int) pa_nil)) pe_int) (pg_sub (pv 0) pe_int set_list)) (pss_cons (ps_if (pt_cmpR op_gt (pe_ix (ix_listK (K := K) rfl) (pv 0) pe_int (fun _ _ => rfl)) pe_int (nomark _)) (pss_cons (ps_asg (pe_callB call_divmodA (by rfl) T.f_divmod (by decide +kernel) (pa_cons (pe_ix (ix_listK (K := K) rfl) (pv 0) pe_int (fun _ _ => rfl)) (pa_cons (pv 1) pa_nil))) (pg_tupK (K := K) (n := 2) rfl rfl (pgs_cons (pg_sub (pv 0) pe_int set_list) (pgs_cons (pg_name (i := 4) sc_law_draw.nd rfl (Or.inl rfl)) pgs_nil)))) (pss_one (ps_ret (pv 4)))) pss_nil) (pss_one (ps_ret (pe_op op_mod (pe_callTy call_int1 (by rfl) T.f_int (by decide +kernel) (pa_cons (pe_op op_fdivW (pe_ix (ix_listK (K := K) rfl) (pv 0) pe_int (fun _ _ => rfl)) pe_int) pa_nil)) (pv 1))))))))), ?_⟩
  walk_at "in"
  walk_at "go"
  refine i_two (fun hb => ?_) (fun hb => ?_)
  · walk_at "go"
    refine ⟨dv2 m0 m1, fun t ht => ?_⟩
    walk_at "go"
    exact k _ _ (Int.emod_nonneg _ (by omega)) (Int.emod_lt_of_pos _ m0) ⟨_, _, _, upd_same, by omega, by omega, Int.ediv_nonneg b0 (by omega)⟩ (by walk_at "bt")
  · walk_at "go"
    exact k _ _ (Int.emod_nonneg _ (by omega)) (Int.emod_lt_of_pos _ m0) ⟨_, _, _, upd_same, by omega, by omega, b0⟩ (by walk_at "bt")
def spGreat : Sp := fun vs H Q _ => ∃ p m, vs = [.ref p, .int m] ∧ Purse H p ∧ 0 ≤ m ∧ m ≤ 10 ∧ ∀ d H', 0 ≤ d → d < 10 ^ 60 → Purse H' p → But p H H' → Q (.int d) H'
theorem go_great {p : Addr} {m : Int} {H : Hp} {Q : VK} {E : XK} (hp : Purse H p) (h0 : 0 ≤ m) (h1 : m ≤ 10) (k : ∀ d H', 0 ≤ d → d < 10 ^ 60 → Purse H' p → But p H H' → Q (.int d) H') : spGreat [.ref p, .int m] H Q E := ⟨p, m, rfl, hp, h0, h1, k⟩
theorem ok_law_great (T : Tx K mg) : Gf P w K mg base CX0 3 (He.ga K "_law_great") ["_law_purse_here", "_law_many"] [] spGreat := by
  obtain ⟨fd, F⟩ := T.d_law_great
  refine gf0 F (fnG F sc_law_great (fun vs H Q E h => ?_) (fun cdv A outer s H vs Q E hr h => ?_)) (fun _ _ _ _ _ _ us hl => match us, hl with | [_, _], _ => rfl)
  · obtain ⟨p, m, rfl, _⟩ := h
    rfl
  obtain ⟨p, m, rfl, hp, m0, m1, k⟩ := h
  refine ⟨_, PSs.nox (pss_cons (ps_set (i := 2) sc_law_great.nd rfl (Or.inl rfl) pe_int) (pss_cons (ps_for PassesOwn.never rfl (pi_range1 rfl T.f_range (pa_cons (pv 1) pa_nil)) (pg_name (i := 3) sc_law_great.nd rfl (Or.inl rfl)) (pss_one (ps_set (i := 2) sc_law_great.nd rfl (Or.inl rfl) (pe_op op_add (pe_op op_mulA (pv 2) (pe_op op_pow pe_int pe_int)) (pe_g (ok_law_draw T) T.g_law_draw hr (by decide) pass0 (pa_cons (pv 0) (pa_cons (pe_op op_pow pe_int pe_int) pa_nil))))))) (pss_one (ps_ret (pv 2))))), ?_⟩
  walk_at "in"
  walk_at "go"
  refine ⟨by omega, by omega, lp_range (n := m.toNat) (fun i σ H' => ∃ (d : Int) (v : Option V), σ = [some (.ref p), some (.int m), some (.int d), v] ∧ 0 ≤ d ∧ d < 10 ^ (6 * i) ∧ Purse H' p ∧ But p H H') ⟨0, none, rfl, by omega, by decide, hp, But.rfl⟩ ?_ ?_⟩
  · rintro i σ H1 hi ⟨d, v, rfl, d0, d1, hp1, b1⟩
    walk_at "go"
    refine go_draw hp1 (by decide) (by decide) fun r H2 r0 r1 hp2 b2 => ?_
    walk_at "go"
    refine ⟨_, _, rfl, by omega, ?_, hp2, by walk_at "bt"⟩
    have e : (10 : Int) ^ (6 * (i + 1)) = 10 ^ (6 * i) * 1000000 := by
      rw [show 6 * (i + 1) = 6 * i + 6 by omega, Int.pow_add] <;> rfl
    rw [e]
    omega
  · rintro σ H1 ⟨d, v, rfl, d0, d1, hp1, b1⟩
    walk_at "go"
    refine k d H1 d0 (Int.lt_of_lt_of_le d1 ?_) hp1 b1
    have h : 10 ^ (6 * m.toNat) ≤ 10 ^ 60 := Nat.pow_le_pow_right (by decide) (by omega)
    exact_mod_cast h
end
section
variable {P : Program} {w : World} {K : PySem.W.Frag} {mg : Str → Option Value} {base : Heap}
def spInteger : Sp := fun vs H Q _ => ∃ p, vs = [.ref p] ∧ Purse H p ∧ ∀ d H', -(10 ^ 60) < d → d < 10 ^ 60 → Purse H' p → But p H H' → Q (.int d) H'
theorem go_integer {p : Addr} {H : Hp} {Q : VK} {E : XK} (hp : Purse H p) (k : ∀ d H', -(10 ^ 60) < d → d < 10 ^ 60 → Purse H' p → But p H H' → Q (.int d) H') : spInteger [.ref p] H Q E := ⟨p, rfl, hp, k⟩
theorem sgn {s d : Int} (h : s = 1 - 2 * d) (d0 : 0 ≤ d) (d2 : d < 2) : s = 1 ∨ s = -1 := by omega
theorem sgn_mul {s x : Int} (h : s = 1 ∨ s = -1) (x0 : 0 ≤ x) (x1 : x < 10 ^ 60) : -(10 ^ 60) < s * x ∧ s * x < 10 ^ 60 := by
  rcases h with rfl | rfl <;> omega
theorem ok_law_integer (T : Tx K mg) : Gf P w K mg base CX0 4 (He.ga K "_law_integer") ["_law_purse_here"] [] spInteger := by
  obtain ⟨fd, F⟩ := T.d_law_integer
  refine gf0 F (fnG F sc_law_integer (fun vs H Q E h => ?_) (fun cdv A outer s H vs Q E hr h => ?_)) (fun _ _ _ _ _ _ us hl => match us, hl with | [_], _ => rfl)
  · obtain ⟨p, rfl, _⟩ := h
    rfl
  obtain ⟨p, rfl, hp, k⟩ := h
  refine ⟨_, PSs.nox (pss_cons (ps_par (i := 1) (j := 2) (by rfl) sc_law_integer.nd rfl rfl (by decide) rfl rfl (pa_cons (pe_g (ok_law_draw T) T.g_law_draw hr (by decide) pass0 (pa_cons (pv 0) (pa_cons pe_int pa_nil))) (pa_cons (pe_op op_sub pe_int (pe_op op_mulA pe_int (pe_g (ok_law_draw T) T.g_law_draw hr (by decide) pass0 (pa_cons (pv 0) (pa_cons pe_int pa_nil))))) pa_nil)) (by rfl)) (pss_cons (ps_if (pt_cmpR op_lt (pv 1) pe_int (nomark _)) (pss_one (ps_ret (pe_op op_mulA (pv 2) (pe_g (ok_law_draw T) T.g_law_draw hr (by decide) pass0 (pa_cons (pv 0) (pa_cons pe_int pa_nil)))))) pss_nil) (pss_cons (ps_if (pt_cmpR op_eqI (pv 1) pe_int (nomark _)) (pss_one (ps_ret (pe_op op_mulA (pv 2) (pe_ix (ix_listK (K := K) rfl) (pe_lst (pa_cons pe_int (pa_cons pe_int (pa_cons pe_int (pa_cons pe_int (pa_cons pe_int (pa_cons (pe_op op_pow pe_int pe_int) (pa_cons (pe_op op_pow pe_int pe_int) (pa_cons (pe_op op_pow pe_int pe_int) pa_nil))))))))) (pe_g (ok_law_draw T) T.g_law_draw hr (by decide) pass0 (pa_cons (pv 0) (pa_cons pe_int pa_nil))) (fun _ _ => rfl))))) pss_nil) (pss_cons (ps_if (pt_cmpR op_eqI (pv 1) pe_int (nomark _)) (pss_one (ps_ret (pe_op op_mulA (pv 2) (pe_g (ok_law_draw T) T.g_law_draw hr (by decide) pass0 (pa_cons (pv 0) (pa_cons (pe_op op_pow pe_int pe_int) pa_nil)))))) pss_nil) (pss_one (ps_ret (pe_op op_mulA (pv 2) (pe_g (ok_law_great T) T.g_law_great hr (by decide) pass0 (pa_cons (pv 0) (pa_cons (pe_op op_add pe_int (pe_g (ok_law_draw T) T.g_law_draw hr (by decide) pass0 (pa_cons (pv 0) (pa_cons pe_int pa_nil)))) pa_nil)))))))))), ?_⟩
  walk_at "in"
  walk_at "go"
  refine go_draw hp (by decide) (by decide) fun w0 H1 w0a w0b hp1 b1 => ?_
  walk_at "go"
  refine go_draw hp1 (by decide) (by decide) fun sg H2 sa sb hp2 b2 => ?_
  walk_at "go"
  have hs := sgn rfl sa sb
  have hm : ∀ x, IntMulOk (1 - 2 * sg) x := fun x => ml (by omega) (by omega)
  refine i_two (fun h1 => ?_) (fun h1 => ?_)
  · walk_at "go"
    refine go_draw hp2 (by decide) (by decide) fun x H3 xa xb hp3 b3 => ?_
    refine r_i (hm _) ?_
    have z := sgn_mul hs xa (by omega)
    exact k _ _ z.1 z.2 hp3 (by walk_at "bt")
  · walk_at "go"
    refine i_two (fun h2 => ?_) (fun h2 => ?_)
    · walk_at "go"
      intro l hl
      walk_at "go"
      refine go_draw (hp2.new hl) (by decide) (by decide) fun x H3 xa xb hp3 b3 => ?_
      obtain ⟨z, hz, hm2⟩ := pickI [0, 1, 60, 100, 999, 1000000000, 1000000000000000000, 1000000000000000000000000000000] xa xb
      have hb : 0 ≤ z ∧ z < 10 ^ 60 := (by decide : ∀ z ∈ ([0, 1, 60, 100, 999, 1000000000, 1000000000000000000, 1000000000000000000000000000000] : List Int), 0 ≤ z ∧ z < 10 ^ 60) z hm2
      have hlp : l ≠ p := hp2.ne hl
      refine r_ixL (SqL.of (b3.at hlp upd_same)) hz ?_
      refine r_i (hm _) ?_
      have y := sgn_mul hs hb.1 hb.2
      exact k _ _ y.1 y.2 hp3 (by walk_at "bt")
    · walk_at "go"
      refine i_two (fun h3 => ?_) (fun h3 => ?_)
      · walk_at "go"
        refine go_draw hp2 (by decide) (by decide) fun x H3 xa xb hp3 b3 => ?_
        refine r_i (hm _) ?_
        have z := sgn_mul hs xa (by omega)
        exact k _ _ z.1 z.2 hp3 (by walk_at "bt")
      · walk_at "go"
        refine go_draw hp2 (by decide) (by decide) fun x H3 xa xb hp3 b3 => ?_
        walk_at "go"
        refine go_great hp3 (by omega) (by omega) fun y H4 ya yb hp4 b4 => ?_
        refine r_i (hm _) ?_
        have z := sgn_mul hs ya yb
        exact k _ _ z.1 z.2 hp4 (by walk_at "bt")
def spPurse (K : PySem.W.Frag) : Sp := fun vs H Q _ => ∃ (a : Addr) (ns : List Int) (i : Int), vs = [.ref a, .int i] ∧ SqL K H a (ns.map V.int) ∧ ns.length ≤ 63 ∧ 0 ≤ i ∧ ∀ p H', H p = none → Purse H' p → Same H H' → Q (.ref p) H'
theorem go_purse {a : Addr} {ns : List Int} {i : Int} {H : Hp} {Q : VK} {E : XK} (h : SqL K H a (ns.map V.int)) (hl : ns.length ≤ 63) (h0 : 0 ≤ i) (k : ∀ p H', H p = none → Purse H' p → Same H H' → Q (.ref p) H') : spPurse K [.ref a, .int i] H Q E := ⟨a, ns, i, rfl, h, hl, h0, k⟩
theorem ok_law_purse (T : Tx K mg) : Gf P w K mg base CX0 1 (He.ga K "_law_purse") ["_law_script", "_law_place"] [] (spPurse K) := by
  obtain ⟨fd, F⟩ := T.d_law_purse
  refine gf0 F (fnG F sc_law_purse (fun vs H Q E h => ?_) (fun cdv A outer s H vs Q E hr h => ?_)) (fun _ _ _ _ _ _ us hl => match us, hl with | [_, _], _ => rfl)
  · obtain ⟨a, ns, i, rfl, _⟩ := h
    rfl
  obtain ⟨a, ns, i, rfl, hS, hl, h0, k⟩ := h
  refine ⟨_, PSs.nox (pss_cons (ps_set (i := 2) sc_law_purse.nd rfl (Or.inl rfl) (pe_op op_add (pe_op op_mulA pe_int (pe_callB (call_lenK (K := K) rfl) (by rfl) T.f_len (by decide +kernel) (pa_cons (pv 0) pa_nil))) (pe_op op_mulA pe_int (pv 1)))) (pss_cons (ps_for PassesOwn.never rfl (pi_listK (K := K) rfl (pe_slice (sl_listK (K := K) rfl) (pv 0) po_none (po_some pe_int))) (pg_name (i := 3) sc_law_purse.nd rfl (Or.inl rfl)) (pss_one (ps_set (i := 2) sc_law_purse.nd rfl (Or.inl rfl) (pe_op op_mod (pe_callTy call_int1 (by rfl) T.f_int (by decide +kernel) (pa_cons (pe_op op_add (pe_op op_mulA (pv 2) pe_int) (pv 3)) pa_nil)) pe_int)))) (pss_cons (ps_if (pt_cmpR op_lt (pv 1) (pe_callB (call_lenK (K := K) rfl) (by rfl) T.f_len (by decide +kernel) (pa_cons (pv 0) pa_nil)) (nomark _)) (pss_one (ps_set (i := 2) sc_law_purse.nd rfl (Or.inl rfl) (pe_ix (ix_listK (K := K) rfl) (pv 0) (pv 1) (fun _ _ => rfl)))) pss_nil) (pss_cons (ps_set (i := 4) sc_law_purse.nd rfl (Or.inl rfl) (pe_op op_pow (pe_callTy call_int1 (by rfl) T.f_int (by decide +kernel) (pa_cons (pe_op op_add (pe_op op_mod (pe_callTy call_int1 (by rfl) T.f_int (by decide +kernel) (pa_cons (pv 2) pa_nil)) pe_int) pe_int) pa_nil)) pe_int)) (pss_one (ps_ret (pe_lst (pa_cons (pe_op op_mod (pe_callTy call_int1 (by rfl) T.f_int (by decide +kernel) (pa_cons (pv 4) pa_nil)) pe_int) (pa_cons (pe_ifExp (PW.pt (pw_or (pt_cmpR op_lt (pv 2) pe_int (nomark _)) (pw_or1 (pt_cmpR op_ge (pv 2) (pe_op op_pow pe_int pe_int) (nomark _))))) (pe_callB call_abs (by rfl) T.f_abs (by decide +kernel) (pa_cons (pv 2) pa_nil)) pe_int) (pa_cons pe_int pa_nil)))))))))), ?_⟩
  walk_at "in"
  walk_at "go"
  intro r hr0
  walk_at "go"
  obtain ⟨ms, e, hms⟩ := cut_map ns none (some 3)
  have hR : (upd H r (.lst (cutV (ns.map V.int) none (some 3)))) r = some (.lst (ms.map V.int)) := by rw [e]; exact upd_same
  refine ⟨⟨_, SqL.of hR⟩, lp_list (xs := ms.map V.int) (fun i2 σ H' => ∃ (c : Int) (v : Option V), σ = [some (.ref a), some (.int i), some (.int c), v, none] ∧ Same H H' ∧ H' r = some (.lst (ms.map V.int))) ⟨_, none, rfl, My.Same.new (Same.refl H) hr0, hR⟩ (fun i2 σ H' _ ⟨_, _, _, _, z⟩ => SqL.of z) ?_ ?_⟩
  · rintro i2 y σ H1 hi ⟨c, v, rfl, s1, hR1⟩
    obtain ⟨z, rfl, _⟩ := get_map hi
    walk_at "go"
    exact ⟨_, _, rfl, s1, hR1⟩
  · rintro σ H1 ⟨c, v, rfl, s1, hR1⟩
    have hS1 := s1.seq hS
    walk_at "go"
    have fin : ∀ (d b : Int), 0 ≤ d → d < 2147483629 → 0 ≤ b → ∀ p, H1 p = none → Q (.ref p) (upd H1 p (.lst [.int d, .int b, .int 0])) := fun d b d0 d1 b0 p hp => k p _ (s1.free hp) ⟨d, b, 0, upd_same, d0, d1, b0⟩ (My.Same.new s1 hp)
    refine i_two (fun h1 => ?_) (fun h1 => ?_)
    · rw [List.length_map] at h1
      walk_at "go"
      refine r_ixL hS1 (atI_map h0 h1) ?_
      walk_at "go"
      refine i_two (fun h2 => ?_) (fun h2 => ?_)
      · walk_at "go"
        refine fin _ _ (Int.emod_nonneg _ (by decide)) (Int.emod_lt_of_pos _ (by decide)) ?_
        split <;> omega
      · walk_at "go"
        refine i_two (fun h3 => ?_) (fun h3 => ?_)
        · walk_at "go"
          refine fin _ _ (Int.emod_nonneg _ (by decide)) (Int.emod_lt_of_pos _ (by decide)) ?_
          split <;> omega
        · walk_at "go"
          exact fin _ _ (Int.emod_nonneg _ (by decide)) (Int.emod_lt_of_pos _ (by decide)) (by omega)
    · walk_at "go"
      refine i_two (fun h2 => ?_) (fun h2 => ?_)
      · walk_at "go"
        refine fin _ _ (Int.emod_nonneg _ (by decide)) (Int.emod_lt_of_pos _ (by decide)) ?_
        split <;> omega
      · walk_at "go"
        refine i_two (fun h3 => ?_) (fun h3 => ?_)
        · walk_at "go"
          refine fin _ _ (Int.emod_nonneg _ (by decide)) (Int.emod_lt_of_pos _ (by decide)) ?_
          split <;> omega
        · walk_at "go"
          exact fin _ _ (Int.emod_nonneg _ (by decide)) (Int.emod_lt_of_pos _ (by decide)) (by omega)
end

end Toy

set_option Elab.async false
set_option linter.all false
set_option maxRecDepth 100000
set_option maxHeartbeats 4000000
namespace Toy
open PySem PySem.Spec PyProof.Rows L2 My SX
local macro_rules | `(tactic| walk_at "ne") => `(tactic| first
  | with_reducible assumption
  | exact Ne.symm (by with_reducible assumption)
  | (refine' ne_of_none ?hx ?hy; (case hy => with_reducible assumption); (case hx => walk_at "hf"))
  | (refine' Ne.symm (ne_of_none ?hx ?hy); (case hy => with_reducible assumption); (case hx => walk_at "hf"))
  | (refine' Pu.ne ?hx ?hy; (case hy => with_reducible assumption); (case hx => walk_at "pu")))
local macro_rules | `(tactic| walk_at "pu") => `(tactic| first
  | with_reducible assumption
  | ((with_reducible refine' Pu.same ?hx ?hy); (case hy => with_reducible assumption); (case hx => walk_at "pu")))
local macro_rules | `(tactic| walk_at "hf") => `(tactic| first
  | with_reducible assumption
  | with_reducible exact upd_same
  | ((with_reducible refine' Same.at ?hs ?hr); (case hs => with_reducible assumption); (case hr => walk_at "hf"))
  | ((with_reducible refine' at_or ?hr ?hn); (case hr => walk_at "hf"); (case hn => first | exact Or.inl (by with_reducible assumption) | exact Or.inr (by walk_at "ne")))
  | ((with_reducible refine' But.at ?hb ?hn ?hr); (case hb => with_reducible assumption); (case hr => walk_at "hf"); (case hn => walk_at "ne")))
local macro_rules | `(tactic| walk_at "sq") => `(tactic| first
  | with_reducible assumption
  | ((with_reducible refine' SqL.of ?hql); (case hql => walk_at "hf"))
  | ((with_reducible refine' Same.seq ?hx ?hy); (case hx => with_reducible assumption); (case hy => walk_at "sq")))
local macro_rules | `(tactic| walk_at "sqo") => `(tactic| first
  | ((with_reducible refine' Or.inl ?hol); (case hol => with_reducible assumption))
  | ((with_reducible refine' Or.inr ?hor); (case hor => with_reducible assumption))
  | ((with_reducible refine' Or.inl (SqL.of ?hol)); (case hol => walk_at "hf"))
  | ((with_reducible refine' Or.inr (SqT.of ?hor)); (case hor => walk_at "hf"))
  | ((with_reducible refine' Or.inl ?hol); (case hol => walk_at "sq"))
  | ((with_reducible refine' Or.inr ?hor); (case hor => walk_at "sqt")))
local macro_rules | `(tactic| walk_at "sqt") => `(tactic| first
  | with_reducible assumption
  | ((with_reducible refine' SqT.of ?hqt); (case hqt => walk_at "hf"))
  | ((with_reducible refine' tupS ?hx ?hy); (case hy => with_reducible assumption); (case hx => walk_at "sqt")))
local macro_rules | `(tactic| walk_at "lg") => `(tactic| first
  | with_reducible assumption
  | exact Bd.lg (by with_reducible assumption) (by decide) (by decide)
  | exact Bd.lg (Bd.of (b := 100) (by omega) (by omega)) (by decide) (by decide))
local macro_rules | `(tactic| walk_at "len") => `(tactic| first
  | with_reducible assumption
  | ((simp only [txt_int, lcat, S_len, List.length_append, List.length_cons, List.length_nil]); omega)
  | (apply of_decide_eq_true; rfl))
local macro_rules | `(tactic| walk_at "side") => `(tactic| first
  | with_reducible assumption
  | omega
  | exact ml (by omega) (by omega)
  | exact mr (by omega) (by omega)
  | exact dv (by omega) (by omega)
  | exact Bd.mulOk (by with_reducible assumption) (by with_reducible assumption) (by decide) (by decide) (by decide)
  | exact Bd.div (by with_reducible assumption) (by omega) (by decide) (by decide)
  | (show (0 : Int) < _; omega)
  | decide
  | exact ni_non
  | exact rfl
  | ((simp only [List.length_cons, List.length_nil, List.length_map]); omega))
local macro_rules | `(tactic| walk_at "nl") => `(tactic| first
  | ((simp only [List.length_cons, List.length_nil, List.length_map, List.length_append]); omega)
  | omega
  | decide
  | exact Nat.le_of_ble_eq_true rfl)
local macro_rules | `(tactic| walk_at "sn") => `(tactic| first
  | with_reducible refine r_tupN ?_
  | with_reducible refine r_lstN ?_
  | with_reducible refine r_dnewN ?_
  | ((with_reducible refine' r_listN ?hh ?_); (case hh => walk_at "sqo"))
  | ((with_reducible refine' r_tupleN ?hh ?_); (case hh => walk_at "sq"))
  | ((with_reducible refine' r_slLN ?hh ?_); (case hh => walk_at "sq"))
  | ((with_reducible refine' r_catN ?hh ?hg ?hz ?_); (case hh => walk_at "hf"); (case hg => walk_at "hf"); (case hz => walk_at "nl"))
  | ((with_reducible refine' r_repN ?hh ?h2 ?h3 ?h4 ?_); (case hh => walk_at "hf"); (case h2 => walk_at "side"); (case h3 => walk_at "nl"); (case h4 => walk_at "side")))
local macro_rules | `(tactic| walk_at "st") => `(tactic| first
  | walk_at "sn"
  | ((with_reducible refine' r_var ?hh ?_); (case hh => rfl))
  | with_reducible refine r_c ?_
  | with_reducible refine r_op ?_
  | with_reducible refine r_i0 ?_
  | with_reducible refine r_cons ?_
  | with_reducible refine r_nil ?_
  | with_reducible refine r_seq ?_
  | with_reducible refine r_asg ?_
  | with_reducible refine r_gname ?_
  | with_reducible refine r_ret ?_
  | with_reducible refine r_ifS ?_
  | with_reducible refine r_test ?_
  | with_reducible refine r_tB ?_
  | with_reducible refine b_bl ?_
  | with_reducible refine i_t ?_
  | with_reducible refine i_f ?_
  | with_reducible refine i_nt ?_
  | with_reducible refine i_nf ?_
  | ((with_reducible refine' i_pos ?hh ?_); (case hh => walk_at "side"))
  | ((with_reducible refine' i_neg ?hh ?_); (case hh => walk_at "side"))
  | ((with_reducible refine' n_pos ?hh ?_); (case hh => walk_at "side"))
  | ((with_reducible refine' n_neg ?hh ?_); (case hh => walk_at "side"))
  | ((with_reducible refine' r_pow ?hh ?he ?_); (case hh => first | exact ⟨by decide, by decide, by decide⟩ | exact ⟨by decide, by decide, by omega⟩); (case he => first | ((simp only [Int.reduceToNat, Int.reducePow]); done) | ((simp only [Int.reduceToNat, Int.reducePow]); rfl) | rfl))
  | ((with_reducible refine' r_i ?hh ?_); (case hh => walk_at "side"))
  | with_reducible refine r_call0 ?_
  | with_reducible refine r_call ?_
  | with_reducible refine r_cb ?_
  | with_reducible refine r_int ?_
  | ((with_reducible refine' r_strI ?hh ?_); (case hh => walk_at "lg"))
  | with_reducible refine r_i1 ?_
  | with_reducible refine r_i2 ?_
  | with_reducible refine r_par ?_
  | with_reducible refine r_two ?_
  | with_reducible refine r_par3 ?_
  | with_reducible refine r_three ?_
  | with_reducible refine r_and ?_
  | with_reducible refine r_or ?_
  | with_reducible refine r_not ?_
  | with_reducible refine r_tif ?_
  | with_reducible refine r_andV ?_
  | with_reducible refine r_orV ?_
  | with_reducible refine r_notV ?_
  | with_reducible refine r_un ?_
  | with_reducible refine r_u ?_
  | with_reducible refine r_sb ?_
  | with_reducible refine r_drop ?_
  | with_reducible refine r_next ?_
  | with_reducible refine r_gsub ?_
  | ((with_reducible refine' r_ixL ?hh ?he ?_); (case hh => walk_at "sq"); (case he => rfl))
  | ((with_reducible refine' r_ixT ?hh ?he ?_); (case hh => walk_at "sqt"); (case he => rfl))
  | ((with_reducible refine' r_setL ?hh ?he ?_); (case hh => walk_at "hf"); (case he => rfl))
  | with_reducible refine r_gcons ?_
  | with_reducible refine r_gnil ?_
  | with_reducible refine r_sl ?_
  | with_reducible refine r_nopart ?_
  | with_reducible refine r_part ?_
  | with_reducible refine r_pint ?_
  | ((with_reducible refine' r_lenS ?hh ?_); (case hh => walk_at "sqo"))
  | ((with_reducible refine' r_gtup ?hh ?he ?_); (case hh => walk_at "sqt"); (case he => rfl))
  | ((with_reducible refine' r_slL ?hh ?_); (case hh => walk_at "sq"))
  | ((with_reducible refine' r_len ?hh ?_); (case hh => exact sz (by (try simp only [List.length_map]); (first | omega | decide | exact Nat.le_of_ble_eq_true rfl))))
  | with_reducible refine r_isi_ii ?_
  | with_reducible refine r_isi_ib ?_
  | with_reducible refine r_isi_ss ?_
  | ((with_reducible refine' r_isi_own ?hh ?hi ?hk ?_); (case hh => walk_at "hf"); (case hi => with_reducible assumption); (case hk => with_reducible assumption))
  | with_reducible refine r_lst ?_
  | with_reducible refine r_tup ?_
  | with_reducible refine r_make ?_
  | with_reducible refine r_forR1 ?_
  | with_reducible refine r_forL ?_
  | with_reducible refine r_forT ?_
  | with_reducible refine r_forR2 ?_
  | with_reducible refine r_ref1 ?_
  | with_reducible refine r_brk ?_
  | with_reducible refine r_cont ?_
  | with_reducible refine r_retN ?_
  | with_reducible refine r_rr ?_
  | with_reducible refine r_fmt ?_
  | ((with_reducible refine' r_fmti ?hh ?_); (case hh => walk_at "lg"))
  | with_reducible refine r_js ?_
  | with_reducible refine r_js0 ?_
  | ((with_reducible refine' r_jsp ?hh ?_); (case hh => walk_at "len"))
  | with_reducible refine r_m0 ?_
  | with_reducible refine r_m1 ?_
  | with_reducible refine r_str ?_
  | with_reducible refine r_ss ?_
  | with_reducible refine r_s0 ?_
  | ((with_reducible refine' r_addS ?hh ?_); (case hh => walk_at "len"))
  | ((with_reducible refine' r_slS ?hh ?_); (case hh => walk_at "len"))
  | ((with_reducible refine' r_lenT ?hh ?_); (case hh => walk_at "len"))
  | ((with_reducible refine' r_memI ?hh ?_); (case hh => with_reducible assumption))
  | with_reducible refine r_eqB ?_
  | ((with_reducible refine' r_inT ?hh ?hf ?he ?_); (case hh => walk_at "sqt"); (case hf => rfl); (case he => rfl))
  | ((with_reducible refine' r_inF ?hh ?hf ?he ?_); (case hh => walk_at "sqt"); (case hf => rfl); (case he => rfl))
  | ((with_reducible refine' r_makeL ?hh ?_); (case hh => rfl))
  | with_reducible refine r_tprop ?_
  | with_reducible refine r_tfld ?_
  | ((with_reducible refine' f_prop ?hh ?_); (case hh => walk_at "hf"))
  | ((with_reducible refine' f_fld ?hh ?hc ?hn ?hl ?_); (case hh => walk_at "hf"); (case hc => with_reducible assumption); (case hn => with_reducible assumption); (case hl => rfl))
  | with_reducible refine r_tcm ?_
  | with_reducible refine r_chain ?_
  | with_reducible refine r_chain3 ?_
  | with_reducible refine r_bl1 ?_
  | with_reducible refine r_intb ?_
  | with_reducible refine r_yes ?_
  | with_reducible refine r_makeK ?_
  | with_reducible refine r_sfld ?_
  | ((with_reducible refine' f_sfld ?hh ?hc ?hn ?hl ?_); (case hh => walk_at "hf"); (case hc => with_reducible assumption); (case hn => with_reducible assumption); (case hl => exact Nat.le_of_ble_eq_true rfl))
  | with_reducible refine r_lcL ?_
  | with_reducible refine r_lcS ?_
  | with_reducible refine r_lcT ?_
  | with_reducible refine r_lcR1 ?_
  | with_reducible refine r_lcR2 ?_
  | with_reducible refine r_tbm ?_
  | with_reducible refine r_tbm0 ?_
  | ((with_reducible refine' f_tyL ?hh ?_); (case hh => walk_at "hf"))
  | ((with_reducible refine' r_app ?hh ?he ?_); (case hh => walk_at "hf"); (case he => walk_at "side"))
  | with_reducible refine r_tRev ?_
  | with_reducible refine r_lstRg1 ?_
  | with_reducible refine r_lcRV ?_
  | with_reducible refine r_makeS ?_
  | with_reducible refine r_cmS ?_
  | with_reducible refine r_methS ?_
  | with_reducible refine r_tupRg1 ?_
  | with_reducible refine r_forRV ?_
  | with_reducible refine r_raiseE ?_
  | with_reducible refine r_callG ?_
  | ((with_reducible refine' r_xfV ?hh ?hf ?hl ?_); (case hh => rfl); (case hf => walk_at "hf"); (case hl => rfl)))
local macro_rules | `(tactic| walk_at "go") => `(tactic| (repeat walk_at "st"))
local macro_rules | `(tactic| walk_at "in") => `(tactic| dsimp only [cxOf, L2.start, List.map, List.length, List.replicate, Nat.reduceSub, Nat.reduceAdd, List.cons_append, List.nil_append, List.append_nil])
local macro_rules | `(tactic| walk_at "bt") => `(tactic| first
  | with_reducible assumption
  | exact But.rfl
  | exact Same.but (by with_reducible assumption)
  | (refine' But.put ?ha; (case ha => walk_at "bt"))
  | (refine' But.new ?ha ?hn; (case hn => with_reducible assumption); (case ha => walk_at "bt"))
  | (refine' But.trans ?ha ?hb; (case hb => with_reducible assumption); (case ha => walk_at "bt"))
  | (refine' But.trans ?ha (Same.but ?hb); (case hb => with_reducible assumption); (case ha => walk_at "bt")))
local macro_rules | `(tactic| walk_at "sm") => `(tactic| first
  | with_reducible assumption
  | exact Same.refl _
  | (refine' Same.new ?ha ?hn; (case hn => with_reducible assumption); (case ha => walk_at "sm"))
  | (refine' Same.trans ?ha ?hb; (case hb => with_reducible assumption); (case ha => walk_at "sm")))

/-! ### Ratio: its making and reading, with errors -/
def ratF (n d : Int) : List (Str × V) := [("top", .int n), ("bottom", .int d)]
def Rt (K : PySem.W.Frag) (H : Hp) (a : Addr) (n d : Int) : Prop := ∃ dx, H a = some (.ins (He.ga K "Ratio") dx (ratF n d))
section
variable {P : Program} {w : World} {K : PySem.W.Frag} {mg : Str → Option Value} {base : Heap}
theorem Rt.same {H H' : Hp} {a : Addr} {n d : Int} (h : Rt K H a n d) (s : Same H H') : Rt K H' a n d := let ⟨dx, e⟩ := h; ⟨dx, s _ _ e⟩
theorem Rt.new {H : Hp} {a l : Addr} {n d : Int} {o : HO} (h : Rt K H a n d) (k : H l = none) : Rt K (upd H l o) a n d := h.same (My.Same.new (Same.refl H) k)

theorem in_InvalidNumber (T : Tx K mg) : FnOk P w K mg base CX0 1 (He.ma K (He.ga K "InvalidNumber") "__init__") (Classical.choose T.d_InvalidNumber__init) ["self", "number"] (spErr (He.ga K "InvalidNumber") "number") := by
  have F := Classical.choose_spec T.d_InvalidNumber__init
  have er := T.er_InvalidNumber
  refine fnR F sc_InvalidNumber__init (fun vs H Q E h => ?_) (fun cdv A outer s H vs Q E hr h => ?_)
  · obtain ⟨a, v, rfl, _⟩ := h
    rfl
  obtain ⟨a, v, rfl, ha, k⟩ := h
  refine ⟨_, PSs.nox (pss_one (ps_ostG (pv 0) (pv 1))), ?_⟩
  walk_at "in"
  refine ⟨v, rfl, .ref a, rfl, a, _, rfl, er.ox, T.no_InvalidNumber, .inl ⟨ha, fun dx h1 h2 => ?_⟩⟩
  exact k dx h1 h2
theorem inB_InvalidNumber (T : Tx K mg) : Binds K (Classical.choose T.d_InvalidNumber__init) ["self", "number"] [] := (Classical.choose_spec T.d_InvalidNumber__init).bindsN (fun _ _ _ _ _ _ us hl => match us, hl with | [_, _], _ => rfl)
theorem in_InvalidText (T : Tx K mg) : FnOk P w K mg base CX0 1 (He.ma K (He.ga K "InvalidText") "__init__") (Classical.choose T.d_InvalidText__init) ["self", "text"] (spErr (He.ga K "InvalidText") "text") := by
  have F := Classical.choose_spec T.d_InvalidText__init
  have er := T.er_InvalidText
  refine fnR F sc_InvalidText__init (fun vs H Q E h => ?_) (fun cdv A outer s H vs Q E hr h => ?_)
  · obtain ⟨a, v, rfl, _⟩ := h
    rfl
  obtain ⟨a, v, rfl, ha, k⟩ := h
  refine ⟨_, PSs.nox (pss_one (ps_ostG (pv 0) (pv 1))), ?_⟩
  walk_at "in"
  refine ⟨v, rfl, .ref a, rfl, a, _, rfl, er.ox, T.no_InvalidText, .inl ⟨ha, fun dx h1 h2 => ?_⟩⟩
  exact k dx h1 h2
theorem inB_InvalidText (T : Tx K mg) : Binds K (Classical.choose T.d_InvalidText__init) ["self", "text"] [] := (Classical.choose_spec T.d_InvalidText__init).bindsN (fun _ _ _ _ _ _ us hl => match us, hl with | [_, _], _ => rfl)
/-- a value of another kind: no integer -/
def NoInt (K : PySem.W.Frag) (H : Hp) (x : V) : Prop := (∃ T, Kd H x T) ∨ ∃ a n d, x = .ref a ∧ Rt K H a n d
theorem Kd.same {H H' : Hp} {x : V} {T : String} (k : Kd H x T) (s : Same H H') : Kd H' x T := by
  cases k with
  | bl b => exact .bl b
  | non => exact .non
  | str x => exact .str x
  | lst e => exact .lst (s _ _ e)
  | tup e => exact .tup (s _ _ e)
  | dct e => exact .dct (s _ _ e)
theorem NoInt.same {H H' : Hp} {x : V} (h : NoInt K H x) (s : Same H H') : NoInt K H' x := h.elim (fun ⟨T, k⟩ => .inl ⟨T, Kd.same k s⟩) fun ⟨a, n, d, e, r⟩ => .inr ⟨a, n, d, e, r.same s⟩
/-- isinstance with a built-in class, of a value of another kind -/
theorem r_isK {H : Hp} {x : V} {T n : String} {b : Bool} {F : VK} (k : Kd H x T) (e : PySem.W.kitOne K (.type T) (.type n) = some b) (q : F (.bl b) H) : rIsi K [x, .ty n] H F := ⟨_, _, _, _, b, rfl, .ty _, k.ty, e, q⟩
theorem kit_int {T : String} (h : T ∈ kinds) : PySem.W.kitOne K (.type T) (.type "int") = some (decide (T = "bool")) := by
  simp only [kinds, List.mem_cons, List.not_mem_nil, or_false] at h
  rcases h with rfl | rfl | rfl | rfl | rfl | rfl <;> exact kit_ty (by decide +kernel)
theorem kit_bool {T : String} (h : T ∈ kinds) : PySem.W.kitOne K (.type T) (.type "bool") = some (decide (T = "bool")) := by
  simp only [kinds, List.mem_cons, List.not_mem_nil, or_false] at h
  rcases h with rfl | rfl | rfl | rfl | rfl | rfl <;> exact kit_ty (by decide +kernel)
theorem kit_str {T : String} (h : T ∈ kinds) : PySem.W.kitOne K (.type T) (.type "str") = some (decide (T = "str")) := by
  simp only [kinds, List.mem_cons, List.not_mem_nil, or_false] at h
  rcases h with rfl | rfl | rfl | rfl | rfl | rfl <;> exact kit_ty (by decide +kernel)
theorem r_isRt (T : Tx K mg) {H : Hp} {a : Addr} {m e : Int} {n : String} {F : VK} (r : Rt K H a m e) (k : PySem.W.kitOne K (.ref (He.ga K "Ratio")) (.type n) = some false) (q : F (.bl false) H) : rIsi K [.ref a, .ty n] H F :=
  let ⟨dx, z⟩ := r
  ⟨_, _, _, _, false, rfl, .ty _, T.in_Ratio.ty z, k, q⟩
def spIsI (K : PySem.W.Frag) : Sp := fun vs H Q _ => ∃ x, vs = [x] ∧ ((∃ i, x = .int i ∧ Q (.bl true) H) ∨ (NoInt K H x ∧ Q (.bl false) H))
theorem go_isI1 {H : Hp} {i : Int} {Q : VK} {E : XK} (q : Q (.bl true) H) : spIsI K [.int i] H Q E := ⟨_, rfl, .inl ⟨i, rfl, q⟩⟩
theorem go_isI0 {H : Hp} {x : V} {Q : VK} {E : XK} (k : NoInt K H x) (q : Q (.bl false) H) : spIsI K [x] H Q E := ⟨x, rfl, .inr ⟨k, q⟩⟩
theorem ok_is_integer (T : Tx K mg) : Gf P w K mg base CX0 1 (He.ga K "is_integer") ["value"] [] (spIsI K) := by
  obtain ⟨fd, F⟩ := T.d_is_integer
  refine gf0 F (fnG F sc_is_integer (fun vs H Q E h => ?_) (fun cdv A outer s H vs Q E hr h => ?_)) (fun _ _ _ _ _ _ us hl => match us, hl with | [_], _ => rfl)
  · obtain ⟨x, rfl, _⟩ := h
    rfl
  obtain ⟨x, rfl, h⟩ := h
  refine ⟨_, PSs.nox (pss_one (ps_ret (pe_and (pe_callB (call_isiK (K := K) rfl) (by rfl) T.f_isinstance (by decide +kernel) (pa_cons (pv 0) (pa_cons (pe_bltn (v := .ty "int") (by rfl) T.f_int (by decide +kernel) rfl) pa_nil))) (pe_one (pe_not (pe_callB (call_isiK (K := K) rfl) (by rfl) T.f_isinstance (by decide +kernel) (pa_cons (pv 0) (pa_cons (pe_bltn (v := .ty "bool") (by rfl) T.f_bool (by decide +kernel) rfl) pa_nil)))))))), ?_⟩
  walk_at "in"
  rcases h with ⟨i, rfl, k⟩ | ⟨⟨T0, kd⟩ | ⟨a, n, d, rfl, r⟩, k⟩
  · walk_at "go"
    exact k
  · walk_at "go"
    refine r_isK kd (kit_int kd.mem) ?_
    by_cases hb : T0 = "bool"
    · rw [decide_eq_true hb]
      walk_at "go"
      refine r_isK kd (kit_bool kd.mem) ?_
      rw [decide_eq_true hb]
      walk_at "go"
      exact k
    · rw [decide_eq_false hb]
      walk_at "go"
      exact k
  · walk_at "go"
    refine r_isRt T r T.i_RI ?_
    walk_at "go"
    exact k
def spGcd : Sp := fun vs H Q _ => ∃ a b : Int, vs = [.int a, .int b] ∧ Q (.int (Int.gcd a b)) H
theorem ok_common_divisor (T : Tx K mg) : Gf P w K mg base CX0 1 (He.ga K "common_divisor") ["first", "second"] [] spGcd := by
  obtain ⟨fd, F⟩ := T.d_common_divisor
  refine gf0 F (fnG F sc_common_divisor (fun vs H Q E h => ?_) (fun cdv A outer s H vs Q E hr h => ?_)) (fun _ _ _ _ _ _ us hl => match us, hl with | [_, _], _ => rfl)
  · obtain ⟨a, b, rfl, _⟩ := h
    rfl
  obtain ⟨a, b, rfl, k⟩ := h
  refine ⟨_, PSs.nox (pss_cons (ps_par (i := 2) (j := 3) (by rfl) sc_common_divisor.nd rfl rfl (by decide) rfl rfl (pa_cons (pe_callB call_abs (by rfl) T.f_abs (by decide +kernel) (pa_cons (pv 0) pa_nil)) (pa_cons (pe_callB call_abs (by rfl) T.f_abs (by decide +kernel) (pa_cons (pv 1) pa_nil)) pa_nil)) (by rfl)) (pss_cons (ps_while PassesOwn.never (pt_cmpR op_gt (pv 3) pe_int (nomark _)) (pss_one (ps_par (i := 2) (j := 3) (by rfl) sc_common_divisor.nd rfl rfl (by decide) rfl rfl (pa_cons (pv 3) (pa_cons (pe_op op_mod (pv 2) (pv 3)) pa_nil)) (by rfl)))) (pss_one (ps_ret (pv 2))))), ?_⟩
  walk_at "in"
  walk_at "go"
  refine lp_while (fun σ H' => ∃ g s : Nat, σ = [some (.int a), some (.int b), some (.int g), some (.int s)] ∧ H' = H ∧ Nat.gcd g s = Int.gcd a b) (fun σ _ => match σ with | [_, _, _, some (.int s)] => s.toNat | _ => 0) ⟨a.natAbs, b.natAbs, ?_, rfl, rfl⟩ ?_
  · rw [abs_nat, abs_nat] <;> rfl
  · rintro σ H1 ⟨g, s, rfl, rfl, hg⟩
    walk_at "go"
    refine i_two (fun h => ?_) (fun h => ?_)
    · refine w_turn ?_
      walk_at "go"
      refine ⟨⟨s, g % s, rfl, rfl, ?_⟩, ?_⟩
      · rw [← hg, Nat.gcd_comm g s, Nat.gcd_rec s g, Nat.gcd_comm]
      · show (((g : Int) % (s : Int))).toNat < ((s : Int)).toNat
        have := Nat.mod_lt g (show s > 0 by omega)
        omega
    · walk_at "go"
      have hs : s = 0 := by omega
      subst hs
      rw [← hg, Nat.gcd_zero_right] at k
      exact k
theorem gcd_pos (n : Int) {d : Int} (h : 0 < d) : 0 < ((Int.gcd n d : Nat) : Int) := by
  have := Int.gcd_pos_of_ne_zero_right n (show d ≠ 0 by omega)
  omega
theorem gcd_bd (n : Int) {d : Int} {b : Nat} (h : 0 < d) (k : Bd b d) : Bd b ((Int.gcd n d : Nat) : Int) := k.le (by
  have := Int.gcd_le_natAbs_right n (show d ≠ 0 by omega)
  omega)

def TellN (K : PySem.W.Frag) (v : V) (H : Hp) (E : XK) : Prop := ∀ d H2, H2 d = some (.xd [("number", v)]) → Same H H2 → E (.ref (He.ga K "InvalidNumber")) (some d) H2
theorem f_tellN {v : V} {H : Hp} {E : XK} (h : TellN K v H E) : MkE (He.ga K "InvalidNumber") "number" [v] H fun cls d H2 => E cls d H2 := f_mkE fun d H2 _ e s => h d H2 e s
def TellT (K : PySem.W.Frag) (v : V) (H : Hp) (E : XK) : Prop := ∀ d H2, H2 d = some (.xd [("text", v)]) → Same H H2 → E (.ref (He.ga K "InvalidText")) (some d) H2
theorem TellT.same {v : V} {H H' : Hp} {E : XK} (h : TellT K v H E) (s : Same H H') : TellT K v H' E := fun d H2 e s2 => h d H2 e (s.trans s2)
theorem f_tellT {v : V} {H : Hp} {E : XK} (h : TellT K v H E) : MkE (He.ga K "InvalidText") "text" [v] H fun cls d H2 => E cls d H2 := f_mkE fun d H2 _ e s => h d H2 e s
/-- no bottom -/
def BadB (K : PySem.W.Frag) (H : Hp) (y : V) : Prop := NoInt K H y ∨ ∃ i : Int, y = .int i ∧ i < 1
theorem BadB.same {H H' : Hp} {x : V} (h : BadB K H x) (s : Same H H') : BadB K H' x := h.elim (fun h => .inl (h.same s)) .inr
def spInit (K : PySem.W.Frag) : Sp := fun vs H Q E => ∃ (x dx : Addr) (u v : V), vs = [.ref x, u, v] ∧ H x = some (.ins (He.ga K "Ratio") dx []) ∧ ((∃ n d : Int, u = .int n ∧ v = .int d ∧ 0 < d ∧ Bd 8000 d ∧ ∀ H', Rt K H' x (n / Int.gcd n d) (d / Int.gcd n d) → But x H H' → Q .non H') ∨
  (NoInt K H u ∧ TellN K u H E) ∨ ∃ n : Int, u = .int n ∧ BadB K H v ∧ TellN K v H E)
theorem fn_Ratio_init (T : Tx K mg) : ∃ fd, FunD K "__init__" "Ratio.__init__" (defArgs s_Ratio__init) (defBody s_Ratio__init) (defScope s_Ratio__init) (d_Ratio__init.dvs K) (d_Ratio__init.kws K) (d_Ratio__init.adr K) fd ∧ FnG P w K mg base (L2.CX P w) 3 (He.ma K (He.ga K "Ratio") "__init__") fd ["self", "top", "bottom"] (spInit K) := by
  obtain ⟨fd, F⟩ := T.d_Ratio__init
  have hc := T.cl_Ratio
  have n1 := T.n_Ratio_top
  have n2 := T.n_Ratio_bottom
  refine ⟨fd, F, fnG F sc_Ratio__init (fun vs H Q E h => ?_) (fun cdv A outer s H vs Q E hr h => ?_)⟩
  · obtain ⟨x, dx, u, v, rfl, _⟩ := h
    rfl
  obtain ⟨x, dx, u, v, rfl, hx, h⟩ := h
  refine ⟨_, (pss_cons (ps_if (pt_not (pt_val (pe_g (ok_is_integer T) T.g_is_integer hr (by decide) pass0 (pa_cons (pv 1) pa_nil)))) (pss_one (ps_err rfl (takes_of rfl rfl rfl rfl) T.er_InvalidNumber (in_InvalidNumber T) (inB_InvalidNumber T) (hr.mono (by decide)) T.g_InvalidNumber (pa_cons (pv 1) pa_nil))) pss_nil) (pss_cons (ps_if (PW.pt (pw_or (pt_not (pt_val (pe_g (ok_is_integer T) T.g_is_integer hr (by decide) pass0 (pa_cons (pv 2) pa_nil)))) (pw_or1 (pt_cmpR op_lt (pv 2) pe_int (nomark _))))) (pss_one (ps_err rfl (takes_of rfl rfl rfl rfl) T.er_InvalidNumber (in_InvalidNumber T) (inB_InvalidNumber T) (hr.mono (by decide)) T.g_InvalidNumber (pa_cons (pv 2) pa_nil))) pss_nil) (pss_cons (ps_set (i := 3) sc_Ratio__init.nd rfl (Or.inl rfl) (pe_g (ok_common_divisor T) T.g_common_divisor hr (by decide) pass0 (pa_cons (pv 1) (pa_cons (pv 2) pa_nil)))) (pss_cons (ps_fld (pv 0) (pe_op op_fdivW (pv 1) (pv 3)) rfl) (pss_one (ps_fld (pv 0) (pe_op op_fdivW (pv 2) (pv 3)) rfl)))))), ?_⟩
  walk_at "in"
  rcases h with ⟨n, d, rfl, rfl, d0, db, k⟩ | ⟨hu, k⟩ | ⟨n, rfl, hv, k⟩
  · walk_at "go"
    refine go_isI1 ?_
    walk_at "go"
    refine go_isI1 ?_
    walk_at "go"
    refine ⟨_, _, rfl, ?_⟩
    have g0 := gcd_pos n d0
    have gb := gcd_bd n d0 db
    walk_at "go"
    exact k _ ⟨dx, upd_same⟩ (by walk_at "bt")
  · walk_at "go"
    refine go_isI0 hu ?_
    walk_at "go"
    exact f_tellN k
  · walk_at "go"
    refine go_isI1 ?_
    walk_at "go"
    rcases hv with hv | ⟨i, rfl, hi⟩
    · refine go_isI0 hv ?_
      walk_at "go"
      exact f_tellN k
    · refine go_isI1 ?_
      walk_at "go"
      exact f_tellN k
theorem ok_Ratio_2 (T : Tx K mg) : Gf P w K mg base (L2.CX P w) 3 (He.ma K (He.ga K "Ratio") "__init__") ["self", "top", "bottom"] [] (spInit K) := by
  obtain ⟨fd, F, G⟩ := fn_Ratio_init (P := P) (w := w) (base := base) T
  obtain ⟨ds, r, b⟩ := F.binds1 (ps := ["self", "top", "bottom"]) 3 1 (List.cons_ne_nil _ _) rfl (fun _ _ _ _ _ _ _ us its l1 l2 => match us, its, l1, l2 with | [_, _, _], [_], _, _ => ⟨_, rfl, rfl⟩)
  exact ⟨⟨fd, ds, G, b, r⟩, F.kp⟩
theorem ok_Ratio_1 (T : Tx K mg) : Gf P w K mg base (L2.CX P w) 3 (He.ma K (He.ga K "Ratio") "__init__") ["self", "top", "bottom"] [.int 1] (spInit K) := by
  obtain ⟨fd, F, G⟩ := fn_Ratio_init (P := P) (w := w) (base := base) T
  obtain ⟨ds, r, b⟩ := F.binds1 (ps := ["self", "top", "bottom"]) 2 0 (List.cons_ne_nil _ _) rfl (fun _ _ _ _ _ _ _ us its l1 l2 => match us, its, l1, l2 with | [_, _], [_], _, _ => ⟨_, rfl, rfl⟩)
  exact ⟨⟨fd, ds, G, b, r⟩, F.kp⟩
/-- a new ratio -/
theorem go_mk {n d : Int} {H : Hp} {R : Addr → Hp → Prop} {E : XK} {vs : List V} (e : vs = [.int n, .int d]) (h0 : 0 < d) (h1 : Bd 8000 d) (k : ∀ x H', H x = none → Rt K H' x (n / Int.gcd n d) (d / Int.gcd n d) → Same H H' → R x H') :
    ∀ x dx, H x = none → H dx = none → dx ≠ x → spInit K (.ref x :: vs) (upd (upd H dx (.own x)) x (.ins (He.ga K "Ratio") dx [])) (fun v H2 => v = .non ∧ R x H2) E := by
  intro x dx hx hd hne
  subst e
  exact ⟨x, dx, _, _, rfl, upd_same, .inl ⟨n, d, rfl, rfl, h0, h1, fun H' r b => ⟨rfl, k x H' hx r (same_made hx hd b)⟩⟩⟩
end

end Toy

set_option Elab.async false
set_option linter.all false
set_option maxRecDepth 100000
set_option maxHeartbeats 4000000
namespace Toy
open PySem PySem.Spec PyProof.Rows L2 My SX
local macro_rules | `(tactic| walk_at "ne") => `(tactic| first
  | with_reducible assumption
  | exact Ne.symm (by with_reducible assumption)
  | (refine' ne_of_none ?hx ?hy; (case hy => with_reducible assumption); (case hx => walk_at "hf"))
  | (refine' Ne.symm (ne_of_none ?hx ?hy); (case hy => with_reducible assumption); (case hx => walk_at "hf"))
  | (refine' Pu.ne ?hx ?hy; (case hy => with_reducible assumption); (case hx => walk_at "pu")))
local macro_rules | `(tactic| walk_at "pu") => `(tactic| first
  | with_reducible assumption
  | ((with_reducible refine' Pu.same ?hx ?hy); (case hy => with_reducible assumption); (case hx => walk_at "pu")))
local macro_rules | `(tactic| walk_at "hf") => `(tactic| first
  | with_reducible assumption
  | with_reducible exact upd_same
  | ((with_reducible refine' Same.at ?hs ?hr); (case hs => with_reducible assumption); (case hr => walk_at "hf"))
  | ((with_reducible refine' at_or ?hr ?hn); (case hr => walk_at "hf"); (case hn => first | exact Or.inl (by with_reducible assumption) | exact Or.inr (by walk_at "ne")))
  | ((with_reducible refine' But.at ?hb ?hn ?hr); (case hb => with_reducible assumption); (case hr => walk_at "hf"); (case hn => walk_at "ne")))
local macro_rules | `(tactic| walk_at "sq") => `(tactic| first
  | with_reducible assumption
  | ((with_reducible refine' SqL.of ?hql); (case hql => walk_at "hf"))
  | ((with_reducible refine' Same.seq ?hx ?hy); (case hx => with_reducible assumption); (case hy => walk_at "sq")))
local macro_rules | `(tactic| walk_at "sqo") => `(tactic| first
  | ((with_reducible refine' Or.inl ?hol); (case hol => with_reducible assumption))
  | ((with_reducible refine' Or.inr ?hor); (case hor => with_reducible assumption))
  | ((with_reducible refine' Or.inl (SqL.of ?hol)); (case hol => walk_at "hf"))
  | ((with_reducible refine' Or.inr (SqT.of ?hor)); (case hor => walk_at "hf"))
  | ((with_reducible refine' Or.inl ?hol); (case hol => walk_at "sq"))
  | ((with_reducible refine' Or.inr ?hor); (case hor => walk_at "sqt")))
local macro_rules | `(tactic| walk_at "sqt") => `(tactic| first
  | with_reducible assumption
  | ((with_reducible refine' SqT.of ?hqt); (case hqt => walk_at "hf"))
  | ((with_reducible refine' tupS ?hx ?hy); (case hy => with_reducible assumption); (case hx => walk_at "sqt")))
local macro_rules | `(tactic| walk_at "lg") => `(tactic| first
  | with_reducible assumption
  | exact Bd.lg (by with_reducible assumption) (by decide) (by decide)
  | exact Bd.lg (Bd.of (b := 100) (by omega) (by omega)) (by decide) (by decide))
local macro_rules | `(tactic| walk_at "len") => `(tactic| first
  | with_reducible assumption
  | ((simp only [txt_int, lcat, S_len, List.length_append, List.length_cons, List.length_nil]); omega)
  | (apply of_decide_eq_true; rfl))
local macro_rules | `(tactic| walk_at "side") => `(tactic| first
  | with_reducible assumption
  | omega
  | exact ml (by omega) (by omega)
  | exact mr (by omega) (by omega)
  | exact dv (by omega) (by omega)
  | exact Bd.mulOk (by with_reducible assumption) (by with_reducible assumption) (by decide) (by decide) (by decide)
  | exact Bd.div (by with_reducible assumption) (by omega) (by decide) (by decide)
  | (show (0 : Int) < _; omega)
  | decide
  | exact ni_non
  | exact rfl
  | ((simp only [List.length_cons, List.length_nil, List.length_map]); omega))
local macro_rules | `(tactic| walk_at "nl") => `(tactic| first
  | ((simp only [List.length_cons, List.length_nil, List.length_map, List.length_append]); omega)
  | omega
  | decide
  | exact Nat.le_of_ble_eq_true rfl)
local macro_rules | `(tactic| walk_at "sn") => `(tactic| first
  | with_reducible refine r_tupN ?_
  | with_reducible refine r_lstN ?_
  | with_reducible refine r_dnewN ?_
  | ((with_reducible refine' r_listN ?hh ?_); (case hh => walk_at "sqo"))
  | ((with_reducible refine' r_tupleN ?hh ?_); (case hh => walk_at "sq"))
  | ((with_reducible refine' r_slLN ?hh ?_); (case hh => walk_at "sq"))
  | ((with_reducible refine' r_catN ?hh ?hg ?hz ?_); (case hh => walk_at "hf"); (case hg => walk_at "hf"); (case hz => walk_at "nl"))
  | ((with_reducible refine' r_repN ?hh ?h2 ?h3 ?h4 ?_); (case hh => walk_at "hf"); (case h2 => walk_at "side"); (case h3 => walk_at "nl"); (case h4 => walk_at "side")))
local macro_rules | `(tactic| walk_at "st") => `(tactic| first
  | walk_at "sn"
  | ((with_reducible refine' r_var ?hh ?_); (case hh => rfl))
  | with_reducible refine r_c ?_
  | with_reducible refine r_op ?_
  | with_reducible refine r_i0 ?_
  | with_reducible refine r_cons ?_
  | with_reducible refine r_nil ?_
  | with_reducible refine r_seq ?_
  | with_reducible refine r_asg ?_
  | with_reducible refine r_gname ?_
  | with_reducible refine r_ret ?_
  | with_reducible refine r_ifS ?_
  | with_reducible refine r_test ?_
  | with_reducible refine r_tB ?_
  | with_reducible refine b_bl ?_
  | with_reducible refine i_t ?_
  | with_reducible refine i_f ?_
  | with_reducible refine i_nt ?_
  | with_reducible refine i_nf ?_
  | ((with_reducible refine' i_pos ?hh ?_); (case hh => walk_at "side"))
  | ((with_reducible refine' i_neg ?hh ?_); (case hh => walk_at "side"))
  | ((with_reducible refine' n_pos ?hh ?_); (case hh => walk_at "side"))
  | ((with_reducible refine' n_neg ?hh ?_); (case hh => walk_at "side"))
  | ((with_reducible refine' r_pow ?hh ?he ?_); (case hh => first | exact ⟨by decide, by decide, by decide⟩ | exact ⟨by decide, by decide, by omega⟩); (case he => first | ((simp only [Int.reduceToNat, Int.reducePow]); done) | ((simp only [Int.reduceToNat, Int.reducePow]); rfl) | rfl))
  | ((with_reducible refine' r_i ?hh ?_); (case hh => walk_at "side"))
  | with_reducible refine r_call0 ?_
  | with_reducible refine r_call ?_
  | with_reducible refine r_cb ?_
  | with_reducible refine r_int ?_
  | ((with_reducible refine' r_strI ?hh ?_); (case hh => walk_at "lg"))
  | with_reducible refine r_i1 ?_
  | with_reducible refine r_i2 ?_
  | with_reducible refine r_par ?_
  | with_reducible refine r_two ?_
  | with_reducible refine r_par3 ?_
  | with_reducible refine r_three ?_
  | with_reducible refine r_and ?_
  | with_reducible refine r_or ?_
  | with_reducible refine r_not ?_
  | with_reducible refine r_tif ?_
  | with_reducible refine r_andV ?_
  | with_reducible refine r_orV ?_
  | with_reducible refine r_notV ?_
  | with_reducible refine r_un ?_
  | with_reducible refine r_u ?_
  | with_reducible refine r_sb ?_
  | with_reducible refine r_drop ?_
  | with_reducible refine r_next ?_
  | with_reducible refine r_gsub ?_
  | ((with_reducible refine' r_ixL ?hh ?he ?_); (case hh => walk_at "sq"); (case he => rfl))
  | ((with_reducible refine' r_ixT ?hh ?he ?_); (case hh => walk_at "sqt"); (case he => rfl))
  | ((with_reducible refine' r_setL ?hh ?he ?_); (case hh => walk_at "hf"); (case he => rfl))
  | with_reducible refine r_gcons ?_
  | with_reducible refine r_gnil ?_
  | with_reducible refine r_sl ?_
  | with_reducible refine r_nopart ?_
  | with_reducible refine r_part ?_
  | with_reducible refine r_pint ?_
  | ((with_reducible refine' r_lenS ?hh ?_); (case hh => walk_at "sqo"))
  | ((with_reducible refine' r_gtup ?hh ?he ?_); (case hh => walk_at "sqt"); (case he => rfl))
  | ((with_reducible refine' r_slL ?hh ?_); (case hh => walk_at "sq"))
  | ((with_reducible refine' r_len ?hh ?_); (case hh => exact sz (by (try simp only [List.length_map]); (first | omega | decide | exact Nat.le_of_ble_eq_true rfl))))
  | with_reducible refine r_isi_ii ?_
  | with_reducible refine r_isi_ib ?_
  | with_reducible refine r_isi_ss ?_
  | ((with_reducible refine' r_isi_own ?hh ?hi ?hk ?_); (case hh => walk_at "hf"); (case hi => with_reducible assumption); (case hk => with_reducible assumption))
  | with_reducible refine r_lst ?_
  | with_reducible refine r_tup ?_
  | with_reducible refine r_make ?_
  | with_reducible refine r_forR1 ?_
  | with_reducible refine r_forL ?_
  | with_reducible refine r_forT ?_
  | with_reducible refine r_forR2 ?_
  | with_reducible refine r_ref1 ?_
  | with_reducible refine r_brk ?_
  | with_reducible refine r_cont ?_
  | with_reducible refine r_retN ?_
  | with_reducible refine r_rr ?_
  | with_reducible refine r_fmt ?_
  | ((with_reducible refine' r_fmti ?hh ?_); (case hh => walk_at "lg"))
  | with_reducible refine r_js ?_
  | with_reducible refine r_js0 ?_
  | ((with_reducible refine' r_jsp ?hh ?_); (case hh => walk_at "len"))
  | with_reducible refine r_m0 ?_
  | with_reducible refine r_m1 ?_
  | with_reducible refine r_str ?_
  | with_reducible refine r_ss ?_
  | with_reducible refine r_s0 ?_
  | ((with_reducible refine' r_addS ?hh ?_); (case hh => walk_at "len"))
  | ((with_reducible refine' r_slS ?hh ?_); (case hh => walk_at "len"))
  | ((with_reducible refine' r_lenT ?hh ?_); (case hh => walk_at "len"))
  | ((with_reducible refine' r_memI ?hh ?_); (case hh => with_reducible assumption))
  | with_reducible refine r_eqB ?_
  | ((with_reducible refine' r_inT ?hh ?hf ?he ?_); (case hh => walk_at "sqt"); (case hf => rfl); (case he => rfl))
  | ((with_reducible refine' r_inF ?hh ?hf ?he ?_); (case hh => walk_at "sqt"); (case hf => rfl); (case he => rfl))
  | ((with_reducible refine' r_makeL ?hh ?_); (case hh => rfl))
  | with_reducible refine r_tprop ?_
  | with_reducible refine r_tfld ?_
  | ((with_reducible refine' f_prop ?hh ?_); (case hh => walk_at "hf"))
  | ((with_reducible refine' f_fld ?hh ?hc ?hn ?hl ?_); (case hh => walk_at "hf"); (case hc => with_reducible assumption); (case hn => with_reducible assumption); (case hl => rfl))
  | with_reducible refine r_tcm ?_
  | with_reducible refine r_chain ?_
  | with_reducible refine r_chain3 ?_
  | with_reducible refine r_bl1 ?_
  | with_reducible refine r_intb ?_
  | with_reducible refine r_yes ?_
  | with_reducible refine r_makeK ?_
  | with_reducible refine r_sfld ?_
  | ((with_reducible refine' f_sfld ?hh ?hc ?hn ?hl ?_); (case hh => walk_at "hf"); (case hc => with_reducible assumption); (case hn => with_reducible assumption); (case hl => exact Nat.le_of_ble_eq_true rfl))
  | with_reducible refine r_lcL ?_
  | with_reducible refine r_lcS ?_
  | with_reducible refine r_lcT ?_
  | with_reducible refine r_lcR1 ?_
  | with_reducible refine r_lcR2 ?_
  | with_reducible refine r_tbm ?_
  | with_reducible refine r_tbm0 ?_
  | ((with_reducible refine' f_tyL ?hh ?_); (case hh => walk_at "hf"))
  | ((with_reducible refine' r_app ?hh ?he ?_); (case hh => walk_at "hf"); (case he => walk_at "side"))
  | with_reducible refine r_tRev ?_
  | with_reducible refine r_lstRg1 ?_
  | with_reducible refine r_lcRV ?_
  | with_reducible refine r_makeS ?_
  | with_reducible refine r_cmS ?_
  | with_reducible refine r_methS ?_
  | with_reducible refine r_tupRg1 ?_
  | with_reducible refine r_forRV ?_
  | with_reducible refine r_raiseE ?_
  | with_reducible refine r_callG ?_
  | ((with_reducible refine' r_xfV ?hh ?hf ?hl ?_); (case hh => rfl); (case hf => walk_at "hf"); (case hl => rfl)))
local macro_rules | `(tactic| walk_at "go") => `(tactic| (repeat walk_at "st"))
local macro_rules | `(tactic| walk_at "in") => `(tactic| dsimp only [cxOf, L2.start, List.map, List.length, List.replicate, Nat.reduceSub, Nat.reduceAdd, List.cons_append, List.nil_append, List.append_nil])
local macro_rules | `(tactic| walk_at "bt") => `(tactic| first
  | with_reducible assumption
  | exact But.rfl
  | exact Same.but (by with_reducible assumption)
  | (refine' But.put ?ha; (case ha => walk_at "bt"))
  | (refine' But.new ?ha ?hn; (case hn => with_reducible assumption); (case ha => walk_at "bt"))
  | (refine' But.trans ?ha ?hb; (case hb => with_reducible assumption); (case ha => walk_at "bt"))
  | (refine' But.trans ?ha (Same.but ?hb); (case hb => with_reducible assumption); (case ha => walk_at "bt")))
local macro_rules | `(tactic| walk_at "sm") => `(tactic| first
  | with_reducible assumption
  | exact Same.refl _
  | (refine' Same.new ?ha ?hn; (case hn => with_reducible assumption); (case ha => walk_at "sm"))
  | (refine' Same.trans ?ha ?hb; (case hb => with_reducible assumption); (case ha => walk_at "sm")))

/-! ### texts -/
/-- a text of few plain signs -/
def Asc (l : List Nat) : Prop := (∀ c ∈ l, c < 128) ∧ l.length ≤ 140
/-- an integer of up to 140 figures -/
def Sm (n : Int) : Prop := n.natAbs < 10 ^ 140
theorem Sm.bd {n : Int} (h : Sm n) : Bd 560 n := by
  show n.natAbs < 2 ^ 560
  exact Nat.lt_of_lt_of_le h (by decide +kernel)
theorem Sm.len {n : Int} (h : Sm n) : (intL n).length ≤ 141 := by
  have l := TL.numL_len (k := 140) (by decide) h
  unfold intL
  split
  · rw [List.length_cons]
    omega
  · omega
theorem Sm.quo {n : Int} (h : Sm n) (d : Int) : Sm (n / d) := Nat.lt_of_le_of_lt (Int.natAbs_ediv_le_natAbs n d) h
theorem val_lt : ∀ (k : Nat) (ds : List Nat), ds.length = k → ds.all Rtx.isD = true → PySem.NumText.digitsVal ds < 10 ^ k
  | 0, ds, hl, _ => by
    rw [List.eq_nil_of_length_eq_zero hl]
    exact Nat.lt_of_lt_of_le (show PySem.NumText.digitsVal [] < 1 from Nat.zero_lt_one) (Nat.le_refl _)
  | k + 1, ds, hl, hd => by
    rcases List.eq_nil_or_concat ds with rfl | ⟨es, d, rfl⟩
    · cases hl
    rw [List.concat_eq_append] at *
    have hl2 : es.length = k := by rw [List.length_append] at hl; simpa using hl
    rw [List.all_append, Bool.and_eq_true] at hd
    have d1 : Rtx.isD d = true := by simpa using hd.2
    have d2 : 48 ≤ d ∧ d ≤ 57 := by
      unfold Rtx.isD at d1
      simpa using d1
    have ih := val_lt k es hl2 hd.1
    rw [Rtx.val_snoc, Nat.pow_succ]
    omega
theorem ri_sm {l : List Nat} {i : Int} (hl : l.length ≤ 140) (h : Rtx.ri l = some i) : Sm i := by
  have key : ∀ {ds : List Nat} {neg : Bool}, ds.length ≤ 140 → Rtx.riN ds l neg = some i → Sm i := fun {ds neg} h1 h2 => by
    obtain ⟨_, hd, _, hi⟩ := Rtx.riN_some h2
    have h3 := val_lt _ ds rfl hd
    have h4 : (10 : Nat) ^ ds.length ≤ 10 ^ 140 := Nat.pow_le_pow_right (by decide) h1
    show i.natAbs < 10 ^ 140
    rw [hi]
    split <;> omega
  unfold Rtx.ri at h
  split at h
  · exact key (by rw [List.length_tail]; omega) h
  · exact key hl h
section
variable {P : Program} {w : World} {K : PySem.W.Frag} {mg : Str → Option Value} {base : Heap}
theorem lit_slash : ("/" : Str) = S [47] := by rfl
theorem len_slash : ("/" : Str).length = 1 := by rfl
theorem len_R1 : ("Ratio(" : Str).length = 6 := by rfl
theorem len_R2 : (", " : Str).length = 2 := by rfl
theorem len_R3 : (")" : Str).length = 1 := by rfl
theorem lit_minus : ("-" : Str) = S [45] := by rfl
theorem lit_0 : ("0" : Str) = S [48] := by rfl
theorem emp_cat (x : Str) : Str.empty ++ x = x := by
  rw [cat_S]
  exact S_tl x
def txtP (n d : Int) : Str := "Ratio(" ++ S (intL n) ++ ", " ++ S (intL d) ++ ")"
def spStr (K : PySem.W.Frag) : Sp := fun vs H Q _ => ∃ (a : Addr) (n d : Int), vs = [.ref a] ∧ Rt K H a n d ∧ Sm n ∧ Sm d ∧ Q (.str (S (Rtx.txt n d))) H
theorem ok_Ratio__str (T : Tx K mg) : Gf P w K mg base CX0 1 (He.ma K (He.ga K "Ratio") "__str__") ["self"] [] (spStr K) := by
  obtain ⟨fd, F⟩ := T.d_Ratio__str
  have hc := T.cl_Ratio
  have n1 := T.n_Ratio_top
  have n2 := T.n_Ratio_bottom
  refine gf0 F (fnG F sc_Ratio__str (fun vs H Q E h => ?_) (fun cdv A outer s H vs Q E hr h => ?_)) (fun _ _ _ _ _ _ us hl => match us, hl with | [_], _ => rfl)
  · obtain ⟨a, n, d, rfl, _⟩ := h
    rfl
  obtain ⟨a, n, d, rfl, ⟨dx, ha⟩, nb, db, k⟩ := h
  have ln := nb.len
  have ld := db.len
  have nb := nb.bd
  have db := db.bd
  refine ⟨_, PSs.nox (pss_cons (ps_if (pt_cmpR op_eqI (pe_fldK (K := K) rfl (pv 0) rfl) pe_int (nomark _)) (pss_one (ps_ret (pe_callTy call_str_int (by rfl) T.f_str (by decide +kernel) (pa_cons (pe_fldK (K := K) rfl (pv 0) rfl) pa_nil)))) pss_nil) (pss_one (ps_ret (pe_joined (.cons (pe_fmt (pe_fldK (K := K) rfl (pv 0) rfl)) (.cons pe_str (.cons (pe_fmt (pe_fldK (K := K) rfl (pv 0) rfl)) .nil))))))), ?_⟩
  walk_at "in"
  walk_at "go"
  unfold Rtx.txt at k
  refine i_two (fun h1 => ?_) (fun h1 => ?_)
  · rw [if_pos h1, ← txt_int] at k
    walk_at "go"
    exact k
  · rw [if_neg h1] at k
    have l1 := len_slash
    have l2 : Str.empty.length = 0 := rfl
    walk_at "go"
    rw [txt_int, txt_int, emp_cat, lit_slash, S_cat, S_cat, List.append_assoc]
    exact k
def spRepr (K : PySem.W.Frag) : Sp := fun vs H Q _ => ∃ (a : Addr) (n d : Int), vs = [.ref a] ∧ Rt K H a n d ∧ Sm n ∧ Sm d ∧ Q (.str (txtP n d)) H
theorem ok_Ratio__repr (T : Tx K mg) : Gf P w K mg base CX0 1 (He.ma K (He.ga K "Ratio") "__repr__") ["self"] [] (spRepr K) := by
  obtain ⟨fd, F⟩ := T.d_Ratio__repr
  have hc := T.cl_Ratio
  have n1 := T.n_Ratio_top
  have n2 := T.n_Ratio_bottom
  refine gf0 F (fnG F sc_Ratio__repr (fun vs H Q E h => ?_) (fun cdv A outer s H vs Q E hr h => ?_)) (fun _ _ _ _ _ _ us hl => match us, hl with | [_], _ => rfl)
  · obtain ⟨a, n, d, rfl, _⟩ := h
    rfl
  obtain ⟨a, n, d, rfl, ⟨dx, ha⟩, nb, db, k⟩ := h
  have ln := nb.len
  have ld := db.len
  have nb := nb.bd
  have db := db.bd
  refine ⟨_, PSs.nox (pss_one (ps_ret (pe_joined (.cons pe_str (.cons (pe_fmt (pe_fldK (K := K) rfl (pv 0) rfl)) (.cons pe_str (.cons (pe_fmt (pe_fldK (K := K) rfl (pv 0) rfl)) (.cons pe_str .nil)))))))), ?_⟩
  have l1 := len_R1
  have l2 := len_R2
  have l3 := len_R3
  have l4 : Str.empty.length = 0 := rfl
  walk_at "in"
  walk_at "go"
  rw [txt_int, txt_int, emp_cat]
  exact k
theorem starts_h (l : List Nat) (c : Nat) : Txt.startswith (S l) (S [c]) = decide (l.head? = some c) := by
  cases l with
  | nil => simp [Txt.startswith, S_len]
  | cons a l =>
    rw [starts1, List.head?_cons]
    exact decide_eq_decide.mpr ⟨fun h => by rw [h], fun h => Option.some.inj h⟩
theorem cut_tl (l : List Nat) : cutS (S l) (some 1) none = S l.tail := by
  cases l with
  | nil => rfl
  | cons a l => exact cut_tail a l
theorem isdig_S {l : List Nat} (h : ∀ c ∈ l, c < 128) : Txt.isdigit (S l) = (decide (l ≠ []) && l.all Rtx.isD) := by
  unfold Txt.isdigit
  have e1 : decide ((S l).length > 0) = decide (l ≠ []) := by
    rw [S_len]
    exact decide_eq_decide.mpr List.length_pos_iff
  rw [e1]
  refine congrArg _ ?_
  show (S l).cps.all Unicode.isDigit = l.all Rtx.isD
  rw [← Array.all_toList]
  show l.all Unicode.isDigit = l.all Rtx.isD
  have all : ∀ c : Nat, c < 128 → Unicode.isDigit c = Rtx.isD c := by decide +kernel
  clear e1
  induction l with
  | nil => rfl
  | cons a l ih => rw [List.all_cons, List.all_cons, all a (h a (List.mem_cons_self ..)), ih fun c hc => h c (List.mem_cons_of_mem _ hc)]
theorem S_inj {a b : List Nat} (h : S a = S b) : a = b := by
  have e := congrArg (fun z : Str => z.cps.toList) h
  exact e
/-- what is given of a word: the integer, or None -/
def oV : Option Int → V
  | some i => .int i
  | none => .non
def spReadInt : Sp := fun vs H Q _ => ∃ l, vs = [.str (S l)] ∧ Asc l ∧ Q (oV (Rtx.ri l)) H
theorem ok_read_integer (T : Tx K mg) : Gf P w K mg base CX0 1 (He.ga K "read_integer") ["text"] [] spReadInt := by
  obtain ⟨fd, F⟩ := T.d_read_integer
  refine gf0 F (fnG F sc_read_integer (fun vs H Q E h => ?_) (fun cdv A outer s H vs Q E hr h => ?_)) (fun _ _ _ _ _ _ us hl => match us, hl with | [_], _ => rfl)
  · obtain ⟨l, rfl, _⟩ := h
    rfl
  obtain ⟨l, rfl, hA, k⟩ := h
  have hl := hA.2
  have ll : (S l).length = l.length := S_len _
  have lt : (S l.tail).length = l.length - 1 := by rw [S_len, List.length_tail]
  refine ⟨_, PSs.nox (pss_cons (ps_set (i := 1) sc_read_integer.nd rfl (Or.inl rfl) (pe_ifExp (pt_val (pe_m1 PySem.F.slot_str_startswith PySem.F.type_str_startswith mt_startswith (pv 0) pe_str)) (pe_slice sl_str (pv 0) (po_some pe_int) po_none) (pv 0))) (pss_cons (ps_if (PW.pt (pw_or (pt_not (pt_val (pe_m0 PySem.F.slot_str_isdigit PySem.F.type_str_isdigit mt_isdigit (pv 1)))) (pw_or1 (pt_cmpR op_gt (pe_callB call_len_str (by rfl) T.f_len (by decide +kernel) (pa_cons (pv 1) pa_nil)) (pe_gi rfl T.c_FIGURES) (nomark _))))) (pss_one (ps_ret pe_non)) pss_nil) (pss_cons (ps_if (PW.pt (pw_and (pt_val (pe_m1 PySem.F.slot_str_startswith PySem.F.type_str_startswith mt_startswith (pv 1) pe_str)) (pw_and1 (pt_cmpR op_neS (pv 0) pe_str (nomark _))))) (pss_one (ps_ret pe_non)) pss_nil) (pss_one (ps_ret (pe_callTy call_int_str (by rfl) T.f_int (by decide +kernel) (pa_cons (pv 0) pa_nil))))))), ?_⟩
  -- the rest, once the figures are known
  walk_at "in"
  walk_at "go"
  rw [lit_minus, starts_h]
  have eT : ∀ {i}, Rtx.ri l = some i → intText? (S l) = some i := fun {i} h => by
    have e := Rtx.ri_some h
    have := intL_val (i := i) (by rw [e]; omega)
    rwa [e] at this
  have lt2 : l.tail.length ≤ 140 := by rw [List.length_tail]; omega
  have tA : ∀ c ∈ l.tail, c < 128 := fun c hc => hA.1 c (List.mem_of_mem_tail hc)
  refine i_two (fun hm => ?_) (fun hm => ?_)
  · have hri : Rtx.ri l = Rtx.riN l.tail l true := if_pos hm
    walk_at "go"
    rw [cut_tl, isdig_S tA]
    by_cases h1 : l.tail = [] ∨ l.tail.all Rtx.isD = false
    · have e0 : (decide (l.tail ≠ []) && l.tail.all Rtx.isD) = false := by
        rcases h1 with z | z
        · rw [decide_eq_false (fun q => q z)] <;> rfl
        · rw [z, Bool.and_false]
      have e1 : Rtx.riN l.tail l true = none := if_pos h1
      rw [e0]
      rw [hri, e1] at k
      walk_at "go"
      exact k
    · have h2 : l.tail ≠ [] := fun z => h1 (.inl z)
      have h3 : l.tail.all Rtx.isD = true := by
        cases q : l.tail.all Rtx.isD with
        | true => rfl
        | false => exact absurd (.inr q) h1
      rw [decide_eq_true h2, h3, Bool.true_and]
      walk_at "go"
      rw [lit_0, starts_h]
      by_cases h0 : l.tail.head? = some 48
      · rw [decide_eq_true h0]
        walk_at "go"
        by_cases h4 : l = [48]
        · have e1 : Rtx.riN l.tail l true = some (-((PySem.NumText.digitsVal l.tail : Nat) : Int)) := by
            unfold Rtx.riN
            rw [if_neg h1, if_neg (fun z => z.2 h4)] <;> rfl
          have e2 := eT (hri.trans e1)
          rw [hri, e1] at k
          subst h4
          cases hm
        · have e1 : Rtx.riN l.tail l true = none := by
            unfold Rtx.riN
            rw [if_neg h1, if_pos ⟨h0, h4⟩]
          rw [hri, e1] at k
          refine n_neg (fun z => h4 (S_inj z)) ?_
          walk_at "go"
          exact k
      · rw [decide_eq_false h0]
        have e1 : Rtx.riN l.tail l true = some (-((PySem.NumText.digitsVal l.tail : Nat) : Int)) := by
          unfold Rtx.riN
          rw [if_neg h1, if_neg (fun z => h0 z.1)] <;> rfl
        have e2 := eT (hri.trans e1)
        rw [hri, e1] at k
        walk_at "go"
        exact r_intS e2 (by omega) k
  · have hri : Rtx.ri l = Rtx.riN l l false := if_neg hm
    walk_at "go"
    rw [isdig_S hA.1]
    by_cases h1 : l = [] ∨ l.all Rtx.isD = false
    · have e0 : (decide (l ≠ []) && l.all Rtx.isD) = false := by
        rcases h1 with z | z
        · rw [decide_eq_false (fun q => q z)] <;> rfl
        · rw [z, Bool.and_false]
      have e1 : Rtx.riN l l false = none := if_pos h1
      rw [e0]
      rw [hri, e1] at k
      walk_at "go"
      exact k
    · have h2 : l ≠ [] := fun z => h1 (.inl z)
      have h3 : l.all Rtx.isD = true := by
        cases q : l.all Rtx.isD with
        | true => rfl
        | false => exact absurd (.inr q) h1
      rw [decide_eq_true h2, h3, Bool.true_and]
      walk_at "go"
      rw [lit_0, starts_h]
      by_cases h0 : l.head? = some 48
      · rw [decide_eq_true h0]
        walk_at "go"
        by_cases h4 : l = [48]
        · have e1 : Rtx.riN l l false = some (((PySem.NumText.digitsVal l : Nat) : Int)) := by
            unfold Rtx.riN
            rw [if_neg h1, if_neg (fun z => z.2 h4)] <;> rfl
          have e2 := eT (hri.trans e1)
          rw [hri, e1] at k
          subst h4
          walk_at "go"
          exact r_intS e2 (by omega) k
        · have e1 : Rtx.riN l l false = none := by
            unfold Rtx.riN
            rw [if_neg h1, if_pos ⟨h0, h4⟩]
          rw [hri, e1] at k
          refine n_neg (fun z => h4 (S_inj z)) ?_
          walk_at "go"
          exact k
      · rw [decide_eq_false h0]
        have e1 : Rtx.riN l l false = some (((PySem.NumText.digitsVal l : Nat) : Int)) := by
          unfold Rtx.riN
          rw [if_neg h1, if_neg (fun z => h0 z.1)] <;> rfl
        have e2 := eT (hri.trans e1)
        rw [hri, e1] at k
        walk_at "go"
        exact r_intS e2 (by omega) k
end

end Toy

set_option Elab.async false
set_option linter.all false
set_option maxRecDepth 100000
set_option maxHeartbeats 4000000
namespace Toy
open PySem PySem.Spec PyProof.Rows L2 My SX
local macro_rules | `(tactic| walk_at "ne") => `(tactic| first
  | with_reducible assumption
  | exact Ne.symm (by with_reducible assumption)
  | (refine' ne_of_none ?hx ?hy; (case hy => with_reducible assumption); (case hx => walk_at "hf"))
  | (refine' Ne.symm (ne_of_none ?hx ?hy); (case hy => with_reducible assumption); (case hx => walk_at "hf"))
  | (refine' Pu.ne ?hx ?hy; (case hy => with_reducible assumption); (case hx => walk_at "pu")))
local macro_rules | `(tactic| walk_at "pu") => `(tactic| first
  | with_reducible assumption
  | ((with_reducible refine' Pu.same ?hx ?hy); (case hy => with_reducible assumption); (case hx => walk_at "pu")))
local macro_rules | `(tactic| walk_at "hf") => `(tactic| first
  | with_reducible assumption
  | with_reducible exact upd_same
  | ((with_reducible refine' Same.at ?hs ?hr); (case hs => with_reducible assumption); (case hr => walk_at "hf"))
  | ((with_reducible refine' at_or ?hr ?hn); (case hr => walk_at "hf"); (case hn => first | exact Or.inl (by with_reducible assumption) | exact Or.inr (by walk_at "ne")))
  | ((with_reducible refine' But.at ?hb ?hn ?hr); (case hb => with_reducible assumption); (case hr => walk_at "hf"); (case hn => walk_at "ne")))
local macro_rules | `(tactic| walk_at "sq") => `(tactic| first
  | with_reducible assumption
  | ((with_reducible refine' SqL.of ?hql); (case hql => walk_at "hf"))
  | ((with_reducible refine' Same.seq ?hx ?hy); (case hx => with_reducible assumption); (case hy => walk_at "sq")))
local macro_rules | `(tactic| walk_at "sqo") => `(tactic| first
  | ((with_reducible refine' Or.inl ?hol); (case hol => with_reducible assumption))
  | ((with_reducible refine' Or.inr ?hor); (case hor => with_reducible assumption))
  | ((with_reducible refine' Or.inl (SqL.of ?hol)); (case hol => walk_at "hf"))
  | ((with_reducible refine' Or.inr (SqT.of ?hor)); (case hor => walk_at "hf"))
  | ((with_reducible refine' Or.inl ?hol); (case hol => walk_at "sq"))
  | ((with_reducible refine' Or.inr ?hor); (case hor => walk_at "sqt")))
local macro_rules | `(tactic| walk_at "sqt") => `(tactic| first
  | with_reducible assumption
  | ((with_reducible refine' SqT.of ?hqt); (case hqt => walk_at "hf"))
  | ((with_reducible refine' tupS ?hx ?hy); (case hy => with_reducible assumption); (case hx => walk_at "sqt")))
local macro_rules | `(tactic| walk_at "lg") => `(tactic| first
  | with_reducible assumption
  | exact Bd.lg (by with_reducible assumption) (by decide) (by decide)
  | exact Bd.lg (Bd.of (b := 100) (by omega) (by omega)) (by decide) (by decide))
local macro_rules | `(tactic| walk_at "len") => `(tactic| first
  | with_reducible assumption
  | ((simp only [txt_int, lcat, S_len, List.length_append, List.length_cons, List.length_nil]); omega)
  | (apply of_decide_eq_true; rfl))
local macro_rules | `(tactic| walk_at "side") => `(tactic| first
  | with_reducible assumption
  | omega
  | exact ml (by omega) (by omega)
  | exact mr (by omega) (by omega)
  | exact dv (by omega) (by omega)
  | exact Bd.mulOk (by with_reducible assumption) (by with_reducible assumption) (by decide) (by decide) (by decide)
  | exact Bd.div (by with_reducible assumption) (by omega) (by decide) (by decide)
  | (show (0 : Int) < _; omega)
  | decide
  | exact ni_non
  | exact rfl
  | ((simp only [List.length_cons, List.length_nil, List.length_map]); omega))
local macro_rules | `(tactic| walk_at "nl") => `(tactic| first
  | ((simp only [List.length_cons, List.length_nil, List.length_map, List.length_append]); omega)
  | omega
  | decide
  | exact Nat.le_of_ble_eq_true rfl)
local macro_rules | `(tactic| walk_at "sn") => `(tactic| first
  | with_reducible refine r_tupN ?_
  | with_reducible refine r_lstN ?_
  | with_reducible refine r_dnewN ?_
  | ((with_reducible refine' r_listN ?hh ?_); (case hh => walk_at "sqo"))
  | ((with_reducible refine' r_tupleN ?hh ?_); (case hh => walk_at "sq"))
  | ((with_reducible refine' r_slLN ?hh ?_); (case hh => walk_at "sq"))
  | ((with_reducible refine' r_catN ?hh ?hg ?hz ?_); (case hh => walk_at "hf"); (case hg => walk_at "hf"); (case hz => walk_at "nl"))
  | ((with_reducible refine' r_repN ?hh ?h2 ?h3 ?h4 ?_); (case hh => walk_at "hf"); (case h2 => walk_at "side"); (case h3 => walk_at "nl"); (case h4 => walk_at "side")))
local macro_rules | `(tactic| walk_at "st") => `(tactic| first
  | walk_at "sn"
  | ((with_reducible refine' r_var ?hh ?_); (case hh => rfl))
  | with_reducible refine r_c ?_
  | with_reducible refine r_op ?_
  | with_reducible refine r_i0 ?_
  | with_reducible refine r_cons ?_
  | with_reducible refine r_nil ?_
  | with_reducible refine r_seq ?_
  | with_reducible refine r_asg ?_
  | with_reducible refine r_gname ?_
  | with_reducible refine r_ret ?_
  | with_reducible refine r_ifS ?_
  | with_reducible refine r_test ?_
  | with_reducible refine r_tB ?_
  | with_reducible refine b_bl ?_
  | with_reducible refine i_t ?_
  | with_reducible refine i_f ?_
  | with_reducible refine i_nt ?_
  | with_reducible refine i_nf ?_
  | ((with_reducible refine' i_pos ?hh ?_); (case hh => walk_at "side"))
  | ((with_reducible refine' i_neg ?hh ?_); (case hh => walk_at "side"))
  | ((with_reducible refine' n_pos ?hh ?_); (case hh => walk_at "side"))
  | ((with_reducible refine' n_neg ?hh ?_); (case hh => walk_at "side"))
  | ((with_reducible refine' r_pow ?hh ?he ?_); (case hh => first | exact ⟨by decide, by decide, by decide⟩ | exact ⟨by decide, by decide, by omega⟩); (case he => first | ((simp only [Int.reduceToNat, Int.reducePow]); done) | ((simp only [Int.reduceToNat, Int.reducePow]); rfl) | rfl))
  | ((with_reducible refine' r_i ?hh ?_); (case hh => walk_at "side"))
  | with_reducible refine r_call0 ?_
  | with_reducible refine r_call ?_
  | with_reducible refine r_cb ?_
  | with_reducible refine r_int ?_
  | ((with_reducible refine' r_strI ?hh ?_); (case hh => walk_at "lg"))
  | with_reducible refine r_i1 ?_
  | with_reducible refine r_i2 ?_
  | with_reducible refine r_par ?_
  | with_reducible refine r_two ?_
  | with_reducible refine r_par3 ?_
  | with_reducible refine r_three ?_
  | with_reducible refine r_and ?_
  | with_reducible refine r_or ?_
  | with_reducible refine r_not ?_
  | with_reducible refine r_tif ?_
  | with_reducible refine r_andV ?_
  | with_reducible refine r_orV ?_
  | with_reducible refine r_notV ?_
  | with_reducible refine r_un ?_
  | with_reducible refine r_u ?_
  | with_reducible refine r_sb ?_
  | with_reducible refine r_drop ?_
  | with_reducible refine r_next ?_
  | with_reducible refine r_gsub ?_
  | ((with_reducible refine' r_ixL ?hh ?he ?_); (case hh => walk_at "sq"); (case he => rfl))
  | ((with_reducible refine' r_ixT ?hh ?he ?_); (case hh => walk_at "sqt"); (case he => rfl))
  | ((with_reducible refine' r_setL ?hh ?he ?_); (case hh => walk_at "hf"); (case he => rfl))
  | with_reducible refine r_gcons ?_
  | with_reducible refine r_gnil ?_
  | with_reducible refine r_sl ?_
  | with_reducible refine r_nopart ?_
  | with_reducible refine r_part ?_
  | with_reducible refine r_pint ?_
  | ((with_reducible refine' r_lenS ?hh ?_); (case hh => walk_at "sqo"))
  | ((with_reducible refine' r_gtup ?hh ?he ?_); (case hh => walk_at "sqt"); (case he => rfl))
  | ((with_reducible refine' r_slL ?hh ?_); (case hh => walk_at "sq"))
  | ((with_reducible refine' r_len ?hh ?_); (case hh => exact sz (by (try simp only [List.length_map]); (first | omega | decide | exact Nat.le_of_ble_eq_true rfl))))
  | with_reducible refine r_isi_ii ?_
  | with_reducible refine r_isi_ib ?_
  | with_reducible refine r_isi_ss ?_
  | ((with_reducible refine' r_isi_own ?hh ?hi ?hk ?_); (case hh => walk_at "hf"); (case hi => with_reducible assumption); (case hk => with_reducible assumption))
  | with_reducible refine r_lst ?_
  | with_reducible refine r_tup ?_
  | with_reducible refine r_make ?_
  | with_reducible refine r_forR1 ?_
  | with_reducible refine r_forL ?_
  | with_reducible refine r_forT ?_
  | with_reducible refine r_forR2 ?_
  | with_reducible refine r_ref1 ?_
  | with_reducible refine r_brk ?_
  | with_reducible refine r_cont ?_
  | with_reducible refine r_retN ?_
  | with_reducible refine r_rr ?_
  | with_reducible refine r_fmt ?_
  | ((with_reducible refine' r_fmti ?hh ?_); (case hh => walk_at "lg"))
  | with_reducible refine r_js ?_
  | with_reducible refine r_js0 ?_
  | ((with_reducible refine' r_jsp ?hh ?_); (case hh => walk_at "len"))
  | with_reducible refine r_m0 ?_
  | with_reducible refine r_m1 ?_
  | with_reducible refine r_str ?_
  | with_reducible refine r_ss ?_
  | with_reducible refine r_s0 ?_
  | ((with_reducible refine' r_addS ?hh ?_); (case hh => walk_at "len"))
  | ((with_reducible refine' r_slS ?hh ?_); (case hh => walk_at "len"))
  | ((with_reducible refine' r_lenT ?hh ?_); (case hh => walk_at "len"))
  | ((with_reducible refine' r_memI ?hh ?_); (case hh => with_reducible assumption))
  | with_reducible refine r_eqB ?_
  | ((with_reducible refine' r_inT ?hh ?hf ?he ?_); (case hh => walk_at "sqt"); (case hf => rfl); (case he => rfl))
  | ((with_reducible refine' r_inF ?hh ?hf ?he ?_); (case hh => walk_at "sqt"); (case hf => rfl); (case he => rfl))
  | ((with_reducible refine' r_makeL ?hh ?_); (case hh => rfl))
  | with_reducible refine r_tprop ?_
  | with_reducible refine r_tfld ?_
  | ((with_reducible refine' f_prop ?hh ?_); (case hh => walk_at "hf"))
  | ((with_reducible refine' f_fld ?hh ?hc ?hn ?hl ?_); (case hh => walk_at "hf"); (case hc => with_reducible assumption); (case hn => with_reducible assumption); (case hl => rfl))
  | with_reducible refine r_tcm ?_
  | with_reducible refine r_chain ?_
  | with_reducible refine r_chain3 ?_
  | with_reducible refine r_bl1 ?_
  | with_reducible refine r_intb ?_
  | with_reducible refine r_yes ?_
  | with_reducible refine r_makeK ?_
  | with_reducible refine r_sfld ?_
  | ((with_reducible refine' f_sfld ?hh ?hc ?hn ?hl ?_); (case hh => walk_at "hf"); (case hc => with_reducible assumption); (case hn => with_reducible assumption); (case hl => exact Nat.le_of_ble_eq_true rfl))
  | with_reducible refine r_lcL ?_
  | with_reducible refine r_lcS ?_
  | with_reducible refine r_lcT ?_
  | with_reducible refine r_lcR1 ?_
  | with_reducible refine r_lcR2 ?_
  | with_reducible refine r_tbm ?_
  | with_reducible refine r_tbm0 ?_
  | ((with_reducible refine' f_tyL ?hh ?_); (case hh => walk_at "hf"))
  | ((with_reducible refine' r_app ?hh ?he ?_); (case hh => walk_at "hf"); (case he => walk_at "side"))
  | with_reducible refine r_tRev ?_
  | with_reducible refine r_lstRg1 ?_
  | with_reducible refine r_lcRV ?_
  | with_reducible refine r_makeS ?_
  | with_reducible refine r_cmS ?_
  | with_reducible refine r_methS ?_
  | with_reducible refine r_tupRg1 ?_
  | with_reducible refine r_forRV ?_
  | with_reducible refine r_raiseE ?_
  | with_reducible refine r_callG ?_
  | ((with_reducible refine' r_xfV ?hh ?hf ?hl ?_); (case hh => rfl); (case hf => walk_at "hf"); (case hl => rfl)))
local macro_rules | `(tactic| walk_at "go") => `(tactic| (repeat walk_at "st"))
local macro_rules | `(tactic| walk_at "in") => `(tactic| dsimp only [cxOf, L2.start, List.map, List.length, List.replicate, Nat.reduceSub, Nat.reduceAdd, List.cons_append, List.nil_append, List.append_nil])
local macro_rules | `(tactic| walk_at "bt") => `(tactic| first
  | with_reducible assumption
  | exact But.rfl
  | exact Same.but (by with_reducible assumption)
  | (refine' But.put ?ha; (case ha => walk_at "bt"))
  | (refine' But.new ?ha ?hn; (case hn => with_reducible assumption); (case ha => walk_at "bt"))
  | (refine' But.trans ?ha ?hb; (case hb => with_reducible assumption); (case ha => walk_at "bt"))
  | (refine' But.trans ?ha (Same.but ?hb); (case hb => with_reducible assumption); (case ha => walk_at "bt")))
local macro_rules | `(tactic| walk_at "sm") => `(tactic| first
  | with_reducible assumption
  | exact Same.refl _
  | (refine' Same.new ?ha ?hn; (case hn => with_reducible assumption); (case ha => walk_at "sm"))
  | (refine' Same.trans ?ha ?hb; (case hb => with_reducible assumption); (case ha => walk_at "sm")))

/-! ### Ratio.read -/
section
variable {P : Program} {w : World} {K : PySem.W.Frag} {mg : Str → Option Value} {base : Heap}
theorem Sm.one : Sm 1 := by
  show (1 : Nat) < 10 ^ 140
  decide +kernel
theorem sp_len {c : Nat} : ∀ l, ∀ w ∈ Rtx.sp c l, w.length ≤ l.length
  | [], w, hw => by
    rw [List.mem_singleton.mp hw]
    exact Nat.le_refl _
  | x :: l, w, hw => by
    have ih := sp_len (c := c) l
    unfold Rtx.sp at hw
    split at hw
    · rcases List.mem_cons.mp hw with rfl | hw
      · exact Nat.zero_le _
      · exact Nat.le_succ_of_le (ih w hw)
    · split at hw
      · rw [List.mem_singleton.mp hw]
        exact Nat.succ_le_succ (Nat.zero_le _)
      · rename_i v vs hs
        rcases List.mem_cons.mp hw with rfl | hw
        · exact Nat.succ_le_succ (ih v (by rw [hs]; exact List.mem_cons_self ..))
        · exact Nat.le_succ_of_le (ih w (by rw [hs]; exact List.mem_cons_of_mem _ hw))
theorem sp_mem {c : Nat} : ∀ l, ∀ w ∈ Rtx.sp c l, ∀ x ∈ w, x ∈ l
  | [], w, hw, x, hx => by
    rw [List.mem_singleton.mp hw] at hx
    exact absurd hx List.not_mem_nil
  | y :: l, w, hw, x, hx => by
    have ih := sp_mem (c := c) l
    unfold Rtx.sp at hw
    split at hw
    · rcases List.mem_cons.mp hw with rfl | hw
      · exact absurd hx List.not_mem_nil
      · exact List.mem_cons_of_mem _ (ih w hw x hx)
    · split at hw
      · rw [List.mem_singleton.mp hw] at hx
        rw [List.mem_singleton.mp hx]
        exact List.mem_cons_self ..
      · rename_i v vs hs
        rcases List.mem_cons.mp hw with rfl | hw
        · rcases List.mem_cons.mp hx with rfl | hx
          · exact List.mem_cons_self ..
          · exact List.mem_cons_of_mem _ (ih v (by rw [hs]; exact List.mem_cons_self ..) x hx)
        · exact List.mem_cons_of_mem _ (ih w (by rw [hs]; exact List.mem_cons_of_mem _ hw) x hx)
theorem Asc.part {l v : List Nat} (h : Asc l) (m : v ∈ Rtx.sp 47 l) : Asc v := ⟨fun c hc => h.1 c (sp_mem l v m c hc), Nat.le_trans (sp_len l v m) h.2⟩
theorem sp_count {c : Nat} : ∀ l, (Rtx.sp c l).length ≤ l.length + 1
  | [] => Nat.le_refl _
  | x :: l => by
    have ih := sp_count (c := c) l
    unfold Rtx.sp
    split
    · exact Nat.succ_le_succ ih
    · split
      · exact Nat.succ_le_succ (Nat.zero_le _)
      · rename_i v vs hs
        rw [hs] at ih
        exact Nat.le_succ_of_le ih
/-- a value that is no text -/
def NoStr (K : PySem.W.Frag) (H : Hp) (x : V) : Prop := (∃ i, x = .int i) ∨ (∃ T, Kd H x T ∧ T ≠ "str") ∨ ∃ a n d, x = .ref a ∧ Rt K H a n d
theorem NoStr.same {H H' : Hp} {x : V} (h : NoStr K H x) (s : Same H H') : NoStr K H' x := h.elim .inl fun h => h.elim (fun ⟨T, k, n⟩ => .inr (.inl ⟨T, Kd.same k s, n⟩)) fun ⟨a, n, d, e, r⟩ => .inr (.inr ⟨a, n, d, e, r.same s⟩)
theorem r_isN (T : Tx K mg) {H : Hp} {x : V} {F : VK} (h : NoStr K H x) (q : F (.bl false) H) : rIsi K [x, .ty "str"] H F := by
  rcases h with ⟨i, rfl⟩ | ⟨T0, kd, hn⟩ | ⟨a, n, d, rfl, r⟩
  · exact ⟨_, _, _, _, false, rfl, .ty _, .base (.int i), kit_ty (by decide +kernel), q⟩
  · refine r_isK kd (kit_str kd.mem) ?_
    rw [decide_eq_false hn]
    exact q
  · exact r_isRt T r T.i_RS q
theorem go_strR {H : Hp} {a : Addr} {n d : Int} {Q : VK} (r : Rt K H a n d) (hn : Sm n) (hd : Sm d) (q : Q (.str (S (Rtx.txt n d))) H) : rStrOwn (He.ga K "Ratio") (spStr K) [.ref a] H Q := by
  obtain ⟨dx, e⟩ := id r
  exact f_strOwn e ⟨a, n, d, rfl, r, hn, hd, _, rfl, q⟩
def spRead (K : PySem.W.Frag) : Sp := fun vs H Q E => ∃ v, vs = [.ref (He.ga K "Ratio"), v] ∧
  ((∃ l, v = .str (S l) ∧ Asc l ∧ match Rtx.rd l with
    | some (n, d) => ∀ x H', H x = none → Rt K H' x n d → Same H H' → Q (.ref x) H'
    | none => TellT K v H E) ∨ (NoStr K H v ∧ TellT K v H E))
theorem slash_len {l v w : List Nat} (h : Rtx.sp 47 l = [v, w]) : l = v ++ 47 :: w := by
  have e := Rtx.sp_join 47 l
  rw [h] at e
  exact e.symm
theorem Sm.dvn {n d : Int} (h : Sm n) : Sm (n / d) := h.quo d
theorem ok_Ratio_read (T : Tx K mg) : Gf P w K mg base (L2.CX P w) 5 (Hk.wfA "Ratio" "classmethod" "read" K) ["cls", "text"] [] (fun vs H Q E => spRead K vs H Q E) := by
  obtain ⟨fd, F⟩ := T.d_Ratio_read
  refine gf0 F (fnG F sc_Ratio_read (fun vs H Q E h => ?_) (fun cdv A outer s H vs Q E hr h => ?_)) (fun _ _ _ _ _ _ us hl => match us, hl with | [_, _], _ => rfl)
  · obtain ⟨v, rfl, _⟩ := h
    rfl
  obtain ⟨v, rfl, h⟩ := h
  refine ⟨_, (pss_cons (ps_set (i := 2) sc_Ratio_read.nd rfl (Or.inl rfl) (pe_ifExp (pt_val (pe_callB (call_isiK (K := K) rfl) (by rfl) T.f_isinstance (by decide +kernel) (pa_cons (pv 1) (pa_cons (pe_bltn (v := .ty "str") (by rfl) T.f_str (by decide +kernel) rfl) pa_nil)))) (pe_split (pv 1) pe_str) (pe_lst pa_nil))) (pss_cons (ps_if (pt_cmpR (op_notInK (K := K) rfl) (pe_callB (call_lenK (K := K) rfl) (by rfl) T.f_len (by decide +kernel) (pa_cons (pv 2) pa_nil)) (pe_tup (pa_cons pe_int (pa_cons pe_int pa_nil))) (by rfl)) (pss_one (ps_err rfl (takes_of rfl rfl rfl rfl) T.er_InvalidText (in_InvalidText T) (inB_InvalidText T) (hr.mono (by decide)) T.g_InvalidText (pa_cons (pv 1) pa_nil))) pss_nil) (pss_cons (ps_set (i := 3) sc_Ratio_read.nd rfl (Or.inl rfl) (pe_g (ok_read_integer T) T.g_read_integer hr (by decide) pass0 (pa_cons (pe_ix (ix_listK (K := K) rfl) (pv 2) pe_int (fun _ _ => rfl)) pa_nil))) (pss_cons (ps_set (i := 4) sc_Ratio_read.nd rfl (Or.inl rfl) (pe_ifExp (pt_cmpR op_eqI (pe_callB (call_lenK (K := K) rfl) (by rfl) T.f_len (by decide +kernel) (pa_cons (pv 2) pa_nil)) pe_int (nomark _)) (pe_g (ok_read_integer T) T.g_read_integer hr (by decide) pass0 (pa_cons (pe_ix (ix_listK (K := K) rfl) (pv 2) pe_int (fun _ _ => rfl)) pa_nil)) pe_int)) (pss_cons (ps_if (PW.pt (pw_or (pt_cmpR op_isN (pv 3) pe_non (nomark _)) (pw_or (pt_cmpR op_isN (pv 4) pe_non (nomark _)) (pw_or1 (pt_cmpR op_lt (pv 4) pe_int (nomark _)))))) (pss_one (ps_err rfl (takes_of rfl rfl rfl rfl) T.er_InvalidText (in_InvalidText T) (inB_InvalidText T) (hr.mono (by decide)) T.g_InvalidText (pa_cons (pv 1) pa_nil))) pss_nil) (pss_cons (ps_set (i := 5) sc_Ratio_read.nd rfl (Or.inl rfl) (pe_mkL (i := 0) T.mk_Ratio (ok_Ratio_2 T) rfl (.inl rfl) hr (by decide) passL (pa_cons (pv 3) (pa_cons (pv 4) pa_nil)))) (pss_cons (ps_if (pt_cmpR op_neS (pe_callTy (call_strOwn (ok_Ratio__str T) T.sp_Ratio__str.at_ T.sp_Ratio__str.fn hr (by decide)) (by rfl) T.f_str (by decide +kernel) (pa_cons (pv 5) pa_nil)) (pv 1) (nomark _)) (pss_one (ps_err rfl (takes_of rfl rfl rfl rfl) T.er_InvalidText (in_InvalidText T) (inB_InvalidText T) (hr.mono (by decide)) T.g_InvalidText (pa_cons (pv 1) pa_nil))) pss_nil) (pss_one (ps_ret (pv 5)))))))))), ?_⟩
  walk_at "in"
  walk_at "go"
  rcases h with ⟨l, rfl, hA, k⟩ | ⟨hN, k⟩
  · have hl := hA.2
    have ll : (S l).length = l.length := S_len _
    walk_at "go"
    refine ⟨rfl, ?_, fun r hr0 => ?_⟩
    · rw [ll]
      exact Nat.le_trans (Nat.add_le_add_right hl 2) (by decide)
    rw [lit_slash, Rtx.split_sp (by decide)]
    have hsp : ∀ v ∈ Rtx.sp 47 l, Asc v := fun v hv => hA.part hv
    have hrd := show Rtx.rd l = _ from by unfold Rtx.rd; rfl
    have hj := Rtx.sp_join 47 l
    rw [List.map_map]
    cases hs : Rtx.sp 47 l with
    | nil => exact absurd hs (Rtx.sp_ne 47 l)
    | cons u us =>
      rw [hs] at hrd hsp hj
      have hu := hsp u (List.mem_cons_self ..)
      cases us with
      | nil =>
        have hul : u = l := hj
        subst hul
        dsimp only [List.map, Function.comp] at *
        walk_at "go"
        intro q hq
        walk_at "go"
        refine ⟨u, rfl, hu, ?_⟩
        cases hi : Rtx.ri u with
        | none =>
          rw [hi] at hrd
          rw [hrd] at k
          dsimp only [oV]
          walk_at "go"
          exact f_tellT (k.same (by walk_at "sm"))
        | some i =>
          rw [hi] at hrd
          rw [hrd] at k
          have sm := ri_sm hl hi
          have et := Rtx.ri_some hi
          dsimp only [oV]
          walk_at "go"
          refine go_mk rfl (by decide) (Bd.of (by decide) (by decide)) fun x H' hx hr2 hs => ?_
          rw [Int.gcd_one_right, show i / ((1 : Nat) : Int) = i from Int.ediv_one i, show (1 : Int) / ((1 : Nat) : Int) = 1 from rfl] at hr2
          walk_at "go"
          refine go_strR hr2 sm Sm.one ?_
          have e1 : Rtx.txt i 1 = u := by
            unfold Rtx.txt
            rw [if_pos rfl, et]
          rw [e1]
          walk_at "go"
          exact k x H' ((show Same H _ by walk_at "sm").free hx) hr2 (by walk_at "sm")
      | cons v vs =>
        have hv := hsp v (List.mem_cons_of_mem _ (List.mem_cons_self ..))
        cases vs with
        | nil =>
          dsimp only [List.map, Function.comp] at *
          have hl2 : l = u ++ 47 :: v := slash_len hs
          walk_at "go"
          intro q hq
          walk_at "go"
          refine ⟨u, rfl, hu, ?_⟩
          walk_at "go"
          refine ⟨v, rfl, hv, ?_⟩
          cases hi : Rtx.ri u with
          | none =>
            rw [hi] at hrd
            rw [hrd] at k
            dsimp only [oV]
            walk_at "go"
            exact f_tellT (k.same (by walk_at "sm"))
          | some i =>
            cases hi2 : Rtx.ri v with
            | none =>
              rw [hi, hi2] at hrd
              rw [hrd] at k
              dsimp only [oV]
              walk_at "go"
              exact f_tellT (k.same (by walk_at "sm"))
            | some j =>
              rw [hi, hi2] at hrd
              have sm := ri_sm hu.2 hi
              have sm2 := ri_sm hv.2 hi2
              have et := Rtx.ri_some hi
              have et2 := Rtx.ri_some hi2
              dsimp only [oV]
              walk_at "go"
              by_cases h0 : j < 1
              · have hrd2 : Rtx.rd l = none := hrd.trans (if_neg (fun z => by omega))
                rw [hrd2] at k
                walk_at "go"
                exact f_tellT (k.same (by walk_at "sm"))
              · walk_at "go"
                refine go_mk rfl (by omega) (sm2.bd.mono (by decide)) fun x H' hx hr2 hs2 => ?_
                walk_at "go"
                refine go_strR hr2 (sm.quo _) (sm2.quo _) ?_
                walk_at "go"
                have ti := Rtx.txt_iff (a := i) (b := j) (by omega)
                rw [et, et2, ← hl2] at ti
                by_cases h1 : 1 < j ∧ Int.gcd i j = 1
                · have hrd2 : Rtx.rd l = some (i, j) := hrd.trans (if_pos h1)
                  rw [hrd2] at k
                  rw [ti.mpr h1]
                  walk_at "go"
                  rw [h1.2, show i / ((1 : Nat) : Int) = i from Int.ediv_one i, show j / ((1 : Nat) : Int) = j from Int.ediv_one j] at hr2
                  exact k x H' ((show Same H _ by walk_at "sm").free hx) hr2 (by walk_at "sm")
                · have hrd2 : Rtx.rd l = none := hrd.trans (if_neg h1)
                  rw [hrd2] at k
                  refine n_neg (fun z => h1 (ti.mp (S_inj z))) ?_
                  walk_at "go"
                  exact f_tellT (k.same (by walk_at "sm"))
        | cons y ys =>
          rw [hrd] at k
          dsimp only [List.map, Function.comp] at *
          have hc := sp_count (c := 47) l
          rw [hs] at hc
          dsimp only [List.length] at hc
          walk_at "go"
          intro q hq
          have hb : ∀ (n : Nat), (!inV (.int ((n + 1 + 1 + 1 : Nat) : Int)) [.int 1, .int 2]) = true := fun n => by
            have h1 : ((1 : Int) == ((n + 1 + 1 + 1 : Nat) : Int)) = false := beq_eq_false_iff_ne.mpr (by omega)
            have h2 : ((2 : Int) == ((n + 1 + 1 + 1 : Nat) : Int)) = false := beq_eq_false_iff_ne.mpr (by omega)
            show (!((1 : Int) == ((n + 1 + 1 + 1 : Nat) : Int) || ((2 : Int) == ((n + 1 + 1 + 1 : Nat) : Int) || false))) = true
            rw [h1, h2] <;> rfl
          refine r_inT (SqT.of upd_same) rfl (hb (List.map (fun z => V.str (S z)) ys).length) ?_
          walk_at "go"
          exact f_tellT (k.same (by walk_at "sm"))
  · walk_at "go"
    refine r_isN T hN ?_
    walk_at "go"
    intro r hr0
    walk_at "go"
    intro q hq
    walk_at "go"
    exact f_tellT (k.same (by walk_at "sm"))
end

end Toy

set_option Elab.async false
set_option linter.all false
set_option maxRecDepth 100000
set_option maxHeartbeats 4000000
namespace Toy
open PySem PySem.Spec PyProof.Rows L2 My SX
local macro_rules | `(tactic| walk_at "ne") => `(tactic| first
  | with_reducible assumption
  | exact Ne.symm (by with_reducible assumption)
  | (refine' ne_of_none ?hx ?hy; (case hy => with_reducible assumption); (case hx => walk_at "hf"))
  | (refine' Ne.symm (ne_of_none ?hx ?hy); (case hy => with_reducible assumption); (case hx => walk_at "hf"))
  | (refine' Pu.ne ?hx ?hy; (case hy => with_reducible assumption); (case hx => walk_at "pu")))
local macro_rules | `(tactic| walk_at "pu") => `(tactic| first
  | with_reducible assumption
  | ((with_reducible refine' Pu.same ?hx ?hy); (case hy => with_reducible assumption); (case hx => walk_at "pu")))
local macro_rules | `(tactic| walk_at "hf") => `(tactic| first
  | with_reducible assumption
  | with_reducible exact upd_same
  | ((with_reducible refine' Same.at ?hs ?hr); (case hs => with_reducible assumption); (case hr => walk_at "hf"))
  | ((with_reducible refine' at_or ?hr ?hn); (case hr => walk_at "hf"); (case hn => first | exact Or.inl (by with_reducible assumption) | exact Or.inr (by walk_at "ne")))
  | ((with_reducible refine' But.at ?hb ?hn ?hr); (case hb => with_reducible assumption); (case hr => walk_at "hf"); (case hn => walk_at "ne")))
local macro_rules | `(tactic| walk_at "sq") => `(tactic| first
  | with_reducible assumption
  | ((with_reducible refine' SqL.of ?hql); (case hql => walk_at "hf"))
  | ((with_reducible refine' Same.seq ?hx ?hy); (case hx => with_reducible assumption); (case hy => walk_at "sq")))
local macro_rules | `(tactic| walk_at "sqo") => `(tactic| first
  | ((with_reducible refine' Or.inl ?hol); (case hol => with_reducible assumption))
  | ((with_reducible refine' Or.inr ?hor); (case hor => with_reducible assumption))
  | ((with_reducible refine' Or.inl (SqL.of ?hol)); (case hol => walk_at "hf"))
  | ((with_reducible refine' Or.inr (SqT.of ?hor)); (case hor => walk_at "hf"))
  | ((with_reducible refine' Or.inl ?hol); (case hol => walk_at "sq"))
  | ((with_reducible refine' Or.inr ?hor); (case hor => walk_at "sqt")))
local macro_rules | `(tactic| walk_at "sqt") => `(tactic| first
  | with_reducible assumption
  | ((with_reducible refine' SqT.of ?hqt); (case hqt => walk_at "hf"))
  | ((with_reducible refine' tupS ?hx ?hy); (case hy => with_reducible assumption); (case hx => walk_at "sqt")))
local macro_rules | `(tactic| walk_at "lg") => `(tactic| first
  | with_reducible assumption
  | exact Bd.lg (by with_reducible assumption) (by decide) (by decide)
  | exact Bd.lg (Bd.of (b := 100) (by omega) (by omega)) (by decide) (by decide))
local macro_rules | `(tactic| walk_at "len") => `(tactic| first
  | with_reducible assumption
  | ((simp only [txt_int, lcat, S_len, List.length_append, List.length_cons, List.length_nil]); omega)
  | (apply of_decide_eq_true; rfl))
local macro_rules | `(tactic| walk_at "side") => `(tactic| first
  | with_reducible assumption
  | omega
  | exact ml (by omega) (by omega)
  | exact mr (by omega) (by omega)
  | exact dv (by omega) (by omega)
  | exact Bd.mulOk (by with_reducible assumption) (by with_reducible assumption) (by decide) (by decide) (by decide)
  | exact Bd.div (by with_reducible assumption) (by omega) (by decide) (by decide)
  | (show (0 : Int) < _; omega)
  | decide
  | exact ni_non
  | exact rfl
  | ((simp only [List.length_cons, List.length_nil, List.length_map]); omega))
local macro_rules | `(tactic| walk_at "nl") => `(tactic| first
  | ((simp only [List.length_cons, List.length_nil, List.length_map, List.length_append]); omega)
  | omega
  | decide
  | exact Nat.le_of_ble_eq_true rfl)
local macro_rules | `(tactic| walk_at "sn") => `(tactic| first
  | with_reducible refine r_tupN ?_
  | with_reducible refine r_lstN ?_
  | with_reducible refine r_dnewN ?_
  | ((with_reducible refine' r_listN ?hh ?_); (case hh => walk_at "sqo"))
  | ((with_reducible refine' r_tupleN ?hh ?_); (case hh => walk_at "sq"))
  | ((with_reducible refine' r_slLN ?hh ?_); (case hh => walk_at "sq"))
  | ((with_reducible refine' r_catN ?hh ?hg ?hz ?_); (case hh => walk_at "hf"); (case hg => walk_at "hf"); (case hz => walk_at "nl"))
  | ((with_reducible refine' r_repN ?hh ?h2 ?h3 ?h4 ?_); (case hh => walk_at "hf"); (case h2 => walk_at "side"); (case h3 => walk_at "nl"); (case h4 => walk_at "side")))
local macro_rules | `(tactic| walk_at "st") => `(tactic| first
  | walk_at "sn"
  | ((with_reducible refine' r_var ?hh ?_); (case hh => rfl))
  | with_reducible refine r_c ?_
  | with_reducible refine r_op ?_
  | with_reducible refine r_i0 ?_
  | with_reducible refine r_cons ?_
  | with_reducible refine r_nil ?_
  | with_reducible refine r_seq ?_
  | with_reducible refine r_asg ?_
  | with_reducible refine r_gname ?_
  | with_reducible refine r_ret ?_
  | with_reducible refine r_ifS ?_
  | with_reducible refine r_test ?_
  | with_reducible refine r_tB ?_
  | with_reducible refine b_bl ?_
  | with_reducible refine i_t ?_
  | with_reducible refine i_f ?_
  | with_reducible refine i_nt ?_
  | with_reducible refine i_nf ?_
  | ((with_reducible refine' i_pos ?hh ?_); (case hh => walk_at "side"))
  | ((with_reducible refine' i_neg ?hh ?_); (case hh => walk_at "side"))
  | ((with_reducible refine' n_pos ?hh ?_); (case hh => walk_at "side"))
  | ((with_reducible refine' n_neg ?hh ?_); (case hh => walk_at "side"))
  | ((with_reducible refine' r_pow ?hh ?he ?_); (case hh => first | exact ⟨by decide, by decide, by decide⟩ | exact ⟨by decide, by decide, by omega⟩); (case he => first | ((simp only [Int.reduceToNat, Int.reducePow]); done) | ((simp only [Int.reduceToNat, Int.reducePow]); rfl) | rfl))
  | ((with_reducible refine' r_i ?hh ?_); (case hh => walk_at "side"))
  | with_reducible refine r_call0 ?_
  | with_reducible refine r_call ?_
  | with_reducible refine r_cb ?_
  | with_reducible refine r_int ?_
  | ((with_reducible refine' r_strI ?hh ?_); (case hh => walk_at "lg"))
  | with_reducible refine r_i1 ?_
  | with_reducible refine r_i2 ?_
  | with_reducible refine r_par ?_
  | with_reducible refine r_two ?_
  | with_reducible refine r_par3 ?_
  | with_reducible refine r_three ?_
  | with_reducible refine r_and ?_
  | with_reducible refine r_or ?_
  | with_reducible refine r_not ?_
  | with_reducible refine r_tif ?_
  | with_reducible refine r_andV ?_
  | with_reducible refine r_orV ?_
  | with_reducible refine r_notV ?_
  | with_reducible refine r_un ?_
  | with_reducible refine r_u ?_
  | with_reducible refine r_sb ?_
  | with_reducible refine r_drop ?_
  | with_reducible refine r_next ?_
  | with_reducible refine r_gsub ?_
  | ((with_reducible refine' r_ixL ?hh ?he ?_); (case hh => walk_at "sq"); (case he => rfl))
  | ((with_reducible refine' r_ixT ?hh ?he ?_); (case hh => walk_at "sqt"); (case he => rfl))
  | ((with_reducible refine' r_setL ?hh ?he ?_); (case hh => walk_at "hf"); (case he => rfl))
  | with_reducible refine r_gcons ?_
  | with_reducible refine r_gnil ?_
  | with_reducible refine r_sl ?_
  | with_reducible refine r_nopart ?_
  | with_reducible refine r_part ?_
  | with_reducible refine r_pint ?_
  | ((with_reducible refine' r_lenS ?hh ?_); (case hh => walk_at "sqo"))
  | ((with_reducible refine' r_gtup ?hh ?he ?_); (case hh => walk_at "sqt"); (case he => rfl))
  | ((with_reducible refine' r_slL ?hh ?_); (case hh => walk_at "sq"))
  | ((with_reducible refine' r_len ?hh ?_); (case hh => exact sz (by (try simp only [List.length_map]); (first | omega | decide | exact Nat.le_of_ble_eq_true rfl))))
  | with_reducible refine r_isi_ii ?_
  | with_reducible refine r_isi_ib ?_
  | with_reducible refine r_isi_ss ?_
  | ((with_reducible refine' r_isi_own ?hh ?hi ?hk ?_); (case hh => walk_at "hf"); (case hi => with_reducible assumption); (case hk => with_reducible assumption))
  | with_reducible refine r_lst ?_
  | with_reducible refine r_tup ?_
  | with_reducible refine r_make ?_
  | with_reducible refine r_forR1 ?_
  | with_reducible refine r_forL ?_
  | with_reducible refine r_forT ?_
  | with_reducible refine r_forR2 ?_
  | with_reducible refine r_ref1 ?_
  | with_reducible refine r_brk ?_
  | with_reducible refine r_cont ?_
  | with_reducible refine r_retN ?_
  | with_reducible refine r_rr ?_
  | with_reducible refine r_fmt ?_
  | ((with_reducible refine' r_fmti ?hh ?_); (case hh => walk_at "lg"))
  | with_reducible refine r_js ?_
  | with_reducible refine r_js0 ?_
  | ((with_reducible refine' r_jsp ?hh ?_); (case hh => walk_at "len"))
  | with_reducible refine r_m0 ?_
  | with_reducible refine r_m1 ?_
  | with_reducible refine r_str ?_
  | with_reducible refine r_ss ?_
  | with_reducible refine r_s0 ?_
  | ((with_reducible refine' r_addS ?hh ?_); (case hh => walk_at "len"))
  | ((with_reducible refine' r_slS ?hh ?_); (case hh => walk_at "len"))
  | ((with_reducible refine' r_lenT ?hh ?_); (case hh => walk_at "len"))
  | ((with_reducible refine' r_memI ?hh ?_); (case hh => with_reducible assumption))
  | with_reducible refine r_eqB ?_
  | ((with_reducible refine' r_inT ?hh ?hf ?he ?_); (case hh => walk_at "sqt"); (case hf => rfl); (case he => rfl))
  | ((with_reducible refine' r_inF ?hh ?hf ?he ?_); (case hh => walk_at "sqt"); (case hf => rfl); (case he => rfl))
  | ((with_reducible refine' r_makeL ?hh ?_); (case hh => rfl))
  | with_reducible refine r_tprop ?_
  | with_reducible refine r_tfld ?_
  | ((with_reducible refine' f_prop ?hh ?_); (case hh => walk_at "hf"))
  | ((with_reducible refine' f_fld ?hh ?hc ?hn ?hl ?_); (case hh => walk_at "hf"); (case hc => with_reducible assumption); (case hn => with_reducible assumption); (case hl => rfl))
  | with_reducible refine r_tcm ?_
  | with_reducible refine r_chain ?_
  | with_reducible refine r_chain3 ?_
  | with_reducible refine r_bl1 ?_
  | with_reducible refine r_intb ?_
  | with_reducible refine r_yes ?_
  | with_reducible refine r_makeK ?_
  | with_reducible refine r_sfld ?_
  | ((with_reducible refine' f_sfld ?hh ?hc ?hn ?hl ?_); (case hh => walk_at "hf"); (case hc => with_reducible assumption); (case hn => with_reducible assumption); (case hl => exact Nat.le_of_ble_eq_true rfl))
  | with_reducible refine r_lcL ?_
  | with_reducible refine r_lcS ?_
  | with_reducible refine r_lcT ?_
  | with_reducible refine r_lcR1 ?_
  | with_reducible refine r_lcR2 ?_
  | with_reducible refine r_tbm ?_
  | with_reducible refine r_tbm0 ?_
  | ((with_reducible refine' f_tyL ?hh ?_); (case hh => walk_at "hf"))
  | ((with_reducible refine' r_app ?hh ?he ?_); (case hh => walk_at "hf"); (case he => walk_at "side"))
  | with_reducible refine r_tRev ?_
  | with_reducible refine r_lstRg1 ?_
  | with_reducible refine r_lcRV ?_
  | with_reducible refine r_makeS ?_
  | with_reducible refine r_cmS ?_
  | with_reducible refine r_methS ?_
  | with_reducible refine r_tupRg1 ?_
  | with_reducible refine r_forRV ?_
  | with_reducible refine r_raiseE ?_
  | with_reducible refine r_callG ?_
  | ((with_reducible refine' r_xfV ?hh ?hf ?hl ?_); (case hh => rfl); (case hf => walk_at "hf"); (case hl => rfl)))
local macro_rules | `(tactic| walk_at "go") => `(tactic| (repeat walk_at "st"))
local macro_rules | `(tactic| walk_at "in") => `(tactic| dsimp only [cxOf, L2.start, List.map, List.length, List.replicate, Nat.reduceSub, Nat.reduceAdd, List.cons_append, List.nil_append, List.append_nil])
local macro_rules | `(tactic| walk_at "bt") => `(tactic| first
  | with_reducible assumption
  | exact But.rfl
  | exact Same.but (by with_reducible assumption)
  | (refine' But.put ?ha; (case ha => walk_at "bt"))
  | (refine' But.new ?ha ?hn; (case hn => with_reducible assumption); (case ha => walk_at "bt"))
  | (refine' But.trans ?ha ?hb; (case hb => with_reducible assumption); (case ha => walk_at "bt"))
  | (refine' But.trans ?ha (Same.but ?hb); (case hb => with_reducible assumption); (case ha => walk_at "bt")))
local macro_rules | `(tactic| walk_at "sm") => `(tactic| first
  | with_reducible assumption
  | exact Same.refl _
  | (refine' Same.new ?ha ?hn; (case hn => with_reducible assumption); (case ha => walk_at "sm"))
  | (refine' Same.trans ?ha ?hb; (case hb => with_reducible assumption); (case ha => walk_at "sm")))

section
variable {P : Program} {w : World} {K : PySem.W.Frag} {mg : Str → Option Value} {base : Heap}
/-- whether a value is a share -/
def spShare (K : PySem.W.Frag) : Sp := fun vs H Q _ => ∃ v, vs = [v] ∧ ((∃ a n d, v = .ref a ∧ Rt K H a n d ∧ Q (.bl (decide (0 ≤ n ∧ n < d ∧ d ≤ 1000000000))) H) ∨ ((∃ i, v = .int i) ∨ ∃ T, Kd H v T) ∧ Q (.bl false) H)
theorem kit_rat (T : Tx K mg) {T0 : String} (h : T0 ∈ kinds) : PySem.W.kitOne K (.type T0) (.ref (He.ga K "Ratio")) = some false := by
  simp only [kinds, List.mem_cons, List.not_mem_nil, or_false] at h
  rcases h with rfl | rfl | rfl | rfl | rfl | rfl
  · exact T.i_Kbool
  · exact T.i_KNoneType
  · exact T.i_Kstr
  · exact T.i_Klist
  · exact T.i_Ktuple
  · exact T.i_Kdict
theorem r_isRK (T : Tx K mg) {H : Hp} {x : V} {T0 : String} {F : VK} (k : Kd H x T0) (q : F (.bl false) H) : rIsi K [x, .ref (He.ga K "Ratio")] H F := ⟨_, _, _, _, false, rfl, .own _, k.ty, kit_rat T k.mem, q⟩
theorem r_isRI (T : Tx K mg) {H : Hp} {i : Int} {F : VK} (q : F (.bl false) H) : rIsi K [.int i, .ref (He.ga K "Ratio")] H F := ⟨_, _, _, _, false, rfl, .own _, .base (.int i), T.i_Kint, q⟩
theorem ok_is_share (T : Tx K mg) : Gf P w K mg base CX0 1 (He.ga K "is_share") ["value"] [] (spShare K) := by
  obtain ⟨fd, F⟩ := T.d_is_share
  have hc := T.cl_Ratio
  have n1 := T.n_Ratio_top
  have n2 := T.n_Ratio_bottom
  refine gf0 F (fnG F sc_is_share (fun vs H Q E h => ?_) (fun cdv A outer s H vs Q E hr h => ?_)) (fun _ _ _ _ _ _ us hl => match us, hl with | [_], _ => rfl)
  · obtain ⟨a, rfl, _⟩ := h
    rfl
  obtain ⟨v, rfl, h⟩ := h
  refine ⟨_, PSs.nox (pss_one (ps_ret (pe_and (pe_callB (call_isiK (K := K) rfl) (by rfl) T.f_isinstance (by decide +kernel) (pa_cons (pv 0) (pa_cons (pe_glob (v := .ref (He.ga K "Ratio")) rfl T.g_Ratio rfl) pa_nil))) (pe_one (pe_chain3 op_le op_lt op_le pe_int (pe_fldK (K := K) rfl (pv 0) rfl) (pe_fldK (K := K) rfl (pv 0) rfl) (pe_gi rfl T.c_SHARE_BOTTOM)))))), ?_⟩
  walk_at "in"
  walk_at "go"
  rcases h with ⟨a, n, d, rfl, ⟨dx, ha⟩, k⟩ | ⟨⟨i, rfl⟩ | ⟨T0, kd⟩, k⟩
  · obtain ⟨t, ht⟩ := T.c_SHARE_BOTTOM
    refine r_isi_own ha T.in_Ratio T.i_RR ?_
    walk_at "go"
    by_cases h1 : 0 ≤ n
    · rw [decide_eq_true h1]
      walk_at "go"
      by_cases h2 : n < d
      · rw [decide_eq_true h2]
        walk_at "go"
        rw [show decide (0 ≤ n ∧ n < d ∧ d ≤ 1000000000) = decide (d ≤ 1000000000) from decide_eq_decide.mpr (by omega)] at k
        exact k
      · rw [decide_eq_false h2]
        walk_at "go"
        rw [decide_eq_false (by omega)] at k
        exact k
    · rw [decide_eq_false h1]
      walk_at "go"
      rw [decide_eq_false (by omega)] at k
      exact k
  · refine r_isRI T ?_
    walk_at "go"
    exact k
  · refine r_isRK T kd ?_
    walk_at "go"
    exact k
def spDiv : Sp := fun vs H Q _ => ∃ a b : Int, vs = [.int a, .int b] ∧ 0 < b ∧ Q (.int (Int.gcd a b)) H
theorem ok_law_divisor (T : Tx K mg) : Gf P w K mg base CX0 1 (He.ga K "_law_divisor") ["_law_top", "_law_bottom"] [] spDiv := by
  obtain ⟨fd, F⟩ := T.d_law_divisor
  refine gf0 F (fnG F sc_law_divisor (fun vs H Q E h => ?_) (fun cdv A outer s H vs Q E hr h => ?_)) (fun _ _ _ _ _ _ us hl => match us, hl with | [_, _], _ => rfl)
  · obtain ⟨a, b, rfl, _⟩ := h
    rfl
  obtain ⟨a, b, rfl, b0, k⟩ := h
  refine ⟨_, PSs.nox (pss_cons (ps_par (i := 2) (j := 3) (by rfl) sc_law_divisor.nd rfl rfl (by decide) rfl rfl (pa_cons (pe_callB call_abs (by rfl) T.f_abs (by decide +kernel) (pa_cons (pv 0) pa_nil)) (pa_cons (pv 1) pa_nil)) (by rfl)) (pss_cons (ps_while PassesOwn.never (pt_cmpR op_gt (pv 3) pe_int (nomark _)) (pss_one (ps_par (i := 2) (j := 3) (by rfl) sc_law_divisor.nd rfl rfl (by decide) rfl rfl (pa_cons (pv 3) (pa_cons (pe_op op_mod (pe_callTy call_int1 (by rfl) T.f_int (by decide +kernel) (pa_cons (pv 2) pa_nil)) (pv 3)) pa_nil)) (by rfl)))) (pss_one (ps_ret (pv 2))))), ?_⟩
  walk_at "in"
  walk_at "go"
  refine lp_while (fun σ H' => ∃ g s : Nat, σ = [some (.int a), some (.int b), some (.int g), some (.int s)] ∧ H' = H ∧ Nat.gcd g s = Int.gcd a b) (fun σ _ => match σ with | [_, _, _, some (.int s)] => s.toNat | _ => 0) ⟨a.natAbs, b.natAbs, ?_, rfl, rfl⟩ ?_
  · rw [abs_nat, Int.natAbs_of_nonneg (show 0 ≤ b by omega)] <;> rfl
  · rintro σ H1 ⟨g, s, rfl, rfl, hg⟩
    walk_at "go"
    refine i_two (fun h => ?_) (fun h => ?_)
    · refine w_turn ?_
      walk_at "go"
      refine ⟨⟨s, g % s, rfl, rfl, ?_⟩, ?_⟩
      · rw [← hg, Nat.gcd_comm g s, Nat.gcd_rec s g, Nat.gcd_comm]
      · show (((g : Int) % (s : Int))).toNat < ((s : Int)).toNat
        have := Nat.mod_lt g (show s > 0 by omega)
        omega
    · walk_at "go"
      have hs : s = 0 := by omega
      subst hs
      rw [← hg, Nat.gcd_zero_right] at k
      exact k
/-- the figures -/
def figs : List Nat := [48, 49, 50, 51, 52, 53, 54, 55, 56, 57]
theorem lit_figs : ("0123456789" : Str) = S figs := by rfl
theorem mem_figs (c : Nat) : decide (c ∈ figs) = Rtx.isD c := by
  unfold figs Rtx.isD
  rw [← Bool.decide_and]
  exact decide_eq_decide.mpr ⟨fun h => by simp at h; omega, fun h => by simp; omega⟩
/-- a word, read by the law: an integer or None; a new list may stay -/
def spWhole : Sp := fun vs H Q _ => ∃ l, vs = [.str (S l)] ∧ Asc l ∧ ∀ H', Same H H' → Q (oV (Rtx.ri l)) H'
theorem ok_law_whole (T : Tx K mg) : Gf P w K mg base CX0 1 (He.ga K "_law_whole") ["_law_word"] [] spWhole := by
  obtain ⟨fd, F⟩ := T.d_law_whole
  refine gf0 F (fnG F sc_law_whole (fun vs H Q E h => ?_) (fun cdv A outer s H vs Q E hr h => ?_)) (fun _ _ _ _ _ _ us hl => match us, hl with | [_], _ => rfl)
  · obtain ⟨l, rfl, _⟩ := h
    rfl
  obtain ⟨l, rfl, hA, k⟩ := h
  have hl := hA.2
  have ll : (S l).length = l.length := S_len _
  have lt : (S l.tail).length = l.length - 1 := by rw [S_len, List.length_tail]
  have eT : ∀ {i}, Rtx.ri l = some i → intText? (S l) = some i := fun {i} h => by
    have e := Rtx.ri_some h
    have := intL_val (i := i) (by rw [e]; omega)
    rwa [e] at this
  have ⟨ds, hds⟩ : ∃ ds, ds = if l.head? = some 45 then l.tail else l := ⟨_, rfl⟩
  have dA : ∀ c ∈ ds, c < 128 := fun c hc => by
    rw [hds] at hc
    split at hc
    · exact hA.1 c (List.mem_of_mem_tail hc)
    · exact hA.1 c hc
  have dl : ds.length ≤ 140 := by
    rw [hds]
    split
    · rw [List.length_tail]; omega
    · exact hl
  have hri : Rtx.ri l = Rtx.riN ds l (decide (l.head? = some 45)) := by
    unfold Rtx.ri
    rw [hds]
    split
    · rename_i h; rw [decide_eq_true h]
    · rename_i h; rw [decide_eq_false h]
  refine ⟨_, PSs.nox (pss_cons (ps_set (i := 1) sc_law_whole.nd rfl (Or.inl rfl) (pe_ifExp (pt_val (pe_m1 PySem.F.slot_str_startswith PySem.F.type_str_startswith mt_startswith (pv 0) pe_str)) (pe_slice sl_str (pv 0) (po_some pe_int) po_none) (pv 0))) (pss_cons (ps_if (PW.pt (pw_or (pt_cmpR op_eqS (pv 1) pe_str (nomark _)) (pw_or1 (pt_cmpR (op_neDK (K := K) rfl hr.units) (pe_lc (own := [("_law_sign", 2)]) rfl sc_law_whole.nd (pi_str (pv 1)) (blkOk_by (N := ["_law_word", "_law_digits", "_law_sign"]) (sc := defScope s_law_whole) (by decide +kernel)) (fun _ _ _ _ _ => (pg_name (i := 2) sc_law_whole.nd rfl (Or.inl rfl))) (fun _ _ _ _ _ => pts_one (pt_cmpR op_notInS (pv 2) pe_str (by rfl))) (fun _ _ _ _ _ => (pv 2))) (pe_lstN pa_nil) (nomark _))))) (pss_one (ps_ret pe_non)) pss_nil) (pss_one (ps_ret (pe_ifExp (PW.pt (pw_and (pt_cmpR op_eqS (pe_ix ix_str (pv 1) pe_int (fun _ _ => rfl)) pe_str (nomark _)) (pw_and1 (pt_cmpR op_neS (pv 0) pe_str (nomark _))))) pe_non (pe_callTy call_int_str (by rfl) T.f_int (by decide +kernel) (pa_cons (pv 0) pa_nil))))))), ?_⟩
  walk_at "in"
  walk_at "go"
  rw [lit_minus, starts_h]
  refine r_join (.str (S ds)) ?_ (fun hm Q' q => ?_) (fun hm Q' q => ?_)
  rotate_left
  · rw [if_pos hm] at hds
    subst hds
    walk_at "go"
    rw [cut_tl]
    exact q
  · rw [if_neg hm] at hds
    subst hds
    walk_at "go"
    exact q
  walk_at "go"
  by_cases h0 : ds = []
  · subst h0
    have e1 : Rtx.ri l = none := hri.trans (if_pos (.inl rfl))
    rw [e1] at k
    walk_at "go"
    exact k H (Same.refl _)
  · refine i_neg (fun z => h0 (S_inj z)) ?_
    walk_at "go"
    refine ⟨_, rfl, lc_strG (fun i acc _ => acc = ((ds.take i).filter fun c => !Rtx.isD c).map fun c => V.str (S [c])) ?_ (fun _ _ _ _ _ _ _ _ h => h) (fun _ _ => rfl) ?_ ?_⟩
    · rintro i acc _ rfl
      rw [List.length_map]
      have h1 := List.length_filter_le (fun c => !Rtx.isD c) (ds.take i)
      have h2 := List.length_take_le' i ds
      omega
    · intro i c acc H1 X Y hi s1 hp hX hY
      have ht : ds.take (i + 1) = ds.take i ++ [c] := by rw [List.take_succ, hi] <;> rfl
      walk_at "go"
      refine ⟨rfl, ?_⟩
      walk_at "go"
      refine ⟨c, _, rfl, rfl, ?_⟩
      walk_at "go"
      rw [lit_figs, show decide (c ∈ (S figs).cps.toList) = Rtx.isD c from mem_figs c]
      cases hc : Rtx.isD c with
      | true =>
        walk_at "go"
        exact hY _ (Same.refl _) (by rw [hp, ht, List.filter_append, List.filter_cons_of_neg (by rw [hc]; decide), List.filter_nil, List.append_nil])
      | false =>
        walk_at "go"
        exact hX _ _ (Same.refl _) (by rw [hp, ht, List.filter_append, List.filter_cons_of_pos (by rw [hc]; decide), List.filter_nil, List.map_append] <;> rfl)
    · rintro D acc H1 hD hD1 s1 hacc
      rw [List.take_length] at hacc
      subst hacc
      walk_at "go"
      intro m H2 hm e2 s2
      have fm : ∀ zs : List Nat, zs.map (fun c => V.str (S [c])) = (zs.map fun c => S [c]).map V.str := fun zs => by rw [List.map_map] <;> rfl
      refine r_neS _ [] (SqL.of (s2 _ _ hD1)) (SqL.of e2) (fm _) rfl (fun t ht => ?_) (fun _ h => absurd h List.not_mem_nil) ?_
      · obtain ⟨c, hc, rfl⟩ := List.mem_map.mp ht
        have := dA c (List.mem_filter.mp hc).1
        exact strOk_S fun x hx => by
          rw [List.mem_singleton.mp hx]
          omega
      have s3 : Same H H2 := s1.trans s2
      by_cases hd : ds.all Rtx.isD = true
      · have e0 : (ds.filter fun c => !Rtx.isD c) = [] := List.filter_eq_nil_iff.mpr fun c hc => by rw [List.all_eq_true.mp hd c hc]; decide
        rw [decide_eq_true (show (ds.filter fun c => !Rtx.isD c).map (fun c => S [c]) = [] by rw [e0]; rfl)]
        walk_at "go"
        have h1 : ¬ (ds = [] ∨ ds.all Rtx.isD = false) := fun z => z.elim h0 fun z => by rw [hd] at z; cases z
        obtain ⟨c, t, rfl⟩ : ∃ c t, ds = c :: t := by
          cases ds with
          | nil => exact absurd rfl h0
          | cons c t => exact ⟨c, t, rfl⟩
        refine ⟨_, _, c, rfl, rfl, ?_, atI_nat (xs := c :: t) (j := 0) rfl, ?_⟩
        · rw [S_len]
          exact Nat.le_trans dl (by decide)
        walk_at "go"
        have fin : ∀ {i : Int}, Rtx.ri l = some i → ∃ b m, ([V.str (S l)] : List V) = [.str b] ∧ intText? b = some m ∧ b.length ≤ 640 ∧ Q (.int m) H2 := fun {i} e => by
          have e2 := eT e
          rw [e] at k
          exact r_intS (F := fun n => Q (.int n) H2) e2 (by omega) (k H2 s3)
        rw [lit_0]
        by_cases hz : c = 48
        · subst hz
          walk_at "go"
          by_cases hz2 : l = [48]
          · have e1 := hri
            unfold Rtx.riN at e1
            rw [if_neg h1, if_neg (fun z => z.2 hz2)] at e1
            refine n_pos (by rw [hz2]) ?_
            walk_at "go"
            exact fin e1
          · have e1 := hri
            unfold Rtx.riN at e1
            rw [if_neg h1, if_pos ⟨rfl, hz2⟩] at e1
            rw [e1] at k
            refine n_neg (fun z => hz2 (S_inj z)) ?_
            walk_at "go"
            exact k H2 s3
        · have e1 := hri
          unfold Rtx.riN at e1
          rw [if_neg h1, if_neg (fun z => hz (Option.some.inj z.1))] at e1
          refine i_neg (fun z => hz (List.cons.inj (S_inj z)).1) ?_
          walk_at "go"
          exact fin e1
      · have hf : ds.all Rtx.isD = false := by
          cases q : ds.all Rtx.isD with
          | true => exact absurd q hd
          | false => rfl
        have e0 : ((ds.filter fun c => !Rtx.isD c).map fun c => S [c]) ≠ [] := fun z => by
          rw [List.map_eq_nil_iff, List.filter_eq_nil_iff] at z
          exact hd (List.all_eq_true.mpr fun c hc => by have := z c hc; simpa using this)
        rw [decide_eq_false e0]
        walk_at "go"
        have e1 : Rtx.ri l = none := hri.trans (if_pos (.inr hf))
        rw [e1] at k
        exact k H2 s3
end

end Toy

set_option Elab.async false
set_option linter.all false
set_option maxRecDepth 100000
set_option maxHeartbeats 4000000
namespace Toy
open PySem PySem.Spec PyProof.Rows L2 My SX
local macro_rules | `(tactic| walk_at "ne") => `(tactic| first
  | with_reducible assumption
  | exact Ne.symm (by with_reducible assumption)
  | (refine' ne_of_none ?hx ?hy; (case hy => with_reducible assumption); (case hx => walk_at "hf"))
  | (refine' Ne.symm (ne_of_none ?hx ?hy); (case hy => with_reducible assumption); (case hx => walk_at "hf"))
  | (refine' Pu.ne ?hx ?hy; (case hy => with_reducible assumption); (case hx => walk_at "pu")))
local macro_rules | `(tactic| walk_at "pu") => `(tactic| first
  | with_reducible assumption
  | ((with_reducible refine' Pu.same ?hx ?hy); (case hy => with_reducible assumption); (case hx => walk_at "pu")))
local macro_rules | `(tactic| walk_at "hf") => `(tactic| first
  | with_reducible assumption
  | with_reducible exact upd_same
  | ((with_reducible refine' Same.at ?hs ?hr); (case hs => with_reducible assumption); (case hr => walk_at "hf"))
  | ((with_reducible refine' at_or ?hr ?hn); (case hr => walk_at "hf"); (case hn => first | exact Or.inl (by with_reducible assumption) | exact Or.inr (by walk_at "ne")))
  | ((with_reducible refine' But.at ?hb ?hn ?hr); (case hb => with_reducible assumption); (case hr => walk_at "hf"); (case hn => walk_at "ne")))
local macro_rules | `(tactic| walk_at "sq") => `(tactic| first
  | with_reducible assumption
  | ((with_reducible refine' SqL.of ?hql); (case hql => walk_at "hf"))
  | ((with_reducible refine' Same.seq ?hx ?hy); (case hx => with_reducible assumption); (case hy => walk_at "sq")))
local macro_rules | `(tactic| walk_at "sqo") => `(tactic| first
  | ((with_reducible refine' Or.inl ?hol); (case hol => with_reducible assumption))
  | ((with_reducible refine' Or.inr ?hor); (case hor => with_reducible assumption))
  | ((with_reducible refine' Or.inl (SqL.of ?hol)); (case hol => walk_at "hf"))
  | ((with_reducible refine' Or.inr (SqT.of ?hor)); (case hor => walk_at "hf"))
  | ((with_reducible refine' Or.inl ?hol); (case hol => walk_at "sq"))
  | ((with_reducible refine' Or.inr ?hor); (case hor => walk_at "sqt")))
local macro_rules | `(tactic| walk_at "sqt") => `(tactic| first
  | with_reducible assumption
  | ((with_reducible refine' SqT.of ?hqt); (case hqt => walk_at "hf"))
  | ((with_reducible refine' tupS ?hx ?hy); (case hy => with_reducible assumption); (case hx => walk_at "sqt")))
local macro_rules | `(tactic| walk_at "lg") => `(tactic| first
  | with_reducible assumption
  | exact Bd.lg (by with_reducible assumption) (by decide) (by decide)
  | exact Bd.lg (Bd.of (b := 100) (by omega) (by omega)) (by decide) (by decide))
local macro_rules | `(tactic| walk_at "len") => `(tactic| first
  | with_reducible assumption
  | ((simp only [txt_int, lcat, S_len, List.length_append, List.length_cons, List.length_nil]); omega)
  | (apply of_decide_eq_true; rfl))
local macro_rules | `(tactic| walk_at "side") => `(tactic| first
  | with_reducible assumption
  | omega
  | exact ml (by omega) (by omega)
  | exact mr (by omega) (by omega)
  | exact dv (by omega) (by omega)
  | exact Bd.mulOk (by with_reducible assumption) (by with_reducible assumption) (by decide) (by decide) (by decide)
  | exact Bd.div (by with_reducible assumption) (by omega) (by decide) (by decide)
  | (show (0 : Int) < _; omega)
  | decide
  | exact ni_non
  | exact rfl
  | ((simp only [List.length_cons, List.length_nil, List.length_map]); omega))
local macro_rules | `(tactic| walk_at "nl") => `(tactic| first
  | ((simp only [List.length_cons, List.length_nil, List.length_map, List.length_append]); omega)
  | omega
  | decide
  | exact Nat.le_of_ble_eq_true rfl)
local macro_rules | `(tactic| walk_at "sn") => `(tactic| first
  | with_reducible refine r_tupN ?_
  | with_reducible refine r_lstN ?_
  | with_reducible refine r_dnewN ?_
  | ((with_reducible refine' r_listN ?hh ?_); (case hh => walk_at "sqo"))
  | ((with_reducible refine' r_tupleN ?hh ?_); (case hh => walk_at "sq"))
  | ((with_reducible refine' r_slLN ?hh ?_); (case hh => walk_at "sq"))
  | ((with_reducible refine' r_catN ?hh ?hg ?hz ?_); (case hh => walk_at "hf"); (case hg => walk_at "hf"); (case hz => walk_at "nl"))
  | ((with_reducible refine' r_repN ?hh ?h2 ?h3 ?h4 ?_); (case hh => walk_at "hf"); (case h2 => walk_at "side"); (case h3 => walk_at "nl"); (case h4 => walk_at "side")))
local macro_rules | `(tactic| walk_at "st") => `(tactic| first
  | walk_at "sn"
  | ((with_reducible refine' r_var ?hh ?_); (case hh => rfl))
  | with_reducible refine r_c ?_
  | with_reducible refine r_op ?_
  | with_reducible refine r_i0 ?_
  | with_reducible refine r_cons ?_
  | with_reducible refine r_nil ?_
  | with_reducible refine r_seq ?_
  | with_reducible refine r_asg ?_
  | with_reducible refine r_gname ?_
  | with_reducible refine r_ret ?_
  | with_reducible refine r_ifS ?_
  | with_reducible refine r_test ?_
  | with_reducible refine r_tB ?_
  | with_reducible refine b_bl ?_
  | with_reducible refine i_t ?_
  | with_reducible refine i_f ?_
  | with_reducible refine i_nt ?_
  | with_reducible refine i_nf ?_
  | ((with_reducible refine' i_pos ?hh ?_); (case hh => walk_at "side"))
  | ((with_reducible refine' i_neg ?hh ?_); (case hh => walk_at "side"))
  | ((with_reducible refine' n_pos ?hh ?_); (case hh => walk_at "side"))
  | ((with_reducible refine' n_neg ?hh ?_); (case hh => walk_at "side"))
  | ((with_reducible refine' r_pow ?hh ?he ?_); (case hh => first | exact ⟨by decide, by decide, by decide⟩ | exact ⟨by decide, by decide, by omega⟩); (case he => first | ((simp only [Int.reduceToNat, Int.reducePow]); done) | ((simp only [Int.reduceToNat, Int.reducePow]); rfl) | rfl))
  | ((with_reducible refine' r_i ?hh ?_); (case hh => walk_at "side"))
  | with_reducible refine r_call0 ?_
  | with_reducible refine r_call ?_
  | with_reducible refine r_cb ?_
  | with_reducible refine r_int ?_
  | ((with_reducible refine' r_strI ?hh ?_); (case hh => walk_at "lg"))
  | with_reducible refine r_i1 ?_
  | with_reducible refine r_i2 ?_
  | with_reducible refine r_par ?_
  | with_reducible refine r_two ?_
  | with_reducible refine r_par3 ?_
  | with_reducible refine r_three ?_
  | with_reducible refine r_and ?_
  | with_reducible refine r_or ?_
  | with_reducible refine r_not ?_
  | with_reducible refine r_tif ?_
  | with_reducible refine r_andV ?_
  | with_reducible refine r_orV ?_
  | with_reducible refine r_notV ?_
  | with_reducible refine r_un ?_
  | with_reducible refine r_u ?_
  | with_reducible refine r_sb ?_
  | with_reducible refine r_drop ?_
  | with_reducible refine r_next ?_
  | with_reducible refine r_gsub ?_
  | ((with_reducible refine' r_ixL ?hh ?he ?_); (case hh => walk_at "sq"); (case he => rfl))
  | ((with_reducible refine' r_ixT ?hh ?he ?_); (case hh => walk_at "sqt"); (case he => rfl))
  | ((with_reducible refine' r_setL ?hh ?he ?_); (case hh => walk_at "hf"); (case he => rfl))
  | with_reducible refine r_gcons ?_
  | with_reducible refine r_gnil ?_
  | with_reducible refine r_sl ?_
  | with_reducible refine r_nopart ?_
  | with_reducible refine r_part ?_
  | with_reducible refine r_pint ?_
  | ((with_reducible refine' r_lenS ?hh ?_); (case hh => walk_at "sqo"))
  | ((with_reducible refine' r_gtup ?hh ?he ?_); (case hh => walk_at "sqt"); (case he => rfl))
  | ((with_reducible refine' r_slL ?hh ?_); (case hh => walk_at "sq"))
  | ((with_reducible refine' r_len ?hh ?_); (case hh => exact sz (by (try simp only [List.length_map]); (first | omega | decide | exact Nat.le_of_ble_eq_true rfl))))
  | with_reducible refine r_isi_ii ?_
  | with_reducible refine r_isi_ib ?_
  | with_reducible refine r_isi_ss ?_
  | ((with_reducible refine' r_isi_own ?hh ?hi ?hk ?_); (case hh => walk_at "hf"); (case hi => with_reducible assumption); (case hk => with_reducible assumption))
  | with_reducible refine r_lst ?_
  | with_reducible refine r_tup ?_
  | with_reducible refine r_make ?_
  | with_reducible refine r_forR1 ?_
  | with_reducible refine r_forL ?_
  | with_reducible refine r_forT ?_
  | with_reducible refine r_forR2 ?_
  | with_reducible refine r_ref1 ?_
  | with_reducible refine r_brk ?_
  | with_reducible refine r_cont ?_
  | with_reducible refine r_retN ?_
  | with_reducible refine r_rr ?_
  | with_reducible refine r_fmt ?_
  | ((with_reducible refine' r_fmti ?hh ?_); (case hh => walk_at "lg"))
  | with_reducible refine r_js ?_
  | with_reducible refine r_js0 ?_
  | ((with_reducible refine' r_jsp ?hh ?_); (case hh => walk_at "len"))
  | with_reducible refine r_m0 ?_
  | with_reducible refine r_m1 ?_
  | with_reducible refine r_str ?_
  | with_reducible refine r_ss ?_
  | with_reducible refine r_s0 ?_
  | ((with_reducible refine' r_addS ?hh ?_); (case hh => walk_at "len"))
  | ((with_reducible refine' r_slS ?hh ?_); (case hh => walk_at "len"))
  | ((with_reducible refine' r_lenT ?hh ?_); (case hh => walk_at "len"))
  | ((with_reducible refine' r_memI ?hh ?_); (case hh => with_reducible assumption))
  | with_reducible refine r_eqB ?_
  | ((with_reducible refine' r_inT ?hh ?hf ?he ?_); (case hh => walk_at "sqt"); (case hf => rfl); (case he => rfl))
  | ((with_reducible refine' r_inF ?hh ?hf ?he ?_); (case hh => walk_at "sqt"); (case hf => rfl); (case he => rfl))
  | ((with_reducible refine' r_makeL ?hh ?_); (case hh => rfl))
  | with_reducible refine r_tprop ?_
  | with_reducible refine r_tfld ?_
  | ((with_reducible refine' f_prop ?hh ?_); (case hh => walk_at "hf"))
  | ((with_reducible refine' f_fld ?hh ?hc ?hn ?hl ?_); (case hh => walk_at "hf"); (case hc => with_reducible assumption); (case hn => with_reducible assumption); (case hl => rfl))
  | with_reducible refine r_tcm ?_
  | with_reducible refine r_chain ?_
  | with_reducible refine r_chain3 ?_
  | with_reducible refine r_bl1 ?_
  | with_reducible refine r_intb ?_
  | with_reducible refine r_yes ?_
  | with_reducible refine r_makeK ?_
  | with_reducible refine r_sfld ?_
  | ((with_reducible refine' f_sfld ?hh ?hc ?hn ?hl ?_); (case hh => walk_at "hf"); (case hc => with_reducible assumption); (case hn => with_reducible assumption); (case hl => exact Nat.le_of_ble_eq_true rfl))
  | with_reducible refine r_lcL ?_
  | with_reducible refine r_lcS ?_
  | with_reducible refine r_lcT ?_
  | with_reducible refine r_lcR1 ?_
  | with_reducible refine r_lcR2 ?_
  | with_reducible refine r_tbm ?_
  | with_reducible refine r_tbm0 ?_
  | ((with_reducible refine' f_tyL ?hh ?_); (case hh => walk_at "hf"))
  | ((with_reducible refine' r_app ?hh ?he ?_); (case hh => walk_at "hf"); (case he => walk_at "side"))
  | with_reducible refine r_tRev ?_
  | with_reducible refine r_lstRg1 ?_
  | with_reducible refine r_lcRV ?_
  | with_reducible refine r_makeS ?_
  | with_reducible refine r_cmS ?_
  | with_reducible refine r_methS ?_
  | with_reducible refine r_tupRg1 ?_
  | with_reducible refine r_forRV ?_
  | with_reducible refine r_raiseE ?_
  | with_reducible refine r_callG ?_
  | ((with_reducible refine' r_xfV ?hh ?hf ?hl ?_); (case hh => rfl); (case hf => walk_at "hf"); (case hl => rfl)))
local macro_rules | `(tactic| walk_at "go") => `(tactic| (repeat walk_at "st"))
local macro_rules | `(tactic| walk_at "in") => `(tactic| dsimp only [cxOf, L2.start, List.map, List.length, List.replicate, Nat.reduceSub, Nat.reduceAdd, List.cons_append, List.nil_append, List.append_nil])
local macro_rules | `(tactic| walk_at "bt") => `(tactic| first
  | with_reducible assumption
  | exact But.rfl
  | exact Same.but (by with_reducible assumption)
  | (refine' But.put ?ha; (case ha => walk_at "bt"))
  | (refine' But.new ?ha ?hn; (case hn => with_reducible assumption); (case ha => walk_at "bt"))
  | (refine' But.trans ?ha ?hb; (case hb => with_reducible assumption); (case ha => walk_at "bt"))
  | (refine' But.trans ?ha (Same.but ?hb); (case hb => with_reducible assumption); (case ha => walk_at "bt")))
local macro_rules | `(tactic| walk_at "sm") => `(tactic| first
  | with_reducible assumption
  | exact Same.refl _
  | (refine' Same.new ?ha ?hn; (case hn => with_reducible assumption); (case ha => walk_at "sm"))
  | (refine' Same.trans ?ha ?hb; (case hb => with_reducible assumption); (case ha => walk_at "sm")))

section
variable {P : Program} {w : World} {K : PySem.W.Frag} {mg : Str → Option Value} {base : Heap}
def spVal : Sp := fun vs H Q _ => ∃ l, vs = [.str (S l)] ∧ Asc l ∧ match Rtx.rd l with
  | some (n, d) => ∀ x H', H x = none → H' x = some (.tup [.int n, .int d]) → Same H H' → Q (.ref x) H'
  | none => ∀ H', Same H H' → Q .non H'
theorem oV_flat (o : Option Int) : flatV (oV o) = true := by cases o <;> rfl
theorem r_nonIn {H : Hp} {a : Addr} {xs : List V} {b : Bool} {Q : VK} (h : H a = some (.lst xs)) (f : xs.all flatV = true) (e : inV .non xs = b) (q : Q (.bl b) H) : rIn K false .non (.ref a) H Q := ⟨a, xs, rfl, .inl (SqL.of h), rfl, f, by rw [e]; exact q⟩
theorem ok_law_value (T : Tx K mg) : Gf P w K mg base CX0 2 (He.ga K "_law_value") ["_law_text_here"] [] spVal := by
  obtain ⟨fd, F⟩ := T.d_law_value
  refine gf0 F (fnG F sc_law_value (fun vs H Q E h => ?_) (fun cdv A outer s H vs Q E hr h => ?_)) (fun _ _ _ _ _ _ us hl => match us, hl with | [_], _ => rfl)
  · obtain ⟨l, rfl, _⟩ := h
    rfl
  obtain ⟨l, rfl, hA, k⟩ := h
  have hl := hA.2
  have ll : (S l).length = l.length := S_len _
  refine ⟨_, PSs.nox (pss_cons (ps_set (i := 1) sc_law_value.nd rfl (Or.inl rfl) (pe_split (pv 0) pe_str)) (pss_cons (ps_setLc (i := 2) (own := [("_law_word", 5)]) (tt := tYes) rfl sc_law_value.nd rfl rfl (sw_true rfl rfl rfl (by decide +kernel)) (pi_listK (K := K) rfl (pv 1)) (blkOk_by (N := ["_law_text_here", "_law_words", "_law_numbers", "_law_top", "_law_bottom", "_law_word"]) (sc := defScope s_law_value) (by decide +kernel)) (fun _ _ _ _ _ => (pg_name (i := 5) sc_law_value.nd rfl (Or.inl rfl))) (fun _ _ _ _ _ => pts_nil) (fun _ _ _ _ _ => (pe_g (ok_law_whole T) T.g_law_whole hr (by decide) pass0 (pa_cons (pv 5) pa_nil)))) (pss_cons (ps_if (PW.pt (pw_or (pt_cmpR op_gt (pe_callB (call_lenK (K := K) rfl) (by rfl) T.f_len (by decide +kernel) (pa_cons (pv 1) pa_nil)) pe_int (nomark _)) (pw_or1 (pt_cmpR (op_inK (K := K) rfl) pe_non (pv 2) (by rfl))))) (pss_one (ps_ret pe_non)) pss_nil) (pss_cons (ps_if (pt_cmpR op_eqI (pe_callB (call_lenK (K := K) rfl) (by rfl) T.f_len (by decide +kernel) (pa_cons (pv 1) pa_nil)) pe_int (nomark _)) (pss_one (ps_ret (pe_tupN (pa_cons (pe_ix (ix_listK (K := K) rfl) (pv 2) pe_int (fun _ _ => rfl)) (pa_cons pe_int pa_nil))))) pss_nil) (pss_cons (ps_par (i := 3) (j := 4) (by rfl) sc_law_value.nd rfl rfl (by decide) rfl rfl (pa_cons (pe_ix (ix_listK (K := K) rfl) (pv 2) pe_int (fun _ _ => rfl)) (pa_cons (pe_ix (ix_listK (K := K) rfl) (pv 2) pe_int (fun _ _ => rfl)) pa_nil)) (by rfl)) (pss_one (ps_ret (pe_ifExp (PW.pt (pw_and (pt_cmpR op_gt (pv 4) pe_int (nomark _)) (pw_and1 (pt_cmpR op_eqI (pe_g (ok_law_divisor T) T.g_law_divisor hr (by decide) pass0 (pa_cons (pv 3) (pa_cons (pv 4) pa_nil))) pe_int (nomark _))))) (pe_tupN (pa_cons (pv 3) (pa_cons (pv 4) pa_nil))) pe_non)))))))), ?_⟩
  walk_at "in"
  walk_at "go"
  refine ⟨rfl, ?_, fun r hr0 => ?_⟩
  · rw [ll]
    exact Nat.le_trans (Nat.add_le_add_right hl 2) (by decide)
  rw [lit_slash, Rtx.split_sp (by decide), List.map_map]
  have hc := sp_count (c := 47) l
  have hsp : ∀ v ∈ Rtx.sp 47 l, Asc v := fun v hv => hA.part hv
  have hrd := show Rtx.rd l = _ from by unfold Rtx.rd; rfl
  have sr : Same H (upd H r (.lst ((Rtx.sp 47 l).map (V.str ∘ S)))) := My.Same.new (Same.refl H) hr0
  obtain ⟨H1, hH1⟩ : ∃ H1, H1 = upd H r (.lst ((Rtx.sp 47 l).map (V.str ∘ S))) := ⟨_, rfl⟩
  have hr1 : H1 r = some (.lst ((Rtx.sp 47 l).map (V.str ∘ S))) := by rw [hH1]; exact upd_same
  rw [← hH1] at sr ⊢
  walk_at "go"
  refine ⟨⟨_, SqL.of hr1⟩, lc_listG (SqL.of hr1) (fun i acc _ => acc = ((Rtx.sp 47 l).take i).map fun c => oV (Rtx.ri c)) ?_ (fun _ _ _ _ _ _ _ _ h => h) (fun _ _ => rfl) ?_ ?_⟩
  · rintro i acc _ rfl
    rw [List.length_map]
    have h2 := List.length_take_le' i (Rtx.sp 47 l)
    omega
  · intro i x acc H2 X Y hi s2 hp hX hY
    rw [List.getElem?_map] at hi
    cases hv : (Rtx.sp 47 l)[i]? with
    | none => rw [hv] at hi; cases hi
    | some v =>
      rw [hv] at hi
      obtain rfl : V.str (S v) = x := Option.some.inj hi
      have ht : (Rtx.sp 47 l).take (i + 1) = (Rtx.sp 47 l).take i ++ [v] := by rw [List.take_succ, hv] <;> rfl
      walk_at "go"
      refine ⟨rfl, ?_⟩
      walk_at "go"
      refine ⟨v, rfl, hsp v (List.mem_of_getElem? hv), fun H3 s3 => ?_⟩
      exact hX _ _ s3 (by rw [hp, ht, List.map_append] <;> rfl)
  · rintro D acc H2 hD hD2 s2 hacc
    rw [List.length_map, List.take_length] at hacc
    subst hacc
    have hr2 := s2 _ _ hr1
    have s02 : Same H H2 := sr.trans s2
    cases hs : Rtx.sp 47 l with
    | nil => exact absurd hs (Rtx.sp_ne 47 l)
    | cons u us =>
      rw [hs] at hrd hsp hr2 hD2
      clear s2 hr1
      cases us with
      | nil =>
        dsimp only [List.map, Function.comp] at hr2 hD2 hrd ⊢
        walk_at "go"
        cases hi : Rtx.ri u with
        | none =>
          rw [hi] at hrd hD2
          rw [hrd] at k
          refine r_nonIn hD2 rfl (b := true) rfl ?_
          walk_at "go"
          exact k _ s02
        | some i =>
          rw [hi] at hrd hD2
          rw [hrd] at k
          refine r_nonIn hD2 rfl (b := false) rfl ?_
          walk_at "go"
          exact fun x H' hx e s => k x H' (s02.free hx) e (s02.trans s)
      | cons v vs =>
        cases vs with
        | nil =>
          dsimp only [List.map, Function.comp] at hr2 hD2 hrd ⊢
          walk_at "go"
          cases hi : Rtx.ri u with
          | none =>
            rw [hi] at hrd hD2
            rw [hrd] at k
            refine r_nonIn hD2 (by cases Rtx.ri v <;> rfl) (b := true) rfl ?_
            walk_at "go"
            exact k _ s02
          | some i =>
            cases hi2 : Rtx.ri v with
            | none =>
              rw [hi, hi2] at hrd hD2
              rw [hrd] at k
              refine r_nonIn hD2 rfl (b := true) rfl ?_
              walk_at "go"
              exact k _ s02
            | some j =>
              rw [hi, hi2] at hrd hD2
              refine r_nonIn hD2 rfl (b := false) rfl ?_
              dsimp only [oV] at hD2 hrd
              walk_at "go"
              by_cases h1 : 1 < j
              · walk_at "go"
                refine ⟨i, j, rfl, by omega, ?_⟩
                walk_at "go"
                by_cases h2 : Int.gcd i j = 1
                · have hrd2 : Rtx.rd l = some (i, j) := hrd.trans (if_pos ⟨h1, h2⟩)
                  rw [hrd2] at k
                  walk_at "go"
                  exact fun x H' hx e s => k x H' (s02.free hx) e (s02.trans s)
                · have hrd2 : Rtx.rd l = none := hrd.trans (if_neg (fun z => h2 z.2))
                  rw [hrd2] at k
                  walk_at "go"
                  exact k _ s02
              · have hrd2 : Rtx.rd l = none := hrd.trans (if_neg (fun z => h1 z.1))
                rw [hrd2] at k
                walk_at "go"
                exact k _ s02
        | cons y ys =>
          dsimp only [List.map, Function.comp] at hr2 hD2 hrd ⊢
          rw [hrd] at k
          walk_at "go"
          exact k _ s02
end

end Toy

set_option Elab.async false
set_option linter.all false
set_option maxRecDepth 100000
set_option maxHeartbeats 4000000
namespace Toy
open PySem PySem.Spec PyProof.Rows L2 My SX
local macro_rules | `(tactic| walk_at "ne") => `(tactic| first
  | with_reducible assumption
  | exact Ne.symm (by with_reducible assumption)
  | (refine' ne_of_none ?hx ?hy; (case hy => with_reducible assumption); (case hx => walk_at "hf"))
  | (refine' Ne.symm (ne_of_none ?hx ?hy); (case hy => with_reducible assumption); (case hx => walk_at "hf"))
  | (refine' Pu.ne ?hx ?hy; (case hy => with_reducible assumption); (case hx => walk_at "pu")))
local macro_rules | `(tactic| walk_at "pu") => `(tactic| first
  | with_reducible assumption
  | ((with_reducible refine' Pu.same ?hx ?hy); (case hy => with_reducible assumption); (case hx => walk_at "pu")))
local macro_rules | `(tactic| walk_at "hf") => `(tactic| first
  | with_reducible assumption
  | with_reducible exact upd_same
  | ((with_reducible refine' Same.at ?hs ?hr); (case hs => with_reducible assumption); (case hr => walk_at "hf"))
  | ((with_reducible refine' at_or ?hr ?hn); (case hr => walk_at "hf"); (case hn => first | exact Or.inl (by with_reducible assumption) | exact Or.inr (by walk_at "ne")))
  | ((with_reducible refine' But.at ?hb ?hn ?hr); (case hb => with_reducible assumption); (case hr => walk_at "hf"); (case hn => walk_at "ne")))
local macro_rules | `(tactic| walk_at "sq") => `(tactic| first
  | with_reducible assumption
  | ((with_reducible refine' SqL.of ?hql); (case hql => walk_at "hf"))
  | ((with_reducible refine' Same.seq ?hx ?hy); (case hx => with_reducible assumption); (case hy => walk_at "sq")))
local macro_rules | `(tactic| walk_at "sqo") => `(tactic| first
  | ((with_reducible refine' Or.inl ?hol); (case hol => with_reducible assumption))
  | ((with_reducible refine' Or.inr ?hor); (case hor => with_reducible assumption))
  | ((with_reducible refine' Or.inl (SqL.of ?hol)); (case hol => walk_at "hf"))
  | ((with_reducible refine' Or.inr (SqT.of ?hor)); (case hor => walk_at "hf"))
  | ((with_reducible refine' Or.inl ?hol); (case hol => walk_at "sq"))
  | ((with_reducible refine' Or.inr ?hor); (case hor => walk_at "sqt")))
local macro_rules | `(tactic| walk_at "sqt") => `(tactic| first
  | with_reducible assumption
  | ((with_reducible refine' SqT.of ?hqt); (case hqt => walk_at "hf"))
  | ((with_reducible refine' tupS ?hx ?hy); (case hy => with_reducible assumption); (case hx => walk_at "sqt")))
local macro_rules | `(tactic| walk_at "lg") => `(tactic| first
  | with_reducible assumption
  | exact Bd.lg (by with_reducible assumption) (by decide) (by decide)
  | exact Bd.lg (Bd.of (b := 100) (by omega) (by omega)) (by decide) (by decide))
local macro_rules | `(tactic| walk_at "len") => `(tactic| first
  | with_reducible assumption
  | ((simp only [txt_int, lcat, S_len, List.length_append, List.length_cons, List.length_nil]); omega)
  | (apply of_decide_eq_true; rfl))
local macro_rules | `(tactic| walk_at "side") => `(tactic| first
  | with_reducible assumption
  | omega
  | exact ml (by omega) (by omega)
  | exact mr (by omega) (by omega)
  | exact dv (by omega) (by omega)
  | exact Bd.mulOk (by with_reducible assumption) (by with_reducible assumption) (by decide) (by decide) (by decide)
  | exact Bd.div (by with_reducible assumption) (by omega) (by decide) (by decide)
  | (show (0 : Int) < _; omega)
  | decide
  | exact ni_non
  | exact rfl
  | ((simp only [List.length_cons, List.length_nil, List.length_map]); omega))
local macro_rules | `(tactic| walk_at "nl") => `(tactic| first
  | ((simp only [List.length_cons, List.length_nil, List.length_map, List.length_append]); omega)
  | omega
  | decide
  | exact Nat.le_of_ble_eq_true rfl)
local macro_rules | `(tactic| walk_at "sn") => `(tactic| first
  | with_reducible refine r_tupN ?_
  | with_reducible refine r_lstN ?_
  | with_reducible refine r_dnewN ?_
  | ((with_reducible refine' r_listN ?hh ?_); (case hh => walk_at "sqo"))
  | ((with_reducible refine' r_tupleN ?hh ?_); (case hh => walk_at "sq"))
  | ((with_reducible refine' r_slLN ?hh ?_); (case hh => walk_at "sq"))
  | ((with_reducible refine' r_catN ?hh ?hg ?hz ?_); (case hh => walk_at "hf"); (case hg => walk_at "hf"); (case hz => walk_at "nl"))
  | ((with_reducible refine' r_repN ?hh ?h2 ?h3 ?h4 ?_); (case hh => walk_at "hf"); (case h2 => walk_at "side"); (case h3 => walk_at "nl"); (case h4 => walk_at "side")))
local macro_rules | `(tactic| walk_at "st") => `(tactic| first
  | walk_at "sn"
  | ((with_reducible refine' r_var ?hh ?_); (case hh => rfl))
  | with_reducible refine r_c ?_
  | with_reducible refine r_op ?_
  | with_reducible refine r_i0 ?_
  | with_reducible refine r_cons ?_
  | with_reducible refine r_nil ?_
  | with_reducible refine r_seq ?_
  | with_reducible refine r_asg ?_
  | with_reducible refine r_gname ?_
  | with_reducible refine r_ret ?_
  | with_reducible refine r_ifS ?_
  | with_reducible refine r_test ?_
  | with_reducible refine r_tB ?_
  | with_reducible refine b_bl ?_
  | with_reducible refine i_t ?_
  | with_reducible refine i_f ?_
  | with_reducible refine i_nt ?_
  | with_reducible refine i_nf ?_
  | ((with_reducible refine' i_pos ?hh ?_); (case hh => walk_at "side"))
  | ((with_reducible refine' i_neg ?hh ?_); (case hh => walk_at "side"))
  | ((with_reducible refine' n_pos ?hh ?_); (case hh => walk_at "side"))
  | ((with_reducible refine' n_neg ?hh ?_); (case hh => walk_at "side"))
  | ((with_reducible refine' r_pow ?hh ?he ?_); (case hh => first | exact ⟨by decide, by decide, by decide⟩ | exact ⟨by decide, by decide, by omega⟩); (case he => first | ((simp only [Int.reduceToNat, Int.reducePow]); done) | ((simp only [Int.reduceToNat, Int.reducePow]); rfl) | rfl))
  | ((with_reducible refine' r_i ?hh ?_); (case hh => walk_at "side"))
  | with_reducible refine r_call0 ?_
  | with_reducible refine r_call ?_
  | with_reducible refine r_cb ?_
  | with_reducible refine r_int ?_
  | ((with_reducible refine' r_strI ?hh ?_); (case hh => walk_at "lg"))
  | with_reducible refine r_i1 ?_
  | with_reducible refine r_i2 ?_
  | with_reducible refine r_par ?_
  | with_reducible refine r_two ?_
  | with_reducible refine r_par3 ?_
  | with_reducible refine r_three ?_
  | with_reducible refine r_and ?_
  | with_reducible refine r_or ?_
  | with_reducible refine r_not ?_
  | with_reducible refine r_tif ?_
  | with_reducible refine r_andV ?_
  | with_reducible refine r_orV ?_
  | with_reducible refine r_notV ?_
  | with_reducible refine r_un ?_
  | with_reducible refine r_u ?_
  | with_reducible refine r_sb ?_
  | with_reducible refine r_drop ?_
  | with_reducible refine r_next ?_
  | with_reducible refine r_gsub ?_
  | ((with_reducible refine' r_ixL ?hh ?he ?_); (case hh => walk_at "sq"); (case he => rfl))
  | ((with_reducible refine' r_ixT ?hh ?he ?_); (case hh => walk_at "sqt"); (case he => rfl))
  | ((with_reducible refine' r_setL ?hh ?he ?_); (case hh => walk_at "hf"); (case he => rfl))
  | with_reducible refine r_gcons ?_
  | with_reducible refine r_gnil ?_
  | with_reducible refine r_sl ?_
  | with_reducible refine r_nopart ?_
  | with_reducible refine r_part ?_
  | with_reducible refine r_pint ?_
  | ((with_reducible refine' r_lenS ?hh ?_); (case hh => walk_at "sqo"))
  | ((with_reducible refine' r_gtup ?hh ?he ?_); (case hh => walk_at "sqt"); (case he => rfl))
  | ((with_reducible refine' r_slL ?hh ?_); (case hh => walk_at "sq"))
  | ((with_reducible refine' r_len ?hh ?_); (case hh => exact sz (by (try simp only [List.length_map]); (first | omega | decide | exact Nat.le_of_ble_eq_true rfl))))
  | with_reducible refine r_isi_ii ?_
  | with_reducible refine r_isi_ib ?_
  | with_reducible refine r_isi_ss ?_
  | ((with_reducible refine' r_isi_own ?hh ?hi ?hk ?_); (case hh => walk_at "hf"); (case hi => with_reducible assumption); (case hk => with_reducible assumption))
  | with_reducible refine r_lst ?_
  | with_reducible refine r_tup ?_
  | with_reducible refine r_make ?_
  | with_reducible refine r_forR1 ?_
  | with_reducible refine r_forL ?_
  | with_reducible refine r_forT ?_
  | with_reducible refine r_forR2 ?_
  | with_reducible refine r_ref1 ?_
  | with_reducible refine r_brk ?_
  | with_reducible refine r_cont ?_
  | with_reducible refine r_retN ?_
  | with_reducible refine r_rr ?_
  | with_reducible refine r_fmt ?_
  | ((with_reducible refine' r_fmti ?hh ?_); (case hh => walk_at "lg"))
  | with_reducible refine r_js ?_
  | with_reducible refine r_js0 ?_
  | ((with_reducible refine' r_jsp ?hh ?_); (case hh => walk_at "len"))
  | with_reducible refine r_m0 ?_
  | with_reducible refine r_m1 ?_
  | with_reducible refine r_str ?_
  | with_reducible refine r_ss ?_
  | with_reducible refine r_s0 ?_
  | ((with_reducible refine' r_addS ?hh ?_); (case hh => walk_at "len"))
  | ((with_reducible refine' r_slS ?hh ?_); (case hh => walk_at "len"))
  | ((with_reducible refine' r_lenT ?hh ?_); (case hh => walk_at "len"))
  | ((with_reducible refine' r_memI ?hh ?_); (case hh => with_reducible assumption))
  | with_reducible refine r_eqB ?_
  | ((with_reducible refine' r_inT ?hh ?hf ?he ?_); (case hh => walk_at "sqt"); (case hf => rfl); (case he => rfl))
  | ((with_reducible refine' r_inF ?hh ?hf ?he ?_); (case hh => walk_at "sqt"); (case hf => rfl); (case he => rfl))
  | ((with_reducible refine' r_makeL ?hh ?_); (case hh => rfl))
  | with_reducible refine r_tprop ?_
  | with_reducible refine r_tfld ?_
  | ((with_reducible refine' f_prop ?hh ?_); (case hh => walk_at "hf"))
  | ((with_reducible refine' f_fld ?hh ?hc ?hn ?hl ?_); (case hh => walk_at "hf"); (case hc => with_reducible assumption); (case hn => with_reducible assumption); (case hl => rfl))
  | with_reducible refine r_tcm ?_
  | with_reducible refine r_chain ?_
  | with_reducible refine r_chain3 ?_
  | with_reducible refine r_bl1 ?_
  | with_reducible refine r_intb ?_
  | with_reducible refine r_yes ?_
  | with_reducible refine r_makeK ?_
  | with_reducible refine r_sfld ?_
  | ((with_reducible refine' f_sfld ?hh ?hc ?hn ?hl ?_); (case hh => walk_at "hf"); (case hc => with_reducible assumption); (case hn => with_reducible assumption); (case hl => exact Nat.le_of_ble_eq_true rfl))
  | with_reducible refine r_lcL ?_
  | with_reducible refine r_lcS ?_
  | with_reducible refine r_lcT ?_
  | with_reducible refine r_lcR1 ?_
  | with_reducible refine r_lcR2 ?_
  | with_reducible refine r_tbm ?_
  | with_reducible refine r_tbm0 ?_
  | ((with_reducible refine' f_tyL ?hh ?_); (case hh => walk_at "hf"))
  | ((with_reducible refine' r_app ?hh ?he ?_); (case hh => walk_at "hf"); (case he => walk_at "side"))
  | with_reducible refine r_tRev ?_
  | with_reducible refine r_lstRg1 ?_
  | with_reducible refine r_lcRV ?_
  | with_reducible refine r_makeS ?_
  | with_reducible refine r_cmS ?_
  | with_reducible refine r_methS ?_
  | with_reducible refine r_tupRg1 ?_
  | with_reducible refine r_forRV ?_
  | with_reducible refine r_raiseE ?_
  | with_reducible refine r_callG ?_
  | ((with_reducible refine' r_xfV ?hh ?hf ?hl ?_); (case hh => rfl); (case hf => walk_at "hf"); (case hl => rfl)))
local macro_rules | `(tactic| walk_at "go") => `(tactic| (repeat walk_at "st"))
local macro_rules | `(tactic| walk_at "in") => `(tactic| dsimp only [cxOf, L2.start, List.map, List.length, List.replicate, Nat.reduceSub, Nat.reduceAdd, List.cons_append, List.nil_append, List.append_nil])
local macro_rules | `(tactic| walk_at "bt") => `(tactic| first
  | with_reducible assumption
  | exact But.rfl
  | exact Same.but (by with_reducible assumption)
  | (refine' But.put ?ha; (case ha => walk_at "bt"))
  | (refine' But.new ?ha ?hn; (case hn => with_reducible assumption); (case ha => walk_at "bt"))
  | (refine' But.trans ?ha ?hb; (case hb => with_reducible assumption); (case ha => walk_at "bt"))
  | (refine' But.trans ?ha (Same.but ?hb); (case hb => with_reducible assumption); (case ha => walk_at "bt")))
local macro_rules | `(tactic| walk_at "sm") => `(tactic| first
  | with_reducible assumption
  | exact Same.refl _
  | (refine' Same.new ?ha ?hn; (case hn => with_reducible assumption); (case ha => walk_at "sm"))
  | (refine' Same.trans ?ha ?hb; (case hb => with_reducible assumption); (case ha => walk_at "sm")))

section
variable {P : Program} {w : World} {K : PySem.W.Frag} {mg : Str → Option Value} {base : Heap}
theorem scut_take (l : List Nat) (k : Nat) : cutS (S l) none (some (k : Int)) = S (l.take k) := by
  unfold cutS
  rw [HT.sIx_nat, HT.sIx_none, S_len, Nat.sub_zero]
  exact congrArg S (by rw [show (S l).cps.toList = l from rfl, List.drop_zero]; exact (List.take_eq_take_min ..).symm)
theorem scut_drop (l : List Nat) (k : Nat) : cutS (S l) (some (k : Int)) none = S (l.drop k) := by
  unfold cutS
  rw [HT.sIx_nat, HT.sIx_none, S_len]
  refine congrArg S ?_
  rw [show (S l).cps.toList = l from rfl]
  rcases Nat.le_total k l.length with h | h
  · rw [Nat.min_eq_left h]
    exact List.take_of_length_le (by rw [List.length_drop]; omega)
  · rw [Nat.min_eq_right h, List.drop_length, List.drop_of_length_le h] <;> simp
def signs : List Nat := [48, 49, 50, 51, 52, 53, 54, 55, 56, 57, 45, 47, 32, 43, 120, 90, 126, 10]
theorem lit_signs : ("0123456789-/ +xZ~\n" : Str) = S signs := by rfl
theorem pickC (xs : List Nat) {i : Int} (h0 : 0 ≤ i) (h : i < xs.length) : ∃ c, atI xs i = some c ∧ c ∈ xs := by
  obtain ⟨k, rfl⟩ := Int.eq_ofNat_of_zero_le h0
  have hk : k < xs.length := by omega
  exact ⟨xs[k], atI_nat (by simp [hk]), List.getElem_mem _⟩
def others : List Str := ["", "/", "1/", "/2", "2/4", "-0", "+1", "00", "01", "1/0", "1/-2", " 1", "1 ", "1//2", "1/2/3", "- 1", "1/02", "0/1", "-1/2", "7/1"]
def ascB (x : Str) : Bool := x.cps.toList.all (fun c => decide (c < 128)) && decide (x.cps.toList.length ≤ 140)
theorem others_ok : others.all ascB = true := by decide +kernel
theorem ascB_ok {x : Str} (h : ascB x = true) : ∃ l, x = S l ∧ Asc l := by
  unfold ascB at h
  rw [Bool.and_eq_true, List.all_eq_true] at h
  exact ⟨x.cps.toList, (S_tl x).symm, fun c hc => of_decide_eq_true (h.1 c hc), of_decide_eq_true h.2⟩
theorem Sm.of60 {n : Int} (h : n.natAbs ≤ 10 ^ 60) : Sm n ∧ (intL n).length ≤ 62 := by
  have h : n.natAbs < 10 ^ 61 := by omega
  refine ⟨Nat.lt_of_lt_of_le h (by decide +kernel), ?_⟩
  have l := TL.numL_len (k := 61) (by decide) h
  unfold intL
  split
  · rw [List.length_cons]
    omega
  · omega
theorem intL_asc (n : Int) : ∀ c ∈ intL n, c < 128 := fun c hc => by
  have d : ∀ c ∈ TL.numL n.natAbs, c < 128 := fun c hc => by
    have := (TL.numL_digits n.natAbs c hc).2
    omega
  unfold intL at hc
  split at hc
  · rcases List.mem_cons.mp hc with z | z
    · omega
    · exact d c z
  · exact d c hc
theorem txt_asc {n d : Int} (hn : (intL n).length ≤ 62) (hd : (intL d).length ≤ 62) : (∀ c ∈ Rtx.txt n d, c < 128) ∧ (Rtx.txt n d).length ≤ 125 := by
  unfold Rtx.txt
  split
  · exact ⟨intL_asc n, by omega⟩
  · refine ⟨fun c hc => ?_, by rw [List.length_append, List.length_cons]; omega⟩
    rcases List.mem_append.mp hc with z | z
    · exact intL_asc n c z
    · rcases List.mem_cons.mp z with z | z
      · omega
      · exact intL_asc d c z
theorem quo60 {n : Int} (h : n.natAbs ≤ 10 ^ 60) (d : Int) : Sm (n / d) ∧ (intL (n / d)).length ≤ 62 := by
  have z := Int.natAbs_ediv_le_natAbs n d
  exact Sm.of60 (by omega)
theorem asc_cut {l : List Nat} {m i : Nat} {x : List Nat} (h : (∀ c ∈ l, c < 128) ∧ l.length ≤ 125) (hx : (∀ c ∈ x, c < 128) ∧ x.length ≤ 1) (hi : i = m ∨ i = m + 1) : Asc (l.take m ++ (x ++ l.drop i)) := by
  refine ⟨fun c hc => ?_, ?_⟩
  · rcases List.mem_append.mp hc with z | z
    · exact h.1 c (List.mem_of_mem_take z)
    · rcases List.mem_append.mp z with z | z
      · exact hx.1 c z
      · exact h.1 c (List.mem_of_mem_drop z)
  · rw [List.length_append, List.length_append, List.length_drop, List.length_take]
    omega
/-- a drawn text -/
def spText : Sp := fun vs H Q _ => ∃ p, vs = [.ref p] ∧ Purse H p ∧ ∀ l H', Asc l → Purse H' p → But p H H' → Q (.str (S l)) H'
theorem go_text {p : Addr} {H : Hp} {Q : VK} {E : XK} (hp : Purse H p) (k : ∀ l H', Asc l → Purse H' p → But p H H' → Q (.str (S l)) H') : spText [.ref p] H Q E := ⟨p, rfl, hp, k⟩
theorem ok_law_text (T : Tx K mg) : Gf P w K mg base CX0 5 (He.ga K "_law_text") ["_law_purse_here"] [] spText := by
  obtain ⟨fd, F⟩ := T.d_law_text
  have hc := T.cl_Ratio
  have n1 := T.n_Ratio_top
  have n2 := T.n_Ratio_bottom
  refine gf0 F (fnG F sc_law_text (fun vs H Q E h => ?_) (fun cdv A outer s H vs Q E hr h => ?_)) (fun _ _ _ _ _ _ us hl => match us, hl with | [_], _ => rfl)
  · obtain ⟨p, rfl, _⟩ := h
    rfl
  obtain ⟨p, rfl, hp, k⟩ := h
  refine ⟨_, PSs.nox (pss_cons (ps_set (i := 1) sc_law_text.nd rfl (Or.inl rfl) (pe_callTy (call_strOwn (ok_Ratio__str T) T.sp_Ratio__str.at_ T.sp_Ratio__str.fn hr (by decide)) (by rfl) T.f_str (by decide +kernel) (pa_cons (pe_mk T.mk_Ratio (ok_Ratio_2 T) T.g_Ratio hr (by decide) passL (pa_cons (pe_g (ok_law_integer T) T.g_law_integer hr (by decide) pass0 (pa_cons (pv 0) pa_nil)) (pa_cons (pe_op op_add pe_int (pe_callB call_abs (by rfl) T.f_abs (by decide +kernel) (pa_cons (pe_g (ok_law_integer T) T.g_law_integer hr (by decide) pass0 (pa_cons (pv 0) pa_nil)) pa_nil))) pa_nil))) pa_nil))) (pss_cons (ps_par (i := 2) (j := 3) (by rfl) sc_law_text.nd rfl rfl (by decide) rfl rfl (pa_cons (pe_g (ok_law_draw T) T.g_law_draw hr (by decide) pass0 (pa_cons (pv 0) (pa_cons pe_int pa_nil))) (pa_cons (pe_ix ix_str pe_str (pe_g (ok_law_draw T) T.g_law_draw hr (by decide) pass0 (pa_cons (pv 0) (pa_cons pe_int pa_nil))) (fun _ _ => rfl)) pa_nil)) (by rfl)) (pss_cons (ps_set (i := 4) sc_law_text.nd rfl (Or.inl rfl) (pe_g (ok_law_draw T) T.g_law_draw hr (by decide) pass0 (pa_cons (pv 0) (pa_cons (pe_op op_add (pe_callB call_len_str (by rfl) T.f_len (by decide +kernel) (pa_cons (pv 1) pa_nil)) pe_int) pa_nil)))) (pss_cons (ps_if (pt_cmpR op_eqI (pv 2) pe_int (nomark _)) (pss_one (ps_ret (pv 1))) pss_nil) (pss_cons (ps_if (pt_cmpR op_lt (pv 2) pe_int (nomark _)) (pss_one (ps_ret (pe_op op_add_str (pe_op op_add_str (pe_slice sl_str (pv 1) po_none (po_some (pv 4))) (pv 3)) (pe_slice sl_str (pv 1) (po_some (pv 4)) po_none)))) pss_nil) (pss_cons (ps_if (pt_cmpR op_eqI (pv 2) pe_int (nomark _)) (pss_one (ps_ret (pe_op op_add_str (pe_slice sl_str (pv 1) po_none (po_some (pv 4))) (pe_slice sl_str (pv 1) (po_some (pe_op op_add (pv 4) pe_int)) po_none)))) pss_nil) (pss_cons (ps_if (pt_cmpR op_eqI (pv 2) pe_int (nomark _)) (pss_one (ps_ret (pe_op op_add_str (pe_op op_add_str (pe_slice sl_str (pv 1) po_none (po_some (pv 4))) (pv 3)) (pe_slice sl_str (pv 1) (po_some (pe_op op_add (pv 4) pe_int)) po_none)))) pss_nil) (pss_cons (ps_set (i := 5) sc_law_text.nd rfl (Or.inl rfl) (pe_lstN (pa_cons pe_str (pa_cons pe_str (pa_cons pe_str (pa_cons pe_str (pa_cons pe_str (pa_cons pe_str (pa_cons pe_str (pa_cons pe_str (pa_cons pe_str (pa_cons pe_str (pa_cons pe_str (pa_cons pe_str (pa_cons pe_str (pa_cons pe_str (pa_cons pe_str (pa_cons pe_str pa_nil)))))))))))))))))) (pss_one (ps_ret (pe_ix (ix_listK (K := K) rfl) (pe_op op_catN (pv 5) (pe_lstN (pa_cons pe_str (pa_cons pe_str (pa_cons pe_str (pa_cons pe_str pa_nil)))))) (pe_g (ok_law_draw T) T.g_law_draw hr (by decide) pass0 (pa_cons (pv 0) (pa_cons pe_int pa_nil))) (fun _ _ => rfl)))))))))))), ?_⟩
  walk_at "in"
  walk_at "go"
  refine go_integer hp fun a H1 a0 a1 hp1 b1 => ?_
  walk_at "go"
  refine go_integer hp1 fun b H2 b0 b1' hp2 b2 => ?_
  walk_at "go"
  rw [abs_nat]
  refine go_mk rfl (by omega) ((Sm.of60 (n := 1 + (b.natAbs : Int)) (by omega)).1.bd.mono (by decide)) fun x H3 hx3 r3 s3 => ?_
  have qn := quo60 (n := a) (by omega) ((Int.gcd a (1 + (b.natAbs : Int)) : Nat) : Int)
  have qd := quo60 (n := 1 + (b.natAbs : Int)) (by omega) ((Int.gcd a (1 + (b.natAbs : Int)) : Nat) : Int)
  generalize a / ((Int.gcd a (1 + (b.natAbs : Int)) : Nat) : Int) = nn at *
  generalize (1 + (b.natAbs : Int)) / ((Int.gcd a (1 + (b.natAbs : Int)) : Nat) : Int) = dd at *
  have hp3 := hp2.same s3
  have ta := txt_asc qn.2 qd.2
  walk_at "go"
  refine go_strR r3 qn.1 qd.1 ?_
  obtain ⟨l, hl⟩ : ∃ l, l = Rtx.txt nn dd := ⟨_, rfl⟩
  rw [← hl] at ta ⊢
  have ll : (S l).length = l.length := S_len _
  walk_at "go"
  refine go_draw hp3 (by decide) (by decide) fun y0 H4 y0a y0b hp4 b4 => ?_
  walk_at "go"
  refine go_draw hp4 (by decide) (by decide) fun y1 H5 y1a y1b hp5 b5 => ?_
  obtain ⟨c, hc1, hc2⟩ := pickC signs y1a y1b
  have hc3 : c < 128 := (by decide : ∀ c ∈ signs, c < 128) c hc2
  refine ⟨_, _, c, rfl, rfl, ?_, hc1, ?_⟩
  · rw [lit_signs, S_len]
    decide
  walk_at "go"
  refine go_draw hp5 (by rw [ll]; omega) (by rw [ll]; omega) fun y2 H6 y2a y2b hp6 b6 => ?_
  obtain ⟨m, rfl⟩ := Int.eq_ofNat_of_zero_le y2a
  walk_at "go"
  have bb : But p H H6 := (((((b1.trans b2).trans (Same.but s3)).trans b4).trans b5).trans b6)
  have hx1 : (∀ z ∈ [c], z < 128) ∧ [c].length ≤ 1 := ⟨fun z hz => by rw [List.mem_singleton.mp hz]; exact hc3, Nat.le_refl _⟩
  have hx0 : (∀ z ∈ ([] : List Nat), z < 128) ∧ ([] : List Nat).length ≤ 1 := ⟨fun z hz => absurd hz List.not_mem_nil, Nat.zero_le _⟩
  have A1 := asc_cut (m := m) (i := m) ta hx1 (.inl rfl)
  have A2 := asc_cut (m := m) (i := m + 1) ta hx0 (.inr rfl)
  have A3 := asc_cut (m := m) (i := m + 1) ta hx1 (.inr rfl)
  obtain ⟨u, hu⟩ : ∃ u, u = l.take m := ⟨_, rfl⟩
  obtain ⟨v, hv⟩ : ∃ v, v = l.drop m := ⟨_, rfl⟩
  obtain ⟨v1, hv1⟩ : ∃ v, v = l.drop (m + 1) := ⟨_, rfl⟩
  have lu : u.length ≤ 125 := by rw [hu, List.length_take]; omega
  have lv : v.length ≤ 125 := by rw [hv, List.length_drop]; omega
  have lv1 : v1.length ≤ 125 := by rw [hv1, List.length_drop]; omega
  rw [← hu] at A1 A2 A3
  rw [← hv] at A1
  rw [← hv1] at A2 A3
  have ec : (⟨#[c]⟩ : Str) = S [c] := rfl
  have em : ((m : Int) + 1) = ((m + 1 : Nat) : Int) := by omega
  rw [ec]
  refine i_two (fun h0 => ?_) (fun h0 => ?_)
  · walk_at "go"
    exact k l H6 ⟨ta.1, by omega⟩ hp6 bb
  · walk_at "go"
    refine i_two (fun h1 => ?_) (fun h1 => ?_)
    · walk_at "go"
      rw [scut_take, ← hu]
      walk_at "go"
      rw [S_cat]
      walk_at "go"
      rw [scut_drop, ← hv]
      walk_at "go"
      rw [S_cat, List.append_assoc]
      exact k _ H6 A1 hp6 bb
    · walk_at "go"
      refine i_two (fun h2 => ?_) (fun h2 => ?_)
      · walk_at "go"
        rw [scut_take, ← hu]
        walk_at "go"
        rw [em, scut_drop, ← hv1]
        walk_at "go"
        rw [S_cat]
        exact k _ H6 A2 hp6 bb
      · walk_at "go"
        refine i_two (fun h3 => ?_) (fun h3 => ?_)
        · walk_at "go"
          rw [scut_take, ← hu]
          walk_at "go"
          rw [S_cat]
          walk_at "go"
          rw [em, scut_drop, ← hv1]
          walk_at "go"
          rw [S_cat, List.append_assoc]
          exact k _ H6 A3 hp6 bb
        · walk_at "go"
          intro q7 H7 hq7 e7 s7
          walk_at "go"
          intro q8 H8 hq8 e8 s8
          walk_at "go"
          intro q9 H9 hq9 e9 s9
          walk_at "go"
          have hp9 := ((hp6.same s7).same s8).same s9
          refine go_draw hp9 (by decide) (by decide) fun y3 H10 y3a y3b hp10 b10 => ?_
          obtain ⟨x, hx, hm⟩ := pickV (xs := others.map V.str) y3a y3b
          obtain ⟨t, ht, rfl⟩ := List.mem_map.mp hm
          obtain ⟨tl, rfl, tA⟩ := ascB_ok (List.all_eq_true.mp others_ok t ht)
          have hqp : q9 ≠ p := ((hp6.same s7).same s8).ne hq9
          refine r_ixL (SqL.of (b10.at hqp e9)) hx ?_
          exact k _ _ tA hp10 ((((bb.trans (Same.but s7)).trans (Same.but s8)).trans (Same.but s9)).trans b10)
end

end Toy

set_option Elab.async false
set_option linter.all false
set_option maxRecDepth 100000
set_option maxHeartbeats 4000000
namespace Toy
open PySem PySem.Spec PyProof.Rows L2 My SX
local macro_rules | `(tactic| walk_at "ne") => `(tactic| first
  | with_reducible assumption
  | exact Ne.symm (by with_reducible assumption)
  | (refine' ne_of_none ?hx ?hy; (case hy => with_reducible assumption); (case hx => walk_at "hf"))
  | (refine' Ne.symm (ne_of_none ?hx ?hy); (case hy => with_reducible assumption); (case hx => walk_at "hf"))
  | (refine' Pu.ne ?hx ?hy; (case hy => with_reducible assumption); (case hx => walk_at "pu")))
local macro_rules | `(tactic| walk_at "pu") => `(tactic| first
  | with_reducible assumption
  | ((with_reducible refine' Pu.same ?hx ?hy); (case hy => with_reducible assumption); (case hx => walk_at "pu")))
local macro_rules | `(tactic| walk_at "hf") => `(tactic| first
  | with_reducible assumption
  | with_reducible exact upd_same
  | ((with_reducible refine' Same.at ?hs ?hr); (case hs => with_reducible assumption); (case hr => walk_at "hf"))
  | ((with_reducible refine' at_or ?hr ?hn); (case hr => walk_at "hf"); (case hn => first | exact Or.inl (by with_reducible assumption) | exact Or.inr (by walk_at "ne")))
  | ((with_reducible refine' But.at ?hb ?hn ?hr); (case hb => with_reducible assumption); (case hr => walk_at "hf"); (case hn => walk_at "ne")))
local macro_rules | `(tactic| walk_at "sq") => `(tactic| first
  | with_reducible assumption
  | ((with_reducible refine' SqL.of ?hql); (case hql => walk_at "hf"))
  | ((with_reducible refine' Same.seq ?hx ?hy); (case hx => with_reducible assumption); (case hy => walk_at "sq")))
local macro_rules | `(tactic| walk_at "sqo") => `(tactic| first
  | ((with_reducible refine' Or.inl ?hol); (case hol => with_reducible assumption))
  | ((with_reducible refine' Or.inr ?hor); (case hor => with_reducible assumption))
  | ((with_reducible refine' Or.inl (SqL.of ?hol)); (case hol => walk_at "hf"))
  | ((with_reducible refine' Or.inr (SqT.of ?hor)); (case hor => walk_at "hf"))
  | ((with_reducible refine' Or.inl ?hol); (case hol => walk_at "sq"))
  | ((with_reducible refine' Or.inr ?hor); (case hor => walk_at "sqt")))
local macro_rules | `(tactic| walk_at "sqt") => `(tactic| first
  | with_reducible assumption
  | ((with_reducible refine' SqT.of ?hqt); (case hqt => walk_at "hf"))
  | ((with_reducible refine' tupS ?hx ?hy); (case hy => with_reducible assumption); (case hx => walk_at "sqt")))
local macro_rules | `(tactic| walk_at "lg") => `(tactic| first
  | with_reducible assumption
  | exact Bd.lg (by with_reducible assumption) (by decide) (by decide)
  | exact Bd.lg (Bd.of (b := 100) (by omega) (by omega)) (by decide) (by decide))
local macro_rules | `(tactic| walk_at "len") => `(tactic| first
  | with_reducible assumption
  | ((simp only [txt_int, lcat, S_len, List.length_append, List.length_cons, List.length_nil]); omega)
  | (apply of_decide_eq_true; rfl))
local macro_rules | `(tactic| walk_at "side") => `(tactic| first
  | with_reducible assumption
  | omega
  | exact ml (by omega) (by omega)
  | exact mr (by omega) (by omega)
  | exact dv (by omega) (by omega)
  | exact Bd.mulOk (by with_reducible assumption) (by with_reducible assumption) (by decide) (by decide) (by decide)
  | exact Bd.div (by with_reducible assumption) (by omega) (by decide) (by decide)
  | (show (0 : Int) < _; omega)
  | decide
  | exact ni_non
  | exact rfl
  | ((simp only [List.length_cons, List.length_nil, List.length_map]); omega))
local macro_rules | `(tactic| walk_at "nl") => `(tactic| first
  | ((simp only [List.length_cons, List.length_nil, List.length_map, List.length_append]); omega)
  | omega
  | decide
  | exact Nat.le_of_ble_eq_true rfl)
local macro_rules | `(tactic| walk_at "sn") => `(tactic| first
  | with_reducible refine r_tupN ?_
  | with_reducible refine r_lstN ?_
  | with_reducible refine r_dnewN ?_
  | ((with_reducible refine' r_listN ?hh ?_); (case hh => walk_at "sqo"))
  | ((with_reducible refine' r_tupleN ?hh ?_); (case hh => walk_at "sq"))
  | ((with_reducible refine' r_slLN ?hh ?_); (case hh => walk_at "sq"))
  | ((with_reducible refine' r_catN ?hh ?hg ?hz ?_); (case hh => walk_at "hf"); (case hg => walk_at "hf"); (case hz => walk_at "nl"))
  | ((with_reducible refine' r_repN ?hh ?h2 ?h3 ?h4 ?_); (case hh => walk_at "hf"); (case h2 => walk_at "side"); (case h3 => walk_at "nl"); (case h4 => walk_at "side")))
local macro_rules | `(tactic| walk_at "st") => `(tactic| first
  | walk_at "sn"
  | ((with_reducible refine' r_var ?hh ?_); (case hh => rfl))
  | with_reducible refine r_c ?_
  | with_reducible refine r_op ?_
  | with_reducible refine r_i0 ?_
  | with_reducible refine r_cons ?_
  | with_reducible refine r_nil ?_
  | with_reducible refine r_seq ?_
  | with_reducible refine r_asg ?_
  | with_reducible refine r_gname ?_
  | with_reducible refine r_ret ?_
  | with_reducible refine r_ifS ?_
  | with_reducible refine r_test ?_
  | with_reducible refine r_tB ?_
  | with_reducible refine b_bl ?_
  | with_reducible refine i_t ?_
  | with_reducible refine i_f ?_
  | with_reducible refine i_nt ?_
  | with_reducible refine i_nf ?_
  | ((with_reducible refine' i_pos ?hh ?_); (case hh => walk_at "side"))
  | ((with_reducible refine' i_neg ?hh ?_); (case hh => walk_at "side"))
  | ((with_reducible refine' n_pos ?hh ?_); (case hh => walk_at "side"))
  | ((with_reducible refine' n_neg ?hh ?_); (case hh => walk_at "side"))
  | ((with_reducible refine' r_pow ?hh ?he ?_); (case hh => first | exact ⟨by decide, by decide, by decide⟩ | exact ⟨by decide, by decide, by omega⟩); (case he => first | ((simp only [Int.reduceToNat, Int.reducePow]); done) | ((simp only [Int.reduceToNat, Int.reducePow]); rfl) | rfl))
  | ((with_reducible refine' r_i ?hh ?_); (case hh => walk_at "side"))
  | with_reducible refine r_call0 ?_
  | with_reducible refine r_call ?_
  | with_reducible refine r_cb ?_
  | with_reducible refine r_int ?_
  | ((with_reducible refine' r_strI ?hh ?_); (case hh => walk_at "lg"))
  | with_reducible refine r_i1 ?_
  | with_reducible refine r_i2 ?_
  | with_reducible refine r_par ?_
  | with_reducible refine r_two ?_
  | with_reducible refine r_par3 ?_
  | with_reducible refine r_three ?_
  | with_reducible refine r_and ?_
  | with_reducible refine r_or ?_
  | with_reducible refine r_not ?_
  | with_reducible refine r_tif ?_
  | with_reducible refine r_andV ?_
  | with_reducible refine r_orV ?_
  | with_reducible refine r_notV ?_
  | with_reducible refine r_un ?_
  | with_reducible refine r_u ?_
  | with_reducible refine r_sb ?_
  | with_reducible refine r_drop ?_
  | with_reducible refine r_next ?_
  | with_reducible refine r_gsub ?_
  | ((with_reducible refine' r_ixL ?hh ?he ?_); (case hh => walk_at "sq"); (case he => rfl))
  | ((with_reducible refine' r_ixT ?hh ?he ?_); (case hh => walk_at "sqt"); (case he => rfl))
  | ((with_reducible refine' r_setL ?hh ?he ?_); (case hh => walk_at "hf"); (case he => rfl))
  | with_reducible refine r_gcons ?_
  | with_reducible refine r_gnil ?_
  | with_reducible refine r_sl ?_
  | with_reducible refine r_nopart ?_
  | with_reducible refine r_part ?_
  | with_reducible refine r_pint ?_
  | ((with_reducible refine' r_lenS ?hh ?_); (case hh => walk_at "sqo"))
  | ((with_reducible refine' r_gtup ?hh ?he ?_); (case hh => walk_at "sqt"); (case he => rfl))
  | ((with_reducible refine' r_slL ?hh ?_); (case hh => walk_at "sq"))
  | ((with_reducible refine' r_len ?hh ?_); (case hh => exact sz (by (try simp only [List.length_map]); (first | omega | decide | exact Nat.le_of_ble_eq_true rfl))))
  | with_reducible refine r_isi_ii ?_
  | with_reducible refine r_isi_ib ?_
  | with_reducible refine r_isi_ss ?_
  | ((with_reducible refine' r_isi_own ?hh ?hi ?hk ?_); (case hh => walk_at "hf"); (case hi => with_reducible assumption); (case hk => with_reducible assumption))
  | with_reducible refine r_lst ?_
  | with_reducible refine r_tup ?_
  | with_reducible refine r_make ?_
  | with_reducible refine r_forR1 ?_
  | with_reducible refine r_forL ?_
  | with_reducible refine r_forT ?_
  | with_reducible refine r_forR2 ?_
  | with_reducible refine r_ref1 ?_
  | with_reducible refine r_brk ?_
  | with_reducible refine r_cont ?_
  | with_reducible refine r_retN ?_
  | with_reducible refine r_rr ?_
  | with_reducible refine r_fmt ?_
  | ((with_reducible refine' r_fmti ?hh ?_); (case hh => walk_at "lg"))
  | with_reducible refine r_js ?_
  | with_reducible refine r_js0 ?_
  | ((with_reducible refine' r_jsp ?hh ?_); (case hh => walk_at "len"))
  | with_reducible refine r_m0 ?_
  | with_reducible refine r_m1 ?_
  | with_reducible refine r_str ?_
  | with_reducible refine r_ss ?_
  | with_reducible refine r_s0 ?_
  | ((with_reducible refine' r_addS ?hh ?_); (case hh => walk_at "len"))
  | ((with_reducible refine' r_slS ?hh ?_); (case hh => walk_at "len"))
  | ((with_reducible refine' r_lenT ?hh ?_); (case hh => walk_at "len"))
  | ((with_reducible refine' r_memI ?hh ?_); (case hh => with_reducible assumption))
  | with_reducible refine r_eqB ?_
  | ((with_reducible refine' r_inT ?hh ?hf ?he ?_); (case hh => walk_at "sqt"); (case hf => rfl); (case he => rfl))
  | ((with_reducible refine' r_inF ?hh ?hf ?he ?_); (case hh => walk_at "sqt"); (case hf => rfl); (case he => rfl))
  | ((with_reducible refine' r_makeL ?hh ?_); (case hh => rfl))
  | with_reducible refine r_tprop ?_
  | with_reducible refine r_tfld ?_
  | ((with_reducible refine' f_prop ?hh ?_); (case hh => walk_at "hf"))
  | ((with_reducible refine' f_fld ?hh ?hc ?hn ?hl ?_); (case hh => walk_at "hf"); (case hc => with_reducible assumption); (case hn => with_reducible assumption); (case hl => rfl))
  | with_reducible refine r_tcm ?_
  | with_reducible refine r_chain ?_
  | with_reducible refine r_chain3 ?_
  | with_reducible refine r_bl1 ?_
  | with_reducible refine r_intb ?_
  | with_reducible refine r_yes ?_
  | with_reducible refine r_makeK ?_
  | with_reducible refine r_sfld ?_
  | ((with_reducible refine' f_sfld ?hh ?hc ?hn ?hl ?_); (case hh => walk_at "hf"); (case hc => with_reducible assumption); (case hn => with_reducible assumption); (case hl => exact Nat.le_of_ble_eq_true rfl))
  | with_reducible refine r_lcL ?_
  | with_reducible refine r_lcS ?_
  | with_reducible refine r_lcT ?_
  | with_reducible refine r_lcR1 ?_
  | with_reducible refine r_lcR2 ?_
  | with_reducible refine r_tbm ?_
  | with_reducible refine r_tbm0 ?_
  | ((with_reducible refine' f_tyL ?hh ?_); (case hh => walk_at "hf"))
  | ((with_reducible refine' r_app ?hh ?he ?_); (case hh => walk_at "hf"); (case he => walk_at "side"))
  | with_reducible refine r_tRev ?_
  | with_reducible refine r_lstRg1 ?_
  | with_reducible refine r_lcRV ?_
  | with_reducible refine r_makeS ?_
  | with_reducible refine r_cmS ?_
  | with_reducible refine r_methS ?_
  | with_reducible refine r_tupRg1 ?_
  | with_reducible refine r_forRV ?_
  | with_reducible refine r_raiseE ?_
  | with_reducible refine r_callG ?_
  | ((with_reducible refine' r_xfV ?hh ?hf ?hl ?_); (case hh => rfl); (case hf => walk_at "hf"); (case hl => rfl)))
local macro_rules | `(tactic| walk_at "go") => `(tactic| (repeat walk_at "st"))
local macro_rules | `(tactic| walk_at "in") => `(tactic| dsimp only [cxOf, L2.start, List.map, List.length, List.replicate, Nat.reduceSub, Nat.reduceAdd, List.cons_append, List.nil_append, List.append_nil])
local macro_rules | `(tactic| walk_at "bt") => `(tactic| first
  | with_reducible assumption
  | exact But.rfl
  | exact Same.but (by with_reducible assumption)
  | (refine' But.put ?ha; (case ha => walk_at "bt"))
  | (refine' But.new ?ha ?hn; (case hn => with_reducible assumption); (case ha => walk_at "bt"))
  | (refine' But.trans ?ha ?hb; (case hb => with_reducible assumption); (case ha => walk_at "bt"))
  | (refine' But.trans ?ha (Same.but ?hb); (case hb => with_reducible assumption); (case ha => walk_at "bt")))
local macro_rules | `(tactic| walk_at "sm") => `(tactic| first
  | with_reducible assumption
  | exact Same.refl _
  | (refine' Same.new ?ha ?hn; (case hn => with_reducible assumption); (case ha => walk_at "sm"))
  | (refine' Same.trans ?ha ?hb; (case hb => with_reducible assumption); (case ha => walk_at "sm")))

/-! ### texts of things -/
theorem bound_S (l : List Nat) : PyData.strOk (S l) = l.all fun c => decide (c < 0x110000) := by
  show (S l).cps.all (· < 0x110000) = _
  rw [← Array.all_toList] <;> rfl
theorem reprc_ok : ∀ c < 128, (Builtin.Str.reprChar 39 c).all (fun c => decide (c < 0x110000)) = true ∧ (Builtin.Str.reprChar 34 c).all (fun c => decide (c < 0x110000)) = true := by decide +kernel
theorem foldl_ok (q : Nat) (hq : ∀ c < 128, (Builtin.Str.reprChar q c).all (fun c => decide (c < 0x110000)) = true) : ∀ (l : List Nat) (acc : Array Nat), (∀ c ∈ l, c < 128) → acc.toList.all (fun c => decide (c < 0x110000)) = true → ((l.foldl (fun out c => out ++ (Builtin.Str.reprChar q c).toArray) acc).toList.all fun c => decide (c < 0x110000)) = true
  | [], acc, _, h => h
  | c :: r, acc, h, k => by
    refine foldl_ok q hq r _ (fun d hd => h d (List.mem_cons_of_mem _ hd)) ?_
    rw [Array.toList_append, List.all_append, k, Bool.true_and]
    exact hq c (h c (List.mem_cons_self ..))
theorem repr_ok {l : List Nat} (h : ∀ c ∈ l, c < 128) : PyData.strOk (reprText (S l)) = true := by
  have hq : reprQuote (S l) = 34 ∨ reprQuote (S l) = 39 := by
    unfold reprQuote
    split
    · exact .inl rfl
    · exact .inr rfl
  unfold reprText
  show (Array.push _ _).all (· < 0x110000) = true
  rw [← Array.all_toList, Array.toList_push, List.all_append, ← Array.foldl_toList]
  rcases hq with e | e <;> rw [e]
  · rw [show ((S l).cps.toList.foldl (fun out c => out ++ (Builtin.Str.reprChar 34 c).toArray) #[34]).toList.all (fun c => decide (c < 0x110000)) = true from foldl_ok 34 (fun c hc => (reprc_ok c hc).2) l _ h rfl] <;> rfl
  · rw [show ((S l).cps.toList.foldl (fun out c => out ++ (Builtin.Str.reprChar 39 c).toArray) #[39]).toList.all (fun c => decide (c < 0x110000)) = true from foldl_ok 39 (fun c hc => (reprc_ok c hc).1) l _ h rfl] <;> rfl
section
variable {P : Program} {w : World} {K : PySem.W.Frag} {mg : Str → Option Value} {base : Heap}
/-- what repr makes of a thing -/
def Rp (K : PySem.W.Frag) (H : Hp) (x : V) (t : Str) : Prop := PyData.strOk t = true ∧ ((∃ d, Thg K H x d ∧ d.shown = t) ∨ ∃ a n d, x = .ref a ∧ Rt K H a n d ∧ Sm n ∧ Sm d ∧ t = txtP n d)
theorem Rp.same {H H' : Hp} {x : V} {t : Str} (h : Rp K H x t) (s : Same H H') : Rp K H' x t := ⟨h.1, h.2.elim (fun ⟨d, a, b⟩ => .inl ⟨d, a.same s, b⟩) fun ⟨a, n, d, e, r, k⟩ => .inr ⟨a, n, d, e, r.same s, k⟩⟩
theorem call_reprA {X : Cx} {j : Nat} (T : Tx X.K X.mg) (hr : RG j X.A) (hj : 2 ≤ j) : CallR X (.builtin "repr") (fun xs H Q => rReprT X.K xs H Q ∨ rStrOwn (He.ga X.K "Ratio") (spRepr X.K) xs H Q) := call_or (call_reprT hr) (call_reprOwn (ok_Ratio__repr T) T.sp_Ratio__repr.at_ T.sp_Ratio__repr.fn hr hj)
theorem fq_Ratio__repr (T : Tx K mg) : FnQ P w K mg base 1 (He.ma K (He.ga K "Ratio") "__repr__") (Classical.choose T.d_Ratio__repr) ["self"] (fun _ => spRepr K) := by
  have F := Classical.choose_spec T.d_Ratio__repr
  have hc := T.cl_Ratio
  have n1 := T.n_Ratio_top
  have n2 := T.n_Ratio_bottom
  refine fnQ F sc_Ratio__repr (fun p vs H Q E h => ?_) (fun cdv A outer s H vs Q p hr h => ?_)
  · obtain ⟨a, n, d, rfl, _⟩ := h
    rfl
  obtain ⟨a, n, d, rfl, ⟨dx, ha⟩, nb, db, k⟩ := h
  have ln := nb.len
  have ld := db.len
  have nb := nb.bd
  have db := db.bd
  refine ⟨_, (pss_one (ps_ret (pe_joined (.cons pe_str (.cons (pe_fmt (pe_fldK (K := K) rfl (pv 0) rfl)) (.cons pe_str (.cons (pe_fmt (pe_fldK (K := K) rfl (pv 0) rfl)) (.cons pe_str .nil)))))))), ?_⟩
  have l1 := len_R1
  have l2 := len_R2
  have l3 := len_R3
  have l4 : Str.empty.length = 0 := rfl
  walk_at "in"
  walk_at "go"
  rw [txt_int, txt_int, emp_cat]
  exact k
theorem call_reprH {X : Cx} {j : Nat} {a : Addr} {oe : Obj} {pn : List (Addr × Obj)} (T : Tx X.K X.mg) (hr : RG j X.A) (hj : 2 ≤ j) : CallR (X.suite a ((a, oe) :: pn)) (.builtin "repr") (fun xs H Q => rReprT X.K xs H Q ∨ rStrOwn (He.ga X.K "Ratio") (spRepr X.K) xs H Q) :=
  call_or (call_reprTg (X := X.suite a ((a, oe) :: pn)) hr.g hr.units) (call_reprOwnQ (sp := fun _ => spRepr X.K) (fq_Ratio__repr T) ((Classical.choose_spec T.d_Ratio__repr).bindsN (fun _ _ _ _ _ _ us hl => match us, hl with | [_], _ => rfl)) T.sp_Ratio__repr.at_ T.sp_Ratio__repr.fn ⟨((L2H.roomH_of hr.r).mono hj).dp, ((L2H.roomH_of hr.r).mono hj).un⟩)
theorem f_rp {H : Hp} {x : V} {t : Str} {Q : VK} (h : Rp K H x t) (q : Q (.str t) H) : rReprT K [x] H Q ∨ rStrOwn (He.ga K "Ratio") (spRepr K) [x] H Q := by
  rcases h.2 with ⟨d, k, rfl⟩ | ⟨a, n, d, rfl, r, hn, hd, rfl⟩
  · exact .inl (k.q q)
  · obtain ⟨dx, e⟩ := id r
    exact .inr (f_strOwn e ⟨a, n, d, rfl, r, hn, hd, _, rfl, q⟩)
theorem rp_S {H : Hp} {l : List Nat} (h : Asc l) : Rp K H (.str (S l)) (reprText (S l)) := by
  refine ⟨repr_ok h.1, .inl ⟨.str (S l), ⟨.pl (.str _) rfl, rfl, Nat.le_of_ble_eq_true rfl, ?_⟩, PyData.shown_str _⟩⟩
  rw [PyData.shown_str]
  refine Nat.le_trans (StrLaws.reprText_len (S l) fun c hc => Nat.lt_trans (h.1 c hc) (by decide)) ?_
  rw [S_len, sizeLine_eq]
  have := h.2
  omega
theorem rp_int {H : Hp} {i : Int} (h : Sm i) : Rp K H (.int i) (S (intL i)) := by
  have l := h.len
  refine ⟨strOk_int i, .inl ⟨.int i, ⟨.pl (.int _) rfl, ?_, Nat.le_of_ble_eq_true rfl, ?_⟩, ?_⟩⟩
  · exact decide_eq_true (h.bd.lg (by decide) (by decide))
  · rw [PyData.shown_int, txt_int, S_len, sizeLine_eq]
    omega
  · rw [PyData.shown_int, txt_int]
def litB (d : PyData) : Bool := d.showable && decide (d.depth ≤ 50) && decide (d.shown.length ≤ 100) && PyData.strOk d.shown
theorem rp_lit {H : Hp} {x : V} {d : PyData} (h : DpT K H x d) (b : litB d = true) : Rp K H x d.shown := by
  unfold litB at b
  simp only [Bool.and_eq_true, decide_eq_true_eq] at b
  exact ⟨b.2, .inl ⟨d, ⟨h, b.1.1.1, b.1.1.2, Nat.le_trans b.1.2 (by rw [sizeLine_eq]; decide)⟩, rfl⟩⟩
/-- a tuple that tells -/
def tlV (n t : Str) (b : Bool) : List V := [.str n, .str t, .bl true, .bl b]
def tlD (n t : Str) (b : Bool) : PyData := .tuple [.str n, .str t, .bool true, .bool b]
theorem tl_dp {H : Hp} {q : Addr} {n t : Str} {b : Bool} (h : H q = some (.tup (tlV n t b))) : Dp K H (.ref q) (tlD n t b) := .tup (SqT.of h) (.cons (.str _) (.cons (.str _) (.cons (.bl _) (.cons (.bl _) .nil))))
theorem tl_shaped {n t : Str} {b : Bool} (hn : PyData.strOk n = true) (ht : PyData.strOk t = true) : SeqAt.shaped (tlD n t b) = true := by
  have e : (tlD n t b).canLay0 = true := by simp [tlD, PyData.canLay0, PyData.canLayAll0, hn, ht]
  have e2 : decide ((tlD n t b).depth ≤ 64) = true := by rfl
  unfold SeqAt.shaped
  rw [e, e2] <;> rfl
theorem tl_eqv {n t : Str} {b : Bool} : PyData.eqv (tlD n t b) (tlD n t b) = true := by
  simp [tlD, PyData.eqv, PyData.eqvAll]
theorem r_tlNe {H : Hp} {p q : Addr} {n t : Str} {b : Bool} {Q : VK} (h1 : H p = some (.tup (tlV n t b))) (h2 : H q = some (.tup (tlV n t b))) (hn : PyData.strOk n = true) (ht : PyData.strOk t = true) (k : Q (.bl false) H) : rNeD K (.ref p) (.ref q) H Q :=
  r_neD (tl_dp h1) (tl_dp h2) (tl_shaped hn ht) (tl_shaped hn ht) tl_eqv k
theorem r_tlEq {H : Hp} {p q : Addr} {n t : Str} {b : Bool} {Q : VK} (h1 : H p = some (.tup (tlV n t b))) (h2 : H q = some (.tup (tlV n t b))) (hn : PyData.strOk n = true) (ht : PyData.strOk t = true) (k : Q (.bl true) H) : rEqD K (.ref p) (.ref q) H Q :=
  r_eqD (tl_dp h1) (tl_dp h2) (tl_shaped hn ht) (tl_shaped hn ht) tl_eqv k
/-- what is given of a wrong text -/
def spDueT (K : PySem.W.Frag) : Sp := fun vs H Q _ => ∃ v t, vs = [v] ∧ Rp K H v t ∧ NewO H (.tup (tlV "text" t true)) Q
theorem ok_law_due_text (T : Tx K mg) : Gf P w K mg base CX0 3 (He.ga K "_law_due_text") ["_law_thing"] [] (spDueT K) := by
  obtain ⟨fd, F⟩ := T.d_law_due_text
  refine gf0 F (fnG F sc_law_due_text (fun vs H Q E h => ?_) (fun cdv A outer s H vs Q E hr h => ?_)) (fun _ _ _ _ _ _ us hl => match us, hl with | [_], _ => rfl)
  · obtain ⟨v, t, rfl, _⟩ := h
    rfl
  obtain ⟨v, t, rfl, hR, k⟩ := h
  refine ⟨_, PSs.nox (pss_one (ps_ret (pe_tupN (pa_cons pe_str (pa_cons (pe_callB (call_reprA T hr (by decide)) (by rfl) T.f_repr (by decide +kernel) (pa_cons (pv 0) pa_nil)) (pa_cons pe_bl (pa_cons pe_bl pa_nil))))))), ?_⟩
  walk_at "in"
  walk_at "go"
  refine f_rp hR ?_
  walk_at "go"
  exact k
/-- read, told -/
def spRd (K : PySem.W.Frag) : Sp := fun vs H Q _ => ∃ v t, vs = [v] ∧ Rp K H v t ∧ ((∃ l, v = .str (S l) ∧ Asc l ∧ match Rtx.rd l with
  | some (n, d) => NewO H (.tup [.int n, .int d]) Q
  | none => NewO H (.tup (tlV "text" t true)) Q) ∨ (NoStr K H v ∧ NewO H (.tup (tlV "text" t true)) Q))
theorem NewO.same {H H' : Hp} {o : HO} {Q : VK} (h : NewO H o Q) (s : Same H H') : NewO H' o Q := fun p H2 hp e s2 => h p H2 (s.free hp) e (s.trans s2)
theorem ok_law_read (T : Tx K mg) : Gf P w K mg base CX0 7 (He.ga K "_law_read") ["_law_thing"] [] (spRd K) := by
  obtain ⟨fd, F⟩ := T.d_law_read
  have hc := T.cl_Ratio
  have n1 := T.n_Ratio_top
  have n2 := T.n_Ratio_bottom
  refine gf0 F (fnG F sc_law_read (fun vs H Q E h => ?_) (fun cdv A outer s H vs Q E hr h => ?_)) (fun _ _ _ _ _ _ us hl => match us, hl with | [_], _ => rfl)
  · obtain ⟨v, t, rfl, _⟩ := h
    rfl
  obtain ⟨v, t, rfl, hR, h⟩ := h
  refine ⟨_, PSs.nox (pss_cons (ps_try_as (i := 3) rfl rfl sc_law_read.nd rfl rfl ⟨rfl, by decide, .inl T.g_InvalidText⟩ takes0 (fun W pn xe tk _ => (pss_cons (ps_set (i := 1) sc_law_read.nd rfl (Or.inl rfl) (pe_cmS (pe_glob (v := .ref (He.ga K "Ratio")) rfl T.g_Ratio rfl) T.cr_Ratio T.cm_Ratio_read (ok_Ratio_read T) hr (by decide) (fun σ => passAt tk σ) (pa_cons (pv 0) pa_nil))) (pss_one (ps_set (i := 2) sc_law_read.nd rfl (Or.inl rfl) (pe_tupN (pa_cons (pe_fldK (K := K) rfl (pv 1) rfl) (pa_cons (pe_fldK (K := K) rfl (pv 1) rfl) pa_nil))))))) (fun a oe cls d pn hz hf => (pss_one (ps_set (i := 2) sc_law_read.nd rfl (Or.inl rfl) (pe_tupN (pa_cons pe_str (pa_cons (pe_callB (call_reprH T hr (by decide)) (by rfl) T.f_repr (by decide +kernel) (pa_cons (pe_xf T.er_InvalidText.xf T.no_InvalidText hz hf (pv 3)) pa_nil)) (pa_cons (pe_callB (call_isX hz hf) (by rfl) T.f_isinstance (by decide +kernel) (pa_cons (pv 3) (pa_cons (pe_glob (v := .ref (He.ga K "InputError")) rfl T.g_InputError rfl) pa_nil))) (pa_cons (pe_callB (call_isX hz hf) (by rfl) T.f_isinstance (by decide +kernel) (pa_cons (pv 3) (pa_cons (pe_bltn (v := .ty "ValueError") (by rfl) T.f_ValueError (by decide +kernel) rfl) pa_nil))) pa_nil))))))))) (pss_one (ps_ret (pv 2)))), ?_⟩
  walk_at "in"
  walk_at "go"
  rcases h with ⟨l, rfl, hA, h⟩ | ⟨hN, h⟩
  · refine ⟨_, rfl, .inl ⟨l, rfl, hA, ?_⟩⟩
    cases hd : Rtx.rd l with
    | none =>
      rw [hd] at h
      refine fun d H2 e s2 => ?_
      refine ⟨true, T.xm_InvalidText_InvalidText, fun _ a ha => ?_, fun z => nomatch z⟩
      walk_at "go"
      refine f_rp (hR.same s2) ?_
      walk_at "go"
      refine f_isX T.er_InvalidText e (.own _) T.i_TI ?_
      walk_at "go"
      refine f_isX T.er_InvalidText e (.ty _) T.i_TV ?_
      walk_at "go"
      intro q H3 hq e3 s3
      walk_at "go"
      exact h q H3 (s2.free hq) e3 (s2.trans s3)
    | some nd =>
      obtain ⟨n, d⟩ := nd
      rw [hd] at h
      intro x H1 hx r1 s1
      obtain ⟨dx, ha⟩ := r1
      walk_at "go"
      intro q H3 hq e3 s3
      walk_at "go"
      exact h q H3 (s1.free hq) e3 (s1.trans s3)
  · refine ⟨_, rfl, .inr ⟨hN, fun d H2 e s2 => ?_⟩⟩
    refine ⟨true, T.xm_InvalidText_InvalidText, fun _ a ha => ?_, fun z => nomatch z⟩
    walk_at "go"
    refine f_rp (hR.same s2) ?_
    walk_at "go"
    refine f_isX T.er_InvalidText e (.own _) T.i_TI ?_
    walk_at "go"
    refine f_isX T.er_InvalidText e (.ty _) T.i_TV ?_
    walk_at "go"
    intro q H3 hq e3 s3
    walk_at "go"
    exact h q H3 (s2.free hq) e3 (s2.trans s3)
def spMade (K : PySem.W.Frag) : Sp := fun vs H Q _ => ∃ u v t, vs = [u, v] ∧ ((NoInt K H u ∧ Rp K H u t) ∨ ∃ n, u = .int n ∧ BadB K H v ∧ Rp K H v t) ∧ NewO H (.tup (tlV "number" t false)) Q
theorem ok_law_made (T : Tx K mg) : Gf P w K mg base CX0 5 (He.ga K "_law_made") ["_law_top", "_law_bottom"] [] (spMade K) := by
  obtain ⟨fd, F⟩ := T.d_law_made
  have hc := T.cl_Ratio
  have n1 := T.n_Ratio_top
  have n2 := T.n_Ratio_bottom
  refine gf0 F (fnG F sc_law_made (fun vs H Q E h => ?_) (fun cdv A outer s H vs Q E hr h => ?_)) (fun _ _ _ _ _ _ us hl => match us, hl with | [_, _], _ => rfl)
  · obtain ⟨u, v, t, rfl, _⟩ := h
    rfl
  obtain ⟨u, v, t, rfl, h, k⟩ := h
  refine ⟨_, PSs.nox (pss_cons (ps_try_as (i := 4) rfl rfl sc_law_made.nd rfl rfl ⟨rfl, by decide, .inl T.g_InvalidNumber⟩ takes0 (fun W pn xe tk _ => (pss_cons (ps_set (i := 2) sc_law_made.nd rfl (Or.inl rfl) (pe_mkS T.mk_Ratio (ok_Ratio_2 T) T.g_Ratio hr (by decide) (fun σ => passAt tk σ) (pa_cons (pv 0) (pa_cons (pv 1) pa_nil)))) (pss_one (ps_set (i := 3) sc_law_made.nd rfl (Or.inl rfl) (pe_tupN (pa_cons (pe_fldK (K := K) rfl (pv 2) rfl) (pa_cons (pe_fldK (K := K) rfl (pv 2) rfl) pa_nil))))))) (fun a oe cls d pn hz hf => (pss_one (ps_set (i := 3) sc_law_made.nd rfl (Or.inl rfl) (pe_tupN (pa_cons pe_str (pa_cons (pe_callB (call_reprH T hr (by decide)) (by rfl) T.f_repr (by decide +kernel) (pa_cons (pe_xf T.er_InvalidNumber.xf T.no_InvalidNumber hz hf (pv 4)) pa_nil)) (pa_cons (pe_callB (call_isX hz hf) (by rfl) T.f_isinstance (by decide +kernel) (pa_cons (pv 4) (pa_cons (pe_glob (v := .ref (He.ga K "InputError")) rfl T.g_InputError rfl) pa_nil))) (pa_cons (pe_callB (call_isX hz hf) (by rfl) T.f_isinstance (by decide +kernel) (pa_cons (pv 4) (pa_cons (pe_glob (v := .ref (He.ga K "InvalidText")) rfl T.g_InvalidText rfl) pa_nil))) pa_nil))))))))) (pss_one (ps_ret (pv 3)))), ?_⟩
  walk_at "in"
  walk_at "go"
  intro x dx hx hdx hne
  have s0 : Same H (upd (upd H dx (.own x)) x (.ins (He.ga K "Ratio") dx [])) := same_made hx hdx But.rfl
  refine ⟨x, dx, u, v, rfl, upd_same, .inr ?_⟩
  rcases h with ⟨hu, hR⟩ | ⟨n, rfl, hv, hR⟩
  · refine .inl ⟨hu.same s0, fun d H2 e s1 => ?_⟩
    have s2 := s0.trans s1
    clear s1
    refine ⟨true, T.xm_InvalidNumber_InvalidNumber, fun _ a ha => ?_, fun z => nomatch z⟩
    walk_at "go"
    refine f_rp (hR.same s2) ?_
    walk_at "go"
    refine f_isX T.er_InvalidNumber e (.own _) T.i_NI ?_
    walk_at "go"
    refine f_isX T.er_InvalidNumber e (.own _) T.i_NT ?_
    walk_at "go"
    intro q H3 hq e3 s3
    walk_at "go"
    exact k q H3 (s2.free hq) e3 (s2.trans s3)
  · refine .inr ⟨n, rfl, hv.same s0, fun d H2 e s1 => ?_⟩
    have s2 := s0.trans s1
    clear s1
    refine ⟨true, T.xm_InvalidNumber_InvalidNumber, fun _ a ha => ?_, fun z => nomatch z⟩
    walk_at "go"
    refine f_rp (hR.same s2) ?_
    walk_at "go"
    refine f_isX T.er_InvalidNumber e (.own _) T.i_NI ?_
    walk_at "go"
    refine f_isX T.er_InvalidNumber e (.own _) T.i_NT ?_
    walk_at "go"
    intro q H3 hq e3 s3
    walk_at "go"
    exact k q H3 (s2.free hq) e3 (s2.trans s3)
end

end Toy

set_option Elab.async false
set_option linter.all false
set_option maxRecDepth 100000
set_option maxHeartbeats 4000000
namespace Toy
open PySem PySem.Spec PyProof.Rows L2 My SX
local macro_rules | `(tactic| walk_at "ne") => `(tactic| first
  | with_reducible assumption
  | exact Ne.symm (by with_reducible assumption)
  | (refine' ne_of_none ?hx ?hy; (case hy => with_reducible assumption); (case hx => walk_at "hf"))
  | (refine' Ne.symm (ne_of_none ?hx ?hy); (case hy => with_reducible assumption); (case hx => walk_at "hf"))
  | (refine' Pu.ne ?hx ?hy; (case hy => with_reducible assumption); (case hx => walk_at "pu")))
local macro_rules | `(tactic| walk_at "pu") => `(tactic| first
  | with_reducible assumption
  | ((with_reducible refine' Pu.same ?hx ?hy); (case hy => with_reducible assumption); (case hx => walk_at "pu")))
local macro_rules | `(tactic| walk_at "hf") => `(tactic| first
  | with_reducible assumption
  | with_reducible exact upd_same
  | ((with_reducible refine' Same.at ?hs ?hr); (case hs => with_reducible assumption); (case hr => walk_at "hf"))
  | ((with_reducible refine' at_or ?hr ?hn); (case hr => walk_at "hf"); (case hn => first | exact Or.inl (by with_reducible assumption) | exact Or.inr (by walk_at "ne")))
  | ((with_reducible refine' But.at ?hb ?hn ?hr); (case hb => with_reducible assumption); (case hr => walk_at "hf"); (case hn => walk_at "ne")))
local macro_rules | `(tactic| walk_at "sq") => `(tactic| first
  | with_reducible assumption
  | ((with_reducible refine' SqL.of ?hql); (case hql => walk_at "hf"))
  | ((with_reducible refine' Same.seq ?hx ?hy); (case hx => with_reducible assumption); (case hy => walk_at "sq")))
local macro_rules | `(tactic| walk_at "sqo") => `(tactic| first
  | ((with_reducible refine' Or.inl ?hol); (case hol => with_reducible assumption))
  | ((with_reducible refine' Or.inr ?hor); (case hor => with_reducible assumption))
  | ((with_reducible refine' Or.inl (SqL.of ?hol)); (case hol => walk_at "hf"))
  | ((with_reducible refine' Or.inr (SqT.of ?hor)); (case hor => walk_at "hf"))
  | ((with_reducible refine' Or.inl ?hol); (case hol => walk_at "sq"))
  | ((with_reducible refine' Or.inr ?hor); (case hor => walk_at "sqt")))
local macro_rules | `(tactic| walk_at "sqt") => `(tactic| first
  | with_reducible assumption
  | ((with_reducible refine' SqT.of ?hqt); (case hqt => walk_at "hf"))
  | ((with_reducible refine' tupS ?hx ?hy); (case hy => with_reducible assumption); (case hx => walk_at "sqt")))
local macro_rules | `(tactic| walk_at "lg") => `(tactic| first
  | with_reducible assumption
  | exact Bd.lg (by with_reducible assumption) (by decide) (by decide)
  | exact Bd.lg (Bd.of (b := 100) (by omega) (by omega)) (by decide) (by decide))
local macro_rules | `(tactic| walk_at "len") => `(tactic| first
  | with_reducible assumption
  | ((simp only [txt_int, lcat, S_len, List.length_append, List.length_cons, List.length_nil]); omega)
  | (apply of_decide_eq_true; rfl))
local macro_rules | `(tactic| walk_at "side") => `(tactic| first
  | with_reducible assumption
  | omega
  | exact ml (by omega) (by omega)
  | exact mr (by omega) (by omega)
  | exact dv (by omega) (by omega)
  | exact Bd.mulOk (by with_reducible assumption) (by with_reducible assumption) (by decide) (by decide) (by decide)
  | exact Bd.div (by with_reducible assumption) (by omega) (by decide) (by decide)
  | (show (0 : Int) < _; omega)
  | decide
  | exact ni_non
  | exact rfl
  | ((simp only [List.length_cons, List.length_nil, List.length_map]); omega))
local macro_rules | `(tactic| walk_at "nl") => `(tactic| first
  | ((simp only [List.length_cons, List.length_nil, List.length_map, List.length_append]); omega)
  | omega
  | decide
  | exact Nat.le_of_ble_eq_true rfl)
local macro_rules | `(tactic| walk_at "sn") => `(tactic| first
  | with_reducible refine r_tupN ?_
  | with_reducible refine r_lstN ?_
  | with_reducible refine r_dnewN ?_
  | ((with_reducible refine' r_listN ?hh ?_); (case hh => walk_at "sqo"))
  | ((with_reducible refine' r_tupleN ?hh ?_); (case hh => walk_at "sq"))
  | ((with_reducible refine' r_slLN ?hh ?_); (case hh => walk_at "sq"))
  | ((with_reducible refine' r_catN ?hh ?hg ?hz ?_); (case hh => walk_at "hf"); (case hg => walk_at "hf"); (case hz => walk_at "nl"))
  | ((with_reducible refine' r_repN ?hh ?h2 ?h3 ?h4 ?_); (case hh => walk_at "hf"); (case h2 => walk_at "side"); (case h3 => walk_at "nl"); (case h4 => walk_at "side")))
local macro_rules | `(tactic| walk_at "st") => `(tactic| first
  | walk_at "sn"
  | ((with_reducible refine' r_var ?hh ?_); (case hh => rfl))
  | with_reducible refine r_c ?_
  | with_reducible refine r_op ?_
  | with_reducible refine r_i0 ?_
  | with_reducible refine r_cons ?_
  | with_reducible refine r_nil ?_
  | with_reducible refine r_seq ?_
  | with_reducible refine r_asg ?_
  | with_reducible refine r_gname ?_
  | with_reducible refine r_ret ?_
  | with_reducible refine r_ifS ?_
  | with_reducible refine r_test ?_
  | with_reducible refine r_tB ?_
  | with_reducible refine b_bl ?_
  | with_reducible refine i_t ?_
  | with_reducible refine i_f ?_
  | with_reducible refine i_nt ?_
  | with_reducible refine i_nf ?_
  | ((with_reducible refine' i_pos ?hh ?_); (case hh => walk_at "side"))
  | ((with_reducible refine' i_neg ?hh ?_); (case hh => walk_at "side"))
  | ((with_reducible refine' n_pos ?hh ?_); (case hh => walk_at "side"))
  | ((with_reducible refine' n_neg ?hh ?_); (case hh => walk_at "side"))
  | ((with_reducible refine' r_pow ?hh ?he ?_); (case hh => first | exact ⟨by decide, by decide, by decide⟩ | exact ⟨by decide, by decide, by omega⟩); (case he => first | ((simp only [Int.reduceToNat, Int.reducePow]); done) | ((simp only [Int.reduceToNat, Int.reducePow]); rfl) | rfl))
  | ((with_reducible refine' r_i ?hh ?_); (case hh => walk_at "side"))
  | with_reducible refine r_call0 ?_
  | with_reducible refine r_call ?_
  | with_reducible refine r_cb ?_
  | with_reducible refine r_int ?_
  | ((with_reducible refine' r_strI ?hh ?_); (case hh => walk_at "lg"))
  | with_reducible refine r_i1 ?_
  | with_reducible refine r_i2 ?_
  | with_reducible refine r_par ?_
  | with_reducible refine r_two ?_
  | with_reducible refine r_par3 ?_
  | with_reducible refine r_three ?_
  | with_reducible refine r_and ?_
  | with_reducible refine r_or ?_
  | with_reducible refine r_not ?_
  | with_reducible refine r_tif ?_
  | with_reducible refine r_andV ?_
  | with_reducible refine r_orV ?_
  | with_reducible refine r_notV ?_
  | with_reducible refine r_un ?_
  | with_reducible refine r_u ?_
  | with_reducible refine r_sb ?_
  | with_reducible refine r_drop ?_
  | with_reducible refine r_next ?_
  | with_reducible refine r_gsub ?_
  | ((with_reducible refine' r_ixL ?hh ?he ?_); (case hh => walk_at "sq"); (case he => rfl))
  | ((with_reducible refine' r_ixT ?hh ?he ?_); (case hh => walk_at "sqt"); (case he => rfl))
  | ((with_reducible refine' r_setL ?hh ?he ?_); (case hh => walk_at "hf"); (case he => rfl))
  | with_reducible refine r_gcons ?_
  | with_reducible refine r_gnil ?_
  | with_reducible refine r_sl ?_
  | with_reducible refine r_nopart ?_
  | with_reducible refine r_part ?_
  | with_reducible refine r_pint ?_
  | ((with_reducible refine' r_lenS ?hh ?_); (case hh => walk_at "sqo"))
  | ((with_reducible refine' r_gtup ?hh ?he ?_); (case hh => walk_at "sqt"); (case he => rfl))
  | ((with_reducible refine' r_slL ?hh ?_); (case hh => walk_at "sq"))
  | ((with_reducible refine' r_len ?hh ?_); (case hh => exact sz (by (try simp only [List.length_map]); (first | omega | decide | exact Nat.le_of_ble_eq_true rfl))))
  | with_reducible refine r_isi_ii ?_
  | with_reducible refine r_isi_ib ?_
  | with_reducible refine r_isi_ss ?_
  | ((with_reducible refine' r_isi_own ?hh ?hi ?hk ?_); (case hh => walk_at "hf"); (case hi => with_reducible assumption); (case hk => with_reducible assumption))
  | with_reducible refine r_lst ?_
  | with_reducible refine r_tup ?_
  | with_reducible refine r_make ?_
  | with_reducible refine r_forR1 ?_
  | with_reducible refine r_forL ?_
  | with_reducible refine r_forT ?_
  | with_reducible refine r_forR2 ?_
  | with_reducible refine r_ref1 ?_
  | with_reducible refine r_brk ?_
  | with_reducible refine r_cont ?_
  | with_reducible refine r_retN ?_
  | with_reducible refine r_rr ?_
  | with_reducible refine r_fmt ?_
  | ((with_reducible refine' r_fmti ?hh ?_); (case hh => walk_at "lg"))
  | with_reducible refine r_js ?_
  | with_reducible refine r_js0 ?_
  | ((with_reducible refine' r_jsp ?hh ?_); (case hh => walk_at "len"))
  | with_reducible refine r_m0 ?_
  | with_reducible refine r_m1 ?_
  | with_reducible refine r_str ?_
  | with_reducible refine r_ss ?_
  | with_reducible refine r_s0 ?_
  | ((with_reducible refine' r_addS ?hh ?_); (case hh => walk_at "len"))
  | ((with_reducible refine' r_slS ?hh ?_); (case hh => walk_at "len"))
  | ((with_reducible refine' r_lenT ?hh ?_); (case hh => walk_at "len"))
  | ((with_reducible refine' r_memI ?hh ?_); (case hh => with_reducible assumption))
  | with_reducible refine r_eqB ?_
  | ((with_reducible refine' r_inT ?hh ?hf ?he ?_); (case hh => walk_at "sqt"); (case hf => rfl); (case he => rfl))
  | ((with_reducible refine' r_inF ?hh ?hf ?he ?_); (case hh => walk_at "sqt"); (case hf => rfl); (case he => rfl))
  | ((with_reducible refine' r_makeL ?hh ?_); (case hh => rfl))
  | with_reducible refine r_tprop ?_
  | with_reducible refine r_tfld ?_
  | ((with_reducible refine' f_prop ?hh ?_); (case hh => walk_at "hf"))
  | ((with_reducible refine' f_fld ?hh ?hc ?hn ?hl ?_); (case hh => walk_at "hf"); (case hc => with_reducible assumption); (case hn => with_reducible assumption); (case hl => rfl))
  | with_reducible refine r_tcm ?_
  | with_reducible refine r_chain ?_
  | with_reducible refine r_chain3 ?_
  | with_reducible refine r_bl1 ?_
  | with_reducible refine r_intb ?_
  | with_reducible refine r_yes ?_
  | with_reducible refine r_makeK ?_
  | with_reducible refine r_sfld ?_
  | ((with_reducible refine' f_sfld ?hh ?hc ?hn ?hl ?_); (case hh => walk_at "hf"); (case hc => with_reducible assumption); (case hn => with_reducible assumption); (case hl => exact Nat.le_of_ble_eq_true rfl))
  | with_reducible refine r_lcL ?_
  | with_reducible refine r_lcS ?_
  | with_reducible refine r_lcT ?_
  | with_reducible refine r_lcR1 ?_
  | with_reducible refine r_lcR2 ?_
  | with_reducible refine r_tbm ?_
  | with_reducible refine r_tbm0 ?_
  | ((with_reducible refine' f_tyL ?hh ?_); (case hh => walk_at "hf"))
  | ((with_reducible refine' r_app ?hh ?he ?_); (case hh => walk_at "hf"); (case he => walk_at "side"))
  | with_reducible refine r_tRev ?_
  | with_reducible refine r_lstRg1 ?_
  | with_reducible refine r_lcRV ?_
  | with_reducible refine r_makeS ?_
  | with_reducible refine r_cmS ?_
  | with_reducible refine r_methS ?_
  | with_reducible refine r_tupRg1 ?_
  | with_reducible refine r_forRV ?_
  | with_reducible refine r_raiseE ?_
  | with_reducible refine r_callG ?_
  | ((with_reducible refine' r_xfV ?hh ?hf ?hl ?_); (case hh => rfl); (case hf => walk_at "hf"); (case hl => rfl)))
local macro_rules | `(tactic| walk_at "go") => `(tactic| (repeat walk_at "st"))
local macro_rules | `(tactic| walk_at "in") => `(tactic| dsimp only [cxOf, L2.start, List.map, List.length, List.replicate, Nat.reduceSub, Nat.reduceAdd, List.cons_append, List.nil_append, List.append_nil])
local macro_rules | `(tactic| walk_at "bt") => `(tactic| first
  | with_reducible assumption
  | exact But.rfl
  | exact Same.but (by with_reducible assumption)
  | (refine' But.put ?ha; (case ha => walk_at "bt"))
  | (refine' But.new ?ha ?hn; (case hn => with_reducible assumption); (case ha => walk_at "bt"))
  | (refine' But.trans ?ha ?hb; (case hb => with_reducible assumption); (case ha => walk_at "bt"))
  | (refine' But.trans ?ha (Same.but ?hb); (case hb => with_reducible assumption); (case ha => walk_at "bt")))
local macro_rules | `(tactic| walk_at "sm") => `(tactic| first
  | with_reducible assumption
  | exact Same.refl _
  | (refine' Same.new ?ha ?hn; (case hn => with_reducible assumption); (case ha => walk_at "sm"))
  | (refine' Same.trans ?ha ?hb; (case hb => with_reducible assumption); (case ha => walk_at "sm")))

section
variable {P : Program} {w : World} {K : PySem.W.Frag} {mg : Str → Option Value} {base : Heap}
def Odd (K : PySem.W.Frag) (H : Hp) (x : V) : Prop := NoInt K H x ∧ (∃ t, Rp K H x t) ∧ (x = .str "1" ∨ NoStr K H x)
theorem Odd.same {H H' : Hp} {x : V} (h : Odd K H x) (s : Same H H') : Odd K H' x := ⟨h.1.same s, let ⟨t, r⟩ := h.2.1; ⟨t, r.same s⟩, h.2.2.elim .inl fun z => .inr (z.same s)⟩
theorem odd_kd {H : Hp} {x : V} {T0 : String} {d : PyData} (k : Kd H x T0) (n : T0 ≠ "str") (h : DpT K H x d) (b : litB d = true) : Odd K H x := ⟨.inl ⟨T0, k⟩, ⟨_, rp_lit h b⟩, .inr (.inr (.inl ⟨T0, k, n⟩))⟩
theorem strOk_txtP (n d : Int) : PyData.strOk (txtP n d) = true := by
  unfold txtP
  exact strOk_cat (strOk_cat (strOk_cat (strOk_cat (by decide +kernel) (strOk_int n)) (by decide +kernel)) (strOk_int d)) (by decide +kernel)
theorem odd_rt {H : Hp} {a : Addr} {n d : Int} (r : Rt K H a n d) (hn : Sm n) (hd : Sm d) : Odd K H (.ref a) :=
  ⟨.inr ⟨a, n, d, rfl, r⟩, ⟨txtP n d, strOk_txtP n d, .inr ⟨a, n, d, rfl, r, hn, hd, rfl⟩⟩, .inr (.inr (.inr ⟨a, n, d, rfl, r⟩))⟩
theorem Rp.ok {H : Hp} {x : V} {t : Str} (h : Rp K H x t) : PyData.strOk t = true := h.1
def spRef : Sp := fun vs H Q _ => ∃ p, vs = [.ref p] ∧ Purse H p ∧ ∀ H', Purse H' p → But p H H' → Q (.bl true) H'
theorem go_ref {p : Addr} {H : Hp} {Q : VK} {E : XK} (hp : Purse H p) (k : ∀ H', Purse H' p → But p H H' → Q (.bl true) H') : spRef [.ref p] H Q E := ⟨p, rfl, hp, k⟩
theorem go_made1 {H : Hp} {u v : V} {t : Str} {Q : VK} {E : XK} (h : NoInt K H u) (r : Rp K H u t) (k : NewO H (.tup (tlV "number" t false)) Q) : spMade K [u, v] H Q E := ⟨u, v, t, rfl, .inl ⟨h, r⟩, k⟩
theorem go_made2 {H : Hp} {n : Int} {v : V} {t : Str} {Q : VK} {E : XK} (h : BadB K H v) (r : Rp K H v t) (k : NewO H (.tup (tlV "number" t false)) Q) : spMade K [.int n, v] H Q E := ⟨_, v, t, rfl, .inr ⟨n, rfl, h, r⟩, k⟩
theorem ok_number : PyData.strOk "number" = true := by decide +kernel
theorem ok_text : PyData.strOk "text" = true := by decide +kernel
theorem ok_law_refused (T : Tx K mg) : Gf P w K mg base CX0 8 (He.ga K "_law_refused") ["_law_purse_here"] [] spRef := by
  obtain ⟨fd, F⟩ := T.d_law_refused
  refine gf0 F (fnG F sc_law_refused (fun vs H Q E h => ?_) (fun cdv A outer s H vs Q E hr h => ?_)) (fun _ _ _ _ _ _ us hl => match us, hl with | [_], _ => rfl)
  · obtain ⟨p, rfl, _⟩ := h
    rfl
  obtain ⟨p, rfl, hp, k⟩ := h
  refine ⟨_, PSs.nox (pss_cons (ps_set (i := 1) sc_law_refused.nd rfl (Or.inl rfl) (pe_lstN (pa_cons pe_non (pa_cons pe_bl (pa_cons pe_bl (pa_cons pe_str (pa_cons (pe_tupN (pa_cons pe_int pa_nil)) (pa_cons (pe_lstN pa_nil) (pa_cons pe_dnewN (pa_cons (pe_mk T.mk_Ratio (ok_Ratio_1 T) T.g_Ratio hr (by decide) passL (pa_cons pe_int pa_nil)) (pa_cons (pe_lstN (pa_cons pe_int pa_nil)) (pa_cons (pe_tupN (pa_cons pe_str (pa_cons pe_int pa_nil))) pa_nil)))))))))))) (pss_cons (ps_par3 (i := 2) (j := 3) (l := 4) (by rfl) sc_law_refused.nd rfl rfl rfl (by decide) (by decide) (by decide) rfl rfl rfl (pa_cons (pe_ix (ix_listK (K := K) rfl) (pv 1) (pe_g (ok_law_draw T) T.g_law_draw hr (by decide) pass0 (pa_cons (pv 0) (pa_cons pe_int pa_nil))) (fun _ _ => rfl)) (pa_cons (pe_ix (ix_listK (K := K) rfl) (pv 1) (pe_g (ok_law_draw T) T.g_law_draw hr (by decide) pass0 (pa_cons (pv 0) (pa_cons pe_int pa_nil))) (fun _ _ => rfl)) (pa_cons (pe_g (ok_law_integer T) T.g_law_integer hr (by decide) pass0 (pa_cons (pv 0) pa_nil)) pa_nil))) (by rfl)) (pss_cons (ps_if (pt_cmpR (op_neDK (K := K) rfl hr.units) (pe_g (ok_law_made T) T.g_law_made hr (by decide) pass0 (pa_cons (pv 2) (pa_cons (pv 3) pa_nil))) (pe_tupN (pa_cons pe_str (pa_cons (pe_callB (call_reprA T hr (by decide)) (by rfl) T.f_repr (by decide +kernel) (pa_cons (pv 2) pa_nil)) (pa_cons pe_bl (pa_cons pe_bl pa_nil))))) (nomark _)) (pss_one (ps_ret pe_bl)) pss_nil) (pss_cons (ps_if (pt_cmpR (op_neDK (K := K) rfl hr.units) (pe_g (ok_law_made T) T.g_law_made hr (by decide) pass0 (pa_cons (pv 4) (pa_cons (pv 3) pa_nil))) (pe_tupN (pa_cons pe_str (pa_cons (pe_callB (call_reprA T hr (by decide)) (by rfl) T.f_repr (by decide +kernel) (pa_cons (pv 3) pa_nil)) (pa_cons pe_bl (pa_cons pe_bl pa_nil))))) (nomark _)) (pss_one (ps_ret pe_bl)) pss_nil) (pss_cons (ps_set (i := 5) sc_law_refused.nd rfl (Or.inl rfl) (pe_op op_sub pe_int (pe_callB call_abs (by rfl) T.f_abs (by decide +kernel) (pa_cons (pv 4) pa_nil)))) (pss_cons (ps_if (PW.pt (pw_or (pt_cmpR (op_neDK (K := K) rfl hr.units) (pe_g (ok_law_made T) T.g_law_made hr (by decide) pass0 (pa_cons (pv 4) (pa_cons (pv 5) pa_nil))) (pe_tupN (pa_cons pe_str (pa_cons (pe_callB (call_reprA T hr (by decide)) (by rfl) T.f_repr (by decide +kernel) (pa_cons (pv 5) pa_nil)) (pa_cons pe_bl (pa_cons pe_bl pa_nil))))) (nomark _)) (pw_or1 (pt_cmpR (op_neDK (K := K) rfl hr.units) (pe_g (ok_law_made T) T.g_law_made hr (by decide) pass0 (pa_cons (pv 2) (pa_cons (pv 5) pa_nil))) (pe_g (ok_law_made T) T.g_law_made hr (by decide) pass0 (pa_cons (pv 2) (pa_cons pe_int pa_nil))) (nomark _))))) (pss_one (ps_ret pe_bl)) pss_nil) (pss_cons (ps_set (i := 6) sc_law_refused.nd rfl (Or.inl rfl) (pe_ifExp (pt_val (pe_callB (call_isiK (K := K) rfl) (by rfl) T.f_isinstance (by decide +kernel) (pa_cons (pv 2) (pa_cons (pe_bltn (v := .ty "str") (by rfl) T.f_str (by decide +kernel) rfl) pa_nil)))) pe_non (pv 2))) (pss_one (ps_ret (pe_cmpR (op_eqDK (K := K) rfl hr.units) (pe_g (ok_law_read T) T.g_law_read hr (by decide) pass0 (pa_cons (pv 6) pa_nil)) (pe_g (ok_law_due_text T) T.g_law_due_text hr (by decide) pass0 (pa_cons (pv 6) pa_nil)) (nomark _))))))))))), ?_⟩
  walk_at "in"
  walk_at "go"
  intro a1 H1 m1 e1 s1
  walk_at "go"
  intro a2 H2 m2 e2 s2
  walk_at "go"
  intro a3 H3 m3 e3 s3
  walk_at "go"
  refine go_mk rfl (by decide) (Bd.of (by decide) (by decide)) fun a4 H4 m4 r4 s4 => ?_
  obtain ⟨dx, r4⟩ := r4
  walk_at "go"
  intro a5 H5 m5 e5 s5
  walk_at "go"
  intro a6 H6 m6 e6 s6
  walk_at "go"
  intro a7 H7 m7 e7 s7
  have f1 : H7 a1 = some (.tup [.int 1]) := s7 _ _ (s6 _ _ (s5 _ _ (s4 _ _ (s3 _ _ (s2 _ _ e1)))))
  have f2 : H7 a2 = some (.lst []) := s7 _ _ (s6 _ _ (s5 _ _ (s4 _ _ (s3 _ _ e2))))
  have f3 : H7 a3 = some (.dK []) := s7 _ _ (s6 _ _ (s5 _ _ (s4 _ _ e3)))
  have f4 := s7 _ _ (s6 _ _ (s5 _ _ r4))
  have f5 : H7 a5 = some (.lst [.int 1]) := s7 _ _ (s6 _ _ e5)
  have f6 : H7 a6 = some (.tup [.str "1", .int 2]) := s7 _ _ e6
  have q1 := hp.ne m1
  have q2 := (hp.same s1).ne m2
  have q3 := ((hp.same s1).same s2).ne m3
  have q4 := (((hp.same s1).same s2).same s3).ne m4
  have q5 := ((((hp.same s1).same s2).same s3).same s4).ne m5
  have q6 := (((((hp.same s1).same s2).same s3).same s4).same s5).ne m6
  have q7 := ((((((hp.same s1).same s2).same s3).same s4).same s5).same s6).ne m7
  have S7 : Same H H7 := (((((s1.trans s2).trans s3).trans s4).trans s5).trans s6).trans s7
  have hp7 := hp.same S7
  clear s1 s2 s3 s4 s5 s6 s7 r4 e1 e2 e3 e5 e6
  walk_at "go"
  refine go_draw hp7 (by decide) (by decide) fun y1 H8 y1a y1b hp8 b8 => ?_
  obtain ⟨u, hu, mu⟩ := pickV (xs := [.non, .bl true, .bl false, .str "1", .ref a1, .ref a2, .ref a3, .ref a4, .ref a5, .ref a6]) y1a y1b
  have e8 := b8.at q7 e7
  refine r_ixL (SqL.of e8) hu ?_
  walk_at "go"
  refine go_draw hp8 (by decide) (by decide) fun y2 H9 y2a y2b hp9 b9 => ?_
  obtain ⟨v, hv, mv⟩ := pickV (xs := [.non, .bl true, .bl false, .str "1", .ref a1, .ref a2, .ref a3, .ref a4, .ref a5, .ref a6]) y2a y2b
  have e9 := b9.at q7 e8
  refine r_ixL (SqL.of e9) hv ?_
  walk_at "go"
  refine go_integer hp9 fun i H10 i0 i1 hp10 b10 => ?_
  have bb : But p H7 H10 := (b8.trans b9).trans b10
  have g1 := bb.at q1 f1
  have g2 := bb.at q2 f2
  have g3 := bb.at q3 f3
  have g4 := bb.at q4 f4
  have g5 := bb.at q5 f5
  have g6 := bb.at q6 f6
  have odd : ∀ v ∈ ([.non, .bl true, .bl false, .str "1", .ref a1, .ref a2, .ref a3, .ref a4, .ref a5, .ref a6] : List V), Odd K H10 v := by
    intro v hv
    simp only [List.mem_cons, List.not_mem_nil, or_false] at hv
    rcases hv with rfl | rfl | rfl | rfl | rfl | rfl | rfl | rfl | rfl | rfl
    · exact odd_kd .non (by decide) (.pl .non rfl) (by decide +kernel)
    · exact odd_kd (.bl _) (by decide) (.pl (.bl _) rfl) (by decide +kernel)
    · exact odd_kd (.bl _) (by decide) (.pl (.bl _) rfl) (by decide +kernel)
    · exact ⟨.inl ⟨_, .str _⟩, ⟨_, rp_lit (.pl (.str _) rfl) (by decide +kernel)⟩, .inl rfl⟩
    · exact odd_kd (.tup g1) (by decide) (.pl (.tup (SqT.of g1) (.cons (.int _) .nil)) rfl) (by decide +kernel)
    · exact odd_kd (.lst g2) (by decide) (.pl (.lst (SqL.of g2) .nil) rfl) (by decide +kernel)
    · exact odd_kd (.dct g3) (by decide) (.dct (ps := []) g3) (by decide +kernel)
    · exact odd_rt ⟨dx, g4⟩ (Sm.quo (by show (2 : Nat) < 10 ^ 140; decide +kernel) _) (Sm.quo Sm.one _)
    · exact odd_kd (.lst g5) (by decide) (.pl (.lst (SqL.of g5) (.cons (.int _) .nil)) rfl) (by decide +kernel)
    · exact odd_kd (.tup g6) (by decide) (.pl (.tup (SqT.of g6) (.cons (.str _) (.cons (.int _) .nil))) rfl) (by decide +kernel)
  have ou := odd u mu
  have ov := odd v mv
  have bH : But p H H10 := (Same.but S7).trans bb
  have sp := (Sm.of60 (n := i) (by omega)).1
  have sl : Sm (0 - (i.natAbs : Int)) := (Sm.of60 (n := 0 - (i.natAbs : Int)) (by omega)).1
  clear odd mu mv hu hv g1 g2 g3 g4 g5 g6 f1 f2 f3 f4 f5 f6 e7 e8 e9 b8 b9 b10 bb S7 hp hp7 hp8 hp9 q1 q2 q3 q4 q5 q6 q7 m1 m2 m3 m4 m5 m6 m7
  obtain ⟨nu, ⟨tu, ru⟩, su⟩ := ou
  obtain ⟨nv, ⟨tv, rv⟩, _⟩ := ov
  walk_at "go"
  refine go_made1 nu ru ?_
  intro c1 H11 _ d1 s1
  walk_at "go"
  refine f_rp (ru.same s1) ?_
  walk_at "go"
  intro c2 H12 _ d2 s2
  walk_at "go"
  refine r_tlNe (s2 _ _ d1) d2 ok_number ru.1 ?_
  walk_at "go"
  have S2 : Same H10 H12 := s1.trans s2
  clear s1 s2 d1 d2
  refine go_made2 (.inl (nv.same S2)) (rv.same S2) ?_
  intro c3 H13 _ d3 s3
  walk_at "go"
  refine f_rp ((rv.same S2).same s3) ?_
  walk_at "go"
  intro c4 H14 _ d4 s4
  walk_at "go"
  refine r_tlNe (s4 _ _ d3) d4 ok_number rv.1 ?_
  have S4 : Same H10 H14 := (S2.trans s3).trans s4
  clear s3 s4 d3 d4 S2
  walk_at "go"
  rw [abs_nat]
  have rl : ∀ {H : Hp}, Rp K H (.int (0 - (i.natAbs : Int))) (S (intL (0 - (i.natAbs : Int)))) := fun {H} => rp_int sl
  refine go_made2 (.inr ⟨_, rfl, by omega⟩) rl ?_
  intro c5 H15 _ d5 s5
  walk_at "go"
  refine f_rp rl ?_
  walk_at "go"
  intro c6 H16 _ d6 s6
  walk_at "go"
  refine r_tlNe (s6 _ _ d5) d6 ok_number (strOk_int _) ?_
  have S6 : Same H10 H16 := (S4.trans s5).trans s6
  clear s5 s6 d5 d6 S4
  walk_at "go"
  refine go_made1 (nu.same S6) (ru.same S6) ?_
  intro c7 H17 _ d7 s7
  walk_at "go"
  refine go_made1 ((nu.same S6).same s7) ((ru.same S6).same s7) ?_
  intro c8 H18 _ d8 s8
  walk_at "go"
  refine r_tlNe (s8 _ _ d7) d8 ok_number ru.1 ?_
  have S8 : Same H10 H18 := (S6.trans s7).trans s8
  clear s7 s8 d7 d8 S6
  walk_at "go"
  rcases su with rfl | hs
  · refine r_isi_ss ?_
    have rn : Rp K H18 .non _ := rp_lit (.pl .non rfl) (by decide +kernel)
    walk_at "go"
    refine ⟨_, _, rfl, rn, .inr ⟨(.inr (.inl ⟨_, .non, by decide⟩)), ?_⟩⟩
    intro c9 H19 _ d9 s9
    walk_at "go"
    refine ⟨_, _, rfl, Rp.same rn s9, ?_⟩
    intro c10 H20 _ d10 s10
    refine r_tlEq (s10 _ _ d9) d10 ok_text (Rp.ok rn) ?_
    have S10 : Same H10 H20 := (S8.trans s9).trans s10
    exact k H20 (hp10.same S10) (bH.trans (Same.but S10))
  · refine r_isN T (hs.same S8) ?_
    have rn := ru.same S8
    walk_at "go"
    refine ⟨_, _, rfl, rn, .inr ⟨(hs.same S8), ?_⟩⟩
    intro c9 H19 _ d9 s9
    walk_at "go"
    refine ⟨_, _, rfl, Rp.same rn s9, ?_⟩
    intro c10 H20 _ d10 s10
    refine r_tlEq (s10 _ _ d9) d10 ok_text (Rp.ok rn) ?_
    have S10 : Same H10 H20 := (S8.trans s9).trans s10
    exact k H20 (hp10.same S10) (bH.trans (Same.but S10))
end

end Toy

set_option Elab.async false
set_option linter.all false
set_option maxRecDepth 100000
set_option maxHeartbeats 4000000
namespace Toy
open PySem PySem.Spec PyProof.Rows L2 My SX
local macro_rules | `(tactic| walk_at "ne") => `(tactic| first
  | with_reducible assumption
  | exact Ne.symm (by with_reducible assumption)
  | (refine' ne_of_none ?hx ?hy; (case hy => with_reducible assumption); (case hx => walk_at "hf"))
  | (refine' Ne.symm (ne_of_none ?hx ?hy); (case hy => with_reducible assumption); (case hx => walk_at "hf"))
  | (refine' Pu.ne ?hx ?hy; (case hy => with_reducible assumption); (case hx => walk_at "pu")))
local macro_rules | `(tactic| walk_at "pu") => `(tactic| first
  | with_reducible assumption
  | ((with_reducible refine' Pu.same ?hx ?hy); (case hy => with_reducible assumption); (case hx => walk_at "pu")))
local macro_rules | `(tactic| walk_at "hf") => `(tactic| first
  | with_reducible assumption
  | with_reducible exact upd_same
  | ((with_reducible refine' Same.at ?hs ?hr); (case hs => with_reducible assumption); (case hr => walk_at "hf"))
  | ((with_reducible refine' at_or ?hr ?hn); (case hr => walk_at "hf"); (case hn => first | exact Or.inl (by with_reducible assumption) | exact Or.inr (by walk_at "ne")))
  | ((with_reducible refine' But.at ?hb ?hn ?hr); (case hb => with_reducible assumption); (case hr => walk_at "hf"); (case hn => walk_at "ne")))
local macro_rules | `(tactic| walk_at "sq") => `(tactic| first
  | with_reducible assumption
  | ((with_reducible refine' SqL.of ?hql); (case hql => walk_at "hf"))
  | ((with_reducible refine' Same.seq ?hx ?hy); (case hx => with_reducible assumption); (case hy => walk_at "sq")))
local macro_rules | `(tactic| walk_at "sqo") => `(tactic| first
  | ((with_reducible refine' Or.inl ?hol); (case hol => with_reducible assumption))
  | ((with_reducible refine' Or.inr ?hor); (case hor => with_reducible assumption))
  | ((with_reducible refine' Or.inl (SqL.of ?hol)); (case hol => walk_at "hf"))
  | ((with_reducible refine' Or.inr (SqT.of ?hor)); (case hor => walk_at "hf"))
  | ((with_reducible refine' Or.inl ?hol); (case hol => walk_at "sq"))
  | ((with_reducible refine' Or.inr ?hor); (case hor => walk_at "sqt")))
local macro_rules | `(tactic| walk_at "sqt") => `(tactic| first
  | with_reducible assumption
  | ((with_reducible refine' SqT.of ?hqt); (case hqt => walk_at "hf"))
  | ((with_reducible refine' tupS ?hx ?hy); (case hy => with_reducible assumption); (case hx => walk_at "sqt")))
local macro_rules | `(tactic| walk_at "lg") => `(tactic| first
  | with_reducible assumption
  | exact Bd.lg (by with_reducible assumption) (by decide) (by decide)
  | exact Bd.lg (Bd.of (b := 100) (by omega) (by omega)) (by decide) (by decide))
local macro_rules | `(tactic| walk_at "len") => `(tactic| first
  | with_reducible assumption
  | ((simp only [txt_int, lcat, S_len, List.length_append, List.length_cons, List.length_nil]); omega)
  | (apply of_decide_eq_true; rfl))
local macro_rules | `(tactic| walk_at "side") => `(tactic| first
  | with_reducible assumption
  | omega
  | exact ml (by omega) (by omega)
  | exact mr (by omega) (by omega)
  | exact dv (by omega) (by omega)
  | exact Bd.mulOk (by with_reducible assumption) (by with_reducible assumption) (by decide) (by decide) (by decide)
  | exact Bd.div (by with_reducible assumption) (by omega) (by decide) (by decide)
  | (show (0 : Int) < _; omega)
  | decide
  | exact ni_non
  | exact rfl
  | ((simp only [List.length_cons, List.length_nil, List.length_map]); omega))
local macro_rules | `(tactic| walk_at "nl") => `(tactic| first
  | ((simp only [List.length_cons, List.length_nil, List.length_map, List.length_append]); omega)
  | omega
  | decide
  | exact Nat.le_of_ble_eq_true rfl)
local macro_rules | `(tactic| walk_at "sn") => `(tactic| first
  | with_reducible refine r_tupN ?_
  | with_reducible refine r_lstN ?_
  | with_reducible refine r_dnewN ?_
  | ((with_reducible refine' r_listN ?hh ?_); (case hh => walk_at "sqo"))
  | ((with_reducible refine' r_tupleN ?hh ?_); (case hh => walk_at "sq"))
  | ((with_reducible refine' r_slLN ?hh ?_); (case hh => walk_at "sq"))
  | ((with_reducible refine' r_catN ?hh ?hg ?hz ?_); (case hh => walk_at "hf"); (case hg => walk_at "hf"); (case hz => walk_at "nl"))
  | ((with_reducible refine' r_repN ?hh ?h2 ?h3 ?h4 ?_); (case hh => walk_at "hf"); (case h2 => walk_at "side"); (case h3 => walk_at "nl"); (case h4 => walk_at "side")))
local macro_rules | `(tactic| walk_at "st") => `(tactic| first
  | walk_at "sn"
  | ((with_reducible refine' r_var ?hh ?_); (case hh => rfl))
  | with_reducible refine r_c ?_
  | with_reducible refine r_op ?_
  | with_reducible refine r_i0 ?_
  | with_reducible refine r_cons ?_
  | with_reducible refine r_nil ?_
  | with_reducible refine r_seq ?_
  | with_reducible refine r_asg ?_
  | with_reducible refine r_gname ?_
  | with_reducible refine r_ret ?_
  | with_reducible refine r_ifS ?_
  | with_reducible refine r_test ?_
  | with_reducible refine r_tB ?_
  | with_reducible refine b_bl ?_
  | with_reducible refine i_t ?_
  | with_reducible refine i_f ?_
  | with_reducible refine i_nt ?_
  | with_reducible refine i_nf ?_
  | ((with_reducible refine' i_pos ?hh ?_); (case hh => walk_at "side"))
  | ((with_reducible refine' i_neg ?hh ?_); (case hh => walk_at "side"))
  | ((with_reducible refine' n_pos ?hh ?_); (case hh => walk_at "side"))
  | ((with_reducible refine' n_neg ?hh ?_); (case hh => walk_at "side"))
  | ((with_reducible refine' r_pow ?hh ?he ?_); (case hh => first | exact ⟨by decide, by decide, by decide⟩ | exact ⟨by decide, by decide, by omega⟩); (case he => first | ((simp only [Int.reduceToNat, Int.reducePow]); done) | ((simp only [Int.reduceToNat, Int.reducePow]); rfl) | rfl))
  | ((with_reducible refine' r_i ?hh ?_); (case hh => walk_at "side"))
  | with_reducible refine r_call0 ?_
  | with_reducible refine r_call ?_
  | with_reducible refine r_cb ?_
  | with_reducible refine r_int ?_
  | ((with_reducible refine' r_strI ?hh ?_); (case hh => walk_at "lg"))
  | with_reducible refine r_i1 ?_
  | with_reducible refine r_i2 ?_
  | with_reducible refine r_par ?_
  | with_reducible refine r_two ?_
  | with_reducible refine r_par3 ?_
  | with_reducible refine r_three ?_
  | with_reducible refine r_and ?_
  | with_reducible refine r_or ?_
  | with_reducible refine r_not ?_
  | with_reducible refine r_tif ?_
  | with_reducible refine r_andV ?_
  | with_reducible refine r_orV ?_
  | with_reducible refine r_notV ?_
  | with_reducible refine r_un ?_
  | with_reducible refine r_u ?_
  | with_reducible refine r_sb ?_
  | with_reducible refine r_drop ?_
  | with_reducible refine r_next ?_
  | with_reducible refine r_gsub ?_
  | ((with_reducible refine' r_ixL ?hh ?he ?_); (case hh => walk_at "sq"); (case he => rfl))
  | ((with_reducible refine' r_ixT ?hh ?he ?_); (case hh => walk_at "sqt"); (case he => rfl))
  | ((with_reducible refine' r_setL ?hh ?he ?_); (case hh => walk_at "hf"); (case he => rfl))
  | with_reducible refine r_gcons ?_
  | with_reducible refine r_gnil ?_
  | with_reducible refine r_sl ?_
  | with_reducible refine r_nopart ?_
  | with_reducible refine r_part ?_
  | with_reducible refine r_pint ?_
  | ((with_reducible refine' r_lenS ?hh ?_); (case hh => walk_at "sqo"))
  | ((with_reducible refine' r_gtup ?hh ?he ?_); (case hh => walk_at "sqt"); (case he => rfl))
  | ((with_reducible refine' r_slL ?hh ?_); (case hh => walk_at "sq"))
  | ((with_reducible refine' r_len ?hh ?_); (case hh => exact sz (by (try simp only [List.length_map]); (first | omega | decide | exact Nat.le_of_ble_eq_true rfl))))
  | with_reducible refine r_isi_ii ?_
  | with_reducible refine r_isi_ib ?_
  | with_reducible refine r_isi_ss ?_
  | ((with_reducible refine' r_isi_own ?hh ?hi ?hk ?_); (case hh => walk_at "hf"); (case hi => with_reducible assumption); (case hk => with_reducible assumption))
  | with_reducible refine r_lst ?_
  | with_reducible refine r_tup ?_
  | with_reducible refine r_make ?_
  | with_reducible refine r_forR1 ?_
  | with_reducible refine r_forL ?_
  | with_reducible refine r_forT ?_
  | with_reducible refine r_forR2 ?_
  | with_reducible refine r_ref1 ?_
  | with_reducible refine r_brk ?_
  | with_reducible refine r_cont ?_
  | with_reducible refine r_retN ?_
  | with_reducible refine r_rr ?_
  | with_reducible refine r_fmt ?_
  | ((with_reducible refine' r_fmti ?hh ?_); (case hh => walk_at "lg"))
  | with_reducible refine r_js ?_
  | with_reducible refine r_js0 ?_
  | ((with_reducible refine' r_jsp ?hh ?_); (case hh => walk_at "len"))
  | with_reducible refine r_m0 ?_
  | with_reducible refine r_m1 ?_
  | with_reducible refine r_str ?_
  | with_reducible refine r_ss ?_
  | with_reducible refine r_s0 ?_
  | ((with_reducible refine' r_addS ?hh ?_); (case hh => walk_at "len"))
  | ((with_reducible refine' r_slS ?hh ?_); (case hh => walk_at "len"))
  | ((with_reducible refine' r_lenT ?hh ?_); (case hh => walk_at "len"))
  | ((with_reducible refine' r_memI ?hh ?_); (case hh => with_reducible assumption))
  | with_reducible refine r_eqB ?_
  | ((with_reducible refine' r_inT ?hh ?hf ?he ?_); (case hh => walk_at "sqt"); (case hf => rfl); (case he => rfl))
  | ((with_reducible refine' r_inF ?hh ?hf ?he ?_); (case hh => walk_at "sqt"); (case hf => rfl); (case he => rfl))
  | ((with_reducible refine' r_makeL ?hh ?_); (case hh => rfl))
  | with_reducible refine r_tprop ?_
  | with_reducible refine r_tfld ?_
  | ((with_reducible refine' f_prop ?hh ?_); (case hh => walk_at "hf"))
  | ((with_reducible refine' f_fld ?hh ?hc ?hn ?hl ?_); (case hh => walk_at "hf"); (case hc => with_reducible assumption); (case hn => with_reducible assumption); (case hl => rfl))
  | with_reducible refine r_tcm ?_
  | with_reducible refine r_chain ?_
  | with_reducible refine r_chain3 ?_
  | with_reducible refine r_bl1 ?_
  | with_reducible refine r_intb ?_
  | with_reducible refine r_yes ?_
  | with_reducible refine r_makeK ?_
  | with_reducible refine r_sfld ?_
  | ((with_reducible refine' f_sfld ?hh ?hc ?hn ?hl ?_); (case hh => walk_at "hf"); (case hc => with_reducible assumption); (case hn => with_reducible assumption); (case hl => exact Nat.le_of_ble_eq_true rfl))
  | with_reducible refine r_lcL ?_
  | with_reducible refine r_lcS ?_
  | with_reducible refine r_lcT ?_
  | with_reducible refine r_lcR1 ?_
  | with_reducible refine r_lcR2 ?_
  | with_reducible refine r_tbm ?_
  | with_reducible refine r_tbm0 ?_
  | ((with_reducible refine' f_tyL ?hh ?_); (case hh => walk_at "hf"))
  | ((with_reducible refine' r_app ?hh ?he ?_); (case hh => walk_at "hf"); (case he => walk_at "side"))
  | with_reducible refine r_tRev ?_
  | with_reducible refine r_lstRg1 ?_
  | with_reducible refine r_lcRV ?_
  | with_reducible refine r_makeS ?_
  | with_reducible refine r_cmS ?_
  | with_reducible refine r_methS ?_
  | with_reducible refine r_tupRg1 ?_
  | with_reducible refine r_forRV ?_
  | with_reducible refine r_raiseE ?_
  | with_reducible refine r_callG ?_
  | ((with_reducible refine' r_xfV ?hh ?hf ?hl ?_); (case hh => rfl); (case hf => walk_at "hf"); (case hl => rfl)))
local macro_rules | `(tactic| walk_at "go") => `(tactic| (repeat walk_at "st"))
local macro_rules | `(tactic| walk_at "in") => `(tactic| dsimp only [cxOf, L2.start, List.map, List.length, List.replicate, Nat.reduceSub, Nat.reduceAdd, List.cons_append, List.nil_append, List.append_nil])
local macro_rules | `(tactic| walk_at "bt") => `(tactic| first
  | with_reducible assumption
  | exact But.rfl
  | exact Same.but (by with_reducible assumption)
  | (refine' But.put ?ha; (case ha => walk_at "bt"))
  | (refine' But.new ?ha ?hn; (case hn => with_reducible assumption); (case ha => walk_at "bt"))
  | (refine' But.trans ?ha ?hb; (case hb => with_reducible assumption); (case ha => walk_at "bt"))
  | (refine' But.trans ?ha (Same.but ?hb); (case hb => with_reducible assumption); (case ha => walk_at "bt")))
local macro_rules | `(tactic| walk_at "sm") => `(tactic| first
  | with_reducible assumption
  | exact Same.refl _
  | (refine' Same.new ?ha ?hn; (case hn => with_reducible assumption); (case ha => walk_at "sm"))
  | (refine' Same.trans ?ha ?hb; (case hb => with_reducible assumption); (case ha => walk_at "sm")))

section
variable {P : Program} {w : World} {K : PySem.W.Frag} {mg : Str → Option Value} {base : Heap}
theorem share_eq {n b : Int} (hb : 0 < b) : decide (0 ≤ n / (Int.gcd n b : Int) ∧ n / (Int.gcd n b : Int) < b / (Int.gcd n b : Int) ∧ b / (Int.gcd n b : Int) ≤ 1000000000) = (decide (0 ≤ n) && decide (n < b) && decide (b / (Int.gcd n b : Int) ≤ 1000000000)) := by
  have g0 : 0 < ((Int.gcd n b : Nat) : Int) := gcd_pos n hb
  have d1 : ((Int.gcd n b : Nat) : Int) ∣ n := Int.gcd_dvd_left ..
  have d2 : ((Int.gcd n b : Nat) : Int) ∣ b := Int.gcd_dvd_right ..
  generalize ((Int.gcd n b : Nat) : Int) = g at *
  obtain ⟨x, rfl⟩ := d1
  obtain ⟨y, rfl⟩ := d2
  rw [Int.mul_ediv_cancel_left x (by omega), Int.mul_ediv_cancel_left y (by omega)]
  rw [← Bool.decide_and, ← Bool.decide_and]
  refine decide_eq_decide.mpr ⟨fun ⟨h1, h2, h3⟩ => ⟨⟨Int.mul_nonneg (by omega) h1, Int.mul_lt_mul_of_pos_left h2 g0⟩, h3⟩, fun ⟨⟨h1, h2⟩, h3⟩ => ⟨?_, Int.lt_of_mul_lt_mul_left h2 (by omega), h3⟩⟩
  exact Int.nonneg_of_mul_nonneg_right h1 g0
theorem go_div {H : Hp} {a b : Int} {Q : VK} {E : XK} (h : 0 < b) (k : Q (.int (Int.gcd a b)) H) : spDiv [.int a, .int b] H Q E := ⟨a, b, rfl, h, k⟩
theorem go_share {H : Hp} {a : Addr} {n d : Int} {Q : VK} {E : XK} (r : Rt K H a n d) (k : Q (.bl (decide (0 ≤ n ∧ n < d ∧ d ≤ 1000000000))) H) : spShare K [.ref a] H Q E := ⟨_, rfl, .inl ⟨a, n, d, rfl, r, k⟩⟩
theorem go_noShare {H : Hp} {v : V} {Q : VK} {E : XK} (h : (∃ i, v = .int i) ∨ ∃ T, Kd H v T) (k : Q (.bl false) H) : spShare K [v] H Q E := ⟨_, rfl, .inr ⟨h, k⟩⟩
theorem ok_law_shares (T : Tx K mg) : Gf P w K mg base CX0 5 (He.ga K "_law_shares") ["_law_purse_here"] [] spRef := by
  obtain ⟨fd, F⟩ := T.d_law_shares
  refine gf0 F (fnG F sc_law_shares (fun vs H Q E h => ?_) (fun cdv A outer s H vs Q E hr h => ?_)) (fun _ _ _ _ _ _ us hl => match us, hl with | [_], _ => rfl)
  · obtain ⟨p, rfl, _⟩ := h
    rfl
  obtain ⟨p, rfl, hp, k⟩ := h
  refine ⟨_, PSs.nox (pss_cons (ps_set (i := 1) sc_law_shares.nd rfl (Or.inl rfl) (pe_ix (ix_listK (K := K) rfl) (pe_lstN (pa_cons (pe_op op_add pe_int (pe_callB call_abs (by rfl) T.f_abs (by decide +kernel) (pa_cons (pe_g (ok_law_integer T) T.g_law_integer hr (by decide) pass0 (pa_cons (pv 0) pa_nil)) pa_nil))) (pa_cons (pe_op op_pow pe_int pe_int) (pa_cons (pe_op op_add (pe_op op_pow pe_int pe_int) pe_int) (pa_cons (pe_op op_sub (pe_op op_pow pe_int pe_int) pe_int) pa_nil))))) (pe_g (ok_law_draw T) T.g_law_draw hr (by decide) pass0 (pa_cons (pv 0) (pa_cons pe_int pa_nil))) (fun _ _ => rfl))) (pss_cons (ps_set (i := 2) sc_law_shares.nd rfl (Or.inl rfl) (pe_lstN (pa_cons pe_int (pa_cons pe_int (pa_cons (pe_op op_sub (pv 1) pe_int) (pa_cons (pv 1) (pa_cons (pe_op op_add (pv 1) pe_int) (pa_cons (pe_un un_neg pe_int) (pa_cons (pe_g (ok_law_integer T) T.g_law_integer hr (by decide) pass0 (pa_cons (pv 0) pa_nil)) pa_nil))))))))) (pss_cons (ps_for PassesOwn.never rfl (pi_listK (K := K) rfl (pv 2)) (pg_name (i := 3) sc_law_shares.nd rfl (Or.inl rfl)) (pss_cons (ps_set (i := 4) sc_law_shares.nd rfl (Or.inl rfl) (pe_mk T.mk_Ratio (ok_Ratio_2 T) T.g_Ratio hr (by decide) passL (pa_cons (pv 3) (pa_cons (pv 1) pa_nil)))) (pss_cons (ps_set (i := 5) sc_law_shares.nd rfl (Or.inl rfl) (pe_op op_fdivW (pv 1) (pe_g (ok_law_divisor T) T.g_law_divisor hr (by decide) pass0 (pa_cons (pv 3) (pa_cons (pv 1) pa_nil))))) (pss_one (ps_if (pt_cmpR op_neS (pe_callB call_reprBl (by rfl) T.f_repr (by decide +kernel) (pa_cons (pe_g (ok_is_share T) T.g_is_share hr (by decide) pass0 (pa_cons (pv 4) pa_nil)) pa_nil)) (pe_callB call_reprBl (by rfl) T.f_repr (by decide +kernel) (pa_cons (pe_and (pe_chain op_le op_lt pe_int (pv 3) (pv 1)) (pe_one (pe_cmpR op_le (pv 5) (pe_op op_pow pe_int pe_int) (nomark _)))) pa_nil)) (nomark _)) (pss_one (ps_ret pe_bl)) pss_nil))))) (pss_cons (ps_set (i := 6) sc_law_shares.nd rfl (Or.inl rfl) (pe_lstN (pa_cons pe_int (pa_cons pe_int (pa_cons pe_non (pa_cons pe_bl (pa_cons pe_bl (pa_cons pe_str (pa_cons pe_str (pa_cons (pe_tupN (pa_cons pe_int (pa_cons pe_int pa_nil))) (pa_cons (pe_lstN pa_nil) (pa_cons (pe_ix (ix_listK (K := K) rfl) (pv 2) pe_int (fun _ _ => rfl)) pa_nil)))))))))))) (pss_one (ps_ret (pe_cmpR (op_eqDK (K := K) rfl hr.units) (pe_lc (own := [("_law_thing", 7)]) rfl sc_law_shares.nd (pi_listK (K := K) rfl (pv 6)) (blkOk_by (N := ["_law_purse_here", "_law_bottom", "_law_some", "_law_top", "_law_one", "_law_under", "_law_things", "_law_thing"]) (sc := defScope s_law_shares) (by decide +kernel)) (fun _ _ _ _ _ => (pg_name (i := 7) sc_law_shares.nd rfl (Or.inl rfl))) (fun _ _ _ _ _ => pts_one (pt_cmpR op_notBl (pe_g (ok_is_share T) T.g_is_share hr (by decide) pass0 (pa_cons (pv 7) pa_nil)) pe_bl (nomark _))) (fun _ _ _ _ _ => (pv 7))) (pe_lstN pa_nil) (nomark _)))))))), ?_⟩
  walk_at "in"
  walk_at "go"
  refine go_integer hp fun a H1 a0 a1 hp1 b1 => ?_
  walk_at "go"
  intro l1 H2 m2 e2 s2
  rw [abs_nat] at e2
  walk_at "go"
  have hp2 := hp1.same s2
  refine go_draw hp2 (by decide) (by decide) fun y1 H3 y1a y1b hp3 b3 => ?_
  obtain ⟨b, hb, mb⟩ := pickI [1 + (a.natAbs : Int), 1000000000, 1000000001, 999999999] y1a y1b
  have b0 : 1 ≤ b ∧ b ≤ 10 ^ 60 := by
    simp only [List.mem_cons, List.not_mem_nil, or_false] at mb
    rcases mb with rfl | rfl | rfl | rfl <;> omega
  have q2 := hp1.ne m2
  refine r_ixL (SqL.of (b3.at q2 e2)) hb ?_
  walk_at "go"
  refine go_integer hp3 fun i H4 i0 i1 hp4 b4 => ?_
  walk_at "go"
  intro l2 H5 m5 e5 s5
  have bH : But p H H5 := (((b1.trans (Same.but s2)).trans b3).trans b4).trans (Same.but s5)
  have hp5 := hp4.same s5
  clear e2 m2 s2 b1 b3 b4 s5 hp hp1 hp2 hp3 hp4
  walk_at "go"
  have bb : Bd 8000 b := ((Sm.of60 (n := b) (by omega)).1).bd.mono (by decide)
  refine ⟨⟨_, SqL.of e5⟩, lp_list (xs := [0, 1, b - 1, b, b + 1, -1, i].map V.int) (fun j σ H' => ∃ v3 v4 v5, σ = [some (.ref p), some (.int b), some (.ref l2), v3, v4, v5, none, none] ∧ Same H5 H') ⟨none, none, none, rfl, Same.refl _⟩ (fun j σ H' _ ⟨_, _, _, _, q⟩ => SqL.of (q _ _ e5)) ?_ ?_⟩
  · rintro j y σ H6 hj ⟨v3, v4, v5, rfl, s6⟩
    rw [List.getElem?_map] at hj
    cases hz : ([0, 1, b - 1, b, b + 1, -1, i] : List Int)[j]? with
    | none => rw [hz] at hj; cases hj
    | some t =>
      rw [hz] at hj
      obtain rfl : V.int t = y := Option.some.inj hj
      walk_at "go"
      refine go_mk rfl (by omega) bb fun x H7 _ r7 s7 => ?_
      walk_at "go"
      refine go_div (by omega) ?_
      have g0 := gcd_pos t (show 0 < b by omega)
      have gd : Bd 8000 ((Int.gcd t b : Nat) : Int) := gcd_bd t (by omega) bb
      walk_at "go"
      refine go_share r7 ?_
      rw [share_eq (by omega)]
      walk_at "go"
      by_cases h1 : 0 ≤ t
      · rw [decide_eq_true h1]
        walk_at "go"
        by_cases h2 : t < b
        · rw [decide_eq_true h2]
          walk_at "go"
          exact ⟨_, _, _, rfl, s6.trans s7⟩
        · rw [decide_eq_false h2]
          walk_at "go"
          exact ⟨_, _, _, rfl, s6.trans s7⟩
      · rw [decide_eq_false h1]
        walk_at "go"
        exact ⟨_, _, _, rfl, s6.trans s7⟩
  · rintro σ H6 ⟨v3, v4, v5, rfl, s6⟩
    have hp6 := hp5.same s6
    have e6 := s6 _ _ e5
    walk_at "go"
    intro c1 H7 _ d1 s7
    walk_at "go"
    intro c2 H8 _ d2 s8
    walk_at "go"
    intro l3 H9 _ e9 s9
    have S9 : Same H6 H9 := (s7.trans s8).trans s9
    have kd : ∀ v ∈ ([.int 0, .int 1, .non, .bl true, .bl false, .str "0", .str "1/2", .ref c1, .ref c2, .int i] : List V), (∃ i, v = .int i) ∨ ∃ T, Kd H9 v T := by
      intro v hv
      simp only [List.mem_cons, List.not_mem_nil, or_false] at hv
      rcases hv with rfl | rfl | rfl | rfl | rfl | rfl | rfl | rfl | rfl | rfl
      · exact .inl ⟨_, rfl⟩
      · exact .inl ⟨_, rfl⟩
      · exact .inr ⟨_, .non⟩
      · exact .inr ⟨_, .bl _⟩
      · exact .inr ⟨_, .bl _⟩
      · exact .inr ⟨_, .str _⟩
      · exact .inr ⟨_, .str _⟩
      · exact .inr ⟨_, .tup (s9 _ _ (s8 _ _ d1))⟩
      · exact .inr ⟨_, .lst (s9 _ _ d2)⟩
      · exact .inl ⟨_, rfl⟩
    clear s7 s8 s9 d1 d2
    walk_at "go"
    refine ⟨⟨_, SqL.of e9⟩, lc_listG (SqL.of e9) (fun i acc _ => acc = []) (fun i acc _ h => by rw [h]; exact Nat.zero_le _) (fun _ _ _ _ _ _ _ _ h => h) (fun _ _ => rfl) ?_ ?_⟩
    · intro j x acc H10 X Y hj s10 hp' hX hY
      have kx := kd x (List.mem_of_getElem? hj)
      walk_at "go"
      refine ⟨rfl, ?_⟩
      walk_at "go"
      refine go_noShare (kx.elim .inl fun ⟨T0, z⟩ => .inr ⟨T0, Kd.same z s10⟩) ?_
      walk_at "go"
      refine ⟨false, false, rfl, rfl, ?_⟩
      walk_at "go"
      exact hY _ (Same.refl _) hp'
    · rintro D acc H10 hD hD1 s10 rfl
      walk_at "go"
      intro m H11 _ e11 s11
      refine r_eqIt [] (SqL.of (s11 _ _ hD1)) (SqL.of e11) rfl rfl ?_
      have S11 : Same H6 H11 := (S9.trans s10).trans s11
      exact k H11 (hp6.same S11) (bH.trans (Same.but (s6.trans S11)))
end

end Toy

set_option Elab.async false
set_option linter.all false
set_option maxRecDepth 100000
set_option maxHeartbeats 4000000
namespace Toy
open PySem PySem.Spec PyProof.Rows L2 My SX
local macro_rules | `(tactic| walk_at "ne") => `(tactic| first
  | with_reducible assumption
  | exact Ne.symm (by with_reducible assumption)
  | (refine' ne_of_none ?hx ?hy; (case hy => with_reducible assumption); (case hx => walk_at "hf"))
  | (refine' Ne.symm (ne_of_none ?hx ?hy); (case hy => with_reducible assumption); (case hx => walk_at "hf"))
  | (refine' Pu.ne ?hx ?hy; (case hy => with_reducible assumption); (case hx => walk_at "pu")))
local macro_rules | `(tactic| walk_at "pu") => `(tactic| first
  | with_reducible assumption
  | ((with_reducible refine' Pu.same ?hx ?hy); (case hy => with_reducible assumption); (case hx => walk_at "pu")))
local macro_rules | `(tactic| walk_at "hf") => `(tactic| first
  | with_reducible assumption
  | with_reducible exact upd_same
  | ((with_reducible refine' Same.at ?hs ?hr); (case hs => with_reducible assumption); (case hr => walk_at "hf"))
  | ((with_reducible refine' at_or ?hr ?hn); (case hr => walk_at "hf"); (case hn => first | exact Or.inl (by with_reducible assumption) | exact Or.inr (by walk_at "ne")))
  | ((with_reducible refine' But.at ?hb ?hn ?hr); (case hb => with_reducible assumption); (case hr => walk_at "hf"); (case hn => walk_at "ne")))
local macro_rules | `(tactic| walk_at "sq") => `(tactic| first
  | with_reducible assumption
  | ((with_reducible refine' SqL.of ?hql); (case hql => walk_at "hf"))
  | ((with_reducible refine' Same.seq ?hx ?hy); (case hx => with_reducible assumption); (case hy => walk_at "sq")))
local macro_rules | `(tactic| walk_at "sqo") => `(tactic| first
  | ((with_reducible refine' Or.inl ?hol); (case hol => with_reducible assumption))
  | ((with_reducible refine' Or.inr ?hor); (case hor => with_reducible assumption))
  | ((with_reducible refine' Or.inl (SqL.of ?hol)); (case hol => walk_at "hf"))
  | ((with_reducible refine' Or.inr (SqT.of ?hor)); (case hor => walk_at "hf"))
  | ((with_reducible refine' Or.inl ?hol); (case hol => walk_at "sq"))
  | ((with_reducible refine' Or.inr ?hor); (case hor => walk_at "sqt")))
local macro_rules | `(tactic| walk_at "sqt") => `(tactic| first
  | with_reducible assumption
  | ((with_reducible refine' SqT.of ?hqt); (case hqt => walk_at "hf"))
  | ((with_reducible refine' tupS ?hx ?hy); (case hy => with_reducible assumption); (case hx => walk_at "sqt")))
local macro_rules | `(tactic| walk_at "lg") => `(tactic| first
  | with_reducible assumption
  | exact Bd.lg (by with_reducible assumption) (by decide) (by decide)
  | exact Bd.lg (Bd.of (b := 100) (by omega) (by omega)) (by decide) (by decide))
local macro_rules | `(tactic| walk_at "len") => `(tactic| first
  | with_reducible assumption
  | ((simp only [txt_int, lcat, S_len, List.length_append, List.length_cons, List.length_nil]); omega)
  | (apply of_decide_eq_true; rfl))
local macro_rules | `(tactic| walk_at "side") => `(tactic| first
  | with_reducible assumption
  | omega
  | exact ml (by omega) (by omega)
  | exact mr (by omega) (by omega)
  | exact dv (by omega) (by omega)
  | exact Bd.mulOk (by with_reducible assumption) (by with_reducible assumption) (by decide) (by decide) (by decide)
  | exact Bd.div (by with_reducible assumption) (by omega) (by decide) (by decide)
  | (show (0 : Int) < _; omega)
  | decide
  | exact ni_non
  | exact rfl
  | ((simp only [List.length_cons, List.length_nil, List.length_map]); omega))
local macro_rules | `(tactic| walk_at "nl") => `(tactic| first
  | ((simp only [List.length_cons, List.length_nil, List.length_map, List.length_append]); omega)
  | omega
  | decide
  | exact Nat.le_of_ble_eq_true rfl)
local macro_rules | `(tactic| walk_at "sn") => `(tactic| first
  | with_reducible refine r_tupN ?_
  | with_reducible refine r_lstN ?_
  | with_reducible refine r_dnewN ?_
  | ((with_reducible refine' r_listN ?hh ?_); (case hh => walk_at "sqo"))
  | ((with_reducible refine' r_tupleN ?hh ?_); (case hh => walk_at "sq"))
  | ((with_reducible refine' r_slLN ?hh ?_); (case hh => walk_at "sq"))
  | ((with_reducible refine' r_catN ?hh ?hg ?hz ?_); (case hh => walk_at "hf"); (case hg => walk_at "hf"); (case hz => walk_at "nl"))
  | ((with_reducible refine' r_repN ?hh ?h2 ?h3 ?h4 ?_); (case hh => walk_at "hf"); (case h2 => walk_at "side"); (case h3 => walk_at "nl"); (case h4 => walk_at "side")))
local macro_rules | `(tactic| walk_at "st") => `(tactic| first
  | walk_at "sn"
  | ((with_reducible refine' r_var ?hh ?_); (case hh => rfl))
  | with_reducible refine r_c ?_
  | with_reducible refine r_op ?_
  | with_reducible refine r_i0 ?_
  | with_reducible refine r_cons ?_
  | with_reducible refine r_nil ?_
  | with_reducible refine r_seq ?_
  | with_reducible refine r_asg ?_
  | with_reducible refine r_gname ?_
  | with_reducible refine r_ret ?_
  | with_reducible refine r_ifS ?_
  | with_reducible refine r_test ?_
  | with_reducible refine r_tB ?_
  | with_reducible refine b_bl ?_
  | with_reducible refine i_t ?_
  | with_reducible refine i_f ?_
  | with_reducible refine i_nt ?_
  | with_reducible refine i_nf ?_
  | ((with_reducible refine' i_pos ?hh ?_); (case hh => walk_at "side"))
  | ((with_reducible refine' i_neg ?hh ?_); (case hh => walk_at "side"))
  | ((with_reducible refine' n_pos ?hh ?_); (case hh => walk_at "side"))
  | ((with_reducible refine' n_neg ?hh ?_); (case hh => walk_at "side"))
  | ((with_reducible refine' r_pow ?hh ?he ?_); (case hh => first | exact ⟨by decide, by decide, by decide⟩ | exact ⟨by decide, by decide, by omega⟩); (case he => first | ((simp only [Int.reduceToNat, Int.reducePow]); done) | ((simp only [Int.reduceToNat, Int.reducePow]); rfl) | rfl))
  | ((with_reducible refine' r_i ?hh ?_); (case hh => walk_at "side"))
  | with_reducible refine r_call0 ?_
  | with_reducible refine r_call ?_
  | with_reducible refine r_cb ?_
  | with_reducible refine r_int ?_
  | ((with_reducible refine' r_strI ?hh ?_); (case hh => walk_at "lg"))
  | with_reducible refine r_i1 ?_
  | with_reducible refine r_i2 ?_
  | with_reducible refine r_par ?_
  | with_reducible refine r_two ?_
  | with_reducible refine r_par3 ?_
  | with_reducible refine r_three ?_
  | with_reducible refine r_and ?_
  | with_reducible refine r_or ?_
  | with_reducible refine r_not ?_
  | with_reducible refine r_tif ?_
  | with_reducible refine r_andV ?_
  | with_reducible refine r_orV ?_
  | with_reducible refine r_notV ?_
  | with_reducible refine r_un ?_
  | with_reducible refine r_u ?_
  | with_reducible refine r_sb ?_
  | with_reducible refine r_drop ?_
  | with_reducible refine r_next ?_
  | with_reducible refine r_gsub ?_
  | ((with_reducible refine' r_ixL ?hh ?he ?_); (case hh => walk_at "sq"); (case he => rfl))
  | ((with_reducible refine' r_ixT ?hh ?he ?_); (case hh => walk_at "sqt"); (case he => rfl))
  | ((with_reducible refine' r_setL ?hh ?he ?_); (case hh => walk_at "hf"); (case he => rfl))
  | with_reducible refine r_gcons ?_
  | with_reducible refine r_gnil ?_
  | with_reducible refine r_sl ?_
  | with_reducible refine r_nopart ?_
  | with_reducible refine r_part ?_
  | with_reducible refine r_pint ?_
  | ((with_reducible refine' r_lenS ?hh ?_); (case hh => walk_at "sqo"))
  | ((with_reducible refine' r_gtup ?hh ?he ?_); (case hh => walk_at "sqt"); (case he => rfl))
  | ((with_reducible refine' r_slL ?hh ?_); (case hh => walk_at "sq"))
  | ((with_reducible refine' r_len ?hh ?_); (case hh => exact sz (by (try simp only [List.length_map]); (first | omega | decide | exact Nat.le_of_ble_eq_true rfl))))
  | with_reducible refine r_isi_ii ?_
  | with_reducible refine r_isi_ib ?_
  | with_reducible refine r_isi_ss ?_
  | ((with_reducible refine' r_isi_own ?hh ?hi ?hk ?_); (case hh => walk_at "hf"); (case hi => with_reducible assumption); (case hk => with_reducible assumption))
  | with_reducible refine r_lst ?_
  | with_reducible refine r_tup ?_
  | with_reducible refine r_make ?_
  | with_reducible refine r_forR1 ?_
  | with_reducible refine r_forL ?_
  | with_reducible refine r_forT ?_
  | with_reducible refine r_forR2 ?_
  | with_reducible refine r_ref1 ?_
  | with_reducible refine r_brk ?_
  | with_reducible refine r_cont ?_
  | with_reducible refine r_retN ?_
  | with_reducible refine r_rr ?_
  | with_reducible refine r_fmt ?_
  | ((with_reducible refine' r_fmti ?hh ?_); (case hh => walk_at "lg"))
  | with_reducible refine r_js ?_
  | with_reducible refine r_js0 ?_
  | ((with_reducible refine' r_jsp ?hh ?_); (case hh => walk_at "len"))
  | with_reducible refine r_m0 ?_
  | with_reducible refine r_m1 ?_
  | with_reducible refine r_str ?_
  | with_reducible refine r_ss ?_
  | with_reducible refine r_s0 ?_
  | ((with_reducible refine' r_addS ?hh ?_); (case hh => walk_at "len"))
  | ((with_reducible refine' r_slS ?hh ?_); (case hh => walk_at "len"))
  | ((with_reducible refine' r_lenT ?hh ?_); (case hh => walk_at "len"))
  | ((with_reducible refine' r_memI ?hh ?_); (case hh => with_reducible assumption))
  | with_reducible refine r_eqB ?_
  | ((with_reducible refine' r_inT ?hh ?hf ?he ?_); (case hh => walk_at "sqt"); (case hf => rfl); (case he => rfl))
  | ((with_reducible refine' r_inF ?hh ?hf ?he ?_); (case hh => walk_at "sqt"); (case hf => rfl); (case he => rfl))
  | ((with_reducible refine' r_makeL ?hh ?_); (case hh => rfl))
  | with_reducible refine r_tprop ?_
  | with_reducible refine r_tfld ?_
  | ((with_reducible refine' f_prop ?hh ?_); (case hh => walk_at "hf"))
  | ((with_reducible refine' f_fld ?hh ?hc ?hn ?hl ?_); (case hh => walk_at "hf"); (case hc => with_reducible assumption); (case hn => with_reducible assumption); (case hl => rfl))
  | with_reducible refine r_tcm ?_
  | with_reducible refine r_chain ?_
  | with_reducible refine r_chain3 ?_
  | with_reducible refine r_bl1 ?_
  | with_reducible refine r_intb ?_
  | with_reducible refine r_yes ?_
  | with_reducible refine r_makeK ?_
  | with_reducible refine r_sfld ?_
  | ((with_reducible refine' f_sfld ?hh ?hc ?hn ?hl ?_); (case hh => walk_at "hf"); (case hc => with_reducible assumption); (case hn => with_reducible assumption); (case hl => exact Nat.le_of_ble_eq_true rfl))
  | with_reducible refine r_lcL ?_
  | with_reducible refine r_lcS ?_
  | with_reducible refine r_lcT ?_
  | with_reducible refine r_lcR1 ?_
  | with_reducible refine r_lcR2 ?_
  | with_reducible refine r_tbm ?_
  | with_reducible refine r_tbm0 ?_
  | ((with_reducible refine' f_tyL ?hh ?_); (case hh => walk_at "hf"))
  | ((with_reducible refine' r_app ?hh ?he ?_); (case hh => walk_at "hf"); (case he => walk_at "side"))
  | with_reducible refine r_tRev ?_
  | with_reducible refine r_lstRg1 ?_
  | with_reducible refine r_lcRV ?_
  | with_reducible refine r_makeS ?_
  | with_reducible refine r_cmS ?_
  | with_reducible refine r_methS ?_
  | with_reducible refine r_tupRg1 ?_
  | with_reducible refine r_forRV ?_
  | with_reducible refine r_raiseE ?_
  | with_reducible refine r_callG ?_
  | ((with_reducible refine' r_xfV ?hh ?hf ?hl ?_); (case hh => rfl); (case hf => walk_at "hf"); (case hl => rfl)))
local macro_rules | `(tactic| walk_at "go") => `(tactic| (repeat walk_at "st"))
local macro_rules | `(tactic| walk_at "in") => `(tactic| dsimp only [cxOf, L2.start, List.map, List.length, List.replicate, Nat.reduceSub, Nat.reduceAdd, List.cons_append, List.nil_append, List.append_nil])
local macro_rules | `(tactic| walk_at "bt") => `(tactic| first
  | with_reducible assumption
  | exact But.rfl
  | exact Same.but (by with_reducible assumption)
  | (refine' But.put ?ha; (case ha => walk_at "bt"))
  | (refine' But.new ?ha ?hn; (case hn => with_reducible assumption); (case ha => walk_at "bt"))
  | (refine' But.trans ?ha ?hb; (case hb => with_reducible assumption); (case ha => walk_at "bt"))
  | (refine' But.trans ?ha (Same.but ?hb); (case hb => with_reducible assumption); (case ha => walk_at "bt")))
local macro_rules | `(tactic| walk_at "sm") => `(tactic| first
  | with_reducible assumption
  | exact Same.refl _
  | (refine' Same.new ?ha ?hn; (case hn => with_reducible assumption); (case ha => walk_at "sm"))
  | (refine' Same.trans ?ha ?hb; (case hb => with_reducible assumption); (case ha => walk_at "sm")))

section
variable {P : Program} {w : World} {K : PySem.W.Frag} {mg : Str → Option Value} {base : Heap}
def prV (n d : Int) : List V := [.int n, .int d]
theorem r_prNe {H : Hp} {p q : Addr} {n d : Int} {Q : VK} (h1 : H p = some (.tup [.int n, .int d])) (h2 : H q = some (.tup [.int n, .int d])) (k : Q (.bl false) H) : rNeD K (.ref p) (.ref q) H Q :=
  r_neD (d := .tuple [.int n, .int d]) (e := .tuple [.int n, .int d]) (b := true) (.tup (SqT.of h1) (.cons (.int _) (.cons (.int _) .nil))) (.tup (SqT.of h2) (.cons (.int _) (.cons (.int _) .nil))) rfl rfl (by simp [PyData.eqv, PyData.eqvAll]) k
theorem ok_law_right (T : Tx K mg) : Gf P w K mg base CX0 9 (He.ga K "_law_right") ["_law_purse_here"] [] spRef := by
  obtain ⟨fd, F⟩ := T.d_law_right
  refine gf0 F (fnG F sc_law_right (fun vs H Q E h => ?_) (fun cdv A outer s H vs Q E hr h => ?_)) (fun _ _ _ _ _ _ us hl => match us, hl with | [_], _ => rfl)
  · obtain ⟨p, rfl, _⟩ := h
    rfl
  obtain ⟨p, rfl, hp, k⟩ := h
  refine ⟨_, PSs.nox (pss_cons (ps_for PassesOwn.never rfl (pi_range1 rfl T.f_range (pa_cons pe_int pa_nil)) (pg_name (i := 1) sc_law_right.nd rfl (Or.inl rfl)) (pss_cons (ps_set (i := 2) sc_law_right.nd rfl (Or.inl rfl) (pe_g (ok_law_text T) T.g_law_text hr (by decide) pass0 (pa_cons (pv 0) pa_nil))) (pss_cons (ps_set (i := 3) sc_law_right.nd rfl (Or.inl rfl) (pe_g (ok_law_value T) T.g_law_value hr (by decide) pass0 (pa_cons (pv 2) pa_nil))) (pss_one (ps_if (pt_cmpR (op_neDK (K := K) rfl hr.units) (pe_g (ok_law_read T) T.g_law_read hr (by decide) pass0 (pa_cons (pv 2) pa_nil)) (pe_ifExp (pt_cmpR op_isN (pv 3) pe_non (nomark _)) (pe_g (ok_law_due_text T) T.g_law_due_text hr (by decide) pass0 (pa_cons (pv 2) pa_nil)) (pv 3)) (nomark _)) (pss_one (ps_ret pe_bl)) pss_nil))))) (pss_one (ps_ret (pe_and (pe_g (ok_law_refused T) T.g_law_refused hr (by decide) pass0 (pa_cons (pv 0) pa_nil)) (pe_one (pe_g (ok_law_shares T) T.g_law_shares hr (by decide) pass0 (pa_cons (pv 0) pa_nil))))))), ?_⟩
  walk_at "in"
  walk_at "go"
  refine ⟨by omega, by omega, lp_range (fun i σ H' => ∃ v1 v2 v3, σ = [some (.ref p), v1, v2, v3] ∧ Purse H' p ∧ But p H H') ⟨none, none, none, rfl, hp, But.rfl⟩ ?_ ?_⟩
  · rintro i σ H1 hi ⟨v1, v2, v3, rfl, hp1, b1⟩
    walk_at "go"
    refine go_text hp1 fun l H2 hA hp2 b2 => ?_
    have b02 := b1.trans b2
    clear b1 b2 hp1
    walk_at "go"
    have rp : ∀ {H : Hp}, Rp K H (.str (S l)) _ := fun {H} => rp_S hA
    cases hd : Rtx.rd l with
    | none =>
      refine ⟨l, rfl, hA, ?_⟩
      rw [hd]
      intro H3 s3
      walk_at "go"
      refine ⟨_, _, rfl, rp, .inl ⟨l, rfl, hA, ?_⟩⟩
      rw [hd]
      intro c1 H4 _ d4 s4
      walk_at "go"
      refine ⟨_, _, rfl, rp, ?_⟩
      intro c2 H5 _ d5 s5
      walk_at "go"
      refine r_tlNe (s5 _ _ d4) d5 ok_text (repr_ok hA.1) ?_
      have S5 := (s3.trans s4).trans s5
      walk_at "go"
      exact ⟨_, _, _, rfl, hp2.same S5, b02.trans (Same.but S5)⟩
    | some nd =>
      obtain ⟨n, d⟩ := nd
      refine ⟨l, rfl, hA, ?_⟩
      rw [hd]
      intro x H3 _ e3 s3
      walk_at "go"
      refine ⟨_, _, rfl, rp, .inl ⟨l, rfl, hA, ?_⟩⟩
      rw [hd]
      intro c1 H4 _ d4 s4
      walk_at "go"
      refine i_neg (fun z => nomatch z) ?_
      walk_at "go"
      refine r_prNe d4 (s4 _ _ e3) ?_
      have S4 := s3.trans s4
      walk_at "go"
      exact ⟨_, _, _, rfl, hp2.same S4, b02.trans (Same.but S4)⟩
  · rintro σ H1 ⟨v1, v2, v3, rfl, hp1, b1⟩
    walk_at "go"
    refine go_ref hp1 fun H2 hp2 b2 => ?_
    walk_at "go"
    exact go_ref hp2 fun H3 hp3 b3 => k H3 hp3 ((b1.trans b2).trans b3)
def spLaw (K : PySem.W.Frag) : Sp := fun vs H Q _ => ∃ (a : Addr) (ns : List Int), vs = [.ref a] ∧ SqL K H a (ns.map V.int) ∧ ns.length ≤ 63 ∧ ∀ H', Q (.bl true) H'
theorem ok_law (T : Tx K mg) : FnG P w K mg base CX0 10 (He.ga K "law") (Classical.choose T.d_law) ["_law_script"] (spLaw K) := by
  have F := Classical.choose_spec T.d_law
  refine fnG F sc_law (fun vs H Q E h => ?_) (fun cdv A outer s H vs Q E hr h => ?_)
  · obtain ⟨a, ns, rfl, _⟩ := h
    rfl
  obtain ⟨a, ns, rfl, hS, hl, k⟩ := h
  refine ⟨_, PSs.nox (pss_cons (ps_for PassesOwn.never rfl (pi_range1 rfl T.f_range (pa_cons (pe_callB (call_max2 rfl) (by rfl) T.f_max (by decide +kernel) (pa_cons pe_int (pa_cons (pe_callB (call_min2 rfl) (by rfl) T.f_min (by decide +kernel) (pa_cons (pe_callB (call_lenK (K := K) rfl) (by rfl) T.f_len (by decide +kernel) (pa_cons (pv 0) pa_nil)) (pa_cons pe_int pa_nil))) pa_nil))) pa_nil)) (pg_name (i := 1) sc_law.nd rfl (Or.inl rfl)) (pss_one (ps_if (pt_not (pt_val (pe_g (ok_law_right T) T.g_law_right hr (by decide) pass0 (pa_cons (pe_g (ok_law_purse T) T.g_law_purse hr (by decide) pass0 (pa_cons (pv 0) (pa_cons (pv 1) pa_nil))) pa_nil)))) (pss_one (ps_ret pe_bl)) pss_nil))) (pss_one (ps_ret pe_bl))), ?_⟩
  walk_at "in"
  walk_at "go"
  simp only [List.length_map]
  generalize hN : (if (if (12 : Int) < (ns.length : Int) then (12 : Int) else (ns.length : Int)) > 2 then (if (12 : Int) < (ns.length : Int) then (12 : Int) else (ns.length : Int)) else 2) = N
  have hN0 : 0 ≤ N ∧ N ≤ 12 := by subst hN; split <;> split <;> omega
  refine ⟨by omega, by omega, lp_range (fun i σ H' => ∃ v, σ = [some (.ref a), v] ∧ SqL K H' a (ns.map V.int)) ⟨none, rfl, hS⟩ ?_ ?_⟩
  · rintro i σ H1 hi ⟨v, rfl, hS1⟩
    walk_at "go"
    refine go_purse hS1 hl (by omega) fun p H2 hp hpu s1 => ?_
    walk_at "go"
    refine go_ref hpu fun H3 hp3 b3 => ?_
    walk_at "go"
    exact ⟨_, rfl, sq_but hS1 hp s1 b3⟩
  · rintro σ H1 ⟨v, rfl, hS1⟩
    walk_at "go"
    exact k _
end

end Toy

set_option Elab.async false
set_option linter.all false
set_option maxRecDepth 100000
set_option maxHeartbeats 4000000
namespace Toy
open PySem PySem.Spec PyProof.Rows L2 My SX
abbrev R : PySem.W.OpenRow := PySem.W.OpenLaw.row PySem.Challenge.rw_drawclaims_k04_texts_of_ratios_and_share
abbrev hk : PySem.W.Hook := Hk.hookE 6 fa fn ex
def ob (s : PySem.W.SharedT) : Hk.AlE := Hk.obsEG 6 fa fn ex (HandSHeadRun.getT s)
theorem ob_eq (s : PySem.W.SharedT) : ob s = hk.obs s.abs := Hk.obsEG_eq (HandSHeadRun.getT_eq s)
def loose : List Str := ["_wall", "InputError", "InvalidNumber", "InvalidText", "FIGURES", "is_integer", "common_divisor", "read_integer", "SHARE_BOTTOM", "Ratio", "is_share", "_law_purse", "_law_draw", "_law_great", "_law_integer", "_law_divisor", "_law_whole", "_law_value", "_law_text", "_law_read", "_law_made", "_law_refused", "_law_due_text", "_law_shares", "_law_right"]
theorem run (w : World) : HandSHeadRun.RunEq R (PySem.W.view R.prog [29]) hk ob 3000 loose w := by
  intro os
  kernel_rfl
theorem law_binds {K : PySem.W.Frag} {mg : Str → Option Value} (T : Tx K mg) (s : Shared) (u : Value) : BindsTo s (Classical.choose T.d_law) ⟨[u], []⟩ [("_law_script", u)] :=
  FunD.bindsA (ps := ["_law_script"]) (Classical.choose_spec T.d_law) (fun _ _ _ _ _ _ us hl => match us, hl with | [_], _ => rfl) s [u] rfl
end Toy
open PySem PySem.W PySem.Calls PyProof.Rows
theorem PySem.Challenge.cw_drawclaims_k04_texts_of_ratios_and_share_holds : PySem.Challenge.rw_drawclaims_k04_texts_of_ratios_and_share.Holds := by
  w_on; o_law
  refine HandSHeadRun.head_any (r := OpenLaw.row PySem.Challenge.rw_drawclaims_k04_texts_of_ratios_and_share) (q := view (OpenLaw.row PySem.Challenge.rw_drawclaims_k04_texts_of_ratios_and_share).prog [29]) (H := Toy.hk) (ob := Toy.ob) (M := 3000) (loose := Toy.loose) (d := HandSHeadRun.topDef (OpenLaw.row PySem.Challenge.rw_drawclaims_k04_texts_of_ratios_and_share).prog 29) (kwd := []) Toy.ob_eq
    (by kernel_rfl) (fun s => by kernel_rfl) Toy.run (by kernel_rfl) (by kernel_rfl) (by kernel_rfl) (by rfl) (by first | assumption | decide +kernel) (by decide +kernel) ⟨rfl, rfl, rfl, rfl, rfl, by decide +kernel⟩ ?hw ?hc
  case hw => w_witness2
  case hc =>
    refine My.walk_g (l := PySem.Challenge.rw_drawclaims_k04_texts_of_ratios_and_share) (n := 63) (k := 10) (x := "_law_script") rfl (by decide) (by kernel_rfl) ⟨⟨rfl, by decide, by decide⟩, rfl⟩ ?F
    intro w mg fa h Y G hmg0
    obtain ⟨K, KX, c⟩ := Y
    have hmg : mg ("law" : PySem.Str) = some (.ref fa) := by
      have e : (HandSHeadRun.topDef (OpenLaw.row PySem.Challenge.rw_drawclaims_k04_texts_of_ratios_and_share).prog 29).name = ("law" : PySem.Str) := by kernel_rfl
      rw [← e]
      exact hmg0
    have T := Toy.tx_ok KX G c
    have e := hmg.symm.trans T.g_law
    cases e
    exact ⟨K, _, Toy.spLaw K, KX, fun s v => Toy.law_binds T s v, fun H a ns hl hS => ⟨a, ns, rfl, hS, hl, fun _ => rfl⟩, fun base _ _ => Toy.ok_law T⟩
