import PyProof.Rows.All
import Wide.All
import OpenK.AllK
import Wide.FinOn
import KE.KStateDown
import Lean
import HandS.Base
import HandS.Call
import HandS.List
import HandS.Comp
import HandS.Ends
import HandS.More
import HandS.Text
import HandS.Words
import HandS.WordsList
import HandS.Exc
import HandS.WordsExc
import HandS.Defaults
import HandS.Wide
import HandS.WideBits
import HandS.IsInst
import HandS.FStr
import HandS.MakeKwOnly
import HandS.Property
import HandS.ClsMeth
import HandS.Evl
import HandS.Head0
import HandS.Head1
import HandS.Head2
import HandS.HeadEnd
import HandS.HeadHook1
import HandS.HeadHook2
import HandS.Codes
import HandS.MakeKw
import HandS.TupAny
import KE.IntTextLaws
import KE.KOpsOwn
import HandS.SlotsOwn
import PyProof.InstEq
import HandS.RevRange
import HandS.Style
import HandS.SortInts
import HandS.ExcInit
import HandS.ExcField
import KE.KExcIs
import PyProof.ExcBaseAll.LookupError
import PyProof.ExcBaseAll.ArithmeticError
import PyProof.ExcBaseAll.ValueError
import HandS.Dict
import HandS.HotCalls
import KE.KTryMore
import HandS.Lambda
import HandS.HeadHook4
import HandS.TupMul
import HandS.Conv
import HandS.Iter
import HandS.Steps
import HandS.Star
import HandS.Deep
import HandS.DictComp
import HandS.Zip
import PyProof.LongRange
import PySem.Challenge.RW_drawclaims_k22_whole_order_of_sets
set_option Elab.async false
set_option linter.all false
set_option maxRecDepth 100000
set_option maxHeartbeats 4000000
/-! LayA: a hook of facts about defs at any place; good defs; steps of readings -/
namespace Hk
open PySem PySem.Spec PyProof.Rows L2 He
/-- one def: where it stands, its name, qualified name, parameters, body, scope, defaults -/
structure DefE where
  adr : PySem.W.Frag → Addr
  name : Str
  qual : Str
  params : Arguments
  body : List Stmt
  scope : Scope
  dfl : List Dv := []
  kwd : List (Str × Dv) := []
def fnE (K : PySem.W.Frag) (a : Addr) : FnW := match K.lookup a with
  | some ⟨_, _, .func fd, _⟩ => some (fd.name, fd.qualname, fd.params, fd.body, fd.scope, fd.globals, fd.closure, fd.builtins)
  | _ => none
def DefE.val (d : DefE) : FnW := some (d.name, d.qual, d.params, .stmts d.body, d.scope, mainGlobals, [], builtinsNs)
def DefE.dvs (K : PySem.W.Frag) (d : DefE) : List V := d.dfl.map (Dv.v K)
def DefE.kws (K : PySem.W.Frag) (d : DefE) : List (Str × V) := d.kwd.map fun q => (q.1, q.2.v K)
def DefE.ok (K : PySem.W.Frag) (d : DefE) : Bool := PySem.W.keepIn K (.ref (d.adr K)) && (match K.lookup (d.adr K) with
  | some ⟨_, _, .func fd, _⟩ => PySem.W.codeIn K fd.code d.qual && (dflB K fd.defaults (d.dvs K) && kwdB K fd.kwdefaults (d.kws K))
  | _ => false)
theorem DefE.funD {K : PySem.W.Frag} {d : DefE} (e : fnE K (d.adr K) = d.val) (c : d.ok K = true) : ∃ fd, FunD K d.name d.qual d.params d.body d.scope (d.dvs K) (d.kws K) (d.adr K) fd := by
  obtain ⟨kp, c2⟩ := ba c
  unfold fnE at e
  cases q : K.lookup (d.adr K) with
  | none =>
    rw [q] at c2
    cases c2
  | some o =>
    obtain ⟨oc, od, dt, osl⟩ := o
    rw [q] at c2 e
    cases dt with
    | func fd =>
      obtain ⟨n1, n2, n3, n4, n5, n6, n7, n8, n9, n10, n11, n12, n13, n14, n15⟩ := fd
      have e2 : (some (n1, n2, n3, n4, n5, n6, n7, n15) : FnW) = some (d.name, d.qual, d.params, .stmts d.body, d.scope, mainGlobals, [], builtinsNs) := e
      simp only [Option.some.injEq, Prod.mk.injEq] at e2
      obtain ⟨h1, h2, h3, h4, h5, h6, h7, h8⟩ := e2
      subst h1 h2 h3 h4 h5 h6 h7 h8
      have c3 : (PySem.W.codeIn K n13 d.qual && (dflB K n8 (d.dvs K) && kwdB K n9 (d.kws K))) = true := c2
      obtain ⟨k1, k2⟩ := ba c3
      obtain ⟨k3, k4⟩ := ba k2
      exact ⟨_, ⟨oc, od, n8, n9, n10, n11, n12, n13, n14, osl, rfl, q, k1, dflB_ok k3, kwdB_ok k4⟩, kp⟩
    | _ => cases c2
/-! the Hook -/
abbrev AlE : Type := Bool × List FnW
def obsE (fa : List Fa) (fn : List DefE) (ex : PySem.W.Frag → Bool) (K : PySem.W.Frag) : AlE := ((fa.all fun f => f.ok K) && ((fn.all fun d => d.ok K) && ex K), fn.map fun d => fnE K (d.adr K))
def valE (fn : List DefE) : AlE := (true, fn.map DefE.val)
def SaysE (fa : List Fa) (fn : List DefE) (ex : PySem.W.Frag → Bool) (K : PySem.W.Frag) : Prop := obsE fa fn ex K = valE fn
def obsEG (n : Nat) (fa : List Fa) (fn : List DefE) (ex : PySem.W.Frag → Bool) (g : Addr → Option Obj) : AlE := obsE fa fn ex (frG g (asD g n ++ [cStatics]))
def hookE (n : Nat) (fa : List Fa) (fn : List DefE) (ex : PySem.W.Frag → Bool) : PySem.W.Hook where
  α := AlE
  obs := fun s => obsEG n fa fn ex s.heap.get?
  val := fun _ => valE fn
  says := fun _ h => ∃ K : PySem.W.Frag, K.In h ∧ SaysE fa fn ex K
  of := fun _ _ e => ⟨_, frG_in, e⟩
  keeps := fun _ _ _ ⟨K, hK, c⟩ k => ⟨K, PySem.W.Frag.In.keeps hK k, c⟩
theorem obsEG_eq {n : Nat} {fa : List Fa} {fn : List DefE} {ex : PySem.W.Frag → Bool} {g : Addr → Option Obj} {s : Shared} (h : ∀ a, g a = s.heap.get? a) : obsEG n fa fn ex g = (hookE n fa fn ex).obs s := by
  have e : g = s.heap.get? := funext h
  rw [e] <;> rfl
section
variable {fa : List Fa} {fn : List DefE} {ex : PySem.W.Frag → Bool} {K : PySem.W.Frag}
theorem SaysE.parts (c : SaysE fa fn ex K) : (fa.all fun f => f.ok K) = true ∧ (fn.all fun d => d.ok K) = true ∧ ex K = true := by
  have c1 : ((fa.all fun f => f.ok K) && ((fn.all fun d => d.ok K) && ex K)) = true := congrArg (fun z : AlE => z.1) c
  obtain ⟨h1, h2⟩ := ba c1
  obtain ⟨h3, h4⟩ := ba h2
  exact ⟨h1, h3, h4⟩
theorem SaysE.fact (c : SaysE fa fn ex K) (i : Nat) {f : Fa} (h : fa[i]? = some f := by rfl) : f.ok K = true :=
  List.all_eq_true.mp c.parts.1 f (List.mem_of_getElem? h)
theorem SaysE.more (c : SaysE fa fn ex K) : ex K = true := c.parts.2.2
theorem SaysE.def_ (c : SaysE fa fn ex K) (i : Nat) {d : DefE} (h : fn[i]? = some d := by rfl) : ∃ fd, FunD K d.name d.qual d.params d.body d.scope (d.dvs K) (d.kws K) (d.adr K) fd := by
  have c2 := c.parts.2.1
  have e : fn.map (fun d => fnE K (d.adr K)) = fn.map DefE.val := congrArg (fun z : AlE => z.2) c
  have e2 : (fn.map fun d => fnE K (d.adr K))[i]? = (fn.map DefE.val)[i]? := by rw [e]
  rw [List.getElem?_map, List.getElem?_map, h] at e2
  exact DefE.funD (Option.some.inj e2) (List.all_eq_true.mp c2 d (List.mem_of_getElem? h))
end
/-- the def of the record (a property, a classmethod, a staticmethod) that the class has under this name -/
def wfA (x : Str) (T : String) (m : Str) (K : PySem.W.Frag) : Addr := match PySem.W.recIn K (ma K (ga K x) m) T with
  | some (.ref f :: _) => f
  | _ => 0
end Hk
namespace My
open PySem PySem.Spec PyProof.Rows L2
/-! good defs: beside the room it is known that no repr is under way -/
structure RG (k : Nat) (A : Around) : Prop where
  r : Room k A
  g : A.guards = some []
theorem RG.mono {j k : Nat} {A : Around} (r : RG k A) (h : j ≤ k) : RG j A := ⟨r.r.mono h, r.g⟩
theorem RG.deeper {k : Nat} {A : Around} (r : RG (k + 1) A) (env : Env) : RG k (A.deeper env) := ⟨r.r.deeper env, r.g⟩
theorem RG.in1 {k : Nat} {A : Around} (r : RG (k + 1) A) : RG k A.in1 := ⟨r.r.in1, r.g⟩
theorem RG.units {k : Nat} {A : Around} (r : RG k A) : A.units + 64 < cLine := r.r.units
theorem RG.make {k : Nat} {A : Around} (r : RG (k + 1) A) (C : Addr) (us : List Value) (kw : List (Str × Value)) : RG k (A.under (.builtin "type.__call__" ⟨.ref C :: us, kw⟩)) := by
  refine ⟨r.r.make C us kw, ?_⟩
  show pushGuards (Code.guards (.builtin "type.__call__" ⟨.ref C :: us, kw⟩)) A.guards = some []
  have e : Code.guards (.builtin "type.__call__" ⟨.ref C :: us, kw⟩) = [] := by
    unfold Code.guards Code.isGuard
    rw [if_neg (show ¬ (guardIds.contains "type.__call__" = true) from by decide +kernel)]
  rw [e]
  exact r.g
/-- the def fd at f keeps its promise wherever no repr is under way -/
structure FnG (P : Program) (w : World) (K : PySem.W.Frag) (mg : Str → Option Value) (base : Heap) (CX : CXT) (k : Nat) (f : Addr) (fd : FuncData) (ps : List Str) (sp : Sp) : Prop where
  len : ∀ vs H Q E, sp vs H Q E → vs.length = ps.length
  run : ∀ (A : Around) (outer : List Env) (s : Shared) (H : Hp) (args : Args) (us : List Value) (vs : List V) (Q : VK) (E : XK), RG k A → Env0 P w K mg base A outer s H → BindsTo s fd args (ps.zip us) → Vals vs us → sp vs H Q E →
    codeAny (model P w) A (.call (.ref f) args) (CR CX outer P w H s Q E) s
/-- dvs: the values of the parameters that a call by position does not write -/
structure Gf (P : Program) (w : World) (K : PySem.W.Frag) (mg : Str → Option Value) (base : Heap) (CX : CXT) (k : Nat) (f : Addr) (ps : List Str) (dvs : List V) (sp : Sp) : Prop where
  ex : ∃ (fd : FuncData) (ds : List Value), FnG P w K mg base CX k f fd ps sp ∧ Binds K fd ps ds ∧ Vals dvs ds
  kp : PySem.W.keepIn K (.ref f) = true
section
variable {CX : CXT} {P : Program} {w : World} {K : PySem.W.Frag} {mg : Str → Option Value} {base : Heap} {k : Nat} {f : Addr} {x qual : Str} {params : Arguments} {body : List Stmt} {scope : Scope} {dvs : List V} {kws : List (Str × V)} {fd : FuncData} {N ps : List Str} {sp : Sp}
theorem fnG (F : FunD K x qual params body scope dvs kws f fd) (S : FnScope N ps scope) (len : ∀ vs H Q E, sp vs H Q E → vs.length = ps.length)
    (hbody : ∀ (cdv : Value) (A : Around) (outer : List Env) (s : Shared) (H : Hp) (vs : List V) (Q : VK) (E : XK), RG k (A.deeper (envOfC qual scope s.heap.objs.size f cdv)) → sp vs H Q E →
      ∃ t, PSs (cxOf CX P w K mg base N qual scope f cdv A outer s H E) body t ∧ t { nx := fun _ H' => Q .non H', rt := Q } (start N vs) H) : FnG P w K mg base CX (k + 1) f fd ps sp := by
  obtain ⟨oc, od, dV, kV, doc, pm, an, cdv, ct, osl, rfl, lk, hcd, _, _⟩ := F.ex
  refine ⟨len, fun A outer s H args us vs Q E hr e0 hb r hsp => ?_⟩
  have old := fun b o e => (e0.bs b o e).1
  have KX : K.In s.heap := e0.mod.kin.keeps old
  refine codeAny_call_function hr.r.depth (KX _ _ lk) rfl S.co S.gen rfl (PySem.W.codeRec_of KX hcd) (hb _ _ _ _ ?_)
  refine wpAny_newFunctionEnv_cells S.kind (fun p hy => ?_) fun env he s1 z => ?_
  · obtain ⟨n, v⟩ := p
    exact (S.par n (List.of_mem_zip hy).1).elim (fun q => .inl q) fun q => .inr ⟨q, PySem.W.cellsFrom_some _ _ _ (.inl q)⟩
  subst he
  refine ⟨(e0.mod.nolimit.keeps old).keeps z.toInCall.keep, codeAny_func ?_⟩
  obtain ⟨t, ht, hq⟩ := hbody cdv A outer s H vs Q E (hr.deeper _) hsp
  refine wpAny_mono (ht.run [] s1 (start N vs) H _ (inv_start S hr.r.hd e0 (len _ _ _ _ hsp) r z) hq) (fun fl s' hs => ?_) fun _ _ hs => hs
  cases fl with
  | ret u => exact let ⟨v, _, H', J, rv, q⟩ := hs; ⟨v, H', J.os, J.bare, J.base, J.hok, rv, q⟩
  | next => exact let ⟨_, H', J, q⟩ := hs; ⟨.non, H', J.os, J.bare, J.base, J.hok, rfl, q⟩
  | brk => exact let ⟨_, _, _, q⟩ := hs; q.elim
  | cont => exact let ⟨_, _, _, q⟩ := hs; q.elim
/-- from a def without defaults -/
theorem gf0 (F : FunD K x qual params body scope [] kws f fd) (G : FnG P w K mg base CX k f fd ps sp)
    (h : ∀ (kV doc pm : Value) (an : Option Addr) (cdv ct : Value) (us : List Value), us.length = ps.length → bindArgs (PySem.W.fnOf x qual params body scope .none kV doc pm an cdv ct) ⟨us, []⟩ = pure (ps.zip us)) : Gf P w K mg base CX k f ps [] sp :=
  ⟨⟨fd, [], G, F.bindsN h, .nil⟩, F.kp⟩
end
section
variable {X : Cx} {CX : CXT} {k j : Nat} {f C : Addr} {x : Str} {ps : List Str} {dvs : List V} {sp : Sp} {E : XK} {e : Expr} {es : List Expr} {p pos : Pos} {t : TA}
theorem Gf.go {A : Around} {H : Hp} {s : Shared} {us : List Value} {vs : List V} {Q : VK} {outer : List Env} {P : Program} {w : World} {K : PySem.W.Frag} {mg : Str → Option Value} {base : Heap} (G : Gf P w K mg base CX k f ps dvs sp) (hr : RG j A) (hj : k ≤ j) (e0 : Env0 P w K mg base A outer s H) (KX : K.In s.heap) (r : Vals vs us) (h : sp (vs ++ dvs) H Q E) :
    codeAny (model P w) A (.call (.ref f) ⟨us, []⟩) (CR CX outer P w H s Q E) s := by
  obtain ⟨fd, ds, F, hb, hd⟩ := G.ex
  have r2 := r.append hd
  exact F.run A outer s H ⟨us, []⟩ (us ++ ds) (vs ++ dvs) Q E (hr.mono hj) e0 (hb s us KX (by rw [← r2.length]; exact F.len _ _ _ _ h)) r2 h
theorem run_g {pins : List (Addr × Obj)} {σ : L2.St} {H : Hp} {s : Shared} {Q : VK} {us : List Value} {vs : List V} (G : Gf X.prog X.w X.K X.mg X.base CX k f ps dvs sp) (hr : RG j X.A) (hj : k ≤ j) (hx : Passes CX X E)
    (I : Inv X pins σ H s) (r : Vals vs us) (h : sp (vs ++ dvs) H Q E) : wpAny (model X.prog X.w) X.A (call (.ref f) us) (EP X pins σ Q) X.xe s := by
  refine wpAny_call (codeAny_mono (G.go hr hj I.env0 I.kIn r h) fun y s' hq => ?_)
  match y, hq with
  | .error e, hq => exact hx pins σ H s e s' I hq
  | .ok (.ret u), hq => exact I.after hq
theorem pe_g (G : Gf X.prog X.w X.K X.mg X.base CX k f ps dvs sp) (hm : X.mg x = some (.ref f)) (hr : RG j X.A) (hj : k ≤ j) (hx : Passes CX X E) (ha : PA X (e :: es) t) (hg : Gl X x := by rfl)
    (hdb : (x == ("__debug__" : Str)) = false := by decide) (he : starEach (e :: es) X.env = (false, eval e X.env) :: starEach es X.env := by rfl) (hpl : (backTo pos (starEach es X.env)).any (·.1) = false := by rfl) :
    PE X (.Call (.Name x p) (e :: es) [] pos) (tCall sp dvs E t) := by
  refine ⟨fun pins s σ H Q I h => ?_⟩
  refine wpAny_Call_Name_kw (ld_glob I hg hm ?_ hdb)
  exact PySem.W.callWith_K (h₀ := X.base) I.ok.mod.kin G.kp (thn (ha.run pos pins s σ H _ I h) fun us s1 ⟨vs, H1, I1, r, q⟩ => ⟨I1.kIn, run_g G hr hj hx I1 r q⟩) he hpl
/-- a class whose instances its own __init__ makes -/
structure Mg (K : PySem.W.Frag) (C f : Addr) : Prop where
  makes : PySem.W.makesIn K C = true
  init : PySem.W.findIn K (.ref C) "__init__" = some (some (.ref f))
  fn : PySem.W.isFn K (.ref f) = true
  kp : PySem.W.keepIn K (.ref C) = true
theorem run_mk {pins : List (Addr × Obj)} {σ : L2.St} {H : Hp} {s : Shared} {Q : VK} {us : List Value} {vs : List V} (M : Mg X.K C f) (G : Gf X.prog X.w X.K X.mg X.base CX k f ps dvs sp) (hr : RG j X.A) (hj : k + 1 ≤ j) (hx : Passes CX X E) (I : Inv X pins σ H s) (r : Vals vs us)
    (h : ∀ x dx, H x = none → H dx = none → dx ≠ x → sp (.ref x :: (vs ++ dvs)) (upd (upd H dx (.own x)) x (.ins C dx [])) (fun v H2 => v = .non ∧ Q (.ref x) H2) E) :
    wpAny (model X.prog X.w) X.A (call (.ref C) us) (EP X pins σ Q) X.xe s := by
  have n := s.heap.objs.size
  have hq := h (s.heap.objs.size + 1) s.heap.objs.size (I.hok.fresh (Nat.le_succ _)) (I.hok.fresh (Nat.le_refl _)) (Nat.ne_of_lt (Nat.lt_succ_self _))
  have I2 := Inv.made (C := C) I
  have r2 : Vals (V.ref (s.heap.objs.size + 1) :: vs) (Value.ref (s.heap.objs.size + 1) :: us) := .cons rfl r
  refine wpAny_call (make_map (f := f) I.kIn M.makes M.init (beq_iff_eq.mp M.fn) (codeAny_mono (G.go (outer := X.stack) (RG.make (hr.mono hj) C us []) (Nat.le_refl _) (I2.env0.make C us []) I2.kIn r2 hq) fun y s' hq' => ?_))
  match y, hq' with
  | .error e, hq' => exact hx pins σ _ _ e s' I2 hq'
  | .ok (.ret u), hq' =>
    obtain ⟨v, H', I3, rv, ev, q3⟩ := I2.after hq'
    subst ev
    exact ⟨rv, ⟨V.ref (s.heap.objs.size + 1), H', I3, rfl, q3⟩⟩
theorem pe_mk (M : Mg X.K C f) (G : Gf X.prog X.w X.K X.mg X.base CX k f ps dvs sp) (hm : X.mg x = some (.ref C)) (hr : RG j X.A) (hj : k + 1 ≤ j) (hx : Passes CX X E) (ha : PA X (e :: es) t) (hg : Gl X x := by rfl)
    (hdb : (x == ("__debug__" : Str)) = false := by decide) (he : starEach (e :: es) X.env = (false, eval e X.env) :: starEach es X.env := by rfl) (hpl : (backTo pos (starEach es X.env)).any (·.1) = false := by rfl) :
    PE X (.Call (.Name x p) (e :: es) [] pos) (tMake C sp dvs E t) := by
  refine ⟨fun pins s σ H Q I h => ?_⟩
  refine wpAny_Call_Name_kw (ld_glob I hg hm ?_ hdb)
  exact PySem.W.callWith_K (h₀ := X.base) I.ok.mod.kin M.kp (thn (ha.run pos pins s σ H _ I h) fun us s1 ⟨vs, H1, I1, r, q⟩ => ⟨I1.kIn, run_mk M G hr hj hx I1 r q⟩) he hpl
/-- the class stands in the i-th slot -/
def tMakeL (i : Nat) (C : Addr) (sp : Sp) (dvs : List V) (E : XK) (t : TA) : TE := fun σ H Q => σ[i]? = some (some (.ref C)) ∧ tMake C sp dvs E t σ H Q
theorem pe_mkL {i : Nat} (M : Mg X.K C f) (G : Gf X.prog X.w X.K X.mg X.base CX k f ps dvs sp) (hN : X.N[i]? = some x) (hv : Vis X.env.scope x) (hr : RG j X.A) (hj : k + 1 ≤ j) (hx : Passes CX X E) (ha : PA X (e :: es) t)
    (hdb : (x == ("__debug__" : Str)) = false := by decide) (hcd : (x == ("__classdict__" : Str)) = false := by decide) (he : starEach (e :: es) X.env = (false, eval e X.env) :: starEach es X.env := by rfl) (hpl : (backTo pos (starEach es X.env)).any (·.1) = false := by rfl) :
    PE X (.Call (.Name x p) (e :: es) [] pos) (tMakeL i C sp dvs E t) := by
  refine ⟨fun pins s σ H Q I h => ?_⟩
  refine wpAny_Call_Name_kw (thn ((pe_var (pos := p) hN hv hdb hcd).run pins s σ H (fun v H1 => v = .ref C ∧ H1 = H) I ⟨.ref C, h.1, rfl, rfl⟩) fun u s1 ⟨v, H1, I1, r1, e1, e2⟩ => ?_)
  subst e1 e2
  obtain rfl : u = Value.ref C := r1
  exact PySem.W.callWith_K (h₀ := X.base) I.ok.mod.kin M.kp (thn (ha.run pos pins s1 σ _ _ I1 h.2) fun us s2 ⟨vs, H2, I2, r, q⟩ => ⟨I2.kIn, run_mk M G hr hj hx I2 r q⟩) he hpl
end
section
theorem pe_gi {X : Cx} {x : Str} {i : Int} {pos : Pos} (hg : Gl X x) (h : ∃ t, X.mg x = some (.int i t)) (hd : (x == ("__debug__" : Str)) = false := by decide) : PE X (.Name x pos) (tC (.int i)) := by
  obtain ⟨t, hm⟩ := h
  exact pe_glob hg hm ⟨t, rfl⟩ hd
end
/-! tests -/
section
variable {A B : Prop}
theorem b_bl {b : Bool} {F : Bool → Prop} (h : F b) : ∃ k, V.bl b = .bl k ∧ F k := ⟨b, rfl, h⟩
theorem i_pos {p : Prop} [Decidable p] (hp : p) (h : A) : if decide p = true then A else B := by
  rw [if_pos (decide_eq_true hp)]
  exact h
theorem i_neg {p : Prop} [Decidable p] (hp : ¬ p) (h : B) : if decide p = true then A else B := by
  rw [if_neg (by rw [decide_eq_false hp]; exact Bool.false_ne_true)]
  exact h
theorem i_two {p : Prop} [Decidable p] (h1 : p → A) (h2 : ¬ p → B) : if decide p = true then A else B := by
  by_cases hp : p
  · exact i_pos hp (h1 hp)
  · exact i_neg hp (h2 hp)
theorem n_pos {p : Prop} [Decidable p] (hp : p) (h : B) : if (!decide p) = true then A else B := by
  rw [if_neg (by rw [decide_eq_true hp]; exact Bool.false_ne_true)]
  exact h
theorem n_neg {p : Prop} [Decidable p] (hp : ¬ p) (h : A) : if (!decide p) = true then A else B := by
  rw [if_pos (by rw [decide_eq_false hp] <;> rfl)]
  exact h
theorem n_two {p : Prop} [Decidable p] (h1 : p → B) (h2 : ¬ p → A) : if (!decide p) = true then A else B := by
  by_cases hp : p
  · exact n_pos hp (h1 hp)
  · exact n_neg hp (h2 hp)
theorem b_two {b : Bool} (h1 : b = true → A) (h2 : b = false → B) : if b = true then A else B := by
  cases b with
  | true => exact h1 rfl
  | false => exact h2 rfl
theorem nb_two {b : Bool} (h1 : b = true → B) (h2 : b = false → A) : if (!b) = true then A else B := by
  cases b with
  | true => exact h1 rfl
  | false => exact h2 rfl
theorem i_t (h : A) : if true = true then A else B := h
theorem i_f (h : B) : if false = true then A else B := h
theorem i_nt (h : B) : if (!true) = true then A else B := h
theorem i_nf (h : A) : if (!false) = true then A else B := h
end
/-! operators on ints, texts, bools with their own readings -/
section
variable {X : Cx}
theorem op_mulA : OpR X (binaryOp .Mult) (rI IntMulOk fun i j => .int (i * j)) := opI fun _ _ _ _ _ _ _ hc q => mul_int q hc
def rSB (f : Str → Str → Bool) : R2 := fun x y H Q => ∃ a b, x = .str a ∧ y = .str b ∧ Q (.bl (f a b)) H
theorem op_eqI : OpR X (compareOp .Eq) (rI0 fun i j => .bl (decide (i = j))) := fun pins s σ H x y v u Q I rx ry h => by
  obtain ⟨i, j, rfl, rfl, q⟩ := h
  refine op_eq pins s σ H _ _ v u Q I rx ry ⟨rfl, ?_⟩
  rw [dec_int, Bool.beq_eq_decide_eq]
  exact q
theorem op_neI : OpR X (compareOp .NotEq) (rI0 fun i j => .bl (!decide (i = j))) := fun pins s σ H x y v u Q I rx ry h => by
  obtain ⟨i, j, rfl, rfl, q⟩ := h
  refine op_ne pins s σ H _ _ v u Q I rx ry ⟨rfl, ?_⟩
  rw [dec_int, Bool.beq_eq_decide_eq]
  exact q
theorem op_eqS : OpR X (compareOp .Eq) (rSB fun a b => decide (a = b)) := fun pins s σ H x y v u Q I rx ry h => by
  obtain ⟨i, j, rfl, rfl, q⟩ := h
  refine op_eq pins s σ H _ _ v u Q I rx ry ⟨rfl, ?_⟩
  rw [dec_str, Bool.beq_eq_decide_eq]
  exact q
theorem op_neS : OpR X (compareOp .NotEq) (rSB fun a b => !decide (a = b)) := fun pins s σ H x y v u Q I rx ry h => by
  obtain ⟨i, j, rfl, rfl, q⟩ := h
  refine op_ne pins s σ H _ _ v u Q I rx ry ⟨rfl, ?_⟩
  rw [dec_str, Bool.beq_eq_decide_eq]
  exact q
end
/-! steps -/
section
variable {K : PySem.W.Frag} {σ : L2.St} {H : Hp} {nx bk ct : L2.St → Hp → Prop} {rt : VK} {ta tb tc te tv : TE} {Q : VK} {t u : TS} {g : TG} {tA : TA} {c d : TT} {R : Bool → Hp → Prop} {RA : List V → Hp → Prop}
theorem r_seq (h : t ⟨u ⟨nx, rt, bk, ct⟩, rt, bk, ct⟩ σ H) : tSeq t u ⟨nx, rt, bk, ct⟩ σ H := h
theorem r_next (h : nx σ H) : tNext ⟨nx, rt, bk, ct⟩ σ H := h
theorem r_brk (h : bk σ H) : tBreak ⟨nx, rt, bk, ct⟩ σ H := h
theorem r_cont (h : ct σ H) : tCont ⟨nx, rt, bk, ct⟩ σ H := h
theorem r_ret (h : te σ H rt) : tRet te ⟨nx, rt, bk, ct⟩ σ H := h
theorem r_retN (h : rt .non H) : tRetN ⟨nx, rt, bk, ct⟩ σ H := h
theorem r_asg (h : te σ H fun x H1 => g x σ H1 nx) : tAsg te g ⟨nx, rt, bk, ct⟩ σ H := h
theorem r_drop (h : te σ H fun _ H1 => nx σ H1) : tDrop te ⟨nx, rt, bk, ct⟩ σ H := h
theorem r_ifS (h : c σ H fun b H1 => if b = true then t ⟨nx, rt, bk, ct⟩ σ H1 else u ⟨nx, rt, bk, ct⟩ σ H1) : tIfS c t u ⟨nx, rt, bk, ct⟩ σ H := h
theorem r_par {i j : Nat} (h : tA σ H fun vs H1 => ∃ v w, vs = [v, w] ∧ nx ((σ.set i (some v)).set j (some w)) H1) : tPar i j tA ⟨nx, rt, bk, ct⟩ σ H := h
theorem r_two {v w : V} {F : V → V → Prop} (h : F v w) : ∃ a b, ([v, w] : List V) = [a, b] ∧ F a b := ⟨v, w, rfl, h⟩
theorem r_gname {i : Nat} {v : V} {N : L2.St → Hp → Prop} (h : N (σ.set i (some v)) H) : gName i v σ H N := h
theorem r_gsub {v : V} {ts : TSet} {N : L2.St → Hp → Prop} (h : ta σ H fun o H1 => tb σ H1 fun i H2 => ts o i v H2 fun H3 => N σ H3) : gSub ta tb ts v σ H N := h
theorem r_var {i : Nat} {v : V} (e : σ[i]? = some (some v)) (h : Q v H) : tVar i σ H Q := ⟨v, e, h⟩
theorem r_c {v : V} (h : Q v H) : tC v σ H Q := h
theorem r_op {r : R2} (h : ta σ H fun x H1 => tb σ H1 fun y H2 => r x y H2 Q) : tOp r ta tb σ H Q := h
theorem r_un {r : V → Hp → VK → Prop} (h : ta σ H fun x H1 => r x H1 Q) : tUn r ta σ H Q := h
theorem r_i0 {f : Int → Int → V} {i j : Int} (h : Q (f i j) H) : rI0 f (.int i) (.int j) H Q := ⟨i, j, rfl, rfl, h⟩
theorem r_i {C : Int → Int → Prop} {f : Int → Int → V} {i j : Int} (hc : C i j) (h : Q (f i j) H) : rI C f (.int i) (.int j) H Q := ⟨i, j, rfl, rfl, hc, h⟩
theorem r_u {f : Int → V} {i : Int} (h : Q (f i) H) : rU f (.int i) H Q := ⟨i, rfl, h⟩
theorem r_sb {f : Str → Str → Bool} {a b : Str} (h : Q (.bl (f a b)) H) : rSB f (.str a) (.str b) H Q := ⟨a, b, rfl, rfl, h⟩
theorem r_test (h : te σ H fun x H' => ∃ k, x = .bl k ∧ R k H') : tTest te σ H R := h
theorem r_tB (h : te σ H fun x H' => ∃ k, x = .bl k ∧ R k H') : tB te σ H R := h
theorem r_and (h : c σ H fun b H1 => if b = true then d σ H1 R else R false H1) : tAnd c d σ H R := h
theorem r_or (h : c σ H fun b H1 => if b = true then R true H1 else d σ H1 R) : tOr c d σ H R := h
theorem r_not (h : c σ H fun b H1 => R (!b) H1) : tNot c σ H R := h
theorem r_andV (h : ta σ H fun x H1 => ∃ k, x = .bl k ∧ if k = true then tb σ H1 Q else Q (.bl false) H1) : tAndV ta tb σ H Q := h
theorem r_orV (h : ta σ H fun x H1 => ∃ k, x = .bl k ∧ if k = true then Q (.bl true) H1 else tb σ H1 Q) : tOrV ta tb σ H Q := h
theorem r_notV (h : ta σ H fun x H1 => ∃ k, x = .bl k ∧ Q (.bl (!k)) H1) : tNotV ta σ H Q := h
theorem r_tif (h : c σ H fun b H1 => if b = true then ta σ H1 Q else tb σ H1 Q) : tIf c ta tb σ H Q := h
theorem r_nil (h : RA [] H) : tNil σ H RA := h
theorem r_cons {tR : TA} (h : te σ H fun x H1 => tR σ H1 fun xs H2 => RA (x :: xs) H2) : tCons te tR σ H RA := h
theorem r_call {sp : Sp} {dvs : List V} {E : XK} (h : tA σ H fun vs H1 => sp (vs ++ dvs) H1 Q E) : tCall sp dvs E tA σ H Q := h
theorem r_cb {r : List V → Hp → VK → Prop} (h : tA σ H fun vs H1 => r vs H1 Q) : tCB r tA σ H Q := h
theorem r_lst (h : tA σ H fun xs H1 => xs.length ≤ sizeLine ∧ ∀ p, H1 p = none → Q (.ref p) (upd H1 p (.lst xs))) : tLst tA σ H Q := h
theorem r_tup (h : tA σ H fun xs H1 => xs.length ≤ sizeLine ∧ ∀ p, H1 p = none → Q (.ref p) (upd H1 p (.tup xs))) : tTup tA σ H Q := h
theorem r_int {i : Int} {F : Int → Prop} {B : Prop} (h : F i) : (∃ j, ([V.int i] : List V) = [.int j] ∧ F j) ∨ B := .inl ⟨i, rfl, h⟩
theorem r_intb {b : Bool} {F : Bool → Prop} {B : Prop} (h : F b) : B ∨ ∃ k, ([V.bl b] : List V) = [.bl k] ∧ F k := .inr ⟨b, rfl, h⟩
theorem r_call0 {sp : Sp} {E : XK} (h : tA σ H fun vs H1 => sp vs H1 Q E) : tCall sp [] E tA σ H Q := by
  unfold tCall
  simp only [List.append_nil]
  exact h
theorem r_i1 {i : Int} {F : Int → Prop} (h : F i) : ∃ j, ([V.int i] : List V) = [.int j] ∧ F j := ⟨i, rfl, h⟩
theorem r_i2 {i j : Int} {F : Int → Int → Prop} (h : F i j) : ∃ a b, ([V.int i, V.int j] : List V) = [.int a, .int b] ∧ F a b := ⟨i, j, rfl, h⟩
end
end My

set_option Elab.async false
set_option linter.all false
set_option maxRecDepth 100000
set_option maxHeartbeats 4000000
/-! LayB: methods, properties, classmethods, keywords, str and repr of own objects, repr of data -/
namespace My
open PySem PySem.Spec PyProof.Rows L2
section
variable {X : Cx} {CX : CXT} {k j : Nat} {f C : Addr} {x m : Str} {ps : List Str} {dvs : List V} {sp : Sp} {E : XK} {o e : Expr} {es : List Expr} {p pos apos : Pos} {t : TA} {ta : TE}
theorem pe_me {pl : Sem Bool} (he : PE X o ta) (c : Cls X.K C) (hm : Meth X.K C m f) (G : Gf X.prog X.w X.K X.mg X.base CX k f ps dvs sp) (hr : RG j X.A) (hj : k ≤ j) (hx : Passes CX X E) (ha : PA X (e :: es) t)
    (hst : starEach (e :: es) X.env = (false, eval e X.env) :: starEach es X.env := by rfl) (hpl : (backTo pos (starEach es X.env)).any (·.1) = false := by rfl)
    (ht : eval (.Call (.Attribute o m apos) (e :: es) [] pos) X.env = (do
      let ov ← eval o X.env
      standAt apos.atName
      let (f, first) ← holding [ov] (getMethod ov m pl)
      callWith pos f first (backTo pos (starEach (e :: es) X.env)) (backToKw pos (keywordEach [] X.env))) := by rfl) :
    PE X (.Call (.Attribute o m apos) (e :: es) [] pos) (tMeth C m sp dvs E ta t) := by
  refine ⟨fun pins s σ H Q I h => PySem.W.methodCall_KW (pl := pl) (thn (he.run pins s σ H _ I h) fun u s1 ⟨x, H1, I1, rx, a, dx, fs, ex, ea, l, q⟩ => ?_) ht⟩
  subst ex
  obtain rfl : u = Value.ref a := rx
  refine getmeth_ok I1 ea c hm l ?_
  exact PySem.W.callWith_K (first := [.ref a]) (h₀ := X.base) I.ok.mod.kin hm.kp (thn (ha.run pos pins s1 σ H1 _ I1 q) fun us s2 ⟨vs, H2, I2, r, q2⟩ => ⟨I2.kIn, run_g (us := .ref a :: us) (vs := .ref a :: vs) G hr hj hx I2 (.cons rfl r) q2⟩) hst hpl
theorem pe_me0 {pl : Sem Bool} (he : PE X o ta) (c : Cls X.K C) (hm : Meth X.K C m f) (G : Gf X.prog X.w X.K X.mg X.base CX k f ps dvs sp) (hr : RG j X.A) (hj : k ≤ j) (hx : Passes CX X E)
    (ht : eval (.Call (.Attribute o m apos) [] [] pos) X.env = (do
      let ov ← eval o X.env
      standAt apos.atName
      let (f, first) ← holding [ov] (getMethod ov m pl)
      callWith pos f first (backTo pos (starEach [] X.env)) (backToKw pos (keywordEach [] X.env))) := by rfl) :
    PE X (.Call (.Attribute o m apos) [] [] pos) (tMeth C m sp dvs E ta tNil) := by
  refine ⟨fun pins s σ H Q I h => PySem.W.methodCall_KW (pl := pl) (thn (he.run pins s σ H _ I h) fun u s1 ⟨x, H1, I1, rx, a, dx, fs, ex, ea, l, q⟩ => ?_) ht⟩
  subst ex
  obtain rfl : u = Value.ref a := rx
  refine getmeth_ok I1 ea c hm l ?_
  exact PySem.W.callWith_K0 (first := [.ref a]) I1.kIn hm.kp (run_g (us := [.ref a]) (vs := [.ref a]) G hr hj hx I1 (.cons rfl .nil) q)
/-- e.f, a property at q whose getter is the def at f -/
theorem pe_pr {q : Addr} {n : Str} (he : PE X e ta) (c : Cls X.K C) (hp : PropOf X.K C n q f) (G : Gf X.prog X.w X.K X.mg X.base CX k f ps dvs sp) (hr : RG j X.A) (hj : k + 1 ≤ j) (hx : Passes CX X.nox E)
    (hab : attributeBase e n X.env (eval e X.env) = eval e X.env := by rfl) : PE X (.Attribute e n pos) (tProp C sp dvs E ta) := by
  refine ⟨fun pins s σ H Q I h => attr_of hab (thn (he.run pins s σ H _ I h) fun u s1 ⟨y, H1, I1, rx, a, dx, fs, ex, ea, h1⟩ => ?_)⟩
  subst ex
  obtain rfl : u = Value.ref a := rx
  obtain ⟨mA, O, _, _, _, _⟩ := ins_get I1.hok ea
  obtain ⟨od, J, _⟩ := O.look
  obtain ⟨rest, hrec⟩ := hp.rec_
  have I2 := I1.tok (s1.toks + 1)
  have hc : (PySem.W.clsIn X.K C).isSome = true := let ⟨cd, hc, _⟩ := PySem.W.any_some c.hd; by rw [hc] <;> rfl
  refine PySem.W.get_bind I1.kIn J (PySem.W.plainGet_of (c.get n)).1 (PySem.W.findObj_data hc hp.at_ hp.get hp.tak) (PySem.W.plainGet_of (c.get n)).2 (wpAny_call (PySem.W.prop_get (s := { s1 with toks := s1.toks + 1 }) I1.kIn hrec ?_))
  refine codeAny_mono (G.go (outer := X.stack) (us := [.ref a]) (vs := [.ref a]) (hr.mono hj).in1 (Nat.le_refl _) I2.env0.in1 I2.kIn (.cons rfl .nil) h1) fun y s' hq => ?_
  match y, hq with
  | .error er, hq => exact (hx pins σ H1 { s1 with toks := s1.toks + 1 } er s' (I2.wish _) hq).elim
  | .ok (.ret u), hq =>
    obtain ⟨v, H', I3, rv, q3⟩ := I2.after hq
    show wpAny _ _ (handedOut u) _ _ _
    rw [PySem.W.handedOut_of (handed_of rv)]
    exact wpAny_pure ⟨v, H', I3, rv, q3⟩
/-- C.m(..), m a classmethod: its record at q, its def at f -/
theorem pe_cm {q : Addr} {mc : Value} {pl : Sem Bool} (he : PE X o ta) (r : ClX.CRead X.K C mc) (c : ClX.CMet X.K C mc m q f) (G : Gf X.prog X.w X.K X.mg X.base CX k f ps dvs sp) (hr : RG j X.A) (hj : k ≤ j) (hx : Passes CX X E) (ha : PA X (e :: es) t)
    (hst : starEach (e :: es) X.env = (false, eval e X.env) :: starEach es X.env := by rfl) (hpl : (backTo pos (starEach es X.env)).any (·.1) = false := by rfl)
    (ht : eval (.Call (.Attribute o m apos) (e :: es) [] pos) X.env = (do
      let ov ← eval o X.env
      standAt apos.atName
      let (f, first) ← holding [ov] (getMethod ov m pl)
      callWith pos f first (backTo pos (starEach (e :: es) X.env)) (backToKw pos (keywordEach [] X.env))) := by rfl) :
    PE X (.Call (.Attribute o m apos) (e :: es) [] pos) (ClX.tCMeth C (fun vs => sp (vs ++ dvs)) E ta t) := by
  refine ⟨fun pins s σ H Q I h => PySem.W.methodCall_KW (pl := pl) (thn (he.run pins s σ H _ I h) fun u s1 ⟨x, H1, I1, rx, ex, h1⟩ => ?_) ht⟩
  subst ex
  obtain rfl : u = Value.ref C := rx
  refine ClX.getmethcm_ok I1 r c fun s2 I2 => ?_
  refine ClX.callwith_cm I2 (ClX.base_none I1 (Nat.le_refl _)) c.fi (thn (ha.run pos _ s2 σ H1 _ I2 h1) fun us s3 ⟨vs, H2, I3, rv, q2⟩ => ⟨⟨ClX.pin_at I3, I3.kIn⟩, ?_⟩) hst hpl
  have z : wpAny (model X.prog X.w) X.A (call (.ref s1.heap.objs.size) us) (EP X ((s1.heap.objs.size, PySem.W.methodObj (.ref f) (.ref C)) :: pins) σ Q) X.xe s3 := by
    refine wpAny_call (PySem.W.method_call (ClX.pin_at I3) (codeAny_mono (G.go (outer := X.stack) (us := .ref C :: us) (vs := .ref C :: vs) hr hj I3.env0 I3.kIn (.cons rfl rv) q2) fun y s' hq => ?_))
    match y, hq with
    | .error er, hq => exact hx _ σ H2 s3 er s' I3 hq
    | .ok (.ret u), hq => exact I3.after hq
  exact thn z fun _ _ y => ClX.unpinE y
end
/-! f(.., k = v, ..), C(.., k = v, ..) -/
/-- a def as a call with n positional values and keywords ks finds it; gV puts both in the parameters' order -/
structure Gk (P : Program) (w : World) (K : PySem.W.Frag) (mg : Str → Option Value) (base : Heap) (CX : CXT) (k : Nat) (f : Addr) (ps : List Str) (n : Nat) (ks : List Str) (gV : List V → List V → List V) (sp : Sp) : Prop where
  ex : ∃ (fd : FuncData) (g : List Value → List Value → List Value), FnG P w K mg base CX k f fd ps sp ∧ KBn K fd ps n ks g gV
  kp : PySem.W.keepIn K (.ref f) = true
section
variable {X : Cx} {CX : CXT} {k j n : Nat} {f C : Addr} {x m : Str} {ps ks : List Str} {sp : Sp} {E : XK} {o e : Expr} {es : List Expr} {p pos apos : Pos} {t tk : TA} {ta : TE} {kws : List Keyword} {gV : List V → List V → List V}
theorem Gk.go {A : Around} {H : Hp} {s : Shared} {us ws : List Value} {vs zs : List V} {Q : VK} {outer : List Env} {P : Program} {w : World} {K : PySem.W.Frag} {mg : Str → Option Value} {base : Heap} (G : Gk P w K mg base CX k f ps n ks gV sp) (hr : RG j A) (hj : k ≤ j) (e0 : Env0 P w K mg base A outer s H) (KX : K.In s.heap)
    (r : Vals vs us) (rz : Vals zs ws) (l1 : vs.length = n) (l2 : zs.length = ks.length) (h : sp (gV vs zs) H Q E) :
    codeAny (model P w) A (.call (.ref f) ⟨us, ks.zip ws⟩) (CR CX outer P w H s Q E) s := by
  obtain ⟨fd, g, F, hb⟩ := G.ex
  exact F.run A outer s H ⟨us, ks.zip ws⟩ (g us ws) (gV vs zs) Q E (hr.mono hj) e0 (hb.to s us ws KX (r.length.symm.trans l1) (rz.length.symm.trans l2)) (hb.rel r rz) h
theorem run_gk {pins : List (Addr × Obj)} {σ : L2.St} {H : Hp} {s : Shared} {Q : VK} {us ws : List Value} {vs zs : List V} (G : Gk X.prog X.w X.K X.mg X.base CX k f ps n ks gV sp) (hr : RG j X.A) (hj : k ≤ j) (hx : Passes CX X E)
    (I : Inv X pins σ H s) (r : Vals vs us) (rz : Vals zs ws) (l1 : vs.length = n) (l2 : zs.length = ks.length) (h : sp (gV vs zs) H Q E) : wpAny (model X.prog X.w) X.A (call (.ref f) us (ks.zip ws)) (EP X pins σ Q) X.xe s := by
  refine wpAny_call (codeAny_mono (G.go hr hj I.env0 I.kIn r rz l1 l2 h) fun y s' hq => ?_)
  match y, hq with
  | .error e, hq => exact hx pins σ H s e s' I hq
  | .ok (.ret u), hq => exact I.after hq
theorem run_mkk {pins : List (Addr × Obj)} {σ : L2.St} {H : Hp} {s : Shared} {Q : VK} {us ws : List Value} {vs zs : List V} (M : Mg X.K C f) (G : Gk X.prog X.w X.K X.mg X.base CX k f ps (n + 1) ks gV sp) (hr : RG j X.A) (hj : k + 1 ≤ j) (hx : Passes CX X E) (I : Inv X pins σ H s) (r : Vals vs us) (rz : Vals zs ws) (l1 : vs.length = n) (l2 : zs.length = ks.length)
    (h : ∀ x dx, H x = none → H dx = none → dx ≠ x → sp (gV (.ref x :: vs) zs) (upd (upd H dx (.own x)) x (.ins C dx [])) (fun v H2 => v = .non ∧ Q (.ref x) H2) E) :
    wpAny (model X.prog X.w) X.A (call (.ref C) us (ks.zip ws)) (EP X pins σ Q) X.xe s := by
  have hq := h (s.heap.objs.size + 1) s.heap.objs.size (I.hok.fresh (Nat.le_succ _)) (I.hok.fresh (Nat.le_refl _)) (Nat.ne_of_lt (Nat.lt_succ_self _))
  have I2 := Inv.made (C := C) I
  have r2 : Vals (V.ref (s.heap.objs.size + 1) :: vs) (Value.ref (s.heap.objs.size + 1) :: us) := .cons rfl r
  refine wpAny_call (make_map (f := f) I.kIn M.makes M.init (beq_iff_eq.mp M.fn) (codeAny_mono (G.go (outer := X.stack) (RG.make (hr.mono hj) C us (ks.zip ws)) (Nat.le_refl _) (I2.env0.make C us (ks.zip ws)) I2.kIn r2 rz (by rw [List.length_cons, l1]) l2 hq) fun y s' hq' => ?_))
  match y, hq' with
  | .error e, hq' => exact hx pins σ _ _ e s' I2 hq'
  | .ok (.ret u), hq' =>
    obtain ⟨v, H', I3, rv, ev, q3⟩ := I2.after hq'
    subst ev
    exact ⟨rv, ⟨V.ref (s.heap.objs.size + 1), H', I3, rfl, q3⟩⟩
theorem pe_mkK0 (M : Mg X.K C f) (G : Gk X.prog X.w X.K X.mg X.base CX k f ps 1 ks gV sp) (hm : X.mg x = some (.ref C)) (hr : RG j X.A) (hj : k + 1 ≤ j) (hx : Passes CX X E) (hkw : PK X kws tk) (hg : Gl X x := by rfl)
    (hall : (backToKw pos (keywordEach kws X.env)).all (·.1.isSome) = true := by rfl) (hks : (backToKw pos (keywordEach kws X.env)).filterMap (·.1) = ks := by rfl) (hdb : (x == ("__debug__" : Str)) = false := by decide)
    (hpl : ((backTo pos (starEach [] X.env)).any (·.1) || (backToKw pos (keywordEach kws X.env)).any (·.1.isNone)) = false := by rfl) :
    PE X (.Call (.Name x p) [] kws pos) (tMakeK C 0 ks.length sp gV E tNil tk) := by
  refine ⟨fun pins s σ H Q I h => wpAny_Call_Name_kw (ld_glob I hg hm ?_ hdb)⟩
  refine PySem.W.callWith_KW0 (h₀ := X.base) I.ok.mod.kin M.kp hall ?_ hpl
  refine thn (hkw.run pos pins s σ H _ I h) fun ws s2 ⟨zs, H2, I2, rz, l1, l2, q2⟩ => ⟨I2.kIn, ?_⟩
  rw [hks]
  exact run_mkk (us := []) (vs := []) M G hr hj hx I2 .nil rz rfl l2 q2
/-- f(k = v, ..) -/
theorem pe_gk0 (G : Gk X.prog X.w X.K X.mg X.base CX k f ps 0 ks gV sp) (hm : X.mg x = some (.ref f)) (hr : RG j X.A) (hj : k ≤ j) (hx : Passes CX X E) (hkw : PK X kws tk) (hg : Gl X x := by rfl)
    (hall : (backToKw pos (keywordEach kws X.env)).all (·.1.isSome) = true := by rfl) (hks : (backToKw pos (keywordEach kws X.env)).filterMap (·.1) = ks := by rfl) (hdb : (x == ("__debug__" : Str)) = false := by decide)
    (hpl : ((backTo pos (starEach [] X.env)).any (·.1) || (backToKw pos (keywordEach kws X.env)).any (·.1.isNone)) = false := by rfl) :
    PE X (.Call (.Name x p) [] kws pos) (tCallN 0 ks.length sp gV E tNil tk) := by
  refine ⟨fun pins s σ H Q I h => wpAny_Call_Name_kw (ld_glob I hg hm ?_ hdb)⟩
  refine PySem.W.callWith_KW0 (h₀ := X.base) I.ok.mod.kin G.kp hall ?_ hpl
  refine thn (hkw.run pos pins s σ H _ I h) fun ws s2 ⟨zs, H2, I2, rz, l1, l2, q2⟩ => ⟨I2.kIn, ?_⟩
  rw [hks]
  exact run_gk (us := []) (vs := []) G hr hj hx I2 .nil rz l1 l2 q2
end
/-! str, repr of an own object; repr of data -/
section
variable {X : Cx} {CX : CXT} {k j : Nat} {f C : Addr} {ps : List Str} {sp : Sp}
/-- what a one-argument special def f of the class C gives of the object -/
theorem run_sp {A : Around} {pins : List (Addr × Obj)} {σ : L2.St} {H : Hp} {s : Shared} {Q : VK} {a : Addr} {R : Value → Shared → Prop} (G : Gf X.prog X.w X.K X.mg X.base CX0 k f ps [] sp) (hr : RG k A) (hf : A.frames = X.A.frames)
    (I : Inv X pins σ H s) (h : sp [.ref a] H Q E0) (hR : ∀ v H' u s', Inv X pins σ H' s' → RelV v u → Q v H' → R u s') : wpAny (model X.prog X.w) A (call (.ref f) [.ref a]) R X.xe s := by
  have e0 : Env0 X.prog X.w X.K X.mg X.base A X.stack s H := ⟨by rw [hf]; exact I.ok.frames, I.env0.mod, I.env0.bs, I.env0.bsz, I.env0.funs, I.env0.frf, I.env0.hok, I.env0.bare⟩
  refine wpAny_call (codeAny_mono (G.go (outer := X.stack) (us := [.ref a]) (vs := [.ref a]) hr (Nat.le_refl _) e0 I.kIn (.cons rfl .nil) h) fun y s' hq => ?_)
  match y, hq with
  | .error er, hq => exact hq.elim
  | .ok (.ret u), hq =>
    obtain ⟨v, H', I3, rv, q3⟩ := I.after hq
    exact hR v H' u s' I3 rv q3
def rStrOwn (C : Addr) (sp : Sp) : List V → Hp → VK → Prop := fun xs H Q => ∃ a dx fs, xs = [.ref a] ∧ H a = some (.ins C dx fs) ∧ sp [.ref a] H (fun v H' => ∃ y : Str, v = .str y ∧ Q v H') E0
theorem call_strOwn (G : Gf X.prog X.w X.K X.mg X.base CX0 k f ps [] sp) (hs : PySem.W.findIn X.K (.ref C) "__str__" = some (some (.ref f))) (hf : PySem.W.isFn X.K (.ref f) = true) (hr : RG j X.A) (hj : k + 2 ≤ j) : CallR X (.type "str") (rStrOwn C sp) := by
  intro pins s σ H xs us Q I r h
  obtain ⟨a, dx, fs, rfl, ea, h1⟩ := h
  obtain ⟨u, rfl, rx⟩ := vals1 r
  obtain rfl : u = Value.ref a := rx
  obtain ⟨mA, O, _⟩ := ins_get I.hok ea
  obtain ⟨od, J, _⟩ := O.look
  have hr2 : RG (k + 2) X.A := hr.mono hj
  refine PySem.W.kso_call hr2.in1.in1.r.units0 I.kIn J hs hf (run_sp G hr2.in1.in1 rfl I h1 fun v H' u s' I' rv q => ?_)
  obtain ⟨y, rfl, q⟩ := q
  obtain ⟨t, rfl⟩ := rv
  exact ⟨.str y, H', I', ⟨t, rfl⟩, q⟩
theorem call_reprOwn (G : Gf X.prog X.w X.K X.mg X.base CX0 k f ps [] sp) (hs : PySem.W.findIn X.K (.ref C) "__repr__" = some (some (.ref f))) (hf : PySem.W.isFn X.K (.ref f) = true) (hr : RG j X.A) (hj : k + 1 ≤ j) : CallR X (.builtin "repr") (rStrOwn C sp) := by
  intro pins s σ H xs us Q I r h
  obtain ⟨a, dx, fs, rfl, ea, h1⟩ := h
  obtain ⟨u, rfl, rx⟩ := vals1 r
  obtain rfl : u = Value.ref a := rx
  obtain ⟨mA, O, _⟩ := ins_get I.hok ea
  obtain ⟨od, J, _⟩ := O.look
  obtain ⟨m, hF⟩ := I.fr
  have hr2 : RG (k + 1) X.A := hr.mono hj
  refine PySem.W.repr_K hr2.in1.r.units0 hF I.ok.mod.kin J hs hf (run_sp G hr2.in1 rfl I h1 fun v H' u s' I' rv q => ?_)
  obtain ⟨y, rfl, q⟩ := q
  obtain ⟨t, rfl⟩ := rv
  exact ⟨.str y, H', I', ⟨t, rfl⟩, q⟩
/-- repr of a list or tuple of data -/
def rRepr (K : PySem.W.Frag) : List V → Hp → VK → Prop := fun xs H Q => ∃ a d, xs = [.ref a] ∧ Dp K H (.ref a) d ∧ d.showable = true ∧ d.hasDict = false ∧ d.depth ≤ 50 ∧ d.shown.length ≤ sizeLine ∧ Q (.str d.shown) H
theorem call_reprD (hr : RG j X.A) : CallR X (.builtin "repr") (rRepr X.K) := by
  intro pins s σ H xs us Q I r h
  obtain ⟨a, d, rfl, hd, h1, h2, h3, h4, q⟩ := h
  obtain ⟨u, rfl, rx⟩ := vals1 r
  obtain ⟨as, R⟩ := Dp.reads I d _ _ hd rx
  obtain rfl : u = Value.ref a := rx
  refine repr_of_reads' R h1 (PyData.noDict_hsm h2) hr.g (by have := hr.units; omega) (fun _ _ z => z) (fun h' u tk hk => ?_) h4
  exact ⟨.str d.shown, H, I.kept (t' := tk) hk, ⟨u, rfl⟩, q⟩
end
end My

set_option Elab.async false
set_option linter.all false
set_option maxRecDepth 100000
set_option maxHeartbeats 4000000
/-! LayC: what a head tells of classes, as Bools -/
namespace My
open PySem PySem.Spec PyProof.Rows L2 He
def propB (K : PySem.W.Frag) (x m : Str) : Bool := eqO (PySem.W.findIn K (.ref (ga K x)) m) (some (some (.ref (ma K (ga K x) m)))) && (eqO (PySem.W.specialIn K (.ref (ma K (ga K x) m)) "__get__") (some (some (.builtin "property.__get__"))) &&
  (decide (PySem.W.takesIn K (.ref (ma K (ga K x) m)) = some true) && (match PySem.W.recIn K (ma K (ga K x) m) "property" with
    | some (.ref f :: _) => decide (f = Hk.wfA x "property" m K)
    | _ => false)))
theorem propB_ok {K : PySem.W.Frag} {x m : Str} (h : propB K x m = true) : PropOf K (ga K x) m (ma K (ga K x) m) (Hk.wfA x "property" m K) := by
  obtain ⟨h1, h⟩ := ba h
  obtain ⟨h2, h⟩ := ba h
  obtain ⟨h3, h4⟩ := ba h
  refine ⟨eqO_ok h1, eqO_ok h2, of_decide_eq_true h3, ?_⟩
  split at h4
  · rename_i f rest e
    exact ⟨rest, by rw [e, of_decide_eq_true h4]⟩
  · cases h4
def crB (K : PySem.W.Frag) (x : Str) : Bool := PySem.W.readsIn K (ga K x) (.type "type") && eqO (PySem.W.specialIn K (.ref (ga K x)) "__getattribute__") (some (some (.builtin "type.__getattribute__")))
theorem crB_ok {K : PySem.W.Frag} {x : Str} (h : crB K x = true) : ClX.CRead K (ga K x) (.type "type") := by
  obtain ⟨h1, h2⟩ := ba h
  exact ⟨h1, eqO_ok h2⟩
def cmB (K : PySem.W.Frag) (x m : Str) : Bool := (match PySem.W.findCls K (.ref (ga K x)) (.type "type") m with
    | some (.get (.builtin g) (.ref p) .none (.ref D)) => decide (g = "classmethod.__get__") && (decide (p = ma K (ga K x) m) && decide (D = ga K x))
    | _ => false) && ((match PySem.W.recIn K (ma K (ga K x) m) "classmethod" with
    | some (.ref f :: _) => decide (f = Hk.wfA x "classmethod" m K)
    | _ => false) && PySem.W.fnIn K (Hk.wfA x "classmethod" m K))
theorem cmB_ok {K : PySem.W.Frag} {x m : Str} (h : cmB K x m = true) : ClX.CMet K (ga K x) (.type "type") m (ma K (ga K x) m) (Hk.wfA x "classmethod" m K) := by
  obtain ⟨h1, h⟩ := ba h
  obtain ⟨h2, h3⟩ := ba h
  refine ⟨?_, ?_, h3⟩
  · split at h1
    · rename_i g p D e
      obtain ⟨e1, e2⟩ := ba h1
      obtain ⟨e2, e3⟩ := ba e2
      rw [e, of_decide_eq_true e1, of_decide_eq_true e2, of_decide_eq_true e3]
    · cases h1
  · split at h2
    · rename_i f rest e
      exact ⟨rest, by rw [e, of_decide_eq_true h2]⟩
    · cases h2
/-- isinstance may be asked of the class's instances -/
structure InsOk (K : PySem.W.Frag) (C : Addr) : Prop where
  cl : Cls K C
  ha : PySem.W.findIn K (.ref C) "__class__" = some (some (.builtin "object.__class__"))
  hn : PySem.W.specialIn K (.builtin "object.__class__") "__get__" = some (some (.builtin "getset_descriptor.__get__"))
  htk : PySem.W.takesIn K (.builtin "object.__class__") = some true
  hm : PySem.W.mroIn K C (.type "object") = some true
theorem InsOk.ty {K : PySem.W.Frag} {H : Hp} {a C dx : Addr} {fs : List (Str × V)} (i : InsOk K C) (e : H a = some (.ins C dx fs)) : TyX K H (.ref a) (.ref C) := .base (.ins e i.cl i.ha i.hn i.htk i.hm)
def insB (K : PySem.W.Frag) (x : Str) : Bool := eqO (PySem.W.findIn K (.ref (ga K x)) "__class__") (some (some (.builtin "object.__class__"))) && (eqO (PySem.W.specialIn K (.builtin "object.__class__") "__get__") (some (some (.builtin "getset_descriptor.__get__"))) &&
  (decide (PySem.W.takesIn K (.builtin "object.__class__") = some true) && decide (PySem.W.mroIn K (ga K x) (.type "object") = some true)))
theorem insB_ok {K : PySem.W.Frag} {x : Str} (c : Cls K (ga K x)) (h : insB K x = true) : InsOk K (ga K x) := by
  obtain ⟨h1, h⟩ := ba h
  obtain ⟨h2, h⟩ := ba h
  obtain ⟨h3, h4⟩ := ba h
  exact ⟨c, eqO_ok h1, eqO_ok h2, of_decide_eq_true h3, of_decide_eq_true h4⟩
/-- a special def of a class -/
def spB (K : PySem.W.Frag) (x m : Str) : Bool := eqO (PySem.W.findIn K (.ref (ga K x)) m) (some (some (.ref (ma K (ga K x) m)))) && PySem.W.isFn K (.ref (ma K (ga K x) m))
structure SpOk (K : PySem.W.Frag) (C : Addr) (m : Str) (f : Addr) : Prop where
  at_ : PySem.W.findIn K (.ref C) m = some (some (.ref f))
  fn : PySem.W.isFn K (.ref f) = true
theorem spB_ok {K : PySem.W.Frag} {x m : Str} (h : spB K x m = true) : SpOk K (ga K x) m (ma K (ga K x) m) := by
  obtain ⟨h1, h2⟩ := ba h
  exact ⟨eqO_ok h1, h2⟩
def isiB (K : PySem.W.Frag) (t c : Value) (b : Bool) : Bool := decide (PySem.W.kitOne K t c = some b)
theorem isiB_ok {K : PySem.W.Frag} {t c : Value} {b : Bool} (h : isiB K t c b = true) : PySem.W.kitOne K t c = some b := of_decide_eq_true h
theorem mg_ok {K : PySem.W.Frag} {x : Str} (h : (Fa.mkr x).ok K = true) : Mg K (ga K x) (ma K (ga K x) "__init__") := by
  obtain ⟨h1, h⟩ := ba h
  obtain ⟨h2, h⟩ := ba h
  obtain ⟨h3, h4⟩ := ba h
  exact ⟨h1, eqO_ok h2, h3, h4⟩
end My

set_option Elab.async false
set_option linter.all false
set_option maxRecDepth 100000
set_option maxHeartbeats 4000000
/-! LayD: the law's end, where it is known that no repr is under way -/
namespace My
open PySem PySem.Spec PyProof.Rows L2
/-- from an abstract heap in which the script alone may be tracked -/
theorem law_at {P : Program} {w : World} {K : PySem.W.Frag} {mg mb : Str → Option Value} {CX : CXT} {k : Nat} {fa a : Addr} {fd : FuncData} {x : Str} {sp : Sp} {t : Shared} {vs : List Value} {ns : List Int} {H : Hp}
    (KX : K.In t.heap) (hns : t.heap.Ns mainGlobals mg) (hb : t.heap.Ns builtinsNs mb) (hbb : ∀ x : Str, x ≠ "__name__" → mb x = bootBuiltins x) (hlim : t.heap.NoLimit) (hg : t.gens = #[])
    (ha : t.heap.get? a = some { cls := .type "list", data := .seq vs.toArray }) (hr : RG k callerA)
    (F : ∀ base : Heap, K.In base → base.Ns mainGlobals mg → FnG P w K mg base CX k fa fd [x] sp) (hbind : ∀ (s : Shared) (u : Value), BindsTo s fd ⟨[u], []⟩ [(x, u)])
    (hsp : sp [.ref a] H (fun v _ => v = .bl true) fun _ _ _ => False) (hCX : ∀ H e s', CX [] H t (fun _ _ _ => False) e s' → False)
    (hO : Only H) (hok : HOk P w H t.heap) (hA : ∀ b, H b ≠ none → b = a) (hK : H a ≠ none → K.lookup a = none) :
    codeAny (model P w) callerA (.call (.ref fa) ⟨[.ref a], []⟩) (fun r s' => r = .ok (.ret (.bool true)) ∧ OldK t.heap s'.heap ∧ s'.os = t.os ∧ AllBare s'.gens) t := by
  have off : ∀ {b : Addr}, (b = a → False) → H b = none := fun {b} n => Classical.byContradiction fun q => n (hA b q)
  have kb : K.In (hidT t.heap H) := fun b o e => hidT_get (KX b o e) (Classical.byContradiction fun q => by
    have z := hA b q
    subst z
    rw [hK q] at e
    cases e)
  have nsK : ∀ {b : Addr} {m : Str → Option Value}, t.heap.Ns b m → (hidT t.heap H).Ns b m := fun {b m} ⟨o, es, ep, e, d, r⟩ => ⟨o, es, ep, hidT_get e (off fun z => by
    subst z
    rw [ha] at e
    cases e
    have d2 : Data.seq vs.toArray _ = Data.dict es ep := d
    cases d2), d, r⟩
  have hM : Mod K mg (hidT t.heap H) := ⟨kb, nsK hns, ⟨mb, nsK hb, hbb⟩, let ⟨mc, h1, h2⟩ := hlim; ⟨mc, nsK h1, h2⟩⟩
  have e0 : Env0 P w K mg (hidT t.heap H) callerA [] t H := ⟨rfl, hM, fun b o e => of_hidT e, Nat.le_of_eq (hidT_size _ _), trivial, fun b z => (List.not_mem_nil (a := b) z).elim, hok, .of_eq hg⟩
  refine codeAny_mono ((F _ kb (nsK hns)).run callerA [] t H ⟨[.ref a], []⟩ [.ref a] [.ref a] _ _ hr e0 (hbind t (.ref a)) (.cons rfl .nil) hsp) fun y s' h => ?_
  match y, h with
  | .error e, h => exact (hCX H e s' h).elim
  | .ok (.ret u), h =>
    obtain ⟨v, H', os, bare, un, hok', r', q⟩ := h
    have q2 : v = .bl true := q
    subst q2
    obtain rfl : u = Value.bool true := r'
    refine ⟨rfl, OldK.of_keep fun b o e => ?_, os, bare⟩
    cases q : H b with
    | none => exact un.keep b o e q (fun z => (List.not_mem_nil (a := b) z).elim) (by simp)
    | some u =>
      rcases hO b with z | ⟨ob, xs, z⟩
      · rw [q] at z
        cases z
      · obtain ⟨e1, _⟩ := hok b _ z
        obtain ⟨e2, _⟩ := hok' b _ (un.frzs b ob _ z)
        rw [e] at e1
        cases e1
        exact e2
theorem law_g {P : Program} {w : World} {K : PySem.W.Frag} {mg mb : Str → Option Value} {CX : CXT} {k : Nat} {fa a : Addr} {fd : FuncData} {x : Str} {sp : Sp} {t : Shared} {vs : List Value} {ns : List Int}
    (KX : K.In t.heap) (hns : t.heap.Ns mainGlobals mg) (hb : t.heap.Ns builtinsNs mb) (hbb : ∀ x : Str, x ≠ "__name__" → mb x = bootBuiltins x) (hlim : t.heap.NoLimit) (hg : t.gens = #[])
    (ha : t.heap.get? a = some { cls := .type "list", data := .seq vs.toArray }) (hi : IntsAre vs ns) (hl : ns.length ≤ sizeLine) (hr : RG k callerA)
    (F : ∀ base : Heap, K.In base → base.Ns mainGlobals mg → FnG P w K mg base CX k fa fd [x] sp) (hbind : ∀ (s : Shared) (u : Value), BindsTo s fd ⟨[u], []⟩ [(x, u)])
    (hsp : ∀ H : Hp, Only H → SqL K H a (ns.map V.int) → sp [.ref a] H (fun v _ => v = .bl true) fun _ _ _ => False) (hCX : ∀ H e s', CX [] H t (fun _ _ _ => False) e s' → False) :
    codeAny (model P w) callerA (.call (.ref fa) ⟨[.ref a], []⟩) (fun r s' => r = .ok (.ret (.bool true)) ∧ OldK t.heap s'.heap ∧ s'.os = t.os ∧ AllBare s'.gens) t := by
  have rv := vals_ints hi
  cases hk : K.lookup a with
  | some o =>
    have e := KX a o hk
    rw [ha] at e
    cases e
    have O : Only (fun _ => none) := fun _ => .inl rfl
    exact law_at (ns := ns) KX hns hb hbb hlim hg ha hr F hbind (hsp _ O (.inr ⟨_, vs.toArray, _, hk, rfl, rfl, rfl, by rw [List.size_toArray, hi.length]; exact hl, by simpa using rv⟩)) hCX O (fun b u z => by cases (show (none : Option HO) = some u from z)) (fun b z => absurd rfl z) fun z => absurd rfl z
  | none =>
    let ob : Obj := { cls := .type "list", data := .seq vs.toArray }
    let H : Hp := fun b => if b = a then some (.frz ob (.lst (ns.map V.int))) else none
    have Ha : H a = some (.frz ob (.lst (ns.map V.int))) := if_pos rfl
    have Hn : ∀ {b}, b ≠ a → H b = none := fun {b} z => if_neg z
    have O : Only H := fun b => by
      by_cases z : b = a
      · exact .inr ⟨_, _, if_pos z⟩
      · exact .inl (Hn z)
    refine law_at (H := H) (ns := ns) KX hns hb hbb hlim hg ha hr F hbind (hsp H O (.inl (.inr ⟨ob, Ha⟩))) hCX O (fun b u z => ?_) (fun b z => Classical.byContradiction fun n => z (Hn n)) fun _ => hk
    by_cases n : b = a
    · subst n
      rw [Ha] at z
      cases z
      exact ⟨ha, by rw [List.length_map]; exact hl, vs, _, rv, ha⟩
    · rw [Hn n] at z
      cases z
theorem walk_g {l : PySem.W.OpenLaw} {n k : Nat} {q : Program} {loose : List Str} {XP : (Str → Option Value) → Heap → Prop} {YP : World → Heap → Prop} {d : DefRec} {x : Str}
    (hn : l.most = some n) (hn2 : n ≤ sizeLine) (hdf : d.params.defaults = []) (hr : RG k callerA)
    (F : ∀ (w : World) (mg : Str → Option Value) (fa : Addr) (h : Heap), YP w h → h.Ns mainGlobals mg → mg d.name = some (.ref fa) →
      ∃ (K : PySem.W.Frag) (fd : FuncData) (sp : Sp), K.In h ∧ (∀ (s : Shared) (u : Value), BindsTo s fd ⟨[u], []⟩ [(x, u)]) ∧
        (∀ (H : Hp) (a : Addr) (ns : List Int), ns.length ≤ n → SqL K H a (ns.map V.int) → sp [.ref a] H (fun v _ => v = .bl true) fun _ _ _ => False) ∧
        ∀ base : Heap, K.In base → base.Ns mainGlobals mg → FnG l.prog w K mg base CX0 k fa fd [x] sp) :
    PySem.W.WalkO q loose XP YP l.row.toRowW d [] (fun f vs => PySem.call f vs) := by
  refine Att.attach_call hn hdf fun w s₀ t mg mb fa o pm cd doc a vs ns G Y ho hd hcd hmg hobj hints hlen hg => ?_
  obtain ⟨K, fd, sp, KX, hb, hsp, hF⟩ := F w mg fa _ Y G.T.g hmg
  exact law_g KX G.T.g G.T.b G.T.builtins G.T.nolimit hg hobj hints (Nat.le_trans hlen hn2) hr hF hb (fun H _ hS => hsp H a ns hlen hS) fun H e s' z => z
end My

set_option Elab.async false
set_option linter.all false
set_option maxRecDepth 100000
set_option maxHeartbeats 4000000
/-! LayE: heaps, lists, texts: steps -/
namespace My
open PySem PySem.Spec PyProof.Rows L2
/-- all but p stands -/
def But (p : Addr) (H H' : Hp) : Prop := ∀ q o, q ≠ p → H q = some o → H' q = some o
theorem But.at {p q : Addr} {H H' : Hp} {o : HO} (b : But p H H') (n : q ≠ p) (h : H q = some o) : H' q = some o := b q o n h
theorem But.rfl {p : Addr} {H : Hp} : But p H H := fun _ _ _ h => h
theorem But.trans {p : Addr} {H H1 H2 : Hp} (a : But p H H1) (b : But p H1 H2) : But p H H2 := fun q o n h => b q o n (a q o n h)
theorem But.new {p r : Addr} {H H1 : Hp} {u : HO} (a : But p H H1) (n : H1 r = none) : But p H (upd H1 r u) := fun q o m h => by
  have z := a q o m h
  rw [upd_ne (ne_of_none z n)]
  exact z
theorem But.put {p : Addr} {H H1 : Hp} {u : HO} (a : But p H H1) : But p H (upd H1 p u) := fun q o m h => by
  rw [upd_ne m]
  exact a q o m h
/-- an object that H does not know changes -/
theorem But.own {p r : Addr} {H H1 : Hp} {u : HO} (a : But p H H1) (n : H r = none) : But p H (upd H1 r u) := fun q o m h => by
  rw [upd_ne (ne_of_none h n)]
  exact a q o m h
theorem But.none {p r : Addr} {H H1 : Hp} (a : But p H H1) (n : H1 r = none) (m : r ≠ p) : H r = none := by
  cases q : H r with
  | none => rfl
  | some o =>
    rw [a r o m q] at n
    cases n
theorem Same.at {q : Addr} {H H' : Hp} {o : HO} (b : Same H H') (h : H q = some o) : H' q = some o := b q o h
theorem Same.but {p : Addr} {H H' : Hp} (b : Same H H') : But p H H' := fun q o _ h => b q o h
theorem Same.new {r : Addr} {H H1 : Hp} {u : HO} (a : Same H H1) (n : H1 r = none) : Same H (upd H1 r u) := fun q o h => by
  have z := a q o h
  rw [upd_ne (ne_of_none z n)]
  exact z
theorem Same.own {r : Addr} {H H1 : Hp} {u : HO} (a : Same H H1) (n : H r = none) : Same H (upd H1 r u) := fun q o h => by
  rw [upd_ne (ne_of_none h n)]
  exact a q o h
theorem But.sqL {K : PySem.W.Frag} {p a : Addr} {H H' : Hp} {xs : List V} (b : But p H H') (n : a ≠ p) (h : SqL K H a xs) : SqL K H' a xs := by
  rcases h with (h | ⟨o, h⟩) | h
  · exact .inl (.inl (b _ _ n h))
  · exact .inl (.inr ⟨o, b _ _ n h⟩)
  · exact .inr h
section
variable {K : PySem.W.Frag} {σ : L2.St} {H : Hp} {nx bk ct : L2.St → Hp → Prop} {rt : VK} {ta tb tc te tv : TE} {Q : VK} {t u : TS} {g : TG} {tA : TA} {c d : TT} {R : Bool → Hp → Prop} {RA : List V → Hp → Prop} {N : L2.St → Hp → Prop}
theorem r_ixL {p : Addr} {xs : List V} {i : Int} {v : V} (h : SqL K H p xs) (e : atI xs i = some v) (q : Q v H) : rIxL K (.ref p) (.int i) H Q := ⟨p, xs, i, v, rfl, rfl, h, e, q⟩
theorem r_ixT {p : Addr} {xs : List V} {i : Int} {v : V} (h : SqT K H p xs) (e : atI xs i = some v) (q : Q v H) : rIxT K (.ref p) (.int i) H Q := ⟨p, xs, i, v, rfl, rfl, h, e, q⟩
theorem r_setL {p : Addr} {xs : List V} {v : V} {k : Int} {j : Nat} {F : Hp → Prop} (h : H p = some (.lst xs)) (e : ixN xs.length k = some j) (q : F (upd H p (.lst (xs.set j v)))) : rSetL (.ref p) (.int k) v H F := ⟨p, xs, k, j, rfl, rfl, h, e, q⟩
theorem r_gtup {a : Addr} {xs : List V} {n : Nat} {tg : TGs} (h : SqT K H a xs) (e : xs.length = n) (q : tg xs σ H N) : gTup K n tg (.ref a) σ H N := ⟨a, xs, rfl, h, e, q⟩
theorem r_gcons {v : V} {r : List V} {tg : TG} {us : TGs} (q : tg v σ H fun σ' H' => us r σ' H' N) : gCons tg us (v :: r) σ H N := ⟨v, r, rfl, q⟩
theorem r_gnil (q : N σ H) : gNil [] σ H N := ⟨rfl, q⟩
theorem r_sl {r : V → Option Int → Option Int → Hp → VK → Prop} {tl th : TO} (h : te σ H fun x H1 => tl σ H1 fun l H2 => th σ H2 fun u H3 => r x l u H3 Q) : tSl r te tl th σ H Q := h
theorem r_nopart {F : Option Int → Hp → Prop} (h : F none H) : tNoPart σ H F := h
theorem r_part {F : Option Int → Hp → Prop} (h : te σ H fun x H1 => ∃ i, x = .int i ∧ F (some i) H1) : tPart te σ H F := h
theorem r_pint {i : Int} {F : Int → Prop} (h : F i) : ∃ j, V.int i = .int j ∧ F j := ⟨i, rfl, h⟩
theorem r_slL {p : Addr} {xs : List V} {lo hi : Option Int} (h : SqL K H p xs) (q : ∀ r, H r = none → Q (.ref r) (upd H r (.lst (cutV xs lo hi)))) : rSlL K (.ref p) lo hi H Q := ⟨p, xs, rfl, h, q⟩
theorem r_lenS {p : Addr} {xs : List V} {F : List V → Prop} (h : SqL K H p xs ∨ SqT K H p xs) (q : F xs) : ∃ a ys, ([V.ref p] : List V) = [.ref a] ∧ (SqL K H a ys ∨ SqT K H a ys) ∧ F ys := ⟨p, xs, rfl, h, q⟩
theorem r_dm {i j : Int} {C : Int → Int → Prop} {F : Int → Int → Prop} (hc : C i j) (q : F i j) : ∃ a b, ([V.int i, V.int j] : List V) = [.int a, .int b] ∧ C a b ∧ F a b := ⟨i, j, rfl, hc, q⟩
theorem r_len {xs : List V} {B : Prop} (h : xs.length ≤ sizeLine) (q : B) : xs.length ≤ sizeLine ∧ B := ⟨h, q⟩
theorem f_fld {f : Str} {a C dx : Addr} {fs : List (Str × V)} {v : V} {F : V → Prop} (h : H a = some (.ins C dx fs)) (c : Cls K C) (n : NoAttr K C f) (l : fs.lookup f = some v) (q : F v) :
    ∃ a' C' dx' fs' v', V.ref a = .ref a' ∧ H a' = some (.ins C' dx' fs') ∧ Cls K C' ∧ NoAttr K C' f ∧ fs'.lookup f = some v' ∧ F v' := ⟨a, C, dx, fs, v, rfl, h, c, n, l, q⟩
theorem r_tfld {f : Str} (h : ta σ H fun x H1 => ∃ a C dx fs v, x = .ref a ∧ H1 a = some (.ins C dx fs) ∧ Cls K C ∧ NoAttr K C f ∧ fs.lookup f = some v ∧ Q v H1) : tFld K ta f σ H Q := h
theorem r_isi_ii {F : VK} (q : F (.bl true) H) : rIsi K [.int i, .ty "int"] H F := ⟨_, _, _, _, true, rfl, .ty _, .base (.int i), kit_ty (by decide +kernel), q⟩
theorem r_isi_ib {F : VK} {i : Int} (q : F (.bl false) H) : rIsi K [.int i, .ty "bool"] H F := ⟨_, _, _, _, false, rfl, .ty _, .base (.int i), kit_ty (by decide +kernel), q⟩
theorem r_isi_ss {F : VK} {s : Str} (q : F (.bl true) H) : rIsi K [.str s, .ty "str"] H F := ⟨_, _, _, _, true, rfl, .ty _, .base (.str s), kit_ty (by decide +kernel), q⟩
theorem r_isi_own {F : VK} {a C C2 dx : Addr} {fs : List (Str × V)} {b : Bool} (h : H a = some (.ins C dx fs)) (i : InsOk K C) (k : PySem.W.kitOne K (.ref C) (.ref C2) = some b) (q : F (.bl b) H) : rIsi K [.ref a, .ref C2] H F := ⟨_, _, _, _, b, rfl, .own _, i.ty h, k, q⟩
theorem r_isi_ty {F : VK} {a C dx : Addr} {fs : List (Str × V)} {b : Bool} {n : String} (h : H a = some (.ins C dx fs)) (i : InsOk K C) (k : PySem.W.kitOne K (.ref C) (.type n) = some b) (q : F (.bl b) H) : rIsi K [.ref a, .ty n] H F := ⟨_, _, _, _, b, rfl, .ty _, i.ty h, k, q⟩
theorem r_isi_int_own {F : VK} {i : Int} {C2 : Addr} {b : Bool} (k : PySem.W.kitOne K (.type "int") (.ref C2) = some b) (q : F (.bl b) H) : rIsi K [.int i, .ref C2] H F := ⟨_, _, _, _, b, rfl, .own _, .base (.int i), k, q⟩
theorem r_make {C : Addr} {sp : Sp} {dvs : List V} {E : XK} (h : tA σ H fun vs H1 => ∀ x dx, H1 x = none → H1 dx = none → dx ≠ x → sp (.ref x :: (vs ++ dvs)) (upd (upd H1 dx (.own x)) x (.ins C dx [])) (fun v H2 => v = .non ∧ Q (.ref x) H2) E) : tMake C sp dvs E tA σ H Q := h
theorem r_makeL {i : Nat} {C : Addr} {sp : Sp} {dvs : List V} {E : XK} (e : σ[i]? = some (some (.ref C))) (h : tMake C sp dvs E tA σ H Q) : tMakeL i C sp dvs E tA σ H Q := ⟨e, h⟩
theorem r_isN {v w : V} (hw : w = .non) (q : Q (.bl (decide (v = .non))) H) : w = .non ∧ Q (.bl (decide (v = .non))) H := ⟨hw, q⟩
end
section
theorem r_pow {i j z : Int} {H : Hp} {Q : VK} (hc : CPow i j) (e : i ^ j.toNat = z) (q : Q (.int z) H) : rI CPow (fun i j => .int (i ^ j.toNat)) (.int i) (.int j) H Q := by
  subst e
  exact r_i hc q
theorem and_i {A B : Prop} (a : A) (b : B) : A ∧ B := ⟨a, b⟩
end
/-! loops -/
/-- what is left of a for once it is known what is walked -/
def LoopG (J : It) (g : TG) (tb : TS) (D : Ends) (σ : L2.St) (H : Hp) : Prop := tFor (fun _ H R => R J H) g tb D σ H
section
variable {K : PySem.W.Frag} {σ : L2.St} {H : Hp} {nx bk ct : L2.St → Hp → Prop} {rt : VK} {tl : TE} {tb : TS} {g : TG} {tA : TA} {c : TT}
theorem r_forR1 (h : tA σ H fun vs H1 => ∃ j : Int, vs = [.int j] ∧ -(2 ^ 62) ≤ j ∧ j < 2 ^ 62 ∧ LoopG (Itr 0 j.toNat) g tb ⟨nx, rt, bk, ct⟩ σ H1) : tFor (iRng1 tA) g tb ⟨nx, rt, bk, ct⟩ σ H := h
theorem r_forR2 (h : tA σ H fun vs H1 => ∃ i j : Int, vs = [.int i, .int j] ∧ (-(2 ^ 62) ≤ i ∧ i < 2 ^ 62 ∧ -(2 ^ 62) ≤ j ∧ j < 2 ^ 62) ∧ LoopG (Itr i (j - i).toNat) g tb ⟨nx, rt, bk, ct⟩ σ H1) : tFor (iRng2 tA) g tb ⟨nx, rt, bk, ct⟩ σ H := h
theorem r_forL (h : tl σ H fun x H1 => ∃ a, x = .ref a ∧ (∃ xs, SqL K H1 a xs) ∧ LoopG (Itl K a) g tb ⟨nx, rt, bk, ct⟩ σ H1) : tFor (iList K tl) g tb ⟨nx, rt, bk, ct⟩ σ H := h
theorem r_forT (h : tl σ H fun x H1 => ∃ a, x = .ref a ∧ (∃ xs, SqT K H1 a xs) ∧ LoopG (Itt K a) g tb ⟨nx, rt, bk, ct⟩ σ H1) : tFor (iTup K tl) g tb ⟨nx, rt, bk, ct⟩ σ H := h
theorem r_ref1 {p : Addr} {F : Addr → Prop} (h : F p) : ∃ a, V.ref p = .ref a ∧ F a := ⟨p, rfl, h⟩
theorem r_ex {xs : List V} {F : List V → Prop} {B : Prop} (h : F xs) (q : B) : (∃ ys, F ys) ∧ B := ⟨⟨xs, h⟩, q⟩
theorem lp_range {lo : Int} {n : Nat} (Pv : Nat → L2.St → Hp → Prop) (h0 : Pv 0 σ H) (hs : ∀ i σ H, i < n → Pv i σ H → g (.int (lo + i)) σ H fun σ2 H2 => tb ⟨Pv (i + 1), rt, nx, Pv (i + 1)⟩ σ2 H2) (hd : ∀ σ H, Pv n σ H → nx σ H) :
    LoopG (Itr lo n) g tb ⟨nx, rt, bk, ct⟩ σ H := for_range (D := ⟨nx, rt, bk, ct⟩) Pv h0 hs hd
theorem lp_list {a : Addr} {xs : List V} (Pv : Nat → L2.St → Hp → Prop) (h0 : Pv 0 σ H) (hl : ∀ i σ H, i ≤ xs.length → Pv i σ H → SqL K H a xs)
    (hs : ∀ i x σ H, xs[i]? = some x → Pv i σ H → g x σ H fun σ2 H2 => tb ⟨Pv (i + 1), rt, nx, Pv (i + 1)⟩ σ2 H2) (hd : ∀ σ H, Pv xs.length σ H → nx σ H) :
    LoopG (Itl K a) g tb ⟨nx, rt, bk, ct⟩ σ H := for_list (D := ⟨nx, rt, bk, ct⟩) Pv h0 hl hs hd
theorem lp_tup {a : Addr} {xs : List V} (Pv : Nat → L2.St → Hp → Prop) (h0 : Pv 0 σ H) (hl : ∀ i σ H, i ≤ xs.length → Pv i σ H → SqT K H a xs)
    (hs : ∀ i x σ H, xs[i]? = some x → Pv i σ H → g x σ H fun σ2 H2 => tb ⟨Pv (i + 1), rt, nx, Pv (i + 1)⟩ σ2 H2) (hd : ∀ σ H, Pv xs.length σ H → nx σ H) :
    LoopG (Itt K a) g tb ⟨nx, rt, bk, ct⟩ σ H := for_tup (D := ⟨nx, rt, bk, ct⟩) Pv h0 hl hs hd
theorem lp_while (Pv : L2.St → Hp → Prop) (μ : L2.St → Hp → Nat) (h0 : Pv σ H)
    (hs : ∀ σ H, Pv σ H → c σ H fun b H1 => if b = true then (∃ N : L2.St → Hp → Prop, (∀ σ' H', N σ' H' → ∃ m', m' < μ σ H ∧ (m' = μ σ' H' ∧ Pv σ' H')) ∧ tb ⟨N, rt, nx, N⟩ σ H1) else nx σ H1) : tWhile c tb ⟨nx, rt, bk, ct⟩ σ H := by
  refine ⟨fun m σ H => m = μ σ H ∧ Pv σ H, ⟨_, rfl, h0⟩, ?_⟩
  rintro m σ H ⟨rfl, p⟩
  exact hs σ H p
theorem w_turn {Pv : L2.St → Hp → Prop} {μ : L2.St → Hp → Nat} {m : Nat} (h : tb ⟨fun σ' H' => Pv σ' H' ∧ μ σ' H' < m, rt, nx, fun σ' H' => Pv σ' H' ∧ μ σ' H' < m⟩ σ H) :
    ∃ N : L2.St → Hp → Prop, (∀ σ' H', N σ' H' → ∃ m', m' < m ∧ (m' = μ σ' H' ∧ Pv σ' H')) ∧ tb ⟨N, rt, nx, N⟩ σ H := ⟨_, fun σ' H' q => ⟨_, q.2, rfl, q.1⟩, h⟩
end
theorem call_divmodA {X : Cx} : CallR X (.builtin "divmod") (fun xs H Q => ∃ i j, xs = [.int i, .int j] ∧ CDivW i j ∧ ∀ p, H p = none → Q (.ref p) (upd H p (.tup [.int (i / j), .int (i % j)]))) := by
  intro pins s σ H xs us Q I r h
  obtain ⟨i, j, rfl, hc, q⟩ := h
  exact call_divmodW pins s σ H _ us Q I r ⟨i, j, rfl, ⟨hc.1, PyProof.noPylong_of_log2 hc.2⟩, q⟩
/-- a product one of whose factors is below 2 ^ 64 -/
theorem ml {i j : Int} (h1 : -(2 ^ 64) < i) (h2 : i < 2 ^ 64) : IntMulOk i j := CMul.ok (.inl ⟨h1, h2⟩)
theorem mr {i j : Int} (h1 : -(2 ^ 64) < j) (h2 : j < 2 ^ 64) : IntMulOk i j := CMul.ok (.inr ⟨h1, h2⟩)
theorem sz {n : Nat} (h : n ≤ 1000) : n ≤ sizeLine := Nat.le_trans h (by decide)
theorem szl {n : Nat} (h : n ≤ 1000) : n < sizeLine := Nat.lt_of_le_of_lt h (by decide)
theorem atI_map {ns : List Int} {i : Int} (h0 : 0 ≤ i) (h : i < ns.length) : atI (ns.map V.int) i = some (.int (ns.getD i.toNat 0)) := by
  obtain ⟨k, rfl⟩ := Int.eq_ofNat_of_zero_le h0
  refine atI_nat ?_
  have hk : k < ns.length := by omega
  rw [List.getElem?_map, List.getElem?_eq_getElem hk, Int.toNat_natCast, List.getD_eq_getElem?_getD, List.getElem?_eq_getElem hk] <;> rfl
theorem cut_map (ns : List Int) (lo hi : Option Int) : ∃ ms : List Int, cutV (ns.map V.int) lo hi = ms.map V.int ∧ ms.length ≤ ns.length := by
  refine ⟨(ns.drop (HT.sIx ns.length 0 lo)).take (HT.sIx ns.length ns.length hi - HT.sIx ns.length 0 lo), ?_, ?_⟩
  · unfold cutV
    rw [List.length_map, List.map_take, List.map_drop]
  · rw [List.length_take, List.length_drop]
    omega
theorem pickV {xs : List V} {i : Int} (h0 : 0 ≤ i) (h : i < xs.length) : ∃ v, atI xs i = some v ∧ v ∈ xs := by
  obtain ⟨k, rfl⟩ := Int.eq_ofNat_of_zero_le h0
  have hk : k < xs.length := by omega
  exact ⟨xs[k], atI_nat (List.getElem?_eq_getElem hk), List.getElem_mem hk⟩
theorem pickI (xs : List Int) {i : Int} (h0 : 0 ≤ i) (h : i < xs.length) : ∃ z, atI (xs.map V.int) i = some (.int z) ∧ z ∈ xs := by
  obtain ⟨v, e, m⟩ := pickV (xs := xs.map V.int) h0 (by rw [List.length_map]; exact h)
  obtain ⟨z, hz, rfl⟩ := List.mem_map.mp m
  exact ⟨z, e, hz⟩
/-- an item of a list of ints -/
theorem get_map {ns : List Int} {i : Nat} {y : V} (h : (ns.map V.int)[i]? = some y) : ∃ z, y = .int z ∧ ns[i]? = some z ∧ i < ns.length := by
  rw [List.getElem?_map] at h
  cases e : ns[i]? with
  | none =>
    rw [e] at h
    cases h
  | some z =>
    rw [e] at h
    exact ⟨z, (Option.some.inj h).symm, rfl, (List.getElem?_eq_some_iff.mp e).1⟩
/-- a divisor below 2 ^ 60 -/
theorem dv {i j : Int} (h1 : 0 < j) (h2 : j < 2 ^ 60) : CDivW i j := wide_div (b := 60) h1 (by omega) (by decide) (by decide)
end My

set_option Elab.async false
set_option linter.all false
set_option maxRecDepth 100000
set_option maxHeartbeats 4000000
/-! LayF: sizes of ints, texts of ints, more steps, comparisons of data, list comprehensions -/
namespace My
open PySem PySem.Builtin PySem.Builtin.Str PySem.Spec PyProof.Rows L2 SX
/-! ### sizes -/
def Bd (b : Nat) (i : Int) : Prop := i.natAbs < 2 ^ b
theorem Bd.of {b : Nat} {i : Int} (h1 : -(2 ^ b) < i) (h2 : i < 2 ^ b) : Bd b i := by
  have e : ((2 : Nat) ^ b : Int) = (2 : Int) ^ b := rfl
  unfold Bd
  have z : ((2 ^ b : Nat) : Int) = (2 : Int) ^ b := by push_cast; rfl
  omega
theorem Bd.mono {a b : Nat} {i : Int} (h : Bd a i) (hab : a ≤ b) : Bd b i := Nat.lt_of_lt_of_le h (Nat.pow_le_pow_right (by decide) hab)
theorem Bd.mul {a b : Nat} {i j : Int} (h : Bd a i) (k : Bd b j) : Bd (a + b) (i * j) := by
  unfold Bd at *
  rw [Int.natAbs_mul, Nat.pow_add]
  exact Nat.mul_lt_mul_of_lt_of_le h (Nat.le_of_lt k) (Nat.pow_pos (by decide))
theorem Bd.add {a b : Nat} {i j : Int} (h : Bd a i) (k : Bd b j) : Bd (a + b + 1) (i + j) := by
  unfold Bd at *
  have h1 : (2 : Nat) ^ a ≤ 2 ^ (a + b) := Nat.pow_le_pow_right (by decide) (by omega)
  have h2 : (2 : Nat) ^ b ≤ 2 ^ (a + b) := Nat.pow_le_pow_right (by decide) (by omega)
  have h3 : (2 : Nat) ^ (a + b + 1) = 2 ^ (a + b) * 2 := Nat.pow_succ ..
  omega
theorem Bd.neg {a : Nat} {i : Int} (h : Bd a i) : Bd a (-i) := by
  unfold Bd at *
  rw [Int.natAbs_neg]
  exact h
theorem Bd.sub {a b : Nat} {i j : Int} (h : Bd a i) (k : Bd b j) : Bd (a + b + 1) (i - j) := by
  rw [Int.sub_eq_add_neg]
  exact h.add k.neg
theorem Bd.le {a : Nat} {i j : Int} (h : Bd a i) (k : j.natAbs ≤ i.natAbs) : Bd a j := Nat.lt_of_le_of_lt k h
theorem Bd.quo {a : Nat} {i : Int} (h : Bd a i) (j : Int) : Bd a (i / j) := h.le (Int.natAbs_ediv_le_natAbs i j)
theorem Bd.rem {a : Nat} {i j : Int} (h : Bd a j) (h0 : 0 < j) : Bd a (i % j) := h.le (by
  have h1 := Int.emod_nonneg i (show j ≠ 0 by omega)
  have h2 := Int.emod_lt_of_pos i h0
  omega)
theorem Bd.mulOk {a b : Nat} {i j : Int} (h : Bd a i) (k : Bd b j) (h0 : 0 < a) (h1 : 0 < b) (hs : a + b ≤ 1000000) : IntMulOk i j := CMulW.ok (wide_mul h k h0 h1 hs)
theorem Bd.div {b : Nat} {i j : Int} (h : Bd b j) (hp : 0 < j) (h0 : 0 < b) (h9 : b ≤ 9000) : CDivW i j := wide_div hp h h0 h9
theorem Bd.lg {b : Nat} {i : Int} (h : Bd b i) (h0 : 0 < b) (h9 : b ≤ 1920) : i.natAbs.log2 < 1920 := Nat.lt_of_lt_of_le (PySem.Flt.log2_lt_of h0 h) h9
theorem Bd.ten {k : Nat} {i : Int} (h1 : -(10 ^ k) < i) (h2 : i < 10 ^ k) : Bd (4 * k) i := by
  unfold Bd
  have e : (2 : Nat) ^ (4 * k) = 16 ^ k := by rw [Nat.pow_mul] <;> rfl
  have l : (10 : Nat) ^ k ≤ 16 ^ k := Nat.pow_le_pow_left (by decide) k
  have z : ((10 ^ k : Nat) : Int) = (10 : Int) ^ k := by push_cast; rfl
  omega
/-! ### texts of ints -/
def intL (i : Int) : List Nat := if i < 0 then 45 :: TL.numL i.natAbs else TL.numL i.natAbs
theorem intL_neg {i : Int} (h : i < 0) : intL i = 45 :: TL.numL i.natAbs := if_pos h
theorem intL_nn {i : Int} (h : ¬ i < 0) : intL i = TL.numL i.natAbs := if_neg h
theorem txt_int (i : Int) : Str.ofString (toString i) = S (intL i) := by
  by_cases h : i < 0
  · obtain ⟨n, rfl⟩ : ∃ n : Nat, i = Int.negSucc n := by
      cases i with
      | ofNat n => exact absurd h (by simp)
      | negSucc n => exact ⟨n, rfl⟩
    rw [intL_neg h]
    refine TL.ext_tl ?_
    rw [TL.tl_ofString]
    have e : toString (Int.negSucc n) = "-" ++ toString (n + 1) := rfl
    rw [e, String.toList_append, List.map_append]
    have e2 := TL.tl_num (n + 1)
    rw [TL.tl_ofString] at e2
    have e3 : toString (((n + 1 : Nat)) : Int) = toString (n + 1) := rfl
    rw [e3] at e2
    rw [e2]
    rfl
  · obtain ⟨n, rfl⟩ := Int.eq_ofNat_of_zero_le (Int.not_lt.mp h)
    rw [intL_nn h, num_S, Int.natAbs_natCast]
theorem numL_first {n : Nat} (h : 0 < n) : ∃ c l, TL.numL n = c :: l ∧ c ≠ 48 := by
  induction n using Nat.strongRecOn with
  | _ n ih =>
    by_cases h10 : n < 10
    · exact ⟨48 + n, [], TL.numL_lt h10, by omega⟩
    · obtain ⟨c, l, e, hc⟩ := ih (n / 10) (by omega) (by omega)
      exact ⟨c, l ++ [48 + n % 10], by rw [TL.numL_step (by omega), e] <;> rfl, hc⟩
theorem intL_len {k : Nat} {i : Int} (hk : 0 < k) (h1 : -(10 ^ k) < i) (h2 : i < 10 ^ k) : (intL i).length ≤ k + 1 := by
  have z : ((10 ^ k : Nat) : Int) = (10 : Int) ^ k := by push_cast; rfl
  have hn : i.natAbs < 10 ^ k := by omega
  have l := TL.numL_len hk hn
  unfold intL
  split
  · rw [List.length_cons]
    omega
  · omega
theorem bd_numL {b : Nat} {n : Nat} (hb : 0 < b) (h : n < 2 ^ b) : (TL.numL n).length ≤ b := TL.numL_len hb (Nat.lt_of_lt_of_le h (Nat.pow_le_pow_left (by decide) b))
theorem bd_intL {b : Nat} {i : Int} (hb : 0 < b) (h : Bd b i) : (intL i).length ≤ b + 1 := by
  have l := bd_numL hb h
  unfold intL
  split
  · rw [List.length_cons]
    omega
  · omega
theorem intL_free {i : Int} {s : Nat} (h : s < 48 ∨ 57 < s) (h2 : s ≠ 45) : s ∉ intL i := by
  unfold intL
  split
  · intro z
    rcases List.mem_cons.mp z with z | z
    · exact h2 z
    · exact TL.numL_free h z
  · exact TL.numL_free h
theorem intL_ne (i : Int) : intL i ≠ [] := by
  unfold intL
  split
  · exact List.cons_ne_nil _ _
  · exact TL.numL_ne _
theorem intL_val {i : Int} (h : (intL i).length ≤ 4300) : intText? (S (intL i)) = some i := by
  by_cases hi : i < 0
  · rw [intL_neg hi] at h ⊢
    have e := PySem.intText_neg (x := S (45 :: TL.numL i.natAbs)) rfl (TL.numL_digits _) (TL.numL_ne _) (by rw [S_len]; exact h)
    rw [e, TL.numL_val]
    congr 1
    omega
  · rw [intL_nn hi] at h ⊢
    have e := PySem.intText_digits (x := S (TL.numL i.natAbs)) (TL.numL_digits _) (TL.numL_ne _) (by rw [S_len]; exact h)
    rw [e]
    show some ((PySem.NumText.digitsVal (TL.numL i.natAbs) : Nat) : Int) = some i
    rw [TL.numL_val]
    congr 1
    omega
theorem intL_inj {i j : Int} (h : intL i = intL j) : i = j := by
  have hd : ∀ n, ∃ c l, TL.numL n = c :: l ∧ 48 ≤ c := fun n => by
    have d := TL.numL_digits n
    have e := TL.numL_ne n
    revert d e
    generalize TL.numL n = q
    intro d e
    match q, d, e with
    | [], _, e => exact (e rfl).elim
    | c :: l, d, _ => exact ⟨c, l, rfl, (d c (List.mem_cons_self ..)).1⟩
  unfold intL at h
  split at h <;> split at h
  · have e := TL.numL_inj (List.cons.inj h).2
    omega
  · obtain ⟨c, l, e, hc⟩ := hd j.natAbs
    rw [e] at h
    have := (List.cons.inj h).1
    omega
  · obtain ⟨c, l, e, hc⟩ := hd i.natAbs
    rw [e] at h
    have := (List.cons.inj h).1
    omega
  · have e := TL.numL_inj h
    omega
theorem starts1 (c d : Nat) (l : List Nat) : Txt.startswith (S (c :: l)) (S [d]) = decide (c = d) := by
  unfold Txt.startswith
  rw [S_len, S_len]
  have e1 : decide (0 + [d].length ≤ (c :: l).length) = true := decide_eq_true (by simp)
  rw [e1, Bool.true_and]
  have e2 : subAt (S (c :: l)) (S [d]) 0 = (c == d) := by
    unfold subAt
    simp [S, Str.length]
  rw [e2]
  cases h : (c == d) with
  | true => rw [decide_eq_true (eq_of_beq h)]
  | false => rw [decide_eq_false (by intro z; rw [z, beq_self_eq_true] at h; cases h)]
theorem isdig {l : List Nat} (h : PySem.NumText.AllDigits l) (hn : l ≠ []) : Txt.isdigit (S l) = true := by
  unfold Txt.isdigit
  have e1 : decide ((S l).length > 0) = true := decide_eq_true (by rw [S_len]; exact List.length_pos_iff.mpr hn)
  rw [e1, Bool.true_and]
  show (S l).cps.all Unicode.isDigit = true
  rw [← Array.all_toList, List.all_eq_true]
  intro c hc
  have hc2 : c ∈ l := hc
  obtain ⟨a, b⟩ := h c hc2
  have all : ∀ k : Nat, k < 10 → Unicode.isDigit (48 + k) = true := by decide +kernel
  have := all (c - 48) (by omega)
  rwa [show 48 + (c - 48) = c by omega] at this
theorem cut_tail (c : Nat) (l : List Nat) : cutS (S (c :: l)) (some 1) none = S l := by
  unfold cutS
  refine congrArg S ?_
  rw [S_len]
  show List.take (HT.sIx (c :: l).length (c :: l).length none - HT.sIx (c :: l).length 0 (some 1)) (List.drop (HT.sIx (c :: l).length 0 (some 1)) (c :: l)) = l
  have e1 : HT.sIx (c :: l).length 0 (some 1) = 1 := by
    simp [HT.sIx]
  have e2 : HT.sIx (c :: l).length (c :: l).length none = l.length + 1 := by
    simp [HT.sIx]
  rw [e1, e2]
  simp
theorem split1 {p : List Nat} {c : Nat} (hk : c < 256) (h : c ∉ p) : Txt.split (S p) (S [c]) = [S p] := by
  rw [split_S (List.cons_ne_nil _ _) (by simp [hk])]
  have e := spl_join (c := c) (sep := []) (parts := [p]) (List.cons_ne_nil _ _) (by simpa using h)
  have j : TL.joinL [c] [p] = p := by simp [TL.joinL]
  rw [j] at e
  rw [e]
  rfl
theorem split2 {p q : List Nat} {c : Nat} (hk : c < 256) (h : c ∉ p) (h2 : c ∉ q) : Txt.split (S (p ++ c :: q)) (S [c]) = [S p, S q] := by
  rw [split_S (List.cons_ne_nil _ _) (by simp [hk])]
  have e := spl_join (c := c) (sep := []) (parts := [p, q]) (List.cons_ne_nil _ _) (by simp [h, h2])
  have j : TL.joinL [c] [p, q] = p ++ c :: q := by simp [TL.joinL]
  rw [j] at e
  rw [e]
  rfl
theorem cat_S (a b : Str) : a ++ b = S (a.cps.toList ++ b.cps.toList) := TL.ext_tl (TL.tl_append a b)
theorem lcat (a b : Str) : (a ++ b).length = a.length + b.length := by
  rw [cat_S, S_len, List.length_append]
  rfl
theorem at_new {H : Hp} {a l : Addr} {o u : HO} (n : H l = none) (h : H a = some o) : upd H l u a = some o := (upd_ne (ne_of_none h n)).trans h
theorem at_or {H : Hp} {a l : Addr} {o u : HO} (h : H a = some o) (n : H l = none ∨ a ≠ l) : upd H l u a = some o := n.elim (fun n => at_new n h) fun n => (upd_ne n).trans h
theorem abs_nat (i : Int) : (if i < 0 then -i else i) = (i.natAbs : Int) := by split <;> omega
theorem same_made {H H' : Hp} {x dx C : Addr} {fs : List (Str × V)} (h1 : H x = none) (h2 : H dx = none) (b : But x (upd (upd H dx (.own x)) x (.ins C dx fs)) H') : Same H H' := fun q o h => by
  have q1 : q ≠ x := ne_of_none h h1
  have q2 : q ≠ dx := ne_of_none h h2
  exact b q o q1 (by rw [upd_ne q1, upd_ne q2]; exact h)
theorem sq_but {K : PySem.W.Frag} {H H1 H2 : Hp} {a p : Addr} {xs : List V} (h : SqL K H a xs) (n : H p = none) (s : Same H H1) (b : But p H1 H2) : SqL K H2 a xs := by
  rcases h with (h | ⟨o, h⟩) | h
  · exact .inl (.inl (b _ _ (ne_of_none h n) (s _ _ h)))
  · exact .inl (.inr ⟨o, b _ _ (ne_of_none h n) (s _ _ h)⟩)
  · exact .inr h
/-! ### more steps -/
section
variable {K : PySem.W.Frag} {σ : L2.St} {H : Hp} {nx bk ct : L2.St → Hp → Prop} {rt : VK} {ta tb tc te tv tl : TE} {Q : VK} {t u : TS} {g : TG} {tA tk : TA} {c d : TT} {R : Bool → Hp → Prop} {RA : List V → Hp → Prop} {N : L2.St → Hp → Prop} {C : Addr} {sp : Sp} {dvs : List V} {E : XK}
theorem r_fmt (h : te σ H fun x H1 => (∃ y : Str, x = .str y ∧ y.length ≤ sizeLine ∧ Q (.str y) H1) ∨ ∃ i : Int, x = .int i ∧ i.natAbs.log2 < 1920 ∧ Q (.str (toString i)) H1) : tFmt te σ H Q := h
theorem r_fmti {i : Int} {A : Prop} {F : Int → Prop} (h : i.natAbs.log2 < 1920) (q : F i) : A ∨ ∃ j : Int, V.int i = .int j ∧ j.natAbs.log2 < 1920 ∧ F j := .inr ⟨i, rfl, h, q⟩
theorem r_fmts {y : Str} {A : Prop} {F : Str → Prop} (h : y.length ≤ 1000) (q : F y) : (∃ z : Str, V.str y = .str z ∧ z.length ≤ sizeLine ∧ F z) ∨ A := .inl ⟨y, rfl, sz h, q⟩
theorem r_js0 {acc : Str} {F : Str → Hp → Prop} (h : F acc H) : tJs [] acc σ H F := h
theorem r_js {ts : List TE} {acc : Str} {F : Str → Hp → Prop} (h : te σ H fun x H1 => ∃ y : Str, x = .str y ∧ (acc ++ y).length ≤ sizeLine ∧ tJs ts (acc ++ y) σ H1 F) : tJs (te :: ts) acc σ H F := h
theorem r_jsp {acc y : Str} {F : Str → Prop} (h : (acc ++ y).length ≤ 1000) (q : F y) : ∃ z : Str, V.str y = .str z ∧ (acc ++ z).length ≤ sizeLine ∧ F z := ⟨y, rfl, sz h, q⟩
theorem r_strI {i : Int} {F : Int → Prop} (h : i.natAbs.log2 < 1920) (q : F i) : ∃ j : Int, ([V.int i] : List V) = [.int j] ∧ j.natAbs.log2 < 1920 ∧ F j := ⟨i, rfl, h, q⟩
theorem r_m0 {r : V → List V → Hp → VK → Prop} (h : ta σ H fun x H1 => (∃ a, x = .str a) ∧ r x [] H1 Q) : tM0 r ta σ H Q := h
theorem r_m1 {r : V → List V → Hp → VK → Prop} (h : ta σ H fun x H1 => (∃ a, x = .str a) ∧ tb σ H1 fun y H2 => r x [y] H2 Q) : tM1 r ta tb σ H Q := h
theorem r_str {a : Str} {B : Prop} (h : B) : (∃ b, V.str a = .str b) ∧ B := ⟨⟨a, rfl⟩, h⟩
theorem r_ss {a b : Str} {F : Str → Str → Prop} (h : F a b) : ∃ x y, V.str a = .str x ∧ ([V.str b] : List V) = [.str y] ∧ F x y := ⟨a, b, rfl, rfl, h⟩
theorem r_s0 {a : Str} {F : Str → Prop} (h : F a) : ∃ x, V.str a = .str x ∧ ([] : List V) = [] ∧ True ∧ F x := ⟨a, rfl, rfl, trivial, h⟩
theorem r_addS {a b : Str} {F : Str → Str → Prop} (h : a.length + b.length ≤ 1000) (q : F a b) : ∃ x y, V.str a = .str x ∧ V.str b = .str y ∧ x.length + y.length ≤ sizeLine ∧ F x y := ⟨a, b, rfl, rfl, sz h, q⟩
theorem r_slS {z : Str} {lo hi : Option Int} (h : z.length ≤ 1000) (q : Q (.str (cutS z lo hi)) H) : rSlS (.str z) lo hi H Q := ⟨z, rfl, sz h, q⟩
theorem r_lenT {z : Str} {F : Str → Prop} (h : z.length ≤ 1000) (q : F z) : ∃ y, ([V.str z] : List V) = [.str y] ∧ y.length ≤ sizeLine ∧ F y := ⟨z, rfl, sz h, q⟩
theorem r_intS {a : Str} {n : Int} {F : Int → Prop} (h : intText? a = some n) (hl : a.length ≤ 640) (q : F n) : ∃ b m, ([V.str a] : List V) = [.str b] ∧ intText? b = some m ∧ b.length ≤ 640 ∧ F m := ⟨a, n, rfl, h, hl, q⟩
theorem r_prop {a dx : Addr} {fs : List (Str × V)} (h : ta σ H fun x H1 => ∃ a dx fs, x = .ref a ∧ H1 a = some (.ins C dx fs) ∧ sp (.ref a :: dvs) H1 Q E) : tProp C sp dvs E ta σ H Q := h
theorem r_tprop (h : ta σ H fun x H1 => ∃ a dx fs, x = .ref a ∧ H1 a = some (.ins C dx fs) ∧ sp (.ref a :: dvs) H1 Q E) : tProp C sp dvs E ta σ H Q := h
theorem f_prop {a dx : Addr} {fs : List (Str × V)} {F : Addr → Prop} (h : H a = some (.ins C dx fs)) (q : F a) : ∃ a' dx' fs', V.ref a = .ref a' ∧ H a' = some (.ins C dx' fs') ∧ F a' := ⟨a, dx, fs, rfl, h, q⟩
theorem r_tmeth {m : Str} (h : ta σ H fun x H1 => ∃ a dx fs, x = .ref a ∧ H1 a = some (.ins C dx fs) ∧ fs.lookup m = none ∧ tA σ H1 fun vs H2 => sp (x :: (vs ++ dvs)) H2 Q E) : tMeth C m sp dvs E ta tA σ H Q := h
theorem f_meth {m : Str} {a dx : Addr} {fs : List (Str × V)} {B : Prop} (h : H a = some (.ins C dx fs)) (n : fs.lookup m = none) (q : B) : ∃ a' dx' fs', V.ref a = .ref a' ∧ H a' = some (.ins C dx' fs') ∧ fs'.lookup m = none ∧ B := ⟨a, dx, fs, rfl, h, n, q⟩
theorem r_tcm (h : ta σ H fun x H1 => x = .ref C ∧ tA σ H1 fun vs H2 => sp (.ref C :: vs) H2 Q E) : ClX.tCMeth C sp E ta tA σ H Q := h
theorem r_rr {v : V} {B : Prop} (h : B) : v = v ∧ B := ⟨rfl, h⟩
theorem r_makeK {n m : Nat} {gV : List V → List V → List V} (h : tA σ H fun vs H1 => tk σ H1 fun zs H2 => vs.length = n ∧ zs.length = m ∧ ∀ x dx, H2 x = none → H2 dx = none → dx ≠ x → sp (gV (.ref x :: vs) zs) (upd (upd H2 dx (.own x)) x (.ins C dx [])) (fun v H3 => v = .non ∧ Q (.ref x) H3) E) : tMakeK C n m sp gV E tA tk σ H Q := h
theorem r_callN {n m : Nat} {gV : List V → List V → List V} (h : tA σ H fun vs H1 => tk σ H1 fun zs H2 => vs.length = n ∧ zs.length = m ∧ sp (gV vs zs) H2 Q E) : tCallN n m sp gV E tA tk σ H Q := h
theorem f_strOwn {a dx : Addr} {fs : List (Str × V)} (h : H a = some (.ins C dx fs)) (q : sp [.ref a] H (fun v H' => ∃ y : Str, v = .str y ∧ Q v H') E0) : rStrOwn C sp [.ref a] H Q := ⟨a, dx, fs, rfl, h, q⟩
theorem f_str {y : Str} {H : Hp} (q : Q (.str y) H) : ∃ z : Str, V.str y = .str z ∧ Q (.str y) H := ⟨y, rfl, q⟩
theorem r_sfld {f : Str} (h : tv σ H fun y H1 => ta σ H1 fun x H2 => ∃ a C dx fs, x = .ref a ∧ H2 a = some (.ins C dx fs) ∧ Cls K C ∧ NoAttr K C f ∧ fs.length < 1000 ∧ nx σ (upd H2 a (.ins C dx (putF f y fs)))) : sFld K ta tv f ⟨nx, rt, bk, ct⟩ σ H := h
theorem f_sfld {f : Str} {a dx : Addr} {fs : List (Str × V)} {F : Addr → Addr → Addr → List (Str × V) → Prop} (h : H a = some (.ins C dx fs)) (c : Cls K C) (n : NoAttr K C f) (l : fs.length < 1000) (q : F a C dx fs) :
    ∃ a' C' dx' fs', V.ref a = .ref a' ∧ H a' = some (.ins C' dx' fs') ∧ Cls K C' ∧ NoAttr K C' f ∧ fs'.length < 1000 ∧ F a' C' dx' fs' := ⟨a, C, dx, fs, rfl, h, c, n, l, q⟩
theorem r_inT {p : Addr} {xs : List V} {v : V} {neg : Bool} (h : SqT K H p xs) (f : (flatV v && xs.all flatV) = true) (e : (if neg then !inV v xs else inV v xs) = true) (q : Q (.bl true) H) : rIn K neg v (.ref p) H Q := by
  rw [Bool.and_eq_true] at f
  exact ⟨p, xs, rfl, .inr h, f.1, f.2, by rw [e]; exact q⟩
theorem r_inF {p : Addr} {xs : List V} {v : V} {neg : Bool} (h : SqT K H p xs) (f : (flatV v && xs.all flatV) = true) (e : (if neg then !inV v xs else inV v xs) = false) (q : Q (.bl false) H) : rIn K neg v (.ref p) H Q := by
  rw [Bool.and_eq_true] at f
  exact ⟨p, xs, rfl, .inr h, f.1, f.2, by rw [e]; exact q⟩
theorem r_eqD {x y : V} {d e : PyData} {b : Bool} (h1 : Dp K H x d) (h2 : Dp K H y e) (s1 : SeqAt.shaped d = true) (s2 : SeqAt.shaped e = true) (hb : PyData.eqv d e = b) (q : Q (.bl b) H) : rEqD K x y H Q := ⟨d, e, h1, h2, s1, s2, by rw [hb]; exact q⟩
theorem r_neD {x y : V} {d e : PyData} {b : Bool} (h1 : Dp K H x d) (h2 : Dp K H y e) (s1 : SeqAt.shaped d = true) (s2 : SeqAt.shaped e = true) (hb : PyData.eqv d e = b) (q : Q (.bl (!b)) H) : rNeD K x y H Q := ⟨d, e, h1, h2, s1, s2, by rw [hb]; exact q⟩
/-! lists of ints, of texts as data -/
theorem dp_ints : ∀ ns : List Int, DpAll K H (ns.map V.int) (ns.map PyData.int)
  | [] => .nil
  | n :: ns => .cons (.int n) (dp_ints ns)
theorem dp_strs : ∀ ns : List Str, DpAll K H (ns.map V.str) (ns.map PyData.str)
  | [] => .nil
  | n :: ns => .cons (.str n) (dp_strs ns)
theorem eqv_ints : ∀ ns ms : List Int, PyData.eqvAll (ns.map PyData.int) (ms.map PyData.int) = decide (ns = ms)
  | [], [] => by simp [PyData.eqvAll]
  | [], _ :: _ => by simp [PyData.eqvAll]
  | _ :: _, [] => by simp [PyData.eqvAll]
  | n :: ns, m :: ms => by
    rw [List.map_cons, List.map_cons, PyData.eqvAll, eqv_ints ns ms, PyData.eqv]
    by_cases h : n = m
    · subst h
      simp
    · have e : (n == m) = false := by simp [h]
      rw [e]
      simp [h]
theorem eqv_strs : ∀ ns ms : List Str, PyData.eqvAll (ns.map PyData.str) (ms.map PyData.str) = decide (ns = ms)
  | [], [] => by simp [PyData.eqvAll]
  | [], _ :: _ => by simp [PyData.eqvAll]
  | _ :: _, [] => by simp [PyData.eqvAll]
  | n :: ns, m :: ms => by
    rw [List.map_cons, List.map_cons, PyData.eqvAll, eqv_strs ns ms, PyData.eqv]
    by_cases h : n = m
    · subst h
      simp
    · have e : (n == m) = false := by simp [h]
      rw [e]
      simp [h]
theorem lay_ints : ∀ ns : List Int, PyData.canLayAll0 (ns.map PyData.int) = true
  | [] => by simp [PyData.canLayAll0]
  | n :: ns => by rw [List.map_cons, PyData.canLayAll0, lay_ints ns, PyData.canLay0] <;> rfl
theorem dep_ints : ∀ ns : List Int, PyData.depthAll (ns.map PyData.int) ≤ 1
  | [] => by simp [PyData.depthAll]
  | n :: ns => by
    have := dep_ints ns
    rw [List.map_cons, PyData.depthAll, PyData.depth]
    omega
theorem shp_ints (ns : List Int) : SeqAt.shaped (.list (ns.map PyData.int)) = true := by
  unfold SeqAt.shaped
  rw [PyData.canLay0, lay_ints, Bool.true_and, decide_eq_true_eq, PyData.depth]
  have := dep_ints ns
  omega
theorem lay_strs : ∀ ns : List Str, (∀ s ∈ ns, PyData.strOk s = true) → PyData.canLayAll0 (ns.map PyData.str) = true
  | [], _ => by simp [PyData.canLayAll0]
  | n :: ns, h => by rw [List.map_cons, PyData.canLayAll0, lay_strs ns (fun s hs => h s (List.mem_cons_of_mem _ hs)), PyData.canLay0, h n (List.mem_cons_self ..)] <;> rfl
theorem dep_strs : ∀ ns : List Str, PyData.depthAll (ns.map PyData.str) ≤ 1
  | [] => by simp [PyData.depthAll]
  | n :: ns => by
    have := dep_strs ns
    rw [List.map_cons, PyData.depthAll, PyData.depth]
    omega
theorem shp_strs (ns : List Str) (h : ∀ s ∈ ns, PyData.strOk s = true) : SeqAt.shaped (.list (ns.map PyData.str)) = true := by
  unfold SeqAt.shaped
  rw [PyData.canLay0, lay_strs ns h, Bool.true_and, decide_eq_true_eq, PyData.depth]
  have := dep_strs ns
  omega
theorem strOk_S {l : List Nat} (h : ∀ c ∈ l, c < 0x110000) : PyData.strOk (S l) = true := by
  unfold PyData.strOk
  rw [← Array.all_toList, List.all_eq_true]
  intro c hc
  exact decide_eq_true (h c hc)
theorem r_eqI {a b : Addr} {xs ys : List V} (ns ms : List Int) (h1 : SqL K H a xs) (h2 : SqL K H b ys) (e1 : xs = ns.map V.int) (e2 : ys = ms.map V.int) (q : Q (.bl (decide (ns = ms))) H) : rEqD K (.ref a) (.ref b) H Q := by
  subst e1 e2
  exact r_eqD (.lst h1 (dp_ints ns)) (.lst h2 (dp_ints ms)) (shp_ints ns) (shp_ints ms) (by rw [PyData.eqv]; exact eqv_ints ns ms) q
theorem r_neI {a b : Addr} {xs ys : List V} (ns ms : List Int) (h1 : SqL K H a xs) (h2 : SqL K H b ys) (e1 : xs = ns.map V.int) (e2 : ys = ms.map V.int) (q : Q (.bl (!decide (ns = ms))) H) : rNeD K (.ref a) (.ref b) H Q := by
  subst e1 e2
  exact r_neD (.lst h1 (dp_ints ns)) (.lst h2 (dp_ints ms)) (shp_ints ns) (shp_ints ms) (by rw [PyData.eqv]; exact eqv_ints ns ms) q
theorem r_neS {a b : Addr} {xs ys : List V} (ns ms : List Str) (h1 : SqL K H a xs) (h2 : SqL K H b ys) (e1 : xs = ns.map V.str) (e2 : ys = ms.map V.str) (s1 : ∀ s ∈ ns, PyData.strOk s = true) (s2 : ∀ s ∈ ms, PyData.strOk s = true) (q : Q (.bl (!decide (ns = ms))) H) : rNeD K (.ref a) (.ref b) H Q := by
  subst e1 e2
  exact r_neD (.lst h1 (dp_strs ns)) (.lst h2 (dp_strs ms)) (shp_strs ns s1) (shp_strs ms s2) (by rw [PyData.eqv]; exact eqv_strs ns ms) q
theorem r_neIt {a b : Addr} {xs ys : List V} (ns : List Int) (h1 : SqL K H a xs) (h2 : SqL K H b ys) (e1 : xs = ns.map V.int) (e2 : ys = ns.map V.int) (q : Q (.bl false) H) : rNeD K (.ref a) (.ref b) H Q := r_neI ns ns h1 h2 e1 e2 (by rw [decide_eq_true rfl]; exact q)
theorem r_eqIt {a b : Addr} {xs ys : List V} (ns : List Int) (h1 : SqL K H a xs) (h2 : SqL K H b ys) (e1 : xs = ns.map V.int) (e2 : ys = ns.map V.int) (q : Q (.bl true) H) : rEqD K (.ref a) (.ref b) H Q := r_eqI ns ns h1 h2 e1 e2 (by rw [decide_eq_true rfl]; exact q)
theorem r_neSt {a b : Addr} {xs ys : List V} (ns : List Str) (h1 : SqL K H a xs) (h2 : SqL K H b ys) (e1 : xs = ns.map V.str) (e2 : ys = ns.map V.str) (s1 : ∀ s ∈ ns, PyData.strOk s = true) (q : Q (.bl false) H) : rNeD K (.ref a) (.ref b) H Q := r_neS ns ns h1 h2 e1 e2 s1 s1 (by rw [decide_eq_true rfl]; exact q)
/-! list comprehensions over a list -/
/-- what is left of a list comprehension once it is known what is walked -/
def LcG (J : It) (g : TG) (tt : TT) (te : TE) (vs : List Nat) (σ : L2.St) (H : Hp) (Q : VK) : Prop := tLc (fun _ H R => R J H) g tt te vs σ H Q
theorem r_lcL {tt : TT} {vs : List Nat} (h : tl σ H fun x H1 => ∃ a, x = .ref a ∧ (∃ xs, SqL K H1 a xs) ∧ LcG (Itl K a) g tt te vs σ H1 Q) : tLc (iList K tl) g tt te vs σ H Q := h
theorem r_lcT {tt : TT} {vs : List Nat} (h : tl σ H fun x H1 => ∃ a, x = .ref a ∧ (∃ xs, SqT K H1 a xs) ∧ LcG (Itt K a) g tt te vs σ H1 Q) : tLc (iTup K tl) g tt te vs σ H Q := h
theorem r_lcR1 {tt : TT} {vs : List Nat} (h : tA σ H fun ws H1 => ∃ j : Int, ws = [.int j] ∧ -(2 ^ 62) ≤ j ∧ j < 2 ^ 62 ∧ LcG (Itr 0 j.toNat) g tt te vs σ H1 Q) : tLc (iRng1 tA) g tt te vs σ H Q := h
theorem r_lcR2 {tt : TT} {vs : List Nat} (h : tA σ H fun ws H1 => ∃ i j : Int, ws = [.int i, .int j] ∧ (-(2 ^ 62) ≤ i ∧ i < 2 ^ 62 ∧ -(2 ^ 62) ≤ j ∧ j < 2 ^ 62) ∧ LcG (Itr i (j - i).toNat) g tt te vs σ H1 Q) : tLc (iRng2 tA) g tt te vs σ H Q := h
theorem lc_list {tt : TT} {vs : List Nat} {a : Addr} {xs : List V} (Pv : Nat → Addr → Hp → Prop) (h0 : ∀ D, H D = none → Pv 0 D (upd H D (.lst []))) (hl : ∀ i D H, i ≤ xs.length → Pv i D H → SqL K H a xs)
    (hs : ∀ i x D H, xs[i]? = some x → Pv i D H → g x (wipe σ vs) H fun σ2 H2 => wipe σ2 vs = wipe σ vs ∧ tt σ2 H2 fun b H3 => if b = true then te σ2 H3 fun y H4 => ∃ acc, H4 D = some (.lst acc) ∧ acc.length < sizeLine ∧ Pv (i + 1) D (upd H4 D (.lst (acc ++ [y]))) else Pv (i + 1) D H3)
    (hd : ∀ D H, Pv xs.length D H → Q (.ref D) H) : LcG (Itl K a) g tt te vs σ H Q := by
  intro D hD
  refine ⟨fun i m H => m = xs.length - i ∧ i ≤ xs.length ∧ Pv i D H, ⟨_, rfl, Nat.zero_le _, h0 D hD⟩, ?_⟩
  rintro i m H ⟨rfl, hi, p⟩
  have q := hl i D H hi p
  by_cases hlt : i < xs.length
  · refine .inr ⟨⟨xs, xs[i], q, by simp [hlt]⟩, fun H' => Pv (i + 1) D H', fun H' p' => ⟨xs.length - (i + 1), by omega, rfl, hlt, p'⟩, ?_⟩
    rintro x H' ⟨rfl, y⟩
    exact hs i x D _ (y xs q) p
  · have e : i = xs.length := by omega
    subst e
    exact .inl ⟨⟨xs, q, Nat.le_refl _⟩, hd D H p⟩
theorem lc_tup {tt : TT} {vs : List Nat} {a : Addr} {xs : List V} (Pv : Nat → Addr → Hp → Prop) (h0 : ∀ D, H D = none → Pv 0 D (upd H D (.lst []))) (hl : ∀ i D H, i ≤ xs.length → Pv i D H → SqT K H a xs)
    (hs : ∀ i x D H, xs[i]? = some x → Pv i D H → g x (wipe σ vs) H fun σ2 H2 => wipe σ2 vs = wipe σ vs ∧ tt σ2 H2 fun b H3 => if b = true then te σ2 H3 fun y H4 => ∃ acc, H4 D = some (.lst acc) ∧ acc.length < sizeLine ∧ Pv (i + 1) D (upd H4 D (.lst (acc ++ [y]))) else Pv (i + 1) D H3)
    (hd : ∀ D H, Pv xs.length D H → Q (.ref D) H) : LcG (Itt K a) g tt te vs σ H Q := by
  intro D hD
  refine ⟨fun i m H => m = xs.length - i ∧ i ≤ xs.length ∧ Pv i D H, ⟨_, rfl, Nat.zero_le _, h0 D hD⟩, ?_⟩
  rintro i m H ⟨rfl, hi, p⟩
  have q := hl i D H hi p
  by_cases hlt : i < xs.length
  · refine .inr ⟨⟨xs, xs[i], q, by simp [hlt]⟩, fun H' => Pv (i + 1) D H', fun H' p' => ⟨xs.length - (i + 1), by omega, rfl, hlt, p'⟩, ?_⟩
    rintro x H' ⟨rfl, y⟩
    exact hs i x D _ (y xs q) p
  · have e : i = xs.length := by omega
    subst e
    exact .inl ⟨⟨xs, q, Nat.le_refl _⟩, hd D H p⟩
theorem lc_range {tt : TT} {vs : List Nat} {lo : Int} {n : Nat} (Pv : Nat → Addr → Hp → Prop) (h0 : ∀ D, H D = none → Pv 0 D (upd H D (.lst [])))
    (hs : ∀ i D H, i < n → Pv i D H → g (.int (lo + i)) (wipe σ vs) H fun σ2 H2 => wipe σ2 vs = wipe σ vs ∧ tt σ2 H2 fun b H3 => if b = true then te σ2 H3 fun y H4 => ∃ acc, H4 D = some (.lst acc) ∧ acc.length < sizeLine ∧ Pv (i + 1) D (upd H4 D (.lst (acc ++ [y]))) else Pv (i + 1) D H3)
    (hd : ∀ D H, Pv n D H → Q (.ref D) H) : LcG (Itr lo n) g tt te vs σ H Q := by
  intro D hD
  refine ⟨fun i m H => m = n - i ∧ i ≤ n ∧ Pv i D H, ⟨_, rfl, Nat.zero_le _, h0 D hD⟩, ?_⟩
  rintro i m H ⟨rfl, hi, p⟩
  by_cases hlt : i < n
  · refine .inr ⟨hlt, fun H' => Pv (i + 1) D H', fun H' p' => ⟨n - (i + 1), by omega, rfl, hlt, p'⟩, ?_⟩
    rintro x H' ⟨rfl, rfl⟩
    exact hs i D _ hlt p
  · have e : i = n := by omega
    subst e
    exact .inl ⟨Nat.le_refl _, hd D H p⟩
theorem r_bl1 {b : Bool} {F : Bool → Prop} (h : F b) : ∃ k, ([V.bl b] : List V) = [.bl k] ∧ F k := ⟨b, rfl, h⟩
theorem r_yes {R : Bool → Hp → Prop} (h : R true H) : tYes σ H R := h
theorem r_chain {r r' : R2} (h : ta σ H fun x H1 => tb σ H1 fun y H2 => r x y H2 fun z H3 => ∃ k, z = .bl k ∧ (if k = true then tc σ H3 fun w' H4 => r' y w' H4 Q else Q (.bl false) H3)) : tChain r r' ta tb tc σ H Q := h
/-- both arms of an if-expression give one value -/
theorem r_join {p : Prop} [Decidable p] (v : V) (q : Q v H) (h1 : p → ∀ Q' : VK, Q' v H → ta σ H Q') (h2 : ¬ p → ∀ Q' : VK, Q' v H → tb σ H Q') : if decide p = true then ta σ H Q else tb σ H Q := i_two (fun h => h1 h Q q) (fun h => h2 h Q q)
theorem strOk_cat {a b : Str} (h1 : PyData.strOk a = true) (h2 : PyData.strOk b = true) : PyData.strOk (a ++ b) = true := by
  rw [cat_S]
  refine strOk_S fun c hc => ?_
  have f : ∀ {x : Str}, PyData.strOk x = true → ∀ c ∈ x.cps.toList, c < 0x110000 := fun {x} hx c hc => by
    unfold PyData.strOk at hx
    rw [← Array.all_toList, List.all_eq_true] at hx
    exact of_decide_eq_true (hx c hc)
  rcases List.mem_append.mp hc with z | z
  · exact f h1 c z
  · exact f h2 c z
theorem strOk_int (i : Int) : PyData.strOk (S (intL i)) = true := strOk_S fun c hc => by
  have d : ∀ c ∈ TL.numL i.natAbs, c < 0x110000 := fun c hc => by
    have := (TL.numL_digits i.natAbs c hc).2
    omega
  unfold intL at hc
  split at hc
  · rcases List.mem_cons.mp hc with z | z
    · omega
    · exact d c z
  · exact d c hc
end
end My
namespace My
open PySem PySem.Spec PyProof.Rows L2
theorem ni_non {i : Int} : ¬ (V.int i = V.non) := fun h => V.noConfusion h
theorem nr_non {a : Addr} : ¬ (V.ref a = V.non) := fun h => V.noConfusion h
theorem ns_non {x : Str} : ¬ (V.str x = V.non) := fun h => V.noConfusion h
end My

/-! ### readings whose Frag is written out: within a comprehension's block, too -/
namespace My
open PySem PySem.Spec PyProof.Rows L2
section
variable {K : PySem.W.Frag} {X : Cx}
theorem call_isiK (h : X.K = K) : CallR X (.builtin "isinstance") (rIsi K) := by subst h; exact call_isi
theorem call_lenK (h : X.K = K) : CallR X (.builtin "len") (fun xs H Q => ∃ p ys, xs = [.ref p] ∧ (SqL K H p ys ∨ SqT K H p ys) ∧ Q (.int ys.length) H) := by subst h; exact call_len_seq
theorem call_listK (h : X.K = K) : CallR X (.type "list") (fun xs H Q => ∃ p ys, xs = [.ref p] ∧ (SqL K H p ys ∨ SqT K H p ys) ∧ ∀ l, H l = none → Q (.ref l) (upd H l (.lst ys))) := by subst h; exact call_list_of
theorem call_tupleK (h : X.K = K) : CallR X (.type "tuple") (fun xs H Q => ∃ p ys, xs = [.ref p] ∧ ((SqL K H p ys ∧ ∀ l, H l = none → Q (.ref l) (upd H l (.tup ys))) ∨ (SqT K H p ys ∧ Q (.ref p) H))) := by subst h; exact call_tuple_of
theorem call_reprK {j : Nat} (h : X.K = K) (hr : RG j X.A) : CallR X (.builtin "repr") (rRepr K) := by subst h; exact call_reprD hr
theorem ix_listK (h : X.K = K) : IxR X (rIxL K) := by subst h; exact ix_list
theorem ix_tupK (h : X.K = K) : IxR X (rIxT K) := by subst h; exact ix_tup
theorem sl_listK (h : X.K = K) : SlR X (rSlL K) := by subst h; exact sl_list
theorem sl_tupK (h : X.K = K) : SlR X (rSlA K) := by subst h; exact sl_tupA
theorem op_eqDK (h : X.K = K) (hu : X.A.units + 64 < cLine) : OpR X (compareOp .Eq) (rEqD K) := by subst h; exact op_eqD hu
theorem op_neDK (h : X.K = K) (hu : X.A.units + 64 < cLine) : OpR X (compareOp .NotEq) (rNeD K) := by subst h; exact op_neD hu
theorem op_inK (h : X.K = K) : OpR X (compareOp .In) (rIn K false) := by subst h; exact op_in_seq
theorem op_notInK (h : X.K = K) : OpR X (compareOp .NotIn) (rIn K true) := by subst h; exact op_notIn_seq
theorem op_catK (h : X.K = K) : OpR X (binaryOp .Add) (rCatA K) := by subst h; exact op_catA
theorem pe_fldK {e : Expr} {ta : TE} {f : Str} {pos : Pos} (h : X.K = K) (he : PE X e ta) (hb : attributeBase e f X.env (eval e X.env) = eval e X.env) : PE X (.Attribute e f pos) (tFld K ta f) := by subst h; exact pe_fld he hb
theorem pi_listK {tg l : Expr} {tl : TE} (h : X.K = K) (hl : PE X l tl) : PI X tg l (iList K tl) := by subst h; exact pi_list hl
theorem pi_tupK {tg l : Expr} {tl : TE} (h : X.K = K) (hl : PE X l tl) : PI X tg l (iTup K tl) := by subst h; exact pi_tup hl
theorem pg_tupK {es : List Expr} {k : Nat} {t : TGs} {n : Nat} {pos : Pos} (h : X.K = K) (hc : X.calm = true) (hs : PGs X es t) (hn : (assignEach es X.env).length = n := by rfl) (hst : (assignEach es X.env).findIdx? (·.1) = none := by rfl) : PG X (.Tuple es k pos) (gTup K n t) := by subst h; exact pg_tup hc hs hn hst
end
end My

set_option Elab.async false
set_option linter.all false
set_option maxRecDepth 100000
set_option maxHeartbeats 4000000
/-! LayG: operators of own classes, also with ints on either side -/
namespace My
open PySem PySem.Spec PyProof.Rows L2 He
theorem ins_obj {P : Program} {w : World} {H : Hp} {h : Heap} {a C dx : Addr} {fs : List (Str × V)} (hok : HOk P w H h) (e : H a = some (.ins C dx fs)) : h.get? a = some (PySem.W.instObj C dx) := by
  obtain ⟨_, _, _, ob, _⟩ := (show ObjOk P w H h a (.ins C dx fs) from hok a _ e)
  exact ob
section
variable (a : Int) (t : Tok) (l C dx : Addr)
theorem dec_add : Meets (Builtin.«int.__add__» ⟨[.int a t, .ref l], []⟩) (fun _ R s => s.heap.get? l = some (PySem.W.instObj C dx) ∧ R (.ok (.ret Value.notImplemented)) s) :=
  .of_wp fun prog w A R s h => by obtain ⟨hp, g, d, tk, os⟩ := s; obtain ⟨hl, h⟩ := h; wp_walk; exact ⟨_, rfl, h⟩
theorem dec_sub : Meets (Builtin.«int.__sub__» ⟨[.int a t, .ref l], []⟩) (fun _ R s => s.heap.get? l = some (PySem.W.instObj C dx) ∧ R (.ok (.ret Value.notImplemented)) s) :=
  .of_wp fun prog w A R s h => by obtain ⟨hp, g, d, tk, os⟩ := s; obtain ⟨hl, h⟩ := h; wp_walk; exact ⟨_, rfl, h⟩
theorem dec_mul : Meets (Builtin.«int.__mul__» ⟨[.int a t, .ref l], []⟩) (fun _ R s => s.heap.get? l = some (PySem.W.instObj C dx) ∧ R (.ok (.ret Value.notImplemented)) s) :=
  .of_wp fun prog w A R s h => by obtain ⟨hp, g, d, tk, os⟩ := s; obtain ⟨hl, h⟩ := h; wp_walk; exact ⟨_, rfl, h⟩
theorem dec_lt : Meets (Builtin.«int.__lt__» ⟨[.int a t, .ref l], []⟩) (fun _ R s => s.heap.get? l = some (PySem.W.instObj C dx) ∧ R (.ok (.ret Value.notImplemented)) s) :=
  .of_wp fun prog w A R s h => by obtain ⟨hp, g, d, tk, os⟩ := s; obtain ⟨hl, h⟩ := h; wp_walk; exact ⟨_, rfl, h⟩
theorem dec_le : Meets (Builtin.«int.__le__» ⟨[.int a t, .ref l], []⟩) (fun _ R s => s.heap.get? l = some (PySem.W.instObj C dx) ∧ R (.ok (.ret Value.notImplemented)) s) :=
  .of_wp fun prog w A R s h => by obtain ⟨hp, g, d, tk, os⟩ := s; obtain ⟨hl, h⟩ := h; wp_walk; exact ⟨_, rfl, h⟩
theorem dec_gt : Meets (Builtin.«int.__gt__» ⟨[.int a t, .ref l], []⟩) (fun _ R s => s.heap.get? l = some (PySem.W.instObj C dx) ∧ R (.ok (.ret Value.notImplemented)) s) :=
  .of_wp fun prog w A R s h => by obtain ⟨hp, g, d, tk, os⟩ := s; obtain ⟨hl, h⟩ := h; wp_walk; exact ⟨_, rfl, h⟩
theorem dec_ge : Meets (Builtin.«int.__ge__» ⟨[.int a t, .ref l], []⟩) (fun _ R s => s.heap.get? l = some (PySem.W.instObj C dx) ∧ R (.ok (.ret Value.notImplemented)) s) :=
  .of_wp fun prog w A R s h => by obtain ⟨hp, g, d, tk, os⟩ := s; obtain ⟨hl, h⟩ := h; wp_walk; exact ⟨_, rfl, h⟩
theorem dec_eq : Meets (Builtin.«int.__eq__» ⟨[.int a t, .ref l], []⟩) (fun _ R s => s.heap.get? l = some (PySem.W.instObj C dx) ∧ R (.ok (.ret Value.notImplemented)) s) :=
  .of_wp fun prog w A R s h => by obtain ⟨hp, g, d, tk, os⟩ := s; obtain ⟨hl, h⟩ := h; wp_walk; exact ⟨_, rfl, h⟩
theorem dec_ne : Meets (Builtin.«int.__ne__» ⟨[.int a t, .ref l], []⟩) (fun _ R s => s.heap.get? l = some (PySem.W.instObj C dx) ∧ R (.ok (.ret Value.notImplemented)) s) :=
  .of_wp fun prog w A R s h => by obtain ⟨hp, g, d, tk, os⟩ := s; obtain ⟨hl, h⟩ := h; wp_walk; exact ⟨_, rfl, h⟩
end
/-- an operator of int that declines an instance of an own class -/
structure DecB (op : Operator) : Prop where
  ex : ∃ (id : String) (B : Builtin), Slot "int" (PySem.dunder op.info.2) id ∧ fillsNumberSlot (.type "int") op.info.2 = pure true ∧ entryFor table id = some B ∧ (∀ (a : Int) (t : Tok) (l : Addr), argsOk id ⟨[.int a t, .ref l], []⟩) ∧
    ∀ (a : Int) (t : Tok) (l C dx : Addr), Meets (B ⟨[.int a t, .ref l], []⟩) (fun _ R s => s.heap.get? l = some (PySem.W.instObj C dx) ∧ R (.ok (.ret Value.notImplemented)) s)
theorem decB_add : DecB .Add := ⟨⟨_, _, F.slot_int_add, F.fills_int_add, F.entry_int_add, fun _ _ _ => F.args_int_add_2 _ _, dec_add⟩⟩
theorem decB_sub : DecB .Sub := ⟨⟨_, _, F.slot_int_sub, F.fills_int_sub, F.entry_int_sub, fun _ _ _ => F.args_int_sub_2 _ _, dec_sub⟩⟩
theorem decB_mul : DecB .Mult := ⟨⟨_, _, F.slot_int_mul, F.fills_int_mul, F.entry_int_mul, fun _ _ _ => F.args_int_mul_2 _ _, dec_mul⟩⟩
structure DecC (op : CmpOp) : Prop where
  ex : ∃ (id : String) (B : Builtin), Slot "int" (cmpInfo op).2.1 id ∧ entryFor table id = some B ∧ (∀ (a : Int) (t : Tok) (l : Addr), argsOk id ⟨[.int a t, .ref l], []⟩) ∧
    ∀ (a : Int) (t : Tok) (l C dx : Addr), Meets (B ⟨[.int a t, .ref l], []⟩) (fun _ R s => s.heap.get? l = some (PySem.W.instObj C dx) ∧ R (.ok (.ret Value.notImplemented)) s)
theorem decC_lt : DecC .Lt := ⟨⟨_, _, F.slot_int_lt, F.entry_int_lt, fun _ _ _ => F.args_int_lt_2 _ _, dec_lt⟩⟩
theorem decC_le : DecC .LtE := ⟨⟨_, _, F.slot_int_le, F.entry_int_le, fun _ _ _ => F.args_int_le_2 _ _, dec_le⟩⟩
theorem decC_gt : DecC .Gt := ⟨⟨_, _, F.slot_int_gt, F.entry_int_gt, fun _ _ _ => F.args_int_gt_2 _ _, dec_gt⟩⟩
theorem decC_ge : DecC .GtE := ⟨⟨_, _, F.slot_int_ge, F.entry_int_ge, fun _ _ _ => F.args_int_ge_2 _ _, dec_ge⟩⟩
theorem decC_eq : DecC .Eq := ⟨⟨_, _, F.slot_int_eq, F.entry_int_eq, fun _ _ _ => F.args_int_eq_2 _ _, dec_eq⟩⟩
theorem decC_ne : DecC .NotEq := ⟨⟨_, _, F.slot_int_ne, F.entry_int_ne, fun _ _ _ => F.args_int_ne_2 _ _, dec_ne⟩⟩
/-! the rules -/
namespace Own
open PySem.W PySem.Calls
section
variable {prog : Program} {w : World} {A : Around} {E : Value → Shared → Prop} {s : Shared} {K : Frag} {x C L f fd dx : Addr} {h₀ : Heap} {m : Str → Option Value} {ox : Obj} {od : Option Obj}
/-- int op own: the int declines, the own reflected def answers -/
theorem bin_intL {op : Operator} {i : Int} {t : Tok} {Q : Value → Shared → Prop} (D : DecB op) (F : Fr h₀ L s.heap m) (X₀ : K.In h₀) (I : InstAt s.heap x ox C od) (ho : s.heap.get? x = some (instObj C dx)) (hc : selfFirst K C = true)
    (hd : findIn K (.ref C) (PySem.dunder op.info.2) = some (some (.ref fd))) (hs : findIn K (.ref C) (dunderR op.info.2) = some (some (.ref f))) (hf : isFn K (.ref f) = true) (hsub : subIn K (.ref C) (.type "int") = some false)
    (h : wpAny (model prog w) A (call (.ref f) [.ref x, .int i t]) (PySem.W.CmpBack Q) E s) : wpAny (model prog w) A (binaryOp op (.int i t) (.ref x)) Q E s := by
  have X := X₀.keeps F.keep
  obtain ⟨cd, rest, hcd, hm⟩ := ksp_first hc
  obtain ⟨id, B, slot, fills, entry, args, gives⟩ := D.ex
  rcases hi : op.info with ⟨sym, nm'⟩
  rw [hi] at hs hd slot fills
  dsimp only at hs hd slot fills
  have two := ksp_try X I hs hf h
  have cl : wpAny (model prog w) A (call (.builtin id) [.int i t, .ref x]) (fun v s' => v = .notImplemented ∧ s' = s) E s :=
    call_meets slot (typeIs_int s i t) entry (args i t x) (gives i t x C dx) ⟨ho, rfl, rfl⟩
  have ti := typeIs_int s i t
  obtain ⟨hh, g, d, tt, os⟩ := s
  have L1 : Looks (model prog w) hh (typeOf (.int i t)) (.type "int") := Looks.of_pure rfl
  have L2 : Looks (model prog w) hh (typeOf (.ref x)) (.ref C) := I.type
  have L3 : Looks (model prog w) hh (fillsNumberSlot (.type "int") nm') true := Looks.of_pure fills
  have L4 : Looks (model prog w) hh (fillsNumberSlot (.ref C) nm') true := fills_K X hcd hm hd
  have L5 : Looks (model prog w) hh (isSubtype (.ref C) (.type "int")) false := looks_subIn X hsub
  have L6 : Looks (model prog w) hh (numberSlotInPython (.type "int") nm') false := Looks.of_pure rfl
  have hne : (Value.type "int" == Value.ref C) = false := Bool.eq_false_iff.mpr fun q => by cases beq_iff_eq.mp q
  simp only [binaryOp, hi]
  refine wpAny_holding (wpAny_bind ?_)
  unfold binaryOp1
  refine wpAny_bind (L1.at (wpAny_bind (L2.at (wpAny_bind (L3.at ?_)))))
  simp only [hne, Bool.false_eq_true, if_false]
  refine wpAny_bind (L4.at ?_)
  simp only [Bool.and_self, if_true]
  refine wpAny_bind (L5.at ?_)
  simp only [Bool.false_eq_true, if_false]
  ksp_lk
  refine wpAny_tryMethod_declines ti slot (wpAny_mono cl (fun v s' hv => ⟨hv.1, ?_⟩) fun _ _ e => e)
  obtain ⟨_, rfl⟩ := hv
  ksp_lk
  refine wpAny_mono two (fun r s' hr' => ?_) fun _ _ e => e
  obtain ⟨v, rfl, hq⟩ := hr'
  ksp_lk
  exact hq
/-- int < own and its like: the int declines, the own mirrored def answers -/
theorem cmp_intL {op : CmpOp} {i : Int} {t : Tok} {Q : Value → Shared → Prop} (D : DecC op) (hu : A.units < cLine) (F : Fr h₀ L s.heap m) (X₀ : K.In h₀) (I : InstAt s.heap x ox C od) (ho : s.heap.get? x = some (instObj C dx))
    (hs : findIn K (.ref C) (cmpInfo op).2.2 = some (some (.ref f))) (hf : isFn K (.ref f) = true) (hsub : subIn K (.ref C) (.type "int") = some false)
    (h : wpAny (model prog w) A (call (.ref f) [.ref x, .int i t]) (PySem.W.CmpBack Q) E s) : wpAny (model prog w) A (richCompare op (.int i t) (.ref x)) Q E s := by
  have X := X₀.keeps F.keep
  obtain ⟨id, B, slot, entry, args, gives⟩ := D.ex
  have one : wpAny (model prog w) A (tryCompare (.ref x) (cmpInfo op).2.2 (.int i t)) (fun r s' => ∃ v, r = some v ∧ Q v s') E s := by
    unfold tryCompare
    refine wpAny_bind (ifBound_K X I hs hf (wpAny_mono h (fun v s' hv => ?_) fun _ _ e => e))
    cases v <;> first | exact hv.elim | exact wpAny_pure ⟨_, rfl, hv⟩
  have cl : wpAny (model prog w) A (call (.builtin id) [.int i t, .ref x]) (fun v s' => v = .notImplemented ∧ s' = s) E s :=
    call_meets slot (typeIs_int s i t) entry (args i t x) (gives i t x C dx) ⟨ho, rfl, rfl⟩
  have ti := typeIs_int s i t
  have one0 : oneThing? op (.int i t) (.ref x) = none := ti.oneThing_none op _
  unfold richCompare
  simp only [one0]
  refine wpAny_holding (wpAny_bind (wpAny_cRoomFor hu ?_))
  have L1 : Looks (model prog w) s.heap (typeOf (.int i t)) (.type "int") := Looks.of_pure rfl
  refine wpAny_bind (L1.here (wpAny_bind (I.type.here ?_)))
  rw [if_pos (show (Value.type "int" != Value.ref C) = true from rfl)]
  refine wpAny_bind ((looks_subIn X hsub).here ?_)
  simp only [Bool.false_eq_true, if_false]
  refine wpAny_bind (wpAny_tryCompare_declines ti slot (wpAny_mono cl (fun v s' hv => ⟨hv.1, ?_⟩) fun _ _ e => e))
  obtain ⟨_, rfl⟩ := hv
  refine wpAny_bind (wpAny_mono one (fun r s' z => ?_) fun _ _ e => e)
  obtain ⟨v, rfl, hq⟩ := z
  exact wpAny_pure hq
theorem bool_own {Q : Value → Shared → Prop} (X : K.In s.heap) (F : Fr h₀ L s.heap m) (X₀ : K.In h₀) (I : InstAt s.heap x ox C od) (hs : findIn K (.ref C) "__bool__" = some (some (.ref f))) (hf : isFn K (.ref f) = true)
    (h : wpAny (model prog w) A.in1.in1 (call (.ref f) [.ref x]) (PySem.W.BoolBack fun b s' => Q (.bool b) s') E s) : wpAny (model prog w) A (call (.type "bool") [.ref x]) Q E s := by
  refine callType_codes (T := "bool") (Bi := Builtin.«object.__init__») (Q₁ := fun r s₁ => ∃ b, r = .bool b ∧ Q r s₁) PySem.F.called_bool (PySem.F.typeCall_bool_1 _) PySem.F.entry_object_init ?_ ?_
  · refine codeAny_of_tree ?_
    show wpAny _ A.in1.in1 (do checkBuiltinCall "bool.__new__" ⟨[.type "bool", .ref x], []⟩; again (.builtin "bool.__new__" ⟨[.type "bool", .ref x], []⟩)) _ _ s
    refine wpAny_bind (wpAny_of_eq (PySem.F.newCall_bool_1 _) (wpAny_pure ⟨plainId_quiet (by decide +kernel) _, codeAny_builtin PySem.F.entry_bool_new ?_⟩))
    rw [Around.under_plainId (by decide +kernel) _]
    have tr : wpAny (model prog w) A.in1.in1 (truthy (.ref x)) (fun b s' => ∃ c, Value.bool b = .bool c ∧ Q (.bool b) s') E s := truthy_K F X₀ I hs hf (wpAny_mono h (fun r s₁ hr => by cases r <;> first | exact ⟨_, rfl, hr⟩ | exact False.elim hr) fun _ _ y => y)
    unfold Builtin.«bool.__new__»
    refine wpAny_bind (wpAny_pure ?_)
    dsimp only
    rw [if_neg (by decide)]
    refine wpAny_bind (wpAny_of_eq PySem.F.conv_sub_bool ?_)
    rw [if_neg (by decide)]
    refine wpAny_bind (wpAny_pure ?_)
    exact wpAny_bind (wpAny_mono tr (fun b s₁ hb => wpAny_pure hb) fun _ _ y => y)
  · rintro obj s₁ ⟨b, rfl, hq⟩
    exact ⟨PySem.typeIs_bool _ _, PySem.F.args_object_init_2 _ _, object_init_meets PySem.F.called_bool.init.lookup PySem.F.called_bool.made (by decide) prog w A.in1 _ s₁ ⟨PySem.typeIs_bool _ _, rfl, hq⟩⟩
end
end Own
/-! the readings -/
structure OwOk (K : PySem.W.Frag) (C : Addr) : Prop where
  first : PySem.W.selfFirst K C = true
  sub1 : PySem.W.subIn K (.type "int") (.ref C) = some false
  sub2 : PySem.W.subIn K (.ref C) (.type "int") = some false
  fi : ∀ n ∈ ([PySem.dunder "add", PySem.dunder "sub", PySem.dunder "mul", dunderR "add", dunderR "sub", dunderR "mul"] : List Str), ∃ fo, PySem.W.findIn K (.type "int") n = some fo
def owB (K : PySem.W.Frag) (x : Str) : Bool := PySem.W.selfFirst K (ga K x) && (decide (PySem.W.subIn K (.type "int") (.ref (ga K x)) = some false) && (decide (PySem.W.subIn K (.ref (ga K x)) (.type "int") = some false) &&
  ([PySem.dunder "add", PySem.dunder "sub", PySem.dunder "mul", dunderR "add", dunderR "sub", dunderR "mul"] : List Str).all fun n => (PySem.W.findIn K (.type "int") n).isSome))
theorem owB_ok {K : PySem.W.Frag} {x : Str} (h : owB K x = true) : OwOk K (ga K x) := by
  obtain ⟨h1, h⟩ := ba h
  obtain ⟨h2, h⟩ := ba h
  obtain ⟨h3, h4⟩ := ba h
  exact ⟨h1, of_decide_eq_true h2, of_decide_eq_true h3, fun n hn => Option.isSome_iff_exists.mp (List.all_eq_true.mp h4 n hn)⟩
def rRR (C : Addr) (sp : Sp) : R2 := fun x y H Q => ∃ a dx fs b dy gs, x = .ref a ∧ y = .ref b ∧ H a = some (.ins C dx fs) ∧ H b = some (.ins C dy gs) ∧ sp [.ref a, .ref b] H Q E0
def rRI (C : Addr) (sp : Sp) : R2 := fun x y H Q => ∃ a dx fs i, x = .ref a ∧ y = .int i ∧ H a = some (.ins C dx fs) ∧ sp [.ref a, .int i] H Q E0
def rIR (C : Addr) (sp : Sp) : R2 := fun x y H Q => ∃ a dx fs i, x = .int i ∧ y = .ref a ∧ H a = some (.ins C dx fs) ∧ sp [.ref a, .int i] H Q E0
section
variable {X : Cx} {k j : Nat} {f g C : Addr} {ps qs : List Str} {sp : Sp} {n m : Str}
theorem back {pins : List (Addr × Obj)} {σ : L2.St} {Q : VK} {v : Value} {s' : Shared} (z : EP X pins σ Q v s') : PySem.W.CmpBack (EP X pins σ Q) v s' := by
  obtain ⟨z', H', I', rz, qz⟩ := z
  exact SlX.cmpback rz ⟨z', H', I', rz, qz⟩
theorem op_RR {op : Operator} (G : Gf X.prog X.w X.K X.mg X.base CX0 k f ps [] sp) (o : OwOk X.K C) (p : SpOk X.K C n f) (hr : RG j X.A) (hj : k ≤ j) (e : PySem.dunder op.info.2 = n := by rfl) : OpR X (binaryOp op) (rRR C sp) := by
  intro pins s σ H x y v u Q I rx ry h
  obtain ⟨a, dx, fs, b, dy, gs, rfl, rfl, ea, eb, h1⟩ := h
  obtain rfl : v = Value.ref a := rx
  obtain rfl : u = Value.ref b := ry
  obtain ⟨mA, O, _⟩ := ins_get I.hok ea
  obtain ⟨od, J, _⟩ := O.look
  obtain ⟨mB, O', _⟩ := ins_get I.hok eb
  obtain ⟨od', J', _⟩ := O'.look
  obtain ⟨m, hF⟩ := I.fr
  refine PySem.W.binop_K hF I.ok.mod.kin J J'.type o.first (by rw [e]; exact p.at_) p.fn ?_
  exact wpAny_mono (run_g (us := [.ref a, .ref b]) (vs := [.ref a, .ref b]) G hr hj pass0 I (.cons rfl (.cons rfl .nil)) h1) (fun w s' z => back z) fun _ _ x => x
theorem op_RI {op : Operator} (G : Gf X.prog X.w X.K X.mg X.base CX0 k f ps [] sp) (o : OwOk X.K C) (p : SpOk X.K C n f) (q : SpOk X.K C m g) (hr : RG j X.A) (hj : k ≤ j) (e : PySem.dunder op.info.2 = n := by rfl) (e2 : dunderR op.info.2 = m := by rfl)
    (h1 : PySem.dunder op.info.2 ∈ ([PySem.dunder "add", PySem.dunder "sub", PySem.dunder "mul", dunderR "add", dunderR "sub", dunderR "mul"] : List Str) := by decide) (h2 : dunderR op.info.2 ∈ ([PySem.dunder "add", PySem.dunder "sub", PySem.dunder "mul", dunderR "add", dunderR "sub", dunderR "mul"] : List Str) := by decide) :
    OpR X (binaryOp op) (rRI C sp) := by
  intro pins s σ H x y v u Q I rx ry h
  obtain ⟨a, dx, fs, i, rfl, rfl, ea, h3⟩ := h
  obtain rfl : v = Value.ref a := rx
  obtain ⟨t, rfl⟩ := ry
  obtain ⟨mA, O, _⟩ := ins_get I.hok ea
  obtain ⟨od, J, _⟩ := O.look
  obtain ⟨m, hF⟩ := I.fr
  obtain ⟨fo, f1⟩ := o.fi _ h1
  obtain ⟨ro, f2⟩ := o.fi _ h2
  refine PySem.W.ksp_binT (T := "int") hF I.ok.mod.kin J rfl o.first (by rw [e]; exact p.at_) p.fn (by rw [e2]; exact q.at_) (.inr ⟨g, rfl⟩) f1 f2 o.sub1 ?_
  exact wpAny_mono (run_g (us := [.ref a, .int i t]) (vs := [.ref a, .int i]) G hr hj pass0 I (.cons rfl (.cons ⟨t, rfl⟩ .nil)) h3) (fun w s' z => back z) fun _ _ x => x
theorem op_IR {op : Operator} (D : DecB op) (G : Gf X.prog X.w X.K X.mg X.base CX0 k g qs [] sp) (o : OwOk X.K C) (p : SpOk X.K C n f) (q : SpOk X.K C m g) (hr : RG j X.A) (hj : k ≤ j) (e : PySem.dunder op.info.2 = n := by rfl) (e2 : dunderR op.info.2 = m := by rfl) :
    OpR X (binaryOp op) (rIR C sp) := by
  intro pins s σ H x y v u Q I rx ry h
  obtain ⟨a, dx, fs, i, rfl, rfl, ea, h3⟩ := h
  obtain rfl : u = Value.ref a := ry
  obtain ⟨t, rfl⟩ := rx
  obtain ⟨mA, O, _⟩ := ins_get I.hok ea
  obtain ⟨od, J, _⟩ := O.look
  obtain ⟨m, hF⟩ := I.fr
  refine Own.bin_intL D hF I.ok.mod.kin J (ins_obj I.hok ea) o.first (by rw [e]; exact p.at_) (by rw [e2]; exact q.at_) q.fn o.sub2 ?_
  exact wpAny_mono (run_g (us := [.ref a, .int i t]) (vs := [.ref a, .int i]) G hr hj pass0 I (.cons rfl (.cons ⟨t, rfl⟩ .nil)) h3) (fun w s' z => back z) fun _ _ x => x
theorem cmp_RR {op : CmpOp} (hop : ∀ a b, compareOp op a b = richCompare op a b) (G : Gf X.prog X.w X.K X.mg X.base CX0 k f ps [] sp) (p : SpOk X.K C n f) (hr : RG j X.A) (hj : k ≤ j) (e : (cmpInfo op).2.1 = n := by rfl) : OpR X (compareOp op) (rRR C sp) := by
  intro pins s σ H x y v u Q I rx ry h
  obtain ⟨a, dx, fs, b, dy, gs, rfl, rfl, ea, eb, h1⟩ := h
  obtain rfl : v = Value.ref a := rx
  obtain rfl : u = Value.ref b := ry
  obtain ⟨mA, O, _⟩ := ins_get I.hok ea
  obtain ⟨od, J, _⟩ := O.look
  obtain ⟨mB, O', _⟩ := ins_get I.hok eb
  obtain ⟨od', J', _⟩ := O'.look
  obtain ⟨m, hF⟩ := I.fr
  rw [hop]
  refine PySem.W.cmp_K (op := op) (tb := .ref C) hr.r.units0 hF I.ok.mod.kin J J'.type (by simp [PySem.W.notFirst]) (by rw [e]; exact p.at_) p.fn ?_
  exact wpAny_mono (run_g (us := [.ref a, .ref b]) (vs := [.ref a, .ref b]) G hr hj pass0 I (.cons rfl (.cons rfl .nil)) h1) (fun w s' z => back z) fun _ _ x => x
theorem cmp_RI {op : CmpOp} (hop : ∀ a b, compareOp op a b = richCompare op a b) (G : Gf X.prog X.w X.K X.mg X.base CX0 k f ps [] sp) (o : OwOk X.K C) (p : SpOk X.K C n f) (hr : RG j X.A) (hj : k ≤ j) (e : (cmpInfo op).2.1 = n := by rfl) : OpR X (compareOp op) (rRI C sp) := by
  intro pins s σ H x y v u Q I rx ry h
  obtain ⟨a, dx, fs, i, rfl, rfl, ea, h1⟩ := h
  obtain rfl : v = Value.ref a := rx
  obtain ⟨t, rfl⟩ := ry
  obtain ⟨mA, O, _⟩ := ins_get I.hok ea
  obtain ⟨od, J, _⟩ := O.look
  obtain ⟨m, hF⟩ := I.fr
  rw [hop]
  refine PySem.W.cmp_K (op := op) (tb := .type "int") hr.r.units0 hF I.ok.mod.kin J (PySem.W.Looks.of_pure rfl) (by unfold PySem.W.notFirst; rw [o.sub1] <;> rfl) (by rw [e]; exact p.at_) p.fn ?_
  exact wpAny_mono (run_g (us := [.ref a, .int i t]) (vs := [.ref a, .int i]) G hr hj pass0 I (.cons rfl (.cons ⟨t, rfl⟩ .nil)) h1) (fun w s' z => back z) fun _ _ x => x
theorem cmp_IR {op : CmpOp} (hop : ∀ a b, compareOp op a b = richCompare op a b) (D : DecC op) (G : Gf X.prog X.w X.K X.mg X.base CX0 k f ps [] sp) (o : OwOk X.K C) (p : SpOk X.K C n f) (hr : RG j X.A) (hj : k ≤ j) (e : (cmpInfo op).2.2 = n := by rfl) : OpR X (compareOp op) (rIR C sp) := by
  intro pins s σ H x y v u Q I rx ry h
  obtain ⟨a, dx, fs, i, rfl, rfl, ea, h1⟩ := h
  obtain rfl : u = Value.ref a := ry
  obtain ⟨t, rfl⟩ := rx
  obtain ⟨mA, O, _⟩ := ins_get I.hok ea
  obtain ⟨od, J, _⟩ := O.look
  obtain ⟨m, hF⟩ := I.fr
  rw [hop]
  refine Own.cmp_intL D hr.r.units0 hF I.ok.mod.kin J (ins_obj I.hok ea) (by rw [e]; exact p.at_) p.fn o.sub2 ?_
  exact wpAny_mono (run_g (us := [.ref a, .int i t]) (vs := [.ref a, .int i]) G hr hj pass0 I (.cons rfl (.cons ⟨t, rfl⟩ .nil)) h1) (fun w s' z => back z) fun _ _ x => x
def rUn (C : Addr) (sp : Sp) : V → Hp → VK → Prop := fun x H Q => ∃ a dx fs, x = .ref a ∧ H a = some (.ins C dx fs) ∧ sp [.ref a] H Q E0
theorem un_negO (G : Gf X.prog X.w X.K X.mg X.base CX0 k f ps [] sp) (p : SpOk X.K C "__neg__" f) (hr : RG j X.A) (hj : k ≤ j) : UnR X (unaryOp .USub) (rUn C sp) := by
  intro pins s σ H x v Q I rx h
  obtain ⟨a, dx, fs, rfl, ea, h1⟩ := h
  obtain rfl : v = Value.ref a := rx
  obtain ⟨mA, O, _⟩ := ins_get I.hok ea
  obtain ⟨od, J, _⟩ := O.look
  obtain ⟨m, hF⟩ := I.fr
  exact PySem.W.ksp_neg hF I.ok.mod.kin J p.at_ p.fn (run_g (us := [.ref a]) (vs := [.ref a]) G hr hj pass0 I (.cons rfl .nil) h1)
/-- repr of a truth value -/
theorem call_reprBl : CallR X (.builtin "repr") (fun xs H Q => ∃ b, xs = [.bl b] ∧ Q (.str (if b = true then "True" else "False")) H) := by
  intro pins s σ H xs us Q I r h
  obtain ⟨b, rfl, q⟩ := h
  obtain ⟨u, rfl, rfl⟩ := vals1 r
  exact PySem.P.repr_of_bool ⟨.str _, H, I.tok _, ⟨_, rfl⟩, q⟩
def rBoolOwn (C : Addr) (sp : Sp) : List V → Hp → VK → Prop := fun xs H Q => ∃ a dx fs, xs = [.ref a] ∧ H a = some (.ins C dx fs) ∧ sp [.ref a] H (fun v H' => ∃ b, v = .bl b ∧ Q v H') E0
theorem call_boolOwn (G : Gf X.prog X.w X.K X.mg X.base CX0 k f ps [] sp) (p : SpOk X.K C "__bool__" f) (hr : RG j X.A) (hj : k + 2 ≤ j) : CallR X (.type "bool") (rBoolOwn C sp) := by
  intro pins s σ H xs us Q I r h
  obtain ⟨a, dx, fs, rfl, ea, h1⟩ := h
  obtain ⟨u, rfl, rx⟩ := vals1 r
  obtain rfl : u = Value.ref a := rx
  obtain ⟨mA, O, _⟩ := ins_get I.hok ea
  obtain ⟨od, J, _⟩ := O.look
  obtain ⟨m, hF⟩ := I.fr
  have hr2 : RG (k + 2) X.A := hr.mono hj
  refine Own.bool_own I.kIn hF I.ok.mod.kin J p.at_ p.fn (run_sp G hr2.in1.in1 rfl I h1 fun v H' u s' I' rv q => ?_)
  obtain ⟨b, rfl, q⟩ := q
  obtain rfl := rv
  exact ⟨.bl b, H', I', rfl, q⟩
end
section
variable {K : PySem.W.Frag} {C : Addr} {sp : Sp} {H : Hp} {Q : VK}
theorem f_RR {a dx b dy : Addr} {fs gs : List (Str × V)} (ha : H a = some (.ins C dx fs)) (hb : H b = some (.ins C dy gs)) (q : sp [.ref a, .ref b] H Q E0) : rRR C sp (.ref a) (.ref b) H Q := ⟨a, dx, fs, b, dy, gs, rfl, rfl, ha, hb, q⟩
theorem f_RI {a dx : Addr} {fs : List (Str × V)} {i : Int} (ha : H a = some (.ins C dx fs)) (q : sp [.ref a, .int i] H Q E0) : rRI C sp (.ref a) (.int i) H Q := ⟨a, dx, fs, i, rfl, rfl, ha, q⟩
theorem f_IR {a dx : Addr} {fs : List (Str × V)} {i : Int} (ha : H a = some (.ins C dx fs)) (q : sp [.ref a, .int i] H Q E0) : rIR C sp (.int i) (.ref a) H Q := ⟨a, dx, fs, i, rfl, rfl, ha, q⟩
theorem f_un {a dx : Addr} {fs : List (Str × V)} (ha : H a = some (.ins C dx fs)) (q : sp [.ref a] H Q E0) : rUn C sp (.ref a) H Q := ⟨a, dx, fs, rfl, ha, q⟩
theorem f_boolOwn {a dx : Addr} {fs : List (Str × V)} (ha : H a = some (.ins C dx fs)) (q : sp [.ref a] H (fun v H' => ∃ b, v = .bl b ∧ Q v H') E0) : rBoolOwn C sp [.ref a] H Q := ⟨a, dx, fs, rfl, ha, q⟩
end
end My

set_option Elab.async false
set_option linter.all false
set_option maxRecDepth 100000
set_option maxHeartbeats 4000000
/-! LayH: != of a class with its own __eq__ -/
namespace My
open PySem PySem.Spec PyProof.Rows L2 He
namespace Own
open PySem.W PySem.Calls
section
variable {prog : Program} {w : World} {A : Around} {E : Value → Shared → Prop} {s : Shared} {K : Frag} {x C L f : Addr} {h₀ : Heap} {m : Str → Option Value} {ox : Obj} {od : Option Obj} {b tb : Value}
theorem ne_try {Q : Value → Shared → Prop} (hu : A.in1.units < cLine) (X : K.In s.heap) (I : InstAt s.heap x ox C od) (hne : findIn K (.ref C) "__ne__" = some (some (.builtin "object.__ne__"))) (hob : subIn K (.ref C) (.type "object") = some true)
    (hs : findIn K (.ref C) "__eq__" = some (some (.ref f))) (hf : isFn K (.ref f) = true)
    (h : wpAny (model prog w) A.in1 (call (.ref f) [.ref x, b]) (fun v s' => ∃ c, v = .bool c ∧ Q (.bool (!c)) s') E s) : wpAny (model prog w) A (tryCompare (.ref x) "__ne__" b) (fun r s' => ∃ v, r = some v ∧ Q v s') E s := by
  have FB := F.cmp_object
  unfold tryCompare
  refine wpAny_bind ?_
  simp only [callSpecialIfBound?, bindSpecialIfBound?]
  refine wpAny_holding (wpAny_bind (wpAny_bind (wpAny_bind (I.type.here ((looks_findIn X hne).here ?_)))))
  simp only [FB.ne.bind]
  refine wpAny_bind (wpAny_askSetting (wpAny_ite ?_))
  have ent : wpAny (model prog w) A.in1 (Builtin.«object.__ne__» ⟨[.ref x, b], []⟩) (fun fl s' => ∃ c, fl = .done (.ret (.bool (!c))) ∧ Q (.bool (!c)) s') E s := by
    unfold Builtin.«object.__ne__»
    refine wpAny_bind (wpAny_pure ?_)
    refine wpAny_bind (wpAny_cRoomFor hu ?_)
    refine wpAny_bind (ifBound_K X I hs hf (wpAny_mono h (fun v s' hv => ?_) fun _ _ e => e))
    obtain ⟨c, rfl, hq⟩ := hv
    exact wpAny_bind (wpAny_pure (wpAny_pure ⟨c, rfl, hq⟩))
  have chk : wpAny (model prog w) A.in1 (checkBuiltinCall "object.__ne__" ⟨[.ref x, b], []⟩) (fun _ s' => s' = s) E s := by
    simp only [checkBuiltinCall, F.cmpKind_ne, F.cmpSplit_ne]
    refine wpAny_bind ?_
    unfold isInstance
    refine wpAny_bind (I.type.here ?_)
    refine (looks_subIn X hob).here ?_
    rw [if_neg (show ¬ ((!true) = true) from Bool.false_ne_true)]
    have ha := F.cmpArgs_ne (.ref x) b
    cases hsig : Manifest.signature? "object.__ne__" with
    | none => exact wpAny_pure rfl
    | some sig =>
      simp only [argsOk, hsig] at ha
      have h2 : Bind.checkArgs "object.__ne__" sig ⟨[.ref x, b], []⟩ = pure () := ha
      show wpAny _ A.in1 (Bind.checkArgs "object.__ne__" sig ⟨[.ref x, b], []⟩) _ E _
      rw [h2]
      exact wpAny_pure rfl
  have fin : wpAny (model prog w) A (call (.builtin "object.__ne__") ([.ref x] ++ [b]) >>= fun v => pure (some v)) (fun r s' => ∃ v, r = some v ∧ (∃ c, v = .bool c) ∧ Q v s') E s := by
    refine wpAny_bind (wpAny_call (codeAny_call_builtin FB.ne.plain F.cmpEntry_ne ?_))
    refine wpAny_mono chk (fun _ s' e => ?_) fun _ _ e => e
    subst e
    refine wpAny_mono ent (fun fl s1 hfl => ?_) fun _ _ e => e
    obtain ⟨c, rfl, hq⟩ := hfl
    exact wpAny_pure ⟨_, rfl, ⟨_, rfl⟩, hq⟩
  have last : ∀ (a : Option Value) (s' : Shared), (∃ v, a = some v ∧ (∃ c, v = .bool c) ∧ Q v s') → wpAny (model prog w) A (match a with | some Value.notImplemented => pure none | none => pure none | some v => pure (some v)) (fun r s' => ∃ v, r = some v ∧ Q v s') E s' := by
    rintro a s' ⟨v, rfl, ⟨c, rfl⟩, hq⟩
    exact wpAny_pure ⟨_, rfl, hq⟩
  split
  · exact wpAny_bind (wpAny_pure (wpAny_pure (wpAny_mono fin (fun a s' z => last a s' z) fun _ _ e => e)))
  · exact wpAny_tryCatch (wpAny_bind (wpAny_pure (wpAny_pure (wpAny_mono fin (fun a s' z => last a s' z) fun _ _ e => e))))
theorem ne_own {Q : Value → Shared → Prop} (hu : A.units < cLine) (hu1 : A.in1.units < cLine) (F : Fr h₀ L s.heap m) (X₀ : K.In h₀) (I : InstAt s.heap x ox C od) (hb : Looks (model prog w) s.heap (typeOf b) tb) (hn : notFirst K C tb = true)
    (hne : findIn K (.ref C) "__ne__" = some (some (.builtin "object.__ne__"))) (hob : subIn K (.ref C) (.type "object") = some true) (hs : findIn K (.ref C) "__eq__" = some (some (.ref f))) (hf : isFn K (.ref f) = true)
    (h : wpAny (model prog w) A.in1 (call (.ref f) [.ref x, b]) (fun v s' => ∃ c, v = .bool c ∧ Q (.bool (!c)) s') E s) : wpAny (model prog w) A (richCompare .NotEq (.ref x) b) Q E s := by
  have X := X₀.keeps F.keep
  have one := ne_try (Q := Q) hu1 X I hne hob hs hf h
  unfold richCompare
  simp only [oneThing_ref]
  refine wpAny_holding (wpAny_bind (wpAny_cRoomFor hu ?_))
  refine wpAny_bind (I.type.here (wpAny_bind (hb.here ?_)))
  split
  · rename_i q
    have e : subIn K tb (.ref C) = some false := by
      rcases Bool.or_eq_true_iff.mp hn with e | e
      · rw [beq_iff_eq.mp e] at q
        simp at q
      · exact beq_iff_eq.mp e
    refine wpAny_bind ((looks_subIn X e).here ?_)
    simp only [Bool.false_eq_true, if_false]
    refine wpAny_bind (wpAny_mono one (fun r s' z => ?_) fun _ _ e => e)
    obtain ⟨v, rfl, hq⟩ := z
    exact wpAny_pure hq
  · refine wpAny_bind (wpAny_pure ?_)
    simp only [Bool.false_eq_true, if_false]
    refine wpAny_bind (wpAny_mono one (fun r s' z => ?_) fun _ _ e => e)
    obtain ⟨v, rfl, hq⟩ := z
    exact wpAny_pure hq
/-- int != own: the int declines, object's __ne__ of the own class answers -/
theorem ne_intL {i : Int} {t : Tok} {dx : Addr} {Q : Value → Shared → Prop} (hu : A.units < cLine) (hu1 : A.in1.units < cLine) (F : Fr h₀ L s.heap m) (X₀ : K.In h₀) (I : InstAt s.heap x ox C od) (ho : s.heap.get? x = some (instObj C dx))
    (hne : findIn K (.ref C) "__ne__" = some (some (.builtin "object.__ne__"))) (hob : subIn K (.ref C) (.type "object") = some true) (hs : findIn K (.ref C) "__eq__" = some (some (.ref f))) (hf : isFn K (.ref f) = true) (hsub : subIn K (.ref C) (.type "int") = some false)
    (h : wpAny (model prog w) A.in1 (call (.ref f) [.ref x, .int i t]) (fun v s' => ∃ c, v = .bool c ∧ Q (.bool (!c)) s') E s) : wpAny (model prog w) A (richCompare .NotEq (.int i t) (.ref x)) Q E s := by
  have X := X₀.keeps F.keep
  obtain ⟨id, B, slot, entry, args, gives⟩ := decC_ne.ex
  have one : wpAny (model prog w) A (tryCompare (.ref x) (cmpInfo .NotEq).2.2 (.int i t)) (fun r s' => ∃ v, r = some v ∧ Q v s') E s := ne_try hu1 X I hne hob hs hf h
  have cl : wpAny (model prog w) A (call (.builtin id) [.int i t, .ref x]) (fun v s' => v = .notImplemented ∧ s' = s) E s :=
    call_meets slot (typeIs_int s i t) entry (args i t x) (gives i t x C dx) ⟨ho, rfl, rfl⟩
  have ti := typeIs_int s i t
  have one0 : oneThing? .NotEq (.int i t) (.ref x) = none := ti.oneThing_none .NotEq _
  unfold richCompare
  simp only [one0]
  refine wpAny_holding (wpAny_bind (wpAny_cRoomFor hu ?_))
  have L1 : Looks (model prog w) s.heap (typeOf (.int i t)) (.type "int") := Looks.of_pure rfl
  refine wpAny_bind (L1.here (wpAny_bind (I.type.here ?_)))
  rw [if_pos (show (Value.type "int" != Value.ref C) = true from rfl)]
  refine wpAny_bind ((looks_subIn X hsub).here ?_)
  simp only [Bool.false_eq_true, if_false]
  refine wpAny_bind (wpAny_tryCompare_declines ti slot (wpAny_mono cl (fun v s' hv => ⟨hv.1, ?_⟩) fun _ _ e => e))
  obtain ⟨_, rfl⟩ := hv
  refine wpAny_bind (wpAny_mono one (fun r s' z => ?_) fun _ _ e => e)
  obtain ⟨v, rfl, hq⟩ := z
  exact wpAny_pure hq
end
end Own
/-! the readings -/
structure NeOk (K : PySem.W.Frag) (C : Addr) : Prop where
  ne : PySem.W.findIn K (.ref C) "__ne__" = some (some (.builtin "object.__ne__"))
  ob : PySem.W.subIn K (.ref C) (.type "object") = some true
def neB (K : PySem.W.Frag) (x : Str) : Bool := eqO (PySem.W.findIn K (.ref (ga K x)) "__ne__") (some (some (.builtin "object.__ne__"))) && decide (PySem.W.subIn K (.ref (ga K x)) (.type "object") = some true)
theorem neB_ok {K : PySem.W.Frag} {x : Str} (h : neB K x = true) : NeOk K (ga K x) := by
  obtain ⟨h1, h2⟩ := ba h
  exact ⟨eqO_ok h1, of_decide_eq_true h2⟩
/-- the own == answers by a truth value, != by the other one -/
def turned (Q : VK) : VK := fun v H' => ∃ c, v = .bl c ∧ Q (.bl (!c)) H'
def nRR (C : Addr) (sp : Sp) : R2 := fun x y H Q => rRR C sp x y H (turned Q)
def nRI (C : Addr) (sp : Sp) : R2 := fun x y H Q => rRI C sp x y H (turned Q)
def nIR (C : Addr) (sp : Sp) : R2 := fun x y H Q => rIR C sp x y H (turned Q)
section
variable {X : Cx} {k j : Nat} {f C : Addr} {ps : List Str} {sp : Sp}
theorem run_turned {pins : List (Addr × Obj)} {σ : L2.St} {H : Hp} {s : Shared} {Q : VK} {us : List Value} {vs : List V} (G : Gf X.prog X.w X.K X.mg X.base CX0 k f ps [] sp) (hr : RG (k + 1) X.A) (I : Inv X pins σ H s) (r : Vals vs us) (h : sp vs H (turned Q) E0) :
    wpAny (model X.prog X.w) X.A.in1 (call (.ref f) us) (fun v s' => ∃ c, v = .bool c ∧ EP X pins σ Q (.bool (!c)) s') X.xe s := by
  have h2 : sp (vs ++ []) H (turned Q) E0 := by
    rw [List.append_nil]
    exact h
  refine wpAny_call (codeAny_mono (G.go (outer := X.stack) (us := us) (vs := vs) hr.in1 (Nat.le_refl _) I.env0.in1 I.kIn r h2) fun y s' hq => ?_)
  match y, hq with
  | .error er, hq => exact hq.elim
  | .ok (.ret u), hq =>
    obtain ⟨v, H', I3, rv, c, rfl, q3⟩ := I.after hq
    obtain rfl := rv
    exact ⟨c, rfl, .bl (!c), H', I3, rfl, q3⟩
theorem ne_RR (G : Gf X.prog X.w X.K X.mg X.base CX0 k f ps [] sp) (n : NeOk X.K C) (p : SpOk X.K C "__eq__" f) (hr : RG j X.A) (hj : k + 1 ≤ j) : OpR X (compareOp .NotEq) (nRR C sp) := by
  intro pins s σ H x y v u Q I rx ry h
  obtain ⟨a, dx, fs, b, dy, gs, rfl, rfl, ea, eb, h1⟩ := h
  obtain rfl : v = Value.ref a := rx
  obtain rfl : u = Value.ref b := ry
  obtain ⟨mA, O, _⟩ := ins_get I.hok ea
  obtain ⟨od, J, _⟩ := O.look
  obtain ⟨mB, O', _⟩ := ins_get I.hok eb
  obtain ⟨od', J', _⟩ := O'.look
  obtain ⟨m, hF⟩ := I.fr
  have hr1 : RG (k + 1) X.A := hr.mono hj
  exact Own.ne_own (tb := .ref C) hr.r.units0 hr1.in1.r.units0 hF I.ok.mod.kin J J'.type (by simp [PySem.W.notFirst]) n.ne n.ob p.at_ p.fn (run_turned (us := [.ref a, .ref b]) (vs := [.ref a, .ref b]) G hr1 I (.cons rfl (.cons rfl .nil)) h1)
theorem ne_RI (G : Gf X.prog X.w X.K X.mg X.base CX0 k f ps [] sp) (o : OwOk X.K C) (n : NeOk X.K C) (p : SpOk X.K C "__eq__" f) (hr : RG j X.A) (hj : k + 1 ≤ j) : OpR X (compareOp .NotEq) (nRI C sp) := by
  intro pins s σ H x y v u Q I rx ry h
  obtain ⟨a, dx, fs, i, rfl, rfl, ea, h1⟩ := h
  obtain rfl : v = Value.ref a := rx
  obtain ⟨t, rfl⟩ := ry
  obtain ⟨mA, O, _⟩ := ins_get I.hok ea
  obtain ⟨od, J, _⟩ := O.look
  obtain ⟨m, hF⟩ := I.fr
  have hr1 : RG (k + 1) X.A := hr.mono hj
  exact Own.ne_own (tb := .type "int") hr.r.units0 hr1.in1.r.units0 hF I.ok.mod.kin J (PySem.W.Looks.of_pure rfl) (by unfold PySem.W.notFirst; rw [o.sub1] <;> rfl) n.ne n.ob p.at_ p.fn (run_turned (us := [.ref a, .int i t]) (vs := [.ref a, .int i]) G hr1 I (.cons rfl (.cons ⟨t, rfl⟩ .nil)) h1)
theorem ne_IR (G : Gf X.prog X.w X.K X.mg X.base CX0 k f ps [] sp) (o : OwOk X.K C) (n : NeOk X.K C) (p : SpOk X.K C "__eq__" f) (hr : RG j X.A) (hj : k + 1 ≤ j) : OpR X (compareOp .NotEq) (nIR C sp) := by
  intro pins s σ H x y v u Q I rx ry h
  obtain ⟨a, dx, fs, i, rfl, rfl, ea, h1⟩ := h
  obtain rfl : u = Value.ref a := ry
  obtain ⟨t, rfl⟩ := rx
  obtain ⟨mA, O, _⟩ := ins_get I.hok ea
  obtain ⟨od, J, _⟩ := O.look
  obtain ⟨m, hF⟩ := I.fr
  have hr1 : RG (k + 1) X.A := hr.mono hj
  exact Own.ne_intL hr.r.units0 hr1.in1.r.units0 hF I.ok.mod.kin J (ins_obj I.hok ea) n.ne n.ob p.at_ p.fn o.sub2 (run_turned (us := [.ref a, .int i t]) (vs := [.ref a, .int i]) G hr1 I (.cons rfl (.cons ⟨t, rfl⟩ .nil)) h1)
/-- one of three readings of an operator -/
def r3 (r1 r2 r3 : R2) : R2 := fun x y H Q => r1 x y H Q ∨ r2 x y H Q ∨ r3 x y H Q
theorem op_3 {g : Value → Value → Sem Value} {r1 r2 r3' : R2} (h1 : OpR X g r1) (h2 : OpR X g r2) (h3 : OpR X g r3') : OpR X g (r3 r1 r2 r3') := fun pins s σ H x y v u Q I rx ry h =>
  h.elim (h1 pins s σ H x y v u Q I rx ry) fun h => h.elim (h2 pins s σ H x y v u Q I rx ry) (h3 pins s σ H x y v u Q I rx ry)
end
end My

set_option Elab.async false
set_option linter.all false
set_option maxRecDepth 100000
set_option maxHeartbeats 4000000
/-! LayI: other kinds of values beside an instance of an own class -/
namespace My
open PySem PySem.Spec PyProof.Rows L2 He
section
variable (l C dx : Addr)
theorem dec_eqBool (b : Bool) : Meets (Builtin.«int.__eq__» ⟨[.bool b, .ref l], []⟩) (fun _ R s => s.heap.get? l = some (PySem.W.instObj C dx) ∧ R (.ok (.ret Value.notImplemented)) s) :=
  .of_wp fun prog w A R s h => by obtain ⟨hp, g, d, tk, os⟩ := s; obtain ⟨hl, h⟩ := h; wp_walk; exact ⟨_, rfl, h⟩
theorem dec_eqNone : Meets (Builtin.«NoneType.__eq__» ⟨[.none, .ref l], []⟩) (fun _ R s => s.heap.get? l = some (PySem.W.instObj C dx) ∧ R (.ok (.ret Value.notImplemented)) s) :=
  .of_wp fun prog w A R s h => by obtain ⟨hp, g, d, tk, os⟩ := s; obtain ⟨hl, h⟩ := h; wp_walk; exact ⟨_, rfl, h⟩
theorem dec_eqStr (x : Str) (t : Tok) : Meets (Builtin.«str.__eq__» ⟨[.str x t, .ref l], []⟩) (fun _ R s => s.heap.get? l = some (PySem.W.instObj C dx) ∧ R (.ok (.ret Value.notImplemented)) s) :=
  .of_wp fun prog w A R s h => by obtain ⟨hp, g, d, tk, os⟩ := s; obtain ⟨hl, h⟩ := h; wp_walk; exact ⟨_, rfl, h⟩
theorem dec_eqTuple {K : PySem.W.Frag} (a : Addr) (o : Obj) (its : Array Value) (n : Nat) (hd : o.data = .seq its n) (hc : o.cls = .type "tuple") (hsub : PySem.W.subIn K (.ref C) (.type "tuple") = some false) :
    Meets (Builtin.«tuple.__eq__» ⟨[.ref a, .ref l], []⟩) (fun _ R s => K.In s.heap ∧ s.heap.get? a = some o ∧ s.heap.get? l = some (PySem.W.instObj C dx) ∧ R (.ok (.ret Value.notImplemented)) s) :=
  .of_wp fun prog w A R s h => by
    obtain ⟨hp, g, d, tk, os⟩ := s
    obtain ⟨X, ha, hl, h⟩ := h
    obtain ⟨oc, od, dd, sl⟩ := o
    subst hd
    subst hc
    wp_walk
    refine (PySem.W.looks_subIn (M := model prog w) X hsub).here ?_
    wp_walk
    exact ⟨_, rfl, h⟩
theorem dec_eqList {K : PySem.W.Frag} (a : Addr) (o : Obj) (its : Array Value) (n : Nat) (hd : o.data = .seq its n) (hc : o.cls = .type "list") (hsub : PySem.W.subIn K (.ref C) (.type "list") = some false) :
    Meets (Builtin.«list.__eq__» ⟨[.ref a, .ref l], []⟩) (fun _ R s => K.In s.heap ∧ s.heap.get? a = some o ∧ s.heap.get? l = some (PySem.W.instObj C dx) ∧ R (.ok (.ret Value.notImplemented)) s) :=
  .of_wp fun prog w A R s h => by
    obtain ⟨hp, g, d, tk, os⟩ := s
    obtain ⟨X, ha, hl, h⟩ := h
    obtain ⟨oc, od, dd, sl⟩ := o
    subst hd
    subst hc
    wp_walk
    refine (PySem.W.looks_subIn (M := model prog w) X hsub).here ?_
    wp_walk
    exact ⟨_, rfl, h⟩
theorem dec_eqDict {K : PySem.W.Frag} (a : Addr) (o : Obj) (hc : o.cls = .type "dict") (hsub : PySem.W.subIn K (.ref C) (.type "dict") = some false) :
    Meets (Builtin.«dict.__eq__» ⟨[.ref a, .ref l], []⟩) (fun _ R s => K.In s.heap ∧ s.heap.get? a = some o ∧ s.heap.get? l = some (PySem.W.instObj C dx) ∧ R (.ok (.ret Value.notImplemented)) s) :=
  .of_wp fun prog w A R s h => by
    obtain ⟨hp, g, d, tk, os⟩ := s
    obtain ⟨X, ha, hl, h⟩ := h
    obtain ⟨oc, od, dd, sl⟩ := o
    subst hc
    wp_walk
    refine (PySem.W.looks_subIn (M := model prog w) X hsub).here ?_
    wp_walk
    exact ⟨_, rfl, h⟩
end
/-! the rule: v == own, v declines -/
namespace Own
open PySem.W PySem.Calls
section
variable {prog : Program} {w : World} {A : Around} {E : Value → Shared → Prop} {s : Shared} {K : Frag} {x C L f : Addr} {h₀ : Heap} {m : Str → Option Value} {ox : Obj} {od : Option Obj} {v : Value} {T id : String}
theorem eq_declL {Q : Value → Shared → Prop} (ti : s.TypeIs v T) (slot : Slot T (cmpInfo .Eq).2.1 id) (cl : wpAny (model prog w) A (call (.builtin id) [v, .ref x]) (fun r s' => r = .notImplemented ∧ s' = s) E s) (hu : A.units < cLine) (F : Fr h₀ L s.heap m) (X₀ : K.In h₀) (I : InstAt s.heap x ox C od)
    (hs : findIn K (.ref C) "__eq__" = some (some (.ref f))) (hf : isFn K (.ref f) = true) (hsub : subIn K (.ref C) (.type T) = some false)
    (h : wpAny (model prog w) A (call (.ref f) [.ref x, v]) (PySem.W.CmpBack Q) E s) : wpAny (model prog w) A (richCompare .Eq v (.ref x)) Q E s := by
  have X := X₀.keeps F.keep
  have one : wpAny (model prog w) A (tryCompare (.ref x) (cmpInfo .Eq).2.2 v) (fun r s' => ∃ v, r = some v ∧ Q v s') E s := by
    unfold tryCompare
    refine wpAny_bind (ifBound_K X I hs hf (wpAny_mono h (fun v s' hv => ?_) fun _ _ e => e))
    cases v <;> first | exact hv.elim | exact wpAny_pure ⟨_, rfl, hv⟩
  have one0 : oneThing? .Eq v (.ref x) = none := ti.oneThing_none .Eq _
  unfold richCompare
  simp only [one0]
  refine wpAny_holding (wpAny_bind (wpAny_cRoomFor hu ?_))
  refine wpAny_bind (wpAny_typeOf ti (wpAny_bind (I.type.here ?_)))
  rw [if_pos (show (Value.type T != Value.ref C) = true from rfl)]
  refine wpAny_bind ((looks_subIn X hsub).here ?_)
  simp only [Bool.false_eq_true, if_false]
  refine wpAny_bind (wpAny_tryCompare_declines ti slot (wpAny_mono cl (fun v s' hv => ⟨hv.1, ?_⟩) fun _ _ e => e))
  obtain ⟨_, rfl⟩ := hv
  refine wpAny_bind (wpAny_mono one (fun r s' z => ?_) fun _ _ e => e)
  obtain ⟨v, rfl, hq⟩ := z
  exact wpAny_pure hq
end
end Own
/-! kinds of values -/
inductive Kd (H : Hp) : V → String → Prop where
  | bl (b : Bool) : Kd H (.bl b) "bool"
  | non : Kd H .non "NoneType"
  | str (x : Str) : Kd H (.str x) "str"
  | lst {a : Addr} {xs : List V} (e : H a = some (.lst xs)) : Kd H (.ref a) "list"
  | tup {a : Addr} {xs : List V} (e : H a = some (.tup xs)) : Kd H (.ref a) "tuple"
  | dct {a : Addr} {kvs : List (Key × V)} (e : H a = some (.dK kvs)) : Kd H (.ref a) "dict"
theorem Kd.ty {K : PySem.W.Frag} {H : Hp} {x : V} {T : String} (k : Kd H x T) : TyX K H x (.type T) := by
  cases k with
  | bl b => exact .base (.bl b)
  | non => exact .base .non
  | str x => exact .base (.str x)
  | lst e => exact .base (.lst e)
  | tup e => exact .base (.tup e)
  | dct e => exact .base (.dK e)
def kinds : List String := ["bool", "NoneType", "str", "list", "tuple", "dict"]
theorem Kd.mem {H : Hp} {x : V} {T : String} (k : Kd H x T) : T ∈ kinds := by cases k <;> decide
section
variable {X : Cx} {pins : List (Addr × Obj)} {σ : L2.St} {H : Hp} {s : Shared}
theorem looks_type {M : Model} {v : Value} {T : String} (ti : s.TypeIs v T) : PySem.W.Looks M s.heap (typeOf v) (.type T) := fun A Q E s' kp q => by
  refine wpAny_typeOf (s := s') ?_ q
  cases v with
  | ref a =>
    obtain ⟨o, h1, h2⟩ := ti
    exact ⟨o, kp _ _ h1, h2⟩
  | _ => exact ti
theorem Kd.decl {x : V} {v : Value} {T : String} {l C dx : Addr} {A : Around} {E : Value → Shared → Prop} (k : Kd H x T) (I : Inv X pins σ H s) (r : RelV x v) (ho : s.heap.get? l = some (PySem.W.instObj C dx)) (hsub : ∀ T ∈ kinds, PySem.W.subIn X.K (.ref C) (.type T) = some false) :
    s.TypeIs v T ∧ ∃ id, Slot T (cmpInfo .Eq).2.1 id ∧ wpAny (model X.prog X.w) A (call (.builtin id) [v, .ref l]) (fun r s' => r = .notImplemented ∧ s' = s) E s := by
  cases k with
  | bl b =>
    obtain rfl := r
    exact ⟨rfl, _, F.slot_bool_eq, call_meets F.slot_bool_eq (PySem.typeIs_bool s b) F.entry_int_eq (F.args_int_eq_2 _ _) (dec_eqBool l C dx b) ⟨ho, rfl, rfl⟩⟩
  | non =>
    obtain rfl := r
    exact ⟨rfl, _, F.slot_NoneType_eq, call_meets F.slot_NoneType_eq rfl F.entry_NoneType_eq (F.args_NoneType_eq_2 _ _) (dec_eqNone l C dx) ⟨ho, rfl, rfl⟩⟩
  | str x =>
    obtain ⟨t, rfl⟩ := r
    exact ⟨rfl, _, F.slot_str_eq, call_meets F.slot_str_eq rfl F.entry_str_eq (F.args_str_eq_2 _ _) (dec_eqStr l C dx x t) ⟨ho, rfl, rfl⟩⟩
  | @lst a xs e =>
    obtain rfl : v = Value.ref a := r
    obtain ⟨_, its, n, _, g⟩ := (show ObjOk _ _ H s.heap a (.lst xs) from I.hok a _ e)
    have ti : s.TypeIs (.ref a) "list" := ⟨_, g, rfl⟩
    exact ⟨ti, _, F.slot_list_eq, call_meets F.slot_list_eq ti F.entry_list_eq (F.args_list_eq_2 _ _) (dec_eqList l C dx a _ _ _ rfl rfl (hsub _ (by decide))) ⟨I.kIn, g, ho, rfl, rfl⟩⟩
  | @tup a xs e =>
    obtain rfl : v = Value.ref a := r
    obtain ⟨_, its, _, o, g, c, n, d⟩ := (show ObjOk _ _ H s.heap a (.tup xs) from I.hok a _ e)
    have ti : s.TypeIs (.ref a) "tuple" := ⟨_, g, c⟩
    exact ⟨ti, _, F.slot_tuple_eq, call_meets F.slot_tuple_eq ti F.entry_tuple_eq (F.args_tuple_eq_2 _ _) (dec_eqTuple l C dx a _ _ _ d c (hsub _ (by decide))) ⟨I.kIn, g, ho, rfl, rfl⟩⟩
  | @dct a kvs e =>
    obtain rfl : v = Value.ref a := r
    obtain ⟨_, _, vs, _, o, es, ep, g, ⟨c, _, _⟩, _⟩ := (show ObjOk _ _ H s.heap a (.dK kvs) from I.hok a _ e)
    have ti : s.TypeIs (.ref a) "dict" := ⟨_, g, c⟩
    exact ⟨ti, _, F.slot_dict_eq, call_meets F.slot_dict_eq ti F.entry_dict_eq (F.args_dict_eq_2 _ _) (dec_eqDict l C dx a _ c (hsub _ (by decide))) ⟨I.kIn, g, ho, rfl, rfl⟩⟩
end
/-! the readings -/
structure KdOk (K : PySem.W.Frag) (C : Addr) : Prop where
  one : ∀ T ∈ kinds, PySem.W.subIn K (.ref C) (.type T) = some false
  two : ∀ T ∈ kinds, PySem.W.subIn K (.type T) (.ref C) = some false
def kdB (K : PySem.W.Frag) (x : Str) : Bool := kinds.all fun T => decide (PySem.W.subIn K (.ref (ga K x)) (.type T) = some false) && decide (PySem.W.subIn K (.type T) (.ref (ga K x)) = some false)
theorem kdB_ok {K : PySem.W.Frag} {x : Str} (h : kdB K x = true) : KdOk K (ga K x) :=
  ⟨fun T hT => of_decide_eq_true (ba (List.all_eq_true.mp h T hT)).1, fun T hT => of_decide_eq_true (ba (List.all_eq_true.mp h T hT)).2⟩
def eRK (C : Addr) (sp : Sp) : R2 := fun x y H Q => ∃ a dx fs T, x = .ref a ∧ H a = some (.ins C dx fs) ∧ Kd H y T ∧ sp [.ref a, y] H Q E0
def eKR (C : Addr) (sp : Sp) : R2 := fun x y H Q => ∃ a dx fs T, y = .ref a ∧ H a = some (.ins C dx fs) ∧ Kd H x T ∧ sp [.ref a, x] H Q E0
def nRK (C : Addr) (sp : Sp) : R2 := fun x y H Q => eRK C sp x y H (turned Q)
section
variable {X : Cx} {k j : Nat} {f C : Addr} {ps : List Str} {sp : Sp}
theorem eq_RK (G : Gf X.prog X.w X.K X.mg X.base CX0 k f ps [] sp) (o : KdOk X.K C) (p : SpOk X.K C "__eq__" f) (hr : RG j X.A) (hj : k ≤ j) : OpR X (compareOp .Eq) (eRK C sp) := by
  intro pins s σ H x y v u Q I rx ry h
  obtain ⟨a, dx, fs, T, rfl, ea, kd, h1⟩ := h
  obtain rfl : v = Value.ref a := rx
  obtain ⟨mA, O, _⟩ := ins_get I.hok ea
  obtain ⟨od, J, _⟩ := O.look
  obtain ⟨m, hF⟩ := I.fr
  obtain ⟨ti, _⟩ := kd.decl (A := X.A) (E := X.xe) I ry (ins_obj I.hok ea) o.one
  have nf : PySem.W.notFirst X.K C (.type T) = true := by
    unfold PySem.W.notFirst
    rw [o.two T kd.mem] <;> rfl
  refine PySem.W.cmp_K (op := .Eq) (tb := .type T) hr.r.units0 hF I.ok.mod.kin J (looks_type ti) nf p.at_ p.fn ?_
  exact wpAny_mono (run_g (us := [.ref a, u]) (vs := [.ref a, y]) G hr hj pass0 I (.cons rfl (.cons ry .nil)) h1) (fun w s' z => back z) fun _ _ x => x
theorem eq_KR (G : Gf X.prog X.w X.K X.mg X.base CX0 k f ps [] sp) (o : KdOk X.K C) (p : SpOk X.K C "__eq__" f) (hr : RG j X.A) (hj : k ≤ j) : OpR X (compareOp .Eq) (eKR C sp) := by
  intro pins s σ H x y v u Q I rx ry h
  obtain ⟨a, dx, fs, T, rfl, ea, kd, h1⟩ := h
  obtain rfl : u = Value.ref a := ry
  obtain ⟨mA, O, _⟩ := ins_get I.hok ea
  obtain ⟨od, J, _⟩ := O.look
  obtain ⟨m, hF⟩ := I.fr
  obtain ⟨ti, id, slot, cl⟩ := kd.decl (A := X.A) (E := X.xe) I rx (ins_obj I.hok ea) o.one
  refine Own.eq_declL ti slot cl hr.r.units0 hF I.ok.mod.kin J p.at_ p.fn (o.one T kd.mem) ?_
  exact wpAny_mono (run_g (us := [.ref a, v]) (vs := [.ref a, x]) G hr hj pass0 I (.cons rfl (.cons rx .nil)) h1) (fun w s' z => back z) fun _ _ x => x
theorem ne_RK (G : Gf X.prog X.w X.K X.mg X.base CX0 k f ps [] sp) (o : KdOk X.K C) (n : NeOk X.K C) (p : SpOk X.K C "__eq__" f) (hr : RG j X.A) (hj : k + 1 ≤ j) : OpR X (compareOp .NotEq) (nRK C sp) := by
  intro pins s σ H x y v u Q I rx ry h
  obtain ⟨a, dx, fs, T, rfl, ea, kd, h1⟩ := h
  obtain rfl : v = Value.ref a := rx
  obtain ⟨mA, O, _⟩ := ins_get I.hok ea
  obtain ⟨od, J, _⟩ := O.look
  obtain ⟨m, hF⟩ := I.fr
  obtain ⟨ti, _⟩ := kd.decl (A := X.A) (E := X.xe) I ry (ins_obj I.hok ea) o.one
  have nf : PySem.W.notFirst X.K C (.type T) = true := by
    unfold PySem.W.notFirst
    rw [o.two T kd.mem] <;> rfl
  have hr1 : RG (k + 1) X.A := hr.mono hj
  exact Own.ne_own (tb := .type T) hr.r.units0 hr1.in1.r.units0 hF I.ok.mod.kin J (looks_type ti) nf n.ne n.ob p.at_ p.fn (run_turned (us := [.ref a, u]) (vs := [.ref a, y]) G hr1 I (.cons rfl (.cons ry .nil)) h1)
end
/-- f() -/
theorem pe_g0 {X : Cx} {CX : CXT} {k j : Nat} {f : Addr} {x : Str} {ps : List Str} {dvs : List V} {sp : Sp} {E : XK} {p pos : Pos} (G : Gf X.prog X.w X.K X.mg X.base CX k f ps dvs sp) (hm : X.mg x = some (.ref f)) (hr : RG j X.A) (hj : k ≤ j) (hx : Passes CX X E) (hg : Gl X x := by rfl)
    (hdb : (x == ("__debug__" : Str)) = false := by decide) : PE X (.Call (.Name x p) [] [] pos) (tCall sp dvs E tNil) := by
  refine ⟨fun pins s σ H Q I h => ?_⟩
  refine wpAny_Call_Name_kw (ld_glob I hg hm ?_ hdb)
  exact PySem.W.callWith_K0 I.kIn G.kp (run_g (us := []) (vs := []) G hr hj hx I .nil h)
end My

set_option Elab.async false
set_option linter.all false
set_option maxRecDepth 100000
set_option maxHeartbeats 4000000
/-! LayJ: comprehensions by what they gather, append, pop, reversed ranges and slices -/
namespace My
open PySem PySem.Builtin PySem.Builtin.Str PySem.Spec PyProof.Rows L2 SX
theorem tupS {K : PySem.W.Frag} {H H' : Hp} {a : Addr} {xs : List V} (h : SqT K H a xs) (e : Same H H') : SqT K H' a xs :=
  h.elim (fun h => .inl (h.elim (fun h => .inl (e _ _ h)) fun ⟨o, h⟩ => .inr ⟨o, e _ _ h⟩)) fun h => .inr h
theorem ne_lst {H : Hp} {D q : Addr} {acc : List V} {o : HO} (hD : H D = some (.lst acc)) (h : H q = some o) (n : o ≠ .lst acc) : q ≠ D := fun e => by
  rw [e, hD] at h
  exact n (Option.some.inj h).symm
theorem tupB {K : PySem.W.Frag} {H H' : Hp} {a D : Addr} {xs acc : List V} (hD : H D = some (.lst acc)) (b : But D H H') (h : SqT K H a xs) : SqT K H' a xs := by
  rcases h with (h | ⟨o, h⟩) | h
  · exact .inl (.inl (b _ _ (ne_lst hD h fun z => by cases z) h))
  · exact .inl (.inr ⟨o, b _ _ (ne_lst hD h fun z => by cases z) h⟩)
  · exact .inr h
section
variable {K : PySem.W.Frag} {σ : L2.St} {H : Hp} {nx bk ct : L2.St → Hp → Prop} {rt : VK} {ta tb tc te tv tl : TE} {Q : VK} {g : TG} {tA : TA} {tt : TT} {vs : List Nat} {ts : TS}
/-- what a comprehension over a range gathers -/
theorem lc_rangeG {lo : Int} {n : Nat} (Pa : Nat → List V → Hp → Prop) (hn : ∀ i acc H, Pa i acc H → acc.length ≤ 1000) (mono : ∀ i acc D acc' H1 H2, H1 D = some (.lst acc') → But D H1 H2 → Pa i acc H1 → Pa i acc H2) (h0 : ∀ H', Same H H' → Pa 0 [] H')
    (hs : ∀ i acc H1 (X : VK) (Y : Hp → Prop), i < n → Same H H1 → Pa i acc H1 → (∀ y H4, Same H1 H4 → Pa (i + 1) (acc ++ [y]) H4 → X y H4) → (∀ H3, Same H1 H3 → Pa (i + 1) acc H3 → Y H3) → g (.int (lo + i)) (wipe σ vs) H1 fun σ2 H2 => wipe σ2 vs = wipe σ vs ∧ tt σ2 H2 fun b H3 => if b = true then te σ2 H3 X else Y H3)
    (hd : ∀ D acc H1, H D = none → H1 D = some (.lst acc) → Same H H1 → Pa n acc H1 → Q (.ref D) H1) : LcG (Itr lo n) g tt te vs σ H Q := by
  refine My.lc_range (fun i D H1 => H D = none ∧ ∃ acc, H1 D = some (.lst acc) ∧ Same H H1 ∧ Pa i acc H1) (fun D hD => ⟨hD, [], upd_same, My.Same.new (Same.refl H) hD, h0 _ (My.Same.new (Same.refl H) hD)⟩) ?_ (fun D H1 ⟨hD, acc, h1, s1, p⟩ => hd D acc H1 hD h1 s1 p)
  rintro i D H1 hi ⟨hD, acc, h1, s1, p⟩
  exact hs i acc H1 _ _ hi s1 p (fun y H4 s4 p4 => ⟨acc, s4 _ _ h1, szl (hn _ _ _ p), hD, _, upd_same, My.Same.own (s1.trans s4) hD, mono _ _ _ _ _ _ (s4 _ _ h1) (My.But.put But.rfl) p4⟩) fun H3 s3 p3 => ⟨hD, acc, s3 _ _ h1, s1.trans s3, p3⟩
/-- over a list -/
theorem lc_listG {a : Addr} {xs : List V} (ha : SqL K H a xs) (Pa : Nat → List V → Hp → Prop) (hn : ∀ i acc H, Pa i acc H → acc.length ≤ 1000) (mono : ∀ i acc D acc' H1 H2, H1 D = some (.lst acc') → But D H1 H2 → Pa i acc H1 → Pa i acc H2) (h0 : ∀ H', Same H H' → Pa 0 [] H')
    (hs : ∀ i x acc H1 (X : VK) (Y : Hp → Prop), xs[i]? = some x → Same H H1 → Pa i acc H1 → (∀ y H4, Same H1 H4 → Pa (i + 1) (acc ++ [y]) H4 → X y H4) → (∀ H3, Same H1 H3 → Pa (i + 1) acc H3 → Y H3) → g x (wipe σ vs) H1 fun σ2 H2 => wipe σ2 vs = wipe σ vs ∧ tt σ2 H2 fun b H3 => if b = true then te σ2 H3 X else Y H3)
    (hd : ∀ D acc H1, H D = none → H1 D = some (.lst acc) → Same H H1 → Pa xs.length acc H1 → Q (.ref D) H1) : LcG (Itl K a) g tt te vs σ H Q := by
  refine My.lc_list (xs := xs) (fun i D H1 => H D = none ∧ ∃ acc, H1 D = some (.lst acc) ∧ Same H H1 ∧ Pa i acc H1) (fun D hD => ⟨hD, [], upd_same, My.Same.new (Same.refl H) hD, h0 _ (My.Same.new (Same.refl H) hD)⟩) (fun i D H1 _ ⟨_, _, _, s, _⟩ => s.seq ha) ?_ (fun D H1 ⟨hD, acc, h1, s1, p⟩ => hd D acc H1 hD h1 s1 p)
  rintro i x D H1 hi ⟨hD, acc, h1, s1, p⟩
  exact hs i x acc H1 _ _ hi s1 p (fun y H4 s4 p4 => ⟨acc, s4 _ _ h1, szl (hn _ _ _ p), hD, _, upd_same, My.Same.own (s1.trans s4) hD, mono _ _ _ _ _ _ (s4 _ _ h1) (My.But.put But.rfl) p4⟩) fun H3 s3 p3 => ⟨hD, acc, s3 _ _ h1, s1.trans s3, p3⟩
/-- over a tuple -/
theorem lc_tupG {a : Addr} {xs : List V} (ha : SqT K H a xs) (Pa : Nat → List V → Hp → Prop) (hn : ∀ i acc H, Pa i acc H → acc.length ≤ 1000) (mono : ∀ i acc D acc' H1 H2, H1 D = some (.lst acc') → But D H1 H2 → Pa i acc H1 → Pa i acc H2) (h0 : ∀ H', Same H H' → Pa 0 [] H')
    (hs : ∀ i x acc H1 (X : VK) (Y : Hp → Prop), xs[i]? = some x → Same H H1 → Pa i acc H1 → (∀ y H4, Same H1 H4 → Pa (i + 1) (acc ++ [y]) H4 → X y H4) → (∀ H3, Same H1 H3 → Pa (i + 1) acc H3 → Y H3) → g x (wipe σ vs) H1 fun σ2 H2 => wipe σ2 vs = wipe σ vs ∧ tt σ2 H2 fun b H3 => if b = true then te σ2 H3 X else Y H3)
    (hd : ∀ D acc H1, H D = none → H1 D = some (.lst acc) → Same H H1 → Pa xs.length acc H1 → Q (.ref D) H1) : LcG (Itt K a) g tt te vs σ H Q := by
  refine My.lc_tup (xs := xs) (fun i D H1 => H D = none ∧ ∃ acc, H1 D = some (.lst acc) ∧ Same H H1 ∧ Pa i acc H1) (fun D hD => ⟨hD, [], upd_same, My.Same.new (Same.refl H) hD, h0 _ (My.Same.new (Same.refl H) hD)⟩) (fun i D H1 _ ⟨_, _, _, s, _⟩ => tupS ha s) ?_ (fun D H1 ⟨hD, acc, h1, s1, p⟩ => hd D acc H1 hD h1 s1 p)
  rintro i x D H1 hi ⟨hD, acc, h1, s1, p⟩
  exact hs i x acc H1 _ _ hi s1 p (fun y H4 s4 p4 => ⟨acc, s4 _ _ h1, szl (hn _ _ _ p), hD, _, upd_same, My.Same.own (s1.trans s4) hD, mono _ _ _ _ _ _ (s4 _ _ h1) (My.But.put But.rfl) p4⟩) fun H3 s3 p3 => ⟨hD, acc, s3 _ _ h1, s1.trans s3, p3⟩
theorem r_tbm {T : String} {r : V → List V → Hp → VK → Prop} (h : ta σ H fun x H1 => tyV K T x H1 ∧ tA σ H1 fun xs H2 => r x xs H2 Q) : tBM K T r ta tA σ H Q := h
theorem r_tbm0 {T : String} {r : V → List V → Hp → VK → Prop} (h : ta σ H fun x H1 => tyV K T x H1 ∧ r x [] H1 Q) : tBM0 K T r ta σ H Q := h
theorem f_tyL {a : Addr} {xs : List V} {B : Prop} (h : H a = some (.lst xs)) (q : B) : tyV K "list" (.ref a) H ∧ B := ⟨.inl ⟨rfl, xs, SqL.of h⟩, q⟩
theorem r_app {l : Addr} {xs : List V} {y : V} (h : H l = some (.lst xs)) (n : xs.length ≤ 1000) (q : Q .non (upd H l (.lst (xs ++ [y])))) : rAppend (.ref l) [y] H Q := ⟨l, xs, y, rfl, rfl, h, szl n, q⟩
theorem r_pop {l : Addr} {xs : List V} {y : V} (h : H l = some (.lst xs)) (e : xs[xs.length - 1]? = some y) (q : Q y (upd H l (.lst xs.dropLast))) : rPop (.ref l) [] H Q := ⟨l, xs, y, rfl, rfl, h, e, q⟩
theorem r_rev {a : Addr} {xs : List V} (h : SqL K H a xs) (q : ∀ p, H p = none → Q (.ref p) (upd H p (.lst xs.reverse))) : ∃ b ys, V.ref a = .ref b ∧ SqL K H b ys ∧ ∀ p, H p = none → Q (.ref p) (upd H p (.lst ys.reverse)) := ⟨a, xs, rfl, h, q⟩
theorem r_tRev (h : te σ H fun x H1 => ∃ a xs, x = .ref a ∧ SqL K H1 a xs ∧ ∀ p, H1 p = none → Q (.ref p) (upd H1 p (.lst xs.reverse))) : tRevL K te σ H Q := h
theorem atI_last (xs : List V) (v : V) : atI (xs ++ [v]) (-1) = some v := by
  unfold atI ixN
  rw [List.length_append, if_neg (by decide), if_pos (by simp; omega)]
  show (xs ++ [v])[((-1 : Int) + ((xs.length + 1 : Nat) : Int)).toNat]? = some v
  have e : ((-1 : Int) + ((xs.length + 1 : Nat) : Int)).toNat = xs.length := by omega
  rw [e]
  simp
/-- a for over reversed(range(n)) -/
def RvF (n : Int) (g : TG) (ts : TS) (D : Ends) (σ : L2.St) (H : Hp) : Prop := -(2 ^ 62) ≤ (0 : Int) ∧ (0 : Int) < 2 ^ 62 ∧ -(2 ^ 62) ≤ n ∧ n < 2 ^ 62 ∧ LoopG (Itc (0 + (((n - 0).toNat : Nat) : Int) - 1) (-1) (n - 0).toNat) g ts D σ H
theorem r_forRV {te : TE} (h : te σ H fun x H1 => ∃ n : Int, x = .int n ∧ RvF n g ts ⟨nx, rt, bk, ct⟩ σ H1) : tFor (iRevR (tRg1 te)) g ts ⟨nx, rt, bk, ct⟩ σ H := h
theorem rv_at {n : Int} {m : Nat} (e : n.toNat = m) (n1 : -(2 ^ 62) ≤ n) (n2 : n < 2 ^ 62) (q : LoopG (Itc ((m : Int) - 1) (-1) m) g ts ⟨nx, rt, bk, ct⟩ σ H) : RvF n g ts ⟨nx, rt, bk, ct⟩ σ H := by
  refine ⟨by decide, by decide, n1, n2, ?_⟩
  rw [Int.sub_zero, e, Int.zero_add]
  exact q
theorem lp_rev {lo c : Int} {n : Nat} (Pv : Nat → L2.St → Hp → Prop) (h0 : Pv 0 σ H) (hs : ∀ i σ H, i < n → Pv i σ H → g (.int (lo + (i : Nat) * c)) σ H fun σ2 H2 => ts ⟨Pv (i + 1), rt, nx, Pv (i + 1)⟩ σ2 H2) (hd : ∀ σ H, Pv n σ H → nx σ H) :
    LoopG (Itc lo c n) g ts ⟨nx, rt, bk, ct⟩ σ H := for_rangeC (D := ⟨nx, rt, bk, ct⟩) Pv h0 hs hd
/-- the last item -/
theorem r_lastL {p : Addr} {xs : List V} {v : V} (h : SqL K H p (xs ++ [v])) (q : Q v H) : rIxL K (.ref p) (.int (-1)) H Q := ⟨p, xs ++ [v], -1, v, rfl, rfl, h, atI_last xs v, q⟩
theorem r_lastT {p : Addr} {xs : List V} {v : V} (h : SqT K H p (xs ++ [v])) (q : Q v H) : rIxT K (.ref p) (.int (-1)) H Q := ⟨p, xs ++ [v], -1, v, rfl, rfl, h, atI_last xs v, q⟩
theorem r_memI {K : PySem.W.Frag} {a : Addr} {rs : List Int} {t : Int} {H : Hp} {Q : VK} (h : SqL K H a (rs.map V.int)) (q : Q (.bl (decide (t ∈ rs))) H) : rIn K false (.int t) (.ref a) H Q := by
  refine ⟨a, _, rfl, .inl h, rfl, ?_, ?_⟩
  · rw [List.all_eq_true]
    intro x hx
    obtain ⟨z, _, rfl⟩ := List.mem_map.mp hx
    rfl
  · have e : inV (.int t) (rs.map V.int) = decide (t ∈ rs) := by
      unfold inV
      rw [List.any_map]
      by_cases m : t ∈ rs
      · rw [decide_eq_true m, List.any_eq_true]
        exact ⟨t, m, by show (t == t) = true; simp⟩
      · rw [decide_eq_false m, List.any_eq_false]
        intro x hx
        show ¬ (x == t) = true
        simp
        intro z
        exact m (z ▸ hx)
    show Q (.bl (inV (.int t) (rs.map V.int))) H
    rw [e]
    exact q
theorem r_eqB {a b : Bool} {H : Hp} {Q : VK} (q : Q (.bl (decide (a = b))) H) : rEq (.bl a) (.bl b) H Q := ⟨rfl, by
  have e : decide (V.bl a = V.bl b) = decide (a = b) := by
    rw [decide_eq_decide]
    exact ⟨fun z => V.bl.inj z, fun z => by rw [z]⟩
  rw [e]
  exact q⟩
end
end My

set_option Elab.async false
set_option linter.all false
set_option maxRecDepth 100000
set_option maxHeartbeats 4000000
/-! LayK0: own error classes over ValueError, LookupError or ArithmeticError: made, their fields set -/
namespace My
open PySem PySem.Spec PyProof.Rows L2 He
/-! ### the classes above -/
/-- own classes, then the list tl -/
def ownThen (tl : List Value) : List Value → Bool
  | .ref _ :: r => ownThen tl r
  | l => l == tl
theorem ownThen_two {tl : List Value} {l : List Value} (e : ownThen tl l = true) : (∃ c r, l = .ref c :: r ∧ ownThen tl r = true) ∨ l = tl := by
  unfold ownThen at e
  split at e
  · exact .inl ⟨_, _, rfl, e⟩
  · exact .inr (eq_of_beq e)
theorem ownThen_in {tl : List Value} (B : String) : ∀ l : List Value, ownThen tl l = true → l.contains (.type B) = tl.contains (.type B)
  | [], e => by
    rcases ownThen_two e with ⟨c, r, q, _⟩ | q
    · cases q
    · rw [q]
  | a :: r, e => by
    rcases ownThen_two e with ⟨c, r2, q, h⟩ | q
    · obtain ⟨e1, e2⟩ := List.cons.inj q
      subst e1 e2
      have hc : (Value.ref c :: r).contains (.type B) = r.contains (.type B) := by rw [List.contains_cons] <;> rfl
      exact hc.trans (ownThen_in B r h)
    · rw [q]
theorem ownThen_pass {tl : List Value} (p : ∀ v : Value, refuseLoop v "__setattr__" tl = pure ()) (v : Value) : ∀ l : List Value, ownThen tl l = true → refuseLoop v "__setattr__" l = pure ()
  | [], e => by
    rcases ownThen_two e with ⟨c, r, q, _⟩ | q
    · cases q
    · rw [q]; exact p v
  | a :: r, e => by
    rcases ownThen_two e with ⟨c, r2, q, h⟩ | q
    · obtain ⟨e1, e2⟩ := List.cons.inj q
      subst e1 e2
      rw [refuseLoop_ref]
      exact ownThen_pass p v r h
    · rw [q]; exact p v
def tailOf (B : String) : List Value := [.type B, .type "Exception", .type "BaseException", .type "object"]
/-- what is asked of the classes bm above an own error class whose instances `new` makes -/
structure Above (bm : List Value) (new : String) : Prop where
  how : ∃ (B ini : String) (tl : List Value), ExcBaseFacts B new ini tl ∧ ∀ Y : String, bm.contains (.type Y) = tl.contains (.type Y)
  pass : ∀ v : Value, refuseLoop v "__setattr__" bm = pure ()
  ob : bm.contains (.type "object") = true
theorem above_of {B new ini : String} {bm : List Value} {sa ow : String} (F : ExcBaseFacts B new ini (tailOf B)) (S : StoreFacts B (tailOf B) sa ow) (h : ownThen (tailOf B) bm = true) : Above bm new :=
  ⟨⟨B, ini, tailOf B, F, fun Y => ownThen_in Y bm h⟩, fun v => ownThen_pass S.passes v bm h, (ownThen_in "object" bm h).trans (by
    unfold tailOf
    simp)⟩
def aboveB (bm : List Value) (new : String) : Bool :=
  (new == "ValueError.__new__" && ownThen (tailOf "ValueError") bm) || ((new == "LookupError.__new__" && ownThen (tailOf "LookupError") bm) || (new == "ArithmeticError.__new__" && ownThen (tailOf "ArithmeticError") bm))
theorem aboveB_ok {bm : List Value} {new : String} (h : aboveB bm new = true) : Above bm new := by
  unfold aboveB at h
  rcases Bool.or_eq_true_iff.mp h with h | h
  · obtain ⟨e, h⟩ := ba h
    obtain rfl := eq_of_beq e
    exact above_of F.excBase_ValueError F.store_ValueError h
  · rcases Bool.or_eq_true_iff.mp h with h | h
    · obtain ⟨e, h⟩ := ba h
      obtain rfl := eq_of_beq e
      exact above_of F.excBase_LookupError F.store_LookupError h
    · obtain ⟨e, h⟩ := ba h
      obtain rfl := eq_of_beq e
      exact above_of F.excBase_ArithmeticError F.store_ArithmeticError h
/-- what the written part says of an own error class -/
structure OexG (K : PySem.W.Frag) (C : Addr) : Prop where
  cls : ∃ nm qn N bs bm sn sub ab col dd k0 k1 k2 k3 k5 new, K.lookup C = some (excClassObj nm qn C N bs bm true sn sub ab col dd k0 k1 k2 k3 k5 new) ∧ Above bm new
  sa : PySem.W.findIn K (.ref C) "__setattr__" = some (some (.builtin "object.__setattr__"))
  exC : PySem.W.subIn K (.ref C) (.type "BaseException") = some true
  tyC : PySem.W.typeIn K (.ref C) = some (.type "type")
  kC : PySem.W.keepIn K (.ref C) = true
/-! ### a field is set -/
section
variable {prog : Program} {w : World} {A : Around} {R : Result → Shared → Prop} {hp : Heap} {g : Array GenState} {dw : Drawn} {tk0 : Nat} {os : OsState} {K : PySem.W.Frag} {name : Str} {tk : Tok} {v : Value} {x C dx : Addr} {fv : Array Value} {cd : ClassData}
open Builtin Builtin.ObjectAttr PySem.W
/-- the first field: a dict is made -/
theorem osa_first (X : K.In hp) (hx : hp.get? x = some { cls := .ref C, data := .fields fv }) (hcd : clsIn K C = some cd) (hh : cd.hasDict = true) (ne : cd.mro.isEmpty = false) (ob : cd.mro.contains (.type "object") = true)
    (pass : ∀ v : Value, refuseLoop v "__setattr__" cd.mro = pure ()) (ha : findIn K (.ref C) name = some none)
    (k : ∀ h2 t2 dx, (∀ b o, b ≠ x → hp.get? b = some o → h2.get? b = some o) → hp.objs.size ≤ dx → dx ≠ x → h2.get? x = some { cls := .ref C, dict := some dx, data := .fields fv } → h2.Ns1 dx (fun y => if y = name then some v else none) → R (.ok (.ret .none)) ⟨h2, g, dw, t2, os⟩) :
    codeAny (model prog w) A (.call (.builtin "object.__setattr__") ⟨[.ref x, .str name tk, v], []⟩) R ⟨hp, g, dw, tk0, os⟩ := by
  have J : InstAt hp x { cls := .ref C, data := .fields fv } C none := ⟨hx, rfl, rfl, trivial⟩
  have nx : hp.objs.size ≠ x := (Nat.ne_of_lt (Heap.lt_size hx)).symm
  have LC : Looks (model prog w) hp (classData C) cd := looks_clsIn X hcd
  have LM : Looks (model prog w) hp (mroOf (.ref C)) cd.mro := LC.andThen .now
  have isO : mroIn K C (.type "object") = some true := by
    unfold mroIn
    rw [hcd, Option.bind_some, if_neg (by rw [ne]; decide), ob]
  refine codeAny_call_builtin F.store_object.slot.plain F.store_object.entry ?_
  refine @check_slot (model prog w) _ _ ⟨hp, g, dw, tk0, os⟩ "object.__setattr__" "object" "__setattr__" (.ref x) [.str name tk, v] [] _ F.store_object.kind F.store_object.split ?c1 ?c2 ?c3
  case c1 => exact J.type.andThen (looks_mroIn X isO)
  case c2 => exact F.store_object.args (.ref x) (.str name tk) v
  case c3 =>
    rw [osa_eq, refuse_eq]
    refine wpAny_bind (wpAny_bind ?_)
    refine J.type.at (wpAny_bind (LM.at ?_))
    rw [pass]
    refine wpAny_pure (wpAny_bind ?_)
    refine J.type.at (wpAny_bind ((looks_findIn X ha).at ?_))
    have LT : Looks (model prog w) hp (storeTaker? none) none := .now
    refine wpAny_bind (LT.at ?_)
    obtain ⟨c1, c2, c3, c4, c5, c6, c7, c8, c9, c10, c11⟩ := cd
    dsimp only at hh
    subst hh
    show wpAny _ _ (storeInOwnDict (.ref x) (.ref C) (.str name tk) name v false) _ _ _
    unfold storeInOwnDict ownDictForStores
    repeat (first
      | with_reducible refine HandSPX.store_in_new ?_ ?_
      | with_reducible refine wpAny_loadPart_at hx ?_
      | with_reducible refine LC.at ?_
      | wp_step)
    · exact ⟨_, #[], _,
        (Heap.get?_update_ne _ _ _ _ nx).trans (Heap.get?_push_at rfl rfl),
        rfl, fun e he => absurd he (by simp), fun _ => rfl⟩
    · intro h2 t2 hn sb
      have hx1 : (hp.push { cls := .type "dict", data := .dict #[] }).get? x = some { cls := .ref C, data := .fields fv } := Heap.get?_push_of_some _ hx
      refine k h2 t2 _ (fun b o hb ho => ?_) (Nat.le_refl _) nx ?_ hn
      · refine (sb.2 b (Nat.ne_of_lt (Heap.lt_size ho))).trans ?_
        exact (Heap.get?_update_ne _ _ _ _ hb).trans (Heap.get?_push_of_some _ ho)
      · exact (sb.2 x nx.symm).trans (Heap.get?_update_self _ hx1 rfl)
/-- a further field: the dict is there -/
theorem osa_later {m0 : Str → Option Value} {nl : List Str} (X : K.In hp) (hx : hp.get? x = some { cls := .ref C, dict := some dx, data := .fields fv }) (hns : hp.Ns1 dx m0) (hw : Within m0 nl) (hz : nl.length ≤ 1000) (hcd : clsIn K C = some cd) (hh : cd.hasDict = true)
    (ne : cd.mro.isEmpty = false) (ob : cd.mro.contains (.type "object") = true) (pass : ∀ v : Value, refuseLoop v "__setattr__" cd.mro = pure ()) (ha : findIn K (.ref C) name = some none)
    (k : ∀ h2 t2, (∀ b o, b ≠ dx → hp.get? b = some o → h2.get? b = some o) → h2.Ns1 dx (fun y => if y = name then some v else m0 y) → R (.ok (.ret .none)) ⟨h2, g, dw, t2, os⟩) :
    codeAny (model prog w) A (.call (.builtin "object.__setattr__") ⟨[.ref x, .str name tk, v], []⟩) R ⟨hp, g, dw, tk0, os⟩ := by
  obtain ⟨oD, esD, epD, hoD, hdD, _⟩ := hns.count hw
  have J : InstAt hp x { cls := .ref C, dict := some dx, data := .fields fv } C (some oD) := ⟨hx, rfl, rfl, hoD⟩
  have LC : Looks (model prog w) hp (classData C) cd := looks_clsIn X hcd
  have LM : Looks (model prog w) hp (mroOf (.ref C)) cd.mro := LC.andThen .now
  have isO : mroIn K C (.type "object") = some true := by
    unfold mroIn
    rw [hcd, Option.bind_some, if_neg (by rw [ne]; decide), ob]
  refine codeAny_call_builtin F.store_object.slot.plain F.store_object.entry ?_
  refine @check_slot (model prog w) _ _ ⟨hp, g, dw, tk0, os⟩ "object.__setattr__" "object" "__setattr__" (.ref x) [.str name tk, v] [] _ F.store_object.kind F.store_object.split ?c1 ?c2 ?c3
  case c1 => exact J.type.andThen (looks_mroIn X isO)
  case c2 => exact F.store_object.args (.ref x) (.str name tk) v
  case c3 =>
    rw [osa_eq, refuse_eq]
    refine wpAny_bind (wpAny_bind ?_)
    refine J.type.at (wpAny_bind (LM.at ?_))
    rw [pass]
    refine wpAny_pure (wpAny_bind ?_)
    refine J.type.at (wpAny_bind ((looks_findIn X ha).at ?_))
    have LT : Looks (model prog w) hp (storeTaker? none) none := .now
    refine wpAny_bind (LT.at ?_)
    obtain ⟨c1, c2, c3, c4, c5, c6, c7, c8, c9, c10, c11⟩ := cd
    dsimp only at hh
    subst hh
    show wpAny _ _ (storeInOwnDict (.ref x) (.ref C) (.str name tk) name v false) _ _ _
    unfold storeInOwnDict ownDictForStores
    repeat (first
      | with_reducible refine OEX.store_in_old hns hw hz ?_
      | with_reducible refine wpAny_loadPart_at hx ?_
      | with_reducible refine LC.at ?_
      | wp_step)
    intro h2 t2 hn sb
    exact k h2 t2 (fun b o hb ho => (sb.2 b hb).trans ho) hn
end
/-! ### over the abstract heap -/
section
variable {X : Cx} {pins : List (Addr × Obj)} {σ : L2.St} {H : Hp} {s : Shared} {a C dx : Addr} {f : Str} {y : V} {u : Value} {fs : List (Str × V)} {Q : Unit → Shared → Prop} {E : Value → Shared → Prop} {A : Around}
theorem setG_first (T : OexG X.K C) (I : Inv X pins σ H s) (e : H a = some (exo a C none)) (hno : PySem.W.findIn X.K (.ref C) f = some none) (ry : RelV y u)
    (k : ∀ dx s', H dx = none → dx ≠ a → Inv X pins σ (upd (upd H dx (exd dx [(f, y)])) a (exo a C (some dx))) s' → Q () s') : wpAny (model X.prog X.w) A (setAttr (.ref a) f u) Q E s := by
  obtain ⟨nm, qn, N, bs, bm, sn, sub, ab, col, dd, k0, k1, k2, k3, k5, new, hC, up⟩ := T.cls
  have hcl : PySem.W.clsIn X.K C = some { name := nm, bases := bs, mro := .ref C :: bm, ns := N, qualname := qn, hasDict := true, slotNames := sn, subclasses := sub, abstract := ab, collection := col, hasDel := false } := by
    unfold PySem.W.clsIn
    rw [hC] <;> rfl
  have ob : (Value.ref C :: bm).contains (.type "object") = true := by
    rw [List.contains_cons, up.ob, Bool.or_true]
  obtain ⟨t1, ho⟩ := exo_at I.hok e
  obtain ⟨hp, g, d, t, os⟩ := s
  refine PySem.W.set_plain I.kIn (ox := { cls := .ref C, dict := none, data := .fields #[.ref t1, .none, .none, .none, .bool false, .none] }) (od := none) ⟨ho, rfl, rfl, trivial⟩ T.sa ?_
  refine osa_first I.kIn ho hcl rfl rfl ob (fun v => by rw [refuseLoop_ref]; exact up.pass v) hno fun h' tk' dx kp dn dne hx hn => ?_
  have hnd : H dx = none := I.hok.fresh dn
  have off : ∀ {b : Addr} {o : Obj}, hp.get? b = some o → b ≠ dx := fun {b o} z => Nat.ne_of_lt (Nat.lt_of_lt_of_le (Heap.lt_size z) dn)
  have oth : ∀ {b : Addr}, H b = none → b ≠ a := fun {b} n => ne_of_none e n |>.symm
  have un : Un X.fs [] H (upd (upd H dx (exd dx [(f, y)])) a (exo a C (some dx))) hp h' := by
    refine ⟨?_, ?_, ?_, ?_, ?_, ?_, ?_⟩
    · exact fun b o z n _ _ => kp b o (oth n) z
    · exact fun b o z n _ _ => ⟨o.slots, kp b o (oth n) z⟩
    · intro b o z n _
      rw [upd_ne (oth n), upd_ne (off z)]
      exact n
    · intro b o z _
      by_cases hb : b = a
      · exact ⟨_, by rw [hb]; exact hx⟩
      · exact ⟨o, kp b o hb z⟩
    · intro b xs z
      rw [upd_ne (at_ne e z exo_tup), upd_ne (ne_of_none z hnd)]
      exact z
    · intro b o v z
      rw [upd_ne (at_ne e z exo_frz), upd_ne (ne_of_none z hnd)]
      exact z
    · intro b ps z
      refine ⟨#[], ?_⟩
      rw [upd_ne (at_ne e z exo_tbl), upd_ne (ne_of_none z hnd), z]
      simp
  refine k dx _ hnd dne (I.un (t' := tk') un fun b o z => ?_)
  by_cases hb : b = a
  · subst hb
    rw [upd_same] at z
    obtain rfl := Option.some.inj z
    exact exo_ok hx
  rw [upd_ne hb] at z
  by_cases hd : b = dx
  · subst hd
    rw [upd_same] at z
    obtain rfl := Option.some.inj z
    exact exd_ok hn (relO_put (fs := []) ry fun g => True.intro)
  rw [upd_ne hd] at z
  refine (I.hok b o z).stay (fun c v hc z2 => kp c v ?_ z2) (fun c hc => ?_) fun c xs hc => ?_
  · rcases hc with hc | hc
    · rw [hc]
      exact hb
    · exact at_ne e hc exo_own
  · rw [upd_ne (at_ne e hc exo_own), upd_ne (ne_of_none hc hnd)]
    exact hc
  · rw [upd_ne (at_ne e hc exo_tup), upd_ne (ne_of_none hc hnd)]
    exact hc
theorem setG_later (T : OexG X.K C) (I : Inv X pins σ H s) (e : H a = some (exo a C (some dx))) (ed : H dx = some (exd dx fs)) (hl : fs.length ≤ 900) (hno : PySem.W.findIn X.K (.ref C) f = some none) (ry : RelV y u)
    (k : ∀ s', Inv X pins σ (upd H dx (exd dx ((f, y) :: fs))) s' → Q () s') : wpAny (model X.prog X.w) A (setAttr (.ref a) f u) Q E s := by
  obtain ⟨nm, qn, N, bs, bm, sn, sub, ab, col, dd, k0, k1, k2, k3, k5, new, hC, up⟩ := T.cls
  have hcl : PySem.W.clsIn X.K C = some { name := nm, bases := bs, mro := .ref C :: bm, ns := N, qualname := qn, hasDict := true, slotNames := sn, subclasses := sub, abstract := ab, collection := col, hasDel := false } := by
    unfold PySem.W.clsIn
    rw [hC] <;> rfl
  have ob : (Value.ref C :: bm).contains (.type "object") = true := by
    rw [List.contains_cons, up.ob, Bool.or_true]
  obtain ⟨t1, ho⟩ := exo_at I.hok e
  obtain ⟨mA, hns, rel⟩ := exd_at I.hok ed
  have wi := within_of rel
  obtain ⟨hp, g, d, t, os⟩ := s
  obtain ⟨oD, _, _, hoD, _, _⟩ := hns.count wi
  refine PySem.W.set_plain I.kIn (ox := { cls := .ref C, dict := some dx, data := .fields #[.ref t1, .none, .none, .none, .bool false, .none] }) (od := some oD) ⟨ho, rfl, rfl, hoD⟩ T.sa ?_
  refine osa_later I.kIn ho hns wi (by rw [List.length_map]; omega) hcl rfl rfl ob (fun v => by rw [refuseLoop_ref]; exact up.pass v) hno fun h' tk' kp hn => ?_
  obtain ⟨oN, _, _, eN, _⟩ := id hn
  exact k _ (I.write (t' := tk') (x := dx) (e := dx) (o := exd dx ((f, y) :: fs)) (by rw [ed]; exact True.intro) (.inl rfl) kp ⟨oN, eN⟩ (exd_ok hn (relO_put ry rel)))
/-- self.f = v, self an exception that is being made -/
def tOstG (K : PySem.W.Frag) (f : Str) (to te : TE) : TS := fun D σ H => te σ H fun y H1 => to σ H1 fun x H2 => ∃ a C, x = .ref a ∧ OexG K C ∧ PySem.W.findIn K (.ref C) f = some none ∧
  ((H2 a = some (exo a C none) ∧ ∀ dx, H2 dx = none → dx ≠ a → D.nx σ (upd (upd H2 dx (exd dx [(f, y)])) a (exo a C (some dx)))) ∨
   ∃ dx fs, H2 a = some (exo a C (some dx)) ∧ H2 dx = some (exd dx fs) ∧ fs.length ≤ 900 ∧ D.nx σ (upd H2 dx (exd dx ((f, y) :: fs))))
variable {e o : Expr} {te to : TE} {p' pos : Pos}
theorem ps_ostG (ho : PE X o to) (he : PE X e te) (hs : swapsWith e (some (.Attribute o f p')) pos.line X.env = pure false := by rfl) : PS X (.Assign [.Attribute o f p'] e pos) (tOstG X.K f to te) := by
  refine ⟨fun pins s σ H D I h => ?_⟩
  refine plainObj_wpAny_Assign_Attribute ?_ hs
  refine thn (he.run pins s σ H _ I h) fun v s1 ⟨y, H1, I1, r1, q1⟩ => ?_
  refine thn (ho.run pins s1 σ H1 _ I1 q1) fun u s2 ⟨x, H2, I2, r2, a, C, ex, T, hno, q⟩ => ?_
  subst ex
  obtain rfl : u = Value.ref a := r2
  rcases q with ⟨ea, q⟩ | ⟨dx, fs, ea, ed, hl, q⟩
  · exact setG_first T I2 ea hno r1 fun dx s' n ne J => ⟨σ, _, J, q dx n ne⟩
  · exact setG_later T I2 ea ed hl hno r1 fun s' J => ⟨σ, _, J, q⟩
end
/-! ### C(e, ..) -/
section
variable {X : Cx} {e : Expr} {es : List Expr} {ta : TA} {p pos : Pos}
theorem pmkG {CX : CXT} {x : Str} {C fI : Addr} {k : Nat} {fd : FuncData} {ps : List Str} {sp : Sp} {ds : List Value} {dvs : List V} (T : OexG X.K C) (iC : PySem.W.findIn X.K (.ref C) "__init__" = some (some (.ref fI))) (tI : PySem.W.typeIn X.K (.ref fI) = some (.type "function"))
    (F1 : FnOk X.prog X.w X.K X.mg X.base CX k fI fd ps sp) (hr : Room (k + 1) X.A) (hb : Binds X.K fd ps ds) (hd : Vals dvs ds) (hx : Passes CX X (fun _ _ _ => False)) (hg : Gl X x) (hm : X.mg x = some (.ref C)) (ha : PA X (e :: es) ta)
    (hdb : (x == ("__debug__" : Str)) = false := by decide) (he : starEach (e :: es) X.env = (false, eval e X.env) :: starEach es X.env := by rfl) (hpl : (backTo pos (starEach es X.env)).any (·.1) = false := by rfl) :
    PMk X (.Call (.Name x p) (e :: es) [] pos) (tMkO C sp dvs ta) := by
  intro pins s σ H Q I h
  obtain ⟨nm, qn, N, bs, bm, sn, sub, ab, col, dd, k0, k1, k2, k3, k5, new, hC, up⟩ := T.cls
  obtain ⟨B, ini, tl, FB, hT⟩ := up.how
  refine wpAny_Call_Name_kw (ld_glob I hg hm ?_ hdb)
  refine PySem.W.callWith_K (h₀ := X.base) I.ok.mod.kin T.kC ?_ he hpl
  refine thn (ha.run pos pins s σ H _ I h) fun us s1 ⟨vs, H1, I1, r1, hz, q1⟩ => ⟨I1.kIn, ?_⟩
  show wpAny _ _ (call (.ref C) us) _ _ _
  obtain ⟨hp, g, dr, tk, os⟩ := s1
  have gt : hp.objs.size ≤ hp.objs.size + 1 := Nat.le_succ _
  have hq := q1 (hp.objs.size + 1) (I1.hok.fresh gt)
  let h2 : Heap := (hp.push (PySem.W.kdv_tup us)).push (PySem.HandSPX.excO C hp.objs.size)
  have kk : ∀ b o, hp.get? b = some o → h2.get? b = some o := fun b o z => Heap.get?_push_of_some _ (Heap.get?_push_of_some _ z)
  have at2 : h2.get? (hp.objs.size + 1) = some (PySem.HandSPX.excO C hp.objs.size) := by
    show ((hp.push (PySem.W.kdv_tup us)).push (PySem.HandSPX.excO C hp.objs.size)).get? (hp.objs.size + 1) = _
    heap_get
  have I2 : Inv X pins σ (upd H1 (hp.objs.size + 1) (exo (hp.objs.size + 1) C none)) ⟨h2, g, dr, tk, os⟩ := I1.laid (t' := tk) (a := hp.objs.size + 1) (o := exo (hp.objs.size + 1) C none) (h' := h2) kk gt (exo_ok at2)
  have r2 : Vals (V.ref (hp.objs.size + 1) :: (vs ++ dvs)) (Value.ref (hp.objs.size + 1) :: (us ++ ds)) := .cons rfl (r1.append hd)
  have l2 : (Value.ref (hp.objs.size + 1) :: us ++ ds).length = ps.length := (F1.len _ _ _ _ hq ▸ r2.length).symm
  have usz : us.length ≤ sizeLine := by
    rw [← Paired.length r1, sizeLine_eq]
    omega
  have run := F1.run _ X.stack _ _ ⟨Value.ref (hp.objs.size + 1) :: us, []⟩ (Value.ref (hp.objs.size + 1) :: (us ++ ds)) _ _ (fun _ _ _ => False) (hr.make C us []) (I2.env0.make C us []) (hb _ (Value.ref (hp.objs.size + 1) :: us) I2.kIn l2) r2 hq
  refine wpAny_call (PySem.HandSPX.call_own FB hT (I1.kIn _ _ hC) (PySem.W.looks_findIn I1.kIn iC) (fun self => PySem.W.bind_fn I1.kIn self tI) usz (codeAny_mono run fun r s' z => ?_))
  match r, z with
  | .error er, z => exact hx pins σ _ _ er s' I2 z
  | .ok (.ret u), z =>
    obtain ⟨v, H2, os2, bare2, un2, hok2, rv, ev, d, fs, ea, ed, hd1, q2⟩ := z
    subst ev
    obtain ⟨hh2, g2, d2, t2, os'⟩ := s'
    exact ⟨rv, mk_end (raises_own T.exC T.tyC) I1 gt kk un2 hok2 os2 bare2 ea ed hd1 q2⟩
end
end My

set_option Elab.async false
set_option linter.all false
set_option maxRecDepth 100000
set_option maxHeartbeats 4000000
/-! LayK: own error classes whose __init__ sets one field: raised, passed on, caught by name, their class asked, their field read -/
namespace My
open PySem PySem.Spec PyProof.Rows L2 He
theorem decT {p : Prop} [Decidable p] (h : decide p = true) : p := of_decide_eq_true h
/-- the class object of an own error -/
def oexB (K : PySem.W.Frag) (C : Addr) : Bool := match K.lookup C with
  | some ⟨.type "type", _, .cls c, sl⟩ => (match c.mro, sl.toList with
    | .ref C2 :: bm, [_, _, _, _, some (.builtin n), _] => C2 == C && (aboveB bm n && (c.hasDict && !c.hasDel))
    | _, _ => false)
  | _ => false
theorem oexB_ok {K : PySem.W.Frag} {C : Addr} (q : oexB K C = true) : ∃ nm qn N bs bm sn sub ab col dd k0 k1 k2 k3 k5 new, K.lookup C = some (excClassObj nm qn C N bs bm true sn sub ab col dd k0 k1 k2 k3 k5 new) ∧ Above bm new := by
  unfold oexB at q
  split at q
  · rename_i dd c sl ho
    split at q
    · rename_i C2 bm k0 k1 k2 k3 n k5 em es
      obtain ⟨e1, q⟩ := ba q
      obtain ⟨e2, q⟩ := ba q
      obtain ⟨e3, e4⟩ := ba q
      have e1 := eq_of_beq e1
      subst e1
      obtain ⟨f1, f2, f3, f4, f5, f6, f7, f8, f9, f10, f11⟩ := c
      dsimp only at em e3 e4
      cases f11 with
      | true => cases e4
      | false =>
        subst em e3
        have esl : sl = #[k0, k1, k2, k3, some (.builtin n), k5] := by
          cases sl
          simp only at es
          rw [es]
        rw [esl] at ho
        exact ⟨_, _, _, _, _, _, _, _, _, _, _, _, _, _, _, _, ho, aboveB_ok e2⟩
    · cases q
  · cases q
/-- all that is asked of an own error class x with an __init__ of its own -/
structure ErrOk (K : PySem.W.Frag) (C f : Addr) : Prop where
  ox : OexG K C
  iC : PySem.W.findIn K (.ref C) "__init__" = some (some (.ref f))
  tI : PySem.W.typeIn K (.ref f) = some (.type "function")
  xf : XfC K C
  cl : (PySem.W.clsIn K C).isSome = true
  ca : PySem.W.findIn K (.ref C) "__class__" = some (some (.builtin "object.__class__"))
  hn : PySem.W.specialIn K (.builtin "object.__class__") "__get__" = some (some (.builtin "getset_descriptor.__get__"))
  tk : PySem.W.takesIn K (.builtin "object.__class__") = some true
  mo : PySem.W.mroIn K C (.type "object") = some true
def errB (K : PySem.W.Frag) (x : Str) : Bool := oexB K (ga K x) && (eqO (PySem.W.findIn K (.ref (ga K x)) "__setattr__") (some (some (.builtin "object.__setattr__"))) && (decide (PySem.W.typeIn K (.ref (ga K x)) = some (.type "type")) && (PySem.W.keepIn K (.ref (ga K x)) &&
  (eqO (PySem.W.findIn K (.ref (ga K x)) "__init__") (some (some (.ref (ma K (ga K x) "__init__")))) && (decide (PySem.W.typeIn K (.ref (ma K (ga K x) "__init__")) = some (.type "function")) && (xfB K (ga K x) && ((PySem.W.clsIn K (ga K x)).isSome &&
  (eqO (PySem.W.findIn K (.ref (ga K x)) "__class__") (some (some (.builtin "object.__class__"))) && (eqO (PySem.W.specialIn K (.builtin "object.__class__") "__get__") (some (some (.builtin "getset_descriptor.__get__"))) &&
  (decide (PySem.W.takesIn K (.builtin "object.__class__") = some true) && decide (PySem.W.mroIn K (ga K x) (.type "object") = some true)))))))))))
theorem errB_ok {K : PySem.W.Frag} {x : Str} (h : errB K x = true) : ErrOk K (ga K x) (ma K (ga K x) "__init__") := by
  obtain ⟨h1, h⟩ := ba h
  obtain ⟨h2, h⟩ := ba h
  obtain ⟨h3, h⟩ := ba h
  obtain ⟨h4, h⟩ := ba h
  obtain ⟨h5, h⟩ := ba h
  obtain ⟨h6, h⟩ := ba h
  obtain ⟨h7, h⟩ := ba h
  obtain ⟨h8, h⟩ := ba h
  obtain ⟨h9, h⟩ := ba h
  obtain ⟨h10, h⟩ := ba h
  obtain ⟨h11, h12⟩ := ba h
  have xf := xfB_ok h7
  exact ⟨⟨oexB_ok h1, eqO_ok h2, xf.exC, decT h3, h4⟩, eqO_ok h5, decT h6, xf, h8, eqO_ok h9, eqO_ok h10, decT h11, decT h12⟩
def noB (K : PySem.W.Frag) (x f : Str) : Bool := eqO (PySem.W.findIn K (.ref (ga K x)) f) (some none)
theorem noB_ok {K : PySem.W.Frag} {x f : Str} (h : noB K x f = true) : PySem.W.findIn K (.ref (ga K x)) f = some none := eqO_ok h
def exmB (K : PySem.W.Frag) (x y : Str) (b : Bool) : Bool := decide (PySem.W.exmOne K (.ref (ga K x)) (.ref (ga K y)) = some b)
theorem exmB_ok {K : PySem.W.Frag} {x y : Str} {b : Bool} (h : exmB K x y b = true) : PySem.W.exmOne K (.ref (ga K x)) (.ref (ga K y)) = some b := decT h
/-! ### the making -/
section
variable {P : Program} {w : World} {K : PySem.W.Frag} {mg : Str → Option Value} {base : Heap} {x qual : Str} {params : Arguments} {body : List Stmt} {scope : Scope} {dvs : List V} {kws : List (Str × V)} {f : Addr} {fd : FuncData} {N ps : List Str} {k : Nat} {sp : Sp}
/-- a def that keeps its promise anywhere -/
theorem fnR (F : FunD K x qual params body scope dvs kws f fd) (S : FnScope N ps scope) (len : ∀ vs H Q E, sp vs H Q E → vs.length = ps.length)
    (hbody : ∀ (cdv : Value) (A : Around) (outer : List Env) (s : Shared) (H : Hp) (vs : List V) (Q : VK) (E : XK), Room k (A.deeper (envOfC qual scope s.heap.objs.size f cdv)) → sp vs H Q E →
      ∃ t, PSs (cxOf CX0 P w K mg base N qual scope f cdv A outer s H E) body t ∧ t { nx := fun _ H2 => Q .non H2, rt := Q } (start N vs) H) : FnOk P w K mg base CX0 (k + 1) f fd ps sp := by
  obtain ⟨_, _, _, _, _, _, _, cdv, _, _, rfl, lk, hcd, _, _⟩ := F.ex
  exact fn_of lk hcd S len fun A outer s H vs Q E hr q => hbody cdv A outer s H vs Q E hr q
end
/-- self.f = v of a new error -/
def spErr (C : Addr) (f : Str) : Sp := fun vs H Q _ => ∃ (a : Addr) (v : V), vs = [.ref a, v] ∧ H a = some (exo a C none) ∧ ∀ dx, H dx = none → dx ≠ a → Q .non (upd (upd H dx (exd dx [(f, v)])) a (exo a C (some dx)))
/-- what follows of C(v): d is the new error's dict -/
def MkE (C : Addr) (f : Str) (vs : List V) (H : Hp) (Q : XK) : Prop := vs.length ≤ 1000 ∧ ∀ a, H a = none → spErr C f (.ref a :: (vs ++ [])) (upd H a (exo a C none))
  (fun v H2 => v = .non ∧ ∃ (d : Addr) (fs : List (Str × V)), H2 a = some (exo a C (some d)) ∧ H2 d = some (exd d fs) ∧ H d = none ∧ Q (.ref C) (some d) (upd (del H2 a) d (.xd fs))) (fun _ _ _ => False)
theorem f_mkE {C : Addr} {f : Str} {v : V} {H : Hp} {Q : XK} (h : ∀ d H2, H d = none → H2 d = some (.xd [(f, v)]) → Same H H2 → Q (.ref C) (some d) H2) : MkE C f [v] H Q := by
  refine ⟨by simp, fun a ha => ⟨a, v, rfl, upd_same, fun dx hd hne => ⟨rfl, dx, [(f, v)], upd_same, ?_, ?_, ?_⟩⟩⟩
  · rw [upd_ne hne]
    exact upd_same
  · rw [upd_ne hne] at hd
    exact hd
  · rw [upd_ne hne] at hd
    refine h dx _ hd upd_same fun q o e => ?_
    have q1 : q ≠ dx := ne_of_none e hd
    have q2 : q ≠ a := ne_of_none e ha
    rw [upd_ne q1, del_ne q2, upd_ne q2, upd_ne q1, upd_ne q2]
    exact e
section
variable {X : Cx} {x : Str} {C g : Addr} {k : Nat} {fd : FuncData} {ps : List Str} {f : Str} {W : WX} {e : Expr} {es : List Expr} {ta : TA} {p pos pos' : Pos}
def tRaise (C : Addr) (f : Str) (W : WX) (ta : TA) : TS := fun _ σ H => ta σ H fun vs H1 => MkE C f vs H1 fun cls d H2 => W cls d σ H2
/-- raise C(v) -/
theorem ps_err (hc : X.calm = true) (tk : Takes X W) (T : ErrOk X.K C g) (F : FnOk X.prog X.w X.K X.mg X.base CX0 k g fd ps (spErr C f)) (hb : Binds X.K fd ps []) (hr : RG (k + 1) X.A) (hm : X.mg x = some (.ref C)) (ha : PA X (e :: es) ta) (hg : Gl X x := by rfl)
    (hdb : (x == ("__debug__" : Str)) = false := by decide) (he : starEach (e :: es) X.env = (false, eval e X.env) :: starEach es X.env := by rfl) (hpl : (backTo pos (starEach es X.env)).any (·.1) = false := by rfl) :
    PS X (.Raise (some (.Call (.Name x p) (e :: es) [] pos)) none pos') (tRaise C f W ta) :=
  ps_raise hc tk (pmkG T.ox T.iC T.tI F hr.r hb .nil (fun _ _ _ _ _ _ _ z => z.elim) hg hm ha hdb he hpl)
end
/-! ### calls that may raise -/
section
variable {X : Cx} {CX : CXT} {k j : Nat} {f C : Addr} {x : Str} {ps : List Str} {dvs : List V} {sp : Sp} {E : L2.St → XK} {e : Expr} {es : List Expr} {p pos : Pos} {t : TA}
theorem run_gS {pins : List (Addr × Obj)} {σ : L2.St} {H : Hp} {s : Shared} {Q : VK} {us : List Value} {vs : List V} (G : Gf X.prog X.w X.K X.mg X.base CX k f ps dvs sp) (hr : RG j X.A) (hj : k ≤ j) (hx : PassesAt CX X σ (E σ))
    (I : Inv X pins σ H s) (r : Vals vs us) (h : sp (vs ++ dvs) H Q (E σ)) : wpAny (model X.prog X.w) X.A (call (.ref f) us) (EP X pins σ Q) X.xe s := by
  refine wpAny_call (codeAny_mono (G.go hr hj I.env0 I.kIn r h) fun y s' hq => ?_)
  match y, hq with
  | .error e, hq => exact hx pins H s e s' I hq
  | .ok (.ret u), hq => exact I.after hq
def tCallG (sp : Sp) (dvs : List V) (E : L2.St → XK) (t : TA) : TE := fun σ H Q => t σ H fun vs H1 => sp (vs ++ dvs) H1 Q (E σ)
theorem pe_gS (G : Gf X.prog X.w X.K X.mg X.base CX k f ps dvs sp) (hm : X.mg x = some (.ref f)) (hr : RG j X.A) (hj : k ≤ j) (hx : ∀ σ, PassesAt CX X σ (E σ)) (ha : PA X (e :: es) t) (hg : Gl X x := by rfl)
    (hdb : (x == ("__debug__" : Str)) = false := by decide) (he : starEach (e :: es) X.env = (false, eval e X.env) :: starEach es X.env := by rfl) (hpl : (backTo pos (starEach es X.env)).any (·.1) = false := by rfl) :
    PE X (.Call (.Name x p) (e :: es) [] pos) (tCallG sp dvs E t) := by
  refine ⟨fun pins s σ H Q I h => ?_⟩
  refine wpAny_Call_Name_kw (ld_glob I hg hm ?_ hdb)
  exact PySem.W.callWith_K (h₀ := X.base) I.ok.mod.kin G.kp (thn (ha.run pos pins s σ H _ I h) fun us s1 ⟨vs, H1, I1, r, q⟩ => ⟨I1.kIn, run_gS G hr hj (hx σ) I1 r q⟩) he hpl
/-- in a def that lets all out that its callee lets out -/
theorem passU {X : Cx} {E : XK} (tk : Takes X fun cls d _ H => E cls d H) : Passes (L2.CX X.prog X.w) X E := passes_call tk fun _ _ _ _ h => h
end
/-! ### in an except suite -/
section
variable {X : Cx} {a : Addr} {oe : Obj} {cls : Value} {d : Option Addr} {pn : List (Addr × Obj)}
/-- isinstance(e, c) -/
def rIsX (K : PySem.W.Frag) (a : Addr) (cls : Value) (d : Option Addr) : List V → Hp → VK → Prop := fun xs H Q => ∃ (D g : Addr) (c : V) (u : Value) (b : Bool) (dd : Addr) (fs : List (Str × V)), xs = [.ref a, c] ∧ cls = .ref D ∧ ErrOk K D g ∧ d = some dd ∧ H dd = some (.xd fs) ∧ ClsV c u ∧ PySem.W.kitOne K (.ref D) u = some b ∧ Q (.bl b) H
theorem call_isX (hz : Zc cls d oe) (hf : ∃ vs, oe.data = .fields vs) : CallR (X.suite a ((a, oe) :: pn)) (.builtin "isinstance") (rIsX X.K a cls d) := by
  intro pins s σ H xs us Q I r h
  obtain ⟨D, g, c, u, b, dd, fs, rfl, rfl, T, rfl, hd, k, e, q⟩ := h
  obtain ⟨u1, u2, rfl, r1, r2⟩ := vals2 r
  have e2 := k.eq r2
  subst e2
  obtain rfl : u1 = Value.ref a := r1
  obtain ⟨ha, _⟩ := I.pin (a, oe) (List.mem_append_left _ List.mem_cons_self)
  obtain ⟨vs, hv⟩ := hf
  have hx : ObjOk X.prog X.w H s.heap dd (.xd fs) := I.hok dd _ hd
  obtain ⟨mA, hns, hrel⟩ := hx
  obtain ⟨od, ho, hl⟩ := lookIn_ns hns
  have J : PySem.W.InstAt s.heap a oe D (some od) := ⟨ha, hz.1, by unfold PySem.W.notCls; rw [hv] <;> rfl, by rw [hz.2]; exact ho⟩
  exact PySem.W.kia_one (PySem.W.kitx_exc T.cl T.xf.ga T.xf.gg T.xf.exC T.ca T.hn T.tk T.mo) I.kIn J e (fun z => nomatch z) fun tk => ⟨.bl b, H, I.tok tk, rfl, q⟩
theorem f_isX {K : PySem.W.Frag} {H : Hp} {Q : VK} {D g dd : Addr} {fs : List (Str × V)} {c : V} {u : Value} {b : Bool} (T : ErrOk K D g) (hd : H dd = some (.xd fs)) (k : ClsV c u) (e : PySem.W.kitOne K (.ref D) u = some b) (q : Q (.bl b) H) : rIsX K a (.ref D) (some dd) [.ref a, c] H Q := ⟨D, g, c, u, b, dd, fs, rfl, rfl, T, rfl, hd, k, e, q⟩
/-- e.f, as one of the classes that the clause lets in -/
theorem f_xf {te : TE} {σ : L2.St} {H : Hp} {Q : VK} {C dd : Addr} {f : Str} {fs : List (Str × V)} {v : V} (h : te σ H fun x H1 => x = .ref a ∧ H1 dd = some (.xd fs) ∧ fs.lookup f = some v ∧ Q v H1) (mt : ∀ F G : VK, (∀ x H, F x H → G x H) → te σ H F → te σ H G) : tXf a (.ref C) (some dd) C f te σ H Q :=
  mt _ _ (fun x H1 ⟨e1, e2, e3, q⟩ => ⟨e1, rfl, dd, fs, v, rfl, e2, e3, q⟩) h
end
end My

set_option Elab.async false
set_option linter.all false
set_option maxRecDepth 100000
set_option maxHeartbeats 4000000
/-! LayL: repr of a thing of any plain kind -/
namespace My
open PySem PySem.Spec PyProof.Rows L2
def dkI (ps : List (Int × Int)) : List (Key × V) := ps.map fun p => (.inl p.1, .int p.2)
def ddI (ps : List (Int × Int)) : List (PyData × PyData) := ps.map fun p => (.int p.1, .int p.2)
/-- a value and the data that it is: none, truth values, ints, texts, lists and tuples of such, dicts of ints -/
inductive DpT (K : PySem.W.Frag) (H : Hp) : V → PyData → Prop
  | pl {x : V} {d : PyData} (h : Dp K H x d) (n : d.hasDict = false) : DpT K H x d
  | dct {a : Addr} {ps : List (Int × Int)} (h : H a = some (.dK (dkI ps))) : DpT K H (.ref a) (.dict (ddI ps))
section
variable {X : Cx} {pins : List (Addr × Obj)} {σ : L2.St} {H : Hp} {s : Shared}
theorem kv_reads {P : Program} {w : World} {h : Heap} : ∀ {ps : List (Int × Int)} {es : List DictEntry} {vs : List (Key × Value)}, KV (dkI ps) vs → Pairs (mixKind P w) es vs → ReadsAll h (es.map (·.key)) ((ddI ps).map (·.1)) [] ∧ ReadsAll h (es.map (·.val)) ((ddI ps).map (·.2)) []
  | [], es, vs, r, q => by
    cases r
    cases q
    exact ⟨.nil, .nil⟩
  | p :: ps, es, vs, r, q => by
    cases r with
    | cons r1 r2 =>
      cases q with
      | @cons en _ _ _ q1 q2 q3 =>
        obtain ⟨z1, z2⟩ := kv_reads r2 q3
        obtain ⟨k1, k2⟩ := r1
        dsimp only at k1 k2
        rw [← k1] at q1
        rcases keyIs_shape (show keyIs (Sum.inl p.1) _ = true from q1) with ⟨i, t, e1, e2⟩ | ⟨y, t, e1, e2⟩
        · cases e1
          obtain ⟨t2, e3⟩ := k2
          have g1 : Reads h en.key (.int p.1) [] := by
            rw [e2]
            exact .int _ _
          have g2 : Reads h en.val (.int p.2) [] := by
            rw [q2, e3]
            exact .int _ _
          exact ⟨ReadsAll.cons (as := []) (bs := []) g1 z1, ReadsAll.cons (as := []) (bs := []) g2 z2⟩
        · cases e1
theorem dict_reads (I : Inv X pins σ H s) {a : Addr} {ps : List (Int × Int)} (h : H a = some (.dK (dkI ps))) : Reads s.heap (.ref a) (.dict (ddI ps)) [a] ∧ a ≠ sysModules := by
  obtain ⟨_, hn, vs, rel, o, es, ep, h1, h2, h3, _, h5, _⟩ := dk_of I.hok h
  obtain ⟨z1, z2⟩ := kv_reads (h := s.heap) rel h5
  refine ⟨Reads.dict (as := []) (bs := []) h1 h2.1 h3 z1 z2, fun e => ?_⟩
  rw [e, beq_self_eq_true] at hn
  cases hn
/-- repr of such a thing -/
def rReprT (K : PySem.W.Frag) : List V → Hp → VK → Prop := fun xs H Q => ∃ x d, xs = [x] ∧ DpT K H x d ∧ d.showable = true ∧ d.depth ≤ 50 ∧ d.shown.length ≤ sizeLine ∧ Q (.str d.shown) H
theorem call_reprT {j : Nat} (hr : RG j X.A) : CallR X (.builtin "repr") (rReprT X.K) := by
  intro pins s σ H xs us Q I r h
  obtain ⟨x, d, rfl, hd, h1, h3, h4, q⟩ := h
  obtain ⟨u, rfl, rx⟩ := vals1 r
  have fin : ∀ {a : Addr} {as : List Addr}, u = .ref a → Reads s.heap (.ref a) d as → (d.hasDict = true → sysModules ∉ as) → wpAny (model X.prog X.w) X.A (call (.builtin "repr") [u]) (EP X pins σ Q) X.xe s := fun {a as} e R hs => by
    subst e
    refine repr_of_reads' R h1 hs hr.g (by have := hr.units; omega) (fun _ _ z => z) (fun h' u tk hk => ?_) h4
    exact ⟨.str d.shown, H, I.kept (t' := tk) hk, ⟨u, rfl⟩, q⟩
  cases hd with
  | pl hd hn =>
    cases hd with
    | non =>
      obtain rfl : u = Value.none := rx
      exact PySem.P.repr_of_none ⟨.str _, H, I.tok _, ⟨_, rfl⟩, q⟩
    | bl b =>
      obtain rfl : u = Value.bool b := rx
      exact PySem.P.repr_of_bool ⟨.str _, H, I.tok _, ⟨_, rfl⟩, q⟩
    | int i =>
      obtain ⟨t, rfl⟩ := (show ∃ t, u = Value.int i t from rx)
      exact PySem.P.repr_of_int (of_decide_eq_true h1) ⟨.str _, H, I.tok _, ⟨_, rfl⟩, q⟩
    | str y =>
      obtain ⟨t, rfl⟩ := (show ∃ t, u = Value.str y t from rx)
      exact PySem.P.repr_of_str ⟨.str _, H, I.tok _, ⟨_, rfl⟩, q⟩ h4
    | lst hs ha =>
      obtain ⟨as, R⟩ := Dp.reads I _ _ _ (.lst hs ha) rx
      exact fin rx (by cases (show u = Value.ref _ from rx); exact R) (PyData.noDict_hsm hn)
    | tup hs ha =>
      obtain ⟨as, R⟩ := Dp.reads I _ _ _ (.tup hs ha) rx
      exact fin rx (by cases (show u = Value.ref _ from rx); exact R) (PyData.noDict_hsm hn)
  | dct hs =>
    obtain ⟨R, n⟩ := dict_reads I hs
    exact fin rx R fun _ m => n (List.mem_singleton.mp m).symm
theorem call_reprTK {K : PySem.W.Frag} {j : Nat} (h : X.K = K) (hr : RG j X.A) : CallR X (.builtin "repr") (rReprT K) := by
  subst h
  exact call_reprT hr
end
/-- a thing whose repr may be asked -/
def Thg (K : PySem.W.Frag) (H : Hp) (x : V) (d : PyData) : Prop := DpT K H x d ∧ d.showable = true ∧ d.depth ≤ 50 ∧ d.shown.length ≤ sizeLine
theorem Thg.q {K : PySem.W.Frag} {H : Hp} {x : V} {d : PyData} {Q : VK} (h : Thg K H x d) (q : Q (.str d.shown) H) : rReprT K [x] H Q := ⟨x, d, rfl, h.1, h.2.1, h.2.2.1, h.2.2.2, q⟩
mutual
theorem dp_same {K : PySem.W.Frag} {H H' : Hp} (s : Same H H') : ∀ {d : PyData} {x : V}, Dp K H x d → Dp K H' x d
  | _, _, .non => .non
  | _, _, .bl b => .bl b
  | _, _, .int i => .int i
  | _, _, .str x => .str x
  | _, _, .lst h k => .lst (s.seq h) (dpAll_same s k)
  | _, _, .tup h k => .tup (tupS h s) (dpAll_same s k)
theorem dpAll_same {K : PySem.W.Frag} {H H' : Hp} (s : Same H H') : ∀ {ds : List PyData} {xs : List V}, DpAll K H xs ds → DpAll K H' xs ds
  | _, _, .nil => .nil
  | _, _, .cons h k => .cons (dp_same s h) (dpAll_same s k)
end
theorem Thg.same {K : PySem.W.Frag} {H H' : Hp} {x : V} {d : PyData} (h : Thg K H x d) (s : Same H H') : Thg K H' x d := by
  refine ⟨?_, h.2⟩
  cases h.1 with
  | pl k n => exact .pl (dp_same s k) n
  | dct e => exact .dct (s _ _ e)
/-- a def without defaults, called by names -/
theorem kb0 {K : PySem.W.Frag} {x qual : Str} {params : Arguments} {body : List Stmt} {scope : Scope} {kws : List (Str × V)} {f : Addr} {fd : FuncData} {ps : List Str} (F : FunD K x qual params body scope [] kws f fd) (n : Nat) (ks : List Str) (g : {α : Type} → List α → List α → List α)
    (rl : ∀ {vs zs : List V} {us ws : List Value}, Vals vs us → Vals zs ws → Vals (g vs zs) (g us ws))
    (h : ∀ (kV doc pm : Value) (an : Option Addr) (cdv ct : Value) (us ws : List Value), us.length = n → ws.length = ks.length → bindArgs (PySem.W.fnOf x qual params body scope .none kV doc pm an cdv ct) ⟨us, ks.zip ws⟩ = pure (ps.zip (g us ws))) :
    KBn K fd ps n ks (fun us ws => g us ws) (fun vs zs => g vs zs) := by
  obtain ⟨_, _, _, kV, doc, pm, an, cdv, ct, _, rfl, _, _, hD, _⟩ := F.ex
  rcases hD with ⟨_, rfl⟩ | ⟨e, _⟩
  · exact ⟨fun s us ws _ l1 l2 => .of_eq (h kV doc pm an cdv ct us ws l1 l2), fun r1 r2 => rl r1 r2⟩
  · exact absurd rfl e
section
variable {σ : L2.St} {H : Hp} {D : Ends} {Q : VK} {tA : TA} {C : Addr} {f : Str} {W : WX} {sp : Sp} {E : L2.St → XK}
theorem r_raiseE (h : tA σ H fun vs H1 => MkE C f vs H1 fun cls d H2 => W cls d σ H2) : tRaise C f W tA D σ H := h
theorem r_callG (h : tA σ H fun vs H1 => sp vs H1 Q (E σ)) : tCallG sp [] E tA σ H Q := by
  unfold tCallG
  simp only [List.append_nil]
  exact h
/-- e.f of a caught error that stands in a slot -/
theorem r_xfV {a C dd : Addr} {f : Str} {fs : List (Str × V)} {v : V} {i : Nat} (e : σ[i]? = some (some (.ref a))) (hd : H dd = some (.xd fs)) (l : fs.lookup f = some v) (q : Q v H) : tXf a (.ref C) (some dd) C f (tVar i) σ H Q := ⟨_, e, rfl, rfl, dd, fs, v, rfl, hd, l, q⟩
end
end My

set_option Elab.async false
set_option linter.all false
set_option maxRecDepth 100000
set_option maxHeartbeats 4000000
/-! LayM: a caught error handed to a def, from within the except suite -/
namespace My
open PySem PySem.Spec PyProof.Rows L2 He
/-- a promise that may tell of the error that is handled -/
abbrev SpQ : Type := (Addr × Obj) → Sp
/-- the def fd at f keeps its promise where the error p is handled -/
structure FnQ (P : Program) (w : World) (K : PySem.W.Frag) (mg : Str → Option Value) (base : Heap) (k : Nat) (f : Addr) (fd : FuncData) (ps : List Str) (sp : SpQ) : Prop where
  len : ∀ p vs H Q E, sp p vs H Q E → vs.length = ps.length
  run : ∀ (A : Around) (outer : List Env) (s : Shared) (H : Hp) (args : Args) (us : List Value) (vs : List V) (Q : VK) (p : Addr × Obj), L2H.RoomH k A → L2H.PinOk outer H s p → Env0 P w K mg base A outer s H → BindsTo s fd args (ps.zip us) → Vals vs us → sp p vs H Q E0 →
    codeAny (model P w) A (.call (.ref f) args) (CR CX0 outer P w H s Q E0) s
section
variable {P : Program} {w : World} {K : PySem.W.Frag} {mg : Str → Option Value} {base : Heap} {x qual : Str} {params : Arguments} {body : List Stmt} {scope : Scope} {dvs : List V} {kws : List (Str × V)} {f : Addr} {fd : FuncData} {N ps : List Str} {k : Nat} {sp : SpQ}
abbrev cxQ (P : Program) (w : World) (K : PySem.W.Frag) (mg : Str → Option Value) (base : Heap) (N : List Str) (qual : Str) (scope : Scope) (f : Addr) (cdv : Value) (A : Around) (outer : List Env) (s : Shared) (H : Hp) (p : Addr × Obj) : Cx := L2H.cxH CX0 P w K mg base N qual scope f cdv A outer s H E0 p
theorem _root_.L2H.RoomH.units {k : Nat} {A : Around} (r : L2H.RoomH k A) : A.units + 64 < cLine := by
  have := r.un
  omega
theorem fnQ (F : FunD K x qual params body scope dvs kws f fd) (S : FnScope N ps scope) (len : ∀ p vs H Q E, sp p vs H Q E → vs.length = ps.length)
    (hbody : ∀ (cdv : Value) (A : Around) (outer : List Env) (s : Shared) (H : Hp) (vs : List V) (Q : VK) (p : Addr × Obj), L2H.RoomH k (A.deeper (envOfC qual scope s.heap.objs.size f cdv)) → sp p vs H Q E0 →
      ∃ t, PSs (cxQ P w K mg base N qual scope f cdv A outer s H p) body t ∧ t { nx := fun _ H2 => Q .non H2, rt := Q } (start N vs) H) : FnQ P w K mg base (k + 1) f fd ps sp := by
  obtain ⟨_, _, _, _, _, _, _, cdv, _, _, rfl, lk, hcd, _, _⟩ := F.ex
  refine ⟨len, fun A outer s H args us vs Q p hr hp e0 hb r q => ?_⟩
  have old := fun b o e => (e0.bs b o e).1
  have KX : K.In s.heap := e0.mod.kin.keeps old
  refine codeAny_call_function hr.depth (KX _ _ lk) rfl S.co S.gen rfl (PySem.W.codeRec_of KX hcd) (hb _ _ _ _ ?_)
  refine wpAny_newFunctionEnv_cells S.kind (fun y hy => ?_) fun env he s1 z => ?_
  · obtain ⟨n, v⟩ := y
    exact (S.par n (List.of_mem_zip hy).1).elim (fun q => .inl q) fun q => .inr ⟨q, PySem.W.cellsFrom_some _ _ _ (.inl q)⟩
  subst he
  refine ⟨(e0.mod.nolimit.keeps old).keeps z.toInCall.keep, codeAny_func ?_⟩
  obtain ⟨t, ht, hq⟩ := hbody cdv A outer s H vs Q p (hr.deeper _) q
  refine wpAny_mono (ht.run [] s1 (start N vs) H _ (L2H.inv_startH S hp e0 (len _ _ _ _ _ q) r z) hq) (fun fl s' hs => ?_) fun _ _ hs => hs
  match fl, hs with
  | .ret u, ⟨v, _, H', J, rv, q⟩ => exact ⟨v, H', J.os, J.bare, J.base, J.hok, rv, q⟩
  | .next, ⟨_, H', J, q⟩ => exact ⟨.non, H', J.os, J.bare, J.base, J.hok, rfl, q⟩
  | .brk, ⟨_, _, _, q⟩ => exact q.elim
  | .cont, ⟨_, _, _, q⟩ => exact q.elim
end
section
variable {X : Cx} {k : Nat} {f a : Addr} {oe : Obj} {fd : FuncData} {ps : List Str} {sp : SpQ} {x : Str} {p pos : Pos} {e : Expr} {es : List Expr} {t : TA} {pn : List (Addr × Obj)}
def tCallQ (sp : SpQ) (p : Addr × Obj) (t : TA) : TE := fun σ H Q => t σ H fun vs H1 => sp p vs H1 Q E0
/-- f(e, ..) in a suite -/
theorem pe_q (F : FnQ X.prog X.w X.K X.mg X.base k f fd ps sp) (hb : Binds X.K fd ps []) (hk : PySem.W.keepIn X.K (.ref f) = true) (hm : X.mg x = some (.ref f)) (hr : L2H.RoomH k (X.suite a ((a, oe) :: pn)).A) (ha : PA (X.suite a ((a, oe) :: pn)) (e :: es) t) (hg : Gl X x := by rfl)
    (hdb : (x == ("__debug__" : Str)) = false := by decide) (he : starEach (e :: es) X.env = (false, eval e X.env) :: starEach es X.env := by rfl) (hpl : (backTo pos (starEach es X.env)).any (·.1) = false := by rfl) :
    PE (X.suite a ((a, oe) :: pn)) (.Call (.Name x p) (e :: es) [] pos) (tCallQ sp (a, oe) t) := by
  refine ⟨fun pins s σ H Q I h => wpAny_Call_Name_kw (ld_glob I hg hm (PySem.W.callWith_K (h₀ := X.base) I.ok.mod.kin hk (thn (ha.run pos pins s σ H _ I h) fun us s1 hh => ?_) he hpl) hdb)⟩
  obtain ⟨vs, H1, I1, r, q⟩ := hh
  refine ⟨I1.kIn, ?_⟩
  have P1 := I1.pin (a, oe) (List.mem_append_left _ List.mem_cons_self)
  have pin : L2H.PinOk X.stack H1 s1 (a, oe) := ⟨P1.1, P1.2.1, fun hm => (List.mem_cons.mp (I1.stkSub a hm)).elim P1.2.2.1 P1.2.2.2.1, P1.2.2.2.2⟩
  have l : us.length = ps.length := r.length.symm.trans (F.len _ _ _ _ _ q)
  have b := hb s1 us I1.kIn (by rw [List.append_nil]; exact l)
  rw [List.append_nil] at b
  refine wpAny_call (codeAny_mono (F.run _ _ s1 H1 ⟨us, []⟩ us vs Q (a, oe) hr pin I1.env0 b r q) fun y s' hq => ?_)
  match y, hq with
  | .error er, hq => exact hq.elim
  | .ok (.ret u), hq => exact I1.after hq
end
/-! in the body of such a def -/
section
variable {P : Program} {w : World} {K : PySem.W.Frag} {mg : Str → Option Value} {base : Heap} {N : List Str} {qual : Str} {scope : Scope} {f : Addr} {cdv : Value} {A : Around} {outer : List Env} {s : Shared} {H0 : Hp} {p : Addr × Obj}
def rIsQ (K : PySem.W.Frag) (p : Addr × Obj) : List V → Hp → VK → Prop := fun xs H Q => ∃ (D g : Addr) (c : V) (u : Value) (b : Bool) (dd : Addr) (fs : List (Str × V)), xs = [.ref p.1, c] ∧ Zc (.ref D) (some dd) p.2 ∧ (∃ vs, p.2.data = .fields vs) ∧ ErrOk K D g ∧ H dd = some (.xd fs) ∧ ClsV c u ∧ PySem.W.kitOne K (.ref D) u = some b ∧ Q (.bl b) H
theorem call_isQ : CallR (cxQ P w K mg base N qual scope f cdv A outer s H0 p) (.builtin "isinstance") (rIsQ K p) := by
  intro pins t σ H xs us Q I r h
  obtain ⟨D, g, c, u, b, dd, fs, rfl, hz, hf, T, hd, k, e, q⟩ := h
  obtain ⟨u1, u2, rfl, r1, r2⟩ := vals2 r
  have e2 := k.eq r2
  subst e2
  obtain rfl : u1 = Value.ref p.1 := r1
  obtain ⟨ha, _⟩ := I.pin p (List.mem_append_left _ List.mem_cons_self)
  obtain ⟨vs, hv⟩ := hf
  have hx : ObjOk P w H t.heap dd (.xd fs) := I.hok dd _ hd
  obtain ⟨mA, hns, hrel⟩ := hx
  obtain ⟨od, ho, hl⟩ := lookIn_ns hns
  have J : PySem.W.InstAt t.heap p.1 p.2 D (some od) := ⟨ha, hz.1, by unfold PySem.W.notCls; rw [hv] <;> rfl, by rw [hz.2]; exact ho⟩
  exact PySem.W.kia_one (PySem.W.kitx_exc T.cl T.xf.ga T.xf.gg T.xf.exC T.ca T.hn T.tk T.mo) I.kIn J e (fun z => nomatch z) fun tk => ⟨.bl b, H, I.tok tk, rfl, q⟩
def tXq (p : Addr × Obj) (C : Addr) (n : Str) (te : TE) : TE := fun σ H Q => te σ H fun x H1 => x = .ref p.1 ∧ ∃ (dd : Addr) (fs : List (Str × V)) (v : V), Zc (.ref C) (some dd) p.2 ∧ (∃ vs, p.2.data = .fields vs) ∧ H1 dd = some (.xd fs) ∧ fs.lookup n = some v ∧ Q v H1
theorem pe_xq {C : Addr} {e : Expr} {te : TE} {pos : Pos} {n : Str} (T : XfC K C) (hno : PySem.W.findIn K (.ref C) n = some none) (he : PE (cxQ P w K mg base N qual scope f cdv A outer s H0 p) e te)
    (hb : attributeBase e n (cxQ P w K mg base N qual scope f cdv A outer s H0 p).env (eval e (cxQ P w K mg base N qual scope f cdv A outer s H0 p).env) = eval e (cxQ P w K mg base N qual scope f cdv A outer s H0 p).env := by rfl) :
    PE (cxQ P w K mg base N qual scope f cdv A outer s H0 p) (.Attribute e n pos) (tXq p C n te) := by
  refine ⟨fun pins t σ H Q I h => attr_of hb (thn (he.run pins t σ H _ I h) fun u s1 hh => ?_)⟩
  obtain ⟨x, H1, I1, rx, rfl, dd, fs, v, hz, ⟨vs, hd⟩, ea, l, q⟩ := hh
  obtain rfl : u = Value.ref p.1 := rx
  obtain ⟨ha, _⟩ := I1.pin p (List.mem_append_left _ List.mem_cons_self)
  obtain ⟨mA, hns, hr⟩ : ObjOk P w H1 s1.heap dd (.xd fs) := I1.hok dd _ ea
  obtain ⟨od, ho, hl⟩ := lookIn_ns hns
  have hrn := hr n
  rw [l] at hrn
  obtain ⟨u, hu, ru⟩ := RelO.some_of hrn
  have J : PySem.W.InstAt s1.heap p.1 p.2 C (some od) := ⟨ha, hz.1, by unfold PySem.W.notCls; rw [hd] <;> rfl, by rw [hz.2]; exact ho⟩
  exact HandSPX.exc_get I1.kIn J T.ga T.gg T.exC (PySem.W.findObj_own T.hdC hno rfl (by rw [hl, hu])) (handed_of ru) ⟨v, H1, I1.tok _, ru, q⟩
end
end My

set_option Elab.async false
set_option linter.all false
set_option maxRecDepth 100000
set_option maxHeartbeats 4000000
/-! LayN: try: body, except (C1, C2, C3) as e: suite, where every error of the body is one of the three -/
namespace My
open PySem PySem.Spec PyProof.Rows L2 He
open PySem.HandSPX
/-- what flies goes on flying over an object more -/
theorem fly_push {B h : Heap} {l : List Env} {a : Addr} {Z : Obj → Prop} (o : Obj) (x : FlyingZ B l a Z h) : FlyingZ B l a Z (h.push o) := by
  have k : ∀ {b u}, h.get? b = some u → (h.push o).get? b = some u := fun e => Heap.get?_push_of_some _ e
  obtain ⟨x1, x2, x3, oe, vs, T, oT, ts, e1, e2, e3, e4, e5, e6, e7, e8, e9⟩ := x
  exact ⟨fun b u e => k (x1 b u e), x2, x3.of_keeps fun b u e _ => ⟨u, k e, rfl⟩, oe, vs, T, oT, ts, k e1, e2, e3, e4, e5, e6, k e7, e8, e9⟩
/-- what the clause wishes of an error -/
def wTup (K : PySem.W.Frag) (cs : List Value) (i n : Nat) (ts : Addr → Value → Option Addr → TS) (D : Ends) : WX := fun cls d σ H => PySem.W.exmAny K cls cs = some true ∧
  ∀ a, H a = none → σ.length = n → ts a cls d { nx := fun σ' H' => D.nx (σ'.set i none) H', rt := D.rt, bk := fun σ' H' => D.bk (σ'.set i none) H', ct := fun σ' H' => D.ct (σ'.set i none) H' } (σ.set i (some (.ref a))) H
section
variable {X : Cx} {x1 x2 x3 n : Str} {C1 C2 C3 : Addr} {i : Nat} {body suite : List Stmt} {b₀ : Stmt} {p1 p2 p3 tp pos pos' : Pos} {kk : Nat} {tb : WX → TS} {ts : Addr → Value → Option Addr → TS}
/-- the three classes, loaded in a suite -/
theorem load3 {A : Around} {s : Shared} {Q E : Value → Shared → Prop} (h : ∀ {x : Str} {C : Addr} {p : Pos} {Q2 : Value → Shared → Prop}, (x, C) ∈ [(x1, C1), (x2, C2), (x3, C3)] → Q2 (.ref C) s → wpAny (model X.prog X.w) A (eval (.Name x p) X.env) Q2 E s)
    (q : Q (.ref s.heap.objs.size) { s with heap := s.heap.push { cls := .type "tuple", data := .seq [.ref C1, .ref C2, .ref C3].toArray } }) :
    wpAny (model X.prog X.w) A (eval (.Tuple [.Name x1 p1, .Name x2 p2, .Name x3 p3] kk tp) X.env) Q E s := by
  refine wpAny_Tuple ?_
  show wpAny _ _ (spliced ((false, eval (.Name x1 p1) X.env) :: (false, eval (.Name x2 p2) X.env) :: (false, eval (.Name x3 p3) X.env) :: [])) _ _ _
  refine Calls.spliced_cons (h (C := C1) (by simp) (Calls.spliced_cons (h (C := C2) (by simp) (Calls.spliced_cons (h (C := C3) (by simp) (Calls.spliced_nil ⟨?_, q⟩))))))
  show 3 ≤ sizeLine
  rw [sizeLine_eq]
  decide
/-- try: body, except (x1, x2, x3) as n: suite -/
theorem ps_tryT (hs : X.stack = X.env :: X.outer) (hf : X.env.frame = some X.env.locals) (nd : X.N.Nodup) (hi : X.N[i]? = some n) (hl : X.env.kindOf n = some .local) (n1 : Names X x1 (.ref C1)) (n2 : Names X x2 (.ref C2)) (n3 : Names X x3 (.ref C3))
    (hb : ∀ (W : WX) (pn : List (Addr × Obj)) (xe : Value → Shared → Prop), Takes (X.tr pn xe) W → PSs (X.tr pn xe) body (tb W))
    (hsu : ∀ (a : Addr) (oe : Obj) (cls : Value) (d : Option Addr) (pn : List (Addr × Obj)), Zc cls d oe → (∃ vs, oe.data = .fields vs) → PSs (X.suite a ((a, oe) :: pn)) (b₀ :: suite) (ts a cls d)) :
    PS X (.Try body [.ExceptHandler (some (.Tuple [.Name x1 p1, .Name x2 p2, .Name x3 p3] kk tp)) (some n) (b₀ :: suite) pos'] [] [] pos) (fun D σ H => tb (wTup X.K [.ref C1, .ref C2, .ref C3] i X.N.length ts D) D σ H) := by
  refine ⟨fun pins s σ H D I h => wpAny_Try_except ?_⟩
  have ok := I.ok
  have fr : X.A.frames = some (X.env :: X.outer) := ok.frames.trans (congrArg some hs)
  let xe : Value → Shared → Prop := fun e t => wpAny (model X.prog X.w) X.A (noteFrame e X.env) (fun _ t2 => wpAny (model X.prog X.w) X.A (setFlight e none) (fun _ t3 =>
    wpAny (model X.prog X.w) X.A (handleBy e X.env [.ExceptHandler (some (.Tuple [.Name x1 p1, .Name x2 p2, .Name x3 p3] kk tp)) (some n) (b₀ :: suite) pos']) (SP X pins D) X.xe t3) X.xe t2) X.xe t
  have tk : Takes (X.tr (X.pn ++ pins) xe) (wTup X.K [.ref C1, .ref C2, .ref C3] i X.N.length ts D) := by
    rintro u s' ⟨a, B, sI, pins', σ', H', cls, d, rfl, J0, nb, up, sky, na, os, ag, hany, hyes⟩
    have J : Inv X pins σ' H' sI := J0.ofTry ok
    rw [show (X.tr (X.pn ++ pins) xe).stack = X.env :: X.outer from hs] at sky
    show wpAny _ X.A (noteFrame (.ref a) X.env) _ _ _
    refine Sky.land Zc.steady fr hf sky fun g fl ug => ?_
    -- the heap g with one tuple more
    let tup : Obj := { cls := .type "tuple", data := .seq [Value.ref C1, Value.ref C2, Value.ref C3].toArray }
    have J1 : Inv X pins σ' H' { s' with heap := g } := J.landed nb fl.1 (up.trans ug) os ag
    have off : ∀ {h : Heap} {o : Obj} {vs : Array Value}, FlyingZ B (X.env :: X.outer) a (Zc cls d) h → h.get? a = some o → o.data = .fields vs → a ≠ X.env.locals ∧ a ∉ X.fs := fun {h o vs} f e dd => by
      have no : a ∉ frs (X.env :: X.outer) := fun m => by
        obtain ⟨_, o2, e2, nf⟩ := f.2.2.1.mem m
        rw [e] at e2
        cases e2
        exact nf _ dd
      refine ⟨fun z => no (List.mem_filterMap.mpr ⟨X.env, List.mem_cons_self, hf.trans (congrArg some z.symm)⟩), fun m => ?_⟩
      obtain ⟨en, me, q⟩ := List.mem_filterMap.mp m
      exact no (List.mem_filterMap.mpr ⟨en, List.mem_cons_of_mem _ me, q⟩)
    obtain ⟨o3, v3, e3, z3, d3⟩ := fl.there
    obtain ⟨l3, f3⟩ := off fl e3 d3
    have S3 := J1.suite e3 d3 na l3 f3
    have fl2 := fly_push tup fl
    have LT : PySem.W.Looks (model X.prog X.w) (g.push tup) (typeOf (.ref a)) cls := fun A Q E t k q => wpAny_typeOf_ref (k _ _ (Heap.get?_push_of_some _ e3)) (by rw [z3.1]; exact q)
    have kin : X.K.In (g.push tup) := J1.kIn.keeps fun b o e => Heap.get?_push_of_some _ e
    have LM := PySem.W.exm_tup3 (M := model X.prog X.w) kin LT (Heap.get?_push_size g rfl) hany
    refine wpAny_handleBy_cons (codeAny_handlers_test ?_) (by intro q; cases q)
    refine load3 (X := X) (C1 := C1) (C2 := C2) (C3 := C3) (fun {x C p Q2} hm q => ?_) (LM.here ?_)
    · have nm : Names X x (.ref C) := by
        simp only [List.mem_cons, Prod.mk.injEq, List.not_mem_nil, or_false] at hm
        rcases hm with ⟨rfl, rfl⟩ | ⟨rfl, rfl⟩ | ⟨rfl, rfl⟩ <;> assumption
      obtain ⟨hg, hd, m | ⟨m, v, w⟩⟩ := nm
      · exact ld_glob (X := X.suite a ((a, o3) :: (X.pn ++ pins))) S3 hg m q hd
      · exact ld_blt (X := X.suite a ((a, o3) :: (X.pn ++ pins))) S3 hg m v q w hd
    · refine codeAny_handlers_suite_as (lands_againZ fl2 fun g4 fl4 u4 => ?_)
      have J4 : Inv X pins σ' H' { s' with heap := g4 } := J.landed nb fl4.1 (((up.trans ug).trans (.of_keeps fun b o e => Heap.get?_push_of_some _ e)).trans u4) os ag
      obtain ⟨o4, v4, e4, z4, d4⟩ := fl4.there
      obtain ⟨l4, f4⟩ := off fl4 e4 d4
      have S4 := J4.suite e4 d4 na l4 f4
      refine store_ok (X := X.suite a ((a, o4) :: (X.pn ++ pins))) (v := .ref a) S4 nd hi (.inl hl) rfl (fun t5 S5 => ?_) (.inr hl)
      refine wpAny_mono ((hsu a o4 cls d (X.pn ++ pins) z4 ⟨_, d4⟩).run [] t5 _ H' _ S5 (hyes a na J.len)) (fun f t6 q6 => ?_) fun _ _ z => z.elim
      have out : ∀ {τ : L2.St} {G : Hp} {R : Shared → Prop}, Inv (X.suite a ((a, o4) :: (X.pn ++ pins))) [] τ G t6 → (∀ t7, Inv X pins (τ.set i none) G t7 → R t7) →
          wpAny (model X.prog X.w) X.A (do bindName X.env n .none; unbindBehindTheSuite X.env n pos') (fun _ t7 => R t7) X.xe t6 := fun S6 k => gone_ok (S6.unsuite ok) nd hi hl k
      match f, q6 with
      | .next, ⟨τ, G, S6, q⟩ => exact out S6 fun t7 J7 => ⟨_, _, J7, q⟩
      | .brk, ⟨τ, G, S6, q⟩ => exact out S6 fun t7 J7 => ⟨_, _, J7, q⟩
      | .cont, ⟨τ, G, S6, q⟩ => exact out S6 fun t7 J7 => ⟨_, _, J7, q⟩
      | .ret u, ⟨v, τ, G, S6, r, q⟩ => exact out S6 fun t7 J7 => ⟨_, _, _, J7, r, q⟩
  refine wpAny_mono ((hb _ _ xe tk).run [] s σ H D (I.toTry xe) h) (fun f s1 hsp => ?_) fun _ _ he => he
  match f, hsp with
  | .next, ⟨σ', H', J, q⟩ => exact wpAny_execs_nil ⟨σ', H', J.ofTry ok, q⟩
  | .brk, ⟨σ', H', J, q⟩ => exact ⟨σ', H', J.ofTry ok, q⟩
  | .cont, ⟨σ', H', J, q⟩ => exact ⟨σ', H', J.ofTry ok, q⟩
  | .ret u, ⟨v, σ', H', J, r, q⟩ => exact ⟨v, σ', H', J.ofTry ok, r, q⟩
end
end My

set_option Elab.async false
set_option linter.all false
set_option maxRecDepth 100000
set_option maxHeartbeats 4000000
/-! LayO: x(lambda: body), where it is known that no repr is under way -/
namespace My
open PySem PySem.Spec PyProof.Rows L2 He LamX
section
variable {X : Cx} {pins : List (Addr × Obj)} {σ : L2.St} {H : Hp} {s : Shared} {k i : Nat} {g f c' : Addr} {params : Arguments} {body : Expr} {scope sg : Scope} {qg a : Str} {cdg pm ctv : Value} {Ng : List Str} {E : XK} {tb : TE} {pn : List (Addr × Obj)} {xe : Value → Shared → Prop} {W : WX} {p1 p2 : Pos}
abbrev envD (sg : Scope) (qg : Str) (s : Shared) (g : Addr) (cdg : Value) : Env := envOfC qg sg s.heap.objs.size g cdg
/-- the context of the def that got the lambda -/
abbrev cxD (X : Cx) (Ng : List Str) (qg : Str) (sg : Scope) (g : Addr) (cdg : Value) (s : Shared) (H : Hp) : Cx := cxOf CX0 X.prog X.w X.K X.mg X.base Ng qg sg g cdg X.A X.stack s H E0
/-- a(), there -/
theorem pe_actG (I : Inv X pins σ H s) (L : LamS X.env.scope scope) (hf : s.heap.get? f = some (PySem.W.kla_obj "<lambda>" (X.env.qual ++ "<lambda>") params body scope (cloFrom X.env.cells scope.names []) pm c' ctv)) (hn : H f = none) (hs : f ∉ frs X.stack)
    (hb : bindArgs (PySem.W.kla_fn "<lambda>" (X.env.qual ++ "<lambda>") params body scope (cloFrom X.env.cells scope.names []) pm (.ref c') ctv) ⟨[], []⟩ = pure []) (tk : Takes ((cxD X Ng qg sg g cdg s H).tr pn xe) W) (hW : ∀ cls d τ G, E cls d G → W cls d τ G)
    (hr : RG (k + 1) (X.A.deeper (envD sg qg s g cdg)))
    (hbody : ∀ (s1 : Shared) (H1 : Hp), RG k ((X.A.deeper (envD sg qg s g cdg)).deeper (lamEnv X scope s1.heap.objs.size f c')) → PE (lamCx X (X.A.deeper (envD sg qg s g cdg)) (envD sg qg s g cdg :: X.stack) s1 H1 E scope f c') body tb)
    (hN : Ng[i]? = some a) (hv : Vis sg a) (hd : (a == ("__debug__" : Str)) = false) (hc : (a == ("__classdict__" : Str)) = false) :
    PE ((cxD X Ng qg sg g cdg s H).tr pn xe) (.Call (.Name a p1) [] [] p2) (fun τ G Q => τ[i]? = some (some (.ref f)) ∧ G c' = some (CodeO c' (X.env.qual ++ "<lambda>")) ∧ tb σ G Q) := by
  refine ⟨fun pz sz τ G Q IZ ⟨e1, e2, ht⟩ => wpAny_Call_Name_kw (thn ((pe_var (pos := p1) hN hv hd hc).run pz sz τ G (fun v G1 => v = .ref f ∧ G1 = G) IZ ⟨.ref f, e1, rfl, rfl⟩) fun u s1 ⟨v, G1, I1, r1, ev, eG⟩ => ?_)⟩
  subst ev eG
  obtain rfl : u = Value.ref f := r1
  have at1 := I1.base.keep f _ hf hn hs (fun z => (List.not_mem_nil (show f ∈ ([] : List Addr) from z)).elim)
  obtain ⟨⟨oc, vs, t, h1, h2, h3⟩, _, _⟩ := I1.hok c' _ e2
  refine PySem.W.callWith_F0 ⟨_, _, _, _, at1⟩ (wpAny_call (codeAny_mono (R := CR (L2.CX X.prog X.w) (envD sg qg s g cdg :: X.stack) X.prog X.w G1 s1 Q E) ?_ fun y s' hq => ?_))
  · refine PySem.W.kla_callFunE hr.r.depth at1 rfl L.co L.gen rfl ⟨c', oc, vs, t, rfl, h1, h2, h3⟩ ?_
    refine wpAny_of_eq hb (wpAny_newFunctionEnv (fun y hy => (L.own y hy).2) (fun y hy => (List.not_mem_nil hy).elim) (fun h₁ n1 n2 => ⟨I1.nolimit.fresh _ n2, ?_⟩) L.kind)
    have kp : ∀ b o, s1.heap.get? b = some o → h₁.get? b = some o := fun b o e => n2.extBut b o (Nat.ne_of_lt (Heap.lt_size e)) (Heap.get?_push_of_some _ e)
    refine PySem.W.kla_codeExpr (wpAny_mono ((hbody s1 G1 (hr.deeper _)).run [] _ _ G1 Q (lam_start2 (E := E) I L I1.env0 hr.r.hd I1.base n1 kp) ht) (fun v s' hq => ?_) fun _ _ z => z)
    obtain ⟨w', H', J, rv, q⟩ := hq
    exact ⟨w', H', J.os, J.bare, J.base, J.hok, rv, q⟩
  · match y, hq with
    | .error e, hq => exact passes_call tk hW pz τ G1 s1 e s' I1 hq
    | .ok (.ret u), hq => exact I1.after hq
/-- what the def that got the lambda does with it -/
def GivesG (X : Cx) (Ng : List Str) (x : Str) (sg : Scope) (g : Addr) (cdg : Value) (bg : List Stmt) (a q : Str) (k : Nat) (TT : (XK → Hp → VK → Prop) → Hp → VK → Prop) : Prop :=
  ∀ (f c' : Addr) (s : Shared) (H : Hp) (Q : VK) (tl : XK → Hp → VK → Prop),
    (∀ (W : WX) (pn : List (Addr × Obj)) (xe : Value → Shared → Prop) (E : XK) (p1 p2 : Pos), Takes ((cxD X Ng x sg g cdg s H).tr pn xe) W → (∀ cls d τ G, E cls d G → W cls d τ G) → PE ((cxD X Ng x sg g cdg s H).tr pn xe) (.Call (.Name a p1) [] [] p2) (fun τ G Q => τ[0]? = some (some (.ref f)) ∧ G c' = some (CodeO c' q) ∧ tl E G Q)) →
    H c' = some (CodeO c' q) → RG k (X.A.deeper (envD sg x s g cdg)) → TT tl H Q → ∃ t, PSs (cxD X Ng x sg g cdg s H) bg t ∧ t { nx := fun _ H2 => Q .non H2, rt := Q } (start Ng [.ref f]) H
end
section
variable {X : Cx} {k : Nat} {g c P : Addr} {params pg : Arguments} {body : Expr} {scope sg : Scope} {bg : List Stmt} {x a : Str} {kws : List (Str × V)} {fd : FuncData} {Ng : List Str} {T : List (Addr × Str)} {TT : (XK → Hp → VK → Prop) → Hp → VK → Prop} {t : XK → TE} {p lpos pos : Pos}
/-- x(lambda: body) -/
theorem pe_lamG (hg : Gl X x) (hm : X.mg x = some (.ref g)) (F : FunD X.K x x pg bg sg [] kws g fd) (hb : Binds X.K fd [a] []) (S : FnScope Ng [a] sg) (n0 : Ng[0]? = some a) (va : Vis sg a) (hG : ∀ cdg, GivesG X Ng x sg g cdg bg a (X.env.qual ++ "<lambda>") (k + 1) TT)
    (TB : TabB X.base X.mg c P) (hcode : X.env.code = .ref c) (mT : (P, X.env.qual ++ "<lambda>") ∈ T) (uT : ∀ p ∈ T, p.1 = P → p.2 = X.env.qual ++ "<lambda>") (hr : RG (k + 2) X.A) (L : LamS X.env.scope scope) (df : defaultsOf params X.env = ([], []))
    (bd : ∀ (q : Str) (cl : List (Str × Addr)) (pm cv ctv : Value), bindArgs (PySem.W.kla_fn "<lambda>" q params body scope cl pm cv ctv) ⟨[], []⟩ = pure [])
    (hbody : ∀ (A : Around) (outer : List Env) (s : Shared) (H : Hp) (E : XK) (f c' : Addr), RG k (A.deeper (lamEnv X scope s.heap.objs.size f c')) → PE (lamCx X A outer s H E scope f c') body (t E))
    (hdb : (x == ("__debug__" : Str)) = false := by decide) (hd : (a == ("__debug__" : Str)) = false := by decide) (hc : (a == ("__classdict__" : Str)) = false := by decide) :
    PE X (.Call (.Name x p) [.Lambda params body scope lpos] [] pos) (tLam T TT t) := by
  refine ⟨fun pins s σ H Q I hh => ?_⟩
  obtain ⟨hT, h⟩ := hh
  have kp := F.kp
  obtain ⟨_, _, _, _, _, _, _, cdv, _, _, rfl, lk, hcd, _, _⟩ := F.ex
  refine wpAny_Call_Name_kw (ld_glob I hg hm (PySem.W.callWith_K (h₀ := X.base) I.ok.mod.kin kp ?_ (by rfl) (by rfl)) hdb)
  show wpAny _ _ (spliced ((false, eval (.Lambda params body scope lpos) X.env) :: backTo pos (starEach [] X.env))) _ _ s
  refine Calls.spliced_cons (lam_make2 I TB hcode mT uT hT df (L.has I.ok) fun f c' pm' ctv H1 s' I1 eN T1 o1 o2 o3 o4 => Calls.spliced_nil ⟨I1.kIn, ?_⟩)
  refine wpAny_call (codeAny_mono (run_ofS (CX := CX0) (N := Ng) (ps := [a]) (us := [.ref f]) (vs := [.ref f]) (H := H1) (Q := Q) (E := E0) lk hcd S hr.r I1.env0 (hb s' [.ref f] I1.kIn rfl) (.cons rfl .nil) rfl fun _ => ?_) fun y s2 hq => ?_)
  · exact hG cdv f c' s' H1 Q (fun E G R => t E σ G R) (fun W pn xe E p1 p2 tk hW => pe_actG (i := 0) I1 L o1 o2 o3 (bd _ _ _ _ _) tk hW (hr.deeper _) (fun s1 H2 hr2 => hbody _ _ s1 H2 E f c' hr2) n0 va hd hc) o4 (hr.deeper _) (h H1 eN T1)
  · match y, hq with
    | .error e, hq => exact hq.elim
    | .ok (.ret u), hq => exact I1.after hq
end
end My

set_option Elab.async false
set_option linter.all false
set_option maxRecDepth 100000
set_option maxHeartbeats 4000000
/-! LayP: the law's end where defs make lambdas: tables of code objects are tracked -/
namespace My
open PySem PySem.Spec PyProof.Rows L2 LamX
/-- a code object at p.1 with its empty table at p.2, outside of K -/
structure Tbl0 (K : PySem.W.Frag) (h : Heap) (p : Addr × Addr) : Prop where
  code : PySem.W.CodeHd h p.1 p.2
  tab : h.get? p.2 = some { cls := .none, data := .fields #[] }
  out : K.lookup p.2 = none
/-- what is tracked at the start: the script, perhaps, and the tables -/
structure Start (cs : List (Addr × Addr)) (H : Hp) (a : Addr) : Prop where
  tabs : ∀ p ∈ cs, H p.2 = some (.tbl #[])
  only : ∀ b, H b = none ∨ (∃ p ∈ cs, b = p.2) ∨ (b = a ∧ ∃ o xs, H b = some (.frz o (.lst xs)))
section
variable {P : Program} {w : World} {K : PySem.W.Frag} {mg mb : Str → Option Value} {k : Nat} {fa a : Addr} {fd : FuncData} {x : Str} {sp : Sp} {t : Shared} {vs : List Value} {ns : List Int} {H : Hp} {cs : List (Addr × Addr)}
theorem law_atT (KX : K.In t.heap) (hns : t.heap.Ns mainGlobals mg) (hb : t.heap.Ns builtinsNs mb) (hbb : ∀ x : Str, x ≠ "__name__" → mb x = bootBuiltins x) (hlim : t.heap.NoLimit) (hg : t.gens = #[])
    (hbm : ∃ (bm : Addr) (ob : Obj), mg "__builtins__" = some (.ref bm) ∧ bm ≠ builtinsNs ∧ t.heap.get? bm = some ob ∧ ob.cls = .type "module" ∧ ob.dict = some builtinsNs ∧ ob.data = .plain)
    (T0 : ∀ p ∈ cs, Tbl0 K t.heap p) (ha : t.heap.get? a = some { cls := .type "list", data := .seq vs.toArray }) (hr : RG k callerA)
    (F : ∀ base : Heap, K.In base → base.Ns mainGlobals mg → (∀ p ∈ cs, TabB base mg p.1 p.2) → FnG P w K mg base CX0 k fa fd [x] sp) (hbind : ∀ (s : Shared) (u : Value), BindsTo s fd ⟨[u], []⟩ [(x, u)])
    (hsp : sp [.ref a] H (fun v _ => v = .bl true) E0) (hO : Start cs H a) (hok : HOk P w H t.heap) (hK : H a ≠ none → K.lookup a = none) :
    codeAny (model P w) callerA (.call (.ref fa) ⟨[.ref a], []⟩) (fun r s' => r = .ok (.ret (.bool true)) ∧ OldK t.heap s'.heap ∧ s'.os = t.os ∧ AllBare s'.gens) t := by
  -- what is no list and no table is not tracked
  have off : ∀ {b : Addr} {o : Obj}, t.heap.get? b = some o → (∀ ws n, o.data ≠ .seq ws n) → o.data ≠ .fields #[] → H b = none := fun {b o} e n1 n2 => by
    rcases hO.only b with z | ⟨p, hp, rfl⟩ | ⟨rfl, _⟩
    · exact z
    · rw [(T0 p hp).tab] at e
      cases e
      exact absurd rfl n2
    · rw [ha] at e
      cases e
      exact absurd rfl (n1 _ _)
  have kb : K.In (hidT t.heap H) := fun b o e => hidT_get (KX b o e) (by
    rcases hO.only b with z | ⟨p, hp, rfl⟩ | ⟨rfl, o2, xs, z⟩
    · exact z
    · rw [(T0 p hp).out] at e
      cases e
    · rw [hK (by rw [z]; simp)] at e
      cases e)
  have nsK : ∀ {b : Addr} {m : Str → Option Value}, t.heap.Ns b m → (hidT t.heap H).Ns b m := fun {b m} ⟨o, es, ep, e, d, r⟩ => by
    have n1 : ∀ ws n, o.data ≠ .seq ws n := fun ws n z => by
      rw [d] at z
      cases z
    have n2 : o.data ≠ .fields #[] := fun z => by
      rw [d] at z
      cases z
    exact ⟨o, es, ep, hidT_get e (off e n1 n2), d, r⟩
  have hM : Mod K mg (hidT t.heap H) := ⟨kb, nsK hns, ⟨mb, nsK hb, hbb⟩, let ⟨mc, h1, h2⟩ := hlim; ⟨mc, nsK h1, h2⟩⟩
  have TB : ∀ p ∈ cs, TabB (hidT t.heap H) mg p.1 p.2 := fun p hp => by
    obtain ⟨C, tb, _⟩ := T0 p hp
    refine ⟨?_, ?_, fun z => ?_⟩
    · obtain ⟨o, us, f1, f2, f3, f4, f5, f6, f7, e1, r1, r2, r3, r⟩ := C
      refine ⟨o, us, f1, f2, f3, f4, f5, f6, f7, hidT_get e1 (off e1 (fun ws n z => ?_) fun z => ?_), r1, r2, r3, r⟩
      · rw [r2] at z
        cases z
      · rw [r2] at z
        cases z
        cases r3
    · obtain ⟨bm, ob, b1, b2, b3, b4, b5, b6⟩ := hbm
      have n1 : ∀ ws n, ob.data ≠ .seq ws n := fun ws n z => by
        rw [b6] at z
        cases z
      have n2 : ob.data ≠ .fields #[] := fun z => by
        rw [b6] at z
        cases z
      refine ⟨bm, ob, b1, b2, fun q => ?_, fun q => ?_, hidT_get b3 (off b3 n1 n2), b4, b5, b6⟩
      · obtain ⟨o, es, ep, e, d, _⟩ := hns
        rw [q, e] at b3
        cases b3
        rw [d] at b6
        cases b6
      · rw [q, tb] at b3
        cases b3
        cases b6
    · obtain ⟨o, es, ep, e, d, _⟩ := hns
      rw [z, tb] at e
      cases e
      cases d
  have e0 : Env0 P w K mg (hidT t.heap H) callerA [] t H := ⟨rfl, hM, fun b o e => of_hidT e, Nat.le_of_eq (hidT_size _ _), trivial, fun b z => (List.not_mem_nil (a := b) z).elim, hok, .of_eq hg⟩
  refine codeAny_mono ((F _ kb (nsK hns) TB).run callerA [] t H ⟨[.ref a], []⟩ [.ref a] [.ref a] _ _ hr e0 (hbind t (.ref a)) (.cons rfl .nil) hsp) fun y s' h => ?_
  match y, h with
  | .error e, h => exact h.elim
  | .ok (.ret u), h =>
    obtain ⟨v, H', os, bare, un, hok', r', q⟩ := h
    have q2 : v = .bl true := q
    subst q2
    obtain rfl : u = Value.bool true := r'
    have grown : ∀ p ∈ cs, ∃ more : Array Value, s'.heap.get? p.2 = some { cls := .none, data := .fields more } := fun p hp => by
      obtain ⟨more, z⟩ := un.tbls p.2 #[] (hO.tabs p hp)
      exact ⟨_, hok' p.2 _ z⟩
    have stays : ∀ b o, t.heap.get? b = some o → (∃ p ∈ cs, b = p.2) ∨ s'.heap.get? b = some o := fun b o e => by
      rcases hO.only b with z | z | ⟨_, ob, xs, z⟩
      · exact .inr (un.keep b o e z (fun z => (List.not_mem_nil (a := b) z).elim) (by simp))
      · exact .inl z
      · obtain ⟨e1, _⟩ := hok b _ z
        obtain ⟨e2, _⟩ := hok' b _ (un.frzs b ob _ z)
        rw [e] at e1
        cases e1
        exact .inr e2
    refine ⟨rfl, ⟨fun b o e => ?_, fun b o e => ?_⟩, os, bare⟩
    · rcases stays b o e with ⟨p, hp, rfl⟩ | z
      · obtain ⟨more, hm⟩ := grown p hp
        rw [(T0 p hp).tab] at e
        cases e
        exact .inr (.inl ⟨((T0 p hp).code.tab (T0 p hp).tab).isCodeTable, rfl, #[], more, rfl, by rw [Array.empty_append]; exact hm⟩)
      · exact .inl z
    · rcases stays b o e with ⟨p, hp, rfl⟩ | z
      · obtain ⟨more, hm⟩ := grown p hp
        exact ⟨_, hm⟩
      · exact ⟨o, z⟩
end
end My

set_option Elab.async false
set_option linter.all false
set_option maxRecDepth 100000
set_option maxHeartbeats 4000000
/-! LayQ: the hook and the law's end where some defs' tables of code objects are tracked; repr of a list that holds a dict -/
namespace Hk
open PySem PySem.Spec PyProof.Rows L2 He
/-- the object at sysModules is a dict -/
def smB (K : PySem.W.Frag) : Bool := match K.lookup sysModules with
  | some ⟨.type c, _, _, _⟩ => decide (c = "dict")
  | _ => false
structure SaysF (fa : List Fa) (fn : List DefE) (tf : List Defn) (ex : PySem.W.Frag → Bool) (h : Heap) (K : PySem.W.Frag) : Prop where
  c : SaysE fa fn ex K
  sm : smB K = true
  hd : ∀ p ∈ tf, PySem.W.codeHdIn K (cT K p).1 (cT K p).2 = true
  out : ∀ p ∈ tf, K.lookup (cT K p).2 = none
  empty : ∀ p ∈ tf, h.get? (cT K p).2 = some { cls := .none, data := .fields #[] }
def frQ (n : Nat) (g : Addr → Option Obj) : PySem.W.Frag := frT g (asD g n ++ [cStatics, sysModules])
def obsFG (n : Nat) (fa : List Fa) (fn : List DefE) (tf : List Defn) (ex : PySem.W.Frag → Bool) (g : Addr → Option Obj) : Bool × AlE := (smB (frQ n g) && tabsB g tf (frQ n g), obsE fa fn ex (frQ n g))
theorem saysF_of {n : Nat} {fa : List Fa} {fn : List DefE} {tf : List Defn} {ex : PySem.W.Frag → Bool} {h : Heap} (e : obsFG n fa fn tf ex h.get? = (true, valE fn)) : SaysF fa fn tf ex h (frQ n h.get?) := by
  have e1 : (smB (frQ n h.get?) && tabsB h.get? tf (frQ n h.get?)) = true := congrArg (fun z : Bool × AlE => z.1) e
  have e2 : obsE fa fn ex (frQ n h.get?) = valE fn := congrArg (fun z : Bool × AlE => z.2) e
  obtain ⟨h1, h2⟩ := ba e1
  have key : ∀ p ∈ tf, PySem.W.codeHdIn (frQ n h.get?) (cT (frQ n h.get?) p).1 (cT (frQ n h.get?) p).2 = true ∧ ∃ o, h.get? (cT (frQ n h.get?) p).2 = some o ∧ emptyTab o = true := fun p hp => by
    obtain ⟨h3, h4⟩ := ba (List.all_eq_true.mp h2 p hp)
    refine ⟨h3, ?_⟩
    cases q : h.get? (cT (frQ n h.get?) p).2 with
    | none =>
      rw [q] at h4
      cases h4
    | some o =>
      rw [q] at h4
      exact ⟨o, rfl, h4⟩
  exact ⟨e2, h1, fun p hp => (key p hp).1, fun p hp => by
    obtain ⟨_, o, q, z⟩ := key p hp
    exact frT_none q z, fun p hp => by
    obtain ⟨_, o, q, z⟩ := key p hp
    rw [q, emptyTab_eq z]⟩
def hookF (n : Nat) (fa : List Fa) (fn : List DefE) (tf : List Defn) (ex : PySem.W.Frag → Bool) : PySem.W.Hook where
  α := Bool × AlE
  obs := fun s => obsFG n fa fn tf ex s.heap.get?
  val := fun _ => (true, valE fn)
  says := fun _ h => ∃ K : PySem.W.Frag, K.In h ∧ SaysF fa fn tf ex h K
  of := fun _ _ e => ⟨_, frT_in, saysF_of e⟩
  keeps := fun _ _ _ ⟨K, hK, c⟩ k => ⟨K, PySem.W.Frag.In.keeps hK k, ⟨c.c, c.sm, c.hd, c.out, fun p hp => k _ _ (c.empty p hp)⟩⟩
theorem obsFG_eq {n : Nat} {fa : List Fa} {fn : List DefE} {tf : List Defn} {ex : PySem.W.Frag → Bool} {g : Addr → Option Obj} {s : Shared} (h : ∀ a, g a = s.heap.get? a) : obsFG n fa fn tf ex g = (hookF n fa fn tf ex).obs s := by
  have e : g = s.heap.get? := funext h
  rw [e] <;> rfl
/-- the code objects and tables of these defs -/
def cTs (K : PySem.W.Frag) (tf : List Defn) : List (Addr × Addr) := tf.map fun p => cT K p
theorem tbl0_of {fa : List Fa} {fn : List DefE} {tf : List Defn} {ex : PySem.W.Frag → Bool} {h : Heap} {K : PySem.W.Frag} (X : K.In h) (c : SaysF fa fn tf ex h K) : ∀ p ∈ cTs K tf, My.Tbl0 K h p := fun p hp => by
  obtain ⟨q, hq, rfl⟩ := List.mem_map.mp hp
  exact ⟨PySem.W.codeHd_of_K X (c.hd q hq), c.empty q hq, c.out q hq⟩
end Hk
namespace My
open PySem PySem.Spec PyProof.Rows L2 He LamX
section
variable {P : Program} {w : World} {K : PySem.W.Frag} {mg : Str → Option Value} {base : Heap} {k : Nat} {x qual : Str} {params : Arguments} {body : List Stmt} {scope : Scope} {dvs : List V} {kws : List (Str × V)} {fd : FuncData} {N ps : List Str} {sp : Sp} {CX : CXT}
/-- fnG, where the body knows its own code object -/
theorem fnGc (F : FunD K x qual params body scope dvs kws (ga K x) fd) (S : FnScope N ps scope) (len : ∀ vs H Q E, sp vs H Q E → vs.length = ps.length)
    (hbody : ∀ (cdv : Value) (A : Around) (outer : List Env) (s : Shared) (H : Hp) (vs : List V) (Q : VK) (E : XK), cdv = .ref (codeOf K (x, none)) → RG k (A.deeper (envOfC qual scope s.heap.objs.size (ga K x) cdv)) → sp vs H Q E →
      ∃ t, PSs (cxOf CX P w K mg base N qual scope (ga K x) cdv A outer s H E) body t ∧ t { nx := fun _ H' => Q .non H', rt := Q } (start N vs) H) : FnG P w K mg base CX (k + 1) (ga K x) fd ps sp := by
  obtain ⟨oc, od, dV, kV, doc, pm, an, cdv, ct, osl, rfl, lk, hcd, _, _⟩ := F.ex
  refine ⟨len, fun A outer s H args us vs Q E hr e0 hb r hsp => ?_⟩
  have old := fun b o e => (e0.bs b o e).1
  have KX : K.In s.heap := e0.mod.kin.keeps old
  have hc : cdv = .ref (codeOf K (x, none)) := by
    obtain ⟨c, rfl⟩ := codeIn_ref hcd
    rw [codeOf_eq (p := (x, none)) lk rfl]
  refine codeAny_call_function hr.r.depth (KX _ _ lk) rfl S.co S.gen rfl (PySem.W.codeRec_of KX hcd) (hb _ _ _ _ ?_)
  refine wpAny_newFunctionEnv_cells S.kind (fun p hy => ?_) fun env he s1 z => ?_
  · obtain ⟨n, v⟩ := p
    exact (S.par n (List.of_mem_zip hy).1).elim (fun q => .inl q) fun q => .inr ⟨q, PySem.W.cellsFrom_some _ _ _ (.inl q)⟩
  subst he
  refine ⟨(e0.mod.nolimit.keeps old).keeps z.toInCall.keep, codeAny_func ?_⟩
  obtain ⟨t, ht, hq⟩ := hbody cdv A outer s H vs Q E hc (hr.deeper _) hsp
  refine wpAny_mono (ht.run [] s1 (start N vs) H _ (inv_start S hr.r.hd e0 (len _ _ _ _ hsp) r z) hq) (fun fl s' hs => ?_) fun _ _ hs => hs
  cases fl with
  | ret u => exact let ⟨v, _, H', J, rv, q⟩ := hs; ⟨v, H', J.os, J.bare, J.base, J.hok, rv, q⟩
  | next => exact let ⟨_, H', J, q⟩ := hs; ⟨.non, H', J.os, J.bare, J.base, J.hok, rfl, q⟩
  | brk => exact let ⟨_, _, _, q⟩ := hs; q.elim
  | cont => exact let ⟨_, _, _, q⟩ := hs; q.elim
end
/-- a law of ints whose defs make lambdas -/
theorem law_gT {P : Program} {w : World} {K : PySem.W.Frag} {mg mb : Str → Option Value} {k : Nat} {fa a : Addr} {fd : FuncData} {x : Str} {sp : Sp} {t : Shared} {vs : List Value} {ns : List Int} {cs : List (Addr × Addr)}
    (KX : K.In t.heap) (hns : t.heap.Ns mainGlobals mg) (hb : t.heap.Ns builtinsNs mb) (hbb : ∀ x : Str, x ≠ "__name__" → mb x = bootBuiltins x) (hlim : t.heap.NoLimit) (hg : t.gens = #[])
    (hbm : ∃ (bm : Addr) (ob : Obj), mg "__builtins__" = some (.ref bm) ∧ bm ≠ builtinsNs ∧ t.heap.get? bm = some ob ∧ ob.cls = .type "module" ∧ ob.dict = some builtinsNs ∧ ob.data = .plain)
    (T0 : ∀ p ∈ cs, Tbl0 K t.heap p) (ha : t.heap.get? a = some { cls := .type "list", data := .seq vs.toArray }) (hi : IntsAre vs ns) (hl : ns.length ≤ sizeLine) (hr : RG k callerA)
    (F : ∀ base : Heap, K.In base → base.Ns mainGlobals mg → (∀ p ∈ cs, TabB base mg p.1 p.2) → FnG P w K mg base CX0 k fa fd [x] sp) (hbind : ∀ (s : Shared) (u : Value), BindsTo s fd ⟨[u], []⟩ [(x, u)])
    (hsp : ∀ H : Hp, (∀ p ∈ cs, H p.2 = some (.tbl #[])) → SqL K H a (ns.map V.int) → sp [.ref a] H (fun v _ => v = .bl true) E0) :
    codeAny (model P w) callerA (.call (.ref fa) ⟨[.ref a], []⟩) (fun r s' => r = .ok (.ret (.bool true)) ∧ OldK t.heap s'.heap ∧ s'.os = t.os ∧ AllBare s'.gens) t := by
  have rv := vals_ints hi
  have nT : ∀ p ∈ cs, p.2 ≠ a := fun p hp z => by
    have e := (T0 p hp).tab
    rw [z, ha] at e
    cases e
  let tb : Hp := fun b => if b ∈ cs.map (·.2) then some (.tbl #[]) else none
  have tb1 : ∀ p ∈ cs, tb p.2 = some (.tbl #[]) := fun p hp => if_pos (List.mem_map.mpr ⟨p, hp, rfl⟩)
  have tb2 : ∀ b u, tb b = some u → (∃ p ∈ cs, b = p.2) ∧ u = .tbl #[] := fun b u e => by
    by_cases hm : b ∈ cs.map (·.2)
    · have e2 := (if_pos hm).symm.trans e
      cases e2
      obtain ⟨p, hp, z⟩ := List.mem_map.mp hm
      exact ⟨⟨p, hp, z.symm⟩, rfl⟩
    · have e2 := (if_neg hm).symm.trans e
      cases e2
  have tbok : ∀ b u, tb b = some u → ∀ H : Hp, ObjOk P w H t.heap b u := fun b u e H => by
    obtain ⟨⟨p, hp, rfl⟩, rfl⟩ := tb2 b u e
    exact (T0 p hp).tab
  have tba : tb a = none := by
    cases e : tb a with
    | none => rfl
    | some u =>
      obtain ⟨⟨p, hp, z⟩, _⟩ := tb2 a u e
      exact absurd z.symm (nT p hp)
  cases hk : K.lookup a with
  | some o =>
    have e := KX a o hk
    rw [ha] at e
    cases e
    refine law_atT (H := tb) (vs := vs) KX hns hb hbb hlim hg hbm T0 ha hr F hbind (hsp tb tb1 (.inr ⟨_, vs.toArray, _, hk, rfl, rfl, rfl, by rw [List.size_toArray, hi.length]; exact hl, by simpa using rv⟩)) ⟨tb1, fun b => ?_⟩ (fun b u z => tbok b u z _) (fun z => absurd tba z)
    cases e : tb b with
    | none => exact .inl rfl
    | some u => exact .inr (.inl (tb2 b u e).1)
  | none =>
    let ob : Obj := { cls := .type "list", data := .seq vs.toArray }
    let H : Hp := fun b => if b = a then some (.frz ob (.lst (ns.map V.int))) else tb b
    have Ha : H a = some (.frz ob (.lst (ns.map V.int))) := if_pos rfl
    have Hn : ∀ {b}, b ≠ a → H b = tb b := fun {b} z => if_neg z
    have H1 : ∀ p ∈ cs, H p.2 = some (.tbl #[]) := fun p hp => (Hn (nT p hp)).trans (tb1 p hp)
    refine law_atT (H := H) (vs := vs) KX hns hb hbb hlim hg hbm T0 ha hr F hbind (hsp H H1 (.inl (.inr ⟨ob, Ha⟩))) ⟨H1, fun b => ?_⟩ (fun b u z => ?_) fun _ => hk
    · by_cases n : b = a
      · subst n
        exact .inr (.inr ⟨rfl, _, _, Ha⟩)
      · cases e : tb b with
        | none => exact .inl ((Hn n).trans e)
        | some u => exact .inr (.inl (tb2 b u e).1)
    · by_cases n : b = a
      · subst n
        rw [Ha] at z
        cases z
        exact ⟨ha, by rw [List.length_map]; exact hl, vs, _, rv, ha⟩
      · rw [Hn n] at z
        exact tbok b u z _
theorem walk_gT {l : PySem.W.OpenLaw} {n k : Nat} {q : Program} {loose : List Str} {XP : (Str → Option Value) → Heap → Prop} {YP : World → Heap → Prop} {d : DefRec} {x : Str}
    (hn : l.most = some n) (hn2 : n ≤ sizeLine) (hdf : d.params.defaults = []) (hr : RG k callerA)
    (F : ∀ (w : World) (mg : Str → Option Value) (fa : Addr) (h : Heap), YP w h → h.Ns mainGlobals mg → mg d.name = some (.ref fa) →
      ∃ (K : PySem.W.Frag) (fd : FuncData) (sp : Sp) (cs : List (Addr × Addr)), K.In h ∧ (∀ p ∈ cs, Tbl0 K h p) ∧ (∀ (s : Shared) (u : Value), BindsTo s fd ⟨[u], []⟩ [(x, u)]) ∧
        (∀ (H : Hp) (a : Addr) (ns : List Int), ns.length ≤ n → (∀ p ∈ cs, H p.2 = some (.tbl #[])) → SqL K H a (ns.map V.int) → sp [.ref a] H (fun v _ => v = .bl true) E0) ∧
        ∀ base : Heap, K.In base → base.Ns mainGlobals mg → (∀ p ∈ cs, TabB base mg p.1 p.2) → FnG l.prog w K mg base CX0 k fa fd [x] sp) :
    PySem.W.WalkO q loose XP YP l.row.toRowW d [] (fun f vs => PySem.call f vs) := by
  refine Att.attach_call hn hdf fun w s₀ t mg mb fa o pm cd doc a vs ns G Y ho hd hcd hmg hobj hints hlen hg => ?_
  obtain ⟨K, fd, sp, cs, KX, T0, hb, hsp, hF⟩ := F w mg fa _ Y G.T.g hmg
  exact law_gT KX G.T.g G.T.b G.T.builtins G.T.nolimit hg G.T.bmain T0 hobj hints (Nat.le_trans hlen hn2) hr hF hb fun H hH hS => hsp H a ns hlen hH hS
end My

set_option Elab.async false
set_option linter.all false
set_option maxRecDepth 100000
set_option maxHeartbeats 4000000
/-! LayR: repr of a pair of a text and a dict; what stays while lambdas are made -/
namespace My
open PySem PySem.Spec PyProof.Rows L2 LamX
/-! ### what stays -/
section
variable {K : PySem.W.Frag} {H H' : Hp}
theorem rdE {a : Addr} {u : HO} (s : ExtN H H') (h : Rd H a u) (n : ∀ ps, u ≠ .tbl ps) : Rd H' a u := h.elim (fun e => .inl (s _ _ e n)) fun ⟨o, e⟩ => .inr ⟨o, s _ _ e fun _ z => nomatch z⟩
theorem sqE {a : Addr} {xs : List V} (h : SqL K H a xs) (s : ExtN H H') : SqL K H' a xs := h.elim (fun e => .inl (rdE s e fun _ z => nomatch z)) .inr
theorem tupE {a : Addr} {xs : List V} (h : SqT K H a xs) (s : ExtN H H') : SqT K H' a xs := h.elim (fun e => .inl (rdE s e fun _ z => nomatch z)) .inr
theorem lstE {a : Addr} {xs : List V} (h : H a = some (.lst xs)) (s : ExtN H H') : H' a = some (.lst xs) := s _ _ h fun _ z => nomatch z
theorem tpE {a : Addr} {xs : List V} (h : H a = some (.tup xs)) (s : ExtN H H') : H' a = some (.tup xs) := s _ _ h fun _ z => nomatch z
theorem dkE {a : Addr} {ps : List (Key × V)} (h : H a = some (.dK ps)) (s : ExtN H H') : H' a = some (.dK ps) := s _ _ h fun _ z => nomatch z
mutual
theorem dpE (s : ExtN H H') : ∀ {d : PyData} {x : V}, Dp K H x d → Dp K H' x d
  | _, _, .non => .non
  | _, _, .bl b => .bl b
  | _, _, .int i => .int i
  | _, _, .str x => .str x
  | _, _, .lst h k => .lst (sqE h s) (dpAllE s k)
  | _, _, .tup h k => .tup (tupE h s) (dpAllE s k)
theorem dpAllE (s : ExtN H H') : ∀ {ds : List PyData} {xs : List V}, DpAll K H xs ds → DpAll K H' xs ds
  | _, _, .nil => .nil
  | _, _, .cons h k => .cons (dpE s h) (dpAllE s k)
end
theorem dptE {x : V} {d : PyData} (s : ExtN H H') (h : DpT K H x d) : DpT K H' x d := by
  cases h with
  | pl k n => exact .pl (dpE s k) n
  | dct e => exact .dct (dkE e s)
theorem kdE {x : V} {T : String} (k : Kd H x T) (s : ExtN H H') : Kd H' x T := by
  cases k with
  | bl b => exact .bl b
  | non => exact .non
  | str x => exact .str x
  | lst e => exact .lst (lstE e s)
  | tup e => exact .tup (tpE e s)
  | dct e => exact .dct (dkE e s)
theorem thgE {x : V} {d : PyData} (h : Thg K H x d) (s : ExtN H H') : Thg K H' x d := ⟨dptE s h.1, h.2⟩
end
/-! ### repr of a pair of a text and a thing -/
inductive DpU (K : PySem.W.Frag) (H : Hp) : V → PyData → Prop
  | one {x : V} {d : PyData} (h : DpT K H x d) : DpU K H x d
  | two {a : Addr} {s : Str} {x : V} {d : PyData} (h : SqL K H a [.str s, x]) (k : DpT K H x d) : DpU K H (.ref a) (.list [.str s, d])
section
variable {X : Cx} {pins : List (Addr × Obj)} {σ : L2.St} {H : Hp} {s : Shared}
def rReprU (K : PySem.W.Frag) : List V → Hp → VK → Prop := fun xs H Q => ∃ x d, xs = [x] ∧ DpU K H x d ∧ d.showable = true ∧ d.depth ≤ 50 ∧ d.shown.length ≤ sizeLine ∧ Q (.str d.shown) H
theorem call_reprU {j : Nat} (sm : Hk.smB X.K = true) (hr : RG j X.A) : CallR X (.builtin "repr") (rReprU X.K) := by
  intro pins s σ H xs us Q I r h
  obtain ⟨x, d, rfl, hd, h1, h3, h4, q⟩ := h
  cases hd with
  | one h => exact call_reprT hr pins s σ H _ us Q I r ⟨_, _, rfl, h, h1, h3, h4, q⟩
  | @two a y x d h k =>
    cases k with
    | pl k n => exact call_reprT hr pins s σ H _ us Q I r ⟨_, _, rfl, .pl (.lst h (.cons (.str _) (.cons k .nil))) (by simp only [PyData.hasDict, PyData.hasDictAll, n, Bool.or_false, Bool.false_or]), h1, h3, h4, q⟩
    | @dct c ps e =>
      obtain ⟨u, rfl, rx⟩ := vals1 r
      obtain rfl : u = Value.ref a := rx
      obtain ⟨its, rv, ⟨o, n, ho, hc, _, hd⟩, _⟩ := I.list h
      obtain ⟨u1, u2, ei, r1, r2⟩ := vals2 rv
      obtain ⟨t, rfl⟩ := r1
      obtain rfl : u2 = Value.ref c := r2
      obtain ⟨R2, n2⟩ := dict_reads I e
      have na : a ≠ sysModules := fun z => by
        have sm2 := sm
        unfold Hk.smB at sm2
        cases lk : X.K.lookup sysModules with
        | none =>
          rw [lk] at sm2
          cases sm2
        | some o2 =>
          rw [lk] at sm2
          have e2 := I.kIn _ _ lk
          rw [← z, ho] at e2
          obtain rfl := Option.some.inj e2
          obtain ⟨oc, od, dt, sl⟩ := o
          obtain rfl : oc = .type "list" := hc
          exact absurd (show decide (("list" : String) = "dict") = true from sm2) (by decide)
      have R : Reads s.heap (.ref a) (.list [.str y, .dict (ddI ps)]) (a :: ([] ++ ([c] ++ []))) := Reads.list ho hc hd (by
        have e3 : its = [Value.str y t, Value.ref c] := ei
        rw [e3]
        exact ReadsAll.cons (.str y t) (ReadsAll.cons R2 .nil))
      refine repr_of_reads' R h1 (fun _ m => ?_) hr.g (by have := hr.units; omega) (fun _ _ z => z) (fun h' u tk hk => ?_) h4
      · rcases List.mem_cons.mp m with z | z
        · exact na z.symm
        · exact n2 (List.mem_singleton.mp z).symm
      · exact ⟨.str _, H, I.kept (t' := tk) hk, ⟨u, rfl⟩, q⟩
theorem call_reprUK {K : PySem.W.Frag} {j : Nat} (h : X.K = K) (sm : Hk.smB K = true) (hr : RG j X.A) : CallR X (.builtin "repr") (rReprU K) := by
  subst h
  exact call_reprU sm hr
end
/-- a pair of a text and a thing, whose repr may be asked -/
theorem f_pair {K : PySem.W.Frag} {H : Hp} {a : Addr} {s : Str} {x : V} {d : PyData} {Q : VK} (h : SqL K H a [.str s, x]) (k : DpT K H x d) (h1 : (PyData.list [.str s, d]).showable = true) (h2 : (PyData.list [.str s, d]).depth ≤ 50) (h3 : (PyData.list [.str s, d]).shown.length ≤ sizeLine) (q : Q (.str (PyData.list [.str s, d]).shown) H) : rReprU K [.ref a] H Q := ⟨_, _, rfl, .two h k, h1, h2, h3, q⟩
end My

set_option Elab.async false
set_option linter.all false
set_option maxRecDepth 100000
set_option maxHeartbeats 4000000
/-! LayS: tuple * int, also for 0 and 1; names of lambdas -/
namespace My
open PySem PySem.Spec PyProof.Rows L2 LamX
theorem tuple_mul1 (l : Addr) (items : Array Value) (n : Nat) (dd : Option Addr) (sl : Array (Option Value)) (u : Tok) :
    Meets (Builtin.«tuple.__mul__» ⟨[.ref l, .int 1 u], []⟩) (fun _ R s => s.heap.get? l = some { cls := .type "tuple", dict := dd, data := .seq items n, slots := sl } ∧ R (.ok (.ret (Value.ref l))) { s with heap := s.heap, toks := s.toks }) :=
  .of_wp fun prog w A R s h => by
    obtain ⟨hp, g, d, tk, os⟩ := s
    obtain ⟨hl, h⟩ := h
    have f1 := AutoSeq1.idx_int
    have c1 : (items.isEmpty || (1 : Int) == 1) = true := by simp
    wp_walk using wpAny_loadPart' hl
    repeat (first
      | (refine wpAny_ite_false (by decide) ?_; wp_walk using wpAny_loadPart' hl)
      | (refine wpAny_ite_true (by rw [c1]) ?_; wp_walk using wpAny_loadPart' hl))
    exact ⟨_, rfl, h⟩
theorem tuple_mul0 (l : Addr) (items : Array Value) (n : Nat) (dd : Option Addr) (sl : Array (Option Value)) (u : Tok) (hi : items.isEmpty = false) :
    Meets (Builtin.«tuple.__mul__» ⟨[.ref l, .int 0 u], []⟩) (fun _ R s => s.heap.get? l = some { cls := .type "tuple", dict := dd, data := .seq items n, slots := sl } ∧ R (.ok (.ret (Value.ref s.heap.objs.size))) { s with heap := s.heap.push { cls := Value.type "tuple", data := Data.seq #[] }, toks := s.toks }) :=
  .of_wp fun prog w A R s h => by
    obtain ⟨hp, g, d, tk, os⟩ := s
    obtain ⟨hl, h⟩ := h
    have f1 := AutoSeq1.idx_int
    have c1 : (items.isEmpty || (0 : Int) == 1) = false := by rw [hi] <;> rfl
    have c2 : (decide ((0 : Int) ≤ 0) || items.isEmpty) = true := by simp
    wp_walk using wpAny_loadPart' hl
    repeat (first
      | (refine wpAny_ite_false (by decide) ?_; wp_walk using wpAny_loadPart' hl)
      | (refine wpAny_ite_false (decide_eq_false (by rw [c1]; exact Bool.false_ne_true)) ?_; wp_walk using wpAny_loadPart' hl)
      | (refine wpAny_ite_true (by rw [c2]) ?_; wp_walk using wpAny_loadPart' hl))
    exact ⟨_, rfl, h⟩
def rRepTA (K : PySem.W.Frag) : R2 := fun x y H Q => ∃ l k xs, x = .ref l ∧ y = .int k ∧ SqT K H l xs ∧ xs ≠ [] ∧ 0 ≤ k ∧ k ≤ 1000 ∧ xs.length ≤ 1000 ∧ (k = 1 → Q (.ref l) H) ∧ (k ≠ 1 → ∀ p, H p = none → Q (.ref p) (upd H p (.tup (List.replicate k.toNat xs).flatten)))
section
variable {X : Cx}
theorem op_repTA : OpR X (binaryOp .Mult) (rRepTA X.K) := by
  intro pins s σ H x y v u Q I rx ry h
  obtain ⟨l, k, xs, rfl, rfl, hT, hne, h0, h2, hz, q1, q2⟩ := h
  by_cases hk : 2 ≤ k
  · exact op_repT pins s σ H _ _ v u Q I rx ry ⟨l, k, xs, rfl, rfl, hT, hne, hk, h2, hz, q2 (by omega)⟩
  cases rx
  obtain ⟨t, rfl⟩ := ry
  obtain ⟨its, r, ⟨⟨cls, dd, data, sl⟩, ho, hc, n, hd⟩, hs⟩ := I.tuple hT
  simp only at hc hd
  subst hc hd
  have hi : its.toArray.isEmpty = false := by
    cases its with
    | nil =>
      cases r
      exact absurd rfl hne
    | cons a b => rfl
  by_cases k1 : k = 1
  · subst k1
    refine wpAny_binaryOp_repeat_ref (T := "tuple") (U := "int") (by decide) ⟨_, ho, rfl⟩ (fun s' => typeIs_int s' 1 t) noFill_tuple_mul PySem.F.fills_int_mul PySem.F.slot_int_rmul repeat_tuple PySem.F.slot_int_index.lookup
      (call_meets PySem.F.slot_int_rmul (typeIs_int s 1 t) PySem.F.entry_int_rmul (PySem.F.args_int_rmul_2 _ _) (int_rmul_tuple 1 t l its.toArray n dd sl)
        ⟨ho, rfl, ⟨_, ho, rfl⟩, call_meets PySem.F.slot_tuple_mul ⟨_, ho, rfl⟩ PySem.F.entry_tuple_mul (PySem.F.args_tuple_mul_2 _ _) (tuple_mul1 l its.toArray n dd sl t) ⟨ho, ?_⟩⟩)
    exact ⟨.ref l, H, I, rfl, q1 rfl⟩
  · obtain rfl : k = 0 := by omega
    refine wpAny_binaryOp_repeat_ref (T := "tuple") (U := "int") (by decide) ⟨_, ho, rfl⟩ (fun s' => typeIs_int s' 0 t) noFill_tuple_mul PySem.F.fills_int_mul PySem.F.slot_int_rmul repeat_tuple PySem.F.slot_int_index.lookup
      (call_meets PySem.F.slot_int_rmul (typeIs_int s 0 t) PySem.F.entry_int_rmul (PySem.F.args_int_rmul_2 _ _) (int_rmul_tuple 0 t l its.toArray n dd sl)
        ⟨ho, rfl, ⟨_, ho, rfl⟩, call_meets PySem.F.slot_tuple_mul ⟨_, ho, rfl⟩ PySem.F.entry_tuple_mul (PySem.F.args_tuple_mul_2 _ _) (tuple_mul0 l its.toArray n dd sl t hi) ⟨ho, ?_⟩⟩)
    refine ⟨.ref s.heap.objs.size, _, I.laid (t' := s.toks) (o := .tup []) (fun b ob q => Heap.get?_push_of_some _ q) (Nat.le_refl _) ?_, rfl, q2 (by decide) _ (I.hok.fresh (Nat.le_refl _))⟩
    exact ⟨Nat.zero_le _, [], .nil, IsTup.new _ _⟩
theorem op_repTK {K : PySem.W.Frag} (h : X.K = K) : OpR X (binaryOp .Mult) (rRepTA K) := by
  subst h
  exact op_repTA
end
/-! ### a comprehension over a range that also writes the object at p -/
section
variable {K : PySem.W.Frag} {σ : L2.St} {H : Hp} {tb te : TE} {Q : VK} {g : TG} {tt : TT} {vs : List Nat}
theorem lc_rangeB {p : Addr} {lo : Int} {n : Nat} (hp : H p ≠ none) (Pa : Nat → List V → Hp → Prop) (hn : ∀ i acc H, Pa i acc H → acc.length ≤ 1000) (mono : ∀ i acc D H1 H2, D ≠ p → But D H1 H2 → Pa i acc H1 → Pa i acc H2) (h0 : ∀ H', Same H H' → Pa 0 [] H')
    (hs : ∀ i acc H1 (X : VK) (Y : Hp → Prop), i < n → But p H H1 → Pa i acc H1 → (∀ y H4, But p H1 H4 → Pa (i + 1) (acc ++ [y]) H4 → X y H4) → (∀ H3, But p H1 H3 → Pa (i + 1) acc H3 → Y H3) → g (.int (lo + i)) (wipe σ vs) H1 fun σ2 H2 => wipe σ2 vs = wipe σ vs ∧ tt σ2 H2 fun b H3 => if b = true then te σ2 H3 X else Y H3)
    (hd : ∀ D acc H1, H D = none → H1 D = some (.lst acc) → But p H H1 → Pa n acc H1 → Q (.ref D) H1) : LcG (Itr lo n) g tt te vs σ H Q := by
  have ne : ∀ {D}, H D = none → D ≠ p := fun {D} z e => hp (by rw [← e]; exact z)
  refine My.lc_range (fun i D H1 => H D = none ∧ ∃ acc, H1 D = some (.lst acc) ∧ But p H H1 ∧ Pa i acc H1) (fun D hD => ⟨hD, [], upd_same, My.But.new But.rfl hD, h0 _ (My.Same.new (Same.refl H) hD)⟩) ?_ (fun D H1 ⟨hD, acc, h1, s1, q⟩ => hd D acc H1 hD h1 s1 q)
  rintro i D H1 hi ⟨hD, acc, h1, s1, q⟩
  exact hs i acc H1 _ _ hi s1 q (fun y H4 s4 p4 => ⟨acc, s4.at (ne hD) h1, szl (hn _ _ _ q), hD, _, upd_same, My.But.own (s1.trans s4) hD, mono _ _ _ _ _ (ne hD) (My.But.put But.rfl) p4⟩) fun H3 s3 p3 => ⟨hD, acc, s3.at (ne hD) h1, s1.trans s3, p3⟩
end
theorem tabsB {T : List (Addr × Str)} {p : Addr} {xs : List V} {H H' : Hp} (h : LamX.Tabs T H) (hp : H p = some (.lst xs)) (b : But p H H') : LamX.Tabs T H' := fun r hr => by
  obtain ⟨ps, h1, h2, h3⟩ := h r hr
  refine ⟨ps, b _ _ (fun z => ?_) h1, h2, fun pos cv hc => ?_⟩
  · rw [z, hp] at h1
    cases h1
  · obtain ⟨c, e1, e2⟩ := h3 pos cv hc
    refine ⟨c, e1, b _ _ (fun z => ?_) e2⟩
    rw [z, hp] at e2
    unfold CodeO at e2
    cases e2
theorem tabsS {T : List (Addr × Str)} {H H' : Hp} (h : LamX.Tabs T H) (s : Same H H') : LamX.Tabs T H' := h.ext s
/-- all but the object at p is on hand -/
theorem extP {p : Addr} {H H' : Hp} (s : ∀ b o, b ≠ p → H b = some o → (∀ ps, o ≠ .tbl ps) → H' b = some o) : LamX.ExtN (del H p) H' := fun b o e n => by
  by_cases z : b = p
  · subst z
    simp [del] at e
  · rw [del_ne z] at e
    exact s b o z e n
theorem cut_take (xs : List V) (k : Nat) : cutV xs none (some (k : Int)) = xs.take k := by
  unfold cutV
  rw [HT.sIx_nat, HT.sIx_none, List.drop_zero, Nat.sub_zero]
  exact (List.take_eq_take_min ..).symm
theorem cut_drop (xs : List V) (k : Nat) : cutV xs (some (k : Int)) none = xs.drop k := by
  unfold cutV
  rw [HT.sIx_nat, HT.sIx_none]
  rcases Nat.le_total k xs.length with h | h
  · rw [Nat.min_eq_left h]
    exact List.take_of_length_le (by rw [List.length_drop]; omega)
  · rw [Nat.min_eq_right h, List.drop_eq_nil_of_le h, List.drop_eq_nil_of_le (Nat.le_refl _)] <;> simp
/-! ### tuples joined, cut, repeated: the tuple that is there then -/
section
variable {K : PySem.W.Frag} {H : Hp} {Q : VK} {a b : Addr} {xs ys : List V}
theorem f_catT (h1 : H a = some (.tup xs)) (h2 : H b = some (.tup ys)) (hz : xs.length + ys.length ≤ sizeLine) (k : ∀ p H', H' p = some (.tup (xs ++ ys)) → Same H H' → Q (.ref p) H') : rCatA K (.ref a) (.ref b) H Q := by
  refine ⟨a, b, xs, ys, rfl, rfl, SqT.of h1, SqT.of h2, hz, fun e => ?_, fun _ e => ?_, fun _ _ p hp => k p _ upd_same (My.Same.new (Same.refl H) hp)⟩
  · subst e
    exact k b H h2 (Same.refl H)
  · subst e
    exact k a H (by rw [List.append_nil]; exact h1) (Same.refl H)
theorem f_slT {lo hi : Option Int} (h1 : H a = some (.tup xs)) (k : ∀ p H', H' p = some (.tup (cutV xs lo hi)) → Same H H' → Q (.ref p) H') : rSlA K (.ref a) lo hi H Q := by
  refine ⟨a, xs, rfl, SqT.of h1, fun e => ?_, fun _ p hp => k p _ upd_same (My.Same.new (Same.refl H) hp)⟩
  refine k a H ?_ (Same.refl H)
  have : cutV xs lo hi = xs := by
    unfold cutV
    rw [e.1, e.2, List.drop_zero, Nat.sub_zero, List.take_length]
  rw [this]
  exact h1
theorem f_repT {n : Int} (h1 : H a = some (.tup xs)) (h0 : xs ≠ []) (hz : xs.length ≤ 1000) (n0 : 0 ≤ n) (n1 : n ≤ 1000) (k : ∀ p H', H' p = some (.tup (List.replicate n.toNat xs).flatten) → Same H H' → Q (.ref p) H') : rRepTA K (.ref a) (.int n) H Q := by
  refine ⟨a, n, xs, rfl, rfl, SqT.of h1, h0, n0, n1, hz, fun e => ?_, fun _ p hp => k p _ upd_same (My.Same.new (Same.refl H) hp)⟩
  subst e
  refine k a H ?_ (Same.refl H)
  show H a = some (.tup (List.replicate 1 xs).flatten)
  simpa using h1
theorem f_tuple (h1 : H a = some (.lst xs)) (k : ∀ p H', H' p = some (.tup xs) → Same H H' → H p = none → Q (.ref p) H') : (∃ p ys, [V.ref a] = [.ref p] ∧ ((SqL K H p ys ∧ ∀ l, H l = none → Q (.ref l) (upd H l (.tup ys))) ∨ (SqT K H p ys ∧ Q (.ref p) H))) :=
  ⟨a, xs, rfl, .inl ⟨SqL.of h1, fun l hl => k l _ upd_same (My.Same.new (Same.refl H) hl) hl⟩⟩
end
/-- the name of a lambda of the def x -/
def lamN (x : Str) : Str := x ++ ".<locals>." ++ "<lambda>"
/-- the table of the def x, and the name of what is made there -/
def lamT (K : PySem.W.Frag) (x : Str) : List (Addr × Str) := [((He.cT K (x, none)).2, lamN x)]
theorem lam_u {K : PySem.W.Frag} {x : Str} {P : Addr} : ∀ p ∈ lamT K x, p.1 = P → p.2 = lamN x := fun p hp _ => by
  rw [List.mem_singleton.mp hp]
end My

set_option Elab.async false
set_option linter.all false
set_option maxRecDepth 100000
set_option maxHeartbeats 4000000
/-! LayT: more steps; readings that name the heap behind a new object -/
namespace My
open PySem PySem.Spec PyProof.Rows L2
section
variable {K : PySem.W.Frag} {σ : L2.St} {H : Hp} {te t t' : TE} {tA : TA} {Q : VK} {X : Cx} {e : Expr} {es : List Expr} {pos : Pos}
theorem r_lstRg1 (h : te σ H fun x H1 => ∃ n, x = .int n ∧ RgOk 0 n ∧ ∀ q, H1 q = none → Q (.ref q) (upd H1 q (.lst (rgV 0 n)))) : tLstRg (tRg1 te) σ H Q := h
theorem r_tupRg1 (h : te σ H fun x H1 => ∃ n, x = .int n ∧ RgOk 0 n ∧ ∀ q, H1 q = none → Q (.ref q) (upd H1 q (.tup (rgV 0 n)))) : tTupRg (tRg1 te) σ H Q := h
/-! new objects: their heap is named -/
theorem pe_conv (h : PE X e t) (c : ∀ σ H Q, t' σ H Q → t σ H Q) : PE X e t' := ⟨fun pins s σ H Q I q => h.run pins s σ H Q I (c σ H Q q)⟩
/-- a reading of arguments whose end may be weakened -/
def paW (t : TA) : TA := fun σ H Q => ∃ Q0 : List V → Hp → Prop, t σ H Q0 ∧ ∀ vs G, Q0 vs G → Q vs G
theorem pa_weak (h : PA X es tA) : PA X es (paW tA) := ⟨fun pos pins s σ H Q I ⟨Q0, h0, m⟩ => thn (h.run pos pins s σ H Q0 I h0) fun us s1 ⟨vs, H1, I1, r, q⟩ => ⟨vs, H1, I1, r, m _ _ q⟩⟩
/-- what is to be said of a new object o -/
def NewO (H : Hp) (o : HO) (Q : VK) : Prop := ∀ p H', H p = none → H' p = some o → Same H H' → Q (.ref p) H'
theorem NewO.to {o : HO} (h : NewO H o Q) : ∀ p, H p = none → Q (.ref p) (upd H p o) := fun p hp => h p _ hp upd_same (My.Same.new (Same.refl H) hp)
theorem n_new {o : HO} (h : ∀ p H', H p = none → H' p = some o → Same H H' → Q (.ref p) H') : NewO H o Q := h
def tTupN (t : TA) : TE := fun σ H Q => t σ H fun xs H1 => xs.length ≤ sizeLine ∧ NewO H1 (.tup xs) Q
def tLstN (t : TA) : TE := fun σ H Q => t σ H fun xs H1 => xs.length ≤ sizeLine ∧ NewO H1 (.lst xs) Q
def tDNewN : TE := fun _ H Q => NewO H (.dK []) Q
theorem pe_tupN {x1} (h : PA X es tA) : PE X (.Tuple es x1 pos) (tTupN tA) := pe_conv (pe_tup (pa_weak h)) fun σ H Q q => ⟨_, q, fun xs G z => ⟨z.1, z.2.to⟩⟩
theorem pe_lstN (h : PA X es tA) : PE X (.List es pos) (tLstN tA) := pe_conv (pe_lst (pa_weak h)) fun σ H Q q => ⟨_, q, fun xs G z => ⟨z.1, z.2.to⟩⟩
theorem pe_dnewN : PE X (.Dict [] [] pos) tDNewN := pe_conv pe_dnewK fun σ H Q q => q.to
theorem r_tupN (h : tA σ H fun xs H1 => xs.length ≤ sizeLine ∧ NewO H1 (.tup xs) Q) : tTupN tA σ H Q := h
theorem r_lstN (h : tA σ H fun xs H1 => xs.length ≤ sizeLine ∧ NewO H1 (.lst xs) Q) : tLstN tA σ H Q := h
theorem r_dnewN (h : NewO H (.dK []) Q) : tDNewN σ H Q := h
def rListN (K : PySem.W.Frag) : List V → Hp → VK → Prop := fun xs H Q => ∃ p ys, xs = [.ref p] ∧ (SqL K H p ys ∨ SqT K H p ys) ∧ NewO H (.lst ys) Q
def rTupleN (K : PySem.W.Frag) : List V → Hp → VK → Prop := fun xs H Q => ∃ p ys, xs = [.ref p] ∧ ((SqL K H p ys ∧ NewO H (.tup ys) Q) ∨ (SqT K H p ys ∧ Q (.ref p) H))
theorem call_listN (h : X.K = K) : CallR X (.type "list") (rListN K) := fun pins s σ H xs us Q I r ⟨p, ys, e, q, z⟩ => call_listK h pins s σ H xs us Q I r ⟨p, ys, e, q, z.to⟩
theorem call_tupleN (h : X.K = K) : CallR X (.type "tuple") (rTupleN K) := fun pins s σ H xs us Q I r ⟨p, ys, e, z⟩ => call_tupleK h pins s σ H xs us Q I r ⟨p, ys, e, z.elim (fun z => .inl ⟨z.1, z.2.to⟩) .inr⟩
theorem r_listN {p : Addr} {ys : List V} (h : SqL K H p ys ∨ SqT K H p ys) (q : NewO H (.lst ys) Q) : rListN K [.ref p] H Q := ⟨p, ys, rfl, h, q⟩
theorem r_tupleN {p : Addr} {ys : List V} (h : SqL K H p ys) (q : NewO H (.tup ys) Q) : rTupleN K [.ref p] H Q := ⟨p, ys, rfl, .inl ⟨h, q⟩⟩
def rSlLN (K : PySem.W.Frag) : V → Option Int → Option Int → Hp → VK → Prop := fun x lo hi H Q => ∃ a xs, x = .ref a ∧ SqL K H a xs ∧ NewO H (.lst (cutV xs lo hi)) Q
theorem sl_listN (h : X.K = K) : SlR X (rSlLN K) := fun pins s σ H x v vl vu lo hi sl Q I rx hs pl pu ⟨a, xs, e, q, z⟩ => sl_listK h pins s σ H x v vl vu lo hi sl Q I rx hs pl pu ⟨a, xs, e, q, z.to⟩
theorem r_slLN {p : Addr} {xs : List V} {lo hi : Option Int} (h : SqL K H p xs) (q : NewO H (.lst (cutV xs lo hi)) Q) : rSlLN K (.ref p) lo hi H Q := ⟨p, xs, rfl, h, q⟩
def rCatN : R2 := fun x y H Q => ∃ l b xs zs, x = .ref l ∧ y = .ref b ∧ H l = some (.lst xs) ∧ H b = some (.lst zs) ∧ xs.length + zs.length ≤ sizeLine ∧ NewO H (.lst (xs ++ zs)) Q
theorem op_catN : OpR X (binaryOp .Add) rCatN := fun pins s σ H x y v u Q I rx ry ⟨l, b, xs, zs, e1, e2, h1, h2, hz, z⟩ => op_cat pins s σ H x y v u Q I rx ry ⟨l, b, xs, zs, e1, e2, h1, h2, hz, z.to⟩
theorem r_catN {a b : Addr} {xs zs : List V} (h1 : H a = some (.lst xs)) (h2 : H b = some (.lst zs)) (hz : xs.length + zs.length ≤ 1000) (q : NewO H (.lst (xs ++ zs)) Q) : rCatN (.ref a) (.ref b) H Q := ⟨a, b, xs, zs, rfl, rfl, h1, h2, sz hz, q⟩
def rRepN : R2 := fun x y H Q => ∃ l k xs, x = .ref l ∧ y = .int k ∧ H l = some (.lst xs) ∧ -(2 ^ 63) ≤ k ∧ k < 2 ^ 63 ∧ xs.length * k.toNat ≤ sizeLine ∧ NewO H (.lst (List.replicate k.toNat xs).flatten) Q
theorem op_repN : OpR X (binaryOp .Mult) rRepN := fun pins s σ H x y v u Q I rx ry ⟨l, k, xs, e1, e2, h1, h2, h3, hz, z⟩ => op_rep pins s σ H x y v u Q I rx ry ⟨l, k, xs, e1, e2, h1, h2, h3, hz, z.to⟩
theorem r_repN {a : Addr} {k : Int} {xs : List V} (h1 : H a = some (.lst xs)) (h2 : 0 ≤ k) (h3 : xs.length * k.toNat ≤ 1000) (h4 : k ≤ 1000) (q : NewO H (.lst (List.replicate k.toNat xs).flatten) Q) : rRepN (.ref a) (.int k) H Q := ⟨a, k, xs, rfl, rfl, h1, by omega, by omega, sz h3, q⟩
/-! tuples: the one that is there then -/
theorem r_catTN {a b : Addr} {xs ys : List V} (h1 : H a = some (.tup xs)) (h2 : H b = some (.tup ys)) (hz : xs.length + ys.length ≤ 1000) (k : ∀ p H', H' p = some (.tup (xs ++ ys)) → Same H H' → Q (.ref p) H') : rCatA K (.ref a) (.ref b) H Q := f_catT h1 h2 (sz hz) k
/-! draws from a list of three ints that keep a condition -/
def Pu (C : Int → Int → Int → Prop) (H : Hp) (p : Addr) : Prop := ∃ a b c : Int, H p = some (.lst [.int a, .int b, .int c]) ∧ C a b c
variable {C : Int → Int → Int → Prop}
theorem Pu.same {H H' : Hp} {p : Addr} (h : Pu C H p) (s : Same H H') : Pu C H' p := let ⟨a, b, c, e, q⟩ := h; ⟨a, b, c, s _ _ e, q⟩
theorem Pu.ne {p l : Addr} (h : Pu C H p) (n : H l = none) : l ≠ p := let ⟨_, _, _, e, _⟩ := h; (ne_of_none e n).symm
theorem Pu.but {H H' : Hp} {p D : Addr} (h : Pu C H p) (n : D ≠ p) (b : But D H H') : Pu C H' p := let ⟨x, y, z, e, q⟩ := h; ⟨x, y, z, b.at (Ne.symm n) e, q⟩
theorem Pu.nn {p : Addr} (h : Pu C H p) : H p ≠ none := let ⟨_, _, _, e, _⟩ := h; by rw [e]; simp
theorem Pu.neT {p a : Addr} {xs : List V} (h : Pu C H p) (ha : H a = some (.tup xs)) : a ≠ p := let ⟨_, _, _, e, _⟩ := h; fun z => by
  rw [z, e] at ha
  cases ha
theorem Pu.neL {p a : Addr} {xs : List V} (h : Pu C H p) (ha : H a = some (.lst xs)) (n : xs.length ≠ 3) : a ≠ p := let ⟨_, _, _, e, _⟩ := h; fun z => by
  rw [z, e] at ha
  cases ha
  exact n rfl
theorem Pu.neD {p a : Addr} {xs : List (Key × V)} (h : Pu C H p) (ha : H a = some (.dK xs)) : a ≠ p := let ⟨_, _, _, e, _⟩ := h; fun z => by
  rw [z, e] at ha
  cases ha
theorem Pu.neI {p a D dx : Addr} {fs : List (Str × V)} (h : Pu C H p) (ha : H a = some (.ins D dx fs)) : a ≠ p := let ⟨_, _, _, e, _⟩ := h; fun z => by
  rw [z, e] at ha
  cases ha
end
end My

set_option Elab.async false
set_option linter.all false
set_option maxRecDepth 100000
set_option maxHeartbeats 4000000
/-! LayU: reversed ranges in comprehensions, tuples of any kind, truth values compared -/
namespace My
open PySem PySem.Spec PyProof.Rows L2
section
variable {K : PySem.W.Frag} {σ : L2.St} {H : Hp} {te t t' : TE} {tA : TA} {Q : VK} {X : Cx} {g : TG} {tt : TT} {vs : List Nat}
theorem lc_rangeC {lo c : Int} {n : Nat} (Pv : Nat → Addr → Hp → Prop) (h0 : ∀ D, H D = none → Pv 0 D (upd H D (.lst [])))
    (hs : ∀ i D H, i < n → Pv i D H → g (.int (lo + (i : Nat) * c)) (wipe σ vs) H fun σ2 H2 => wipe σ2 vs = wipe σ vs ∧ tt σ2 H2 fun b H3 => if b = true then te σ2 H3 fun y H4 => ∃ acc, H4 D = some (.lst acc) ∧ acc.length < sizeLine ∧ Pv (i + 1) D (upd H4 D (.lst (acc ++ [y]))) else Pv (i + 1) D H3)
    (hd : ∀ D H, Pv n D H → Q (.ref D) H) : LcG (Itc lo c n) g tt te vs σ H Q := by
  intro D hD
  refine ⟨fun i m H => m = n - i ∧ i ≤ n ∧ Pv i D H, ⟨_, rfl, Nat.zero_le _, h0 D hD⟩, ?_⟩
  rintro i m H ⟨rfl, hi, p⟩
  by_cases hlt : i < n
  · refine .inr ⟨hlt, fun H' => Pv (i + 1) D H', fun H' p' => ⟨n - (i + 1), by omega, rfl, hlt, p'⟩, ?_⟩
    rintro x H' ⟨rfl, rfl⟩
    exact hs i D _ hlt p
  · have e : i = n := by omega
    subst e
    exact .inl ⟨Nat.le_refl _, hd D H p⟩
/-- what a comprehension over a reversed range gathers -/
theorem lc_rangeCG {lo c : Int} {n : Nat} (Pa : Nat → List V → Hp → Prop) (hn : ∀ i acc H, Pa i acc H → acc.length ≤ 1000) (mono : ∀ i acc D acc' H1 H2, H1 D = some (.lst acc') → But D H1 H2 → Pa i acc H1 → Pa i acc H2) (h0 : ∀ H', Same H H' → Pa 0 [] H')
    (hs : ∀ i acc H1 (X : VK) (Y : Hp → Prop), i < n → Same H H1 → Pa i acc H1 → (∀ y H4, Same H1 H4 → Pa (i + 1) (acc ++ [y]) H4 → X y H4) → (∀ H3, Same H1 H3 → Pa (i + 1) acc H3 → Y H3) → g (.int (lo + (i : Nat) * c)) (wipe σ vs) H1 fun σ2 H2 => wipe σ2 vs = wipe σ vs ∧ tt σ2 H2 fun b H3 => if b = true then te σ2 H3 X else Y H3)
    (hd : ∀ D acc H1, H D = none → H1 D = some (.lst acc) → Same H H1 → Pa n acc H1 → Q (.ref D) H1) : LcG (Itc lo c n) g tt te vs σ H Q := by
  refine My.lc_rangeC (fun i D H1 => H D = none ∧ ∃ acc, H1 D = some (.lst acc) ∧ Same H H1 ∧ Pa i acc H1) (fun D hD => ⟨hD, [], upd_same, My.Same.new (Same.refl H) hD, h0 _ (My.Same.new (Same.refl H) hD)⟩) ?_ (fun D H1 ⟨hD, acc, h1, s1, p⟩ => hd D acc H1 hD h1 s1 p)
  rintro i D H1 hi ⟨hD, acc, h1, s1, p⟩
  exact hs i acc H1 _ _ hi s1 p (fun y H4 s4 p4 => ⟨acc, s4 _ _ h1, szl (hn _ _ _ p), hD, _, upd_same, My.Same.own (s1.trans s4) hD, mono _ _ _ _ _ _ (s4 _ _ h1) (My.But.put But.rfl) p4⟩) fun H3 s3 p3 => ⟨hD, acc, s3 _ _ h1, s1.trans s3, p3⟩
/-- a comprehension over reversed(range(n)) -/
def RvL (n : Int) (g : TG) (tt : TT) (te : TE) (vs : List Nat) (σ : L2.St) (H : Hp) (Q : VK) : Prop := -(2 ^ 62) ≤ (0 : Int) ∧ (0 : Int) < 2 ^ 62 ∧ -(2 ^ 62) ≤ n ∧ n < 2 ^ 62 ∧ LcG (Itc (0 + (((n - 0).toNat : Nat) : Int) - 1) (-1) (n - 0).toNat) g tt te vs σ H Q
theorem r_lcRV {t0 : TE} (h : t0 σ H fun x H1 => ∃ n : Int, x = .int n ∧ RvL n g tt te vs σ H1 Q) : tLc (iRevR (tRg1 t0)) g tt te vs σ H Q := h
theorem rvl_at {n : Int} {m : Nat} (e : n.toNat = m) (n1 : -(2 ^ 62) ≤ n) (n2 : n < 2 ^ 62) (q : LcG (Itc ((m : Int) - 1) (-1) m) g tt te vs σ H Q) : RvL n g tt te vs σ H Q := by
  refine ⟨by decide, by decide, n1, n2, ?_⟩
  rw [Int.sub_zero, e, Int.zero_add]
  exact q
theorem tyT {a : Addr} {xs : List V} (h : SqT K H a xs) : TyX K H (.ref a) (.type "tuple") := by
  rcases h with (h | ⟨o, h⟩) | ⟨o, its, n, h, c, _⟩
  · exact (Kd.tup h).ty
  · exact .fTuple h
  · exact .kTuple h c
theorem f_slS {a : Addr} {xs : List V} {lo hi : Option Int} (h1 : SqT K H a xs) (k : ∀ p H', SqT K H' p (cutV xs lo hi) → Same H H' → Q (.ref p) H') : rSlA K (.ref a) lo hi H Q := by
  refine ⟨a, xs, rfl, h1, fun e => ?_, fun _ p hp => k p _ (SqT.of upd_same) (My.Same.new (Same.refl H) hp)⟩
  refine k a H ?_ (Same.refl H)
  have : cutV xs lo hi = xs := by
    unfold cutV
    rw [e.1, e.2, List.drop_zero, Nat.sub_zero, List.take_length]
  rw [this]
  exact h1
theorem r_neB {a b : Bool} (q : Q (.bl (!decide (a = b))) H) : rNe (.bl a) (.bl b) H Q := by
  refine ⟨rfl, ?_⟩
  have e : (decide (V.bl a = V.bl b)) = decide (a = b) := by
    rw [decide_eq_decide]
    exact ⟨fun z => V.bl.inj z, fun z => by rw [z]⟩
  simpa [e] using q
end
end My

set_option Elab.async false
set_option linter.all false
set_option maxRecDepth 100000
set_option maxHeartbeats 4000000
/-! LayV: classes, methods, classmethods that may raise, within a try's body; one of two readings of a call -/
namespace My
open PySem PySem.Spec PyProof.Rows L2
section
variable {X : Cx} {CX : CXT} {k j : Nat} {f C : Addr} {x m : Str} {ps : List Str} {dvs : List V} {sp : Sp} {E : L2.St → XK} {o e : Expr} {es : List Expr} {p pos apos : Pos} {t : TA} {ta : TE}
/-- C(e, ..) in a try's body -/
def tMakeS (C : Addr) (sp : Sp) (dvs : List V) (E : L2.St → XK) (t : TA) : TE := fun σ H Q => t σ H fun vs H1 => ∀ x dx, H1 x = none → H1 dx = none → dx ≠ x → sp (.ref x :: (vs ++ dvs)) (upd (upd H1 dx (.own x)) x (.ins C dx [])) (fun v H2 => v = .non ∧ Q (.ref x) H2) (E σ)
theorem run_mkS {pins : List (Addr × Obj)} {σ : L2.St} {H : Hp} {s : Shared} {Q : VK} {us : List Value} {vs : List V} (M : Mg X.K C f) (G : Gf X.prog X.w X.K X.mg X.base CX k f ps dvs sp) (hr : RG j X.A) (hj : k + 1 ≤ j) (hx : PassesAt CX X σ (E σ)) (I : Inv X pins σ H s) (r : Vals vs us)
    (h : ∀ x dx, H x = none → H dx = none → dx ≠ x → sp (.ref x :: (vs ++ dvs)) (upd (upd H dx (.own x)) x (.ins C dx [])) (fun v H2 => v = .non ∧ Q (.ref x) H2) (E σ)) :
    wpAny (model X.prog X.w) X.A (call (.ref C) us) (EP X pins σ Q) X.xe s := by
  have hq := h (s.heap.objs.size + 1) s.heap.objs.size (I.hok.fresh (Nat.le_succ _)) (I.hok.fresh (Nat.le_refl _)) (Nat.ne_of_lt (Nat.lt_succ_self _))
  have I2 := Inv.made (C := C) I
  have r2 : Vals (V.ref (s.heap.objs.size + 1) :: vs) (Value.ref (s.heap.objs.size + 1) :: us) := .cons rfl r
  refine wpAny_call (make_map (f := f) I.kIn M.makes M.init (beq_iff_eq.mp M.fn) (codeAny_mono (G.go (outer := X.stack) (RG.make (hr.mono hj) C us []) (Nat.le_refl _) (I2.env0.make C us []) I2.kIn r2 hq) fun y s' hq' => ?_))
  match y, hq' with
  | .error e, hq' => exact hx pins _ _ e s' I2 hq'
  | .ok (.ret u), hq' =>
    obtain ⟨v, H', I3, rv, ev, q3⟩ := I2.after hq'
    subst ev
    exact ⟨rv, ⟨V.ref (s.heap.objs.size + 1), H', I3, rfl, q3⟩⟩
theorem pe_mkS (M : Mg X.K C f) (G : Gf X.prog X.w X.K X.mg X.base CX k f ps dvs sp) (hm : X.mg x = some (.ref C)) (hr : RG j X.A) (hj : k + 1 ≤ j) (hx : ∀ σ, PassesAt CX X σ (E σ)) (ha : PA X (e :: es) t) (hg : Gl X x := by rfl)
    (hdb : (x == ("__debug__" : Str)) = false := by decide) (he : starEach (e :: es) X.env = (false, eval e X.env) :: starEach es X.env := by rfl) (hpl : (backTo pos (starEach es X.env)).any (·.1) = false := by rfl) :
    PE X (.Call (.Name x p) (e :: es) [] pos) (tMakeS C sp dvs E t) := by
  refine ⟨fun pins s σ H Q I h => ?_⟩
  refine wpAny_Call_Name_kw (ld_glob I hg hm ?_ hdb)
  exact PySem.W.callWith_K (h₀ := X.base) I.ok.mod.kin M.kp (thn (ha.run pos pins s σ H _ I h) fun us s1 ⟨vs, H1, I1, r, q⟩ => ⟨I1.kIn, run_mkS M G hr hj (hx σ) I1 r q⟩) he hpl
/-- o.m(e, ..) in a try's body -/
def tMethS (C : Addr) (m : Str) (sp : Sp) (dvs : List V) (E : L2.St → XK) (ta : TE) (t : TA) : TE := fun σ H Q => ta σ H fun x H1 => ∃ a dx fs, x = .ref a ∧ H1 a = some (.ins C dx fs) ∧ fs.lookup m = none ∧ t σ H1 fun vs H2 => sp (x :: (vs ++ dvs)) H2 Q (E σ)
theorem pe_meS {pl : Sem Bool} (he : PE X o ta) (c : Cls X.K C) (hm : Meth X.K C m f) (G : Gf X.prog X.w X.K X.mg X.base CX k f ps dvs sp) (hr : RG j X.A) (hj : k ≤ j) (hx : ∀ σ, PassesAt CX X σ (E σ)) (ha : PA X (e :: es) t)
    (hst : starEach (e :: es) X.env = (false, eval e X.env) :: starEach es X.env := by rfl) (hpl : (backTo pos (starEach es X.env)).any (·.1) = false := by rfl)
    (ht : eval (.Call (.Attribute o m apos) (e :: es) [] pos) X.env = (do
      let ov ← eval o X.env
      standAt apos.atName
      let (f, first) ← holding [ov] (getMethod ov m pl)
      callWith pos f first (backTo pos (starEach (e :: es) X.env)) (backToKw pos (keywordEach [] X.env))) := by rfl) :
    PE X (.Call (.Attribute o m apos) (e :: es) [] pos) (tMethS C m sp dvs E ta t) := by
  refine ⟨fun pins s σ H Q I h => PySem.W.methodCall_KW (pl := pl) (thn (he.run pins s σ H _ I h) fun u s1 ⟨x, H1, I1, rx, a, dx, fs, ex, ea, l, q⟩ => ?_) ht⟩
  subst ex
  obtain rfl : u = Value.ref a := rx
  refine getmeth_ok I1 ea c hm l ?_
  exact PySem.W.callWith_K (first := [.ref a]) (h₀ := X.base) I1.ok.mod.kin hm.kp (thn (ha.run pos pins s1 σ H1 _ I1 q) fun us s2 ⟨vs, H2, I2, r, q2⟩ => ⟨I2.kIn, run_gS (us := .ref a :: us) (vs := .ref a :: vs) G hr hj (hx σ) I2 (.cons rfl r) q2⟩) hst hpl
theorem pe_me0S {pl : Sem Bool} (he : PE X o ta) (c : Cls X.K C) (hm : Meth X.K C m f) (G : Gf X.prog X.w X.K X.mg X.base CX k f ps dvs sp) (hr : RG j X.A) (hj : k ≤ j) (hx : ∀ σ, PassesAt CX X σ (E σ))
    (ht : eval (.Call (.Attribute o m apos) [] [] pos) X.env = (do
      let ov ← eval o X.env
      standAt apos.atName
      let (f, first) ← holding [ov] (getMethod ov m pl)
      callWith pos f first (backTo pos (starEach [] X.env)) (backToKw pos (keywordEach [] X.env))) := by rfl) :
    PE X (.Call (.Attribute o m apos) [] [] pos) (tMethS C m sp dvs E ta tNil) := by
  refine ⟨fun pins s σ H Q I h => PySem.W.methodCall_KW (pl := pl) (thn (he.run pins s σ H _ I h) fun u s1 ⟨x, H1, I1, rx, a, dx, fs, ex, ea, l, q⟩ => ?_) ht⟩
  subst ex
  obtain rfl : u = Value.ref a := rx
  refine getmeth_ok I1 ea c hm l ?_
  exact PySem.W.callWith_K0 (first := [.ref a]) I1.kIn hm.kp (run_gS (us := [.ref a]) (vs := [.ref a]) G hr hj (hx σ) I1 (.cons rfl .nil) q)
/-- C.m(e, ..), m a classmethod, in a try's body -/
def tCMethS (C : Addr) (sp : Sp) (E : L2.St → XK) (ta : TE) (t : TA) : TE := fun σ H Q => ta σ H fun x H1 => x = .ref C ∧ t σ H1 fun vs H2 => sp (.ref C :: vs) H2 Q (E σ)
theorem pe_cmS {q : Addr} {mc : Value} {pl : Sem Bool} (he : PE X o ta) (r : ClX.CRead X.K C mc) (c : ClX.CMet X.K C mc m q f) (G : Gf X.prog X.w X.K X.mg X.base CX k f ps dvs sp) (hr : RG j X.A) (hj : k ≤ j) (hx : ∀ σ, PassesAt CX X σ (E σ)) (ha : PA X (e :: es) t)
    (hst : starEach (e :: es) X.env = (false, eval e X.env) :: starEach es X.env := by rfl) (hpl : (backTo pos (starEach es X.env)).any (·.1) = false := by rfl)
    (ht : eval (.Call (.Attribute o m apos) (e :: es) [] pos) X.env = (do
      let ov ← eval o X.env
      standAt apos.atName
      let (f, first) ← holding [ov] (getMethod ov m pl)
      callWith pos f first (backTo pos (starEach (e :: es) X.env)) (backToKw pos (keywordEach [] X.env))) := by rfl) :
    PE X (.Call (.Attribute o m apos) (e :: es) [] pos) (tCMethS C (fun vs => sp (vs ++ dvs)) E ta t) := by
  refine ⟨fun pins s σ H Q I h => PySem.W.methodCall_KW (pl := pl) (thn (he.run pins s σ H _ I h) fun u s1 ⟨x, H1, I1, rx, ex, h1⟩ => ?_) ht⟩
  subst ex
  obtain rfl : u = Value.ref C := rx
  refine ClX.getmethcm_ok I1 r c fun s2 I2 => ?_
  refine ClX.callwith_cm I2 (ClX.base_none I1 (Nat.le_refl _)) c.fi (thn (ha.run pos _ s2 σ H1 _ I2 h1) fun us s3 ⟨vs, H2, I3, rv, q2⟩ => ⟨⟨ClX.pin_at I3, I3.kIn⟩, ?_⟩) hst hpl
  have z : wpAny (model X.prog X.w) X.A (call (.ref s1.heap.objs.size) us) (EP X ((s1.heap.objs.size, PySem.W.methodObj (.ref f) (.ref C)) :: pins) σ Q) X.xe s3 := by
    refine wpAny_call (PySem.W.method_call (ClX.pin_at I3) (codeAny_mono (G.go (outer := X.stack) (us := .ref C :: us) (vs := .ref C :: vs) hr hj I3.env0 I3.kIn (.cons rfl rv) q2) fun y s' hq => ?_))
    match y, hq with
    | .error er, hq => exact hx σ _ H2 s3 er s' I3 hq
    | .ok (.ret u), hq => exact I3.after hq
  exact thn z fun _ _ y => ClX.unpinE y
/-- one of two readings of a call -/
theorem call_or {g : Value} {r1 r2 : List V → Hp → VK → Prop} (h1 : CallR X g r1) (h2 : CallR X g r2) : CallR X g (fun xs H Q => r1 xs H Q ∨ r2 xs H Q) := fun pins s σ H xs us Q I r h => h.elim (h1 pins s σ H xs us Q I r) (h2 pins s σ H xs us Q I r)
end
section
variable {σ : L2.St} {H : Hp} {ta : TE} {Q : VK} {tA : TA} {C : Addr} {sp : Sp} {dvs : List V} {E : L2.St → XK}
theorem r_makeS (h : tA σ H fun vs H1 => ∀ x dx, H1 x = none → H1 dx = none → dx ≠ x → sp (.ref x :: (vs ++ dvs)) (upd (upd H1 dx (.own x)) x (.ins C dx [])) (fun v H2 => v = .non ∧ Q (.ref x) H2) (E σ)) : tMakeS C sp dvs E tA σ H Q := h
theorem r_cmS (h : ta σ H fun x H1 => x = .ref C ∧ tA σ H1 fun vs H2 => sp (.ref C :: vs) H2 Q (E σ)) : tCMethS C sp E ta tA σ H Q := h
theorem r_methS {m : Str} (h : ta σ H fun x H1 => ∃ a dx fs, x = .ref a ∧ H1 a = some (.ins C dx fs) ∧ fs.lookup m = none ∧ tA σ H1 fun vs H2 => sp (x :: (vs ++ dvs)) H2 Q (E σ)) : tMethS C m sp dvs E ta tA σ H Q := h
end
end My

set_option Elab.async false
set_option linter.all false
set_option maxRecDepth 100000
set_option maxHeartbeats 4000000
/-! LayW: chains of three comparisons; comprehensions over the signs of a text -/
namespace My
open PySem PySem.Spec PyProof.Rows L2 SX
section
variable {X : Cx} {a b c d : Expr} {ta tb tc td : TE} {pos : Pos}
/-- a op1 b op2 c op3 d -/
def tChain3 (r r' r'' : R2) (ta tb tc td : TE) : TE := fun σ H Q => ta σ H fun x H1 => tb σ H1 fun y H2 => r x y H2 fun z H3 => ∃ k, z = .bl k ∧
  (if k = true then tc σ H3 fun w' H4 => r' y w' H4 fun z2 H5 => ∃ k2, z2 = .bl k2 ∧ (if k2 = true then td σ H5 fun w2 H6 => r'' w' w2 H6 Q else Q (.bl false) H5) else Q (.bl false) H3)
theorem pe_chain3 {op op' op'' : CmpOp} {r r' r'' : R2} (ho : OpR X (compareOp op) r) (ho' : OpR X (compareOp op') r') (ho'' : OpR X (compareOp op'') r'') (ha : PE X a ta) (hb : PE X b tb) (hc : PE X c tc) (hd : PE X d td)
    (hm : lastMarks [op, op', op''] [b, c, d] = false := by with_unfolding_all rfl) : PE X (.Compare a [op, op', op''] [b, c, d] pos) (tChain3 r r' r'' ta tb tc td) := by
  refine ⟨fun pins s σ H Q I h => ?_⟩
  refine Compare_chain (thn (ha.run pins s σ H _ I h) fun v s1 ⟨x, H1, I1, r1, q1⟩ => chain_link (thn (hb.run pins s1 σ H1 _ I1 q1) fun u s2 ⟨y, H2, I2, r2, q2⟩ =>
    thn (ho pins s2 σ H2 x y v u _ I2 r1 r2 q2) fun d1 s3 ⟨z, H3, I3, r3, k, e, q3⟩ => ?_)) hm
  subst e
  cases r3
  refine wpAny_truthy_bool ?_
  cases k with
  | false => exact ite_ff ⟨.bl false, H3, I3, rfl, q3⟩
  | true =>
    refine ite_tt (chain_link (thn (hc.run pins s3 σ H3 _ I3 q3) fun w' s4 ⟨z', H4, I4, r4, q4⟩ => thn (ho' pins s4 σ H4 y z' u w' _ I4 r2 r4 q4) fun d2 s5 ⟨z2, H5, I5, r5, k2, e2, q5⟩ => ?_))
    subst e2
    cases r5
    refine wpAny_truthy_bool ?_
    cases k2 with
    | false => exact ite_ff ⟨.bl false, H5, I5, rfl, q5⟩
    | true => exact ite_tt (chain_last (thn (hd.run pins s5 σ H5 _ I5 q5) fun w2 s6 ⟨z3, H6, I6, r6, q6⟩ => ho'' pins s6 σ H6 z' z3 w' w2 Q I6 r4 r6 q6))
end
section
variable {σ : L2.St} {H : Hp} {ta tb tc td : TE} {Q : VK}
theorem r_chain3 {r r' r'' : R2} (h : ta σ H fun x H1 => tb σ H1 fun y H2 => r x y H2 fun z H3 => ∃ k, z = .bl k ∧
  (if k = true then tc σ H3 fun w' H4 => r' y w' H4 fun z2 H5 => ∃ k2, z2 = .bl k2 ∧ (if k2 = true then td σ H5 fun w2 H6 => r'' w' w2 H6 Q else Q (.bl false) H5) else Q (.bl false) H3)) : tChain3 r r' r'' ta tb tc td σ H Q := h
end
section
variable {K : PySem.W.Frag} {σ : L2.St} {H : Hp} {te t0 : TE} {Q : VK} {g : TG} {tt : TT} {vs : List Nat}
theorem r_lcS (h : t0 σ H fun v H1 => ∃ x, v = .str x ∧ LcG (Its x) g tt te vs σ H1 Q) : tLc (iStr t0) g tt te vs σ H Q := h
theorem lc_str {l : List Nat} (Pv : Nat → Addr → Hp → Prop) (h0 : ∀ D, H D = none → Pv 0 D (upd H D (.lst [])))
    (hs : ∀ i c D H, l[i]? = some c → Pv i D H → g (.str (S [c])) (wipe σ vs) H fun σ2 H2 => wipe σ2 vs = wipe σ vs ∧ tt σ2 H2 fun b H3 => if b = true then te σ2 H3 fun y H4 => ∃ acc, H4 D = some (.lst acc) ∧ acc.length < sizeLine ∧ Pv (i + 1) D (upd H4 D (.lst (acc ++ [y]))) else Pv (i + 1) D H3)
    (hd : ∀ D H, Pv l.length D H → Q (.ref D) H) : LcG (Its (S l)) g tt te vs σ H Q := by
  intro D hD
  have sz : (S l).cps.size = l.length := rfl
  refine ⟨fun i m H => m = l.length - i ∧ i ≤ l.length ∧ Pv i D H, ⟨_, rfl, Nat.zero_le _, h0 D hD⟩, ?_⟩
  rintro i m H ⟨rfl, hi, p⟩
  by_cases hlt : i < l.length
  · refine .inr ⟨show i < (S l).cps.size by rw [sz]; exact hlt, fun H' => Pv (i + 1) D H', fun H' p' => ⟨l.length - (i + 1), by omega, rfl, hlt, p'⟩, ?_⟩
    rintro x H' ⟨rfl, c, hc, rfl⟩
    exact hs i c D _ (by rw [← hc]; show l[i]? = l.toArray[i]?; simp) p
  · have e : i = l.length := by omega
    subst e
    exact .inl ⟨show (S l).cps.size ≤ l.length from Nat.le_of_eq sz, hd D H p⟩
/-- over the signs of a text -/
theorem lc_strG {l : List Nat} (Pa : Nat → List V → Hp → Prop) (hn : ∀ i acc H, Pa i acc H → acc.length ≤ 1000) (mono : ∀ i acc D acc' H1 H2, H1 D = some (.lst acc') → But D H1 H2 → Pa i acc H1 → Pa i acc H2) (h0 : ∀ H', Same H H' → Pa 0 [] H')
    (hs : ∀ i c acc H1 (X : VK) (Y : Hp → Prop), l[i]? = some c → Same H H1 → Pa i acc H1 → (∀ y H4, Same H1 H4 → Pa (i + 1) (acc ++ [y]) H4 → X y H4) → (∀ H3, Same H1 H3 → Pa (i + 1) acc H3 → Y H3) → g (.str (S [c])) (wipe σ vs) H1 fun σ2 H2 => wipe σ2 vs = wipe σ vs ∧ tt σ2 H2 fun b H3 => if b = true then te σ2 H3 X else Y H3)
    (hd : ∀ D acc H1, H D = none → H1 D = some (.lst acc) → Same H H1 → Pa l.length acc H1 → Q (.ref D) H1) : LcG (Its (S l)) g tt te vs σ H Q := by
  refine lc_str (fun i D H1 => H D = none ∧ ∃ acc, H1 D = some (.lst acc) ∧ Same H H1 ∧ Pa i acc H1) (fun D hD => ⟨hD, [], upd_same, My.Same.new (Same.refl H) hD, h0 _ (My.Same.new (Same.refl H) hD)⟩) ?_ (fun D H1 ⟨hD, acc, h1, s1, p⟩ => hd D acc H1 hD h1 s1 p)
  rintro i c D H1 hi ⟨hD, acc, h1, s1, p⟩
  exact hs i c acc H1 _ _ hi s1 p (fun y H4 s4 p4 => ⟨acc, s4 _ _ h1, szl (hn _ _ _ p), hD, _, upd_same, My.Same.own (s1.trans s4) hD, mono _ _ _ _ _ _ (s4 _ _ h1) (My.But.put But.rfl) p4⟩) fun H3 s3 p3 => ⟨hD, acc, s3 _ _ h1, s1.trans s3, p3⟩
end
/-! repr, also where an error is handled -/
section
variable {X : Cx} {pins : List (Addr × Obj)} {σ : L2.St} {H : Hp} {s : Shared}
theorem call_reprTg (hg : X.A.guards = some []) (hu : X.A.units + 64 < cLine) : CallR X (.builtin "repr") (rReprT X.K) := by
  intro pins s σ H xs us Q I r h
  obtain ⟨x, d, rfl, hd, h1, h3, h4, q⟩ := h
  obtain ⟨u, rfl, rx⟩ := vals1 r
  have fin : ∀ {a : Addr} {as : List Addr}, u = .ref a → Reads s.heap (.ref a) d as → (d.hasDict = true → sysModules ∉ as) → wpAny (model X.prog X.w) X.A (call (.builtin "repr") [u]) (EP X pins σ Q) X.xe s := fun {a as} e R hs => by
    subst e
    refine repr_of_reads' R h1 hs hg (by omega) (fun _ _ z => z) (fun h' u tk hk => ?_) h4
    exact ⟨.str d.shown, H, I.kept (t' := tk) hk, ⟨u, rfl⟩, q⟩
  cases hd with
  | pl hd hn =>
    cases hd with
    | non =>
      obtain rfl : u = Value.none := rx
      exact PySem.P.repr_of_none ⟨.str _, H, I.tok _, ⟨_, rfl⟩, q⟩
    | bl b =>
      obtain rfl : u = Value.bool b := rx
      exact PySem.P.repr_of_bool ⟨.str _, H, I.tok _, ⟨_, rfl⟩, q⟩
    | int i =>
      obtain ⟨t, rfl⟩ := (show ∃ t, u = Value.int i t from rx)
      exact PySem.P.repr_of_int (of_decide_eq_true h1) ⟨.str _, H, I.tok _, ⟨_, rfl⟩, q⟩
    | str y =>
      obtain ⟨t, rfl⟩ := (show ∃ t, u = Value.str y t from rx)
      exact PySem.P.repr_of_str ⟨.str _, H, I.tok _, ⟨_, rfl⟩, q⟩ h4
    | lst hs ha =>
      obtain ⟨as, R⟩ := Dp.reads I _ _ _ (.lst hs ha) rx
      exact fin rx (by cases (show u = Value.ref _ from rx); exact R) (PyData.noDict_hsm hn)
    | tup hs ha =>
      obtain ⟨as, R⟩ := Dp.reads I _ _ _ (.tup hs ha) rx
      exact fin rx (by cases (show u = Value.ref _ from rx); exact R) (PyData.noDict_hsm hn)
  | dct hs =>
    obtain ⟨R, n⟩ := dict_reads I hs
    exact fin rx R fun _ m => n (List.mem_singleton.mp m).symm
end
section
variable {X : Cx} {k : Nat} {f a C : Addr} {oe : Obj} {fd : FuncData} {ps : List Str} {sp : SpQ} {pn : List (Addr × Obj)}
/-- repr of an own object, where an error is handled -/
theorem call_reprOwnQ (F : FnQ X.prog X.w X.K X.mg X.base k f fd ps sp) (hb : Binds X.K fd ps []) (hs : PySem.W.findIn X.K (.ref C) "__repr__" = some (some (.ref f))) (hf : PySem.W.isFn X.K (.ref f) = true) (hr : L2H.RoomH (k + 1) (X.suite a ((a, oe) :: pn)).A) :
    CallR (X.suite a ((a, oe) :: pn)) (.builtin "repr") (rStrOwn C (sp (a, oe))) := by
  intro pins s σ H xs us Q I r h
  obtain ⟨x, dx, fs, rfl, ea, h1⟩ := h
  obtain ⟨u, rfl, rx⟩ := vals1 r
  obtain rfl : u = Value.ref x := rx
  obtain ⟨mA, O, _⟩ := ins_get I.hok ea
  obtain ⟨od, J, _⟩ := O.look
  obtain ⟨m, hF⟩ := I.fr
  have hr1 : L2H.RoomH k (X.suite a ((a, oe) :: pn)).A.in1 := ⟨by have := hr.dp; show X.A.depth + 3 * k + 5 < _; have e : (X.suite a ((a, oe) :: pn)).A.depth = X.A.depth := rfl; omega, by have := hr.un; show X.A.units + 1 + 16 * k + 200 < _; have e : (X.suite a ((a, oe) :: pn)).A.units = X.A.units := rfl; omega⟩
  refine PySem.W.repr_K (by have := hr1.un; omega) hF I.ok.mod.kin J hs hf ?_
  have P1 := I.pin (a, oe) (List.mem_append_left _ List.mem_cons_self)
  have pin : L2H.PinOk X.stack H s (a, oe) := ⟨P1.1, P1.2.1, fun hm => (List.mem_cons.mp (I.stkSub a hm)).elim P1.2.2.1 P1.2.2.2.1, P1.2.2.2.2⟩
  have l : [Value.ref x].length = ps.length := F.len _ _ _ _ _ h1
  have b := hb s [Value.ref x] I.kIn (by rw [List.append_nil]; exact l)
  rw [List.append_nil] at b
  have e0 : Env0 X.prog X.w X.K X.mg X.base (X.suite a ((a, oe) :: pn)).A.in1 X.stack s H := ⟨I.ok.frames, I.env0.mod, I.env0.bs, I.env0.bsz, I.env0.funs, I.env0.frf, I.env0.hok, I.env0.bare⟩
  refine wpAny_call (codeAny_mono (F.run _ _ s H ⟨[.ref x], []⟩ [.ref x] [.ref x] _ (a, oe) hr1 pin e0 b (.cons rfl .nil) h1) fun y s' hq => ?_)
  match y, hq with
  | .error er, hq => exact hq.elim
  | .ok (.ret u), hq =>
    obtain ⟨v, H', I3, rv, q3⟩ := I.after hq
    obtain ⟨y, rfl, q⟩ := q3
    obtain ⟨t, rfl⟩ := rv
    exact ⟨.str y, H', I3, ⟨t, rfl⟩, q⟩
end
section
variable {σ : L2.St} {H : Hp} {nx bk ct : L2.St → Hp → Prop} {rt : VK} {tA : TA}
theorem r_par3 {i j l : Nat} (h : tA σ H fun vs H1 => ∃ u v w, vs = [u, v, w] ∧ nx (((σ.set i (some u)).set j (some v)).set l (some w)) H1) : tPar3 i j l tA ⟨nx, rt, bk, ct⟩ σ H := h
theorem r_three {u v w : V} {F : V → V → V → Prop} (h : F u v w) : ∃ a b c, ([u, v, w] : List V) = [a, b, c] ∧ F a b c := ⟨u, v, w, rfl, h⟩
end
end My

set_option Elab.async false
set_option linter.all false
set_option maxRecDepth 100000
set_option maxHeartbeats 4000000
/-! LayX: defs with a star parameter, where no repr is under way -/
namespace My
open PySem PySem.Spec PyProof.Rows L2
/-- the def at f keeps its promise at any arguments by position -/
structure Gs (P : Program) (w : World) (K : PySem.W.Frag) (mg : Str → Option Value) (base : Heap) (CX : CXT) (k : Nat) (f : Addr) (sp : Sp) : Prop where
  run : ∀ (A : Around) (outer : List Env) (s : Shared) (H : Hp) (us : List Value) (vs : List V) (Q : VK) (E : XK), RG k A → Env0 P w K mg base A outer s H → K.In s.heap → Vals vs us → sp vs H Q E →
    codeAny (model P w) A (.call (.ref f) ⟨us, []⟩) (CR CX outer P w H s Q E) s
  kp : PySem.W.keepIn K (.ref f) = true
section
variable {CX : CXT} {P : Program} {w : World} {K : PySem.W.Frag} {mg : Str → Option Value} {base : Heap} {k : Nat} {f : Addr} {x qual : Str} {params : Arguments} {body : List Stmt} {scope : Scope} {kws : List (Str × V)} {fd : FuncData} {N ps : List Str} {dvs : List V} {sp : Sp}
theorem Gf.toS (G : Gf P w K mg base CX k f ps dvs sp) : Gs P w K mg base CX k f (fun vs => sp (vs ++ dvs)) := ⟨fun A outer s H us vs Q E hr e0 KX r h => G.go hr (Nat.le_refl _) e0 KX r h, G.kp⟩
/-- what a def f(a, .., *v) asks of a call -/
def StarSp (n : Nat) (sp : Sp) : Sp := fun vs H Q E => ∃ ws rest, vs = ws ++ rest ∧ ws.length = n ∧ rest.length ≤ sizeLine ∧ ∀ p H', H p = none → H' p = some (.tup rest) → Same H H' → sp (ws ++ [V.ref p]) H' Q E
theorem gs_star {pv : Str} (F : FunD K x qual params body scope [] kws f fd) (S : FnScope N (ps ++ [pv]) scope) (hCX : StX.CXUp CX)
    (hb : ∀ (kV doc pm : Value) (an : Option Addr) (cdv ct : Value) (us rest : List Value), us.length = ps.length → bindArgs (PySem.W.fnOf x qual params body scope .none kV doc pm an cdv ct) ⟨us ++ rest, []⟩ = (newTuple rest >>= fun t => pure (ps.zip us ++ [(pv, t)])))
    (hbody : ∀ (cdv : Value) (A : Around) (outer : List Env) (s : Shared) (H : Hp) (vs : List V) (Q : VK) (E : XK), RG k (A.deeper (envOfC qual scope s.heap.objs.size f cdv)) → sp vs H Q E →
      ∃ t, PSs (cxOf CX P w K mg base N qual scope f cdv A outer s H E) body t ∧ t { nx := fun _ H' => Q .non H', rt := Q } (start N vs) H) :
    Gs P w K mg base CX (k + 1) f (StarSp ps.length sp) := by
  refine ⟨fun A outer s H us vs Q E hr e0 KX r hsp => ?_, F.kp⟩
  obtain ⟨ws, rest, ev, hl, hz, hq⟩ := hsp
  subst ev
  obtain ⟨oc, od, dV, kV, doc, pm, an, cdv, ct, osl, rfl, lk, hcd, hD, _⟩ := F.ex
  obtain rfl : dV = .none := by
    rcases hD with ⟨_, e⟩ | ⟨e, _⟩
    · exact e
    · exact absurd rfl e
  obtain ⟨u1, u2, eu, r1, r2⟩ := StX.vals_split r
  subst eu
  have hn : H s.heap.objs.size = Option.none := e0.hok.fresh (Nat.le_refl _)
  have hl1 : u1.length = ps.length := by rw [← r1.length]; exact hl
  have hl2 : u2.length ≤ sizeLine := by rw [← r2.length]; exact hz
  refine StX.run_bnd lk hcd S hr.r e0 (G := fun xs H2 => ∃ p, H p = Option.none ∧ xs = ws ++ [V.ref p] ∧ H2 = upd H p (.tup rest)) (fun A' Ex Q' h => ?_) fun s2 H2 xs ⟨p, hp, ex, eH⟩ hr' => ?_
  · rw [hb kV doc pm an cdv ct u1 u2 hl1]
    refine wpAny_bind (wpAny_newTuple (wpAny_pure ?_) hl2)
    have new : ObjOk P w (upd H s.heap.objs.size (.tup rest)) (s.heap.push ({ cls := .type "tuple", data := .seq u2.toArray } : Obj)) s.heap.objs.size (.tup rest) := ⟨hz, u2, r2, ⟨_, Heap.get?_push_size _ rfl, rfl, _, rfl⟩⟩
    have un := StX.un_laid (fs := frs outer) (s := s) (o := ({ cls := .type "tuple", data := .seq u2.toArray } : Obj)) (u := .tup rest) hn
    have z := h _ _ (ws ++ [V.ref s.heap.objs.size]) (u1 ++ [Value.ref s.heap.objs.size]) (StX.env0_laid e0 new) un rfl (fun e s' => hCX outer s H _ _ E e s' un (fun b o q => Heap.get?_push_of_some _ q) rfl) (r1.append (.cons rfl .nil))
      (by rw [List.length_append, List.length_append, hl] <;> rfl) ⟨_, hn, rfl, rfl⟩
    rw [List.zip_append hl1.symm] at z
    exact z
  · subst ex eH
    exact hbody cdv A outer s2 _ _ Q E ⟨hr', hr.g⟩ (hq p _ hp upd_same (My.Same.new (Same.refl H) hp))
end
section
variable {X : Cx} {CX : CXT} {k j : Nat} {f C : Addr} {x : Str} {sp : Sp} {E : XK} {e : Expr} {es : List Expr} {p pos sp_ : Pos} {t : TA} {te : TE}
theorem run_gs {pins : List (Addr × Obj)} {σ : L2.St} {H : Hp} {s : Shared} {Q : VK} {us : List Value} {vs : List V} (G : Gs X.prog X.w X.K X.mg X.base CX k f sp) (hr : RG j X.A) (hj : k ≤ j) (hx : Passes CX X E)
    (I : Inv X pins σ H s) (r : Vals vs us) (h : sp vs H Q E) : wpAny (model X.prog X.w) X.A (call (.ref f) us) (EP X pins σ Q) X.xe s := by
  refine wpAny_call (codeAny_mono (G.run X.A X.stack s H us vs Q E (hr.mono hj) I.env0 I.kIn r h) fun y s' hq => ?_)
  match y, hq with
  | .error e, hq => exact hx pins σ H s e s' I hq
  | .ok (.ret u), hq => exact I.after hq
theorem run_mks {pins : List (Addr × Obj)} {σ : L2.St} {H : Hp} {s : Shared} {Q : VK} {us : List Value} {vs : List V} (M : Mg X.K C f) (G : Gs X.prog X.w X.K X.mg X.base CX k f sp) (hr : RG j X.A) (hj : k + 1 ≤ j) (hx : Passes CX X E) (I : Inv X pins σ H s) (r : Vals vs us)
    (h : ∀ x dx, H x = none → H dx = none → dx ≠ x → sp (.ref x :: vs) (upd (upd H dx (.own x)) x (.ins C dx [])) (fun v H2 => v = .non ∧ Q (.ref x) H2) E) :
    wpAny (model X.prog X.w) X.A (call (.ref C) us) (EP X pins σ Q) X.xe s := by
  have hq := h (s.heap.objs.size + 1) s.heap.objs.size (I.hok.fresh (Nat.le_succ _)) (I.hok.fresh (Nat.le_refl _)) (Nat.ne_of_lt (Nat.lt_succ_self _))
  have I2 := Inv.made (C := C) I
  have r2 : Vals (V.ref (s.heap.objs.size + 1) :: vs) (Value.ref (s.heap.objs.size + 1) :: us) := .cons rfl r
  refine wpAny_call (make_map (f := f) I.kIn M.makes M.init (beq_iff_eq.mp M.fn) (codeAny_mono (G.run _ X.stack _ _ _ _ _ E (RG.make (hr.mono hj) C us []) (I2.env0.make C us []) I2.kIn r2 hq) fun y s' hq' => ?_))
  match y, hq' with
  | .error e, hq' => exact hx pins _ _ _ e s' I2 hq'
  | .ok (.ret u), hq' =>
    obtain ⟨v, H', I3, rv, ev, q3⟩ := I2.after hq'
    subst ev
    exact ⟨rv, ⟨V.ref (s.heap.objs.size + 1), H', I3, rfl, q3⟩⟩
/-- C(e, ..), __init__ with a star parameter -/
def tMakeV (C : Addr) (sp : Sp) (E : XK) (t : TA) : TE := fun σ H Q => t σ H fun vs H1 => ∀ x dx, H1 x = none → H1 dx = none → dx ≠ x → sp (.ref x :: vs) (upd (upd H1 dx (.own x)) x (.ins C dx [])) (fun v H2 => v = .non ∧ Q (.ref x) H2) E
theorem pe_mks (M : Mg X.K C f) (G : Gs X.prog X.w X.K X.mg X.base CX k f sp) (hm : X.mg x = some (.ref C)) (hr : RG j X.A) (hj : k + 1 ≤ j) (hx : Passes CX X E) (ha : PA X (e :: es) t) (hg : Gl X x := by rfl)
    (hdb : (x == ("__debug__" : Str)) = false := by decide) (he : starEach (e :: es) X.env = (false, eval e X.env) :: starEach es X.env := by rfl) (hpl : (backTo pos (starEach es X.env)).any (·.1) = false := by rfl) :
    PE X (.Call (.Name x p) (e :: es) [] pos) (tMakeV C sp E t) := by
  refine ⟨fun pins s σ H Q I h => ?_⟩
  refine wpAny_Call_Name_kw (ld_glob I hg hm ?_ hdb)
  exact PySem.W.callWith_K (h₀ := X.base) I.ok.mod.kin M.kp (thn (ha.run pos pins s σ H _ I h) fun us s1 ⟨vs, H1, I1, r, q⟩ => ⟨I1.kIn, run_mks M G hr hj hx I1 r q⟩) he hpl
/-- C(*y), y a tuple or list -/
def tMakeY (K : PySem.W.Frag) (C : Addr) (sp : Sp) (E : XK) (te : TE) : TE := fun σ H Q => te σ H fun y H1 => ∃ a xs, y = V.ref a ∧ (SqT K H1 a xs ∨ SqL K H1 a xs) ∧ ∀ x dx, H1 x = none → H1 dx = none → dx ≠ x → sp (.ref x :: xs) (upd (upd H1 dx (.own x)) x (.ins C dx [])) (fun v H2 => v = .non ∧ Q (.ref x) H2) E
theorem pe_mkY (M : Mg X.K C f) (G : Gs X.prog X.w X.K X.mg X.base CX k f sp) (hm : X.mg x = some (.ref C)) (hr : RG j X.A) (hj : k + 1 ≤ j) (hx : Passes CX X E) (he : PE X e te) (hg : Gl X x := by rfl) (hdb : (x == ("__debug__" : Str)) = false := by decide)
    (hst : starEach [.Starred e sp_] X.env = [(true, eval e X.env)] := by rfl) : PE X (.Call (.Name x p) [.Starred e sp_] [] pos) (tMakeY X.K C sp E te) := by
  refine ⟨fun pins s σ H Q I h => ?_⟩
  refine wpAny_Call_Name_kw (ld_glob I hg hm ?_ hdb)
  refine PySem.W.callWith_S (h₀ := X.base) I.ok.mod.kin M.kp (thn (he.run pins s σ H _ I h) fun v s1 ⟨y, H1, I1, ry, a, xs, ey, hxs, q⟩ => ?_) hst
  subst ey
  obtain rfl : v = Value.ref a := ry
  exact StX.star_any I1 hxs fun us s2 I2 rv => ⟨I2.kIn, run_mks M G hr hj hx I2 rv q⟩
/-- C() -/
def tMake0 (C : Addr) (sp : Sp) (E : XK) : TE := fun _ H Q => ∀ x dx, H x = none → H dx = none → dx ≠ x → sp [.ref x] (upd (upd H dx (.own x)) x (.ins C dx [])) (fun v H2 => v = .non ∧ Q (.ref x) H2) E
theorem pe_mks0 (M : Mg X.K C f) (G : Gs X.prog X.w X.K X.mg X.base CX k f sp) (hm : X.mg x = some (.ref C)) (hr : RG j X.A) (hj : k + 1 ≤ j) (hx : Passes CX X E) (hg : Gl X x := by rfl)
    (hdb : (x == ("__debug__" : Str)) = false := by decide) : PE X (.Call (.Name x p) [] [] pos) (tMake0 C sp E) := by
  refine ⟨fun pins s σ H Q I h => ?_⟩
  refine wpAny_Call_Name_kw (ld_glob I hg hm ?_ hdb)
  exact PySem.W.callWith_K0 I.kIn M.kp (run_mks M G hr hj hx I .nil h)
end
section
variable {K : PySem.W.Frag} {σ : L2.St} {H : Hp} {te : TE} {tA : TA} {Q : VK} {C : Addr} {sp : Sp} {E : XK}
theorem r_makeV (h : tA σ H fun vs H1 => ∀ x dx, H1 x = none → H1 dx = none → dx ≠ x → sp (.ref x :: vs) (upd (upd H1 dx (.own x)) x (.ins C dx [])) (fun v H2 => v = .non ∧ Q (.ref x) H2) E) : tMakeV C sp E tA σ H Q := h
theorem r_makeY (h : te σ H fun y H1 => ∃ a xs, y = V.ref a ∧ (SqT K H1 a xs ∨ SqL K H1 a xs) ∧ ∀ x dx, H1 x = none → H1 dx = none → dx ≠ x → sp (.ref x :: xs) (upd (upd H1 dx (.own x)) x (.ins C dx [])) (fun v H2 => v = .non ∧ Q (.ref x) H2) E) : tMakeY K C sp E te σ H Q := h
theorem r_make0 (h : ∀ x dx, H x = none → H dx = none → dx ≠ x → sp [.ref x] (upd (upd H dx (.own x)) x (.ins C dx [])) (fun v H2 => v = .non ∧ Q (.ref x) H2) E) : tMake0 C sp E σ H Q := h
end
end My

set_option Elab.async false
set_option linter.all false
set_option maxRecDepth 100000
set_option maxHeartbeats 4000000
/-! DatA: data as trees over an abstract heap: what a value stands for, worlds, states, readings -/
namespace Dt
open PySem PySem.Spec PyProof.Rows L2 My

/-- a value as a tree; ptr: an object of the store, by its number; lsk: the script, a list of the heap or of the frame's facts -/
inductive D where
  | non | bl (b : Bool) | int (i : Int) | str (x : Str) | ty (n : String)
  | tup (xs : List D) | lst (xs : List D) | lsk (xs : List D) | dct (kvs : List (Key × D)) | ins (C : Str) (fs : List (Str × D))
  | cls (C : Str) | fn (f : Str) | ptr (n : Nat)

/-- the part of the heap that never changes, and where the store's objects stand -/
structure Wd where
  F : Hp
  m : Nat → Addr
  n : Nat

mutual
inductive Rep (K : PySem.W.Frag) (W : Wd) : D → V → Prop
  | non : Rep K W .non .non
  | bl (b : Bool) : Rep K W (.bl b) (.bl b)
  | int (i : Int) : Rep K W (.int i) (.int i)
  | str (x : Str) : Rep K W (.str x) (.str x)
  | ty (n : String) : Rep K W (.ty n) (.ty n)
  | tup {xs : List D} {vs : List V} {a : Addr} (h : SqT K W.F a vs) (r : Reps K W xs vs) : Rep K W (.tup xs) (.ref a)
  | lst {xs : List D} {vs : List V} {a : Addr} (h : Rd W.F a (.lst vs)) (r : Reps K W xs vs) : Rep K W (.lst xs) (.ref a)
  | lsk {xs : List D} {vs : List V} {a : Addr} (h : SqL K W.F a vs) (r : Reps K W xs vs) : Rep K W (.lsk xs) (.ref a)
  | dct {xs : List (Key × D)} {vs : List (Key × V)} {a : Addr} (h : W.F a = some (.dK vs)) (r : RepK K W xs vs) : Rep K W (.dct xs) (.ref a)
  | ins {C : Str} {fs : List (Str × D)} {vs : List (Str × V)} {a dx : Addr} (h : W.F a = some (.ins (He.ga K C) dx vs)) (r : RepF K W fs vs) : Rep K W (.ins C fs) (.ref a)
  | cls (C : Str) : Rep K W (.cls C) (.ref (He.ga K C))
  | fn (f : Str) : Rep K W (.fn f) (.ref (He.ga K f))
  | ptr {i : Nat} (h : i < W.n) : Rep K W (.ptr i) (.ref (W.m i))
inductive Reps (K : PySem.W.Frag) (W : Wd) : List D → List V → Prop
  | nil : Reps K W [] []
  | cons {d : D} {v : V} {ds : List D} {vs : List V} (h : Rep K W d v) (t : Reps K W ds vs) : Reps K W (d :: ds) (v :: vs)
inductive RepK (K : PySem.W.Frag) (W : Wd) : List (Key × D) → List (Key × V) → Prop
  | nil : RepK K W [] []
  | cons {k : Key} {d : D} {v : V} {ds : List (Key × D)} {vs : List (Key × V)} (h : Rep K W d v) (t : RepK K W ds vs) : RepK K W ((k, d) :: ds) ((k, v) :: vs)
inductive RepF (K : PySem.W.Frag) (W : Wd) : List (Str × D) → List (Str × V) → Prop
  | nil : RepF K W [] []
  | cons {k : Str} {d : D} {v : V} {ds : List (Str × D)} {vs : List (Str × V)} (h : Rep K W d v) (t : RepF K W ds vs) : RepF K W ((k, d) :: ds) ((k, v) :: vs)
end

/-- a later world -/
structure Wd.Le (W W' : Wd) : Prop where
  f : ∀ a o, W.F a = some o → W'.F a = some o
  n : W.n ≤ W'.n
  m : ∀ i, i < W.n → W'.m i = W.m i
theorem Wd.Le.refl {W : Wd} : W.Le W := ⟨fun _ _ h => h, Nat.le_refl _, fun _ _ => rfl⟩
theorem Wd.Le.trans {W W1 W2 : Wd} (a : W.Le W1) (b : W1.Le W2) : W.Le W2 := ⟨fun x o h => b.f x o (a.f x o h), Nat.le_trans a.n b.n, fun i h => (b.m i (Nat.lt_of_lt_of_le h a.n)).trans (a.m i h)⟩
theorem sqT_le {K : PySem.W.Frag} {F F' : Hp} {a : Addr} {vs : List V} (l : ∀ a o, F a = some o → F' a = some o) (h : SqT K F a vs) : SqT K F' a vs :=
  h.elim (fun h => .inl (h.elim (fun h => .inl (l _ _ h)) fun ⟨o, h⟩ => .inr ⟨o, l _ _ h⟩)) .inr
theorem rd_le {F F' : Hp} {a : Addr} {u : HO} (l : ∀ a o, F a = some o → F' a = some o) (h : Rd F a u) : Rd F' a u := h.elim (fun h => .inl (l _ _ h)) fun ⟨o, h⟩ => .inr ⟨o, l _ _ h⟩
theorem sqL_le {K : PySem.W.Frag} {F F' : Hp} {a : Addr} {vs : List V} (l : ∀ a o, F a = some o → F' a = some o) (h : SqL K F a vs) : SqL K F' a vs :=
  h.elim (fun h => .inl (h.elim (fun h => .inl (l _ _ h)) fun ⟨o, h⟩ => .inr ⟨o, l _ _ h⟩)) .inr
section
variable {K : PySem.W.Frag} {W W' : Wd}
mutual
theorem Rep.le (l : W.Le W') : ∀ {d : D} {v : V}, Rep K W d v → Rep K W' d v
  | _, _, .non => .non
  | _, _, .bl b => .bl b
  | _, _, .int b => .int b
  | _, _, .str b => .str b
  | _, _, .ty b => .ty b
  | _, _, .tup h r => .tup (sqT_le l.f h) (Reps.le l r)
  | _, _, .lst h r => .lst (rd_le l.f h) (Reps.le l r)
  | _, _, .lsk h r => .lsk (sqL_le l.f h) (Reps.le l r)
  | _, _, .dct h r => .dct (l.f _ _ h) (RepK.le l r)
  | _, _, .ins h r => .ins (l.f _ _ h) (RepF.le l r)
  | _, _, .cls b => .cls b
  | _, _, .fn b => .fn b
  | _, _, .ptr (i := i) h => by
    rw [← l.m i h]
    exact .ptr (Nat.lt_of_lt_of_le h l.n)
theorem Reps.le (l : W.Le W') : ∀ {d : List D} {v : List V}, Reps K W d v → Reps K W' d v
  | _, _, .nil => .nil
  | _, _, .cons h t => .cons (Rep.le l h) (Reps.le l t)
theorem RepK.le (l : W.Le W') : ∀ {d : List (Key × D)} {v : List (Key × V)}, RepK K W d v → RepK K W' d v
  | _, _, .nil => .nil
  | _, _, .cons h t => .cons (Rep.le l h) (RepK.le l t)
theorem RepF.le (l : W.Le W') : ∀ {d : List (Str × D)} {v : List (Str × V)}, RepF K W d v → RepF K W' d v
  | _, _, .nil => .nil
  | _, _, .cons h t => .cons (Rep.le l h) (RepF.le l t)
end
theorem Reps.len : ∀ {ds : List D} {vs : List V}, Reps K W ds vs → vs.length = ds.length
  | _, _, .nil => rfl
  | _, _, .cons _ t => congrArg (· + 1) t.len
theorem Reps.get : ∀ {ds : List D} {vs : List V} {i : Nat} {v : V}, Reps K W ds vs → vs[i]? = some v → ∃ d, ds[i]? = some d ∧ Rep K W d v
  | _, _, i, _, .nil, e => by simp at e
  | _, _, 0, _, .cons h _, e => by
    simp only [List.getElem?_cons_zero, Option.some.injEq] at e
    subst e
    exact ⟨_, rfl, h⟩
  | _, _, i + 1, _, .cons _ t, e => by
    obtain ⟨d, h1, h2⟩ := t.get (i := i) (by simpa using e)
    exact ⟨d, by simpa using h1, h2⟩
theorem Reps.at : ∀ {ds : List D} {vs : List V} {i : Nat} {d : D}, Reps K W ds vs → ds[i]? = some d → ∃ v, vs[i]? = some v ∧ Rep K W d v
  | _, _, i, _, .nil, e => by simp at e
  | _, _, 0, _, .cons h _, e => by
    simp only [List.getElem?_cons_zero, Option.some.injEq] at e
    subst e
    exact ⟨_, rfl, h⟩
  | _, _, i + 1, _, .cons _ t, e => by
    obtain ⟨d, h1, h2⟩ := t.at (i := i) (by simpa using e)
    exact ⟨d, by simpa using h1, h2⟩
theorem Reps.app : ∀ {ds es : List D} {vs us : List V}, Reps K W ds vs → Reps K W es us → Reps K W (ds ++ es) (vs ++ us)
  | _, _, _, _, .nil, h => h
  | _, _, _, _, .cons r t, h => .cons r (t.app h)
theorem Reps.drop : ∀ {ds : List D} {vs : List V} (i : Nat), Reps K W ds vs → Reps K W (ds.drop i) (vs.drop i)
  | _, _, 0, h => h
  | _, _, _ + 1, .nil => .nil
  | _, _, i + 1, .cons _ t => t.drop i
theorem Reps.take : ∀ {ds : List D} {vs : List V} (i : Nat), Reps K W ds vs → Reps K W (ds.take i) (vs.take i)
  | _, _, 0, _ => .nil
  | _, _, _ + 1, .nil => .nil
  | _, _, i + 1, .cons h t => .cons h (t.take i)
theorem Reps.set {d : D} {v : V} (h : Rep K W d v) : ∀ {ds : List D} {vs : List V} (i : Nat), Reps K W ds vs → Reps K W (ds.set i d) (vs.set i v)
  | _, _, _, .nil => .nil
  | _, _, 0, .cons _ t => .cons h t
  | _, _, i + 1, .cons r t => .cons r (Reps.set h i t)
theorem Reps.rev : ∀ {ds : List D} {vs : List V}, Reps K W ds vs → Reps K W ds.reverse vs.reverse
  | _, _, .nil => .nil
  | _, _, .cons h t => by
    rw [List.reverse_cons, List.reverse_cons]
    exact t.rev.app (.cons h .nil)
theorem Reps.split : ∀ {ds es : List D} {vs : List V}, Reps K W (ds ++ es) vs → ∃ us ws, vs = us ++ ws ∧ Reps K W ds us ∧ Reps K W es ws
  | [], _, vs, h => ⟨[], vs, rfl, .nil, h⟩
  | _ :: ds, _, _, .cons h t => by
    obtain ⟨us, ws, rfl, r1, r2⟩ := Reps.split (ds := ds) t
    exact ⟨_, ws, rfl, .cons h r1, r2⟩
theorem RepF.look (f : Str) : ∀ {fs : List (Str × D)} {vs : List (Str × V)}, RepF K W fs vs → (∃ d v, fs.lookup f = some d ∧ vs.lookup f = some v ∧ Rep K W d v) ∨ (fs.lookup f = none ∧ vs.lookup f = none)
  | _, _, .nil => .inr ⟨rfl, rfl⟩
  | _, _, .cons (k := k) (d := d) (v := v) h t => by
    rw [List.lookup_cons, List.lookup_cons]
    cases e : f == k with
    | true => exact .inl ⟨d, v, rfl, rfl, h⟩
    | false => exact RepF.look f t
/-- f: y among the fields -/
def putD (f : Str) (y : D) : List (Str × D) → List (Str × D)
  | [] => [(f, y)]
  | p :: r => if p.1 = f then (f, y) :: r else p :: putD f y r
theorem RepF.len : ∀ {ds : List (Str × D)} {vs : List (Str × V)}, RepF K W ds vs → vs.length = ds.length
  | _, _, .nil => rfl
  | _, _, .cons _ t => congrArg (· + 1) t.len
theorem RepK.len : ∀ {ds : List (Key × D)} {vs : List (Key × V)}, RepK K W ds vs → vs.length = ds.length
  | _, _, .nil => rfl
  | _, _, .cons _ t => congrArg (· + 1) t.len
end

/-- an object of the store -/
inductive Cell where
  | lst (xs : List D) | dct (kvs : List (Key × D)) | ins (C : Str) (fs : List (Str × D)) | no
abbrev Sto := List Cell
def RelC (K : PySem.W.Frag) (W : Wd) (H : Hp) (a : Addr) : Cell → Prop
  | .lst xs => ∃ vs, H a = some (.lst vs) ∧ Reps K W xs vs
  | .dct xs => ∃ vs, H a = some (.dK vs) ∧ RepK K W xs vs
  | .ins C fs => ∃ dx vs, H a = some (.ins (He.ga K C) dx vs) ∧ RepF K W fs vs
  | .no => True
/-- the heap is held -/
structure Ho (K : PySem.W.Frag) (W : Wd) (H : Hp) (S : Sto) : Prop where
  n : W.n = S.length
  fh : ∀ a o, W.F a = some o → H a = some o
  inj : ∀ i j, i < W.n → j < W.n → W.m i = W.m j → i = j
  mF : ∀ i, i < W.n → W.F (W.m i) = none
  there : ∀ i, i < W.n → ∃ o, H (W.m i) = some o
  cel : ∀ i c, S[i]? = some c → RelC K W H (W.m i) c
/-- what a piece of code may do to world and heap -/
structure Go (W : Wd) (H : Hp) (W' : Wd) (H' : Hp) : Prop where
  le : W.Le W'
  fn : ∀ a o, W'.F a = some o → W.F a = some o ∨ H a = none
  kp : ∀ a o, H a = some o → (∀ i, i < W.n → W.m i ≠ a) → H' a = some o
  mn : ∀ i, W.n ≤ i → i < W'.n → H (W'.m i) = none
theorem Go.refl {W : Wd} {H : Hp} : Go W H W H := ⟨.refl, fun _ _ h => .inl h, fun _ _ h _ => h, fun i h1 h2 => absurd h2 (Nat.not_lt.mpr h1)⟩
theorem Go.trans {K : PySem.W.Frag} {W W1 W2 : Wd} {H H1 H2 : Hp} {S : Sto} (a : Go W H W1 H1) (b : Go W1 H1 W2 H2) (h : Ho K W2 H2 S) : Go W H W2 H2 := by
  refine ⟨a.le.trans b.le, fun x o e => ?_, fun x o e n => ?_, fun i h1 h2 => ?_⟩
  · rcases b.fn x o e with e1 | e1
    · exact a.fn x o e1
    · refine .inr ?_
      cases q : H x with
      | none => rfl
      | some u =>
        by_cases z : ∃ i, i < W.n ∧ W.m i = x
        · obtain ⟨i, hi, rfl⟩ := z
          rw [← (a.le.trans b.le).m i hi, h.mF i (Nat.lt_of_lt_of_le hi (a.le.trans b.le).n)] at e
          cases e
        · rw [a.kp x u q fun i hi c => z ⟨i, hi, c⟩] at e1
          cases e1
  · refine b.kp x o (a.kp x o e n) fun i hi c => ?_
    by_cases z : i < W.n
    · exact n i z ((a.le.m i z).symm.trans c)
    · have := a.mn i (Nat.not_lt.mp z) hi
      rw [c, e] at this
      cases this
  · by_cases z : i < W1.n
    · rw [b.le.m i z]
      exact a.mn i h1 z
    · have e := b.mn i (Nat.not_lt.mp z) h2
      cases q : H (W2.m i) with
      | none => rfl
      | some u =>
        by_cases y : ∃ j, j < W.n ∧ W.m j = W2.m i
        · obtain ⟨j, hj, c⟩ := y
          rw [← (a.le.trans b.le).m j hj] at c
          have := h.inj j i (Nat.lt_of_lt_of_le hj (a.le.trans b.le).n) h2 c
          omega
        · rw [a.kp _ u q fun j hj c => y ⟨j, hj, c⟩] at e
          cases e
/-- an object that stands by itself stays -/
theorem Go.keep {K : PySem.W.Frag} {W W1 : Wd} {H H1 : Hp} {S : Sto} {a : Addr} {o : HO} (g : Go W H W1 H1) (h : Ho K W H S) (e : W.F a = some o) : H1 a = some o :=
  g.kp a o (h.fh a o e) fun i hi c => by
    have := h.mF i hi
    rw [c, e] at this
    cases this

/-- what an expression gives: a value; a list or a dict that is the frame's own, as it is now; the instance under way -/
inductive O where
  | v (d : D) | b (xs : List D) | bd (kvs : List (Key × D)) | s (C : Str) (fs : List (Str × D))
/-- a slot: nothing known; a value; a list, a dict of the frame's own; the instance under way -/
inductive Sl where
  | un | sh (d : D) | ol (xs : List D) | od (kvs : List (Key × D)) | slf (C : Str) (fs : List (Str × D)) | exc (C : Str) (fs : List (Str × D))
/-- the entry of a frame: the world and the heap there, the instance under way, the handled error -/
structure En where
  W : Wd
  H : Hp
  me : Addr
  pin : Option (Addr × Obj)
structure Own (en : En) (W : Wd) (H : Hp) (a : Addr) : Prop where
  f : W.F a = none
  e : en.H a = none
  m : ∀ i, i < W.n → W.m i ≠ a
/-- the error at p: its class, its fields -/
def XRep (K : PySem.W.Frag) (W : Wd) (C : Str) (fs : List (Str × D)) (cls : Value) (d : Option Addr) : Prop :=
  cls = .ref (He.ga K C) ∧ ((fs = [] ∧ d = none) ∨ ∃ dd vs, d = some dd ∧ W.F dd = some (.xd vs) ∧ RepF K W fs vs)
theorem XRep.le {K : PySem.W.Frag} {W W' : Wd} {C : Str} {fs : List (Str × D)} {cls : Value} {d : Option Addr} (l : W.Le W') (h : XRep K W C fs cls d) : XRep K W' C fs cls d :=
  ⟨h.1, h.2.imp id fun ⟨dd, vs, e, f, r⟩ => ⟨dd, vs, e, l.f _ _ f, r.le l⟩⟩
def RelS (K : PySem.W.Frag) (en : En) (W : Wd) (H : Hp) (sv : Option (Option V)) : Sl → Prop
  | .un => True
  | .sh d => ∃ v, sv = some (some v) ∧ Rep K W d v
  | .ol xs => ∃ a vs, sv = some (some (.ref a)) ∧ H a = some (.lst vs) ∧ Reps K W xs vs ∧ Own en W H a
  | .od xs => ∃ a vs, sv = some (some (.ref a)) ∧ H a = some (.dK vs) ∧ RepK K W xs vs ∧ Own en W H a
  | .slf C fs => ∃ dx vs, sv = some (some (.ref en.me)) ∧ H en.me = some (.ins (He.ga K C) dx vs) ∧ RepF K W fs vs ∧ Own en W H en.me
  | .exc C fs => ∃ p, en.pin = some p ∧ sv = some (some (.ref p.1)) ∧ XRep K W C fs p.2.cls p.2.dict
def isOwn : Sl → Bool
  | .ol _ => true
  | .od _ => true
  | .slf _ _ => true
  | _ => false
structure Rs (K : PySem.W.Frag) (en : En) (W : Wd) (σ : L2.St) (H : Hp) (ρ : List Sl) (S : Sto) : Prop where
  ho : Ho K W H S
  go : Go en.W en.H W H
  len : ρ.length = σ.length
  sl : ∀ (i : Nat) (s : Sl), ρ[i]? = some s → RelS K en W H σ[i]? s
  dis : ∀ (i j : Nat) (s t : Sl) (a : Addr), i ≠ j → ρ[i]? = some s → isOwn s = true → ρ[j]? = some t → isOwn t = true → σ[i]? = some (some (.ref a)) → σ[j]? = some (some (.ref a)) → False
theorem Own.go {en : En} {W W' : Wd} {H H' : Hp} {a : Addr} {o : HO} (w : Own en W H a) (g : Go W H W' H') (e : H a = some o) : Own en W' H' a := by
  refine ⟨?_, w.e, fun i hi c => ?_⟩
  · cases q : W'.F a with
    | none => rfl
    | some u =>
      rcases g.fn a u q with z | z
      · rw [w.f] at z
        cases z
      · rw [e] at z
        cases z
  · by_cases z : i < W.n
    · exact w.m i z ((g.le.m i z).symm.trans c)
    · have := g.mn i (Nat.not_lt.mp z) hi
      rw [c, e] at this
      cases this
theorem RelS.go {K : PySem.W.Frag} {en : En} {W W' : Wd} {H H' : Hp} {sv : Option (Option V)} {s : Sl} (g : Go W H W' H') (h : RelS K en W H sv s) : RelS K en W' H' sv s := by
  cases s with
  | un => trivial
  | sh d =>
    obtain ⟨v, e, r⟩ := h
    exact ⟨v, e, r.le g.le⟩
  | ol xs =>
    obtain ⟨a, vs, e, q, r, w⟩ := h
    exact ⟨a, vs, e, g.kp _ _ q w.m, r.le g.le, w.go g q⟩
  | od xs =>
    obtain ⟨a, vs, e, q, r, w⟩ := h
    exact ⟨a, vs, e, g.kp _ _ q w.m, r.le g.le, w.go g q⟩
  | slf C fs =>
    obtain ⟨dx, vs, e, q, r, w⟩ := h
    exact ⟨dx, vs, e, g.kp _ _ q w.m, r.le g.le, w.go g q⟩
  | exc C fs =>
    obtain ⟨p, e, q, r⟩ := h
    exact ⟨p, e, q, r.le g.le⟩
/-- behind an expression -/
theorem Rs.after {K : PySem.W.Frag} {en : En} {W W' : Wd} {σ : L2.St} {H H' : Hp} {ρ : List Sl} {S S' : Sto} (r : Rs K en W σ H ρ S) (h : Ho K W' H' S') (g : Go W H W' H') : Rs K en W' σ H' ρ S' :=
  ⟨h, r.go.trans g h, r.len, fun i s e => (r.sl i s e).go g, r.dis⟩
def RepO (K : PySem.W.Frag) (en : En) (W : Wd) (H : Hp) : O → V → Prop
  | .v d, v => Rep K W d v
  | .b xs, v => ∃ a vs, v = .ref a ∧ H a = some (.lst vs) ∧ Reps K W xs vs ∧ Own en W H a
  | .bd xs, v => ∃ a vs, v = .ref a ∧ H a = some (.dK vs) ∧ RepK K W xs vs ∧ Own en W H a
  | .s C fs, v => ∃ dx vs, v = .ref en.me ∧ H en.me = some (.ins (He.ga K C) dx vs) ∧ RepF K W fs vs ∧ Own en W H en.me
theorem RepO.go {K : PySem.W.Frag} {en : En} {W W' : Wd} {H H' : Hp} {o : O} {v : V} (g : Go W H W' H') (h : RepO K en W H o v) : RepO K en W' H' o v := by
  cases o with
  | v d => exact Rep.le g.le h
  | b xs =>
    obtain ⟨a, vs, e, q, r, w⟩ := h
    exact ⟨a, vs, e, g.kp _ _ q w.m, r.le g.le, w.go g q⟩
  | bd xs =>
    obtain ⟨a, vs, e, q, r, w⟩ := h
    exact ⟨a, vs, e, g.kp _ _ q w.m, r.le g.le, w.go g q⟩
  | s C fs =>
    obtain ⟨dx, vs, e, q, r, w⟩ := h
    exact ⟨dx, vs, e, g.kp _ _ q w.m, r.le g.le, w.go g q⟩
end Dt

set_option Elab.async false
set_option linter.all false
set_option maxRecDepth 100000
set_option maxHeartbeats 4000000
/-! DatB: judgements over trees, operators by their meaning, expressions -/
namespace Dt
open PySem PySem.Spec PyProof.Rows L2 My
/-- what holds through a law -/
structure Bs where
  P : Program
  w : World
  K : PySem.W.Frag
  mg : Str → Option Value
  base : Heap
  hot : Bool
structure FitsB (B : Bs) (k : Nat) (X : Cx) (en : En) : Prop where
  P : X.prog = B.P
  w : X.w = B.w
  K : X.K = B.K
  mg : X.mg = B.mg
  base : X.base = B.base
  rm : L2H.RoomH k X.A
  g : X.A.guards = some []
  calm : B.hot = false → X.calm = true ∧ X.A.handled = none
  pin : ∀ p, en.pin = some p → p ∈ X.pn ∧ ∃ vs : Array Value, p.2.data = .fields vs
  np : B.hot = false → en.pin = none
structure Cf where
  B : Bs
  k : Nat
  N : List Str
  sc : Scope
  lp : Bool
  fn : Str → Bool
  tr : Bool
structure Fits (G : Cf) (X : Cx) (en : En) : Prop where
  b : FitsB G.B G.k X en
  N : X.N = G.N
  sc : X.env.scope = G.sc
  nd : X.N.Nodup
  fn : ∀ x, G.fn x = true → X.fn x = true
  po : G.lp = true → PassesOwn (model X.prog X.w) X.A X.env X.xe
  st : G.tr = true → X.stack = X.env :: X.outer ∧ X.env.frame = some X.env.locals
theorem FitsB.rg {B : Bs} {k : Nat} {X : Cx} {en : En} (f : FitsB B k X en) (h : B.hot = false) : RG k X.A := ⟨⟨(f.calm h).2, f.rm.dp, f.rm.un⟩, f.g⟩
theorem FitsB.units {B : Bs} {k : Nat} {X : Cx} {en : En} (f : FitsB B k X en) : X.A.units + 64 < cLine := by
  have := f.rm.un
  omega
theorem FitsB.mono {B : Bs} {j k : Nat} {X : Cx} {en : En} (f : FitsB B k X en) (h : j ≤ k) : FitsB B j X en := ⟨f.P, f.w, f.K, f.mg, f.base, f.rm.mono h, f.g, f.calm, f.pin, f.np⟩

abbrev QO := O → Sto → Prop
abbrev QD := D → Sto → Prop
abbrev XS := Str → List (Str × D) → Sto → Prop
abbrev XD := List Sl → XS
abbrev RE := List Sl → Sto → XD → QO → Prop
abbrev RT := List Sl → Sto → XD → (Bool → Sto → Prop) → Prop
abbrev RA := List Sl → Sto → XD → (List O → Sto → Prop) → Prop

/-- an expression's wish, below -/
def Nx (K : PySem.W.Frag) (en : En) (W : Wd) (H : Hp) (Q : QO) : VK := fun v H' => ∃ W' o S', Ho K W' H' S' ∧ Go W H W' H' ∧ RepO K en W' H' o v ∧ Q o S'
def NxB (K : PySem.W.Frag) (W : Wd) (H : Hp) (Q : Bool → Sto → Prop) : Bool → Hp → Prop := fun c H' => ∃ W' S', Ho K W' H' S' ∧ Go W H W' H' ∧ Q c S'
abbrev RepOs (K : PySem.W.Frag) (en : En) (W : Wd) (H : Hp) : List O → List V → Prop := Paired (RepO K en W H)
def NxA (K : PySem.W.Frag) (en : En) (W : Wd) (H : Hp) (Q : List O → Sto → Prop) : List V → Hp → Prop := fun vs H' => ∃ W' os S', Ho K W' H' S' ∧ Go W H W' H' ∧ RepOs K en W' H' os vs ∧ Q os S'
/-- an error on its way out of an operation -/
def XN (K : PySem.W.Frag) (W : Wd) (H : Hp) (σ : L2.St) (Ex : XS) : WX := fun cls d σ' H' => σ' = σ ∧ ∃ C fs W' S', XRep K W' C fs cls d ∧ Ho K W' H' S' ∧ Go W H W' H' ∧ Ex C fs S'
/-- .. out of a piece of the frame -/
def XT (K : PySem.W.Frag) (en : En) (W0 : Wd) (E : XD) : WX := fun cls d σ H => ∃ C fs W ρ S, XRep K W C fs cls d ∧ Rs K en W σ H ρ S ∧ W0.Le W ∧ E ρ C fs S
theorem tk_up {K : PySem.W.Frag} {en : En} {W0 W1 : Wd} {E : XD} {X : Cx} (l : W0.Le W1) (t : Takes X (XT K en W0 E)) : Takes X (XT K en W1 E) :=
  t.imp fun cls d σ' H' ⟨C, fs, W', ρ, S', x, r, l2, q⟩ => ⟨C, fs, W', ρ, S', x, r, l.trans l2, q⟩
theorem xn_of {K : PySem.W.Frag} {en : En} {W : Wd} {H : Hp} {σ : L2.St} {ρ : List Sl} {S : Sto} {E : XD} {X : Cx} (t : Takes X (XT K en W E)) (r : Rs K en W σ H ρ S) : Takes X (XN K W H σ (E ρ)) :=
  t.imp fun cls d σ' H' ⟨e, C, fs, W', S', x, h, g, q⟩ => by
    subst e
    exact ⟨C, fs, W', ρ, S', x, r.after h g, g.le, q⟩
theorem XN.back {K : PySem.W.Frag} {W W1 : Wd} {H H1 : Hp} {σ : L2.St} {Ex : XS} {X : Cx} (t : Takes X (XN K W H σ Ex)) (g : Go W H W1 H1) : Takes X (XN K W1 H1 σ Ex) :=
  t.imp fun cls d σ' H' ⟨e, C, fs, W', S', x, h, g2, q⟩ => ⟨e, C, fs, W', S', x, h, g.trans g2 h, q⟩
theorem Nx.back {K : PySem.W.Frag} {en : En} {W W1 : Wd} {H H1 : Hp} {Q : QO} (g : Go W H W1 H1) : ∀ v H', Nx K en W1 H1 Q v H' → Nx K en W H Q v H' := fun v H' ⟨W', o, S', h, g2, r, q⟩ => ⟨W', o, S', h, g.trans g2 h, r, q⟩
theorem NxB.back {K : PySem.W.Frag} {W W1 : Wd} {H H1 : Hp} {Q : Bool → Sto → Prop} (g : Go W H W1 H1) : ∀ v H', NxB K W1 H1 Q v H' → NxB K W H Q v H' := fun v H' ⟨W', S', h, g2, q⟩ => ⟨W', S', h, g.trans g2 h, q⟩
theorem NxA.back {K : PySem.W.Frag} {en : En} {W W1 : Wd} {H H1 : Hp} {Q : List O → Sto → Prop} (g : Go W H W1 H1) : ∀ v H', NxA K en W1 H1 Q v H' → NxA K en W H Q v H' := fun v H' ⟨W', o, S', h, g2, r, q⟩ => ⟨W', o, S', h, g.trans g2 h, r, q⟩
theorem ep_mono {X : Cx} {pins : List (Addr × Obj)} {σ : L2.St} {Q Q' : VK} {u : Value} {s : Shared} (h : ∀ v H, Q v H → Q' v H) : EP X pins σ Q u s → EP X pins σ Q' u s := fun ⟨v, H, I, r, q⟩ => ⟨v, H, I, r, h _ _ q⟩
theorem RepOs.go {K : PySem.W.Frag} {en : En} {W W' : Wd} {H H' : Hp} (g : Go W H W' H') : ∀ {os : List O} {vs : List V}, RepOs K en W H os vs → RepOs K en W' H' os vs
  | _, _, .nil => .nil
  | _, _, .cons h t => .cons (h.go g) (RepOs.go g t)
theorem RepOs.get {K : PySem.W.Frag} {en : En} {W : Wd} {H : Hp} : ∀ {os : List O} {vs : List V}, RepOs K en W H os vs → os.length = vs.length
  | _, _, .nil => rfl
  | _, _, .cons _ t => congrArg (· + 1) (RepOs.get t)

/-! ### operations by their meaning -/
def sem1 (B : Bs) (k : Nat) (f : Value → Sem Value) (x : O) (S : Sto) (Ex : XS) (Q : QO) : Prop :=
  ∀ (X : Cx) (en : En) (W : Wd) (σ : L2.St) (H : Hp), FitsB B k X en → Takes X (XN B.K W H σ Ex) → Ho B.K W H S → ∀ x', RepO B.K en W H x x' →
    ∀ (pins : List (Addr × Obj)) (s : Shared) (v : Value), Inv X pins σ H s → RelV x' v → wpAny (model X.prog X.w) X.A (f v) (EP X pins σ (Nx B.K en W H Q)) X.xe s
def sem2 (B : Bs) (k : Nat) (f : Value → Value → Sem Value) (x y : O) (S : Sto) (Ex : XS) (Q : QO) : Prop :=
  ∀ (X : Cx) (en : En) (W : Wd) (σ : L2.St) (H : Hp), FitsB B k X en → Takes X (XN B.K W H σ Ex) → Ho B.K W H S → ∀ x' y', RepO B.K en W H x x' → RepO B.K en W H y y' →
    ∀ (pins : List (Addr × Obj)) (s : Shared) (v u : Value), Inv X pins σ H s → RelV x' v → RelV y' u → wpAny (model X.prog X.w) X.A (f v u) (EP X pins σ (Nx B.K en W H Q)) X.xe s
/-- f(..): the values by position, those by the names ks -/
def sCall (B : Bs) (k : Nat) (fv : Value) (ks : List Str) (xs zs : List O) (S : Sto) (Ex : XS) (Q : QO) : Prop :=
  ∀ (X : Cx) (en : En) (W : Wd) (σ : L2.St) (H : Hp), FitsB B k X en → Takes X (XN B.K W H σ Ex) → Ho B.K W H S → ∀ xs' zs', RepOs B.K en W H xs xs' → RepOs B.K en W H zs zs' →
    ∀ (pins : List (Addr × Obj)) (s : Shared) (us ws : List Value), Inv X pins σ H s → Vals xs' us → Vals zs' ws → wpAny (model X.prog X.w) X.A (call fv us (ks.zip ws)) (EP X pins σ (Nx B.K en W H Q)) X.xe s
/-- a value's truth -/
def semB (B : Bs) (k : Nat) (x : O) (S : Sto) (Q : Bool → Sto → Prop) : Prop :=
  ∀ (X : Cx) (en : En) (W : Wd) (σ : L2.St) (H : Hp), FitsB B k X en → Ho B.K W H S → ∀ x', RepO B.K en W H x x' →
    ∀ (pins : List (Addr × Obj)) (s : Shared) (v : Value), Inv X pins σ H s → RelV x' v → wpAny (model X.prog X.w) X.A (truthy v) (TP X pins σ (NxB B.K W H Q)) X.xe s
theorem sem2.mono {B : Bs} {k : Nat} {f : Value → Value → Sem Value} {x y : O} {S : Sto} {Ex : XS} {Q Q' : QO} (h : sem2 B k f x y S Ex Q) (m : ∀ o S', Q o S' → Q' o S') : sem2 B k f x y S Ex Q' :=
  fun X en W σ H hf tk ho x' y' rx ry pins s v u I r1 r2 => thn (h X en W σ H hf tk ho x' y' rx ry pins s v u I r1 r2) fun _ _ => ep_mono fun _ _ ⟨W', o, S', h1, h2, h3, q⟩ => ⟨W', o, S', h1, h2, h3, m _ _ q⟩

/-! ### judgements -/
/-- a state in a frame -/
structure At (G : Cf) (X : Cx) (en : En) (W : Wd) (σ : L2.St) (H : Hp) (ρ : List Sl) (S : Sto) (E : XD) (pins : List (Addr × Obj)) (s : Shared) : Prop where
  hf : Fits G X en
  tk : Takes X (XT G.B.K en W E)
  rs : Rs G.B.K en W σ H ρ S
  I : Inv X pins σ H s
structure DE (G : Cf) (e : Expr) (t : RE) : Prop where
  run : ∀ {X en W σ H ρ S E pins s Q}, At G X en W σ H ρ S E pins s → t ρ S E Q → wpAny (model X.prog X.w) X.A (eval e X.env) (EP X pins σ (Nx G.B.K en W H Q)) X.xe s
structure DT (G : Cf) (e : Expr) (t : RT) : Prop where
  run : ∀ {X en W σ H ρ S E pins s Q}, At G X en W σ H ρ S E pins s → t ρ S E Q → wpAny (model X.prog X.w) X.A (isTrue e X.env (eval e X.env)) (TP X pins σ (NxB G.B.K W H Q)) X.xe s
/-- .. whatever its whole is -/
structure DW (G : Cf) (e : Expr) (t : RT) : Prop where
  run : ∀ (whole : Sem Value) {X en W σ H ρ S E pins s Q}, At G X en W σ H ρ S E pins s → t ρ S E Q → wpAny (model X.prog X.w) X.A (isTrue e X.env whole) (TP X pins σ (NxB G.B.K W H Q)) X.xe s
structure DA (G : Cf) (es : List Expr) (t : RA) : Prop where
  run : ∀ (pos : Pos) {X en W σ H ρ S E pins s Q}, At G X en W σ H ρ S E pins s → t ρ S E Q → wpAny (model X.prog X.w) X.A (spliced (backTo pos (starEach es X.env))) (AP X pins σ (NxA G.B.K en W H Q)) X.xe s
structure DK (G : Cf) (kws : List Keyword) (t : RA) : Prop where
  run : ∀ (pos : Pos) {X en W σ H ρ S E pins s Q}, At G X en W σ H ρ S E pins s → t ρ S E Q → wpAny (model X.prog X.w) X.A (evalAll ((backToKw pos (keywordEach kws X.env)).map (·.2))) (AP X pins σ (NxA G.B.K en W H Q)) X.xe s
section
variable {G : Cf} {X : Cx} {en : En} {W W1 : Wd} {σ : L2.St} {H H1 : Hp} {ρ : List Sl} {S S1 : Sto} {E : XD} {pins : List (Addr × Obj)} {s s1 : Shared} {e a b c : Expr} {t ta tb tc : RE}
theorem At.next (a : At G X en W σ H ρ S E pins s) (I : Inv X pins σ H1 s1) (h : Ho G.B.K W1 H1 S1) (g : Go W H W1 H1) : At G X en W1 σ H1 ρ S1 E pins s1 := ⟨a.hf, tk_up g.le a.tk, a.rs.after h g, I⟩
theorem At.xn (a : At G X en W σ H ρ S E pins s) : Takes X (XN G.B.K W H σ (E ρ)) := xn_of a.tk a.rs
/-- a part's reading, the rest behind it -/
theorem DE.at {P : Value → Shared → Prop} {Kq : QO} (h : DE G e t) (z : At G X en W σ H ρ S E pins s) (q : t ρ S E Kq)
    (k : ∀ v s1 x' H1 W1 o S1, At G X en W1 σ H1 ρ S1 E pins s1 → Go W H W1 H1 → RelV x' v → RepO G.B.K en W1 H1 o x' → Kq o S1 → P v s1) : wpAny (model X.prog X.w) X.A (eval e X.env) P X.xe s :=
  thn (h.run z q) fun v s1 ⟨x', H1, I1, r1, W1, o, S1, h1, g1, ro, q1⟩ => k v s1 x' H1 W1 o S1 (z.next I1 h1 g1) g1 r1 ro q1
theorem DT.at {P : Bool → Shared → Prop} {t : RT} {Kq : Bool → Sto → Prop} (h : DT G e t) (z : At G X en W σ H ρ S E pins s) (q : t ρ S E Kq)
    (k : ∀ c s1 H1 W1 S1, At G X en W1 σ H1 ρ S1 E pins s1 → Go W H W1 H1 → Kq c S1 → P c s1) : wpAny (model X.prog X.w) X.A (isTrue e X.env (eval e X.env)) P X.xe s :=
  thn (h.run z q) fun c s1 ⟨H1, I1, W1, S1, h1, g1, q1⟩ => k c s1 H1 W1 S1 (z.next I1 h1 g1) g1 q1
theorem DA.at {es : List Expr} {P : List Value → Shared → Prop} {t : RA} {Kq : List O → Sto → Prop} (h : DA G es t) (pos : Pos) (z : At G X en W σ H ρ S E pins s) (q : t ρ S E Kq)
    (k : ∀ us s1 vs H1 W1 os S1, At G X en W1 σ H1 ρ S1 E pins s1 → Go W H W1 H1 → Vals vs us → RepOs G.B.K en W1 H1 os vs → Kq os S1 → P us s1) : wpAny (model X.prog X.w) X.A (spliced (backTo pos (starEach es X.env))) P X.xe s :=
  thn (h.run pos z q) fun us s1 ⟨vs, H1, I1, r1, W1, o, S1, h1, g1, ro, q1⟩ => k us s1 vs H1 W1 o S1 (z.next I1 h1 g1) g1 r1 ro q1
theorem DK.at {kws : List Keyword} {P : List Value → Shared → Prop} {t : RA} {Kq : List O → Sto → Prop} (h : DK G kws t) (pos : Pos) (z : At G X en W σ H ρ S E pins s) (q : t ρ S E Kq)
    (k : ∀ us s1 vs H1 W1 os S1, At G X en W1 σ H1 ρ S1 E pins s1 → Go W H W1 H1 → Vals vs us → RepOs G.B.K en W1 H1 os vs → Kq os S1 → P us s1) : wpAny (model X.prog X.w) X.A (evalAll ((backToKw pos (keywordEach kws X.env)).map (·.2))) P X.xe s :=
  thn (h.run pos z q) fun us s1 ⟨vs, H1, I1, r1, W1, o, S1, h1, g1, ro, q1⟩ => k us s1 vs H1 W1 o S1 (z.next I1 h1 g1) g1 r1 ro q1
theorem At.nx {v : V} {o : O} {Q : QO} {u : Value} (z : At G X en W σ H ρ S E pins s) (r : RelV v u) (ro : RepO G.B.K en W H o v) (q : Q o S) : EP X pins σ (Nx G.B.K en W H Q) u s := ⟨v, H, z.I, r, W, o, S, z.rs.ho, .refl, ro, q⟩
theorem At.op1 {f : Value → Sem Value} {v : V} {o : O} {Q : QO} {u : Value} (z : At G X en W σ H ρ S E pins s) (r : RelV v u) (ro : RepO G.B.K en W H o v) (q : sem1 G.B G.k f o S (E ρ) Q) : wpAny (model X.prog X.w) X.A (f u) (EP X pins σ (Nx G.B.K en W H Q)) X.xe s :=
  q X en W σ H z.hf.b z.xn z.rs.ho v ro pins s u z.I r
theorem At.op2 {f : Value → Value → Sem Value} {v v2 : V} {o o2 : O} {Q : QO} {u u2 : Value} (z : At G X en W σ H ρ S E pins s) (r : RelV v u) (ro : RepO G.B.K en W H o v) (r2 : RelV v2 u2) (ro2 : RepO G.B.K en W H o2 v2) (q : sem2 G.B G.k f o o2 S (E ρ) Q) :
    wpAny (model X.prog X.w) X.A (f u u2) (EP X pins σ (Nx G.B.K en W H Q)) X.xe s :=
  q X en W σ H z.hf.b z.xn z.rs.ho v v2 ro ro2 pins s u u2 z.I r r2
theorem ep_back {Q : QO} {u : Value} (g : Go W H W1 H1) : EP X pins σ (Nx G.B.K en W1 H1 Q) u s1 → EP X pins σ (Nx G.B.K en W H Q) u s1 := ep_mono (Nx.back g)
theorem tp_back {Q : Bool → Sto → Prop} {c : Bool} (g : Go W H W1 H1) : TP X pins σ (NxB G.B.K W1 H1 Q) c s1 → TP X pins σ (NxB G.B.K W H Q) c s1 := fun ⟨H', I, q⟩ => ⟨H', I, NxB.back g _ _ q⟩

/-! ### names, constants -/
def dVar (i : Nat) : RE := fun ρ S _ Q => (∃ d, ρ[i]? = some (.sh d) ∧ Q (.v d) S) ∨ (∃ xs, ρ[i]? = some (.ol xs) ∧ Q (.b xs) S) ∨ (∃ xs, ρ[i]? = some (.od xs) ∧ Q (.bd xs) S) ∨ (∃ C fs, ρ[i]? = some (.slf C fs) ∧ Q (.s C fs) S)
abbrev dC (d : D) : RE := fun _ S _ Q => Q (.v d) S
theorem de_var {i : Nat} {x : Str} {pos : Pos} (hN : G.N[i]? = some x) (hv : Vis G.sc x) (hd : (x == ("__debug__" : Str)) = false := by decide) (hcd : (x == ("__classdict__" : Str)) = false := by decide) : DE G (.Name x pos) (dVar i) := by
  refine ⟨fun {X en W σ H ρ S E pins s Q} z q => ?_⟩
  have p := pe_var (X := X) (i := i) (x := x) (pos := pos) (by rw [z.hf.N]; exact hN) (by rw [z.hf.sc]; exact hv) hd hcd
  rcases q with ⟨d, e, q⟩ | ⟨d, e, q⟩ | ⟨d, e, q⟩ | ⟨C, fs, e, q⟩
  · obtain ⟨v, e1, r⟩ := z.rs.sl i _ e
    exact p.run pins s σ H _ z.I ⟨v, e1, W, .v d, S, z.rs.ho, .refl, r, q⟩
  · obtain ⟨a, vs, e1, h, r, w⟩ := z.rs.sl i _ e
    exact p.run pins s σ H _ z.I ⟨_, e1, W, .b d, S, z.rs.ho, .refl, ⟨a, vs, rfl, h, r, w⟩, q⟩
  · obtain ⟨a, vs, e1, h, r, w⟩ := z.rs.sl i _ e
    exact p.run pins s σ H _ z.I ⟨_, e1, W, .bd d, S, z.rs.ho, .refl, ⟨a, vs, rfl, h, r, w⟩, q⟩
  · obtain ⟨dx, vs, e1, h, r, w⟩ := z.rs.sl i _ e
    exact p.run pins s σ H _ z.I ⟨_, e1, W, .s C fs, S, z.rs.ho, .refl, ⟨dx, vs, rfl, h, r, w⟩, q⟩
/-- what always gives one value -/
theorem de_of {e : Expr} {v : V} {d : D} (h : ∀ X : Cx, X.K = G.B.K → X.mg = G.B.mg → X.env.scope = G.sc → PE X e (tC v)) (r : ∀ W, Rep G.B.K W d v) : DE G e (dC d) := by
  refine ⟨fun {X en W σ H ρ S E pins s Q} z q => ?_⟩
  exact (h X z.hf.b.K z.hf.b.mg z.hf.sc).run pins s σ H _ z.I ⟨W, .v d, S, z.rs.ho, .refl, r W, q⟩
theorem de_int {i j pos} : DE G (.Constant (.int i) j pos) (dC (.int i)) := de_of (fun _ _ _ _ => pe_int) fun _ => .int i
theorem de_bl {b j pos} : DE G (.Constant (.bool b) j pos) (dC (.bl b)) := de_of (fun _ _ _ _ => pe_bl) fun _ => .bl b
theorem de_non {j pos} : DE G (.Constant .none j pos) (dC .non) := de_of (fun _ _ _ _ => pe_non) fun _ => .non
theorem de_str {x j pos} : DE G (.Constant (.str x) j pos) (dC (.str x)) := de_of (fun _ _ _ _ => pe_str) fun _ => .str x
abbrev Glb (G : Cf) (x : Str) : Prop := G.sc.names.lookup x = some .globalImplicit
theorem gl_of {G : Cf} {X : Cx} {x : Str} (h : X.env.scope = G.sc) (g : Glb G x) : Gl X x := by
  show X.env.scope.names.lookup x = some .globalImplicit
  rw [h]
  exact g
theorem de_glob {x : Str} {v : V} {d : D} {u : Value} {pos : Pos} (hg : Glb G x) (hm : G.B.mg x = some u) (r : RelV v u) (rd : ∀ W, Rep G.B.K W d v) (hd : (x == ("__debug__" : Str)) = false := by decide) : DE G (.Name x pos) (dC d) :=
  de_of (fun X e1 e2 e3 => pe_glob (gl_of e3 hg) (by rw [e2]; exact hm) r hd) rd
theorem de_gint {x : Str} {i : Int} {pos : Pos} (hg : Glb G x) (hm : ∃ t, G.B.mg x = some (.int i t)) (hd : (x == ("__debug__" : Str)) = false := by decide) : DE G (.Name x pos) (dC (.int i)) := by
  obtain ⟨t, hm⟩ := hm
  exact de_glob (v := .int i) hg hm ⟨t, rfl⟩ (fun _ => .int i) hd
theorem de_gstr {x : Str} {i : Str} {pos : Pos} (hg : Glb G x) (hm : ∃ t, G.B.mg x = some (.str i t)) (hd : (x == ("__debug__" : Str)) = false := by decide) : DE G (.Name x pos) (dC (.str i)) := by
  obtain ⟨t, hm⟩ := hm
  exact de_glob (v := .str i) hg hm ⟨t, rfl⟩ (fun _ => .str i) hd
theorem de_cls {x : Str} {pos : Pos} (hg : Glb G x) (hm : G.B.mg x = some (.ref (He.ga G.B.K x))) (hd : (x == ("__debug__" : Str)) = false := by decide) : DE G (.Name x pos) (dC (.cls x)) := de_glob (v := .ref (He.ga G.B.K x)) hg hm rfl (fun _ => .cls x) hd
theorem de_fn {x : Str} {pos : Pos} (hg : Glb G x) (hm : G.B.mg x = some (.ref (He.ga G.B.K x))) (hd : (x == ("__debug__" : Str)) = false := by decide) : DE G (.Name x pos) (dC (.fn x)) := de_glob (v := .ref (He.ga G.B.K x)) hg hm rfl (fun _ => .fn x) hd
theorem de_ty {x : Str} {n : String} {pos : Pos} (hg : Glb G x) (hm : G.B.mg x = none) (hv : bootBuiltins x = some (.type n)) (hn : x ≠ "__name__" := by decide) (hd : (x == ("__debug__" : Str)) = false := by decide) : DE G (.Name x pos) (dC (.ty n)) :=
  de_of (fun X e1 e2 e3 => pe_bltn (v := .ty n) (gl_of e3 hg) (by rw [e2]; exact hm) hv rfl hn hd) fun _ => .ty n

/-! ### operators -/
variable {pos : Pos}
abbrev dBin (B : Bs) (k : Nat) (op : Operator) (ta tb : RE) : RE := fun ρ S E Q => ta ρ S E fun x S1 => tb ρ S1 E fun y S2 => sem2 B k (binaryOp op) x y S2 (E ρ) Q
theorem de_bin {op : Operator} (ha : DE G a ta) (hb : DE G b tb) : DE G (.BinOp a op b pos) (dBin G.B G.k op ta tb) := by
  refine ⟨fun {X en W σ H ρ S E pins s Q} z q => wpAny_BinOp (ha.at z q fun v s1 x' H1 W1 o S1 z1 g1 r1 ro q1 => hb.at z1 q1 fun u s2 y' H2 W2 o2 S2 z2 g2 r2 ro2 q2 => ?_)⟩
  exact thn (z2.op2 r1 (ro.go g2) r2 ro2 q2) fun _ _ => ep_back (g1.trans g2 z2.rs.ho)
abbrev dUn (B : Bs) (k : Nat) (op : UnaryOp) (ta : RE) : RE := fun ρ S E Q => ta ρ S E fun x S1 => sem1 B k (unaryOp op) x S1 (E ρ) Q
theorem de_un {op : UnaryOp} (ha : DE G a ta) : DE G (.UnaryOp op a pos) (dUn G.B G.k op ta) := by
  refine ⟨fun {X en W σ H ρ S E pins s Q} z q => UnaryOp_ (ha.at z q fun v s1 x' H1 W1 o S1 z1 g1 r1 ro q1 => ?_)⟩
  exact thn (z1.op1 r1 ro q1) fun _ _ => ep_back g1
abbrev dCmp (B : Bs) (k : Nat) (op : CmpOp) (ta tb : RE) : RE := fun ρ S E Q => ta ρ S E fun x S1 => tb ρ S1 E fun y S2 => sem2 B k (compareOp op) x y S2 (E ρ) Q
theorem de_cmp {op : CmpOp} (ha : DE G a ta) (hb : DE G b tb) (h1 : behindInMarks op b = false := by first | exact nobehind _ (by decide) (by decide) | rfl) : DE G (.Compare a [op] [b] pos) (dCmp G.B G.k op ta tb) := by
  refine ⟨fun {X en W σ H ρ S E pins s Q} z q => wpAny_Compare1 (ha.at z q fun v s1 x' H1 W1 o S1 z1 g1 r1 ro q1 => hb.at z1 q1 fun u s2 y' H2 W2 o2 S2 z2 g2 r2 ro2 q2 => ?_) h1⟩
  exact thn (z2.op2 r1 (ro.go g2) r2 ro2 q2) fun _ _ => ep_back (g1.trans g2 z2.rs.ho)
/-- a value as a test -/
abbrev dTest (B : Bs) (k : Nat) (t : RE) : RT := fun ρ S E Q => t ρ S E fun x S1 => semB B k x S1 Q
theorem semB.at {v : V} {o : O} {Q : Bool → Sto → Prop} {u : Value} (z : At G X en W σ H ρ S E pins s) (r : RelV v u) (ro : RepO G.B.K en W H o v) (q : semB G.B G.k o S Q) : wpAny (model X.prog X.w) X.A (truthy u) (TP X pins σ (NxB G.B.K W H Q)) X.xe s :=
  q X en W σ H z.hf.b z.rs.ho v ro pins s u z.I r
theorem dt_cmp {op : CmpOp} (ha : DE G a ta) (hb : DE G b tb) (h1 : behindInMarks op b = false := by first | exact nobehind _ (by decide) (by decide) | rfl) : DT G (.Compare a [op] [b] pos) (dTest G.B G.k (dCmp G.B G.k op ta tb)) := by
  refine ⟨fun {X en W σ H ρ S E pins s Q} z q => wpAny_isTrue_Compare1 (ha.at z q fun v s1 x' H1 W1 o S1 z1 g1 r1 ro q1 => hb.at z1 q1 fun u s2 y' H2 W2 o2 S2 z2 g2 r2 ro2 q2 => ?_) h1⟩
  refine thn (z2.op2 r1 (ro.go g2) r2 ro2 q2) fun c s3 ⟨v', H3, I3, r3, W3, o3, S3, h3, g3, ro3, q3⟩ => ?_
  exact thn (semB.at (z2.next I3 h3 g3) r3 ro3 q3) fun _ _ => tp_back ((g1.trans g2 z2.rs.ho).trans g3 h3)
theorem dt_val {e : Expr} {t : RE} (h : DE G e t) (he : ∀ (env : Env) whole, isTrue e env whole = (do let v ← whole; standAt e.pos; holding [v] (truthy v)) := by intro _ _; rfl) : DT G e (dTest G.B G.k t) := by
  refine ⟨fun {X en W σ H ρ S E pins s Q} z q => isTrue_plain (h.at z q fun v s1 x' H1 W1 o S1 z1 g1 r1 ro q1 => ?_) (he _ _)⟩
  exact thn (semB.at z1 r1 ro q1) fun _ _ => tp_back g1
variable {tA tB : RT} {rest : List Expr}
theorem DW.dt {t : RT} (h : DW G e t) : DT G e t := ⟨fun z q => h.run _ z q⟩
abbrev dAnd (t u : RT) : RT := fun ρ S E Q => t ρ S E fun c S1 => if c = true then u ρ S1 E Q else Q false S1
abbrev dOr (t u : RT) : RT := fun ρ S E Q => t ρ S E fun c S1 => if c = true then Q true S1 else u ρ S1 E Q
abbrev dNot (t : RT) : RT := fun ρ S E Q => t ρ S E fun c S1 => Q (!c) S1
theorem dw_and1 (ha : DT G a tA) : DW G (.BoolOp .And [a] pos) tA := by
  refine ⟨fun wh {X en W σ H ρ S E pins s Q} z q => isTrue_and (thn (ha.run z q) fun c s1 e => ?_)⟩
  cases c with
  | true => exact isTrue_and_nil e
  | false => exact e
theorem dw_or1 (ha : DT G a tA) : DW G (.BoolOp .Or [a] pos) tA := by
  refine ⟨fun wh {X en W σ H ρ S E pins s Q} z q => isTrue_or (thn (ha.run z q) fun c s1 e => ?_)⟩
  cases c with
  | true => exact e
  | false => exact isTrue_or_nil e
theorem dw_and (ha : DT G a tA) (hb : DW G (.BoolOp .And (b :: rest) pos) tB) : DW G (.BoolOp .And (a :: b :: rest) pos) (dAnd tA tB) := by
  refine ⟨fun wh {X en W σ H ρ S E pins s Q} z q => isTrue_and (ha.at z q fun c s1 H1 W1 S1 z1 g1 q1 => ?_)⟩
  cases c with
  | true => exact thn (hb.run wh z1 q1) fun _ _ => tp_back g1
  | false => exact ⟨H1, z1.I, W1, S1, z1.rs.ho, g1, q1⟩
theorem dw_or (ha : DT G a tA) (hb : DW G (.BoolOp .Or (b :: rest) pos) tB) : DW G (.BoolOp .Or (a :: b :: rest) pos) (dOr tA tB) := by
  refine ⟨fun wh {X en W σ H ρ S E pins s Q} z q => isTrue_or (ha.at z q fun c s1 H1 W1 S1 z1 g1 q1 => ?_)⟩
  cases c with
  | true => exact ⟨H1, z1.I, W1, S1, z1.rs.ho, g1, q1⟩
  | false => exact thn (hb.run wh z1 q1) fun _ _ => tp_back g1
theorem dt_not (ha : DT G a tA) : DT G (.UnaryOp .Not a pos) (dNot tA) :=
  ⟨fun {X en W σ H ρ S E pins s Q} z q => isTrue_not (thn (ha.run (Q := fun c S1 => Q (!c) S1) z q) fun c s1 ⟨H1, I1, q1⟩ => ⟨H1, I1, q1⟩)⟩
/-- and, or, not as values: what decides is handed back -/
abbrev dAndV (B : Bs) (k : Nat) (ta tb : RE) : RE := fun ρ S E Q => ta ρ S E fun x S1 => semB B k x S1 fun c S2 => if c = true then tb ρ S2 E Q else Q x S2
abbrev dOrV (B : Bs) (k : Nat) (ta tb : RE) : RE := fun ρ S E Q => ta ρ S E fun x S1 => semB B k x S1 fun c S2 => if c = true then Q x S2 else tb ρ S2 E Q
theorem de_one {op} {t : RE} (h : DE G a t) : DE G (.BoolOp op [a] pos) t := ⟨fun z q => BoolOp_one (h.run z q)⟩
theorem de_and (ha : DE G a ta) (hb : DE G (.BoolOp .And (b :: rest) pos) tb) : DE G (.BoolOp .And (a :: b :: rest) pos) (dAndV G.B G.k ta tb) := by
  refine ⟨fun {X en W σ H ρ S E pins s Q} z q => BoolOp_and (ha.at z q fun v s1 x' H1 W1 o S1 z1 g1 r1 ro q1 => thn (semB.at z1 r1 ro q1) fun c s2 ⟨H2, I2, W2, S2, h2, g2, q2⟩ => ?_)⟩
  have z2 := z1.next I2 h2 g2
  cases c with
  | true => exact thn (hb.run z2 q2) fun _ _ => ep_back (g1.trans g2 h2)
  | false => exact ⟨x', H2, I2, r1, W2, o, S2, h2, g1.trans g2 h2, ro.go g2, q2⟩
theorem de_or (ha : DE G a ta) (hb : DE G (.BoolOp .Or (b :: rest) pos) tb) : DE G (.BoolOp .Or (a :: b :: rest) pos) (dOrV G.B G.k ta tb) := by
  refine ⟨fun {X en W σ H ρ S E pins s Q} z q => BoolOp_or (ha.at z q fun v s1 x' H1 W1 o S1 z1 g1 r1 ro q1 => thn (semB.at z1 r1 ro q1) fun c s2 ⟨H2, I2, W2, S2, h2, g2, q2⟩ => ?_)⟩
  have z2 := z1.next I2 h2 g2
  cases c with
  | false => exact thn (hb.run z2 q2) fun _ _ => ep_back (g1.trans g2 h2)
  | true => exact ⟨x', H2, I2, r1, W2, o, S2, h2, g1.trans g2 h2, ro.go g2, q2⟩
abbrev dNotV (B : Bs) (k : Nat) (ta : RE) : RE := fun ρ S E Q => ta ρ S E fun x S1 => semB B k x S1 fun c S2 => Q (.v (.bl (!c))) S2
theorem de_not (ha : DE G a ta) : DE G (.UnaryOp .Not a pos) (dNotV G.B G.k ta) := by
  refine ⟨fun {X en W σ H ρ S E pins s Q} z q => UnaryOp_ (ha.at z q fun v s1 x' H1 W1 o S1 z1 g1 r1 ro q1 => not_of (thn (semB.at z1 r1 ro q1) fun c s2 ⟨H2, I2, W2, S2, h2, g2, q2⟩ => ?_))⟩
  exact ⟨.bl (!c), H2, I2, rfl, W2, .v (.bl (!c)), S2, h2, g1.trans g2 h2, .bl _, q2⟩
abbrev dIf (t : RT) (ta tb : RE) : RE := fun ρ S E Q => t ρ S E fun c S1 => if c = true then ta ρ S1 E Q else tb ρ S1 E Q
theorem de_if {c : Expr} (hc : DT G c tA) (ha : DE G a ta) (hb : DE G b tb) : DE G (.IfExp c a b pos) (dIf tA ta tb) := by
  refine ⟨fun {X en W σ H ρ S E pins s Q} z q => wpAny_IfExp (hc.at z q fun c s1 H1 W1 S1 z1 g1 q1 => ?_)⟩
  cases c with
  | true => exact thn (ha.run z1 q1) fun _ _ => ep_back g1
  | false => exact thn (hb.run z1 q1) fun _ _ => ep_back g1

end
end Dt

set_option Elab.async false
set_option linter.all false
set_option maxRecDepth 100000
set_option maxHeartbeats 4000000
/-! DatC: new objects, displays, calls, methods, subscripts, slices, attributes -/
namespace Dt
open PySem PySem.Spec PyProof.Rows L2 My
/-! ### new objects -/
section
variable {K : PySem.W.Frag} {en : En} {W : Wd} {H : Hp} {S : Sto} {p : Addr} {o : HO}
/-- a new object that never changes -/
def Wd.frz (W : Wd) (p : Addr) (o : HO) : Wd := ⟨upd W.F p o, W.m, W.n⟩
theorem Wd.frz_le (W : Wd) (n : W.F p = none) : W.Le (W.frz p o) := ⟨fun a u e => by
  show upd W.F p o a = some u
  rw [upd_ne (ne_of_none e n)]
  exact e, Nat.le_refl _, fun _ _ => rfl⟩
theorem Ho.nF (h : Ho K W H S) (n : H p = none) : W.F p = none := by
  cases q : W.F p with
  | none => rfl
  | some u =>
    rw [h.fh p u q] at n
    cases n
theorem RelC.upd {a : Addr} {c : Cell} (l : ∀ d v, Rep K W d v → Rep K W d v) (hp : p ≠ a) (h : RelC K W H a c) : RelC K W (upd H p o) a c := by
  cases c with
  | no => trivial
  | lst xs => exact let ⟨vs, e, r⟩ := h; ⟨vs, by rw [upd_ne hp.symm]; exact e, r⟩
  | dct xs => exact let ⟨vs, e, r⟩ := h; ⟨vs, by rw [upd_ne hp.symm]; exact e, r⟩
  | ins C fs => exact let ⟨dx, vs, e, r⟩ := h; ⟨dx, vs, by rw [upd_ne hp.symm]; exact e, r⟩
theorem RelC.le {W' : Wd} {H' : Hp} {a : Addr} {c : Cell} (l : W.Le W') (k : ∀ o, H a = some o → H' a = some o) (h : RelC K W H a c) : RelC K W' H' a c := by
  cases c with
  | no => trivial
  | lst xs => exact let ⟨vs, e, r⟩ := h; ⟨vs, k _ e, r.le l⟩
  | dct xs => exact let ⟨vs, e, r⟩ := h; ⟨vs, k _ e, r.le l⟩
  | ins C fs => exact let ⟨dx, vs, e, r⟩ := h; ⟨dx, vs, k _ e, r.le l⟩
theorem upd_keep {a : Addr} {u : HO} (n : H p = none) (e : H a = some u) : upd H p o a = some u := by
  rw [upd_ne (ne_of_none e n)]
  exact e
theorem Ho.frz (h : Ho K W H S) (n : H p = none) : Ho K (W.frz p o) (upd H p o) S where
  n := h.n
  fh := fun a u e => by
    by_cases z : a = p
    · subst z
      rw [show (W.frz a o).F a = some o from upd_same] at e
      rw [upd_same]
      exact e
    · rw [show (W.frz p o).F a = W.F a from upd_ne z] at e
      rw [upd_ne z]
      exact h.fh a u e
  inj := h.inj
  mF := fun i hi => by
    have q : W.m i ≠ p := fun c => by
      obtain ⟨u, e⟩ := h.there i hi
      rw [c, n] at e
      cases e
    show upd W.F p o (W.m i) = none
    rw [upd_ne q]
    exact h.mF i hi
  there := fun i hi => let ⟨u, e⟩ := h.there i hi; ⟨u, upd_keep n e⟩
  cel := fun i c e => (h.cel i c e).le (W.frz_le (h.nF n)) fun u q => upd_keep n q
theorem Go.frz (h : Ho K W H S) (n : H p = none) : Go W H (W.frz p o) (upd H p o) where
  le := W.frz_le (h.nF n)
  fn := fun a u e => by
    by_cases z : a = p
    · subst z
      exact .inr n
    · rw [show (W.frz p o).F a = W.F a from upd_ne z] at e
      exact .inl e
  kp := fun a u e _ => upd_keep n e
  mn := fun i h1 h2 => absurd h2 (Nat.not_lt.mpr h1)
/-- a new object of the store -/
def Wd.cell (W : Wd) (p : Addr) : Wd := ⟨W.F, fun i => if i = W.n then p else W.m i, W.n + 1⟩
theorem Wd.cell_at {i : Nat} (h : i < W.n) : (W.cell p).m i = W.m i := if_neg (Nat.ne_of_lt h)
theorem Wd.cell_new : (W.cell p).m W.n = p := if_pos rfl
theorem Wd.cell_le : W.Le (W.cell p) := ⟨fun _ _ e => e, Nat.le_succ _, fun i h => Wd.cell_at h⟩
theorem Ho.cell {c : Cell} (h : Ho K W H S) (n : H p = none) (r : RelC K (W.cell p) (upd H p o) p c) : Ho K (W.cell p) (upd H p o) (S ++ [c]) where
  n := by
    show W.n + 1 = _
    rw [h.n, List.length_append] <;> rfl
  fh := fun a u e => upd_keep n (h.fh a u e)
  inj := fun i j hi hj e => by
    have hi : i < W.n + 1 := hi
    have hj : j < W.n + 1 := hj
    have ne : ∀ i, i < W.n → W.m i ≠ p := fun i hi c => by
      obtain ⟨u, e⟩ := h.there i hi
      rw [c, n] at e
      cases e
    by_cases z1 : i = W.n
    · subst z1
      by_cases z2 : j = W.n
      · exact z2.symm
      · rw [Wd.cell_new, Wd.cell_at (by omega)] at e
        exact absurd e.symm (ne j (by omega))
    · by_cases z2 : j = W.n
      · subst z2
        rw [Wd.cell_new, Wd.cell_at (by omega)] at e
        exact absurd e (ne i (by omega))
      · rw [Wd.cell_at (by omega), Wd.cell_at (by omega)] at e
        exact h.inj i j (by omega) (by omega) e
  mF := fun i hi => by
    have hi : i < W.n + 1 := hi
    by_cases z : i = W.n
    · subst z
      rw [Wd.cell_new]
      exact h.nF n
    · rw [Wd.cell_at (by omega)]
      exact h.mF i (by omega)
  there := fun i hi => by
    have hi : i < W.n + 1 := hi
    by_cases z : i = W.n
    · subst z
      rw [Wd.cell_new]
      exact ⟨o, upd_same⟩
    · rw [Wd.cell_at (by omega)]
      exact let ⟨u, e⟩ := h.there i (by omega); ⟨u, upd_keep n e⟩
  cel := fun i d e => by
    by_cases z : i < S.length
    · rw [List.getElem?_append_left z] at e
      rw [Wd.cell_at (by rw [h.n]; exact z)]
      exact (h.cel i d e).le Wd.cell_le fun u q => upd_keep n q
    · rw [List.getElem?_append_right (by omega)] at e
      have z2 : i = S.length := by
        have := (List.getElem?_eq_some_iff.mp e).1
        simp only [List.length_cons, List.length_nil] at this
        omega
      subst z2
      rw [Nat.sub_self, List.getElem?_cons_zero] at e
      cases e
      rw [← h.n, Wd.cell_new]
      exact r
theorem Go.cell (h : Ho K W H S) (n : H p = none) : Go W H (W.cell p) (upd H p o) where
  le := Wd.cell_le
  fn := fun a u e => .inl e
  kp := fun a u e _ => upd_keep n e
  mn := fun i h1 h2 => by
    have h2 : i < W.n + 1 := h2
    have z : i = W.n := by omega
    subst z
    rw [Wd.cell_new]
    exact n
/-- an object of the store changes -/
theorem Ho.put {i : Nat} {c : Cell} (h : Ho K W H S) (hi : i < W.n) (r : RelC K W (L2.upd H (W.m i) o) (W.m i) c) : Ho K W (L2.upd H (W.m i) o) (S.set i c) where
  n := by rw [List.length_set]; exact h.n
  fh := fun a u e => by
    have q : a ≠ W.m i := fun z => by
      rw [z, h.mF i hi] at e
      cases e
    rw [upd_ne q]
    exact h.fh a u e
  inj := h.inj
  mF := h.mF
  there := fun j hj => by
    by_cases z : W.m j = W.m i
    · rw [z]
      exact ⟨o, upd_same⟩
    · rw [upd_ne z]
      exact h.there j hj
  cel := fun j d e => by
    by_cases z : j = i
    · subst z
      rw [List.getElem?_set_self (by rw [← h.n]; exact hi)] at e
      cases e
      exact r
    · rw [List.getElem?_set_ne (Ne.symm z)] at e
      have hj : j < W.n := by
        rw [h.n]
        exact (List.getElem?_eq_some_iff.mp e).1
      have q : W.m j ≠ W.m i := fun c => z (h.inj j i hj hi c)
      exact (h.cel j d e).le .refl fun u y => by
        rw [upd_ne q]
        exact y
theorem Go.put {i : Nat} (hi : i < W.n) : Go W H W (L2.upd H (W.m i) o) where
  le := .refl
  fn := fun a u e => .inl e
  kp := fun a u e n => by
    rw [upd_ne (fun z => n i hi z.symm)]
    exact e
  mn := fun i h1 h2 => absurd h2 (Nat.not_lt.mpr h1)
end

/-! ### argument lists, displays -/
/-- values all of which may be handed on -/
def Sol (os : List O) (ds : List D) : Prop := os = ds.map O.v
theorem Sol.rep {K : PySem.W.Frag} {en : En} {W : Wd} {H : Hp} : ∀ {ds : List D} {vs : List V}, RepOs K en W H (ds.map O.v) vs → Reps K W ds vs
  | [], _, .nil => .nil
  | _ :: ds, _, .cons h t => .cons h (Sol.rep t)
theorem Reps.os {K : PySem.W.Frag} {en : En} {W : Wd} {H : Hp} : ∀ {ds : List D} {vs : List V}, Reps K W ds vs → RepOs K en W H (ds.map O.v) vs
  | _, _, .nil => .nil
  | _, _, .cons h t => .cons h (Reps.os t)
section
variable {G : Cf} {X : Cx} {en : En} {W W1 : Wd} {σ : L2.St} {H H1 : Hp} {ρ : List Sl} {S S1 : Sto} {E : XD} {pins : List (Addr × Obj)} {s s1 : Shared} {e a b c o : Expr} {es : List Expr} {kws : List Keyword} {t ta tb tc te to : RE} {tA tK : RA} {pos p apos : Pos} {x m : Str}
abbrev aNil : RA := fun _ S _ Q => Q [] S
abbrev aCons (ta : RE) (tr : RA) : RA := fun ρ S E Q => ta ρ S E fun x S1 => tr ρ S1 E fun xs S2 => Q (x :: xs) S2
theorem da_nil : DA G [] aNil := ⟨fun pos {X en W σ H ρ S E pins s Q} z q => Calls.spliced_nil ⟨[], H, z.I, .nil, W, [], S, z.rs.ho, .refl, .nil, q⟩⟩
theorem da_cons (ha : DE G e te) (hr : DA G es tA) (hs : ∀ env : Env, starEach (e :: es) env = (false, eval e env) :: starEach es env := by intro _; rfl) : DA G (e :: es) (aCons te tA) := by
  refine ⟨fun pos {X en W σ H ρ S E pins s Q} z q => ?_⟩
  rw [hs]
  show wpAny _ _ (spliced ((false, eval e X.env) :: backTo pos (starEach es X.env))) _ _ s
  refine Calls.spliced_cons (ha.at z q fun u s1 x' H1 W1 o S1 z1 g1 r1 ro q1 => ?_)
  refine hr.at pos z1 q1 fun us s2 vs H2 W2 os S2 z2 g2 r2 ro2 q2 => ?_
  exact ⟨x' :: vs, H2, z2.I, .cons r1 r2, W2, o :: os, S2, z2.rs.ho, g1.trans g2 z2.rs.ho, .cons (ro.go g2) ro2, q2⟩
theorem dk_nil : DK G [] aNil := ⟨fun pos {X en W σ H ρ S E pins s Q} z q => wpAny_evalAll_nil ⟨[], H, z.I, .nil, W, [], S, z.rs.ho, .refl, .nil, q⟩⟩
theorem dk_cons {nm : Option Str} {kpos : Pos} (ha : DE G e te) (hr : DK G kws tK) : DK G (⟨nm, e, kpos⟩ :: kws) (aCons te tK) := by
  refine ⟨fun pos {X en W σ H ρ S E pins s Q} z q => ?_⟩
  show wpAny _ _ (evalAll ((do let v ← eval e X.env; standAt pos; pure v) :: (backToKw pos (keywordEach kws X.env)).map (·.2))) _ _ s
  refine wpAny_evalAll_cons (wpAny_bind (ha.at z q fun u s1 x' H1 W1 o S1 z1 g1 r1 ro q1 => wpAny_bind (wpAny_standAt (wpAny_pure ?_))))
  refine hr.at pos z1 q1 fun us s2 vs H2 W2 os S2 z2 g2 r2 ro2 q2 => ?_
  exact ⟨x' :: vs, H2, z2.I, .cons r1 r2, W2, o :: os, S2, z2.rs.ho, g1.trans g2 z2.rs.ho, .cons (ro.go g2) ro2, q2⟩
def sz (n : Nat) : Prop := n ≤ sizeLine
/-- (a, b), [a, b]: of values; a list may stand in the store -/
abbrev dTup (tA : RA) : RE := fun ρ S E Q => tA ρ S E fun os S1 => ∃ ds, Sol os ds ∧ sz ds.length ∧ Q (.v (.tup ds)) S1
abbrev dLst (tA : RA) : RE := fun ρ S E Q => tA ρ S E fun os S1 => ∃ ds, Sol os ds ∧ sz ds.length ∧ (Q (.v (.lst ds)) S1 ∨ Q (.v (.ptr S1.length)) (S1 ++ [.lst ds]))
theorem de_tup {x1} (h : DA G es tA) : DE G (.Tuple es x1 pos) (dTup tA) := by
  refine ⟨fun {X en W σ H ρ S E pins s Q} z q => ?_⟩
  refine wpAny_Tuple_spliced (h.at pos z q fun us s1 vs H1 W1 os S1 z1 g1 r1 ro ⟨ds, so, hz, q1⟩ => ?_)
  subst so
  have hr := Sol.rep ro
  have hl : vs.length ≤ sizeLine := by rw [hr.len]; exact hz
  refine ⟨by rw [← r1.length]; exact hl, ?_⟩
  have hf : H1 s1.heap.objs.size = none := z1.I.hok.fresh (Nat.le_refl _)
  refine ⟨.ref s1.heap.objs.size, upd H1 s1.heap.objs.size (.tup vs), z1.I.laid (t' := s1.toks) (fun b u e => Heap.get?_push_of_some _ e) (Nat.le_refl _) ?_, rfl, ?_⟩
  · exact ⟨hl, us, r1, ⟨_, Heap.get?_push_size _ rfl, rfl, _, rfl⟩⟩
  · exact ⟨_, .v (.tup ds), S1, z1.rs.ho.frz hf, g1.trans (Go.frz z1.rs.ho hf) (z1.rs.ho.frz hf), .tup (SqT.of upd_same) (hr.le (W1.frz_le (z1.rs.ho.nF hf))), q1⟩
theorem de_lst (h : DA G es tA) : DE G (.List es pos) (dLst tA) := by
  refine ⟨fun {X en W σ H ρ S E pins s Q} z q => ?_⟩
  refine wpAny_List_spliced (h.at pos z q fun us s1 vs H1 W1 os S1 z1 g1 r1 ro ⟨ds, so, hz, q1⟩ => ?_)
  subst so
  have hr := Sol.rep ro
  have hl : vs.length ≤ sizeLine := by rw [hr.len]; exact hz
  refine ⟨by rw [← r1.length]; exact hl, ?_⟩
  have hf : H1 s1.heap.objs.size = none := z1.I.hok.fresh (Nat.le_refl _)
  refine ⟨.ref s1.heap.objs.size, upd H1 s1.heap.objs.size (.lst vs), z1.I.laid (t' := s1.toks) (fun b u e => Heap.get?_push_of_some _ e) (Nat.le_refl _) ⟨hl, us, 0, r1, Heap.get?_push_size _ rfl⟩, rfl, ?_⟩
  rcases q1 with q1 | q1
  · exact ⟨_, .v (.lst ds), S1, z1.rs.ho.frz hf, g1.trans (Go.frz z1.rs.ho hf) (z1.rs.ho.frz hf), .lst (.inl upd_same) (hr.le (W1.frz_le (z1.rs.ho.nF hf))), q1⟩
  · have ho : Ho G.B.K (W1.cell s1.heap.objs.size) (upd H1 s1.heap.objs.size (.lst vs)) (S1 ++ [.lst ds]) := z1.rs.ho.cell hf ⟨vs, upd_same, hr.le Wd.cell_le⟩
    refine ⟨_, .v (.ptr S1.length), _, ho, g1.trans (Go.cell z1.rs.ho hf) ho, ?_, q1⟩
    have r : Rep G.B.K (W1.cell s1.heap.objs.size) (.ptr W1.n) (.ref ((W1.cell s1.heap.objs.size).m W1.n)) := .ptr (Nat.lt_succ_self _)
    rw [Wd.cell_new, z1.rs.ho.n] at r
    exact r

/-! ### calls -/
/-- a call of an own def, of an own class, wherever no error is handled -/
def sFun (B : Bs) (k : Nat) (fv : Value) (ks : List Str) (ds zs : List D) (S : Sto) (Ex : XS) (Q : QO) : Prop :=
  ∀ (A : Around) (outer : List Env) (s : Shared) (W : Wd) (H : Hp) (en : En) (σ : L2.St) (vs ws : List V) (us us' : List Value), My.RG k A → Env0 B.P B.w B.K B.mg B.base A outer s H → B.K.In s.heap → Ho B.K W H S → Reps B.K W ds vs → Reps B.K W zs ws → Vals vs us → Vals ws us' →
    codeAny (model B.P B.w) A (.call fv ⟨us, ks.zip us'⟩) (CR (L2.CX B.P B.w) outer B.P B.w H s (Nx B.K en W H Q) (WE (XN B.K W H σ Ex) σ)) s
theorem fits_env {B : Bs} {k : Nat} (ft : FitsB B k X en) (I : Inv X pins σ H s) : Env0 B.P B.w B.K B.mg B.base X.A X.stack s H ∧ B.K.In s.heap := by
  have e := I.env0
  rw [ft.P, ft.w, ft.K, ft.mg, ft.base] at e
  exact ⟨e, by rw [← ft.K]; exact I.kIn⟩
theorem sFun.run {B : Bs} {k : Nat} {fv : Value} {ks : List Str} {ds zs : List D} {Ex : XS} {Q : QO} (h : sFun B k fv ks ds zs S Ex Q) (hot : B.hot = false) (ft : FitsB B k X en) (tk : Takes X (XN B.K W H σ Ex)) (ho : Ho B.K W H S) {vs ws : List V} {us us' : List Value} (rd : Reps B.K W ds vs) (rz : Reps B.K W zs ws) (I : Inv X pins σ H s) (rv : Vals vs us) (rw' : Vals ws us') :
    wpAny (model X.prog X.w) X.A (call fv us (ks.zip us')) (EP X pins σ (Nx B.K en W H Q)) X.xe s := by
  obtain ⟨e0, KX⟩ := fits_env ft I
  have key := h X.A X.stack s W H en σ vs ws us us' (ft.rg hot) e0 KX ho rd rz rv rw'
  rw [← ft.P, ← ft.w] at key
  refine wpAny_call (codeAny_mono key fun y s' hq' => ?_)
  match y, hq' with
  | .error er, hq' => exact passAt tk σ pins H s er s' I hq'
  | .ok (.ret u), hq' => exact I.after hq'
theorem At.fn {fv : Value} {ks : List Str} {ds zs : List D} {vs ws : List V} {us us' : List Value} {Q : QO} (hc : G.B.hot = false) (z : At G X en W σ H ρ S E pins s) (q : sFun G.B G.k fv ks ds zs S (E ρ) Q) (rd : RepOs G.B.K en W H (ds.map O.v) vs) (rz : RepOs G.B.K en W H (zs.map O.v) ws) (rv : Vals vs us) (rw' : Vals ws us') :
    wpAny (model X.prog X.w) X.A (call fv us (ks.zip us')) (EP X pins σ (Nx G.B.K en W H Q)) X.xe s := q.run hc z.hf.b z.xn z.rs.ho (Sol.rep rd) (Sol.rep rz) z.I rv rw'
/-- f(..), f a def or a class of the module -/
abbrev dCallF (B : Bs) (k : Nat) (fv : Value) (ks : List Str) (tA tK : RA) : RE := fun ρ S E Q => tA ρ S E fun xs S1 => ∃ ds, Sol xs ds ∧ tK ρ S1 E fun zs S2 => ∃ es, Sol zs es ∧ sFun B k fv ks ds es S2 (E ρ) Q
/-- .. of a built-in -/
abbrev dCall (B : Bs) (k : Nat) (fv : Value) (ks : List Str) (tA tK : RA) : RE := fun ρ S E Q => tA ρ S E fun xs S1 => tK ρ S1 E fun zs S2 => sCall B k fv ks xs zs S2 (E ρ) Q
theorem At.call {fv : Value} {ks : List Str} {xs zs : List O} {xs' zs' : List V} {us ws : List Value} {Q : QO} (z : At G X en W σ H ρ S E pins s) (q : sCall G.B G.k fv ks xs zs S (E ρ) Q) (rx : RepOs G.B.K en W H xs xs') (rz : RepOs G.B.K en W H zs zs') (vx : Vals xs' us) (vz : Vals zs' ws) :
    wpAny (model X.prog X.w) X.A (call fv us (ks.zip ws)) (EP X pins σ (Nx G.B.K en W H Q)) X.xe s := q X en W σ H z.hf.b z.xn z.rs.ho xs' zs' rx rz pins s us ws z.I vx vz
structure Own1 (B : Bs) (x : Str) : Prop where
  g : B.mg x = some (.ref (He.ga B.K x))
  kp : PySem.W.keepIn B.K (.ref (He.ga B.K x)) = true
theorem At.kin (z : At G X en W σ H ρ S E pins s) : G.B.K.In X.base := by
  rw [← z.hf.b.K]
  exact z.I.ok.mod.kin
theorem At.kIn (z : At G X en W σ H ρ S E pins s) : G.B.K.In s.heap := by
  rw [← z.hf.b.K]
  exact z.I.kIn
theorem de_call (hc : G.B.hot = false) (hg : Glb G x) (o : Own1 G.B x) (ha : DA G (e :: es) tA) (hdb : (x == ("__debug__" : Str)) = false := by decide)
    (he : ∀ env : Env, starEach (e :: es) env = (false, eval e env) :: starEach es env := by intro _; rfl) (hpl : ∀ env : Env, (backTo pos (starEach es env)).any (·.1) = false := by intro _; rfl) :
    DE G (.Call (.Name x p) (e :: es) [] pos) (dCallF G.B G.k (.ref (He.ga G.B.K x)) [] tA aNil) := by
  refine ⟨fun {X en W σ H ρ S E pins s Q} z q => wpAny_Call_Name_kw (ld_glob z.I (gl_of z.hf.sc hg) (by rw [z.hf.b.mg]; exact o.g) ?_ hdb)⟩
  refine PySem.W.callWith_K (h₀ := X.base) z.kin o.kp (ha.at pos z q fun us s1 vs H1 W1 os S1 z1 g1 r1 ro ⟨ds, so, es', se, q1⟩ => ⟨z1.kIn, ?_⟩) (he _) (hpl _)
  subst so
  obtain rfl : es' = [] := by cases es' <;> first | rfl | cases se
  exact thn (z1.fn hc (us' := []) q1 ro .nil r1 .nil) fun _ _ => ep_back g1
theorem de_call0 (hc : G.B.hot = false) (hg : Glb G x) (o : Own1 G.B x) (hdb : (x == ("__debug__" : Str)) = false := by decide) : DE G (.Call (.Name x p) [] [] pos) (dCallF G.B G.k (.ref (He.ga G.B.K x)) [] aNil aNil) := by
  refine ⟨fun {X en W σ H ρ S E pins s Q} z ⟨ds, so, es', se, q⟩ => wpAny_Call_Name_kw (ld_glob z.I (gl_of z.hf.sc hg) (by rw [z.hf.b.mg]; exact o.g) ?_ hdb)⟩
  obtain rfl : ds = [] := by cases ds <;> first | rfl | cases so
  obtain rfl : es' = [] := by cases es' <;> first | rfl | cases se
  exact PySem.W.callWith_K0 z.kIn o.kp (z.fn hc (us := []) (us' := []) q .nil .nil .nil .nil)
theorem de_callk {ks : List Str} (hc : G.B.hot = false) (hg : Glb G x) (o : Own1 G.B x) (ha : DA G (e :: es) tA) (hk : DK G kws tK) (hdb : (x == ("__debug__" : Str)) = false := by decide)
    (he : ∀ env : Env, starEach (e :: es) env = (false, eval e env) :: starEach es env := by intro _; rfl) (hall : ∀ env : Env, (backToKw pos (keywordEach kws env)).all (·.1.isSome) = true := by intro _; rfl)
    (hks : ∀ env : Env, (backToKw pos (keywordEach kws env)).filterMap (·.1) = ks := by intro _; rfl) (hpl : ∀ env : Env, ((backTo pos (starEach (e :: es) env)).any (·.1) || (backToKw pos (keywordEach kws env)).any (·.1.isNone)) = false := by intro _; rfl) :
    DE G (.Call (.Name x p) (e :: es) kws pos) (dCallF G.B G.k (.ref (He.ga G.B.K x)) ks tA tK) := by
  refine ⟨fun {X en W σ H ρ S E pins s Q} z q => wpAny_Call_Name_kw (ld_glob z.I (gl_of z.hf.sc hg) (by rw [z.hf.b.mg]; exact o.g) ?_ hdb)⟩
  refine PySem.W.callWith_KW (h₀ := X.base) z.kin o.kp (hall _) (ha.at pos z q fun us s1 vs H1 W1 os S1 z1 g1 r1 ro ⟨ds, so, q1⟩ => hk.at pos z1 q1 fun ws s2 zs H2 W2 os2 S2 z2 g2 r2 ro2 ⟨es', se, q2⟩ => ⟨z2.kIn, ?_⟩) (hpl _) (he _)
  subst so se
  rw [hks]
  exact thn (z2.fn hc q2 (RepOs.go g2 ro) ro2 r1 r2) fun _ _ => ep_back (g1.trans g2 z2.rs.ho)
theorem de_callk0 {ks : List Str} (hc : G.B.hot = false) (hg : Glb G x) (o : Own1 G.B x) (hk : DK G kws tK) (hdb : (x == ("__debug__" : Str)) = false := by decide) (hall : ∀ env : Env, (backToKw pos (keywordEach kws env)).all (·.1.isSome) = true := by intro _; rfl)
    (hks : ∀ env : Env, (backToKw pos (keywordEach kws env)).filterMap (·.1) = ks := by intro _; rfl) (hpl : ∀ env : Env, ((backTo pos (starEach [] env)).any (·.1) || (backToKw pos (keywordEach kws env)).any (·.1.isNone)) = false := by intro _; rfl) :
    DE G (.Call (.Name x p) [] kws pos) (dCallF G.B G.k (.ref (He.ga G.B.K x)) ks aNil tK) := by
  refine ⟨fun {X en W σ H ρ S E pins s Q} z ⟨ds, so, q⟩ => wpAny_Call_Name_kw (ld_glob z.I (gl_of z.hf.sc hg) (by rw [z.hf.b.mg]; exact o.g) ?_ hdb)⟩
  obtain rfl : ds = [] := by cases ds <;> first | rfl | cases so
  refine PySem.W.callWith_KW0 (h₀ := X.base) z.kin o.kp (hall _) (hk.at pos z q fun ws s2 zs H2 W2 os2 S2 z2 g2 r2 ro2 ⟨es', se, q2⟩ => ⟨z2.kIn, ?_⟩) (hpl _)
  subst se
  rw [hks]
  exact thn (z2.fn hc (us := []) q2 .nil ro2 .nil r2) fun _ _ => ep_back g2
/-- a built-in function, a built-in type -/
theorem de_callB {id : String} (hg : Glb G x) (hm : G.B.mg x = none) (hv : bootBuiltins x = some (.builtin id)) (ha : DA G (e :: es) tA) (hn : x ≠ "__name__" := by decide) (hdb : (x == ("__debug__" : Str)) = false := by decide)
    (he : ∀ env : Env, starEach (e :: es) env = (false, eval e env) :: starEach es env := by intro _; rfl) (hpl : ∀ env : Env, (backTo pos (starEach es env)).any (·.1) = false := by intro _; rfl) :
    DE G (.Call (.Name x p) (e :: es) [] pos) (dCall G.B G.k (.builtin id) [] tA aNil) := by
  refine ⟨fun {X en W σ H ρ S E pins s Q} z q => wpAny_Call_Name_kw (ld_blt z.I (gl_of z.hf.sc hg) (by rw [z.hf.b.mg]; exact hm) hv ?_ hn hdb)⟩
  exact PyProof.Rows.callWith_builtin1 (ha.at pos z q fun us s1 vs H1 W1 os S1 z1 g1 r1 ro q1 => thn (z1.call (ws := []) q1 ro .nil r1 .nil) fun _ _ => ep_back g1) (he _) (hpl _)
theorem de_callT {T : String} (hg : Glb G x) (hm : G.B.mg x = none) (hv : bootBuiltins x = some (.type T)) (ha : DA G (e :: es) tA) (hn : x ≠ "__name__" := by decide) (hdb : (x == ("__debug__" : Str)) = false := by decide)
    (he : ∀ env : Env, starEach (e :: es) env = (false, eval e env) :: starEach es env := by intro _; rfl) (hpl : ∀ env : Env, (backTo pos (starEach es env)).any (·.1) = false := by intro _; rfl) :
    DE G (.Call (.Name x p) (e :: es) [] pos) (dCall G.B G.k (.type T) [] tA aNil) := by
  refine ⟨fun {X en W σ H ρ S E pins s Q} z q => wpAny_Call_Name_kw (ld_blt z.I (gl_of z.hf.sc hg) (by rw [z.hf.b.mg]; exact hm) hv ?_ hn hdb)⟩
  exact PyProof.Rows.callWith_type1 (ha.at pos z q fun us s1 vs H1 W1 os S1 z1 g1 r1 ro q1 => thn (z1.call (ws := []) q1 ro .nil r1 .nil) fun _ _ => ep_back g1) (he _) (hpl _)
/-- a callable that stands in a slot: a def or a class of the module -/
def Fv (K : PySem.W.Frag) : D → Value → Prop
  | .cls C, v => v = .ref (He.ga K C)
  | .fn f, v => v = .ref (He.ga K f)
  | _, _ => False
abbrev dCallL (B : Bs) (k : Nat) (i : Nat) (ks : List Str) (tA tK : RA) : RE := fun ρ S E Q => ∃ d fv, ρ[i]? = some (.sh d) ∧ Fv B.K d fv ∧ PySem.W.keepIn B.K fv = true ∧ tA ρ S E fun xs S1 => ∃ ds, Sol xs ds ∧ tK ρ S1 E fun zs S2 => ∃ es, Sol zs es ∧ sFun B k fv ks ds es S2 (E ρ) Q
theorem fv_eq {K : PySem.W.Frag} {W : Wd} {d : D} {fv : Value} {x : V} {u : Value} (h : Fv K d fv) (r : Rep K W d x) (rv : RelV x u) : u = fv := by
  cases r with
  | cls C => exact (show u = _ from rv).trans (show fv = _ from h).symm
  | fn f => exact (show u = _ from rv).trans (show fv = _ from h).symm
  | _ => exact h.elim
theorem de_callL {i : Nat} (hc : G.B.hot = false) (hN : G.N[i]? = some x) (hv : Vis G.sc x) (ha : DA G (e :: es) tA) (hdb : (x == ("__debug__" : Str)) = false := by decide) (hcd : (x == ("__classdict__" : Str)) = false := by decide)
    (he : ∀ env : Env, starEach (e :: es) env = (false, eval e env) :: starEach es env := by intro _; rfl) (hpl : ∀ env : Env, (backTo pos (starEach es env)).any (·.1) = false := by intro _; rfl) :
    DE G (.Call (.Name x p) (e :: es) [] pos) (dCallL G.B G.k i [] tA aNil) := by
  refine ⟨fun {X en W σ H ρ S E pins s Q} z ⟨d, fv, e1, hfv, hkp, q⟩ => wpAny_Call_Name_kw ?_⟩
  have P0 : PE X (.Name x p) (tVar i) := pe_var (by rw [z.hf.N]; exact hN) (by rw [z.hf.sc]; exact hv) hdb hcd
  obtain ⟨v, e2, r⟩ := z.rs.sl i _ e1
  refine thn (P0.run pins s σ H (fun v' H' => v' = v ∧ H' = H) z.I ⟨v, e2, rfl, rfl⟩) fun u s1 ⟨v', H1, I1, rv, e3, e4⟩ => ?_
  subst e3 e4
  rw [fv_eq hfv r rv]
  have z0 : At G X en W σ H1 ρ S E pins s1 := ⟨z.hf, z.tk, z.rs, I1⟩
  refine PySem.W.callWith_K (h₀ := X.base) z0.kin hkp (ha.at pos z0 q fun us s1 vs H1 W1 os S1 z1 g1 r1 ro ⟨ds, so, es', se, q1⟩ => ⟨z1.kIn, ?_⟩) (he _) (hpl _)
  subst so
  obtain rfl : es' = [] := by cases es' <;> first | rfl | cases se
  exact thn (z1.fn hc (us' := []) q1 ro .nil r1 .nil) fun _ _ => ep_back g1

/-! ### methods of built-in types -/
/-- o.name(..): the type's method id -/
abbrev dBM0 (B : Bs) (k : Nat) (T id : String) (to : RE) : RE := fun ρ S E Q => to ρ S E fun x S1 => isT T x S1 ∧ sCall B k (.builtin id) [] [x] [] S1 (E ρ) Q
where isT (T : String) : O → Sto → Prop
  | .v (.str _), _ => T = "str"
  | .v (.lst _), _ => T = "list"
  | .b _, _ => T = "list"
  | .v (.ptr i), S => (T = "list" ∧ ∃ xs, S[i]? = some (.lst xs)) ∨ (T = "dict" ∧ ∃ xs, S[i]? = some (.dct xs))
  | .v (.dct _), _ => T = "dict"
  | .bd _, _ => T = "dict"
  | _, _ => False
abbrev dBM (B : Bs) (k : Nat) (T id : String) (to : RE) (tA : RA) : RE := fun ρ S E Q => to ρ S E fun x S1 => dBM0.isT T x S1 ∧ tA ρ S1 E fun xs S2 => sCall B k (.builtin id) [] (x :: xs) [] S2 (E ρ) Q
theorem isT_ty {T : String} {o : O} {v : V} {K : PySem.W.Frag} (ho : Ho K W H S) (h : dBM0.isT T o S) (r : RepO K en W H o v) : tyV K T v H := by
  cases o with
  | v d =>
    cases r with
    | str x => exact h
    | lst q r => exact .inl ⟨h, _, .inl (rd_le ho.fh q)⟩
    | dct q r => exact .inr (.inr (.inl ⟨h, .inl ⟨_, ho.fh _ _ q⟩⟩))
    | ptr hi =>
      rcases h with ⟨e, xs, q⟩ | ⟨e, xs, q⟩
      · obtain ⟨vs, q2, _⟩ := ho.cel _ _ q
        exact .inl ⟨e, vs, SqL.of q2⟩
      · obtain ⟨vs, q2, _⟩ := ho.cel _ _ q
        exact .inr (.inr (.inl ⟨e, .inl ⟨vs, q2⟩⟩))
    | _ => exact h.elim
  | b xs =>
    obtain ⟨a, vs, rfl, q, _⟩ := r
    exact .inl ⟨h, vs, SqL.of q⟩
  | bd xs =>
    obtain ⟨a, vs, rfl, q, _⟩ := r
    exact .inr (.inr (.inl ⟨h, .inl ⟨vs, q⟩⟩))
  | s C fs => exact h.elim
theorem de_bm0 {T id : String} {name : Str} {cpos : Pos} (pa : PlainAttrs T) (slot : Slot T name id) (hty : typeOf (.builtin id) = pure (.type "method_descriptor")) (ho : DE G o to)
    (hbase : ∀ env : Env, attributeBase o name env (eval o env) = eval o env := by intro _; rfl) (hline : (apos.endLine == cpos.line) = true := by rfl) : DE G (.Call (.Attribute o name apos) [] [] cpos) (dBM0 G.B G.k T id to) := by
  refine ⟨fun {X en W σ H ρ S E pins s Q} z q => wpAny_Call_method0_late (hbase _) hline (ho.at z q fun v s1 x' H1 W1 o1 S1 z1 g1 r1 ro ⟨ty, q1⟩ => ?_)⟩
  obtain ⟨h1, h2⟩ := tyV_is z1.I r1 (by rw [z.hf.b.K]; exact isT_ty z1.rs.ho ty ro)
  refine ⟨T, id, pa, slot, hty, h1, h2, Calls.callWith_builtin rfl (PySem.evalArgs_none ?_)⟩
  exact thn (z1.call (us := [v]) (ws := []) q1 (.cons ro .nil) .nil (.cons r1 .nil) .nil) fun _ _ => ep_back g1
theorem de_bm {T id : String} {name : Str} {cpos : Pos} (pa : PlainAttrs T) (slot : Slot T name id) (hty : typeOf (.builtin id) = pure (.type "method_descriptor")) (ho : DE G o to) (ha : DA G (e :: es) tA)
    (hbase : ∀ env : Env, attributeBase o name env (eval o env) = eval o env := by intro _; rfl)
    (hfew : ∀ env : Env, ((backTo cpos (starEach (e :: es) env)).all (fun x => !x.1) && (backToKw cpos (keywordEach [] env)).all (fun x => x.1.isSome)
      && decide ((e :: es).length + ([] : List Keyword).length + (if ([] : List Keyword).isEmpty then 0 else 1) < 30)) = true := by intro _; rfl)
    (hline : (apos.endLine == cpos.line) = true := by rfl) (hs : ∀ env : Env, starEach (e :: es) env = (false, eval e env) :: starEach es env := by intro _; rfl) (hplain : ∀ env : Env, (backTo cpos (starEach es env)).any (·.1) = false := by intro _; rfl) :
    DE G (.Call (.Attribute o name apos) (e :: es) [] cpos) (dBM G.B G.k T id to tA) := by
  refine ⟨fun {X en W σ H ρ S E pins s Q} z q => wpAny_Call_method_late (hbase _) (hfew _) hline rfl (ho.at z q fun v s1 x' H1 W1 o1 S1 z1 g1 r1 ro ⟨ty, q1⟩ => ?_)⟩
  obtain ⟨h1, h2⟩ := tyV_is z1.I r1 (by rw [z.hf.b.K]; exact isT_ty z1.rs.ho ty ro)
  refine ⟨T, id, pa, slot, hty, h1, h2, ?_⟩
  have hA := ha.at (P := fun us s2 => wpAny (model X.prog X.w) X.A (call (.builtin id) (v :: us)) (EP X pins σ (Nx G.B.K en W H Q)) X.xe s2) cpos z1 q1 fun us s2 vs H2 W2 os S2 z2 g2 r2 ro2 q2 =>
    thn (z2.call (us := v :: us) (ws := []) q2 (.cons (ro.go g2) ro2) .nil (.cons r1 r2) .nil) fun _ _ => ep_back (g1.trans g2 z2.rs.ho)
  rw [hs] at hA ⊢
  refine Calls.callWith_builtin (by show (false || (backTo cpos (starEach es X.env)).any (·.1)) = false; rw [hplain] <;> rfl) (Calls.evalArgs_plain hA)

/-! ### subscripts, slices, attributes -/
/-- x[y] -/
def sIx (B : Bs) (k : Nat) (x y : O) (S : Sto) (Ex : XS) (Q : QO) : Prop :=
  ∀ (X : Cx) (en : En) (W : Wd) (σ : L2.St) (H : Hp), FitsB B k X en → Takes X (XN B.K W H σ Ex) → Ho B.K W H S → ∀ x' y', RepO B.K en W H x x' → RepO B.K en W H y y' →
    ∀ (value slice : Expr) (pins : List (Addr × Obj)) (s : Shared) (v u : Value), Inv X pins σ H s → RelV x' v → RelV y' u → subscripted slice false v u = operate [v, u] (getItem v u) → wpAny (model X.prog X.w) X.A (subscriptTail value slice v u) (EP X pins σ (Nx B.K en W H Q)) X.xe s
abbrev dIx (B : Bs) (k : Nat) (ta tb : RE) : RE := fun ρ S E Q => ta ρ S E fun x S1 => tb ρ S1 E fun y S2 => sIx B k x y S2 (E ρ) Q
theorem de_ix (ha : DE G a ta) (hb : DE G b tb) (hs : PlainIx b) : DE G (.Subscript a b pos) (dIx G.B G.k ta tb) := by
  refine ⟨fun {X en W σ H ρ S E pins s Q} z q => Subscript_ (ha.at z q fun v s1 x' H1 W1 o S1 z1 g1 r1 ro q1 => hb.at z1 q1 fun u s2 y' H2 W2 o2 S2 z2 g2 r2 ro2 q2 => ?_)⟩
  exact thn (q2 X en W2 σ H2 z2.hf.b z2.xn z2.rs.ho x' y' (ro.go g2) ro2 a b pins s2 v u z2.I r1 r2 (hs _ _)) fun _ _ => ep_back (g1.trans g2 z2.rs.ho)
/-- a slice's part -/
abbrev RO := List Sl → Sto → XD → (Option Int → Sto → Prop) → Prop
structure DO (G : Cf) (e : Option Expr) (t : RO) : Prop where
  run : ∀ {X en W σ H ρ S E pins s Q}, At G X en W σ H ρ S E pins s → t ρ S E Q → wpAny (model X.prog X.w) X.A (evalPart e X.env) (fun u s' => ∃ o H' W' S', At G X en W' σ H' ρ S' E pins s' ∧ Go W H W' H' ∧ IsPart u o ∧ Q o S') X.xe s
abbrev oNo : RO := fun _ S _ Q => Q none S
abbrev oSome (t : RE) : RO := fun ρ S E Q => t ρ S E fun x S1 => ∃ i, x = .v (.int i) ∧ Q (some i) S1
theorem do_no : DO G none oNo := by
  refine ⟨fun {X en W σ H ρ S E pins s Q} z q => ?_⟩
  rw [evalPart_none]
  exact wpAny_pure ⟨none, H, W, S, z, .refl, .none, q⟩
theorem do_some (h : DE G e te) : DO G (some e) (oSome te) := by
  refine ⟨fun {X en W σ H ρ S E pins s Q} z q => ?_⟩
  rw [evalPart_some]
  refine h.at z q fun u s1 x' H1 W1 o S1 z1 g1 r1 ro ⟨i, e1, q1⟩ => ?_
  subst e1
  cases ro
  obtain ⟨t, rfl⟩ := r1
  exact ⟨some i, H1, W1, S1, z1, g1, .int i t, q1⟩
/-- x[lo:hi] -/
def sSl (B : Bs) (k : Nat) (x : O) (lo hi : Option Int) (S : Sto) (Q : QO) : Prop :=
  ∀ (X : Cx) (en : En) (W : Wd) (σ : L2.St) (H : Hp), FitsB B k X en → Ho B.K W H S → ∀ x', RepO B.K en W H x x' →
    ∀ (pins : List (Addr × Obj)) (s : Shared) (v vl vu : Value) (sl : Addr), Inv X pins σ H s → RelV x' v → s.heap.IsSliceOf sl vl vu .none → IsPart vl lo → IsPart vu hi →
    ∃ T id, typeLookup (.type T) "__getitem__" = pure (some (.builtin id)) ∧ s.TypeIs v T ∧ wpAny (model X.prog X.w) X.A (getItem v (.ref sl)) (EP X pins σ (Nx B.K en W H Q)) X.xe s
abbrev dSl (B : Bs) (k : Nat) (ta : RE) (tl th : RO) : RE := fun ρ S E Q => ta ρ S E fun x S1 => tl ρ S1 E fun l S2 => th ρ S2 E fun u S3 => sSl B k x l u S3 Q
theorem de_sl {lo hi : Option Expr} {tl th : RO} {p2 : Pos} (he : DE G e te) (hl : DO G lo tl) (hu : DO G hi th) : DE G (.Subscript e (.Slice lo hi none p2) pos) (dSl G.B G.k te tl th) := by
  refine ⟨fun {X en W σ H ρ S E pins s Q} z q => Subscript_ (he.at z q fun v s1 x' H1 W1 o S1 z1 g1 r1 ro q1 => ?_)⟩
  refine wpAny_Slice (thn (hl.run z1 q1) fun vl s2 ⟨l, H2, W2, S2, z2, g2, pl, q2⟩ => thn (hu.run z2 q2) fun vu s3 ⟨u, H3, W3, S3, z3, g3, pu, q3⟩ => ?_)
  rw [evalPart_none]
  refine wpAny_pure ?_
  have I4 : Inv X pins σ H3 { s3 with heap := s3.heap.push { cls := .type "slice", data := .fields #[vl, vu, .none] } } := z3.I.kept (t' := s3.toks) fun b ob q => Heap.get?_push_of_some _ q
  obtain ⟨T, id, hT, ht, hg⟩ := q3 X en W3 σ H3 z3.hf.b z3.rs.ho x' (ro.go (g2.trans g3 z3.rs.ho)) pins _ v vl vu s3.heap.objs.size I4 r1 (Heap.IsSliceOf.new ..) pl pu
  show wpAny (model X.prog X.w) X.A (subscriptTail e (.Slice lo hi none p2) v (.ref s3.heap.objs.size)) (EP X pins σ (Nx G.B.K en W H Q)) X.xe { s3 with heap := s3.heap.push { cls := .type "slice", data := .fields #[vl, vu, .none] } }
  exact tail_any (ops := [.ref s3.heap.objs.size, v]) ht hT (thn hg fun _ _ => ep_back ((g1.trans g2 z2.rs.ho).trans g3 z3.rs.ho)) (by with_unfolding_all rfl)
/-- x.f -/
def sAttr (B : Bs) (k : Nat) (f : Str) (x : O) (S : Sto) (Ex : XS) (Q : QO) : Prop := sem1 B k (fun v => getAttr v f true) x S Ex Q
abbrev dAttr (B : Bs) (k : Nat) (f : Str) (ta : RE) : RE := fun ρ S E Q => ta ρ S E fun x S1 => sAttr B k f x S1 (E ρ) Q
theorem de_attr {f : Str} (he : DE G e te) (hab : ∀ env : Env, attributeBase e f env (eval e env) = eval e env := by intro _; rfl) : DE G (.Attribute e f pos) (dAttr G.B G.k f te) :=
  ⟨fun {X en W σ H ρ S E pins s Q} z q => attr_of (hab _) (he.at z q fun v s1 x' H1 W1 o S1 z1 g1 r1 ro q1 => thn (z1.op1 (f := fun v => getAttr v f true) r1 ro q1) fun _ _ => ep_back g1)⟩
end
end Dt

set_option Elab.async false
set_option linter.all false
set_option maxRecDepth 100000
set_option maxHeartbeats 4000000
/-! DatD: statements, targets, loops, comprehensions -/
namespace Dt
open PySem PySem.Spec PyProof.Rows L2 My
structure DEnds where
  nx : List Sl → Sto → Prop
  rt : D → List Sl → Sto → Prop
  bk : List Sl → Sto → Prop
  ct : List Sl → Sto → Prop
  ex : XD
abbrev RS := DEnds → List Sl → Sto → Prop
def ends (K : PySem.W.Frag) (en : En) (W : Wd) (D : DEnds) : Ends where
  nx := fun σ' H' => ∃ W' ρ' S', Rs K en W' σ' H' ρ' S' ∧ W.Le W' ∧ D.nx ρ' S'
  rt := fun v H' => ∃ W' σ' ρ' d S', Rs K en W' σ' H' ρ' S' ∧ W.Le W' ∧ Rep K W' d v ∧ D.rt d ρ' S'
  bk := fun σ' H' => ∃ W' ρ' S', Rs K en W' σ' H' ρ' S' ∧ W.Le W' ∧ D.bk ρ' S'
  ct := fun σ' H' => ∃ W' ρ' S', Rs K en W' σ' H' ρ' S' ∧ W.Le W' ∧ D.ct ρ' S'
theorem sp_back {X : Cx} {pins : List (Addr × Obj)} {K : PySem.W.Frag} {en : En} {W W1 : Wd} {D : DEnds} {f : Flow} {s' : Shared} (l : W.Le W1) (h : SP X pins (ends K en W1 D) f s') : SP X pins (ends K en W D) f s' := by
  cases f with
  | next => exact let ⟨σ, H, I, W', ρ, S, r, l2, q⟩ := h; ⟨σ, H, I, W', ρ, S, r, l.trans l2, q⟩
  | brk => exact let ⟨σ, H, I, W', ρ, S, r, l2, q⟩ := h; ⟨σ, H, I, W', ρ, S, r, l.trans l2, q⟩
  | cont => exact let ⟨σ, H, I, W', ρ, S, r, l2, q⟩ := h; ⟨σ, H, I, W', ρ, S, r, l.trans l2, q⟩
  | ret v => exact let ⟨v, σ, H, I, r0, W', σ', ρ, d, S, r, l2, rp, q⟩ := h; ⟨v, σ, H, I, r0, W', σ', ρ, d, S, r, l.trans l2, rp, q⟩
structure DS (G : Cf) (st : Stmt) (t : RS) : Prop where
  run : ∀ {X en W σ H ρ S pins s D}, At G X en W σ H ρ S D.ex pins s → t D ρ S → wpAny (model X.prog X.w) X.A (exec st X.env) (SP X pins (ends G.B.K en W D)) X.xe s
structure DSs (G : Cf) (st : List Stmt) (t : RS) : Prop where
  run : ∀ {X en W σ H ρ S pins s D}, At G X en W σ H ρ S D.ex pins s → t D ρ S → wpAny (model X.prog X.w) X.A (execs st X.env) (SP X pins (ends G.B.K en W D)) X.xe s

/-! ### slots -/
section
variable {K : PySem.W.Frag} {en : En} {W : Wd} {σ : L2.St} {H : Hp} {ρ : List Sl} {S : Sto}
/-- an own list, an own dict becomes a value; a slot is forgotten -/
inductive Fz : List Sl → List Sl → Prop where
  | refl {ρ : List Sl} : Fz ρ ρ
  | frz {ρ ρ' : List Sl} (i : Nat) {xs : List D} (e : ρ[i]? = some (.ol xs)) (h : Fz (ρ.set i (.sh (.lst xs))) ρ') : Fz ρ ρ'
  | frd {ρ ρ' : List Sl} (i : Nat) {xs : List (Key × D)} (e : ρ[i]? = some (.od xs)) (h : Fz (ρ.set i (.sh (.dct xs))) ρ') : Fz ρ ρ'
  | off {ρ ρ' : List Sl} (i : Nat) (h : Fz (ρ.set i .un) ρ') : Fz ρ ρ'
theorem RelS.own {s : Sl} {v : V} (h : RelS K en W H (some (some v)) s) (o : isOwn s = true) : ∃ a u, v = .ref a ∧ H a = some u ∧ Own en W H a := by
  cases s with
  | ol xs =>
    obtain ⟨a, vs, e, q, r, w⟩ := h
    exact ⟨a, _, Option.some.inj (Option.some.inj e), q, w⟩
  | od xs =>
    obtain ⟨a, vs, e, q, r, w⟩ := h
    exact ⟨a, _, Option.some.inj (Option.some.inj e), q, w⟩
  | slf C xs =>
    obtain ⟨a, vs, e, q, r, w⟩ := h
    exact ⟨_, _, Option.some.inj (Option.some.inj e), q, w⟩
  | _ => cases o
/-- a slot gets a value that is no own object -/
theorem Rs.set (r : Rs K en W σ H ρ S) (i : Nat) {s : Sl} {v : Option V} (hs : isOwn s = false) (h : RelS K en W H (some v) s) : Rs K en W (σ.set i v) H (ρ.set i s) S where
  ho := r.ho
  go := r.go
  len := by rw [List.length_set, List.length_set]; exact r.len
  sl := fun j t e => by
    by_cases z : i = j
    · subst z
      have hi : i < ρ.length := by
        have := (List.getElem?_eq_some_iff.mp e).1
        rw [List.length_set] at this
        exact this
      rw [List.getElem?_set_self hi] at e
      cases e
      rw [List.getElem?_set_self (by rw [← r.len]; exact hi)]
      exact h
    · rw [List.getElem?_set_ne z] at e
      rw [List.getElem?_set_ne z]
      exact r.sl j t e
  dis := fun j l t u a ne e1 o1 e2 o2 q1 q2 => by
    have hj : i ≠ j := fun z => by
      subst z
      rw [List.getElem?_set_self (by have := (List.getElem?_eq_some_iff.mp e1).1; rw [List.length_set] at this; exact this)] at e1
      cases e1
      rw [hs] at o1
      cases o1
    have hl : i ≠ l := fun z => by
      subst z
      rw [List.getElem?_set_self (by have := (List.getElem?_eq_some_iff.mp e2).1; rw [List.length_set] at this; exact this)] at e2
      cases e2
      rw [hs] at o2
      cases o2
    rw [List.getElem?_set_ne hj] at e1 q1
    rw [List.getElem?_set_ne hl] at e2 q2
    exact r.dis j l t u a ne e1 o1 e2 o2 q1 q2
/-- a slot gets an own object that no other slot has -/
theorem Rs.setO (r : Rs K en W σ H ρ S) (i : Nat) {s : Sl} {a : Addr} (h : RelS K en W H (some (some (.ref a))) s) (n : ∀ (j : Nat) (t : Sl), i ≠ j → ρ[j]? = some t → isOwn t = true → σ[j]? = some (some (.ref a)) → False) : Rs K en W (σ.set i (some (.ref a))) H (ρ.set i s) S where
  ho := r.ho
  go := r.go
  len := by rw [List.length_set, List.length_set]; exact r.len
  sl := fun j t e => by
    by_cases z : i = j
    · subst z
      have hi : i < ρ.length := by
        have := (List.getElem?_eq_some_iff.mp e).1
        rw [List.length_set] at this
        exact this
      rw [List.getElem?_set_self hi] at e
      cases e
      rw [List.getElem?_set_self (by rw [← r.len]; exact hi)]
      exact h
    · rw [List.getElem?_set_ne z] at e
      rw [List.getElem?_set_ne z]
      exact r.sl j t e
  dis := fun j l t u b ne e1 o1 e2 o2 q1 q2 => by
    have at_i : ∀ {j : Nat} {b : Addr}, i = j → (σ.set i (some (.ref a)))[j]? = some (some (.ref b)) → b = a := fun {j b} z q => by
      subst z
      have hi : i < σ.length := by
        have := (List.getElem?_eq_some_iff.mp q).1
        rw [List.length_set] at this
        exact this
      rw [List.getElem?_set_self hi] at q
      cases q
      rfl
    by_cases hj : i = j
    · by_cases hl : i = l
      · exact ne (hj.symm.trans hl)
      · obtain rfl := at_i hj q1
        rw [List.getElem?_set_ne hl] at e2 q2
        exact n l u hl e2 o2 q2
    · by_cases hl : i = l
      · obtain rfl := at_i hl q2
        rw [List.getElem?_set_ne hj] at e1 q1
        exact n j t hj e1 o1 q1
      · rw [List.getElem?_set_ne hj] at e1 q1
        rw [List.getElem?_set_ne hl] at e2 q2
        exact r.dis j l t u b ne e1 o1 e2 o2 q1 q2
theorem set_self {α : Type} {l : List α} {i : Nat} {x : α} (e : l[i]? = some x) : l.set i x = l := by
  obtain ⟨h, q⟩ := List.getElem?_eq_some_iff.mp e
  subst q
  exact List.set_getElem_self h
/-- the own object at slot i changes its world: it is frozen -/
theorem Rs.freeze (r : Rs K en W σ H ρ S) {i : Nat} {s : Sl} {a : Addr} {u : HO} {d : D} (e : ρ[i]? = some s) (o : isOwn s = true) (q : σ[i]? = some (some (.ref a))) (hu : H a = some u) (w : Own en W H a)
    (rp : Rep K (W.frz a u) d (.ref a)) : Rs K en (W.frz a u) σ H (ρ.set i (.sh d)) S := by
  have nf : W.Le (W.frz a u) := W.frz_le w.f
  have ho : Ho K (W.frz a u) H S := ⟨r.ho.n, fun b x z => by
    by_cases c : b = a
    · subst c
      rw [show (W.frz b u).F b = some u from upd_same] at z
      rw [hu]
      exact z
    · rw [show (W.frz a u).F b = W.F b from upd_ne c] at z
      exact r.ho.fh b x z, r.ho.inj, fun j hj => by
    show upd W.F a u (W.m j) = none
    rw [upd_ne (w.m j hj)]
    exact r.ho.mF j hj, r.ho.there, fun j c z => (r.ho.cel j c z).le nf fun x y => y⟩
  have go : Go en.W en.H (W.frz a u) H := ⟨r.go.le.trans nf, fun b x z => by
    by_cases c : b = a
    · subst c
      exact .inr w.e
    · rw [show (W.frz a u).F b = W.F b from upd_ne c] at z
      exact r.go.fn b x z, r.go.kp, r.go.mn⟩
  refine ⟨ho, go, by rw [List.length_set]; exact r.len, fun j t z => ?_, fun j l t x b ne e1 o1 e2 o2 q1 q2 => ?_⟩
  · by_cases c : i = j
    · subst c
      rw [List.getElem?_set_self (List.getElem?_eq_some_iff.mp e).1] at z
      cases z
      exact ⟨_, q, rp⟩
    · rw [List.getElem?_set_ne c] at z
      have h := r.sl j t z
      have far : ∀ b, isOwn t = true → σ[j]? = some (some (.ref b)) → Own en W H b → Own en (W.frz a u) H b := fun b o2 q2 w2 => by
        have ba : b ≠ a := fun y => by
          subst y
          exact r.dis i j s t b c e o z o2 q q2
        exact ⟨(show upd W.F a u b = none by rw [upd_ne ba]; exact w2.f), w2.e, w2.m⟩
      cases t with
      | un => trivial
      | sh d => exact let ⟨v, e, k⟩ := h; ⟨v, e, k.le nf⟩
      | ol xs => exact let ⟨b, vs, e1, k, k2, k3⟩ := h; ⟨b, vs, e1, k, k2.le nf, far b rfl e1 k3⟩
      | od xs => exact let ⟨b, vs, e1, k, k2, k3⟩ := h; ⟨b, vs, e1, k, k2.le nf, far b rfl e1 k3⟩
      | slf C xs => exact let ⟨dx, vs, e1, k, k2, k3⟩ := h; ⟨dx, vs, e1, k, k2.le nf, far en.me rfl e1 k3⟩
      | exc C xs => exact let ⟨p, e1, k, k2⟩ := h; ⟨p, e1, k, k2.le nf⟩
  · have hj : i ≠ j := fun z => by
      subst z
      rw [List.getElem?_set_self (List.getElem?_eq_some_iff.mp e).1] at e1
      cases e1
      cases o1
    have hl : i ≠ l := fun z => by
      subst z
      rw [List.getElem?_set_self (List.getElem?_eq_some_iff.mp e).1] at e2
      cases e2
      cases o2
    rw [List.getElem?_set_ne hj] at e1
    rw [List.getElem?_set_ne hl] at e2
    exact r.dis j l t x b ne e1 o1 e2 o2 q1 q2
theorem Rs.fz {ρ' : List Sl} (z : Fz ρ ρ') : ∀ {W : Wd}, Rs K en W σ H ρ S → ∃ W', Rs K en W' σ H ρ' S ∧ W.Le W' := by
  induction z with
  | refl => exact fun r => ⟨_, r, .refl⟩
  | frz i e _ ih =>
    intro W r
    obtain ⟨a, vs, q, hu, k, w⟩ := r.sl i _ e
    obtain ⟨W', r', l⟩ := ih (r.freeze e rfl q hu w (.lst (.inl upd_same) (k.le (W.frz_le w.f))))
    exact ⟨W', r', (W.frz_le w.f).trans l⟩
  | frd i e _ ih =>
    intro W r
    obtain ⟨a, vs, q, hu, k, w⟩ := r.sl i _ e
    obtain ⟨W', r', l⟩ := ih (r.freeze e rfl q hu w (.dct upd_same (k.le (W.frz_le w.f))))
    exact ⟨W', r', (W.frz_le w.f).trans l⟩
  | @off ρ0 ρ1 i _ ih =>
    intro W r
    refine ih ⟨r.ho, r.go, by rw [List.length_set]; exact r.len, fun j t z => ?_, fun j l t x b ne e1 o1 e2 o2 q1 q2 => ?_⟩
    · by_cases c : i = j
      · subst c
        rw [List.getElem?_set_self (by have := (List.getElem?_eq_some_iff.mp z).1; rw [List.length_set] at this; exact this)] at z
        cases z
        trivial
      · rw [List.getElem?_set_ne c] at z
        exact r.sl j t z
    · have hj : i ≠ j := fun z => by
        subst z
        rw [List.getElem?_set_self (by have := (List.getElem?_eq_some_iff.mp e1).1; rw [List.length_set] at this; exact this)] at e1
        cases e1
        cases o1
      have hl : i ≠ l := fun z => by
        subst z
        rw [List.getElem?_set_self (by have := (List.getElem?_eq_some_iff.mp e2).1; rw [List.length_set] at this; exact this)] at e2
        cases e2
        cases o2
      rw [List.getElem?_set_ne hj] at e1
      rw [List.getElem?_set_ne hl] at e2
      exact r.dis j l t x b ne e1 o1 e2 o2 q1 q2
/-- what an own slot holds changes -/
theorem Rs.put (r : Rs K en W σ H ρ S) {i : Nat} {s s' : Sl} {a : Addr} {u : HO} (e : ρ[i]? = some s) (o : isOwn s = true) (o' : isOwn s' = true) (q : σ[i]? = some (some (.ref a))) (w : Own en W H a)
    (h : RelS K en W (upd H a u) (some (some (.ref a))) s') : Rs K en W σ (upd H a u) (ρ.set i s') S where
  ho := ⟨r.ho.n, fun b x z => by
    have c : b ≠ a := fun y => by
      rw [y, w.f] at z
      cases z
    rw [upd_ne c]
    exact r.ho.fh b x z, r.ho.inj, r.ho.mF, fun j hj => by
    rw [upd_ne (w.m j hj)]
    exact r.ho.there j hj, fun j c z => by
    have hj : j < W.n := by
      rw [r.ho.n]
      exact (List.getElem?_eq_some_iff.mp z).1
    exact (r.ho.cel j c z).le .refl fun x y => by rw [upd_ne (w.m j hj)]; exact y⟩
  go := ⟨r.go.le, r.go.fn, fun b x z n => by
    have c : b ≠ a := fun y => by
      rw [y, w.e] at z
      cases z
    rw [upd_ne c]
    exact r.go.kp b x z n, r.go.mn⟩
  len := by rw [List.length_set]; exact r.len
  sl := fun j t z => by
    by_cases c : i = j
    · subst c
      rw [List.getElem?_set_self (List.getElem?_eq_some_iff.mp e).1] at z
      cases z
      rw [q]
      exact h
    · rw [List.getElem?_set_ne c] at z
      have h := r.sl j t z
      have far : ∀ b x, isOwn t = true → σ[j]? = some (some (.ref b)) → H b = some x → upd H a u b = some x := fun b x o2 q2 k => by
        rw [upd_ne (fun y => by
          subst y
          exact r.dis i j s t b c e o z o2 q q2)]
        exact k
      have far2 : ∀ b, Own en W H b → Own en W (upd H a u) b := fun b w => ⟨w.f, w.e, w.m⟩
      cases t with
      | un => trivial
      | sh d => exact h
      | ol xs => exact let ⟨b, vs, e1, k, k2, k3⟩ := h; ⟨b, vs, e1, far b _ rfl e1 k, k2, far2 b k3⟩
      | od xs => exact let ⟨b, vs, e1, k, k2, k3⟩ := h; ⟨b, vs, e1, far b _ rfl e1 k, k2, far2 b k3⟩
      | slf C xs => exact let ⟨dx, vs, e1, k, k2, k3⟩ := h; ⟨dx, vs, e1, far en.me _ rfl e1 k, k2, far2 en.me k3⟩
      | exc C xs => exact h
  dis := fun j l t x b ne e1 o1 e2 o2 q1 q2 => by
    have back : ∀ {j : Nat} {t : Sl}, (ρ.set i s')[j]? = some t → isOwn t = true → ∃ t', ρ[j]? = some t' ∧ isOwn t' = true := fun {j t} z o => by
      by_cases c : i = j
      · subst c
        exact ⟨s, e, by assumption⟩
      · rw [List.getElem?_set_ne c] at z
        exact ⟨t, z, o⟩
    obtain ⟨t1, y1, p1⟩ := back e1 o1
    obtain ⟨t2, y2, p2⟩ := back e2 o2
    exact r.dis j l t1 t2 b ne y1 p1 y2 p2 q1 q2
end

section
variable {G : Cf} {X : Cx} {en : En} {W W1 : Wd} {σ : L2.St} {H H1 : Hp} {ρ : List Sl} {S S1 : Sto} {pins : List (Addr × Obj)} {s s1 : Shared} {e a b c o : Expr} {es : List Expr} {t ta tb tc te to : RE} {tA tK : RA} {pos p apos : Pos} {x m : Str} {st : Stmt} {rest : List Stmt} {ts us : RS}
theorem At.sp {D : DEnds} (z : At G X en W σ H ρ S D.ex pins s) (q : D.nx ρ S) : SP X pins (ends G.B.K en W D) .next s := ⟨σ, H, z.I, W, ρ, S, z.rs, .refl, q⟩
/-! ### blocks -/
def dSeq (t u : RS) : RS := fun D ρ S => ∃ ρ', Fz ρ ρ' ∧ t { D with nx := u D } ρ' S
def dEnd (t : RS) : RS := fun D ρ S => ∃ ρ', Fz ρ ρ' ∧ t D ρ' S
def dNil : RS := fun D ρ S => D.nx ρ S
theorem dss_nil : DSs G [] dNil := ⟨fun {X en W σ H ρ S pins s D} z q => wpAny_execs_nil (z.sp q)⟩
theorem dss_cons (h1 : DS G st ts) (h2 : DSs G rest us) : DSs G (st :: rest) (dSeq ts us) := by
  refine ⟨fun {X en W σ H ρ S pins s D} z ⟨ρ', f, q⟩ => ?_⟩
  obtain ⟨W1, r1, l1⟩ := z.rs.fz f
  have z1 : At G X en W1 σ H ρ' S D.ex pins s := ⟨z.hf, tk_up l1 z.tk, r1, z.I⟩
  refine wpAny_execs_cons (thn (h1.run (D := { D with nx := us D }) z1 q) fun fl s1 q => ?_)
  cases fl with
  | next =>
    obtain ⟨σ', H', I', W', ρ2, S', r2, l2, q2⟩ := q
    exact thn (h2.run ⟨z.hf, tk_up (l1.trans l2) z.tk, r2, I'⟩ q2) fun _ _ => sp_back (l1.trans l2)
  | ret v => exact sp_back (D := D) (f := .ret v) l1 q
  | brk => exact sp_back (D := D) (f := .brk) l1 q
  | cont => exact sp_back (D := D) (f := .cont) l1 q
theorem dss_one (h1 : DS G st ts) : DSs G [st] (dEnd ts) := by
  refine ⟨fun {X en W σ H ρ S pins s D} z ⟨ρ', f, q⟩ => ?_⟩
  obtain ⟨W1, r1, l1⟩ := z.rs.fz f
  have z1 : At G X en W1 σ H ρ' S D.ex pins s := ⟨z.hf, tk_up l1 z.tk, r1, z.I⟩
  refine wpAny_execs_cons (thn (h1.run z1 q) fun fl s1 q => ?_)
  cases fl with
  | next => exact wpAny_execs_nil (sp_back (D := D) (f := .next) l1 q)
  | ret v => exact sp_back (D := D) (f := .ret v) l1 q
  | brk => exact sp_back (D := D) (f := .brk) l1 q
  | cont => exact sp_back (D := D) (f := .cont) l1 q
def dBrk : RS := fun D ρ S => D.bk ρ S
def dCnt : RS := fun D ρ S => D.ct ρ S
theorem ds_pass : DS G (.Pass pos) dNil := ⟨fun z q => wpAny_Pass (z.sp q)⟩
theorem ds_break : DS G (.Break pos) dBrk := ⟨fun {X en W σ H ρ S pins s D} z q => wpAny_Break ⟨σ, H, z.I, W, ρ, S, z.rs, .refl, q⟩⟩
theorem ds_continue : DS G (.Continue pos) dCnt := ⟨fun {X en W σ H ρ S pins s D} z q => wpAny_Continue ⟨σ, H, z.I, W, ρ, S, z.rs, .refl, q⟩⟩
theorem ds_doc {x j pos pos'} : DS G (.Expr (.Constant (.str x) j pos) pos') dNil := ⟨fun {X en W σ H ρ S pins s D} z q => (ps_doc (X := X)).run pins s σ H _ z.I ⟨W, ρ, S, z.rs, .refl, q⟩⟩
def dExpr (te : RE) : RS := fun D ρ S => te ρ S D.ex fun _ S1 => D.nx ρ S1
theorem ds_expr (he : DE G e te) (hs : ∀ env : Env, swapsWith e none pos.line env = pure false := by intro _; rfl) : DS G (.Expr e pos) (dExpr te) :=
  ⟨fun {X en W σ H ρ S pins s D} z q => wpAny_Expr_any (he.at z q fun v s1 x' H1 W1 o S1 z1 g1 r1 ro q1 => sp_back (D := D) (f := .next) g1.le (z1.sp q1)) z.I.quiet (hs _)⟩
def dRet (te : RE) : RS := fun D ρ S => te ρ S D.ex fun o S1 => ∃ d, o = .v d ∧ D.rt d ρ S1
theorem ds_ret (he : DE G e te) : DS G (.Return (some e) pos) (dRet te) :=
  ⟨fun {X en W σ H ρ S pins s D} z q => wpAny_Return_some (he.at z q fun v s1 x' H1 W1 o S1 z1 g1 r1 ro ⟨d, e1, q1⟩ => by
    subst e1
    exact ⟨x', σ, H1, z1.I, r1, W1, σ, ρ, d, S1, z1.rs, g1.le, ro, q1⟩)⟩
def dRetN : RS := fun D ρ S => D.rt .non ρ S
theorem ds_retN : DS G (.Return none pos) dRetN := ⟨fun {X en W σ H ρ S pins s D} z q => wpAny_Return_none ⟨.non, σ, H, z.I, rfl, W, σ, ρ, .non, S, z.rs, .refl, .non, q⟩⟩
def dIfS (c : RT) (t u : RS) : RS := fun D ρ S => c ρ S D.ex fun b S1 => if b = true then t D ρ S1 else u D ρ S1
theorem ds_if {c : Expr} {sa sb : List Stmt} {tc : RT} (hc : DT G c tc) (ha : DSs G sa ts) (hb : DSs G sb us) : DS G (.If c sa sb pos) (dIfS tc ts us) := by
  refine ⟨fun {X en W σ H ρ S pins s D} z q => wpAny_If (hc.at z q fun d s1 H1 W1 S1 z1 g1 q1 => ?_)⟩
  cases d with
  | true => exact thn (ha.run z1 q1) fun _ _ => sp_back g1.le
  | false => exact thn (hb.run z1 q1) fun _ _ => sp_back g1.le
def dNever : RS := fun _ _ _ => False
theorem ds_never : DS G st dNever := ⟨fun _ h => h.elim⟩
theorem dss_never {sts : List Stmt} : DSs G sts dNever := ⟨fun _ h => h.elim⟩

/-! ### targets -/
abbrev RG := D → List Sl → Sto → XD → (List Sl → Sto → Prop) → Prop
abbrev RGs := List D → List Sl → Sto → XD → (List Sl → Sto → Prop) → Prop
/-- vs: the slots that may change -/
structure DG (G : Cf) (target : Expr) (vs : List Nat) (t : RG) : Prop where
  run : ∀ {X en W σ H ρ S E pins s Q d v u}, At G X en W σ H ρ S E pins s → Rep G.B.K W d v → RelV v u → t d ρ S E Q →
    wpAny (model X.prog X.w) X.A (assign target X.env u) (fun _ s' => ∃ σ' H' W' ρ' S', At G X en W' σ' H' ρ' S' E pins s' ∧ (W.Le W' ∧ Q ρ' S') ∧ ((∀ j, j ∉ vs → σ'[j]? = σ[j]?) ∧ σ'.length = σ.length) ∧ Go W H W' H') X.xe s
structure DGs (G : Cf) (ts : List Expr) (ws : List Nat) (t : RGs) : Prop where
  run : ∀ {X en W σ H ρ S E pins s Q ds vs us}, At G X en W σ H ρ S E pins s → Reps G.B.K W ds vs → Vals vs us → t ds ρ S E Q →
    wpAny (model X.prog X.w) X.A (assignInOrder ((assignEach ts X.env).map (·.2)) us) (fun _ s' => ∃ σ' H' W' ρ' S', At G X en W' σ' H' ρ' S' E pins s' ∧ (W.Le W' ∧ Q ρ' S') ∧ ((∀ j, j ∉ ws → σ'[j]? = σ[j]?) ∧ σ'.length = σ.length) ∧ Go W H W' H') X.xe s
def gName (i : Nat) : RG := fun d ρ S _ Q => Q (ρ.set i (.sh d)) S
abbrev Sto1 (G : Cf) (x : Str) : Prop := G.fn x = true ∨ G.sc.names.lookup x = some .local
theorem Fits.sto {i : Nat} (f : Fits G X en) (hi : G.N[i]? = some x) (hx : Loc G.sc x) (hf : Sto1 G x) : X.N[i]? = some x ∧ Loc X.env.scope x ∧ (X.fn x = true ∨ X.env.scope.names.lookup x = some .local) :=
  ⟨by rw [f.N]; exact hi, by rw [f.sc]; exact hx, hf.elim (fun h => .inl (f.fn x h)) fun h => .inr (by rw [f.sc]; exact h)⟩
theorem dg_name {i : Nat} (hi : G.N[i]? = some x) (hx : Loc G.sc x) (hf : Sto1 G x := by first | exact .inr rfl | exact .inl rfl) : DG G (.Name x pos) [i] (gName i) := by
  refine ⟨fun {X en W σ H ρ S E pins s Q d v u} z r rv q => ?_⟩
  obtain ⟨h1, h2, h3⟩ := z.hf.sto hi hx hf
  exact wpAny_assign_Name (store_ok z.I z.hf.nd h1 h2 rv (fun s' I' => ⟨_, H, W, _, S, ⟨z.hf, z.tk, z.rs.set i (s := .sh d) rfl ⟨v, rfl, r⟩, I'⟩, ⟨.refl, q⟩, ⟨fun j hj => List.getElem?_set_ne fun c => hj (by rw [c]; exact List.mem_cons_self), List.length_set⟩, .refl⟩) h3)
def gNil : RGs := fun ds ρ S _ Q => ds = [] ∧ Q ρ S
def gCons (t : RG) (u : RGs) : RGs := fun ds ρ S E Q => ∃ d r, ds = d :: r ∧ t d ρ S E fun ρ' S' => u r ρ' S' E Q
theorem dgs_nil : DGs G [] [] gNil := by
  refine ⟨fun {X en W σ H ρ S E pins s Q ds vs us} z r rv ⟨e, q⟩ => ?_⟩
  subst e
  cases r
  cases rv
  exact assignInOrder_nil ⟨σ, H, W, ρ, S, z, ⟨.refl, q⟩, ⟨fun _ _ => rfl, rfl⟩, .refl⟩
theorem dgs_cons {t : RG} {u : RGs} {vs ws : List Nat} (h1 : DG G e vs t) (h2 : DGs G es ws u) (hs : ∀ env : Env, (assignEach (e :: es) env).map (·.2) = assign e env :: (assignEach es env).map (·.2) := by intro _; rfl) : DGs G (e :: es) (vs ++ ws) (gCons t u) := by
  refine ⟨fun {X en W σ H ρ S E pins s Q ds vs us} z r rv ⟨d, dr, e1, q⟩ => ?_⟩
  subst e1
  cases r with
  | cons r rr =>
    cases rv with
    | cons v vv =>
      rw [hs]
      refine assignInOrder_cons (thn (h1.run z r v q) fun _ s1 ⟨σ1, H1, W1, ρ1, S1, z1, ⟨l1, q1⟩, ⟨k1, n1⟩, g1⟩ => ?_)
      exact thn (h2.run z1 (rr.le l1) vv q1) fun _ s2 ⟨σ2, H2, W2, ρ2, S2, z2, ⟨l2, q2⟩, ⟨k2, n2⟩, g2⟩ => ⟨σ2, H2, W2, ρ2, S2, z2, ⟨l1.trans l2, q2⟩, ⟨fun j hj => (k2 j fun c => hj (List.mem_append_right _ c)).trans (k1 j fun c => hj (List.mem_append_left _ c)), n2.trans n1⟩, g1.trans g2 z2.rs.ho⟩
def gTup (n : Nat) (t : RGs) : RG := fun d ρ S E Q => ∃ xs, d = .tup xs ∧ xs.length = n ∧ t xs ρ S E Q
theorem Rep.tupI {K : PySem.W.Frag} {xs : List D} {v : V} (h : Rep K W (.tup xs) v) : ∃ a vs, v = .ref a ∧ SqT K W.F a vs ∧ Reps K W xs vs := by
  cases h with
  | tup h r => exact ⟨_, _, rfl, h, r⟩
theorem Rep.lstI {K : PySem.W.Frag} {xs : List D} {v : V} (h : Rep K W (.lst xs) v) : ∃ a vs, v = .ref a ∧ Rd W.F a (.lst vs) ∧ Reps K W xs vs := by
  cases h with
  | lst h r => exact ⟨_, _, rfl, h, r⟩
theorem dg_tup {k : Nat} {t : RGs} {n : Nat} {vs : List Nat} (hc : G.B.hot = false) (h : DGs G es vs t) (hn : ∀ env : Env, (assignEach es env).length = n := by intro _; rfl) (hst : ∀ env : Env, (assignEach es env).findIdx? (·.1) = none := by intro _; rfl) : DG G (.Tuple es k pos) vs (gTup n t) := by
  refine ⟨fun {X en W σ H ρ S E pins s Q d v u} z r rv ⟨xs, e1, hl, q⟩ => ?_⟩
  subst e1
  obtain ⟨a, vs, rfl, hq, rr⟩ := r.tupI
  cases rv
  obtain ⟨its, rv, ht, hz⟩ := z.I.tuple (show SqT X.K H a vs by rw [z.hf.b.K]; exact sqT_le z.rs.ho.fh hq)
  refine assign_Tuple_tuple (z.hf.b.calm hc).2 ht (by simp [hn, ← hl, ← rr.len, rv.length]) (hst _) fun h' hx => ?_
  have I1 : Inv X pins σ H { s with heap := h' } := z.I.kept (t' := s.toks) fun b o e => hx b o (Nat.ne_of_lt (Heap.lt_size e)) e
  exact h.run ⟨z.hf, z.tk, z.rs, I1⟩ rr (by simpa using rv) q
/-- target = value -/
def dAsg (te : RE) (g : RG) : RS := fun D ρ S => te ρ S D.ex fun o S1 => ∃ d, o = .v d ∧ g d ρ S1 D.ex D.nx
theorem ds_asg {tg e : Expr} {g : RG} {vs : List Nat} (he : DE G e te) (hg : DG G tg vs g) (hs : ∀ env : Env, swapsWithSole [tg] e pos.line env = pure false := by intro _; rfl) (hw : ∀ env : Env, swappedStores [tg] e env = pure none := by intro _; rfl)
    (h1 : ∀ env : Env, (assignEach [tg] env).map (·.2) = [assign tg env] := by intro _; rfl) : DS G (.Assign [tg] e pos) (dAsg te g) := by
  refine ⟨fun {X en W σ H ρ S pins s D} z q => wpAny_Assign_stores (he.at z q fun v s1 x' H1 W1 o S1 z1 g1 r1 ro ⟨d, e1, q1⟩ => ?_) (hs _) (hw _)⟩
  subst e1
  rw [h1]
  exact thn (hg.run z1 ro r1 q1) fun _ s2 ⟨σ2, H2, W2, ρ2, S2, z2, ⟨l2, q2⟩, _⟩ => ⟨σ2, H2, z2.I, W2, ρ2, S2, z2.rs, g1.le.trans l2, q2⟩
/-- name = value -/
theorem ds_set {i : Nat} {pos' : Pos} (hi : G.N[i]? = some x) (hx : Loc G.sc x) (he : DE G e te) (hs : ∀ env : Env, swapsWith e (some (.Name x pos')) pos.line env = pure false := by intro _; rfl) (hf : Sto1 G x := by first | exact .inr rfl | exact .inl rfl) : DS G (.Assign [.Name x pos'] e pos) (dAsg te (gName i)) := by
  refine ⟨fun {X en W σ H ρ S pins s D} z q => wpAny_Assign_Name (he.at z q fun v s1 x' H1 W1 o S1 z1 g1 r1 ro ⟨d, e1, q1⟩ => ?_) (hs _)⟩
  subst e1
  obtain ⟨h1, h2, h3⟩ := z1.hf.sto hi hx hf
  exact store_ok z1.I z1.hf.nd h1 h2 r1 (fun s' I' => ⟨_, H1, I', W1, _, S1, z1.rs.set i (s := .sh d) rfl ⟨x', rfl, ro⟩, g1.le, q1⟩) h3
/-- what gives a new list -/
abbrev RF := List Sl → Sto → XD → (List D → Sto → Prop) → Prop
structure DF (G : Cf) (e : Expr) (t : RF) : Prop where
  run : ∀ {X en W σ H ρ S E pins s Q}, At G X en W σ H ρ S E pins s → t ρ S E Q → wpAny (model X.prog X.w) X.A (eval e X.env) (fun v s1 => ∃ a H1 W1 vs xs S1, Inv X pins σ H1 s1 ∧ v = .ref a ∧ H1 a = some (.lst vs) ∧ Reps G.B.K W1 xs vs ∧ Ho G.B.K W1 H1 S1 ∧ Go W H W1 H1 ∧ H a = none ∧ W1.F a = none ∧ (∀ i, i < W1.n → W1.m i ≠ a) ∧ Q xs S1) X.xe s
theorem Rs.fresh {K : PySem.W.Frag} {xs : List D} {vs : List V} {H' : Hp} {a : Addr} {i : Nat} {S' : Sto} (r : Rs K en W σ H ρ S) (h : Ho K W1 H' S') (g : Go W H W1 H') (ha : H' a = some (.lst vs)) (rr : Reps K W1 xs vs) (n : H a = none) (nf : W1.F a = none) (nm : ∀ i, i < W1.n → W1.m i ≠ a) :
    Rs K en W1 (σ.set i (some (.ref a))) H' (ρ.set i (.ol xs)) S' := by
  have r1 := r.after h g
  have ne : en.H a = none := by
    cases q : en.H a with
    | none => rfl
    | some u =>
      have := r1.go.kp a u q fun j hj c => by
        rw [← r1.go.le.m j hj] at c
        exact nm j (Nat.lt_of_lt_of_le hj r1.go.le.n) c
      have z : W1.n = W1.n := rfl
      have k := r.go.kp a u q fun j hj c => by
        rw [← r1.go.le.m j hj] at c
        exact nm j (Nat.lt_of_lt_of_le hj r1.go.le.n) c
      rw [n] at k
      cases k
  refine r1.setO i (s := .ol xs) ⟨a, vs, rfl, ha, rr, nf, ne, nm⟩ fun j t hj e1 o1 q1 => ?_
  have k := r.sl j t e1
  rw [q1] at k
  obtain ⟨b, u, e2, k2, _⟩ := k.own o1
  cases e2
  rw [n] at k2
  cases k2
def dAsgF (i : Nat) (tf : RF) : RS := fun D ρ S => tf ρ S D.ex fun xs S1 => D.nx (ρ.set i (.ol xs)) S1
theorem ds_setF {i : Nat} {pos' : Pos} {tf : RF} (hi : G.N[i]? = some x) (hx : Loc G.sc x) (he : DF G e tf) (hs : ∀ env : Env, swapsWith e (some (.Name x pos')) pos.line env = pure false := by intro _; rfl) (hf : Sto1 G x := by first | exact .inr rfl | exact .inl rfl) : DS G (.Assign [.Name x pos'] e pos) (dAsgF i tf) := by
  refine ⟨fun {X en W σ H ρ S pins s D} z q => wpAny_Assign_Name (thn (he.run z q) fun v s1 ⟨a, H1, W1, vs, xs, S1, I1, ev, ha, rr, h1, g1, n, nf, nm, q1⟩ => ?_) (hs _)⟩
  subst ev
  obtain ⟨k1, k2, k3⟩ := z.hf.sto hi hx hf
  exact store_ok I1 z.hf.nd k1 k2 (v := .ref a) rfl (fun s' I' => ⟨_, H1, I', W1, _, S1, z.rs.fresh h1 g1 ha rr n nf nm, g1.le, q1⟩) k3
/-- a new list as a value -/
abbrev dOfF (tf : RF) : RE := fun ρ S E Q => tf ρ S E fun xs S1 => Q (.v (.lst xs)) S1
theorem Ho.frz2 {K : PySem.W.Frag} {u : HO} {p : Addr} (h : Ho K W H S) (hu : H p = some u) (nf : W.F p = none) (nm : ∀ i, i < W.n → W.m i ≠ p) : Ho K (W.frz p u) H S :=
  ⟨h.n, fun b x z => by
    by_cases c : b = p
    · subst c
      rw [show (W.frz b u).F b = some u from upd_same] at z
      rw [hu]
      exact z
    · rw [show (W.frz p u).F b = W.F b from upd_ne c] at z
      exact h.fh b x z, h.inj, fun j hj => by
    show upd W.F p u (W.m j) = none
    rw [upd_ne (nm j hj)]
    exact h.mF j hj, h.there, fun j c z => (h.cel j c z).le (W.frz_le nf) fun x y => y⟩
theorem Go.frz2 {K : PySem.W.Frag} {u : HO} {p : Addr} {H' : Hp} (g : Go W H W1 H') (n : H p = none) (nf : W1.F p = none) : Go W H (W1.frz p u) H' :=
  ⟨g.le.trans (W1.frz_le nf), fun b x z => by
    by_cases c : b = p
    · subst c
      exact .inr n
    · rw [show (W1.frz p u).F b = W1.F b from upd_ne c] at z
      exact g.fn b x z, g.kp, g.mn⟩
theorem DF.de {tf : RF} (h : DF G e tf) : DE G e (dOfF tf) := by
  refine ⟨fun {X en W σ H ρ S E pins s Q} z q => thn (h.run z q) fun v s1 ⟨a, H1, W1, vs, xs, S1, I1, ev, ha, rr, h1, g1, n, nf, nm, q1⟩ => ?_⟩
  subst ev
  exact ⟨.ref a, H1, I1, rfl, W1.frz a (.lst vs), .v (.lst xs), S1, h1.frz2 ha nf nm, Go.frz2 (K := G.B.K) g1 n nf, .lst (.inl upd_same) (rr.le (W1.frz_le nf)), q1⟩
abbrev fLst (tA : RA) : RF := fun ρ S E Q => tA ρ S E fun os S1 => ∃ ds, Sol os ds ∧ sz ds.length ∧ Q ds S1
theorem df_lst (h : DA G es tA) : DF G (.List es pos) (fLst tA) := by
  refine ⟨fun {X en W σ H ρ S E pins s Q} z q => ?_⟩
  refine wpAny_List_spliced (h.at pos z q fun us s1 vs H1 W1 os S1 z1 g1 r1 ro ⟨ds, so, hz, q1⟩ => ?_)
  subst so
  have hr := Sol.rep ro
  have hl : vs.length ≤ sizeLine := by rw [hr.len]; exact hz
  refine ⟨by rw [← r1.length]; exact hl, ?_⟩
  have hf : H1 s1.heap.objs.size = none := z1.I.hok.fresh (Nat.le_refl _)
  have hH : H s1.heap.objs.size = none := by
    cases q : H s1.heap.objs.size with
    | none => rfl
    | some u =>
      by_cases y : ∃ i, i < W.n ∧ W.m i = s1.heap.objs.size
      · obtain ⟨i, hi, c⟩ := y
        rw [← g1.le.m i hi] at c
        obtain ⟨u2, e2⟩ := z1.rs.ho.there i (Nat.lt_of_lt_of_le hi g1.le.n)
        rw [c, hf] at e2
        cases e2
      · have := g1.kp _ u q fun i hi c => y ⟨i, hi, c⟩
        rw [hf] at this
        cases this
  have nm : ∀ i, i < W1.n → W1.m i ≠ s1.heap.objs.size := fun i hi c => by
    obtain ⟨u2, e2⟩ := z1.rs.ho.there i hi
    rw [c, hf] at e2
    cases e2
  refine ⟨s1.heap.objs.size, upd H1 s1.heap.objs.size (.lst vs), W1, vs, ds, S1, z1.I.laid (t' := s1.toks) (fun b u e => Heap.get?_push_of_some _ e) (Nat.le_refl _) ⟨hl, us, 0, r1, Heap.get?_push_size _ rfl⟩, rfl, upd_same, hr, ?_, ?_, hH, z1.rs.ho.nF hf, nm, q1⟩
  · exact ⟨z1.rs.ho.n, fun a o e => upd_keep hf (z1.rs.ho.fh a o e), z1.rs.ho.inj, z1.rs.ho.mF, fun i hi => let ⟨u, e⟩ := z1.rs.ho.there i hi; ⟨u, upd_keep hf e⟩, fun i c e => (z1.rs.ho.cel i c e).le .refl fun u q => upd_keep hf q⟩
  · exact ⟨g1.le, g1.fn, fun a o e n => upd_keep hf (g1.kp a o e n), g1.mn⟩
end
end Dt

set_option Elab.async false
set_option linter.all false
set_option maxRecDepth 100000
set_option maxHeartbeats 4000000
/-! DatE: stores to own lists, dicts, instances, to the store; pairs; loops; comprehensions -/
namespace Dt
open PySem PySem.Spec PyProof.Rows L2 My
/-! ### dicts -/
def valD (kvs : List (Key × D)) (k : Key) : Option D := (kvs.find? fun kv => decide (kv.1 = k)).map (·.2)
def putKD (kvs : List (Key × D)) (k : Key) (v : D) : List (Key × D) :=
  if (kvs.any fun kv => decide (kv.1 = k)) = true then kvs.map (fun kv => if kv.1 = k then (kv.1, v) else kv) else kvs ++ [(k, v)]
def dropKD (kvs : List (Key × D)) (k : Key) : List (Key × D) := kvs.filter fun kv => decide (kv.1 ≠ k)
/-- a key as a value -/
def kD : Key → D
  | .inl i => .int i
  | .inr x => .str x
section
variable {K : PySem.W.Frag} {W : Wd}
theorem RepK.val (k : Key) : ∀ {xs : List (Key × D)} {vs : List (Key × V)}, RepK K W xs vs → (valD xs k = none ∧ valV vs k = none) ∨ ∃ d v, valD xs k = some d ∧ valV vs k = some v ∧ Rep K W d v
  | _, _, .nil => .inl ⟨rfl, rfl⟩
  | _, _, .cons (k := j) (d := d) (v := v) (ds := ds) (vs := vs) h t => by
    by_cases e : j = k
    · refine .inr ⟨d, v, ?_, valV_pos e, h⟩
      simp [valD, List.find?_cons, e]
    · have e1 : valD ((j, d) :: ds) k = valD ds k := by simp [valD, List.find?_cons, e]
      rw [e1, valV_neg e]
      exact RepK.val k t
theorem RepK.any (k : Key) : ∀ {xs : List (Key × D)} {vs : List (Key × V)}, RepK K W xs vs → (xs.any fun kv => decide (kv.1 = k)) = (vs.any fun kv => decide (kv.1 = k))
  | _, _, .nil => rfl
  | _, _, .cons h t => by rw [List.any_cons, List.any_cons, RepK.any k t]
theorem RepK.map (k : Key) {d : D} {v : V} (r : Rep K W d v) : ∀ {xs : List (Key × D)} {vs : List (Key × V)}, RepK K W xs vs → RepK K W (xs.map fun kv => if kv.1 = k then (kv.1, d) else kv) (vs.map fun kv => if kv.1 = k then (kv.1, v) else kv)
  | _, _, .nil => .nil
  | _, _, .cons (k := j) h t => by
    rw [List.map_cons, List.map_cons]
    by_cases e : j = k
    · rw [if_pos e, if_pos e]
      exact .cons r (RepK.map k r t)
    · rw [if_neg e, if_neg e]
      exact .cons h (RepK.map k r t)
theorem RepK.app : ∀ {xs ys : List (Key × D)} {vs us : List (Key × V)}, RepK K W xs vs → RepK K W ys us → RepK K W (xs ++ ys) (vs ++ us)
  | _, _, _, _, .nil, h => h
  | _, _, _, _, .cons r t, h => .cons r (t.app h)
theorem RepK.put (k : Key) {d : D} {v : V} {xs : List (Key × D)} {vs : List (Key × V)} (h : RepK K W xs vs) (r : Rep K W d v) : RepK K W (putKD xs k d) (putK vs k v) := by
  unfold putKD putK
  rw [h.any k]
  by_cases e : (vs.any fun kv => decide (kv.1 = k)) = true
  · rw [if_pos e, if_pos e]
    exact h.map k r
  · rw [if_neg e, if_neg e]
    exact h.app (.cons r .nil)
theorem RepK.drop (k : Key) : ∀ {xs : List (Key × D)} {vs : List (Key × V)}, RepK K W xs vs → RepK K W (dropKD xs k) (dropK vs k)
  | _, _, .nil => .nil
  | _, _, .cons (k := j) (d := d) (v := v) (ds := ds) (vs := vs) h t => by
    have ih := RepK.drop k t
    unfold dropKD dropK at ih ⊢
    rw [List.filter_cons, List.filter_cons]
    by_cases e : j ≠ k
    · rw [if_pos (decide_eq_true e), if_pos (decide_eq_true e)]
      exact .cons h ih
    · rw [if_neg (by rw [decide_eq_false e]; exact Bool.false_ne_true), if_neg (by rw [decide_eq_false e]; exact Bool.false_ne_true)]
      exact ih
theorem rep_key {k : Key} {v : V} (h : Rep K W (kD k) v) : v = kV k := by
  cases k with
  | inl i => cases h; rfl
  | inr x => cases h; rfl
theorem RepF.put (f : Str) {d : D} {v : V} (r : Rep K W d v) : ∀ {xs : List (Str × D)} {vs : List (Str × V)}, RepF K W xs vs → RepF K W (putD f d xs) (putF f v vs)
  | _, _, .nil => .cons r .nil
  | _, _, .cons (k := j) (ds := ds) (vs := vs) h t => by
    unfold putD putF
    by_cases e : j = f
    · subst e
      rw [if_pos rfl, if_pos rfl]
      exact .cons r t
    · rw [if_neg e, if_neg e]
      exact .cons h (RepF.put f r t)
end

/-- the true reading of an expression at a context -/
def tE (X : Cx) (e : Expr) : TE := fun σ H Q => ∀ pins s, Inv X pins σ H s → wpAny (model X.prog X.w) X.A (eval e X.env) (EP X pins σ Q) X.xe s
theorem pcan (X : Cx) (e : Expr) : PE X e (tE X e) := ⟨fun pins s σ H Q I h => h pins s I⟩
section
variable {G : Cf} {X : Cx} {en : En} {W W0 W1 : Wd} {σ : L2.St} {H H1 : Hp} {ρ : List Sl} {S S1 : Sto} {pins : List (Addr × Obj)} {s s1 : Shared} {e a b c o : Expr} {es : List Expr} {t ta tb tc te to ti : RE} {tA tK : RA} {pos p apos : Pos} {x m : Str} {st : Stmt} {rest : List Stmt} {ts us : RS}
theorem At.re {E : XD} (z : At G X en W σ H ρ S E pins s) {pins' : List (Addr × Obj)} {s' : Shared} (I : Inv X pins' σ H s') : At G X en W σ H ρ S E pins' s' := ⟨z.hf, z.tk, z.rs, I⟩
theorem DE.can {E : XD} {Q : QO} (h : DE G e t) (z : At G X en W σ H ρ S E pins s) (q : t ρ S E Q) : tE X e σ H (Nx G.B.K en W H Q) := fun pins' s' I => h.run (z.re I) q

/-! ### own lists -/
theorem At.own {E : XD} {i : Nat} {xs : List D} (z : At G X en W σ H ρ S E pins s) (e : ρ[i]? = some (.ol xs)) : ∃ a vs, σ[i]? = some (some (.ref a)) ∧ H a = some (.lst vs) ∧ Reps G.B.K W xs vs ∧ Own en W H a := z.rs.sl i _ e
theorem At.ownd {E : XD} {i : Nat} {xs : List (Key × D)} (z : At G X en W σ H ρ S E pins s) (e : ρ[i]? = some (.od xs)) : ∃ a vs, σ[i]? = some (some (.ref a)) ∧ H a = some (.dK vs) ∧ RepK G.B.K W xs vs ∧ Own en W H a := z.rs.sl i _ e
theorem At.name {E : XD} {i : Nat} (z : At G X en W σ H ρ S E pins s) (hi : G.N[i]? = some x) (hv : Vis G.sc x) (hd : (x == ("__debug__" : Str)) = false) (hcd : (x == ("__classdict__" : Str)) = false) : PE X (.Name x p) (tVar i) := pe_var (by rw [z.hf.N]; exact hi) (by rw [z.hf.sc]; exact hv) hd hcd
/-- what stands in the own list at slot i changes -/
theorem At.sput {D : DEnds} {i : Nat} {xs ys : List Dt.D} {a : Addr} {us : List V} (z : At G X en W σ H ρ S D.ex pins s) (e : ρ[i]? = some (.ol xs)) (q : σ[i]? = some (some (.ref a))) (w : Own en W H a) (r : Reps G.B.K W ys us) (n : D.nx (ρ.set i (.ol ys)) S) (l : W0.Le W) : (ends G.B.K en W0 D).nx σ (upd H a (.lst us)) :=
  ⟨W, ρ.set i (.ol ys), S, z.rs.put e rfl rfl q w ⟨a, us, rfl, upd_same, r, w.f, w.e, w.m⟩, l, n⟩
def dApp (i : Nat) (te : RE) : RS := fun D ρ S => ∃ xs, ρ[i]? = some (.ol xs) ∧ xs.length < sizeLine ∧ te ρ S D.ex fun o S1 => ∃ d, o = .v d ∧ D.nx (ρ.set i (.ol (xs ++ [d]))) S1
theorem ds_app {i : Nat} {cpos : Pos} (hi : G.N[i]? = some x) (hv : Vis G.sc x) (he : DE G e te) (hd : (x == ("__debug__" : Str)) = false := by decide) (hcd : (x == ("__classdict__" : Str)) = false := by decide)
    (hfew : ∀ env : Env, ((backTo cpos (starEach [e] env)).all (fun x => !x.1) && (backToKw cpos (keywordEach [] env)).all (fun x => x.1.isSome)
      && decide ([e].length + ([] : List Keyword).length + (if ([] : List Keyword).isEmpty then 0 else 1) < 30)) = true := by intro _; rfl)
    (hline : (apos.endLine == cpos.line) = true := by rfl) (hs : ∀ env : Env, starEach [e] env = (false, eval e env) :: starEach [] env := by intro _; rfl) (hplain : ∀ env : Env, (backTo cpos (starEach [] env)).any (·.1) = false := by intro _; rfl)
    (hsw : ∀ env : Env, swapsWith (.Call (.Attribute (.Name x p) "append" apos) [e] [] cpos) none pos.line env = pure false := by intro _; rfl) :
    DS G (.Expr (.Call (.Attribute (.Name x p) "append" apos) [e] [] cpos) pos) (dApp i te) := by
  refine ⟨fun {X en W σ H ρ S pins s D} z ⟨xs, e1, hl, q⟩ => ?_⟩
  have P0 : PE X (.Name x p) (tVar i) := z.name hi hv hd hcd
  have PP := ps_expr (X := X) (pos := pos) (pe_bm (X := X) PySem.F.plainAttrs_list PySem.F.slot_list_append PySem.F.type_list_append mt_append P0 (pa_cons (pcan X e) pa_nil (hs _)) rfl (hfew _) hline (hs _) (hplain _)) (hsw _)
  obtain ⟨a, vs, q0, ha, rr, w⟩ := z.own e1
  refine PP.run pins s σ H _ z.I ⟨.ref a, q0, .inl ⟨rfl, vs, SqL.of ha⟩, fun pins' s' I => ?_⟩
  refine he.at (z.re I) q fun v s2 x' H1 W1 o S1 z1 g1 r1 ro ⟨d, eo, q1⟩ => ?_
  subst eo
  obtain ⟨a', vs', q0', ha', rr', w'⟩ := z1.own e1
  rw [q0] at q0'
  cases q0'
  refine ⟨x', H1, z1.I, r1, a, vs', x', rfl, rfl, ha', by rw [rr'.len]; exact hl, ?_⟩
  exact At.sput z1 e1 q0 w' (rr'.app (.cons ro .nil)) q1 g1.le
/-- x[i] = e, x an own list: the value, the index -/
def dSetI (i : Nat) (ti te : RE) : RS := fun D ρ S => ∃ xs, ρ[i]? = some (.ol xs) ∧ te ρ S D.ex fun o S1 => ∃ d, o = .v d ∧ ti ρ S1 D.ex fun j S2 => ∃ n k, j = .v (.int n) ∧ ixN xs.length n = some k ∧ D.nx (ρ.set i (.ol (xs.set k d))) S2
theorem ds_setI {i : Nat} (hi : G.N[i]? = some x) (hv : Vis G.sc x) (hb : DE G b ti) (he : DE G e te) (hd : (x == ("__debug__" : Str)) = false := by decide) (hcd : (x == ("__classdict__" : Str)) = false := by decide)
    (hs : ∀ env : Env, swapsWithSole [.Subscript (.Name x p) b apos] e pos.line env = pure false := by intro _; rfl) (hw : ∀ env : Env, swappedStores [.Subscript (.Name x p) b apos] e env = pure none := by intro _; rfl)
    (h1 : ∀ env : Env, (assignEach [.Subscript (.Name x p) b apos] env).map (·.2) = [assign (.Subscript (.Name x p) b apos) env] := by intro _; rfl)
    (ha : ∀ (env : Env) v, assign (.Subscript (.Name x p) b apos) env v = (do
      let ov ← holding [v] (eval (.Name x p) env)
      let iv ← holding [v, ov] (eval b env)
      standAt apos
      holding [v, ov, iv] (setItem ov iv v)
      release [v, ov, iv] []) := by intro _ _; rfl) : DS G (.Assign [.Subscript (.Name x p) b apos] e pos) (dSetI i ti te) := by
  refine ⟨fun {X en W σ H ρ S pins s D} z ⟨xs, e1, q⟩ => ?_⟩
  have P0 : PE X (.Name x p) (tVar i) := z.name hi hv hd hcd
  have PP := ps_asg (X := X) (pos := pos) (pcan X e) (pg_sub P0 (pcan X b) set_list (ha _)) (hs _) (hw _) (h1 _)
  refine PP.run pins s σ H _ z.I fun pins' s' I => ?_
  refine he.at (z.re I) q fun v s2 x' H1 W1 o S1 z1 g1 r1 ro ⟨d, eo, q1⟩ => ?_
  subst eo
  obtain ⟨a, vs, q0, ha, rr, w⟩ := z1.own e1
  refine ⟨x', H1, z1.I, r1, .ref a, q0, fun pins2 s2 I2 => ?_⟩
  refine hb.at (z1.re I2) q1 fun u s3 y' H2 W2 o2 S2 z2 g2 r2 ro2 ⟨n, k, eo, hk, q2⟩ => ?_
  subst eo
  cases ro2
  obtain ⟨a', vs', q0', ha', rr', w'⟩ := z2.own e1
  rw [q0] at q0'
  cases q0'
  refine ⟨.int n, H2, z2.I, r2, a, vs', n, k, rfl, rfl, ha', by rw [rr'.len]; exact hk, ?_⟩
  exact At.sput z2 e1 q0 w' (rr'.set (Rep.le g2.le ro) k) q2 (g1.le.trans g2.le)
/-- d[k] = e, d an own dict -/
def dSetK (i : Nat) (ti te : RE) : RS := fun D ρ S => ∃ xs, ρ[i]? = some (.od xs) ∧ te ρ S D.ex fun o S1 => ∃ d, o = .v d ∧ ti ρ S1 D.ex fun j S2 => ∃ k, j = .v (kD k) ∧ xs.length < sizeLine ∧ D.nx (ρ.set i (.od (putKD xs k d))) S2
theorem At.dput {D : DEnds} {i : Nat} {xs ys : List (Key × Dt.D)} {a : Addr} {us : List (Key × V)} (z : At G X en W σ H ρ S D.ex pins s) (e : ρ[i]? = some (.od xs)) (q : σ[i]? = some (some (.ref a))) (w : Own en W H a) (r : RepK G.B.K W ys us) (n : D.nx (ρ.set i (.od ys)) S) (l : W0.Le W) : (ends G.B.K en W0 D).nx σ (upd H a (.dK us)) :=
  ⟨W, ρ.set i (.od ys), S, z.rs.put e rfl rfl q w ⟨a, us, rfl, upd_same, r, w.f, w.e, w.m⟩, l, n⟩
theorem ds_setK {i : Nat} (hi : G.N[i]? = some x) (hv : Vis G.sc x) (hb : DE G b ti) (he : DE G e te) (hd : (x == ("__debug__" : Str)) = false := by decide) (hcd : (x == ("__classdict__" : Str)) = false := by decide)
    (hs : ∀ env : Env, swapsWith e (some (.Subscript (.Name x p) b apos)) pos.line env = pure false := by intro _; rfl) : DS G (.Assign [.Subscript (.Name x p) b apos] e pos) (dSetK i ti te) := by
  refine ⟨fun {X en W σ H ρ S pins s D} z ⟨xs, e1, q⟩ => ?_⟩
  have P0 : PE X (.Name x p) (tVar i) := z.name hi hv hd hcd
  have PP := ps_dput (X := X) (pos := pos) (pos' := apos) (by have := z.hf.b.units; omega) P0 (pcan X b) (pcan X e) (hs _)
  refine PP.run pins s σ H _ z.I fun pins' s' I => ?_
  refine he.at (z.re I) q fun v s2 x' H1 W1 o S1 z1 g1 r1 ro ⟨d, eo, q1⟩ => ?_
  subst eo
  obtain ⟨a, vs, q0, ha, rr, w⟩ := z1.ownd e1
  refine ⟨x', H1, z1.I, r1, .ref a, q0, fun pins2 s2 I2 => ?_⟩
  refine hb.at (z1.re I2) q1 fun u s3 y' H2 W2 o2 S2 z2 g2 r2 ro2 ⟨k, eo, hl, q2⟩ => ?_
  subst eo
  obtain rfl := rep_key ro2
  obtain ⟨a', vs', q0', ha', rr', w'⟩ := z2.ownd e1
  rw [q0] at q0'
  cases q0'
  refine ⟨kV k, H2, z2.I, r2, a, _, rfl, DPut.k ha' (by rw [rr'.len]; exact hl), ?_⟩
  exact At.dput z2 e1 q0 w' (rr'.put k (Rep.le g2.le ro)) q2 (g1.le.trans g2.le)
/-- x[i] += e, x an own list of ints -/
def dAugI (B : Bs) (k : Nat) (op : Operator) (i : Nat) (ti te : RE) : RS := fun D ρ S => ∃ xs, ρ[i]? = some (.ol xs) ∧ ti ρ S D.ex fun j S1 => ∃ n l y, j = .v (.int n) ∧ ixN xs.length n = some l ∧ xs[l]? = some y ∧ te ρ S1 D.ex fun o S2 => sem2 B k (inplaceOp op) (.v y) o S2 (D.ex ρ) fun o2 S3 => ∃ d, o2 = .v d ∧ D.nx (ρ.set i (.ol (xs.set l d))) S3
/-! ### pairs of names -/
def dPar (i j : Nat) (tA : RA) : RS := fun D ρ S => tA ρ S D.ex fun os S1 => ∃ x y, os = [.v x, .v y] ∧ D.nx ((ρ.set i (.sh x)).set j (.sh y)) S1
/-- an argument list's true reading -/
def tAr (X : Cx) (es : List Expr) : TA := fun σ H Q => ∀ pos pins s, Inv X pins σ H s → wpAny (model X.prog X.w) X.A (spliced (backTo pos (starEach es X.env))) (AP X pins σ Q) X.xe s
theorem acan (X : Cx) (es : List Expr) : PA X es (tAr X es) := ⟨fun pos pins s σ H Q I h => h pos pins s I⟩
theorem ds_par {i j : Nat} {y : Str} {px py pt : Pos} {kt k2 pt2} (hc : G.B.hot = false) (hi : G.N[i]? = some x) (hj : G.N[j]? = some y) (hij : i ≠ j) (hx : G.sc.names.lookup x = some .local) (hy : G.sc.names.lookup y = some .local) (ha : DA G [a, b] tA)
    (hw : ∀ env : Env, env.scope = G.sc → swappedStores [.Tuple [.Name x px, .Name y py] kt pt] (.Tuple [a, b] k2 pt2) env = pure (some [x, y]))
    (hs : ∀ env : Env, swapsWithSole [.Tuple [.Name x px, .Name y py] kt pt] (.Tuple [a, b] k2 pt2) pos.line env = pure false := by intro _; rfl) :
    DS G (.Assign [.Tuple [.Name x px, .Name y py] kt pt] (.Tuple [a, b] k2 pt2) pos) (dPar i j tA) := by
  refine ⟨fun {X en W σ H ρ S pins s D} z q => ?_⟩
  have PP := ps_par (X := X) (pos := pos) (px := px) (py := py) (pt := pt) (kt := kt) (k2 := k2) (pt2 := pt2) (z.hf.b.calm hc).1 z.hf.nd (by rw [z.hf.N]; exact hi) (by rw [z.hf.N]; exact hj) hij (by rw [z.hf.sc]; exact hx) (by rw [z.hf.sc]; exact hy) (acan X [a, b]) (hw _ z.hf.sc) (hs _)
  refine PP.run pins s σ H _ z.I fun pos' pins' s' I => ?_
  refine ha.at pos' (z.re I) q fun us s2 vs H1 W1 os S1 z1 g1 r1 ro ⟨u, v, eo, q1⟩ => ?_
  subst eo
  cases ro with
  | cons ru ro =>
    cases ro with
    | cons rv ro =>
      cases ro
      refine ⟨_, H1, z1.I, r1, _, _, rfl, W1, _, S1, (z1.rs.set i (s := .sh u) rfl ⟨_, rfl, ru⟩).set j (s := .sh v) rfl ⟨_, rfl, rv⟩, g1.le, q1⟩
def dPar3 (i j l : Nat) (tA : RA) : RS := fun D ρ S => tA ρ S D.ex fun os S1 => ∃ x y z, os = [.v x, .v y, .v z] ∧ D.nx (((ρ.set i (.sh x)).set j (.sh y)).set l (.sh z)) S1
theorem ds_par3 {i j l : Nat} {y z : Str} {px py pz pt : Pos} {kt k2 pt2} (hc : G.B.hot = false) (hi : G.N[i]? = some x) (hj : G.N[j]? = some y) (hl : G.N[l]? = some z) (hij : i ≠ j) (hil : i ≠ l) (hjl : j ≠ l) (hx : G.sc.names.lookup x = some .local) (hy : G.sc.names.lookup y = some .local) (hz : G.sc.names.lookup z = some .local) (ha : DA G [a, b, c] tA)
    (hw : ∀ env : Env, env.scope = G.sc → swappedStores [.Tuple [.Name x px, .Name y py, .Name z pz] kt pt] (.Tuple [a, b, c] k2 pt2) env = pure (some [x, y, z]))
    (hs : ∀ env : Env, swapsWithSole [.Tuple [.Name x px, .Name y py, .Name z pz] kt pt] (.Tuple [a, b, c] k2 pt2) pos.line env = pure false := by intro _; rfl) :
    DS G (.Assign [.Tuple [.Name x px, .Name y py, .Name z pz] kt pt] (.Tuple [a, b, c] k2 pt2) pos) (dPar3 i j l tA) := by
  refine ⟨fun {X en W σ H ρ S pins s D} t q => ?_⟩
  have PP := ps_par3 (X := X) (pos := pos) (px := px) (py := py) (pz := pz) (pt := pt) (kt := kt) (k2 := k2) (pt2 := pt2) (t.hf.b.calm hc).1 t.hf.nd (by rw [t.hf.N]; exact hi) (by rw [t.hf.N]; exact hj) (by rw [t.hf.N]; exact hl) hij hil hjl (by rw [t.hf.sc]; exact hx) (by rw [t.hf.sc]; exact hy) (by rw [t.hf.sc]; exact hz) (acan X [a, b, c]) (hw _ t.hf.sc) (hs _)
  refine PP.run pins s σ H _ t.I fun pos' pins' s' I => ?_
  refine ha.at pos' (t.re I) q fun us s2 vs H1 W1 os S1 z1 g1 r1 ro ⟨u, v, w, eo, q1⟩ => ?_
  subst eo
  cases ro with
  | cons ru ro =>
    cases ro with
    | cons rv ro =>
      cases ro with
      | cons rw' ro =>
        cases ro
        refine ⟨_, H1, z1.I, r1, _, _, _, rfl, W1, _, S1, ((z1.rs.set i (s := .sh u) rfl ⟨_, rfl, ru⟩).set j (s := .sh v) rfl ⟨_, rfl, rv⟩).set l (s := .sh w) rfl ⟨_, rfl, rw'⟩, g1.le, q1⟩
/-! ### while -/
def dWhile (c : RT) (tb : RS) : RS := fun D ρ S => ∃ I : Nat → List Sl → Sto → Prop, (∃ m, I m ρ S) ∧ ∀ m ρ S, I m ρ S →
  c ρ S D.ex fun b S1 => if b = true then tb ⟨fun ρ' S' => ∃ m', m' < m ∧ I m' ρ' S', D.rt, D.nx, fun ρ' S' => ∃ m', m' < m ∧ I m' ρ' S', D.ex⟩ ρ S1 else D.nx ρ S1
/-- a test's, a block's true reading -/
def tTr (X : Cx) (e : Expr) : TT := fun σ H Q => ∀ pins s, Inv X pins σ H s → wpAny (model X.prog X.w) X.A (isTrue e X.env (eval e X.env)) (TP X pins σ Q) X.xe s
theorem tcan (X : Cx) (e : Expr) : PT X e (tTr X e) := ⟨fun pins s σ H Q I h => h pins s I⟩
def tBr (X : Cx) (st : List Stmt) : TS := fun D σ H => ∀ pins s, Inv X pins σ H s → wpAny (model X.prog X.w) X.A (execs st X.env) (SP X pins D) X.xe s
theorem bcan (X : Cx) (st : List Stmt) : PSs X st (tBr X st) := ⟨fun pins s σ H Q I h => h pins s I⟩
theorem sp_imp {D D' : Ends} {f : Flow} {s' : Shared} (h1 : ∀ σ H, D.nx σ H → D'.nx σ H) (h2 : ∀ v H, D.rt v H → D'.rt v H) (h3 : ∀ σ H, D.bk σ H → D'.bk σ H) (h4 : ∀ σ H, D.ct σ H → D'.ct σ H) (h : SP X pins D f s') : SP X pins D' f s' := by
  cases f with
  | next => exact let ⟨σ, H, I, q⟩ := h; ⟨σ, H, I, h1 _ _ q⟩
  | brk => exact let ⟨σ, H, I, q⟩ := h; ⟨σ, H, I, h3 _ _ q⟩
  | cont => exact let ⟨σ, H, I, q⟩ := h; ⟨σ, H, I, h4 _ _ q⟩
  | ret v => exact let ⟨v, σ, H, I, r, q⟩ := h; ⟨v, σ, H, I, r, h2 _ _ q⟩
theorem ds_while {c : Expr} {body : List Stmt} {tc : RT} {tb : RS} (hp : G.lp = true) (hc : DT G c tc) (hb : DSs G body tb) : DS G (.While c body [] pos) (dWhile tc tb) := by
  refine ⟨fun {X en W σ H ρ S pins s D} z ⟨I, ⟨m0, i0⟩, step⟩ => ?_⟩
  refine (ps_while (X := X) (pos := pos) (z.hf.po hp) (tcan X c) (bcan X body)).run pins s σ H _ z.I ⟨fun m σ H => ∃ W' ρ S, Rs G.B.K en W' σ H ρ S ∧ W.Le W' ∧ I m ρ S, ⟨m0, W, ρ, S, z.rs, .refl, i0⟩, ?_⟩
  rintro m σ1 H1 ⟨W1, ρ1, S1, r1, l1, i1⟩ pins' s' I'
  refine hc.at ⟨z.hf, tk_up l1 z.tk, r1, I'⟩ (step m ρ1 S1 i1) fun b s2 H2 W2 S2 z2 g2 q2 => ?_
  cases b with
  | false => exact ⟨H2, z2.I, W2, ρ1, S2, z2.rs, l1.trans g2.le, q2⟩
  | true =>
    refine ⟨H2, z2.I, fun σ' H' => ∃ W' ρ' S', Rs G.B.K en W' σ' H' ρ' S' ∧ W.Le W' ∧ ∃ m', m' < m ∧ I m' ρ' S', fun σ' H' ⟨W', ρ', S', r', l', m', hm, i'⟩ => ⟨m', hm, W', ρ', S', r', l', i'⟩, fun pins2 s3 I3 => ?_⟩
    refine thn (hb.run (D := ⟨fun ρ' S' => ∃ m', m' < m ∧ I m' ρ' S', D.rt, D.nx, fun ρ' S' => ∃ m', m' < m ∧ I m' ρ' S', D.ex⟩) (z2.re I3) q2) fun fl s4 q4 => ?_
    have q5 := sp_back (l1.trans g2.le) q4
    cases fl with
    | next => exact q5
    | cont => exact q5
    | brk => exact q5
    | ret v => exact q5
/-! ### what a loop walks -/
/-- J walks the values xs -/
structure Wk (K : PySem.W.Frag) (W : Wd) (J : It) (xs : List D) : Prop where
  go : ∀ (i : Nat) W' H' S', W.Le W' → Ho K W' H' S' → i < xs.length → J.go i H'
  yl : ∀ (i : Nat) W' H' S' x H2, W.Le W' → Ho K W' H' S' → i < xs.length → J.yld i H' x H2 → ∃ d W2, xs[i]? = some d ∧ Ho K W2 H2 S' ∧ Go W' H' W2 H2 ∧ Rep K W2 d x
  st : ∀ (i : Nat) W' H' S', W.Le W' → Ho K W' H' S' → xs.length ≤ i → J.stop i H'
abbrev RI := List Sl → Sto → XD → (List D → Sto → Prop) → Prop
structure DI (G : Cf) (tg iter : Expr) (t : RI) : Prop where
  run : ∀ {X en W σ H ρ S E pins s Q}, At G X en W σ H ρ S E pins s → t ρ S E Q →
    wpAny (model X.prog X.w) X.A (eval iter X.env) (fun v s1 => wpAny (model X.prog X.w) X.A (pyIter v) (PIE X pins σ tg fun J H' => ∃ W' xs S', Ho G.B.K W' H' S' ∧ Go W H W' H' ∧ Wk G.B.K W' J xs ∧ Q xs S') X.xe s1) X.xe s
theorem Wk.list {K : PySem.W.Frag} {a : Addr} {xs : List D} {vs : List V} (h : SqL K W.F a vs) (r : Reps K W xs vs) : Wk K W (Itl K a) xs where
  go := fun i W' H' S' l ho hi => by
    have hv : i < vs.length := by rw [r.len]; exact hi
    exact ⟨vs, vs[i], sqL_le ho.fh (sqL_le l.f h), List.getElem?_eq_getElem hv⟩
  yl := fun i W' H' S' x H2 l ho hi y => by
    obtain ⟨e, y⟩ := y
    subst e
    obtain ⟨d, e, rd⟩ := r.get (y vs (sqL_le ho.fh (sqL_le l.f h)))
    exact ⟨d, W', e, ho, .refl, rd.le l⟩
  st := fun i W' H' S' l ho hi => ⟨vs, sqL_le ho.fh (sqL_le l.f h), by rw [r.len]; exact hi⟩
theorem Wk.tup {K : PySem.W.Frag} {a : Addr} {xs : List D} {vs : List V} (h : SqT K W.F a vs) (r : Reps K W xs vs) : Wk K W (Itt K a) xs where
  go := fun i W' H' S' l ho hi => by
    have hv : i < vs.length := by rw [r.len]; exact hi
    exact ⟨vs, vs[i], sqT_le ho.fh (sqT_le l.f h), List.getElem?_eq_getElem hv⟩
  yl := fun i W' H' S' x H2 l ho hi y => by
    obtain ⟨e, y⟩ := y
    subst e
    obtain ⟨d, e, rd⟩ := r.get (y vs (sqT_le ho.fh (sqT_le l.f h)))
    exact ⟨d, W', e, ho, .refl, rd.le l⟩
  st := fun i W' H' S' l ho hi => ⟨vs, sqT_le ho.fh (sqT_le l.f h), by rw [r.len]; exact hi⟩
/-- lo, lo + 1, .. -/
def rngD (lo : Int) (n : Nat) : List D := (List.range n).map fun i => .int (lo + (i : Nat))
theorem rngD_len (lo : Int) (n : Nat) : (rngD lo n).length = n := by rw [rngD, List.length_map, List.length_range]
theorem rngD_get {lo : Int} {n i : Nat} (h : i < n) : (rngD lo n)[i]? = some (.int (lo + i)) := by
  rw [rngD, List.getElem?_map, List.getElem?_range h] <;> rfl
theorem Wk.rng {K : PySem.W.Frag} {lo : Int} {n : Nat} : Wk K W (Itr lo n) (rngD lo n) where
  go := fun i W' H' S' l ho hi => by rw [rngD_len] at hi; exact hi
  yl := fun i W' H' S' x H2 l ho hi y => by
    rw [rngD_len] at hi
    obtain ⟨e, ex⟩ := y
    subst e ex
    exact ⟨_, W', rngD_get hi, ho, .refl, .int _⟩
  st := fun i W' H' S' l ho hi => by rw [rngD_len] at hi; exact hi
end
end Dt

set_option Elab.async false
set_option linter.all false
set_option maxRecDepth 100000
set_option maxHeartbeats 4000000
/-! DatF: what is walked; for loops; list comprehensions -/
namespace Dt
open PySem PySem.Spec PyProof.Rows L2 My
/-- the signs of a text -/
def sgnD (x : Str) : List D := x.cps.toList.map fun c => .str ⟨#[c]⟩
theorem Wk.str {K : PySem.W.Frag} {W : Wd} {x : Str} : Wk K W (Its x) (sgnD x) where
  go := fun i W' H' S' l ho hi => by
    rw [sgnD, List.length_map, Array.length_toList] at hi
    exact hi
  yl := fun i W' H' S' y H2 l ho hi q => by
    obtain ⟨e, c, e2, ev⟩ := q
    subst e ev
    refine ⟨.str ⟨#[c]⟩, W', ?_, ho, .refl, .str _⟩
    rw [sgnD, List.getElem?_map, Array.getElem?_toList, e2] <;> rfl
  st := fun i W' H' S' l ho hi => by
    rw [sgnD, List.length_map, Array.length_toList] at hi
    exact hi
theorem Wk.rngC {K : PySem.W.Frag} {W : Wd} {lo c : Int} {n : Nat} : Wk K W (Itc lo c n) ((List.range n).map fun i => .int (lo + (i : Nat) * c)) where
  go := fun i W' H' S' l ho hi => by rw [List.length_map, List.length_range] at hi; exact hi
  yl := fun i W' H' S' x H2 l ho hi y => by
    rw [List.length_map, List.length_range] at hi
    obtain ⟨e, ex⟩ := y
    subst e ex
    refine ⟨.int (lo + (i : Nat) * c), W', ?_, ho, .refl, .int _⟩
    rw [List.getElem?_map, List.getElem?_range hi] <;> rfl
  st := fun i W' H' S' l ho hi => by rw [List.length_map, List.length_range] at hi; exact hi
/-- what may be walked: a list, a tuple, a text -/
def Walk : O → List D → Prop
  | .v (.lst xs), ys => ys = xs
  | .v (.tup xs), ys => ys = xs
  | .v (.str x), ys => ys = sgnD x
  | _, _ => False
section
variable {G : Cf} {X : Cx} {en : En} {W W1 : Wd} {σ : L2.St} {H H1 : Hp} {ρ : List Sl} {S S1 : Sto} {pins : List (Addr × Obj)} {s s1 : Shared} {e a b c o tg : Expr} {es : List Expr} {t ta tb tc te to ti : RE} {tA tK : RA} {pos p apos : Pos} {x m : Str} {st : Stmt} {rest : List Stmt} {ts us : RS}
abbrev iVal (te : RE) : RI := fun ρ S E Q => te ρ S E fun o S1 => ∃ xs, Walk o xs ∧ Q xs S1
theorem di_val (he : DE G e te) : DI G tg e (iVal te) := by
  refine ⟨fun {X en W σ H ρ S E pins s Q} z q => he.at z q fun v s1 x' H1 W1 o S1 z1 g1 r1 ro ⟨xs, wk, q1⟩ => ?_⟩
  have fr : ∀ b, s1.heap.objs.size ≤ b → FpOk X pins H1 b := fun b hb => z1.I.fpOk hb (z1.I.hok.fresh hb)
  cases o with
  | v d =>
    cases d with
    | lst ys =>
      obtain rfl : xs = ys := wk
      obtain ⟨a, vs, rfl, hq, rr⟩ := Rep.lstI ro
      cases r1
      obtain ⟨its, rv, p, hz⟩ := z1.I.list (show SqL X.K H1 a vs by rw [z1.hf.b.K]; exact .inl (rd_le z1.rs.ho.fh hq))
      refine wpAny_pyIter_list p.isList ?_
      refine ⟨s1.heap.objs.size, [s1.heap.objs.size], _, _, H1, rfl, z1.I.kept (t' := s1.toks) fun b o e => Heap.get?_push_of_some _ e, turn_list a _, ⟨_, Heap.get?_push_size _ rfl, rfl, rfl⟩, fun b hb => fr b (Nat.le_of_eq (List.mem_singleton.mp hb).symm), W1, xs, S1, z1.rs.ho, g1, ?_, q1⟩
      rw [z1.hf.b.K]
      exact .list (.inl hq) rr
    | tup ys =>
      obtain rfl : xs = ys := wk
      obtain ⟨a, vs, rfl, hq, rr⟩ := Rep.tupI ro
      cases r1
      obtain ⟨its, rv, p, hz⟩ := z1.I.tuple (show SqT X.K H1 a vs by rw [z1.hf.b.K]; exact sqT_le z1.rs.ho.fh hq)
      refine wpAny_pyIter_tuple (show s1.heap.IsTuple a its.toArray from p) ?_
      refine ⟨s1.heap.objs.size, [s1.heap.objs.size], _, _, H1, rfl, z1.I.kept (t' := s1.toks) fun b o e => Heap.get?_push_of_some _ e, turn_tuple a _, ⟨_, Heap.get?_push_size _ rfl, rfl, rfl⟩, fun b hb => fr b (Nat.le_of_eq (List.mem_singleton.mp hb).symm), W1, xs, S1, z1.rs.ho, g1, ?_, q1⟩
      rw [z1.hf.b.K]
      exact .tup hq rr
    | str x =>
      obtain rfl : xs = sgnD x := wk
      cases ro
      obtain ⟨t, rfl⟩ := r1
      cases ha : x.cps.all (· < 128)
      · exact wpAny_pyIter_wide ha (pi_one (tk := s1.toks) z1.I _ (turn_str _ x t "str_iterator" (.inr rfl)) ⟨_, Heap.get?_push_size _ rfl, rfl, rfl⟩ ⟨W1, _, S1, z1.rs.ho, g1, .str, q1⟩)
      · exact wpAny_pyIter_ascii ha (pi_one (tk := s1.toks) z1.I _ (turn_str _ x t "str_ascii_iterator" (.inl rfl)) ⟨_, Heap.get?_push_size _ rfl, rfl, rfl⟩ ⟨W1, _, S1, z1.rs.ho, g1, .str, q1⟩)
    | _ => exact wk.elim
  | _ => exact wk.elim
theorem pi_imp {R R' : It → Hp → Prop} {itv : Value} {s2 : Shared} (h : ∀ J H, R J H → R' J H) : PIE X pins σ tg R itv s2 → PIE X pins σ tg R' itv s2 := fun ⟨it, fp, tn, J, H', e, I, T, st, f, q⟩ => ⟨it, fp, tn, J, H', e, I, T, st, f, h _ _ q⟩
/-- range(n), range(a, b), range(a, b, c) -/
abbrev iRng1 (tA : RA) : RI := fun ρ S E Q => tA ρ S E fun os S1 => ∃ (n : Int) (xs : List D), os = [.v (.int n)] ∧ -(2 ^ 62) ≤ n ∧ n < 2 ^ 62 ∧ xs = rngD 0 n.toNat ∧ Q xs S1
abbrev iRng2 (tA : RA) : RI := fun ρ S E Q => tA ρ S E fun os S1 => ∃ (i j : Int) (xs : List D), os = [.v (.int i), .v (.int j)] ∧ (-(2 ^ 62) ≤ i ∧ i < 2 ^ 62 ∧ -(2 ^ 62) ≤ j ∧ j < 2 ^ 62) ∧ xs = rngD i (j - i).toNat ∧ Q xs S1
abbrev iRng3 (tA : RA) : RI := fun ρ S E Q => tA ρ S E fun os S1 => ∃ (i j c : Int) (n : Nat) (xs : List D), os = [.v (.int i), .v (.int j), .v (.int c)] ∧ RgC i j c n ∧ xs = ((List.range n).map fun l => .int (i + (l : Nat) * c)) ∧ Q xs S1
theorem di_range1 (hg : Glb G "range") (hm : G.B.mg "range" = none) (ha : DA G [a] tA) (hs : ∀ env : Env, starEach [a] env = [(false, eval a env)] := by intro _; rfl) : DI G tg (.Call (.Name "range" p) [a] [] pos) (iRng1 tA) := by
  refine ⟨fun {X en W σ H ρ S E pins s Q} z q => ?_⟩
  refine (pi_range1 (X := X) (gl_of z.hf.sc hg) (by rw [z.hf.b.mg]; exact hm) (acan X [a]) (hs _)).run pins s σ H _ z.I fun pos' pins' s' I => ?_
  refine ha.at pos' (z.re I) q fun us s2 vs H1 W1 os S1 z1 g1 r1 ro ⟨n, xs, eo, h1, h2, ex, q1⟩ => ?_
  subst eo ex
  cases ro with
  | cons r ro =>
    cases ro
    cases r
    exact ⟨_, H1, z1.I, r1, n, rfl, h1, h2, W1, _, S1, z1.rs.ho, g1, .rng, q1⟩
theorem di_range2 (hg : Glb G "range") (hm : G.B.mg "range" = none) (ha : DA G [a, b] tA) (hs : ∀ env : Env, starEach [a, b] env = [(false, eval a env), (false, eval b env)] := by intro _; rfl) (hs2 : ∀ env : Env, starEach [b] env = [(false, eval b env)] := by intro _; rfl) : DI G tg (.Call (.Name "range" p) [a, b] [] pos) (iRng2 tA) := by
  refine ⟨fun {X en W σ H ρ S E pins s Q} z q => ?_⟩
  refine (pi_range2 (X := X) (gl_of z.hf.sc hg) (by rw [z.hf.b.mg]; exact hm) (acan X [a, b]) (hs _) (hs2 _)).run pins s σ H _ z.I fun pos' pins' s' I => ?_
  refine ha.at pos' (z.re I) q fun us s2 vs H1 W1 os S1 z1 g1 r1 ro ⟨i, j, xs, eo, h, ex, q1⟩ => ?_
  subst eo ex
  cases ro with
  | cons r ro =>
    cases ro with
    | cons r' ro =>
      cases ro
      cases r
      cases r'
      exact ⟨_, H1, z1.I, r1, i, j, rfl, h, W1, _, S1, z1.rs.ho, g1, .rng, q1⟩
theorem di_range3 (hg : Glb G "range") (hm : G.B.mg "range" = none) (ha : DA G [a, b, c] tA) (hs : ∀ env : Env, starEach [a, b, c] env = (false, eval a env) :: starEach [b, c] env := by intro _; rfl) (hpl : ∀ env : Env, (backTo pos (starEach [b, c] env)).any (·.1) = false := by intro _; rfl) : DI G tg (.Call (.Name "range" p) [a, b, c] [] pos) (iRng3 tA) := by
  refine ⟨fun {X en W σ H ρ S E pins s Q} z q => ?_⟩
  refine (pi_range3 (X := X) (gl_of z.hf.sc hg) (by rw [z.hf.b.mg]; exact hm) (acan X [a, b, c]) (hs _) (hpl _)).run pins s σ H _ z.I fun pos' pins' s' I => ?_
  refine ha.at pos' (z.re I) q fun us s2 vs H1 W1 os S1 z1 g1 r1 ro ⟨i, j, k, n, xs, eo, h, ex, q1⟩ => ?_
  subst eo ex
  cases ro with
  | cons r ro =>
    cases ro with
    | cons r' ro =>
      cases ro with
      | cons r'' ro =>
        cases ro
        cases r
        cases r'
        cases r''
        exact ⟨_, H1, z1.I, r1, i, j, k, n, rfl, h, W1, _, S1, z1.rs.ho, g1, .rngC, q1⟩

/-! ### for -/
/-- the turns that are left -/
def Loop (g : RG) (tb : RS) (D : DEnds) : List Dt.D → List Sl → Sto → Prop
  | [], ρ, S => D.nx ρ S
  | x :: xs, ρ, S => g x ρ S D.ex fun ρ' S' => tb ⟨Loop g tb D xs, D.rt, D.nx, Loop g tb D xs, D.ex⟩ ρ' S'
def dFor (ti : RI) (g : RG) (tb : RS) : RS := fun D ρ S => ti ρ S D.ex fun xs S1 => Loop g tb D xs ρ S1
/-- a target's, a walk's true reading -/
def tGr (X : Cx) (tg : Expr) : TG := fun v σ H Q => ∀ pins s u, Inv X pins σ H s → RelV v u → wpAny (model X.prog X.w) X.A (assign tg X.env u) (fun _ s' => ∃ σ' H', Inv X pins σ' H' s' ∧ Q σ' H') X.xe s
theorem gcan (X : Cx) (tg : Expr) : PG X tg (tGr X tg) := ⟨fun pins s σ H v u Q I r h => h pins s u I r⟩
def tIr (X : Cx) (tg iter : Expr) : TI := fun σ H R => ∀ pins s, Inv X pins σ H s → wpAny (model X.prog X.w) X.A (eval iter X.env) (fun v s1 => wpAny (model X.prog X.w) X.A (pyIter v) (PIE X pins σ tg R) X.xe s1) X.xe s
theorem ican (X : Cx) (tg iter : Expr) : PI X tg iter (tIr X tg iter) := ⟨fun pins s σ H R I h => h pins s I⟩
theorem ds_for {iter : Expr} {body : List Stmt} {ti : RI} {g : RG} {tb : RS} {vs : List Nat} (hp : G.lp = true) (hc : G.B.hot = false) (hi : DI G tg iter ti) (hg : DG G tg vs g) (hb : DSs G body tb)
    (hs : ∀ (env : Env) x, foldedSetIterable iter env x = pure x := by intro _ _; rfl) : DS G (.For tg iter body [] pos) (dFor ti g tb) := by
  refine ⟨fun {X en W σ H ρ S pins s D} z q => ?_⟩
  refine (ps_for (X := X) (pos := pos) (z.hf.po hp) (z.hf.b.calm hc).1 (ican X tg iter) (gcan X tg) (bcan X body) (hs _)).run pins s σ H _ z.I fun pins' s' I => ?_
  refine thn (hi.run (z.re I) q) fun v s1 h1 => thn h1 fun itv s2 h2 => ?_
  refine pi_imp (fun J H1 ⟨W1, xs, S1, h1, g1, wk, q1⟩ => ?_) h2
  have r1 := z.rs.after h1 g1
  refine ⟨fun i m σ' H' => m = xs.length - i ∧ i ≤ xs.length ∧ ∃ W' ρ' S', Rs G.B.K en W' σ' H' ρ' S' ∧ W1.Le W' ∧ Loop g tb D (xs.drop i) ρ' S', ⟨xs.length, by simp, Nat.zero_le _, W1, ρ, S1, r1, .refl, by simpa using q1⟩, ?_⟩
  rintro i m σ2 H2 ⟨rfl, hi, W2, ρ2, S2, r2, l2, q2⟩
  by_cases hlt : i < xs.length
  · refine .inr ⟨wk.go i W2 H2 S2 l2 r2.ho hlt, fun σ3 H3 => ∃ W3 ρ3 S3, Rs G.B.K en W3 σ3 H3 ρ3 S3 ∧ W1.Le W3 ∧ Loop g tb D (xs.drop (i + 1)) ρ3 S3, fun σ3 H3 ⟨W3, ρ3, S3, r3, l3, q3⟩ => ⟨_, by omega, rfl, hlt, W3, ρ3, S3, r3, l3, q3⟩, fun x H3 y => ?_⟩
    obtain ⟨d, W3, ed, h3, g3, rd⟩ := wk.yl i W2 H2 S2 x H3 l2 r2.ho hlt y
    rw [List.drop_eq_getElem_cons hlt] at q2
    have e2 : xs[i] = d := by
      rw [List.getElem?_eq_getElem hlt] at ed
      exact Option.some.inj ed
    rw [e2] at q2
    intro pins3 s3 u I3 ru
    have z3 : At G X en W3 σ2 H3 ρ2 S2 D.ex pins3 s3 := ⟨z.hf, tk_up (g1.le.trans (l2.trans g3.le)) z.tk, r2.after h3 g3, I3⟩
    refine thn (hg.run z3 rd ru q2) fun _ s4 ⟨σ4, H4, W4, ρ4, S4, z4, ⟨l4, q4⟩, _⟩ => ⟨σ4, H4, z4.I, fun pins5 s5 I5 => ?_⟩
    have l5 : W1.Le W4 := (l2.trans g3.le).trans l4
    refine thn (hb.run (D := ⟨Loop g tb D (xs.drop (i + 1)), D.rt, D.nx, Loop g tb D (xs.drop (i + 1)), D.ex⟩) (z4.re I5) q4) fun fl s6 q6 => ?_
    cases fl with
    | next => exact let ⟨σ6, H6, I6, W6, ρ6, S6, r6, l6, k6⟩ := q6; ⟨σ6, H6, I6, W6, ρ6, S6, r6, l5.trans l6, k6⟩
    | cont => exact let ⟨σ6, H6, I6, W6, ρ6, S6, r6, l6, k6⟩ := q6; ⟨σ6, H6, I6, W6, ρ6, S6, r6, l5.trans l6, k6⟩
    | brk => exact let ⟨σ6, H6, I6, W6, ρ6, S6, r6, l6, k6⟩ := q6; ⟨σ6, H6, I6, W6, ρ6, S6, r6, g1.le.trans (l5.trans l6), k6⟩
    | ret v => exact let ⟨v, σ6, H6, I6, r0, W6, σ', ρ6, d, S6, r6, l6, rp, k6⟩ := q6; ⟨v, σ6, H6, I6, r0, W6, σ', ρ6, d, S6, r6, g1.le.trans (l5.trans l6), rp, k6⟩
  · have e : i = xs.length := by omega
    subst e
    rw [List.drop_length] at q2
    exact .inl ⟨wk.st _ W2 H2 S2 l2 r2.ho (Nat.le_refl _), W2, ρ2, S2, r2, g1.le.trans l2, q2⟩
/-! ### list comprehensions -/
def wipeS (ρ : List Sl) : List Nat → List Sl
  | [] => ρ
  | v :: vs => (wipeS ρ vs).set v .un
theorem Rs.wipe {K : PySem.W.Frag} (r : Rs K en W σ H ρ S) : ∀ vs : List Nat, Rs K en W (wipe σ vs) H (wipeS ρ vs) S
  | [] => r
  | v :: vs => (r.wipe vs).set v (s := .un) rfl trivial
theorem wipe_eq {σ' : L2.St} (ws : List Nat) (hl : σ'.length = σ.length) (h : ∀ j, j ∉ ws → σ'[j]? = σ[j]?) : L2.wipe σ' ws = L2.wipe σ ws := by
  refine List.ext_getElem? fun j => ?_
  by_cases hj : j ∈ ws
  · have key : ∀ (τ : L2.St) (vs : List Nat), j ∈ vs → (L2.wipe τ vs)[j]? = if j < τ.length then some none else none := fun τ vs => by
      induction vs with
      | nil => intro c; cases c
      | cons v vs ih =>
        intro c
        show ((L2.wipe τ vs).set v none)[j]? = _
        by_cases z : v = j
        · subst z
          rw [List.getElem?_set]
          simp [wipe_length]
        · rw [List.getElem?_set_ne z]
          exact ih ((List.mem_cons.mp c).resolve_left fun y => z y.symm)
    rw [key σ' ws hj, key σ ws hj, hl]
  · rw [wipe_out hj, wipe_out hj, h j hj]
theorem Ho.own_put {K : PySem.W.Frag} {a : Addr} {u : HO} (h : Ho K W H S) (w : Own en W H a) : Ho K W (upd H a u) S :=
  ⟨h.n, fun b x z => by
    rw [upd_ne fun y => by
      rw [y, w.f] at z
      cases z]
    exact h.fh b x z, h.inj, h.mF, fun j hj => by
    rw [upd_ne (w.m j hj)]
    exact h.there j hj, fun j c z => by
    have hj : j < W.n := by
      rw [h.n]
      exact (List.getElem?_eq_some_iff.mp z).1
    exact (h.cel j c z).le .refl fun x y => by rw [upd_ne (w.m j hj)]; exact y⟩
theorem Go.own_put {a : Addr} {u : HO} (g : Go W H W1 H1) (n : H a = none) : Go W H W1 (upd H1 a u) :=
  ⟨g.le, g.fn, fun b x z k => by
    rw [upd_ne fun y => by
      rw [y, n] at z
      cases z]
    exact g.kp b x z k, g.mn⟩
def noE : XD := fun _ _ _ _ => False
theorem takes_no {K : PySem.W.Frag} : Takes X (XT K en W noE) := fun u s' ⟨a, B, sI, pins, σ, H, cls, d, e, I, nb, up, sky, na, os, ag, C, fs, W, ρ, S, x, r, l, q⟩ => q.elim
/-- the turns of a comprehension that are left; acc: what is gathered -/
def Lc (g : RG) (tt : RT) (te : RE) (ρ : List Sl) : List D → List D → Sto → (List D → Sto → Prop) → Prop
  | [], acc, S, Q => Q acc S
  | x :: xs, acc, S, Q => g x ρ S noE fun ρ' S' => tt ρ' S' noE fun c S2 => if c = true then te ρ' S2 noE fun o S3 => ∃ d, o = .v d ∧ acc.length < sizeLine ∧ Lc g tt te ρ xs (acc ++ [d]) S3 Q else Lc g tt te ρ xs acc S2 Q
abbrev fLc (ti : RI) (g : RG) (tt : RT) (te : RE) (ws : List Nat) : RF := fun ρ S E Q => ti ρ S E fun xs S1 => Lc g tt te (wipeS ρ ws) xs [] S1 Q
structure DTs (G : Cf) (ifs : List Expr) (t : RT) : Prop where
  run : ∀ {X en W σ H ρ S E pins s Q}, At G X en W σ H ρ S E pins s → t ρ S E Q → wpAny (model X.prog X.w) X.A (forIn ifs true fun c r => if r = true then do let ok ← isTrue c X.env (eval c X.env); pure (ForInStep.yield ok) else pure (ForInStep.yield r)) (TP X pins σ (NxB G.B.K W H Q)) X.xe s
abbrev dYes : RT := fun _ S _ Q => Q true S
theorem dts_nil : DTs G [] dYes := ⟨fun {X en W σ H ρ S E pins s Q} z q => wpAny_tests_nil ⟨H, z.I, W, S, z.rs.ho, .refl, q⟩⟩
theorem dts_one {c : Expr} {t : RT} (h : DT G c t) : DTs G [c] t := ⟨fun z q => wpAny_tests_one (h.run z q)⟩
/-- the block's settings -/
abbrev Cf.blk (G : Cf) (scope : Scope) : Cf := { G with sc := relS scope G.sc, lp := true, fn := fun x => scope.names.lookup x == some .cell, tr := false }
theorem Fits.blk (f : Fits G X en) (hc : G.B.hot = false) {scope : Scope} {cl : List (Str × Addr)} {C : Addr} {s0 : Shared} {H0 : Hp} {fp : List Addr} : Fits (G.blk scope) (X.blk s0 H0 scope (compEnvC scope cl C X.env) fp) en :=
  ⟨⟨f.b.P, f.b.w, f.b.K, f.b.mg, f.b.base, f.b.rm, f.b.g, f.b.calm, (fun p e => by
    rw [f.b.np hc] at e
    cases e), f.b.np⟩, f.N, (by
    show relS scope X.env.scope = relS scope G.sc
    rw [f.sc]), f.nd, fun x h => h, fun _ => PassesOwn.never, fun h => Bool.noConfusion h⟩
/-- a block's true readings -/
def tGb (X : Cx) (scope : Scope) (tg : Expr) : TG := fun v σ H Q => ∀ (s : Shared) (H0 : Hp) (C : Addr) (cl : List (Str × Addr)) (fp : List Addr), tGr (X.blk s H0 scope (compEnvC scope cl C X.env) fp) tg v σ H Q
def tEb (X : Cx) (scope : Scope) (e : Expr) : TE := fun σ H Q => ∀ (s : Shared) (H0 : Hp) (C : Addr) (cl : List (Str × Addr)) (fp : List Addr), tE (X.blk s H0 scope (compEnvC scope cl C X.env) fp) e σ H Q
def tTb (X : Cx) (scope : Scope) (ifs : List Expr) : TT := fun σ H Q => ∀ (s : Shared) (H0 : Hp) (C : Addr) (cl : List (Str × Addr)) (fp : List Addr) pins s', Inv (X.blk s H0 scope (compEnvC scope cl C X.env) fp) pins σ H s' →
  wpAny (model X.prog X.w) X.A (forIn ifs true fun c r => if r = true then do let ok ← isTrue c (compEnvC scope cl C X.env) (eval c (compEnvC scope cl C X.env)); pure (ForInStep.yield ok) else pure (ForInStep.yield r)) (TP (X.blk s H0 scope (compEnvC scope cl C X.env) fp) pins σ Q) (fun _ _ => False) s'
theorem lc_read {iter elt : Expr} {ifs : List Expr} {scope : Scope} {own : List (Str × Nat)} {ws : List Nat} {ti : RI} {g : RG} {tt : RT} {te : RE} {E : XD} {Q : List D → Sto → Prop} (hc : G.B.hot = false) (hw : ∀ j, j ∈ ws → j ∈ own.map (·.2)) (hi : DI G tg iter ti) (hg : DG (G.blk scope) tg ws g) (ht : DTs (G.blk scope) ifs tt) (he : DE (G.blk scope) elt te) (z : At G X en W σ H ρ S E pins s)
    (q : fLc ti g tt te (own.map (·.2)) ρ S E Q) : tLc (tIr X tg iter) (tGb X scope tg) (tTb X scope ifs) (tEb X scope elt) (own.map (·.2)) σ H
      (fun v H1 => ∃ a W1 vs xs S1, v = .ref a ∧ H1 a = some (.lst vs) ∧ Reps G.B.K W1 xs vs ∧ Ho G.B.K W1 H1 S1 ∧ Go W H W1 H1 ∧ H a = none ∧ W1.F a = none ∧ (∀ i, i < W1.n → W1.m i ≠ a) ∧ Q xs S1) := by
  intro pins' s' I
  refine thn (hi.run (z.re I) q) fun v s1 h1 => thn h1 fun itv s2 h2 => ?_
  refine pi_imp (fun J H1 ⟨W1, xs, S1, h1, g1, wk, q1⟩ L hL => ?_) h2
  have r1 := (z.rs.after h1 g1).wipe (own.map (·.2))
  have hL0 : H L = none := by
    cases y : H L with
    | none => rfl
    | some u =>
      by_cases c : ∃ i, i < W.n ∧ W.m i = L
      · obtain ⟨i, hi, c⟩ := c
        rw [← g1.le.m i hi] at c
        obtain ⟨u2, e2⟩ := h1.there i (Nat.lt_of_lt_of_le hi g1.le.n)
        rw [c, hL] at e2
        cases e2
      · have := g1.kp L u y fun i hi k => c ⟨i, hi, k⟩
        rw [hL] at this
        cases this
  have nm : ∀ i, i < W1.n → W1.m i ≠ L := fun i hi c => by
    obtain ⟨u2, e2⟩ := h1.there i hi
    rw [c, hL] at e2
    cases e2
  have nE : en.H L = none := by
    have g0 := z.rs.go.trans g1 h1
    cases y : en.H L with
    | none => rfl
    | some u =>
      by_cases c : ∃ i, i < en.W.n ∧ en.W.m i = L
      · obtain ⟨i, hi, c⟩ := c
        rw [← g0.le.m i hi] at c
        exact (nm i (Nat.lt_of_lt_of_le hi g0.le.n) c).elim
      · have := g0.kp L u y fun i hi k => c ⟨i, hi, k⟩
        rw [hL] at this
        cases this
  have w0 : Own en W1 (upd H1 L (.lst [])) L := ⟨h1.nF hL, nE, nm⟩
  have w1 : Own en W1 H1 L := ⟨h1.nF hL, nE, nm⟩
  refine ⟨fun i m H' => m = xs.length - i ∧ i ≤ xs.length ∧ ∃ W' S' acc vs, H' L = some (.lst vs) ∧ Reps G.B.K W' acc vs ∧ Ho G.B.K W' H' S' ∧ Go W1 H1 W' H' ∧ Own en W' H' L ∧ Lc g tt te (wipeS ρ (own.map (·.2))) (xs.drop i) acc S' Q,
    ⟨xs.length, by simp, Nat.zero_le _, W1, S1, [], [], upd_same, .nil, h1.own_put w1, Go.own_put .refl hL, w0, by simpa using q1⟩, ?_⟩
  rintro i m H2 ⟨rfl, hi, W2, S2, acc, vs, eL, ra, h2, g2, w2, q2⟩
  by_cases hlt : i < xs.length
  · refine .inr ⟨wk.go i W2 H2 S2 g2.le h2 hlt, fun H' => ∃ W' S' acc vs, H' L = some (.lst vs) ∧ Reps G.B.K W' acc vs ∧ Ho G.B.K W' H' S' ∧ Go W1 H1 W' H' ∧ Own en W' H' L ∧ Lc g tt te (wipeS ρ (own.map (·.2))) (xs.drop (i + 1)) acc S' Q, fun H' k => ⟨_, by omega, rfl, hlt, k⟩, fun x H3 y => ?_⟩
    obtain ⟨d, W3, ed, h3, g3, rd⟩ := wk.yl i W2 H2 S2 x H3 g2.le h2 hlt y
    rw [List.drop_eq_getElem_cons hlt] at q2
    have e2 : xs[i] = d := by
      rw [List.getElem?_eq_getElem hlt] at ed
      exact Option.some.inj ed
    rw [e2] at q2
    intro s0 H0 C cl fp pins3 s3 u I3 ru
    have ef : Fits (G.blk scope) (X.blk s0 H0 scope (compEnvC scope cl C X.env) fp) en := z.hf.blk hc
    have z3 : At (G.blk scope) (X.blk s0 H0 scope (compEnvC scope cl C X.env) fp) en W3 (L2.wipe σ (own.map (·.2))) H3 (wipeS ρ (own.map (·.2))) S2 noE pins3 s3 := ⟨ef, takes_no, (r1.after h2 g2).after h3 g3, I3⟩
    refine thn (hg.run z3 rd ru q2) fun _ s4 ⟨σ4, H4, W4, ρ4, S4, z4, ⟨l4, q4⟩, ⟨k4, n4⟩, g4⟩ => ⟨σ4, H4, z4.I, ?_, ?_⟩
    · have e1 := wipe_eq (own.map (·.2)) n4 fun j hj => k4 j fun c => hj (hw j c)
      rw [e1]
      exact wipe_eq _ (wipe_length _ _) fun j hj => wipe_out hj
    · intro s01 H01 C1 cl1 fp1 pins5 s5 I5
      have ef1 : Fits (G.blk scope) (X.blk s01 H01 scope (compEnvC scope cl1 C1 X.env) fp1) en := z.hf.blk hc
      have z5 : At (G.blk scope) (X.blk s01 H01 scope (compEnvC scope cl1 C1 X.env) fp1) en W4 σ4 H4 ρ4 S4 noE pins5 s5 := ⟨ef1, takes_no, z4.rs, I5⟩
      refine thn (ht.run z5 q4) fun b s6 ⟨H6, I6, W6, S6, h6, g6, q6⟩ => ⟨H6, I6, ?_⟩
      have g26 : Go W2 H2 W6 H6 := ((g3.trans g4 z4.rs.ho).trans g6 h6)
      cases b with
      | false =>
        simp only [Bool.false_eq_true, if_false] at q6 ⊢
        exact ⟨W6, S6, acc, vs, g26.kp L _ eL w2.m, ra.le g26.le, h6, g2.trans g26 h6, w2.go g26 eL, q6⟩
      | true =>
        simp only [if_true] at q6 ⊢
        intro s02 H02 C2 cl2 fp2 pins7 s7 I7
        have ef2 : Fits (G.blk scope) (X.blk s02 H02 scope (compEnvC scope cl2 C2 X.env) fp2) en := z.hf.blk hc
        have z7 : At (G.blk scope) (X.blk s02 H02 scope (compEnvC scope cl2 C2 X.env) fp2) en W6 σ4 H6 ρ4 S6 noE pins7 s7 := ⟨ef2, takes_no, z5.rs.after h6 g6, I7⟩
        refine thn (he.run z7 q6) fun v8 s8 ⟨x8, H8, I8, r8, W8, o8, S8, h8, g8, ro8, d8, eo, hz, q8⟩ => ?_
        subst eo
        have g28 := g26.trans g8 h8
        have eL8 := g28.kp L _ eL w2.m
        have w8 := w2.go g28 eL
        refine ⟨x8, H8, I8, r8, vs, eL8, by rw [ra.len]; exact hz, W8, S8, acc ++ [d8], vs ++ [x8], upd_same, (ra.le g28.le).app (.cons ro8 .nil), h8.own_put w8, Go.own_put (g2.trans g28 h8) hL, ⟨w8.f, w8.e, w8.m⟩, q8⟩
  · have e : i = xs.length := by omega
    subst e
    rw [List.drop_length] at q2
    exact .inl ⟨wk.st _ W2 H2 S2 g2.le h2 (Nat.le_refl _), L, W2, vs, acc, S2, rfl, eL, ra, h2, g1.trans g2 h2, hL0, w2.f, w2.m, q2⟩
theorem df_lc {iter elt : Expr} {ifs : List Expr} {scope : Scope} {own : List (Str × Nat)} {ws : List Nat} {ti : RI} {g : RG} {tt : RT} {te : RE} (hc : G.B.hot = false) (hw : ∀ j, j ∈ ws → j ∈ own.map (·.2)) (hi : DI G tg iter ti) (ok : BlkOk G.N G.sc scope own) (hg : DG (G.blk scope) tg ws g) (ht : DTs (G.blk scope) ifs tt) (he : DE (G.blk scope) elt te)
    (hs : ∀ (env : Env) x, foldedSetIterable iter env x = pure x := by intro _ _; rfl) : DF G (.ListComp elt [⟨tg, iter, ifs, 0⟩] scope pos) (fLc ti g tt te (own.map (·.2))) := by
  refine ⟨fun {X en W σ H ρ S E pins s Q} z q => ?_⟩
  have PP := pe_lc (X := X) (elt := elt) (tg := tg) (iter := iter) (ifs := ifs) (scope := scope) (own := own) (pos := pos) (wi := tIr X tg iter) (g := tGb X scope tg) (tt := tTb X scope ifs) (te := tEb X scope elt) (z.hf.b.calm hc).1 z.hf.nd (ican X tg iter) (by rw [z.hf.N, z.hf.sc]; exact ok)
    (fun s H C cl fp => ⟨fun pins s' σ H v u Q I r h => h _ _ _ _ _ pins s' u I r⟩) (fun s H C cl fp => ⟨fun pins s' σ H Q I h => h _ _ _ _ _ pins s' I⟩) (fun s H C cl fp => ⟨fun pins s' σ H Q I h => h _ _ _ _ _ pins s' I⟩) (hs _)
  refine thn (PP.run pins s σ H _ z.I (lc_read hc hw hi hg ht he z q)) fun v s1 ⟨x, H1, I1, r1, a, W1, vs, xs, S1, e, ha, rr, h1, g1, n, nf, nm, q1⟩ => ?_
  subst e
  obtain rfl : v = Value.ref a := r1
  exact ⟨a, H1, W1, vs, xs, S1, I1, rfl, ha, rr, h1, g1, n, nf, nm, q1⟩
/-- name = [..] on one line, the name a local: the frame's own list, or a value -/
def dAsgC (i : Nat) (tf : RF) : RS := fun D ρ S => tf ρ S D.ex fun xs S1 => D.nx (ρ.set i (.ol xs)) S1
theorem ds_setLc {i : Nat} {y : Str} {py spos : Pos} {iter elt : Expr} {ifs : List Expr} {scope : Scope} {own : List (Str × Nat)} {ws : List Nat} {ti : RI} {g : RG} {tt : RT} {te : RE} (hc : G.B.hot = false) (hw : ∀ j, j ∈ ws → j ∈ own.map (·.2)) (hy : G.N[i]? = some y) (hyl : G.sc.names.lookup y = some .local)
    (hsw : ∀ env : Env, env.scope = G.sc → swapsWith (.ListComp elt [⟨tg, iter, ifs, 0⟩] scope pos) (some (.Name y py)) spos.line env = pure true) (hi : DI G tg iter ti) (ok : BlkOk G.N G.sc scope own) (hg : DG (G.blk scope) tg ws g) (ht : DTs (G.blk scope) ifs tt) (he : DE (G.blk scope) elt te)
    (hs : ∀ (env : Env) x, foldedSetIterable iter env x = pure x := by intro _ _; rfl) : DS G (.Assign [.Name y py] (.ListComp elt [⟨tg, iter, ifs, 0⟩] scope pos) spos) (dAsgC i (fLc ti g tt te (own.map (·.2)))) := by
  refine ⟨fun {X en W σ H ρ S pins s D} z q => ?_⟩
  have PP := ps_setLc (X := X) (i := i) (y := y) (py := py) (spos := spos) (elt := elt) (tg := tg) (iter := iter) (ifs := ifs) (scope := scope) (own := own) (pos := pos) (wi := tIr X tg iter) (g := tGb X scope tg) (tt := tTb X scope ifs) (te := tEb X scope elt) (z.hf.b.calm hc).1 z.hf.nd (by rw [z.hf.N]; exact hy) (by rw [z.hf.sc]; exact hyl) (hsw _ z.hf.sc) (ican X tg iter) (by rw [z.hf.N, z.hf.sc]; exact ok)
    (fun s H C cl fp => ⟨fun pins s' σ H v u Q I r h => h _ _ _ _ _ pins s' u I r⟩) (fun s H C cl fp => ⟨fun pins s' σ H Q I h => h _ _ _ _ _ pins s' I⟩) (fun s H C cl fp => ⟨fun pins s' σ H Q I h => h _ _ _ _ _ pins s' I⟩) (hs _)
  have rd := lc_read hc hw hi hg ht he z q
  have mono : ∀ {F F' : VK}, (∀ v H, F v H → F' v H) → tLc (tIr X tg iter) (tGb X scope tg) (tTb X scope ifs) (tEb X scope elt) (own.map (·.2)) σ H F → tLc (tIr X tg iter) (tGb X scope tg) (tTb X scope ifs) (tEb X scope elt) (own.map (·.2)) σ H F' := fun {F F'} hF h pins' s' I => thn (h pins' s' I) fun v s1 h1 => thn h1 fun itv s2 h2 => pi_imp (fun J H1 k L hL => by
    obtain ⟨Wv, m0, st⟩ := k L hL
    exact ⟨Wv, m0, fun i m H w => (st i m H w).imp (fun ⟨p1, p2⟩ => ⟨p1, hF _ _ p2⟩) id⟩) h2
  refine PP.run pins s σ H _ z.I (mono (fun v H1 ⟨a, W1, vs, xs, S1, e, ha, rr, h1, g1, n, nf, nm, q1⟩ => ?_) rd)
  subst e
  exact ⟨W1, _, S1, z.rs.fresh h1 g1 ha rr n nf nm, g1.le, q1⟩
end
end Dt

set_option Elab.async false
set_option linter.all false
set_option maxRecDepth 100000
set_option maxHeartbeats 4000000
/-! DatG: defs by their bodies: entry, binding of arguments, calls, makers -/
namespace Dt
open PySem PySem.Spec PyProof.Rows L2 My
/-- how a call's arguments come to the parameters. pre: what stands ahead (the instance under way); ks: the names of the keywords; ok: which lists may come; ar: the parameters' values -/
def BindM (B : Bs) (fd : FuncData) (ps : List Str) (m : Nat) (ks : List Str) (ok : List D → List D → Prop) (ar : List D → List D → List D) : Prop :=
  ∀ (A : Around) (outer : List Env) (s : Shared) (W : Wd) (H : Hp) (S : Sto) (E : XK) (pre : List V) (preU : List Value) (ds zs : List D) (vs ws : List V) (us us' : List Value), pre.length = m → ok ds zs → Env0 B.P B.w B.K B.mg B.base A outer s H → B.K.In s.heap → Ho B.K W H S →
    Vals pre preU → Reps B.K W ds vs → Reps B.K W zs ws → Vals vs us → Vals ws us' →
    StX.Bnd (L2.CX B.P B.w) B.P B.w B.K B.mg B.base fd ⟨preU ++ us, ks.zip us'⟩ ps A outer s H E (fun vs2 H2 => ∃ W2 vs3, vs2 = pre ++ vs3 ∧ Ho B.K W2 H2 S ∧ Go W H W2 H2 ∧ Reps B.K W2 (ar ds zs) vs3 ∧ ∀ a o, H a = some o → H2 a = some o)
/-- no new object at the binding -/
theorem bnd_to {P : Program} {w : World} {K : PySem.W.Frag} {mg : Str → Option Value} {base : Heap} {fd : FuncData} {args : Args} {ps : List Str} {A : Around} {outer : List Env} {s : Shared} {H : Hp} {E : XK} {us : List Value} {vs : List V} {G : List V → Hp → Prop}
    (e0 : Env0 P w K mg base A outer s H) (b : BindsTo s fd args (ps.zip us)) (r : Vals vs us) (hl : vs.length = ps.length) (g : G vs H) : StX.Bnd (L2.CX P w) P w K mg base fd args ps A outer s H E G :=
  fun A' Ex Q h => b _ _ _ _ (h s H vs us e0 Un.refl rfl (fun _ _ z => z) r hl g)
/-- the values of defaults -/
def Dfl (K : PySem.W.Frag) (ds : List D) (vs : List V) : Prop := ∀ W, Reps K W ds vs
section
variable {B : Bs} {x qual : Str} {params : Arguments} {body : List Stmt} {scope : Scope} {dvs : List V} {kws : List (Str × V)} {f : Addr} {fd : FuncData} {N ps ks : List Str} {m n : Nat}
/-- by position, none lacking -/
theorem bm_all (F : FunD B.K x qual params body scope [] kws f fd)
    (h : ∀ (kV doc pm : Value) (an : Option Addr) (cdv ct : Value) (us : List Value), us.length = ps.length → bindArgs (PySem.W.fnOf x qual params body scope .none kV doc pm an cdv ct) ⟨us, []⟩ = pure (ps.zip us)) :
    BindM B fd ps m [] (fun ds zs => ds.length + m = ps.length ∧ zs = []) (fun ds _ => ds) := by
  intro A outer s W H S E pre preU ds zs vs ws us us' hm ok e0 KX ho rp rd rz rv rw'
  obtain ⟨ok, e⟩ := ok
  subst e
  cases rz
  cases rw'
  have hl : (pre ++ vs).length = ps.length := by rw [List.length_append, rd.len]; omega
  have hu : (preU ++ us).length = ps.length := by rw [← hl]; exact ((rp.append rv).length).symm
  exact bnd_to e0 (F.bindsA h s (preU ++ us) hu) (rp.append rv) hl ⟨W, vs, rfl, ho, .refl, rd, fun _ _ z => z⟩
/-- by position, the last defaults filling up -/
theorem bm_dfl {dd : List D} (F : FunD B.K x qual params body scope dvs kws f fd) (n j : Nat) (hd : dvs ≠ []) (hn : n + (dvs.length - j) = ps.length)
    (h : ∀ (T : Addr) (kV doc pm : Value) (an : Option Addr) (cdv ct : Value) (us its : List Value), us.length = n → its.length = dvs.length →
      ∃ k, bindArgs (PySem.W.fnOf x qual params body scope (.ref T) kV doc pm an cdv ct) ⟨us, []⟩ = seqItems? (.ref T) >>= k ∧ k (some its.toArray) = pure (ps.zip (us ++ its.drop j))) (hdd : Dfl B.K dd (dvs.drop j)) :
    BindM B fd ps m [] (fun ds zs => ds.length + m = n ∧ zs = []) (fun ds _ => ds ++ dd) := by
  obtain ⟨dsV, r1, hb⟩ := F.binds1 n j hd hn h
  intro A outer s W H S E pre preU ds zs vs ws us us' hm ok e0 KX ho rp rd rz rv rw'
  obtain ⟨ok, e⟩ := ok
  subst e
  cases rz
  cases rw'
  have hdl : (dvs.drop j).length = ps.length - n := by rw [List.length_drop]; omega
  have hl : (pre ++ (vs ++ dvs.drop j)).length = ps.length := by rw [List.length_append, List.length_append, rd.len, hdl]; omega
  have r2 : Vals (pre ++ (vs ++ dvs.drop j)) (preU ++ us ++ dsV) := by
    rw [← List.append_assoc]
    exact (rp.append rv).append r1
  exact bnd_to e0 (hb s (preU ++ us) KX (by rw [← hl]; exact r2.length.symm)) r2 hl ⟨W, _, rfl, ho, .refl, rd.app (hdd W), fun _ _ z => z⟩
/-- keyword-only defaults, all of them lacking -/
theorem bm_kwd {dd : List D} (F : FunD B.K x qual params body scope [] kws f fd) (n : Nat) (hk : kws ≠ []) (hn : n + kws.length = ps.length)
    (h : ∀ (D : Addr) (doc pm : Value) (an : Option Addr) (cdv ct : Value) (us ks : List Value), us.length = n → ks.length = kws.length →
      KwChain D ((kws.map (·.1)).zip ks) (bindArgs (PySem.W.fnOf x qual params body scope .none (.ref D) doc pm an cdv ct) ⟨us, []⟩) (ps.zip (us ++ ks))) (hdd : Dfl B.K dd (kws.map (·.2))) :
    BindM B fd ps m [] (fun ds zs => ds.length + m = n ∧ zs = []) (fun ds _ => ds ++ dd) := by
  obtain ⟨dsV, r1, hb⟩ := F.binds0 n hk hn h
  intro A outer s W H S E pre preU ds zs vs ws us us' hm ok e0 KX ho rp rd rz rv rw'
  obtain ⟨ok, e⟩ := ok
  subst e
  cases rz
  cases rw'
  have hl : (pre ++ (vs ++ kws.map (·.2))).length = ps.length := by rw [List.length_append, List.length_append, rd.len, List.length_map]; omega
  have r2 : Vals (pre ++ (vs ++ kws.map (·.2))) (preU ++ us ++ dsV) := by
    rw [← List.append_assoc]
    exact (rp.append rv).append r1
  exact bnd_to e0 (hb s (preU ++ us) KX (by rw [← hl]; exact r2.length.symm)) r2 hl ⟨W, _, rfl, ho, .refl, rd.app (hdd W), fun _ _ z => z⟩
/-- with keywords, by a rule of binding -/
theorem bm_kbn {g : List Value → List Value → List Value} {gV : List V → List V → List V} {ar : List D → List D → List D} (kb : KBn B.K fd ps n ks g gV) (nm : m ≤ n)
    (hg : ∀ W pre ds zs vs ws, pre.length = m → ds.length + m = n → zs.length = ks.length → Reps B.K W ds vs → Reps B.K W zs ws → ∃ vs3, gV (pre ++ vs) ws = pre ++ vs3 ∧ Reps B.K W (ar ds zs) vs3 ∧ (pre ++ vs3).length = ps.length) :
    BindM B fd ps m ks (fun ds zs => ds.length + m = n ∧ zs.length = ks.length) ar := by
  intro A outer s W H S E pre preU ds zs vs ws us us' hm ok e0 KX ho rp rd rz rv rw'
  obtain ⟨ok, okz⟩ := ok
  obtain ⟨vs3, e, r3, hl⟩ := hg W pre ds zs vs ws hm ok okz rd rz
  have h1 : (preU ++ us).length = n := by rw [← (rp.append rv).length, List.length_append, rd.len]; omega
  have h2 : us'.length = ks.length := by rw [← rw'.length, rz.len]; exact okz
  have r := kb.rel (rp.append rv) rw'
  rw [e] at r
  exact bnd_to e0 (kb.to s (preU ++ us) us' KX h1 h2) r hl ⟨W, vs3, rfl, ho, .refl, r3, fun _ _ z => z⟩
/-- def f(a, .., *v) -/
theorem bm_star {pv : Str} (F : FunD B.K x qual params body scope [] kws f fd) (nm : m ≤ ps.length)
    (hb : ∀ (kV doc pm : Value) (an : Option Addr) (cdv ct : Value) (us rest : List Value), us.length = ps.length → bindArgs (PySem.W.fnOf x qual params body scope .none kV doc pm an cdv ct) ⟨us ++ rest, []⟩ = (newTuple rest >>= fun t => pure (ps.zip us ++ [(pv, t)]))) :
    BindM B fd (ps ++ [pv]) m [] (fun ds zs => ps.length - m ≤ ds.length ∧ ds.length - (ps.length - m) ≤ sizeLine ∧ zs = []) (fun ds _ => ds.take (ps.length - m) ++ [.tup (ds.drop (ps.length - m))]) := by
  intro A outer s W H S E pre preU ds zs vs ws us us' hm ok e0 KX ho rp rd rz rv rw'
  obtain ⟨ok1, ok2, e⟩ := ok
  subst e
  cases rz
  cases rw'
  obtain ⟨oc, od, dV, kV, doc, pm, an, cdv, ct, osl, rfl, lk, hcd, hD, _⟩ := F.ex
  obtain rfl : dV = .none := by
    rcases hD with ⟨_, e⟩ | ⟨e, _⟩
    · exact e
    · exact absurd rfl e
  have hvl := rd.len
  have ru1 := Vals.take (ps.length - m) rv
  have ru2 := Vals.drop (ps.length - m) rv
  have hn : H s.heap.objs.size = Option.none := e0.hok.fresh (Nat.le_refl _)
  have hl0 : (pre ++ vs.take (ps.length - m)).length = ps.length := by rw [List.length_append, List.length_take, hvl]; omega
  have hl1 : (preU ++ us.take (ps.length - m)).length = ps.length := (rp.append ru1).length.symm.trans hl0
  have hz : (vs.drop (ps.length - m)).length ≤ sizeLine := by rw [List.length_drop, hvl]; exact ok2
  have hl2 : (us.drop (ps.length - m)).length ≤ sizeLine := by rw [← ru2.length]; exact hz
  intro A' Ex Q h
  have ea : preU ++ us = (preU ++ us.take (ps.length - m)) ++ us.drop (ps.length - m) := by rw [List.append_assoc, List.take_append_drop]
  show wpAny _ _ (bindArgs _ ⟨preU ++ us, []⟩) _ _ _
  rw [ea, hb kV doc pm an cdv ct _ _ hl1]
  refine wpAny_bind (wpAny_newTuple (wpAny_pure ?_) hl2)
  have new : ObjOk B.P B.w (upd H s.heap.objs.size (.tup (vs.drop (ps.length - m)))) (s.heap.push ({ cls := .type "tuple", data := .seq (us.drop (ps.length - m)).toArray } : Obj)) s.heap.objs.size (.tup (vs.drop (ps.length - m))) := ⟨hz, _, ru2, ⟨_, Heap.get?_push_size _ rfl, rfl, _, rfl⟩⟩
  have un := StX.un_laid (fs := frs outer) (s := s) (o := ({ cls := .type "tuple", data := .seq (us.drop (ps.length - m)).toArray } : Obj)) (u := .tup (vs.drop (ps.length - m))) hn
  have z := h _ _ (pre ++ (vs.take (ps.length - m) ++ [V.ref s.heap.objs.size])) ((preU ++ us.take (ps.length - m)) ++ [Value.ref s.heap.objs.size]) (StX.env0_laid e0 new) un rfl
    (fun e s' => StX.cxUp outer s H _ _ E e s' un (fun b o q => Heap.get?_push_of_some _ q) rfl) (by rw [← List.append_assoc]; exact (rp.append ru1).append (.cons rfl .nil))
    (by rw [← List.append_assoc, List.length_append, hl0, List.length_append] <;> rfl) ⟨W.frz s.heap.objs.size (.tup (vs.drop (ps.length - m))), _, rfl, ho.frz hn, Go.frz ho hn, (rd.take _).le (W.frz_le (ho.nF hn)) |>.app (.cons (.tup (SqT.of upd_same) ((rd.drop _).le (W.frz_le (ho.nF hn)))) .nil), fun a o e => upd_keep hn e⟩
  rw [List.zip_append hl1.symm] at z
  exact z
end

/-! ### a def's body -/
abbrev fnCf (B : Bs) (k : Nat) (N : List Str) (scope : Scope) : Cf := ⟨B, k, N, scope, true, fun _ => true, true⟩
def startS (n : Nat) (ds : List D) : List Sl := ds.map Sl.sh ++ List.replicate (n - ds.length) .un
theorem start_rs {K : PySem.W.Frag} {en : En} {W : Wd} {H : Hp} {S : Sto} {N : List Str} {ds : List D} {vs : List V} (ho : Ho K W H S) (g : Go en.W en.H W H) (r : Reps K W ds vs) : Rs K en W (L2.start N vs) H (startS N.length ds) S where
  ho := ho
  go := g
  len := by
    unfold startS L2.start
    rw [List.length_append, List.length_append, List.length_map, List.length_map, List.length_replicate, List.length_replicate, r.len]
  sl := fun i s e => by
    unfold startS at e
    by_cases hi : i < ds.length
    · rw [List.getElem?_append_left (by rw [List.length_map]; exact hi), List.getElem?_map, List.getElem?_eq_getElem hi] at e
      cases e
      obtain ⟨v, ev, rv⟩ := r.at (List.getElem?_eq_getElem hi)
      refine ⟨v, ?_, rv⟩
      unfold L2.start
      rw [List.getElem?_append_left (by rw [List.length_map, r.len]; exact hi), List.getElem?_map, ev] <;> rfl
    · rw [List.getElem?_append_right (by rw [List.length_map]; omega), List.getElem?_replicate] at e
      split at e
      · cases e
        trivial
      · cases e
  dis := fun i j s t a ne e1 o1 e2 o2 q1 q2 => by
    unfold startS at e1
    by_cases hi : i < ds.length
    · rw [List.getElem?_append_left (by rw [List.length_map]; exact hi), List.getElem?_map, List.getElem?_eq_getElem hi] at e1
      cases e1
      cases o1
    · rw [List.getElem?_append_right (by rw [List.length_map]; omega), List.getElem?_replicate] at e1
      split at e1
      · cases e1
        cases o1
      · cases e1
section
variable {B : Bs} {x qual : Str} {params : Arguments} {body : List Stmt} {scope : Scope} {dvs : List V} {kws : List (Str × V)} {f : Addr} {fd : FuncData} {N ps ks : List Str} {m k : Nat} {ok : List D → List D → Prop} {ar : List D → List D → List D} {t : RS}
/-- a def runs: from any start -/
theorem run_def (F : FunD B.K x qual params body scope dvs kws f fd) (Sc : FnScope N ps scope) (hot : B.hot = false) (bm : BindM B fd ps m ks ok ar) (hd : DSs (fnCf B k N scope) body t) {A : Around} {outer : List Env} {s : Shared} {W : Wd} {H : Hp} {S : Sto} {Q : VK} {E : XK} {pre : List V} {preU : List Value} {ds zs : List D} {vs ws : List V} {us us' : List Value}
    (hm : pre.length = m) (hok : ok ds zs) (hr : My.RG (k + 1) A) (e0 : Env0 B.P B.w B.K B.mg B.base A outer s H) (KX : B.K.In s.heap) (ho : Ho B.K W H S) (rp : Vals pre preU) (rd : Reps B.K W ds vs) (rz : Reps B.K W zs ws) (rv : Vals vs us) (rw' : Vals ws us')
    (hq : ∀ W2 H2 vs3, Ho B.K W2 H2 S → Go W H W2 H2 → Reps B.K W2 (ar ds zs) vs3 → (∀ a o, H a = some o → H2 a = some o) → ∃ (en : En) (ρ0 : List Sl) (D : DEnds), en.pin = none ∧ Rs B.K en W2 (L2.start N (pre ++ vs3)) H2 ρ0 S ∧ t D ρ0 S ∧
      (∀ σ' H' W' ρ' S', Rs B.K en W' σ' H' ρ' S' → W2.Le W' → D.nx ρ' S' → Q .non H') ∧ (∀ v H' W' σ' ρ' d S', Rs B.K en W' σ' H' ρ' S' → W2.Le W' → Rep B.K W' d v → D.rt d ρ' S' → Q v H') ∧
      (∀ ρ S, ¬ D.bk ρ S) ∧ (∀ ρ S, ¬ D.ct ρ S) ∧ ∀ cls d σ' H', XT B.K en W2 D.ex cls d σ' H' → E cls d H') :
    codeAny (model B.P B.w) A (.call (.ref f) ⟨preU ++ us, ks.zip us'⟩) (CR (L2.CX B.P B.w) outer B.P B.w H s Q E) s := by
  obtain ⟨oc, od, dV, kV, doc, pm, an, cdv, ct, osl, rfl, lk, hcd, hD, _⟩ := F.ex
  refine StX.run_bnd lk hcd Sc hr.r e0 (bm A outer s W H S E pre preU ds zs vs ws us us' hm hok e0 KX ho rp rd rz rv rw') fun s2 H2 vs2 ⟨W2, vs3, e2, h2, g2, r3, kp⟩ hr' => ?_
  subst e2
  obtain ⟨en, ρ0, D, pn, rs, hq, n1, n2, n3, n4, n5⟩ := hq W2 H2 vs3 h2 g2 r3 kp
  refine ⟨tBr _ body, bcan _ body, fun pins' s' I => ?_⟩
  have hr2 : My.RG k (A.deeper (envOfC qual scope s2.heap.objs.size f cdv)) := hr.deeper _
  have ft : Fits (fnCf B k N scope) (cxOf (L2.CX B.P B.w) B.P B.w B.K B.mg B.base N qual scope f cdv A outer s2 H2 E) en :=
    ⟨⟨rfl, rfl, rfl, rfl, rfl, ⟨hr2.r.dp, hr2.r.un⟩, hr2.g, fun _ => ⟨rfl, hr2.r.hd⟩, (fun p e => by rw [pn] at e; cases e), fun _ => pn⟩, rfl, rfl, Sc.nd, fun _ _ => rfl, fun _ => passes_of rfl, fun _ => ⟨rfl, rfl⟩⟩
  have tk : Takes (cxOf (L2.CX B.P B.w) B.P B.w B.K B.mg B.base N qual scope f cdv A outer s2 H2 E) (XT B.K en W2 D.ex) :=
    (takes_of (X := cxOf (L2.CX B.P B.w) B.P B.w B.K B.mg B.base N qual scope f cdv A outer s2 H2 E) (E := E) rfl rfl rfl rfl).imp n5
  refine thn (hd.run (D := D) ⟨ft, tk, rs, I⟩ hq) fun fl s3 q3 => ?_
  cases fl with
  | next => exact let ⟨σ', H', I', W', ρ', S', r, l, q⟩ := q3; ⟨σ', H', I', n1 _ _ _ _ _ r l q⟩
  | ret v => exact let ⟨v, σ0, H', I', r0, W', σ', ρ', d, S', r, l, rp, q⟩ := q3; ⟨v, σ0, H', I', r0, n2 _ _ _ _ _ _ _ r l rp q⟩
  | brk => exact let ⟨σ', H', I', W', ρ', S', r, l, q⟩ := q3; (n3 _ _ q).elim
  | cont => exact let ⟨σ', H', I', W', ρ', S', r, l, q⟩ := q3; (n4 _ _ q).elim
/-- what is wanted of a def's body -/
abbrev fnD (Ex : XS) (Q : QO) : DEnds := ⟨fun _ S' => Q (.v .non) S', fun d _ S' => Q (.v d) S', fun _ _ => False, fun _ _ => False, fun _ => Ex⟩
theorem call_def (F : FunD B.K x qual params body scope dvs kws f fd) (Sc : FnScope N ps scope) (hot : B.hot = false) (bm : BindM B fd ps 0 ks ok ar) (hd : DSs (fnCf B k N scope) body t) {ds zs : List D} {S : Sto} {Ex : XS} {Q : QO} (hok : ok ds zs)
    (hq : t (fnD Ex Q) (startS N.length (ar ds zs)) S) : sFun B (k + 1) (.ref f) ks ds zs S Ex Q := by
  intro A outer s W H en σ vs ws us us' hr e0 KX ho rx rz rv rw'
  refine run_def F Sc hot bm hd (pre := []) (preU := []) (Q := Nx B.K en W H Q) (E := WE (XN B.K W H σ Ex) σ) rfl hok hr e0 KX ho .nil rx rz rv rw' fun W2 H2 vs3 h2 g2 r3 kp => ?_
  refine ⟨⟨W, H, 0, none⟩, startS N.length (ar ds zs), fnD Ex Q, rfl, start_rs h2 g2 r3, hq, fun σ' H' W' ρ' S' r l q => ?_, fun v H' W' σ' ρ' d S' r l rp q => ?_, fun _ _ z => z, fun _ _ z => z, fun cls d σ' H' ⟨C, fs, W', ρ', S', xr, r, l, q⟩ => ?_⟩
  · exact ⟨W', .v .non, S', r.ho, r.go, .non, q⟩
  · exact ⟨W', .v d, S', r.ho, r.go, rp, q⟩
  · exact ⟨rfl, C, fs, W', S', xr, r.ho, r.go, q⟩
end
end Dt

set_option Elab.async false
set_option linter.all false
set_option maxRecDepth 100000
set_option maxHeartbeats 4000000
/-! DatH: instances: made, read, stored; methods, properties, classmethods, operators -/
namespace Dt
open PySem PySem.Spec PyProof.Rows L2 My
section
variable {K : PySem.W.Frag} {en : En} {W W1 : Wd} {H H1 : Hp} {S : Sto} {p : Addr} {o u : HO}
/-- a new object of no note -/
theorem Ho.new (h : Ho K W H S) (n : H p = none) : Ho K W (upd H p o) S :=
  ⟨h.n, fun a u e => upd_keep n (h.fh a u e), h.inj, h.mF, fun i hi => let ⟨u, e⟩ := h.there i hi; ⟨u, upd_keep n e⟩, fun i c e => (h.cel i c e).le .refl fun u q => upd_keep n q⟩
theorem Go.new (g : Go W H W1 H1) (n : H1 p = none) : Go W H W1 (upd H1 p o) := ⟨g.le, g.fn, fun a u e k => upd_keep n (g.kp a u e k), g.mn⟩
/-- an object of our own becomes one of the store -/
theorem Ho.cell2 {c : Cell} (h : Ho K W H S) (e : H p = some u) (nf : W.F p = none) (nm : ∀ i, i < W.n → W.m i ≠ p) (r : RelC K (W.cell p) H p c) : Ho K (W.cell p) H (S ++ [c]) where
  n := by
    show W.n + 1 = _
    rw [h.n, List.length_append] <;> rfl
  fh := h.fh
  inj := fun i j hi hj e => by
    have hi : i < W.n + 1 := hi
    have hj : j < W.n + 1 := hj
    by_cases z1 : i = W.n
    · subst z1
      by_cases z2 : j = W.n
      · exact z2.symm
      · rw [Wd.cell_new, Wd.cell_at (by omega)] at e
        exact absurd e.symm (nm j (by omega))
    · by_cases z2 : j = W.n
      · subst z2
        rw [Wd.cell_new, Wd.cell_at (by omega)] at e
        exact absurd e (nm i (by omega))
      · rw [Wd.cell_at (by omega), Wd.cell_at (by omega)] at e
        exact h.inj i j (by omega) (by omega) e
  mF := fun i hi => by
    have hi : i < W.n + 1 := hi
    by_cases z : i = W.n
    · subst z
      rw [Wd.cell_new]
      exact nf
    · rw [Wd.cell_at (by omega)]
      exact h.mF i (by omega)
  there := fun i hi => by
    have hi : i < W.n + 1 := hi
    by_cases z : i = W.n
    · subst z
      rw [Wd.cell_new]
      exact ⟨u, e⟩
    · rw [Wd.cell_at (by omega)]
      exact h.there i (by omega)
  cel := fun i d q => by
    by_cases z : i < S.length
    · rw [List.getElem?_append_left z] at q
      rw [Wd.cell_at (by rw [h.n]; exact z)]
      exact (h.cel i d q).le Wd.cell_le fun u y => y
    · rw [List.getElem?_append_right (by omega)] at q
      have z2 : i = S.length := by
        have := (List.getElem?_eq_some_iff.mp q).1
        simp only [List.length_cons, List.length_nil] at this
        omega
      subst z2
      rw [Nat.sub_self, List.getElem?_cons_zero] at q
      cases q
      rw [← h.n, Wd.cell_new]
      exact r
theorem Go.cell2 (g : Go W H W1 H1) (n : H p = none) : Go W H (W1.cell p) H1 where
  le := g.le.trans Wd.cell_le
  fn := g.fn
  kp := g.kp
  mn := fun i h1 h2 => by
    have h2 : i < W1.n + 1 := h2
    by_cases z : i = W1.n
    · subst z
      rw [Wd.cell_new]
      exact n
    · rw [Wd.cell_at (by omega)]
      exact g.mn i h1 (by omega)
end
theorem env0_made {P : Program} {w : World} {K : PySem.W.Frag} {mg : Str → Option Value} {base : Heap} {A : Around} {outer : List Env} {s : Shared} {H : Hp} {C : Addr} (e : Env0 P w K mg base A outer s H) (KX : K.In s.heap) :
    Env0 P w K mg base A outer { s with heap := (s.heap.push PySem.W.emptyDict).push (PySem.W.instObj C s.heap.objs.size) } (upd (upd H s.heap.objs.size (.own (s.heap.objs.size + 1))) (s.heap.objs.size + 1) (.ins C s.heap.objs.size [])) ∧
    K.In ((s.heap.push PySem.W.emptyDict).push (PySem.W.instObj C s.heap.objs.size)) ∧
    Un (frs outer) [] H (upd (upd H s.heap.objs.size (.own (s.heap.objs.size + 1))) (s.heap.objs.size + 1) (.ins C s.heap.objs.size [])) s.heap ((s.heap.push PySem.W.emptyDict).push (PySem.W.instObj C s.heap.objs.size)) ∧ True := by
  have e1 : (s.heap.push PySem.W.emptyDict).get? s.heap.objs.size = some PySem.W.emptyDict := Heap.get?_push_size s.heap rfl
  have sz : (s.heap.push PySem.W.emptyDict).objs.size = s.heap.objs.size + 1 := Heap.size_push _ _
  have e2 : ((s.heap.push PySem.W.emptyDict).push (PySem.W.instObj C s.heap.objs.size)).get? (s.heap.objs.size + 1) = some (PySem.W.instObj C s.heap.objs.size) := by
    have := Heap.get?_push_size (s.heap.push PySem.W.emptyDict) (o := PySem.W.instObj C s.heap.objs.size) rfl
    rwa [sz] at this
  have e3 : (s.heap.push PySem.W.emptyDict).Ns s.heap.objs.size (fun _ => none) := ⟨PySem.W.emptyDict, #[], _, e1, rfl, (fun e he => absurd he (by simp)), fun _ => rfl⟩
  have n1 : H s.heap.objs.size = none := e.hok.fresh (Nat.le_refl _)
  have E1 := StX.env0_laid (u := .own (s.heap.objs.size + 1)) (o := PySem.W.emptyDict) e ⟨_, e1⟩
  have U1 := StX.un_laid (fs := frs outer) (s := s) (o := PySem.W.emptyDict) (u := .own (s.heap.objs.size + 1)) n1
  have n2 : (upd H s.heap.objs.size (.own (s.heap.objs.size + 1))) (s.heap.push PySem.W.emptyDict).objs.size = none := E1.hok.fresh (Nat.le_refl _)
  have ne : s.heap.objs.size ≠ s.heap.objs.size + 1 := Nat.ne_of_lt (Nat.lt_succ_self _)
  have ok2 : ObjOk P w (upd (upd H s.heap.objs.size (.own (s.heap.objs.size + 1))) (s.heap.push PySem.W.emptyDict).objs.size (.ins C s.heap.objs.size [])) ((s.heap.push PySem.W.emptyDict).push (PySem.W.instObj C s.heap.objs.size)) (s.heap.push PySem.W.emptyDict).objs.size (.ins C s.heap.objs.size []) := by
    rw [sz]
    exact ⟨by rw [upd_ne ne, upd_same], Nat.zero_le _, ne, e2, fun _ => none, (Heap.Ns1.of_empty e3).at fun o q => Heap.get?_push_of_some _ q, fun _ => True.intro, fun y hy => absurd rfl hy⟩
  have E2 := StX.env0_laid (s := { s with heap := s.heap.push PySem.W.emptyDict }) (u := .ins C s.heap.objs.size []) (o := PySem.W.instObj C s.heap.objs.size) E1 ok2
  have U2 := StX.un_laid (fs := frs outer) (s := { s with heap := s.heap.push PySem.W.emptyDict }) (o := PySem.W.instObj C s.heap.objs.size) (u := .ins C s.heap.objs.size []) n2
  refine ⟨?_, KX.keeps fun b o q => Heap.get?_push_of_some _ (Heap.get?_push_of_some _ q), ?_, trivial⟩
  · have E2' := E2
    dsimp only at E2'
    rw [sz] at E2'
    exact E2'
  · have U2' := U1.trans U2
    dsimp only at U2'
    rw [sz] at U2'
    exact U2'
section
variable {B : Bs} {x qual C : Str} {params : Arguments} {body : List Stmt} {scope : Scope} {dvs : List V} {kws : List (Str × V)} {f : Addr} {fd : FuncData} {N ps ks : List Str} {m k : Nat} {ok : List D → List D → Prop} {ar : List D → List D → List D} {t : RS} {S : Sto} {Ex : XS} {Q : QO}
/-! ### C(..) -/
abbrev mkD (C : Str) (Ex : XS) (Q : QO) : DEnds where
  nx := fun ρ S' => ∃ fs, ρ[0]? = some (.slf C fs) ∧ (Q (.v (.ins C fs)) S' ∨ Q (.v (.ptr S'.length)) (S' ++ [.ins C fs]))
  rt := fun d ρ S' => d = .non ∧ ∃ fs, ρ[0]? = some (.slf C fs) ∧ (Q (.v (.ins C fs)) S' ∨ Q (.v (.ptr S'.length)) (S' ++ [.ins C fs]))
  bk := fun _ _ => False
  ct := fun _ _ => False
  ex := fun _ => Ex
def startM (C : Str) (n : Nat) (ds : List D) : List Sl := .slf C [] :: startS (n - 1) ds
theorem call_mk (M : Mg B.K (He.ga B.K C) f) (F : FunD B.K x qual params body scope dvs kws f fd) (Sc : FnScope N ps scope) (hot : B.hot = false) (bm : BindM B fd ps 1 ks ok ar) (hd : DSs (fnCf B k N scope) body t) {ds zs : List D} (hok : ok ds zs)
    (hq : t (mkD C Ex Q) (startM C N.length (ar ds zs)) S) (hN : 0 < N.length := by decide) : sFun B (k + 2) (.ref (He.ga B.K C)) ks ds zs S Ex Q := by
  intro A outer s W H en σ xs' zs' us ws rg e0' KX' ho rx rz rv rw'
  have hx : H (s.heap.objs.size + 1) = none := e0'.hok.fresh (Nat.le_succ _)
  have hdx : H s.heap.objs.size = none := e0'.hok.fresh (Nat.le_refl _)
  obtain ⟨e0, KX, un0, os0⟩ := env0_made (C := He.ga B.K C) e0' KX'
  have hx1 : upd H s.heap.objs.size (.own (s.heap.objs.size + 1)) (s.heap.objs.size + 1) = none := by
    rw [upd_ne (Nat.succ_ne_self _)]
    exact hx
  have key := run_def F Sc hot bm hd (A := A.under (.builtin "type.__call__" ⟨.ref (He.ga B.K C) :: us, ks.zip ws⟩)) (pre := [.ref (s.heap.objs.size + 1)]) (preU := [.ref (s.heap.objs.size + 1)]) (W := W) (S := S)
    (Q := fun v H' => v = .non ∧ Nx B.K en W H Q (.ref (s.heap.objs.size + 1)) H') (E := WE (XN B.K W H σ Ex) σ) rfl hok (RG.make rg _ us (ks.zip ws)) (e0.make _ us (ks.zip ws)) KX ((ho.new hdx).new hx1) (.cons rfl .nil) rx rz rv rw' fun W2 H2 vs3 h2 g2 r3 kp => by
    have gg : Go W H W2 H2 := ((Go.refl.new hdx).new hx1).trans g2 h2
    have e2 : H2 (s.heap.objs.size + 1) = some (.ins (He.ga B.K C) s.heap.objs.size []) := kp _ _ upd_same
    have nF : W2.F (s.heap.objs.size + 1) = none := by
      cases q : W2.F (s.heap.objs.size + 1) with
      | none => rfl
      | some y =>
        rcases g2.fn _ y q with z | z
        · have := ho.fh _ _ z
          rw [hx] at this
          cases this
        · rw [upd_same] at z
          cases z
    have nM : ∀ i, i < W2.n → W2.m i ≠ s.heap.objs.size + 1 := fun i hi c => by
      by_cases z : i < W.n
      · obtain ⟨y, ey⟩ := ho.there i z
        rw [← gg.le.m i z, c, hx] at ey
        cases ey
      · have := g2.mn i (Nat.not_lt.mp z) hi
        rw [c, upd_same] at this
        cases this
    have fin : ∀ {W' : Wd} {σ' : L2.St} {H' : Hp} {ρ' : List Sl} {S' : Sto}, Rs B.K ⟨W, H, s.heap.objs.size + 1, none⟩ W' σ' H' ρ' S' → (∃ fs, ρ'[0]? = some (.slf C fs) ∧ (Q (.v (.ins C fs)) S' ∨ Q (.v (.ptr S'.length)) (S' ++ [.ins C fs]))) → Nx B.K en W H Q (.ref (s.heap.objs.size + 1)) H' := fun {W' σ' H' ρ' S'} r ⟨fs, e, q⟩ => by
      obtain ⟨dx, vs, _, eH, rf, w⟩ := r.sl 0 _ e
      have w : Own ⟨W, H, s.heap.objs.size + 1, none⟩ W' H' (s.heap.objs.size + 1) := w
      have eH : H' (s.heap.objs.size + 1) = some (.ins (He.ga B.K C) dx vs) := eH
      rcases q with q | q
      · exact ⟨_, .v (.ins C fs), S', r.ho.frz2 eH w.f w.m, Go.frz2 (K := B.K) r.go hx w.f, .ins upd_same (rf.le (W'.frz_le w.f)), q⟩
      · refine ⟨_, .v (.ptr S'.length), _, r.ho.cell2 (c := .ins C fs) eH w.f w.m ⟨dx, vs, eH, rf.le Wd.cell_le⟩, r.go.cell2 hx, ?_, q⟩
        have z : Rep B.K (W'.cell (s.heap.objs.size + 1)) (.ptr W'.n) (.ref ((W'.cell (s.heap.objs.size + 1)).m W'.n)) := .ptr (Nat.lt_succ_self _)
        rw [Wd.cell_new, r.ho.n] at z
        exact z
    refine ⟨⟨W, H, s.heap.objs.size + 1, none⟩, startM C N.length (ar ds zs), mkD C Ex Q, rfl, ?_, hq, fun σ' H' W' ρ' S' r l q => ⟨rfl, fin r q⟩, fun v H' W' σ' ρ' d S' r l rp q => ?_, fun _ _ z => z, fun _ _ z => z, fun cls d σ' H' ⟨C', fs, W', ρ', S', xr, r, l, q⟩ => ⟨rfl, C', fs, W', S', xr, r.ho, r.go, q⟩⟩
    · have base := start_rs (K := B.K) (en := ⟨W, H, s.heap.objs.size + 1, none⟩) (N := N.tail) h2 gg r3
      have hlen : N.tail.length = N.length - 1 := List.length_tail
      refine ⟨base.ho, base.go, ?_, fun i sl e => ?_, fun i j sl t a ne e1 o1 e2' o2 q1 q2 => ?_⟩
      · unfold startM startS L2.start
        simp only [List.length_cons, List.length_append, List.length_map, List.length_replicate, List.length_nil, r3.len]
        omega
      · cases i with
        | zero =>
          cases e
          refine ⟨s.heap.objs.size, [], ?_, e2, .nil, nF, hx, nM⟩
          unfold L2.start
          rfl
        | succ i =>
          have e' : (startS (N.length - 1) (ar ds zs))[i]? = some sl := e
          rw [← hlen] at e'
          have k := base.sl i sl e'
          have q : (L2.start N ([V.ref (s.heap.objs.size + 1)] ++ vs3))[i + 1]? = (L2.start N.tail vs3)[i]? := by
            unfold L2.start
            have : N.length - ([V.ref (s.heap.objs.size + 1)] ++ vs3).length = N.tail.length - vs3.length := by
              rw [hlen]
              simp only [List.length_append, List.length_cons, List.length_nil]
              omega
            rw [this]
            rfl
          rw [q]
          exact k
      · have own0 : ∀ {i : Nat} {sl : Sl}, (startM C N.length (ar ds zs))[i]? = some sl → isOwn sl = true → i = 0 := fun {i sl} e o => by
          cases i with
          | zero => rfl
          | succ i =>
            have e' : (startS (N.length - 1) (ar ds zs))[i]? = some sl := e
            unfold startS at e'
            by_cases hi : i < (ar ds zs).length
            · rw [List.getElem?_append_left (by rw [List.length_map]; exact hi), List.getElem?_map, List.getElem?_eq_getElem hi] at e'
              cases e'
              cases o
            · rw [List.getElem?_append_right (by rw [List.length_map]; omega), List.getElem?_replicate] at e'
              split at e'
              · cases e'
                cases o
              · cases e'
        exact ne ((own0 e1 o1).trans (own0 e2' o2).symm)
    · obtain ⟨ed, q⟩ := q
      subst ed
      cases rp
      exact ⟨rfl, fin r q⟩
  refine make_map (K := B.K) (f := f) KX' M.makes M.init (beq_iff_eq.mp M.fn) (codeAny_mono key fun y s' hq' => ?_)
  match y, hq' with
  | .error er, hq' =>
    have hq2 : L2.CX B.P B.w outer (upd (upd H s.heap.objs.size (.own (s.heap.objs.size + 1))) (s.heap.objs.size + 1) (.ins (He.ga B.K C) s.heap.objs.size [])) { s with heap := (s.heap.push PySem.W.emptyDict).push (PySem.W.instObj (He.ga B.K C) s.heap.objs.size) } (WE (XN B.K W H σ Ex) σ) er s' := hq'
    exact StX.cxUp outer s H { s with heap := (s.heap.push PySem.W.emptyDict).push (PySem.W.instObj (He.ga B.K C) s.heap.objs.size) } _ _ er s' un0 (fun b o e => Heap.get?_push_of_some _ (Heap.get?_push_of_some _ e)) rfl hq2
  | .ok (.ret u), hq' =>
    obtain ⟨v, H', o1, b1, u1, h1, rv', ev, q3⟩ := hq'
    subst ev
    exact ⟨rv', V.ref (s.heap.objs.size + 1), H', o1, b1, un0.trans u1, h1, rfl, q3⟩
end
end Dt

set_option Elab.async false
set_option linter.all false
set_option maxRecDepth 100000
set_option maxHeartbeats 4000000
/-! DatI: fields, properties, methods, classmethods, stores of fields -/
namespace Dt
open PySem PySem.Spec PyProof.Rows L2 My
/-- an instance of the class C with these fields -/
def IsI (S : Sto) : O → Str → List (Str × D) → Prop
  | .v (.ins C fs), C', fs' => C' = C ∧ fs' = fs
  | .v (.ptr i), C', fs' => S[i]? = some (.ins C' fs')
  | .s C fs, C', fs' => C' = C ∧ fs' = fs
  | _, _, _ => False
theorem isI_ins {S : Sto} {C : Str} {fs : List (Str × D)} : IsI S (.v (.ins C fs)) C fs := ⟨rfl, rfl⟩
theorem isI_ptr {S : Sto} {i : Nat} {C : Str} {fs : List (Str × D)} (h : S[i]? = some (.ins C fs)) : IsI S (.v (.ptr i)) C fs := h
theorem isI_s {S : Sto} {C : Str} {fs : List (Str × D)} : IsI S (.s C fs) C fs := ⟨rfl, rfl⟩
abbrev ClD (K : PySem.W.Frag) (C : Str) : Prop := Cls K (He.ga K C)
abbrev NoA (K : PySem.W.Frag) (C f : Str) : Prop := NoAttr K (He.ga K C) f
section
variable {K : PySem.W.Frag} {en : En} {W : Wd} {H : Hp} {S : Sto} {o : O} {C : Str} {fs : List (Str × D)} {v : V}
theorem isI_at (ho : Ho K W H S) (h : IsI S o C fs) (r : RepO K en W H o v) : ∃ a dx vs, v = .ref a ∧ H a = some (.ins (He.ga K C) dx vs) ∧ RepF K W fs vs := by
  cases o with
  | v d =>
    cases r with
    | ins q r =>
      obtain ⟨rfl, rfl⟩ := h
      exact ⟨_, _, _, rfl, ho.fh _ _ q, r⟩
    | ptr hi =>
      obtain ⟨dx, vs, e, r⟩ := ho.cel _ _ h
      exact ⟨_, dx, vs, rfl, e, r⟩
    | _ => exact h.elim
  | b xs => exact h.elim
  | bd xs => exact h.elim
  | s D gs =>
    obtain ⟨rfl, rfl⟩ := h
    obtain ⟨dx, vs, e, q, r, _⟩ := r
    exact ⟨_, dx, vs, e, q, r⟩
end
section
variable {B : Bs} {k : Nat} {f C : Str} {fs : List (Str × D)} {o : O} {d : D} {S : Sto} {Ex : XS} {Q : QO}
/-- o.f, f a field -/
theorem sAttr_f (i : IsI S o C fs) (c : ClD B.K C) (n : NoA B.K C f) (l : fs.lookup f = some d) (q : Q (.v d) S) : sAttr B k f o S Ex Q := by
  intro X en W σ H ft tk ho x' ro pins s v I rv
  obtain ⟨a, dx, vs, rfl, ea, rf⟩ := isI_at ho i ro
  obtain rfl : v = Value.ref a := rv
  rcases rf.look f with ⟨d', w, e1, e2, r⟩ | ⟨e1, _⟩
  · rw [l] at e1
    cases e1
    rw [← ft.K] at c n ea
    exact getattr_ok I ea c n e2 fun u s2 I2 ru => ⟨w, H, I2, ru, W, .v d, S, ho, .refl, r, q⟩
  · rw [l] at e1
    cases e1
def noX : XS := fun _ _ _ => False
theorem takes_nox {X : Cx} {K : PySem.W.Frag} {W : Wd} {H : Hp} {σ : L2.St} : Takes X.nox (XN K W H σ noX) := fun u s' ⟨a, B, sI, pins, σ, H, cls, d, e, I, nb, up, sky, na, os, ag, e2, C, fs, W, S, x, h, g, q⟩ => q.elim
/-- o.f, f a property with the getter at g -/
theorem sAttr_p {q g : Addr} (i : IsI S (.v d) C fs) (hot : B.hot = false) (c : ClD B.K C) (hp : PropOf B.K (He.ga B.K C) f q g) (h : sFun B k (.ref g) [] [d] [] S noX Q) : sAttr B (k + 1) f (.v d) S Ex Q := by
  intro X en W σ H ft tk ho x' ro pins s v I rv
  obtain ⟨a, dx, vs, rfl, ea, rf⟩ := isI_at ho i ro
  obtain rfl : v = Value.ref a := rv
  have c' : Cls X.K (He.ga B.K C) := by rw [ft.K]; exact c
  have hp' : PropOf X.K (He.ga B.K C) f q g := by rw [ft.K]; exact hp
  obtain ⟨mA, O, _, _, _, _⟩ := ins_get I.hok ea
  obtain ⟨od, J, _⟩ := O.look
  obtain ⟨rest, hrec⟩ := hp'.rec_
  have I2 := I.tok (s.toks + 1)
  have hc : (PySem.W.clsIn X.K (He.ga B.K C)).isSome = true := let ⟨cd, hc, _⟩ := PySem.W.any_some c'.hd; by rw [hc] <;> rfl
  refine PySem.W.get_bind I.kIn J (PySem.W.plainGet_of (c'.get f)).1 (PySem.W.findObj_data hc hp'.at_ hp'.get hp'.tak) (PySem.W.plainGet_of (c'.get f)).2 (wpAny_call (PySem.W.prop_get (s := { s with toks := s.toks + 1 }) I.kIn hrec ?_))
  have e0 := I2.env0.in1
  rw [ft.P, ft.w, ft.K, ft.mg, ft.base] at e0
  have KX : B.K.In ({ s with toks := s.toks + 1 } : Shared).heap := by rw [← ft.K]; exact I2.kIn
  have key := h X.A.in1 X.stack { s with toks := s.toks + 1 } W H en σ [.ref a] [] [.ref a] [] (ft.rg hot).in1 e0 KX ho (.cons ro .nil) .nil (.cons rfl .nil) .nil
  rw [← ft.P, ← ft.w] at key
  refine codeAny_mono key fun y s' hq => ?_
  match y, hq with
  | .error er, hq => exact (passAt (X := X.nox) (W := XN B.K W H σ noX) takes_nox σ pins H { s with toks := s.toks + 1 } er s' (I2.wish _) hq).elim
  | .ok (.ret u), hq =>
    obtain ⟨v, H', I3, rv, q3⟩ := I2.after hq
    show wpAny _ _ (handedOut u) _ _ _
    rw [PySem.W.handedOut_of (handed_of rv)]
    exact wpAny_pure ⟨v, H', I3, rv, q3⟩
end
section
variable {G : Cf} {X : Cx} {en : En} {W W1 : Wd} {σ : L2.St} {H H1 : Hp} {ρ : List Sl} {S S1 : Sto} {E : XD} {pins : List (Addr × Obj)} {s s1 : Shared} {e a b c o : Expr} {es : List Expr} {kws : List Keyword} {t ta tb tc te to tv : RE} {tA tK : RA} {pos p apos pos' : Pos} {x m : Str}
/-! ### methods -/
abbrev mAd (K : PySem.W.Frag) (C m : Str) : Addr := He.ma K (He.ga K C) m
/-- the object's class has the method m -/
def MtD (K : PySem.W.Frag) (m : Str) (d : D) (S : Sto) (C : Str) : Prop := ∃ fs, IsI S (.v d) C fs ∧ Cls K (He.ga K C) ∧ Meth K (He.ga K C) m (mAd K C m) ∧ fs.lookup m = none
abbrev dMeth (B : Bs) (k : Nat) (m : Str) (ks : List Str) (to : RE) (tA tK : RA) : RE := fun ρ S E Q => to ρ S E fun x S1 => ∃ d C, x = .v d ∧ MtD B.K m d S1 C ∧ tA ρ S1 E fun os S2 => ∃ ds, Sol os ds ∧ tK ρ S2 E fun zs S3 => ∃ es, Sol zs es ∧ sFun B k (.ref (mAd B.K C m)) ks (d :: ds) es S3 (E ρ) Q
abbrev MethTx (o : Expr) (m : Str) (apos pos : Pos) (es : List Expr) (kws : List Keyword) : Prop := ∀ env : Env, ∃ pl : Sem Bool, eval (.Call (.Attribute o m apos) es kws pos) env = (do
      let ov ← eval o env
      standAt apos.atName
      let (f, first) ← holding [ov] (getMethod ov m pl)
      callWith pos f first (backTo pos (starEach es env)) (backToKw pos (keywordEach kws env)))
theorem MtD.get {K : PySem.W.Frag} {m : Str} {d : D} {C : Str} {x' : V} {v : Value} {pl : Sem Bool} {A : Around} {Q : Value × List Value → Shared → Prop} {E2 : Value → Shared → Prop} (h : MtD K m d S C) (e : X.K = K) (ho : Ho K W H S) (r : Rep K W d x') (I : Inv X pins σ H s) (rv : RelV x' v) (q : Q (.ref (mAd K C m), [v]) s) :
    wpAny (model X.prog X.w) A (getMethod v m pl) Q E2 s := by
  obtain ⟨fs, i, c, mt, l⟩ := h
  subst e
  obtain ⟨a, dx, vs, rfl, ea, rf⟩ := isI_at (en := ⟨W, H, 0, none⟩) ho i r
  obtain rfl : v = Value.ref a := rv
  have l2 : vs.lookup m = none := by
    rcases rf.look m with ⟨d', w, e1, e2, r⟩ | ⟨_, e2⟩
    · rw [l] at e1
      cases e1
    · exact e2
  exact getmeth_ok I ea c mt l2 q
theorem de_me (hc : G.B.hot = false) (ho : DE G o to) (ha : DA G (e :: es) tA) (hst : ∀ env : Env, starEach (e :: es) env = (false, eval e env) :: starEach es env := by intro _; rfl) (hpl : ∀ env : Env, (backTo pos (starEach es env)).any (·.1) = false := by intro _; rfl)
    (ht : MethTx o m apos pos (e :: es) [] := by intro _; exact ⟨_, rfl⟩) : DE G (.Call (.Attribute o m apos) (e :: es) [] pos) (dMeth G.B G.k m [] to tA aNil) := by
  refine ⟨fun {X en W σ H ρ S E pins s Q} z q => ?_⟩
  obtain ⟨pl, ht⟩ := ht X.env
  refine PySem.W.methodCall_KW (pl := pl) (ho.at z q fun v s1 x' H1 W1 o1 S1 z1 g1 r1 ro ⟨d, C, eo, mt, q1⟩ => ?_) ht
  subst eo
  refine mt.get z1.hf.b.K z1.rs.ho ro z1.I r1 ?_
  have kp : PySem.W.keepIn G.B.K (.ref (mAd G.B.K C m)) = true := mt.elim fun _ h => h.2.2.1.kp
  refine PySem.W.callWith_K (first := [v]) (h₀ := X.base) z1.kin kp (ha.at pos z1 q1 fun us s2 vs H2 W2 os S2 z2 g2 r2 ro2 ⟨ds, so, es', se, q2⟩ => ⟨z2.kIn, ?_⟩) (hst _) (hpl _)
  subst so
  obtain rfl : es' = [] := by cases es' <;> first | rfl | cases se
  exact thn (z2.fn hc (ds := d :: ds) (us := v :: us) (us' := []) q2 (.cons (RepO.go g2 (o := .v d) ro) ro2) .nil (.cons r1 r2) .nil) fun _ _ => ep_back (g1.trans g2 z2.rs.ho)
theorem de_me0 (hc : G.B.hot = false) (ho : DE G o to) (ht : MethTx o m apos pos [] [] := by intro _; exact ⟨_, rfl⟩) : DE G (.Call (.Attribute o m apos) [] [] pos) (dMeth G.B G.k m [] to aNil aNil) := by
  refine ⟨fun {X en W σ H ρ S E pins s Q} z q => ?_⟩
  obtain ⟨pl, ht⟩ := ht X.env
  refine PySem.W.methodCall_KW (pl := pl) (ho.at z q fun v s1 x' H1 W1 o1 S1 z1 g1 r1 ro ⟨d, C, eo, mt, ds, so, es', se, q1⟩ => ?_) ht
  subst eo
  refine mt.get z1.hf.b.K z1.rs.ho ro z1.I r1 ?_
  have kp : PySem.W.keepIn G.B.K (.ref (mAd G.B.K C m)) = true := mt.elim fun _ h => h.2.2.1.kp
  obtain rfl : ds = [] := by cases ds <;> first | rfl | cases so
  obtain rfl : es' = [] := by cases es' <;> first | rfl | cases se
  exact PySem.W.callWith_K0 (first := [v]) z1.kIn kp (thn (z1.fn hc (ds := [d]) (us := [v]) (us' := []) q1 (.cons ro .nil) .nil (.cons r1 .nil) .nil) fun _ _ => ep_back g1)
theorem de_mek {ks : List Str} (hc : G.B.hot = false) (ho : DE G o to) (ha : DA G (e :: es) tA) (hk : DK G kws tK) (he : ∀ env : Env, starEach (e :: es) env = (false, eval e env) :: starEach es env := by intro _; rfl) (hall : ∀ env : Env, (backToKw pos (keywordEach kws env)).all (·.1.isSome) = true := by intro _; rfl)
    (hks : ∀ env : Env, (backToKw pos (keywordEach kws env)).filterMap (·.1) = ks := by intro _; rfl) (hpl : ∀ env : Env, ((backTo pos (starEach (e :: es) env)).any (·.1) || (backToKw pos (keywordEach kws env)).any (·.1.isNone)) = false := by intro _; rfl)
    (ht : MethTx o m apos pos (e :: es) kws := by intro _; exact ⟨_, rfl⟩) : DE G (.Call (.Attribute o m apos) (e :: es) kws pos) (dMeth G.B G.k m ks to tA tK) := by
  refine ⟨fun {X en W σ H ρ S E pins s Q} z q => ?_⟩
  obtain ⟨pl, ht⟩ := ht X.env
  refine PySem.W.methodCall_KW (pl := pl) (ho.at z q fun v s1 x' H1 W1 o1 S1 z1 g1 r1 ro ⟨d, C, eo, mt, q1⟩ => ?_) ht
  subst eo
  refine mt.get z1.hf.b.K z1.rs.ho ro z1.I r1 ?_
  have kp : PySem.W.keepIn G.B.K (.ref (mAd G.B.K C m)) = true := mt.elim fun _ h => h.2.2.1.kp
  refine PySem.W.callWith_KW (first := [v]) (h₀ := X.base) z1.kin kp (hall _) (ha.at pos z1 q1 fun us s2 vs H2 W2 os S2 z2 g2 r2 ro2 ⟨ds, so, q2⟩ => hk.at pos z2 q2 fun ws s3 zs H3 W3 os3 S3 z3 g3 r3 ro3 ⟨es', se, q3⟩ => ⟨z3.kIn, ?_⟩) (hpl _) (he _)
  subst so se
  rw [hks]
  have g23 := g2.trans g3 z3.rs.ho
  exact thn (z3.fn hc (ds := d :: ds) (us := v :: us) q3 (.cons (RepO.go g23 (o := .v d) ro) (RepOs.go g3 ro2)) ro3 (.cons r1 r2) r3) fun _ _ => ep_back (g1.trans g23 z3.rs.ho)
theorem de_mek0 {ks : List Str} (hc : G.B.hot = false) (ho : DE G o to) (hk : DK G kws tK) (hall : ∀ env : Env, (backToKw pos (keywordEach kws env)).all (·.1.isSome) = true := by intro _; rfl)
    (hks : ∀ env : Env, (backToKw pos (keywordEach kws env)).filterMap (·.1) = ks := by intro _; rfl) (hpl : ∀ env : Env, ((backTo pos (starEach [] env)).any (·.1) || (backToKw pos (keywordEach kws env)).any (·.1.isNone)) = false := by intro _; rfl)
    (ht : MethTx o m apos pos [] kws := by intro _; exact ⟨_, rfl⟩) : DE G (.Call (.Attribute o m apos) [] kws pos) (dMeth G.B G.k m ks to aNil tK) := by
  refine ⟨fun {X en W σ H ρ S E pins s Q} z q => ?_⟩
  obtain ⟨pl, ht⟩ := ht X.env
  refine PySem.W.methodCall_KW (pl := pl) (ho.at z q fun v s1 x' H1 W1 o1 S1 z1 g1 r1 ro ⟨d, C, eo, mt, ds, so, q1⟩ => ?_) ht
  subst eo
  refine mt.get z1.hf.b.K z1.rs.ho ro z1.I r1 ?_
  have kp : PySem.W.keepIn G.B.K (.ref (mAd G.B.K C m)) = true := mt.elim fun _ h => h.2.2.1.kp
  obtain rfl : ds = [] := by cases ds <;> first | rfl | cases so
  refine PySem.W.callWith_KW0 (first := [v]) (h₀ := X.base) z1.kin kp (hall _) (hk.at pos z1 q1 fun ws s2 zs H2 W2 os2 S2 z2 g2 r2 ro2 ⟨es', se, q2⟩ => ⟨z2.kIn, ?_⟩) (hpl _)
  subst se
  rw [hks]
  exact thn (z2.fn hc (ds := [d]) (us := [v]) q2 (.cons (RepO.go g2 (o := .v d) ro) .nil) ro2 (.cons r1 .nil) r2) fun _ _ => ep_back (g1.trans g2 z2.rs.ho)
/-! ### classmethods: C.m(..), C a class as a value -/
def CmD (K : PySem.W.Frag) (C m : Str) : Prop := ClX.CRead K (He.ga K C) (.type "type") ∧ ∃ q, ClX.CMet K (He.ga K C) (.type "type") m (mAd K C m) q
abbrev dCm (B : Bs) (k : Nat) (m : Str) (to : RE) (tA : RA) : RE := fun ρ S E Q => to ρ S E fun x S1 => ∃ C q, x = .v (.cls C) ∧ ClX.CRead B.K (He.ga B.K C) (.type "type") ∧ ClX.CMet B.K (He.ga B.K C) (.type "type") m (mAd B.K C m) q ∧ tA ρ S1 E fun os S2 => ∃ ds, Sol os ds ∧ sFun B k (.ref q) [] (.cls C :: ds) [] S2 (E ρ) Q
theorem XN.pin {K : PySem.W.Frag} {W : Wd} {H : Hp} {σ : L2.St} {Ex : XS} (tk : Takes X (XN K W H σ Ex)) : Takes X (XN K W H σ Ex) := tk
theorem de_cm (hc : G.B.hot = false) (ho : DE G o to) (ha : DA G (e :: es) tA) (hst : ∀ env : Env, starEach (e :: es) env = (false, eval e env) :: starEach es env := by intro _; rfl) (hpl : ∀ env : Env, (backTo pos (starEach es env)).any (·.1) = false := by intro _; rfl)
    (ht : MethTx o m apos pos (e :: es) [] := by intro _; exact ⟨_, rfl⟩) : DE G (.Call (.Attribute o m apos) (e :: es) [] pos) (dCm G.B G.k m to tA) := by
  refine ⟨fun {X en W σ H ρ S E pins s Q} z q => ?_⟩
  obtain ⟨pl, ht⟩ := ht X.env
  refine PySem.W.methodCall_KW (pl := pl) (ho.at z q fun v s1 x' H1 W1 o1 S1 z1 g1 r1 ro ⟨C, qq, eo, cr, cm, q1⟩ => ?_) ht
  subst eo
  cases ro
  obtain rfl : v = Value.ref (He.ga G.B.K C) := r1
  have cr' : ClX.CRead X.K (He.ga G.B.K C) (.type "type") := by rw [z.hf.b.K]; exact cr
  have cm' : ClX.CMet X.K (He.ga G.B.K C) (.type "type") m (mAd G.B.K C m) qq := by rw [z.hf.b.K]; exact cm
  refine ClX.getmethcm_ok z1.I cr' cm' fun s2 I2 => ?_
  refine ClX.callwith_cm I2 (ClX.base_none z1.I (Nat.le_refl _)) cm'.fi (ha.at pos (z1.re I2) q1 fun us s3 vs H2 W2 os S2 z2 g2 r2 ro2 ⟨ds, so, q2⟩ => ⟨⟨ClX.pin_at z2.I, z2.I.kIn⟩, ?_⟩) (hst _) (hpl _)
  subst so
  have z3 : wpAny (model X.prog X.w) X.A (call (.ref s1.heap.objs.size) us) (EP X ((s1.heap.objs.size, PySem.W.methodObj (.ref qq) (.ref (He.ga G.B.K C))) :: pins) σ (Nx G.B.K en W2 H2 Q)) X.xe s3 := by
    obtain ⟨e0, KX⟩ := fits_env z2.hf.b z2.I
    have key := q2 X.A X.stack s3 W2 H2 en σ (.ref (He.ga G.B.K C) :: vs) [] (.ref (He.ga G.B.K C) :: us) [] (z2.hf.b.rg hc) e0 KX z2.rs.ho (.cons (.cls C) (Sol.rep ro2)) .nil (.cons rfl r2) .nil
    rw [← z2.hf.b.P, ← z2.hf.b.w] at key
    refine wpAny_call (PySem.W.method_call (ClX.pin_at z2.I) (codeAny_mono key fun y s' hq => ?_))
    match y, hq with
    | .error er, hq => exact passAt z2.xn σ _ H2 s3 er s' z2.I hq
    | .ok (.ret u), hq => exact z2.I.after hq
  exact thn z3 fun _ _ y => ep_back (g1.trans g2 z2.rs.ho) (ClX.unpinE y)
/-! ### o.f = v -/
def dFldS (i : Nat) (f : Str) (K : PySem.W.Frag) (tv : RE) : RS := fun D ρ S => tv ρ S D.ex fun y S1 => ∃ d C fs, y = .v d ∧ ρ[i]? = some (.slf C fs) ∧ Cls K (He.ga K C) ∧ NoAttr K (He.ga K C) f ∧ fs.length < 1000 ∧ D.nx (ρ.set i (.slf C (putD f d fs))) S1
theorem ds_self {i : Nat} {f : Str} {v : Expr} (hi : G.N[i]? = some x) (hv : Vis G.sc x) (he : DE G v tv) (hd : (x == ("__debug__" : Str)) = false := by decide) (hcd : (x == ("__classdict__" : Str)) = false := by decide)
    (hs : ∀ env : Env, swapsWith v (some (.Attribute (.Name x p) f pos')) pos.line env = pure false := by intro _; rfl) : DS G (.Assign [.Attribute (.Name x p) f pos'] v pos) (dFldS i f G.B.K tv) := by
  refine ⟨fun {X en W σ H ρ S pins s D} z q => ?_⟩
  have P0 : PE X (.Name x p) (tVar i) := z.name hi hv hd hcd
  refine plainObj_wpAny_Assign_Attribute (he.at z q fun u s1 y' H1 W1 o S1 z1 g1 r1 ro ⟨d, C, fs, eo, e1, c, n, l, q1⟩ => ?_) (hs _)
  subst eo
  obtain ⟨dx, vs, e2, ea, rf, w⟩ := z1.rs.sl i _ e1
  refine thn (P0.run pins s1 σ H1 (fun v' H' => v' = .ref en.me ∧ H' = H1) z1.I ⟨_, e2, rfl, rfl⟩) fun ov s2 ⟨v', H2, I2, rx, ev, eh⟩ => ?_
  subst ev eh
  obtain rfl : ov = Value.ref en.me := rx
  have c' : Cls X.K (He.ga G.B.K C) := by rw [z.hf.b.K]; exact c
  have n' : NoAttr X.K (He.ga G.B.K C) f := by rw [z.hf.b.K]; exact n
  refine setattr_ok I2 ea c' n' (by rw [rf.len]; exact l) r1 fun s3 I3 => ?_
  exact ⟨σ, _, I3, W1, ρ.set i (.slf C (putD f d fs)), S1, z1.rs.put e1 rfl rfl e2 w ⟨dx, _, rfl, upd_same, rf.put f ro, w.f, w.e, w.m⟩, g1.le, q1⟩
/-- o an object of the store -/
def dFldP (K : PySem.W.Frag) (f : Str) (to tv : RE) : RS := fun D ρ S => tv ρ S D.ex fun y S1 => to ρ S1 D.ex fun x S2 => ∃ d j C fs, y = .v d ∧ x = .v (.ptr j) ∧ S2[j]? = some (.ins C fs) ∧ Cls K (He.ga K C) ∧ NoAttr K (He.ga K C) f ∧ fs.length < 1000 ∧ D.nx ρ (S2.set j (.ins C (putD f d fs)))
theorem ds_fld {f : Str} {v : Expr} (ho : DE G o to) (he : DE G v tv) (hs : ∀ env : Env, swapsWith v (some (.Attribute o f pos')) pos.line env = pure false := by intro _; rfl) : DS G (.Assign [.Attribute o f pos'] v pos) (dFldP G.B.K f to tv) := by
  refine ⟨fun {X en W σ H ρ S pins s D} z q => ?_⟩
  refine plainObj_wpAny_Assign_Attribute (he.at z q fun u s1 y' H1 W1 oo S1 z1 g1 r1 ro q1 => ho.at z1 q1 fun ov s2 x' H2 W2 o2 S2 z2 g2 r2 ro2 ⟨d, j, C, fs, eo, eo2, e1, c, n, l, q2⟩ => ?_) (hs _)
  subst eo eo2
  cases ro2 with
  | ptr hj =>
    obtain ⟨dx, vs, ea, rf⟩ := z2.rs.ho.cel _ _ e1
    obtain rfl : ov = Value.ref (W2.m j) := r2
    have c' : Cls X.K (He.ga G.B.K C) := by rw [z.hf.b.K]; exact c
    have n' : NoAttr X.K (He.ga G.B.K C) f := by rw [z.hf.b.K]; exact n
    refine setattr_ok z2.I ea c' n' (by rw [rf.len]; exact l) r1 fun s3 I3 => ?_
    have h3 := z2.rs.ho.put (o := .ins (He.ga G.B.K C) dx (putF f y' vs)) (c := .ins C (putD f d fs)) hj ⟨dx, _, upd_same, rf.put f (Rep.le g2.le ro)⟩
    exact ⟨σ, _, I3, W2, ρ, _, z2.rs.after h3 (Go.put hj), g1.le.trans g2.le, q2⟩
end
end Dt

set_option Elab.async false
set_option linter.all false
set_option maxRecDepth 100000
set_option maxHeartbeats 4000000
/-! DatJ: errors: raised, caught, told of -/
namespace Dt
open PySem PySem.Spec PyProof.Rows L2 My He
open PySem.HandSPX
section
variable {K : PySem.W.Frag} {en : En} {W W1 : Wd} {H H' : Hp} {S : Sto} {p : Addr} {o u : HO}
theorem Ho.frz3 (h : Ho K W H S) (n : H p = none) (k : ∀ q o, H q = some o → H' q = some o) (e : H' p = some u) : Ho K (W.frz p u) H' S where
  n := h.n
  fh := fun b x z => by
    by_cases c : b = p
    · subst c
      rw [show (W.frz b u).F b = some u from upd_same] at z
      rw [e]
      exact z
    · rw [show (W.frz p u).F b = W.F b from upd_ne c] at z
      exact k _ _ (h.fh b x z)
  inj := h.inj
  mF := fun j hj => by
    have c : W.m j ≠ p := fun c => by
      obtain ⟨u2, e2⟩ := h.there j hj
      rw [c, n] at e2
      cases e2
    show upd W.F p u (W.m j) = none
    rw [upd_ne c]
    exact h.mF j hj
  there := fun j hj => let ⟨u, e⟩ := h.there j hj; ⟨u, k _ _ e⟩
  cel := fun j c z => (h.cel j c z).le (W.frz_le (h.nF n)) fun x y => k _ _ y
theorem Go.frz3 (h : Ho K W H S) (n : H p = none) (k : ∀ q o, H q = some o → H' q = some o) : Go W H (W.frz p u) H' where
  le := W.frz_le (h.nF n)
  fn := fun b x z => by
    by_cases c : b = p
    · subst c
      exact .inr n
    · rw [show (W.frz p u).F b = W.F b from upd_ne c] at z
      exact .inl z
  kp := fun a o e _ => k _ _ e
  mn := fun i h1 h2 => absurd h2 (Nat.not_lt.mpr h1)
theorem RepF.zip : ∀ {fl : List Str} {ds : List D} {vs : List V}, fl.length = ds.length → Reps K W ds vs → RepF K W (fl.zip ds) (fl.zip vs)
  | [], _, _, _, _ => .nil
  | _ :: _, _, _, h, .nil => by cases h
  | _ :: _, _, _, h, .cons r t => .cons r (RepF.zip (Nat.succ.inj h) t)
theorem RepF.app : ∀ {xs ys : List (Str × D)} {vs us : List (Str × V)}, RepF K W xs vs → RepF K W ys us → RepF K W (xs ++ ys) (vs ++ us)
  | _, _, _, _, .nil, h => h
  | _, _, _, _, .cons r t, h => .cons r (t.app h)
theorem RepF.rev : ∀ {xs : List (Str × D)} {vs : List (Str × V)}, RepF K W xs vs → RepF K W xs.reverse vs.reverse
  | _, _, .nil => .nil
  | _, _, .cons h t => by
    rw [List.reverse_cons, List.reverse_cons]
    exact t.rev.app (.cons h .nil)
end
/-! ### raise C(..) -/
/-- C.__init__: self.f = a for each a -/
def spErrL (C : Addr) (fl : List Str) : Sp := fun vs H Q _ => ∃ (a : Addr) (ws : List V), vs = .ref a :: ws ∧ ws.length = fl.length ∧ H a = some (exo a C none) ∧
  ∀ dx H2, H dx = none → dx ≠ a → H2 a = some (exo a C (some dx)) → H2 dx = some (exd dx (fl.zip ws).reverse) → (∀ q, q ≠ a → q ≠ dx → H2 q = H q) → Q .non H2
structure ErD (B : Bs) (C : Str) (fl : List Str) : Prop where
  ok : ErrOk B.K (He.ga B.K C) (mAd B.K C "__init__")
  g : B.mg C = some (.ref (He.ga B.K C))
  fn : ∃ fd ps, FnOk B.P B.w B.K B.mg B.base CX0 1 (mAd B.K C "__init__") fd ps (spErrL (He.ga B.K C) fl) ∧ Binds B.K fd ps []
section
variable {G : Cf} {X : Cx} {en : En} {W W1 : Wd} {σ : L2.St} {H H1 : Hp} {ρ : List Sl} {S S1 : Sto} {E : XD} {pins : List (Addr × Obj)} {s s1 : Shared} {e a b c o : Expr} {es : List Expr} {kws : List Keyword} {t ta tb tc te to tv : RE} {tA tK : RA} {pos p apos pos' : Pos} {x m : Str}
def dRaise (C : Str) (fl : List Str) (tA : RA) : RS := fun D ρ S => tA ρ S D.ex fun os S1 => ∃ ds, Sol os ds ∧ ds.length = fl.length ∧ D.ex ρ C (fl.zip ds).reverse S1
theorem ds_raise {fl : List Str} (hc : G.B.hot = false) (T : ErD G.B x fl) (hg : Glb G x) (hk : 2 ≤ G.k) (ha : DA G (e :: es) tA) (hl : fl.length ≤ 1000 := by decide) (hdb : (x == ("__debug__" : Str)) = false := by decide) (he : ∀ env : Env, starEach (e :: es) env = (false, eval e env) :: starEach es env := by intro _; rfl)
    (hpl : ∀ env : Env, (backTo pos (starEach es env)).any (·.1) = false := by intro _; rfl) : DS G (.Raise (some (.Call (.Name x p) (e :: es) [] pos)) none pos') (dRaise x fl tA) := by
  refine ⟨fun {X en W σ H ρ S pins s D} z q => ?_⟩
  obtain ⟨fd, ps, F, hb⟩ := T.fn
  have ok := T.ok
  rw [← z.hf.b.K, ← z.hf.b.P, ← z.hf.b.w, ← z.hf.b.mg, ← z.hf.b.base] at F
  rw [← z.hf.b.K] at ok hb
  have hr : My.RG 2 X.A := (z.hf.b.rg hc).mono hk
  have key := L2.ps_raise (pos := pos') (z.hf.b.calm hc).1 z.tk (pmkG (p := p) (pos := pos) ok.ox (by rw [z.hf.b.K]; rw [z.hf.b.K] at ok; exact ok.iC) (by rw [z.hf.b.K]; rw [z.hf.b.K] at ok; exact ok.tI) F hr.r hb .nil (fun _ _ _ _ _ _ _ z => z.elim) (gl_of z.hf.sc hg) (by rw [z.hf.b.mg]; rw [z.hf.b.K]; exact T.g) (acan X (e :: es)) hdb (he _) (hpl _))
  refine key.run pins s σ H _ z.I fun pos2 pins' s' I => ?_
  refine ha.at pos2 (z.re I) q fun us s2 vs H1 W1 os S1 z1 g1 r1 ro ⟨ds, so, hlen, q1⟩ => ?_
  subst so
  have rr := Sol.rep ro
  refine ⟨vs, H1, z1.I, r1, by rw [rr.len, hlen]; exact hl, fun a na => ?_⟩
  refine ⟨a, vs, by rw [List.append_nil], by rw [rr.len, hlen], by rw [z.hf.b.K]; exact upd_same, fun dx H2 h1 h2 h3 h4 h5 => ⟨rfl, dx, _, h3, h4, ?_, ?_⟩⟩
  · rw [upd_ne h2] at h1
    exact h1
  rw [upd_ne h2] at h1
  have k : ∀ q o, H1 q = some o → (upd (del H2 a) dx (HO.xd (fl.zip vs).reverse)) q = some o := fun q o e => by
    have n1 : q ≠ a := ne_of_none e na
    have n2 : q ≠ dx := ne_of_none e h1
    rw [upd_ne n2, del_ne n1, h5 q n1 n2, upd_ne n1]
    exact e
  have ho3 : Ho G.B.K (W1.frz dx (.xd (fl.zip vs).reverse)) (upd (del H2 a) dx (.xd (fl.zip vs).reverse)) S1 := z1.rs.ho.frz3 h1 k upd_same
  have rf : RepF G.B.K (W1.frz dx (.xd (fl.zip vs).reverse)) (fl.zip ds).reverse (fl.zip vs).reverse := (RepF.zip hlen.symm (Reps.le (W1.frz_le (z1.rs.ho.nF h1)) rr)).rev
  exact ⟨x, _, _, ρ, S1, ⟨by rw [z.hf.b.K], .inr ⟨dx, _, rfl, upd_same, rf⟩⟩, z1.rs.after ho3 (Go.frz3 z1.rs.ho h1 k), g1.le.trans (W1.frz_le (z1.rs.ho.nF h1)), q1⟩
end
/-! ### try: .. except .. -/
inductive CT where
  | one (c : Value) | three (cs : List Value)
def CT.is (K : PySem.W.Frag) (cls : Value) : CT → Bool → Prop
  | .one c, b => PySem.W.exmOne K cls c = some b
  | .three cs, b => PySem.W.exmAny K cls cs = some true ∧ b = true
structure HC where
  ct : CT
  i : Option Nat
  ts : Addr → Value → Option Addr → TS
def endsH (oi : Option Nat) (D : Ends) : Ends := match oi with
  | none => D
  | some i => { nx := fun σ' H' => D.nx (σ'.set i none) H', rt := D.rt, bk := fun σ' H' => D.bk (σ'.set i none) H', ct := fun σ' H' => D.ct (σ'.set i none) H' }
def stH (oi : Option Nat) (σ : L2.St) (a : Addr) : L2.St := match oi with
  | none => σ
  | some i => σ.set i (some (.ref a))
def wG (K : PySem.W.Frag) (n : Nat) (Wout : WX) (D : Ends) : List HC → WX
  | [] => Wout
  | c :: r => fun cls d σ H => ∃ b, c.ct.is K cls b ∧ (b = true → ∀ a, H a = none → σ.length = n → c.ts a cls d (endsH c.i D) (stH c.i σ a) H) ∧ (b = false → wG K n Wout D r cls d σ H)
inductive CName (X : Cx) : Expr → CT → Prop
  | one {x : Str} {c : Value} {np : Pos} (h : Names X x c) : CName X (.Name x np) (.one c)
  | three {x1 x2 x3 : Str} {C1 C2 C3 : Addr} {p1 p2 p3 tp : Pos} {kk : Nat} (n1 : Names X x1 (.ref C1)) (n2 : Names X x2 (.ref C2)) (n3 : Names X x3 (.ref C3)) : CName X (.Tuple [.Name x1 p1, .Name x2 p2, .Name x3 p3] kk tp) (.three [.ref C1, .ref C2, .ref C3])
/-- a clause's name -/
inductive AsOk (X : Cx) : Option Str → Option Nat → Prop
  | no : AsOk X none none
  | yes {n : Str} {i : Nat} (hi : X.N[i]? = some n) (hl : X.env.kindOf n = some .local) : AsOk X (some n) (some i)
inductive HGs (X : Cx) : List ExceptHandler → List HC → Prop
  | nil : HGs X [] []
  | cons {te : Expr} {on : Option Str} {c : HC} {b₀ : Stmt} {suite : List Stmt} {pos' : Pos} {hds : List ExceptHandler} {l : List HC} (hc : CName X te c.ct) (ha : AsOk X on c.i)
      (hsu : ∀ (a : Addr) (oe : Obj) (cls : Value) (d : Option Addr) (pn : List (Addr × Obj)), Zc cls d oe → (∃ vs, oe.data = .fields vs) → PSs (X.suite a ((a, oe) :: pn)) (b₀ :: suite) (c.ts a cls d)) (r : HGs X hds l) :
      HGs X (.ExceptHandler (some te) on (b₀ :: suite) pos' :: hds) (c :: l)
section
variable {X : Cx} {body : List Stmt} {h₀ : ExceptHandler} {hds : List ExceptHandler} {l : List HC} {pos : Pos} {tb : WX → TS} {Wout : WX}
theorem ps_tryG (hs : X.stack = X.env :: X.outer) (hf : X.env.frame = some X.env.locals) (nd : X.N.Nodup) (tk : Takes X Wout)
    (hb : ∀ (W : WX) (pn : List (Addr × Obj)) (xe : Value → Shared → Prop), Takes (X.tr pn xe) W → PassesOwn (model X.prog X.w) X.A X.env xe → PSs (X.tr pn xe) body (tb W))
    (hh : HGs X (h₀ :: hds) l) : PS X (.Try body (h₀ :: hds) [] [] pos) (fun D σ H => tb (wG X.K X.N.length Wout D l) D σ H) := by
  refine ⟨fun pins s σ H D I h => ?_⟩
  have ok := I.ok
  have hfr : X.A.frames = some (X.env :: X.outer) := by rw [ok.frames, hs]
  refine wpAny_Try_except ?_
  refine wpAny_mono ((hb (wG X.K X.N.length Wout D l) (X.pn ++ pins) (fun e s₁ => wpAny (model X.prog X.w) X.A (noteFrame e X.env) (fun _ s₂ => wpAny (model X.prog X.w) X.A (setFlight e none) (fun _ s₃ =>
    wpAny (model X.prog X.w) X.A (handleBy e X.env (h₀ :: hds)) (SP X pins D) X.xe s₃) X.xe s₂) X.xe s₁) (fun u s' xx => ?_) PassesOwn.looking).run [] s σ H D (I.toTry _) h) (fun f s1 hsp => ?_) (fun e s1 he => he)
  · obtain ⟨a, B, sI, pins', σ', H', cls, d, rfl, J', nb, up, sky, na, os, ag, w⟩ := xx
    have J : Inv X pins σ' H' sI := J'.ofTry ok
    have sky' : Sky B (X.env :: X.outer) a (Zc cls d) X.env.locals s'.heap := by rw [← hs]; exact sky
    show wpAny (model X.prog X.w) X.A (noteFrame (.ref a) X.env) _ _ _
    refine Sky.land Zc.steady hfr hf sky' fun h3 fl3 up3 => ?_
    have J3 : Inv X pins σ' H' { s' with heap := h3 } := J.landed nb fl3.1 (up.trans up3) os ag
    obtain ⟨oe3, vs3, he3, hz3, hd3⟩ := fl3.there
    have off : ∀ {h : Heap} {o : Obj} {vs : Array Value}, FlyingZ B (X.env :: X.outer) a (Zc cls d) h → h.get? a = some o → o.data = .fields vs → a ≠ X.env.locals ∧ a ∉ X.fs := fun {h o vs} f e dd => by
      have no : a ∉ frs (X.env :: X.outer) := fun m => by
        obtain ⟨_, o2, e2, nf⟩ := f.2.2.1.mem m
        rw [e] at e2
        cases e2
        exact nf _ dd
      refine ⟨fun z => no (List.mem_filterMap.mpr ⟨X.env, List.mem_cons_self, hf.trans (congrArg some z.symm)⟩), fun m => ?_⟩
      obtain ⟨en, me, q⟩ := List.mem_filterMap.mp m
      exact no (List.mem_filterMap.mpr ⟨en, List.mem_cons_of_mem _ me, q⟩)
    obtain ⟨nL, nF⟩ := off fl3 he3 hd3
    have S3 := J3.suite he3 hd3 na nL nF
    let tup := fun (C1 C2 C3 : Addr) => ({ cls := .type "tuple", data := .seq [Value.ref C1, Value.ref C2, Value.ref C3].toArray } : Obj)
    have su : ∀ {g : Heap} {on : Option Str} {c : HC} {b₀ : Stmt} {suite : List Stmt} {pos' : Pos}, FlyingZ B (X.env :: X.outer) a (Zc cls d) g → sI.heap.UpToSlots g → AsOk X on c.i →
        (∀ (a : Addr) (oe : Obj) (cls : Value) (d : Option Addr) (pn : List (Addr × Obj)), Zc cls d oe → (∃ vs, oe.data = .fields vs) → PSs (X.suite a ((a, oe) :: pn)) (b₀ :: suite) (c.ts a cls d)) →
        (∀ a, H' a = none → σ'.length = X.N.length → c.ts a cls d (endsH c.i D) (stH c.i σ' a) H') →
        codeAny (model X.prog X.w) (X.A.mark (some (.ref a))) (.handlers (.ref a) [.ExceptHandler none on (b₀ :: suite) pos'] X.env) (fun r s₂ => match r with
          | .ok f => (match on with
            | none => SP X pins D f s₂
            | some n => wpAny (model X.prog X.w) X.A (do bindName X.env n .none; unbindBehindTheSuite X.env n pos') (fun _ s₃ => SP X pins D f s₃) X.xe s₂)
          | .error x => cameBackBy (model X.prog X.w) X.A X.env X.xe x s₂) { s' with heap := g } := by
      intro g on c b₀ suite pos' fl up ha hsu hyes
      obtain ⟨ct, ci, ts⟩ := c
      cases ha with
      | no =>
        refine codeAny_handlers_suite (lands_againZ fl fun g4 fl4 u4 => ?_)
        have J4 : Inv X pins σ' H' { s' with heap := g4 } := J.landed nb fl4.1 (up.trans u4) os ag
        obtain ⟨o4, v4, e4, z4, d4⟩ := fl4.there
        obtain ⟨l4, f4⟩ := off fl4 e4 d4
        have S4 := J4.suite e4 d4 na l4 f4
        refine wpAny_mono ((hsu a o4 cls d (X.pn ++ pins) z4 ⟨_, d4⟩).run [] _ _ H' _ S4 (hyes a na J.len)) (fun f t6 q6 => ?_) fun _ _ z => z.elim
        match f, q6 with
        | .next, ⟨τ, G, S6, q⟩ => exact ⟨_, _, S6.unsuite ok, q⟩
        | .brk, ⟨τ, G, S6, q⟩ => exact ⟨_, _, S6.unsuite ok, q⟩
        | .cont, ⟨τ, G, S6, q⟩ => exact ⟨_, _, S6.unsuite ok, q⟩
        | .ret u, ⟨v, τ, G, S6, r, q⟩ => exact ⟨_, _, _, S6.unsuite ok, r, q⟩
      | @yes n i hi hl =>
        refine codeAny_handlers_suite_as (lands_againZ fl fun g4 fl4 u4 => ?_)
        have J4 : Inv X pins σ' H' { s' with heap := g4 } := J.landed nb fl4.1 (up.trans u4) os ag
        obtain ⟨o4, v4, e4, z4, d4⟩ := fl4.there
        obtain ⟨l4, f4⟩ := off fl4 e4 d4
        have S4 := J4.suite e4 d4 na l4 f4
        refine store_ok (X := X.suite a ((a, o4) :: (X.pn ++ pins))) (v := .ref a) S4 nd hi (.inl hl) rfl (fun t5 S5 => ?_) (.inr hl)
        refine wpAny_mono ((hsu a o4 cls d (X.pn ++ pins) z4 ⟨_, d4⟩).run [] t5 _ H' _ S5 (hyes a na J.len)) (fun f t6 q6 => ?_) fun _ _ z => z.elim
        have out : ∀ {τ : L2.St} {G : Hp} {R : Shared → Prop}, Inv (X.suite a ((a, o4) :: (X.pn ++ pins))) [] τ G t6 → (∀ t7, Inv X pins (τ.set i none) G t7 → R t7) →
            wpAny (model X.prog X.w) X.A (do bindName X.env n .none; unbindBehindTheSuite X.env n pos') (fun _ t7 => R t7) X.xe t6 := fun S6 k => gone_ok (S6.unsuite ok) nd hi hl k
        match f, q6 with
        | .next, ⟨τ, G, S6, q⟩ => exact out S6 fun t7 J7 => ⟨_, _, J7, q⟩
        | .brk, ⟨τ, G, S6, q⟩ => exact out S6 fun t7 J7 => ⟨_, _, J7, q⟩
        | .cont, ⟨τ, G, S6, q⟩ => exact out S6 fun t7 J7 => ⟨_, _, J7, q⟩
        | .ret u, ⟨v, τ, G, S6, r, q⟩ => exact out S6 fun t7 J7 => ⟨_, _, _, J7, r, q⟩
    have go : ∀ {hds' : List ExceptHandler} {l' : List HC}, HGs X hds' l' → wG X.K X.N.length Wout D l' cls d σ' H' →
        wpAny (model X.prog X.w) X.A (handleBy (.ref a) X.env hds') (SP X pins D) X.xe { s' with heap := h3 } := by
      intro hds' l' hk
      induction hk with
      | nil =>
        intro w
        refine wpAny_handleBy_nil ?_
        obtain ⟨k1, k2, k3, oe, vs, T, oT, ts', he, hz, hd, h1, hr⟩ := id fl3
        unfold PySem.passOn
        refine wpAny_bind (wpAny_field he hd h1 ?_)
        rw [if_neg (show ¬ ((Value.ref T == Value.none) = true) from by simp)]
        have fin : wpAny (model X.prog X.w) X.A (setFlight (.ref a) X.env.frame) (fun _ s4 => wpAny (model X.prog X.w) X.A (throw (.ref a) : Sem Flow) (SP X pins D) X.xe s4) X.xe { s' with heap := h3 } := by
          rw [hf]
          refine HandSPX.setFlight_upZ fl3 fun h4 hh4 up4 => wpAny_throw (tk _ _ ?_)
          exact ⟨a, B, sI, pins, σ', H', cls, d, rfl, J, nb, (up.trans up3).trans up4, .inr (.inr (by rw [hs]; exact hh4)), na, os, ag, w⟩
        first
          | exact wpAny_bind (wpAny_pure (wpAny_bind fin))
          | exact wpAny_bind fin
      | @cons te on c b₀ suite pos' hds2 l2 hc ha hsu r ih =>
        intro w
        obtain ⟨b, his, hyes, hno⟩ := w
        refine wpAny_handleBy_cons (codeAny_handlers_test ?_) (by intro q; cases q)
        have LT : PySem.W.Looks (model X.prog X.w) h3 (typeOf (.ref a)) cls := fun A Q E s k q => wpAny_typeOf_ref (k _ _ he3) (by rw [hz3.1]; exact q)
        obtain ⟨ct, ci, ts⟩ := c
        dsimp only at hc his ha
        cases hc with
        | @one x cv np nm =>
          have LM := PySem.W.exm_one (M := model X.prog X.w) (J3.kIn) LT his
          have test : ∀ {Q : Value → Shared → Prop} {E : Value → Shared → Prop}, Q cv { s' with heap := h3 } → wpAny (model X.prog X.w) (X.A.mark (some (.ref a))) (eval (.Name x np) X.env) Q E { s' with heap := h3 } := fun {Q E} q => by
            obtain ⟨hg, hdbg, hm | ⟨hm, hv, hnn⟩⟩ := nm
            · exact ld_glob (X := X.suite a ((a, oe3) :: (X.pn ++ pins))) S3 hg hm q hdbg
            · exact ld_blt (X := X.suite a ((a, oe3) :: (X.pn ++ pins))) S3 hg hm hv q hnn hdbg
          refine test (LM.here ?_)
          cases b with
          | true => exact su (c := ⟨.one cv, ci, ts⟩) fl3 (up.trans up3) ha hsu (hyes rfl)
          | false => exact ih (hno rfl)
        | @three x1 x2 x3 C1 C2 C3 p1 p2 p3 tp kk n1 n2 n3 =>
          obtain ⟨hany, rfl⟩ := his
          have fl2 := fly_push (tup C1 C2 C3) fl3
          have kin : X.K.In (h3.push (tup C1 C2 C3)) := J3.kIn.keeps fun b o e => Heap.get?_push_of_some _ e
          have LT2 : PySem.W.Looks (model X.prog X.w) (h3.push (tup C1 C2 C3)) (typeOf (.ref a)) cls := fun A Q E t k q => wpAny_typeOf_ref (k _ _ (Heap.get?_push_of_some _ he3)) (by rw [hz3.1]; exact q)
          have LM := PySem.W.exm_tup3 (M := model X.prog X.w) kin LT2 (Heap.get?_push_size h3 rfl) hany
          refine load3 (X := X) (C1 := C1) (C2 := C2) (C3 := C3) (fun {x C p Q2} hm q => ?_) (LM.here ?_)
          · have nm : Names X x (.ref C) := by
              simp only [List.mem_cons, Prod.mk.injEq, List.not_mem_nil, or_false] at hm
              rcases hm with ⟨rfl, rfl⟩ | ⟨rfl, rfl⟩ | ⟨rfl, rfl⟩ <;> assumption
            obtain ⟨hg, hd, m | ⟨m, v, w⟩⟩ := nm
            · exact ld_glob (X := X.suite a ((a, oe3) :: (X.pn ++ pins))) S3 hg m q hd
            · exact ld_blt (X := X.suite a ((a, oe3) :: (X.pn ++ pins))) S3 hg m v q w hd
          · exact su (c := ⟨.three _, ci, ts⟩) fl2 ((up.trans up3).trans (.of_keeps fun b o e => Heap.get?_push_of_some _ e)) ha hsu (hyes rfl)
    exact go hh w
  · match f, hsp with
    | .next, ⟨σ', H', J, q⟩ => exact wpAny_execs_nil ⟨σ', H', J.ofTry ok, q⟩
    | .brk, ⟨σ', H', J, q⟩ => exact ⟨σ', H', J.ofTry ok, q⟩
    | .cont, ⟨σ', H', J, q⟩ => exact ⟨σ', H', J.ofTry ok, q⟩
    | .ret u, ⟨v, σ', H', J, r, q⟩ => exact ⟨v, σ', H', J.ofTry ok, r, q⟩
end
/-! ### .. over trees -/
def noExc (ρ : List Sl) : List Sl := ρ.map fun s => match s with
  | .exc _ _ => .un
  | s => s
theorem noExc_get {ρ : List Sl} {i : Nat} {s : Sl} (h : (noExc ρ)[i]? = some s) : (s = .un ∧ ∃ C fs, ρ[i]? = some (.exc C fs)) ∨ (ρ[i]? = some s ∧ ∀ C fs, s ≠ .exc C fs) := by
  unfold noExc at h
  rw [List.getElem?_map] at h
  cases e : ρ[i]? with
  | none =>
    rw [e] at h
    cases h
  | some t =>
    rw [e] at h
    cases t with
    | exc C fs =>
      cases h
      exact .inl ⟨rfl, C, fs, rfl⟩
    | _ =>
      cases h
      exact .inr ⟨rfl, fun _ _ z => nomatch z⟩
theorem RelS.pin {K : PySem.W.Frag} {en : En} {W : Wd} {H : Hp} {sv : Option (Option V)} {s : Sl} {q : Option (Addr × Obj)} (n : ∀ C fs, s ≠ .exc C fs) (h : RelS K en W H sv s) : RelS K { en with pin := q } W H sv s := by
  cases s with
  | exc C fs => exact absurd rfl (n C fs)
  | un => trivial
  | sh d => exact h
  | ol xs =>
    obtain ⟨a, vs, e, k, r, w⟩ := h
    exact ⟨a, vs, e, k, r, ⟨w.f, w.e, w.m⟩⟩
  | od xs =>
    obtain ⟨a, vs, e, k, r, w⟩ := h
    exact ⟨a, vs, e, k, r, ⟨w.f, w.e, w.m⟩⟩
  | slf C xs =>
    obtain ⟨a, vs, e, k, r, w⟩ := h
    exact ⟨a, vs, e, k, r, ⟨w.f, w.e, w.m⟩⟩
theorem Rs.pin {K : PySem.W.Frag} {en : En} {W : Wd} {σ : L2.St} {H : Hp} {ρ : List Sl} {S : Sto} {q : Option (Addr × Obj)} (r : Rs K en W σ H ρ S) : Rs K { en with pin := q } W σ H (noExc ρ) S where
  ho := r.ho
  go := r.go
  len := by
    unfold noExc
    rw [List.length_map]
    exact r.len
  sl := fun i s e => by
    rcases noExc_get e with ⟨rfl, _⟩ | ⟨e1, n⟩
    · trivial
    · exact (r.sl i s e1).pin n
  dis := fun i j s t a ne e1 o1 e2 o2 q1 q2 => by
    rcases noExc_get e1 with ⟨rfl, _⟩ | ⟨e1, _⟩
    · cases o1
    · rcases noExc_get e2 with ⟨rfl, _⟩ | ⟨e2, _⟩
      · cases o2
      · exact r.dis i j s t a ne e1 o1 e2 o2 q1 q2
theorem Rs.pin0 {K : PySem.W.Frag} {en : En} {W : Wd} {σ : L2.St} {H : Hp} {ρ : List Sl} {S : Sto} {q : Option (Addr × Obj)} (e : en.pin = none) (r : Rs K en W σ H ρ S) : Rs K { en with pin := q } W σ H ρ S :=
  ⟨r.ho, r.go, r.len, (fun i s e1 => (r.sl i s e1).pin fun C fs z => by
    subst z
    obtain ⟨p, e2, _⟩ := r.sl i _ e1
    rw [e] at e2
    cases e2), r.dis⟩
abbrev Cf.hot (G : Cf) : Cf := { G with B := { G.B with hot := true } }
structure DCl where
  cs : List Str
  i : Option Nat
  su : RS
def clIs (K : PySem.W.Frag) (C : Str) : List Str → Bool → Prop
  | [c], b => PySem.W.exmOne K (.ref (ga K C)) (.ref (ga K c)) = some b
  | cs, b => PySem.W.exmAny K (.ref (ga K C)) (cs.map fun c => .ref (ga K c)) = some true ∧ b = true
def offD (oi : Option Nat) (ρ : List Sl) : List Sl := match oi with
  | none => noExc ρ
  | some i => (noExc ρ).set i .un
def stD (oi : Option Nat) (ρ : List Sl) (C : Str) (fs : List (Str × D)) : List Sl := match oi with
  | none => ρ
  | some i => ρ.set i (.exc C fs)
abbrev endsD (oi : Option Nat) (D : DEnds) : DEnds := ⟨fun ρ S => D.nx (offD oi ρ) S, fun d ρ S => D.rt d (noExc ρ) S, fun ρ S => D.bk (offD oi ρ) S, fun ρ S => D.ct (offD oi ρ) S, noE⟩
def hand (K : PySem.W.Frag) (D : DEnds) : List DCl → XD
  | [] => D.ex
  | c :: r => fun ρ C fs S => ∃ b, clIs K C c.cs b ∧ (b = true → c.su (endsD c.i D) (stD c.i ρ C fs) S) ∧ (b = false → hand K D r ρ C fs S)
inductive CNameD (G : Cf) : Expr → List Str → Prop
  | one {x : Str} {np : Pos} (g : Glb G x) (m : G.B.mg x = some (.ref (ga G.B.K x))) (hd : (x == ("__debug__" : Str)) = false) : CNameD G (.Name x np) [x]
  | three {x1 x2 x3 : Str} {p1 p2 p3 tp : Pos} {kk : Nat} (g1 : Glb G x1) (m1 : G.B.mg x1 = some (.ref (ga G.B.K x1))) (d1 : (x1 == ("__debug__" : Str)) = false) (g2 : Glb G x2) (m2 : G.B.mg x2 = some (.ref (ga G.B.K x2))) (d2 : (x2 == ("__debug__" : Str)) = false)
      (g3 : Glb G x3) (m3 : G.B.mg x3 = some (.ref (ga G.B.K x3))) (d3 : (x3 == ("__debug__" : Str)) = false) : CNameD G (.Tuple [.Name x1 p1, .Name x2 p2, .Name x3 p3] kk tp) [x1, x2, x3]
inductive AsD (G : Cf) : Option Str → Option Nat → Prop
  | no : AsD G none none
  | yes {n : Str} {i : Nat} (hi : G.N[i]? = some n) (hl : G.sc.names.lookup n = some .local) : AsD G (some n) (some i)
inductive DHs (G : Cf) : List ExceptHandler → List DCl → Prop
  | nil : DHs G [] []
  | cons {te : Expr} {on : Option Str} {oi : Option Nat} {cs : List Str} {su : RS} {b₀ : Stmt} {suite : List Stmt} {pos' : Pos} {hds : List ExceptHandler} {l : List DCl} (hc : CNameD G te cs) (ha : AsD G on oi) (hs : DSs G.hot (b₀ :: suite) su) (r : DHs G hds l) :
      DHs G (.ExceptHandler (some te) on (b₀ :: suite) pos' :: hds) (⟨cs, oi, su⟩ :: l)
section
variable {G : Cf} {X : Cx} {en : En} {W W0 W1 : Wd} {σ : L2.St} {H H1 : Hp} {ρ : List Sl} {S S1 : Sto} {pins : List (Addr × Obj)} {s s1 : Shared} {pos : Pos}
theorem names_of {x : Str} {C : Addr} (f : Fits G X en) (g : Glb G x) (m : G.B.mg x = some (.ref (ga G.B.K x))) (hd : (x == ("__debug__" : Str)) = false) : Names X x (.ref (ga G.B.K x)) := ⟨gl_of f.sc g, hd, .inl (by rw [f.b.mg]; exact m)⟩
def tsD (X : Cx) (st : List Stmt) : Addr → Value → Option Addr → TS := fun a cls d De σ H => ∀ (oe : Obj) (pn : List (Addr × Obj)), Zc cls d oe → (∃ vs, oe.data = .fields vs) → tBr (X.suite a ((a, oe) :: pn)) st De σ H
theorem Fits.suite {a : Addr} {oe : Obj} {pn : List (Addr × Obj)} (f : Fits G X en) (hf : ∃ vs : Array Value, oe.data = .fields vs) : Fits G.hot (X.suite a ((a, oe) :: pn)) { en with pin := some (a, oe) } :=
  ⟨⟨f.b.P, f.b.w, f.b.K, f.b.mg, f.b.base, ⟨f.b.rm.dp, f.b.rm.un⟩, f.b.g, fun h => Bool.noConfusion h, fun p e => by
    cases e
    exact ⟨List.mem_cons_self, hf⟩, fun h => Bool.noConfusion h⟩, f.N, f.sc, f.nd, f.fn, fun _ => PassesOwn.never, f.st⟩
theorem hs_read {hds : List ExceptHandler} {l : List DCl} (hot : G.B.hot = false) (h : DHs G hds l) (f : Fits G X en) (D : DEnds) (W0 : Wd) : ∃ l', HGs X hds l' ∧ ∀ cls d σ H C fs W ρ S, W0.Le W → XRep G.B.K W C fs cls d → Rs G.B.K en W σ H ρ S → hand G.B.K D l ρ C fs S → wG X.K X.N.length (XT G.B.K en W0 D.ex) (ends G.B.K en W0 D) l' cls d σ H := by
  induction h with
  | nil => exact ⟨[], .nil, fun cls d σ H C fs W ρ S l x r q => ⟨C, fs, W, ρ, S, x, r, l, q⟩⟩
  | @cons te on oi cs su b₀ suite pos' hds l hc ha hs r ih =>
    obtain ⟨l', h1, h2⟩ := ih
    have key : ∀ cls d σ H C fs W ρ S, W0.Le W → XRep G.B.K W C fs cls d → Rs G.B.K en W σ H ρ S → su (endsD oi D) (stD oi ρ C fs) S → ∀ a, H a = none → σ.length = X.N.length → tsD X (b₀ :: suite) a cls d (endsH oi (ends G.B.K en W0 D)) (stH oi σ a) H := by
      intro cls d σ H C fs W ρ S l0 x r q a na hl oe pn hz hf pins s I
      have r1 : Rs G.B.K { en with pin := some (a, oe) } W (stH oi σ a) H (stD oi ρ C fs) S := by
        have r0 : Rs G.B.K { en with pin := some (a, oe) } W σ H ρ S := r.pin0 (f.b.np hot)
        cases oi with
        | none => exact r0
        | some i => exact r0.set i (s := .exc C fs) rfl ⟨(a, oe), rfl, rfl, by rw [hz.1, hz.2]; exact x⟩
      have back : ∀ {W' σ' H' ρ' S'}, Rs G.B.K { en with pin := some (a, oe) } W' σ' H' ρ' S' → Rs G.B.K en W' σ' H' (noExc ρ') S' := fun r => r.pin (q := en.pin)
      have z : At G.hot (X.suite a ((a, oe) :: pn)) { en with pin := some (a, oe) } W (stH oi σ a) H (stD oi ρ C fs) S (endsD oi D).ex pins s := ⟨f.suite hf, takes_no, r1, I⟩
      refine thn (hs.run (D := endsD oi D) z q) fun fl s2 q2 => ?_
      match fl, q2 with
      | .next, ⟨σ', H', I', W', ρ', S', r2, l2, q3⟩ =>
        refine ⟨σ', H', I', ?_⟩
        cases oi with
        | none => exact ⟨W', _, S', back r2, l0.trans l2, q3⟩
        | some i => exact ⟨W', _, S', (back r2).set i (s := .un) rfl trivial, l0.trans l2, q3⟩
      | .brk, ⟨σ', H', I', W', ρ', S', r2, l2, q3⟩ =>
        refine ⟨σ', H', I', ?_⟩
        cases oi with
        | none => exact ⟨W', _, S', back r2, l0.trans l2, q3⟩
        | some i => exact ⟨W', _, S', (back r2).set i (s := .un) rfl trivial, l0.trans l2, q3⟩
      | .cont, ⟨σ', H', I', W', ρ', S', r2, l2, q3⟩ =>
        refine ⟨σ', H', I', ?_⟩
        cases oi with
        | none => exact ⟨W', _, S', back r2, l0.trans l2, q3⟩
        | some i => exact ⟨W', _, S', (back r2).set i (s := .un) rfl trivial, l0.trans l2, q3⟩
      | .ret u, ⟨v, σ1, H', I', r0, W', σ', ρ', d, S', r2, l2, rp, q3⟩ =>
        refine ⟨v, σ1, H', I', r0, ?_⟩
        cases oi with
        | none => exact ⟨W', σ', _, d, S', back r2, l0.trans l2, rp, q3⟩
        | some i => exact ⟨W', σ', _, d, S', back r2, l0.trans l2, rp, q3⟩
    have as : AsOk X on oi := by
      cases ha with
      | no => exact .no
      | yes hi hl => exact .yes (by rw [f.N]; exact hi) (show X.env.scope.names.lookup _ = _ by rw [f.sc]; exact hl)
    have suite_ok : ∀ (a : Addr) (oe : Obj) (cls : Value) (d : Option Addr) (pn : List (Addr × Obj)), Zc cls d oe → (∃ vs, oe.data = .fields vs) → PSs (X.suite a ((a, oe) :: pn)) (b₀ :: suite) (tsD X (b₀ :: suite) a cls d) := fun a oe cls d pn hz hf =>
      ⟨fun pins s σ H D I h => h oe pn hz hf pins s I⟩
    cases hc with
    | @one x np g m hd =>
      refine ⟨⟨.one (.ref (ga G.B.K x)), oi, tsD X (b₀ :: suite)⟩ :: l', .cons (.one (names_of (C := 0) f g m hd)) as suite_ok h1, fun cls d σ H C fs W ρ S l0 xr r ⟨b, e, q1, q2⟩ => ⟨b, ?_, fun hb a na hl => key cls d σ H C fs W ρ S l0 xr r (q1 hb) a na hl, fun hb => h2 cls d σ H C fs W ρ S l0 xr r (q2 hb)⟩⟩
      show PySem.W.exmOne X.K cls _ = some b
      rw [xr.1, f.b.K]
      exact e
    | @three x1 x2 x3 p1 p2 p3 tp kk g1 m1 d1 g2 m2 d2 g3 m3 d3 =>
      refine ⟨⟨.three [.ref (ga G.B.K x1), .ref (ga G.B.K x2), .ref (ga G.B.K x3)], oi, tsD X (b₀ :: suite)⟩ :: l', .cons (.three (names_of (C := 0) f g1 m1 d1) (names_of (C := 0) f g2 m2 d2) (names_of (C := 0) f g3 m3 d3)) as suite_ok h1, fun cls d σ H C fs W ρ S l0 xr r ⟨b, e, q1, q2⟩ => ⟨b, ?_, fun hb a na hl => key cls d σ H C fs W ρ S l0 xr r (q1 hb) a na hl, fun hb => h2 cls d σ H C fs W ρ S l0 xr r (q2 hb)⟩⟩
      show PySem.W.exmAny X.K cls _ = some true ∧ b = true
      rw [xr.1, f.b.K]
      exact e
def dTry (K : PySem.W.Frag) (tb : RS) (cl : List DCl) : RS := fun D ρ S => tb { D with ex := hand K D cl } ρ S
theorem ds_try {body : List Stmt} {h₀ : ExceptHandler} {hds : List ExceptHandler} {cl : List DCl} {tb : RS} (hot : G.B.hot = false) (tr : G.tr = true) (hb : DSs G body tb) (hh : DHs G (h₀ :: hds) cl) : DS G (.Try body (h₀ :: hds) [] [] pos) (dTry G.B.K tb cl) := by
  refine ⟨fun {X en W σ H ρ S pins s D} z q => ?_⟩
  obtain ⟨l', h1, h2⟩ := hs_read hot hh z.hf D W
  obtain ⟨hs, hf⟩ := z.hf.st tr
  have key := ps_tryG (X := X) (pos := pos) (body := body) (Wout := XT G.B.K en W D.ex) (tb := fun WX De σ H => ∀ (pn : List (Addr × Obj)) (xe : Value → Shared → Prop), Takes (X.tr pn xe) WX → PassesOwn (model X.prog X.w) X.A X.env xe → tBr (X.tr pn xe) body De σ H) hs hf z.hf.nd z.tk
    (fun WX pn xe t1 t2 => ⟨fun pins s σ H De I h => h pn xe t1 t2 pins s I⟩) h1
  refine key.run pins s σ H _ z.I fun pn xe t1 t2 pins' s' I' => ?_
  have nle : W.Le W := .refl
  have ft : Fits G (X.tr pn xe) en := ⟨⟨z.hf.b.P, z.hf.b.w, z.hf.b.K, z.hf.b.mg, z.hf.b.base, z.hf.b.rm, z.hf.b.g, z.hf.b.calm, (fun p e => by
    rw [z.hf.b.np hot] at e
    cases e), z.hf.b.np⟩, z.hf.N, z.hf.sc, z.hf.nd, z.hf.fn, fun _ => t2, z.hf.st⟩
  have tk : Takes (X.tr pn xe) (XT G.B.K en W (hand G.B.K D cl)) := t1.imp fun cls d σ' H' ⟨C, fs, W', ρ', S', x, r, l, q⟩ => h2 cls d σ' H' C fs W' ρ' S' l x r q
  exact hb.run (D := { D with ex := hand G.B.K D cl }) ⟨ft, tk, z.rs, I'⟩ q
/-! ### in a suite, in a def that an error is handed to -/
variable {e : Expr} {p apos : Pos} {n x : Str}
/-- e.f, e the handled error -/
abbrev dXf (K : PySem.W.Frag) (i : Nat) (f : Str) : RE := fun ρ S E Q => ∃ C fs d, ρ[i]? = some (.exc C fs) ∧ XfC K (ga K C) ∧ PySem.W.findIn K (.ref (ga K C)) f = some none ∧ fs.lookup f = some d ∧ Q (.v d) S
theorem de_xf {i : Nat} {f : Str} (hi : G.N[i]? = some x) (hv : Vis G.sc x) (hd : (x == ("__debug__" : Str)) = false := by decide) (hcd : (x == ("__classdict__" : Str)) = false := by decide) (hb : ∀ env : Env, attributeBase (.Name x p) f env (eval (.Name x p) env) = eval (.Name x p) env := by intro _; rfl) : DE G (.Attribute (.Name x p) f pos) (dXf G.B.K i f) := by
  refine ⟨fun {X en W σ H ρ S E pins s Q} z ⟨C, fs, d, e1, T, hno, l, q⟩ => ?_⟩
  have P0 : PE X (.Name x p) (tVar i) := z.name hi hv hd hcd
  obtain ⟨pp, ep, e2, hcls, hdict⟩ := z.rs.sl i _ e1
  refine attr_of (hb _) (thn (P0.run pins s σ H (fun v' H' => v' = .ref pp.1 ∧ H' = H) z.I ⟨_, e2, rfl, rfl⟩) fun u s1 ⟨v', H1, I1, rx, ev, eh⟩ => ?_)
  subst ev eh
  obtain rfl : u = Value.ref pp.1 := rx
  obtain ⟨hpn, vs, hd3⟩ := z.hf.b.pin pp ep
  obtain ⟨ha, _⟩ := I1.pin pp (List.mem_append_left _ hpn)
  rcases hdict with ⟨e0, _⟩ | ⟨dd, ws, ed, ea, rf⟩
  · rw [e0] at l
    cases l
  have ea2 := z.rs.ho.fh _ _ ea
  have hx : ObjOk X.prog X.w H1 s1.heap dd (.xd ws) := I1.hok dd _ ea2
  obtain ⟨mA, hns, hr⟩ := hx
  obtain ⟨od, ho, hl⟩ := lookIn_ns hns
  rcases rf.look f with ⟨d', w, l1, l2, rw'⟩ | ⟨l1, _⟩
  · rw [l] at l1
    cases l1
    obtain ⟨u, hu, ru⟩ := RelO.some_of (v := w) (o := mA f) (by rw [← l2]; exact hr f)
    have J : PySem.W.InstAt s1.heap pp.1 pp.2 (ga G.B.K C) (some od) := ⟨ha, hcls, by unfold PySem.W.notCls; rw [hd3] <;> rfl, by rw [ed]; exact ho⟩
    rw [← z.hf.b.K] at T hno J
    exact exc_get I1.kIn J T.ga T.gg T.exC (PySem.W.findObj_own T.hdC hno rfl (by rw [hl, hu])) (handed_of ru) ⟨w, H1, I1.tok _, ru, W, .v d, S, z.rs.ho, .refl, rw', q⟩
  · rw [l] at l1
    cases l1
end
end Dt

set_option Elab.async false
set_option linter.all false
set_option maxRecDepth 100000
set_option maxHeartbeats 4000000
/-! DatK: what the operators and built-ins give on trees -/
namespace Dt
open PySem PySem.Spec PyProof.Rows L2 My
/-! ### lifting -/
section
variable {B : Bs} {k : Nat} {S : Sto} {Ex : XS} {Q : QO}
theorem lift2 {f : Value → Value → Sem Value} {r : V → V → Hp → VK → Prop} {x y : O} (h : ∀ {X : Cx} {en : En}, FitsB B k X en → OpR X f r) (q : ∀ en W H x' y', Ho B.K W H S → RepO B.K en W H x x' → RepO B.K en W H y y' → r x' y' H (Nx B.K en W H Q)) : sem2 B k f x y S Ex Q :=
  fun X en W σ H ft tk ho x' y' rx ry pins s v u I rv ru => h ft pins s σ H x' y' v u _ I rv ru (q en W H x' y' ho rx ry)
theorem lift1 {f : Value → Sem Value} {r : V → Hp → VK → Prop} {x : O} (h : ∀ {X : Cx} {en : En}, FitsB B k X en → UnR X f r) (q : ∀ en W H x', Ho B.K W H S → RepO B.K en W H x x' → r x' H (Nx B.K en W H Q)) : sem1 B k f x S Ex Q :=
  fun X en W σ H ft tk ho x' rx pins s v I rv => h ft pins s σ H x' v _ I rv (q en W H x' ho rx)
theorem liftC {fv : Value} {r : List V → Hp → VK → Prop} {xs : List O} (h : ∀ {X : Cx} {en : En}, FitsB B k X en → CallR X fv r) (q : ∀ en W H xs', Ho B.K W H S → RepOs B.K en W H xs xs' → r xs' H (Nx B.K en W H Q)) : sCall B k fv [] xs [] S Ex Q :=
  fun X en W σ H ft tk ho xs' zs' rx rz pins s us ws I rv rw' => by
    have e : call fv us (([] : List Str).zip ws) = call fv us := rfl
    rw [e]
    exact h ft pins s σ H xs' us _ I rv (q en W H xs' ho rx)
theorem liftM {id : String} {r : V → List V → Hp → VK → Prop} {x : O} {xs : List O} (h : ∀ {X : Cx} {en : En}, FitsB B k X en → MtR X id r) (q : ∀ en W H x' xs', Ho B.K W H S → RepO B.K en W H x x' → RepOs B.K en W H xs xs' → r x' xs' H (Nx B.K en W H Q)) : sCall B k (.builtin id) [] (x :: xs) [] S Ex Q :=
  fun X en W σ H ft tk ho xs' zs' rx rz pins s us ws I rv rw' => by
    cases rx with
    | cons r1 r2 =>
      cases rv with
      | cons v1 v2 => exact h ft pins s σ H _ _ _ _ _ I v1 v2 (q en W H _ _ ho r1 r2)
theorem liftI {r : R2} {x y : O} (h : ∀ {X : Cx} {en : En}, FitsB B k X en → IxR X r) (q : ∀ en W H x' y', Ho B.K W H S → RepO B.K en W H x x' → RepO B.K en W H y y' → r x' y' H (Nx B.K en W H Q)) : sIx B k x y S Ex Q :=
  fun X en W σ H ft tk ho x' y' rx ry value slice pins s v u I rv ru hs => h ft value slice pins s σ H x' y' v u _ I rv ru (q en W H x' y' ho rx ry) hs
theorem liftS {r : V → Option Int → Option Int → Hp → VK → Prop} {x : O} {lo hi : Option Int} (h : ∀ {X : Cx} {en : En}, FitsB B k X en → SlR X r) (q : ∀ en W H x', Ho B.K W H S → RepO B.K en W H x x' → r x' lo hi H (Nx B.K en W H Q)) : sSl B k x lo hi S Q :=
  fun X en W σ H ft ho x' rx pins s v vl vu sl I rv hs pl pu => h ft pins s σ H x' v vl vu lo hi sl _ I rv hs pl pu (q en W H x' ho rx)
end
section
variable {K : PySem.W.Frag} {en : En} {W : Wd} {H : Hp} {S : Sto} {Q : QO} {d : D} {v : V} {ds : List D} {vs : List V}
/-! ### results -/
theorem nx (ho : Ho K W H S) (r : Rep K W d v) (q : Q (.v d) S) : Nx K en W H Q v H := ⟨W, .v d, S, ho, .refl, r, q⟩
theorem nxL (ho : Ho K W H S) (r : Reps K W ds vs) (q : Q (.v (.lst ds)) S) : ∀ p, H p = none → Nx K en W H Q (.ref p) (upd H p (.lst vs)) := fun p hp =>
  ⟨_, .v (.lst ds), S, ho.frz hp, Go.frz ho hp, .lst (.inl upd_same) (r.le (W.frz_le (ho.nF hp))), q⟩
theorem nxT (ho : Ho K W H S) (r : Reps K W ds vs) (q : Q (.v (.tup ds)) S) : ∀ p, H p = none → Nx K en W H Q (.ref p) (upd H p (.tup vs)) := fun p hp =>
  ⟨_, .v (.tup ds), S, ho.frz hp, Go.frz ho hp, .tup (SqT.of upd_same) (r.le (W.frz_le (ho.nF hp))), q⟩
/-- a new list: a value, or one of the store -/
abbrev NewL (S : Sto) (Q : QO) (ds : List D) : Prop := Q (.v (.lst ds)) S ∨ Q (.v (.ptr S.length)) (S ++ [.lst ds])
theorem nxN (ho : Ho K W H S) (r : Reps K W ds vs) (q : NewL S Q ds) : ∀ p, H p = none → Nx K en W H Q (.ref p) (upd H p (.lst vs)) := fun p hp => by
  rcases q with q | q
  · exact nxL ho r q p hp
  · have h2 : Ho K (W.cell p) (upd H p (.lst vs)) (S ++ [.lst ds]) := ho.cell hp ⟨vs, upd_same, r.le Wd.cell_le⟩
    have z : Rep K (W.cell p) (.ptr W.n) (.ref ((W.cell p).m W.n)) := .ptr (Nat.lt_succ_self _)
    rw [Wd.cell_new, ho.n] at z
    exact ⟨_, .v (.ptr S.length), _, h2, Go.cell ho hp, z, q⟩
/-! ### what is a list, a tuple -/
/-- the items of a list, read -/
def LsO (S : Sto) : O → List D → Prop
  | .v (.lst xs), ys => ys = xs
  | .v (.ptr i), ys => S[i]? = some (.lst ys)
  | .b xs, ys => ys = xs
  | _, _ => False
def TpO : O → List D → Prop
  | .v (.tup xs), ys => ys = xs
  | _, _ => False
def SqO (S : Sto) (o : O) (xs : List D) : Prop := LsO S o xs ∨ TpO o xs
theorem lsO_at {o : O} {xs : List D} (ho : Ho K W H S) (h : LsO S o xs) (r : RepO K en W H o v) : ∃ a vs, v = .ref a ∧ Rd H a (.lst vs) ∧ Reps K W xs vs := by
  cases o with
  | v d =>
    cases d with
    | lst ys =>
      obtain rfl : xs = ys := h
      obtain ⟨a, vs, e, q, r⟩ := Rep.lstI r
      exact ⟨a, vs, e, rd_le ho.fh q, r⟩
    | ptr i =>
      cases r
      obtain ⟨vs, e, r⟩ := ho.cel _ _ h
      exact ⟨_, vs, rfl, .inl e, r⟩
    | _ => exact h.elim
  | b ys =>
    obtain rfl : xs = ys := h
    obtain ⟨a, vs, e, q, r, _⟩ := r
    exact ⟨a, vs, e, .inl q, r⟩
  | _ => exact h.elim
theorem tpO_at {o : O} {xs : List D} (ho : Ho K W H S) (h : TpO o xs) (r : RepO K en W H o v) : ∃ a vs, v = .ref a ∧ SqT K H a vs ∧ Reps K W xs vs := by
  cases o with
  | v d =>
    cases d with
    | tup ys =>
      obtain rfl : xs = ys := h
      obtain ⟨a, vs, e, q, r⟩ := Rep.tupI r
      exact ⟨a, vs, e, sqT_le ho.fh q, r⟩
    | _ => exact h.elim
  | _ => exact h.elim
theorem sqO_at {o : O} {xs : List D} (ho : Ho K W H S) (h : SqO S o xs) (r : RepO K en W H o v) : ∃ a vs, v = .ref a ∧ (SqL K H a vs ∨ SqT K H a vs) ∧ Reps K W xs vs := by
  rcases h with h | h
  · obtain ⟨a, vs, e, q, r⟩ := lsO_at ho h r
    exact ⟨a, vs, e, .inl (.inl q), r⟩
  · obtain ⟨a, vs, e, q, r⟩ := tpO_at ho h r
    exact ⟨a, vs, e, .inr q, r⟩
theorem sqL {xs : List D} : SqO S (.v (.lst xs)) xs := .inl rfl
theorem sqB {xs : List D} : SqO S (.b xs) xs := .inl rfl
theorem sqP {i : Nat} {xs : List D} (h : S[i]? = some (.lst xs)) : SqO S (.v (.ptr i)) xs := .inl h
theorem sqT {xs : List D} : SqO S (.v (.tup xs)) xs := .inr rfl
/-! ### data -/
mutual
def pd : D → Option PyData
  | .non => some .none
  | .bl b => some (.bool b)
  | .int i => some (.int i)
  | .str x => some (.str x)
  | .lst xs => (pds xs).map .list
  | .tup xs => (pds xs).map .tuple
  | _ => none
def pds : List D → Option (List PyData)
  | [] => some []
  | x :: xs => match pd x, pds xs with
    | some d, some ds => some (d :: ds)
    | _, _ => none
end
mutual
theorem pd_dp (f : ∀ a o, W.F a = some o → H a = some o) : ∀ {d : D} {v : V} {p : PyData}, Rep K W d v → pd d = some p → Dp K H v p
  | _, _, _, .non, e => by cases e; exact .non
  | _, _, _, .bl b, e => by cases e; exact .bl b
  | _, _, _, .int b, e => by cases e; exact .int b
  | _, _, _, .str b, e => by cases e; exact .str b
  | _, _, _, .lst h r, e => by
    unfold pd at e
    cases q : pds _ with
    | none =>
      rw [q] at e
      cases e
    | some ds =>
      rw [q] at e
      cases e
      exact .lst (.inl (rd_le f h)) (pds_dp f r q)
  | _, _, _, .lsk h r, e => by
    unfold pd at e
    cases e
  | _, _, _, .tup h r, e => by
    unfold pd at e
    cases q : pds _ with
    | none =>
      rw [q] at e
      cases e
    | some ds =>
      rw [q] at e
      cases e
      exact .tup (sqT_le f h) (pds_dp f r q)
theorem pds_dp (f : ∀ a o, W.F a = some o → H a = some o) : ∀ {ds : List D} {vs : List V} {ps : List PyData}, Reps K W ds vs → pds ds = some ps → DpAll K H vs ps
  | _, _, _, .nil, e => by
    cases e
    exact .nil
  | _, _, _, .cons (d := d) (ds := ds) h t, e => by
    unfold pds at e
    cases q : pd d with
    | none =>
      rw [q] at e
      cases e
    | some p =>
      cases q2 : pds ds with
      | none =>
        rw [q, q2] at e
        cases e
      | some ps =>
        rw [q, q2] at e
        cases e
        exact .cons (pd_dp f h q) (pds_dp f t q2)
end
/-- the data of what an expression gives -/
def PdO (S : Sto) (o : O) (p : PyData) : Prop := (∃ d, o = .v d ∧ pd d = some p) ∨ ∃ xs ps, LsO S o xs ∧ pds xs = some ps ∧ p = .list ps
theorem pdO_dp {o : O} {p : PyData} (ho : Ho K W H S) (h : PdO S o p) (r : RepO K en W H o v) : Dp K H v p := by
  rcases h with ⟨d, rfl, e⟩ | ⟨xs, ps, l, e, rfl⟩
  · exact pd_dp ho.fh r e
  · obtain ⟨a, vs, rfl, q, r⟩ := lsO_at ho l r
    exact .lst (.inl q) (pds_dp ho.fh r e)
theorem pdV {p : PyData} (h : pd d = some p) : PdO S (.v d) p := .inl ⟨d, rfl, h⟩
theorem pdB {xs : List D} {ps : List PyData} (h : pds xs = some ps) : PdO S (.b xs) (.list ps) := .inr ⟨xs, ps, rfl, h, rfl⟩
theorem pdP {i : Nat} {xs : List D} {ps : List PyData} (e : S[i]? = some (.lst xs)) (h : pds xs = some ps) : PdO S (.v (.ptr i)) (.list ps) := .inr ⟨xs, ps, e, h, rfl⟩
end
/-! ### ints -/
section
variable {B : Bs} {k : Nat} {S : Sto} {Ex : XS} {Q : QO} {i j : Int} {x y : Str} {b c : Bool} {a d : Nat}
theorem s_add (q : Q (.v (.int (i + j))) S) : sem2 B k (binaryOp .Add) (.v (.int i)) (.v (.int j)) S Ex Q := lift2 (fun _ => op_add) fun en W H x' y' ho rx ry => by
  cases rx
  cases ry
  exact ⟨i, j, rfl, rfl, nx ho (.int _) q⟩
theorem s_addB (q : Q (.v (.int (i + b2i b))) S) : sem2 B k (binaryOp .Add) (.v (.int i)) (.v (.bl b)) S Ex Q := lift2 (fun _ => op_add_ib) fun en W H x' y' ho rx ry => by
  cases rx
  cases ry
  exact ⟨i, b, rfl, rfl, nx ho (.int _) q⟩
theorem s_sub (q : Q (.v (.int (i - j))) S) : sem2 B k (binaryOp .Sub) (.v (.int i)) (.v (.int j)) S Ex Q := lift2 (fun _ => op_sub) fun en W H x' y' ho rx ry => by
  cases rx
  cases ry
  exact ⟨i, j, rfl, rfl, nx ho (.int _) q⟩
theorem s_mul (h : IntMulOk i j) (q : Q (.v (.int (i * j))) S) : sem2 B k (binaryOp .Mult) (.v (.int i)) (.v (.int j)) S Ex Q := lift2 (fun _ => op_mulA) fun en W H x' y' ho rx ry => by
  cases rx
  cases ry
  exact ⟨i, j, rfl, rfl, h, nx ho (.int _) q⟩
theorem s_fdiv (h : CDivW i j) (q : Q (.v (.int (i / j))) S) : sem2 B k (binaryOp .FloorDiv) (.v (.int i)) (.v (.int j)) S Ex Q := lift2 (fun _ => op_fdivW) fun en W H x' y' ho rx ry => by
  cases rx
  cases ry
  exact ⟨i, j, rfl, rfl, h, nx ho (.int _) q⟩
theorem s_mod (h : 0 < j) (q : Q (.v (.int (i % j))) S) : sem2 B k (binaryOp .Mod) (.v (.int i)) (.v (.int j)) S Ex Q := lift2 (fun _ => op_mod) fun en W H x' y' ho rx ry => by
  cases rx
  cases ry
  exact ⟨i, j, rfl, rfl, h, nx ho (.int _) q⟩
theorem s_pow (h : CPow i j) (q : Q (.v (.int (i ^ j.toNat))) S) : sem2 B k (binaryOp .Pow) (.v (.int i)) (.v (.int j)) S Ex Q := lift2 (fun _ => op_pow) fun en W H x' y' ho rx ry => by
  cases rx
  cases ry
  exact ⟨i, j, rfl, rfl, h, nx ho (.int _) q⟩
theorem s_neg (q : Q (.v (.int (-i))) S) : sem1 B k (unaryOp .USub) (.v (.int i)) S Ex Q := lift1 (fun _ => un_neg) fun en W H x' ho rx => by
  cases rx
  exact ⟨i, rfl, nx ho (.int _) q⟩
theorem s_lt (q : Q (.v (.bl (decide (i < j)))) S) : sem2 B k (compareOp .Lt) (.v (.int i)) (.v (.int j)) S Ex Q := lift2 (fun _ => op_lt) fun en W H x' y' ho rx ry => by
  cases rx
  cases ry
  exact ⟨i, j, rfl, rfl, nx ho (.bl _) q⟩
theorem s_le (q : Q (.v (.bl (decide (i ≤ j)))) S) : sem2 B k (compareOp .LtE) (.v (.int i)) (.v (.int j)) S Ex Q := lift2 (fun _ => op_le) fun en W H x' y' ho rx ry => by
  cases rx
  cases ry
  exact ⟨i, j, rfl, rfl, nx ho (.bl _) q⟩
theorem s_gt (q : Q (.v (.bl (decide (j < i)))) S) : sem2 B k (compareOp .Gt) (.v (.int i)) (.v (.int j)) S Ex Q := lift2 (fun _ => op_gt) fun en W H x' y' ho rx ry => by
  cases rx
  cases ry
  exact ⟨i, j, rfl, rfl, nx ho (.bl _) q⟩
theorem s_ge (q : Q (.v (.bl (decide (j ≤ i)))) S) : sem2 B k (compareOp .GtE) (.v (.int i)) (.v (.int j)) S Ex Q := lift2 (fun _ => op_ge) fun en W H x' y' ho rx ry => by
  cases rx
  cases ry
  exact ⟨i, j, rfl, rfl, nx ho (.bl _) q⟩
theorem s_eq (q : Q (.v (.bl (decide (i = j)))) S) : sem2 B k (compareOp .Eq) (.v (.int i)) (.v (.int j)) S Ex Q := lift2 (fun _ => op_eqI) fun en W H x' y' ho rx ry => by
  cases rx
  cases ry
  exact ⟨i, j, rfl, rfl, nx ho (.bl _) q⟩
theorem s_ne (q : Q (.v (.bl (!decide (i = j)))) S) : sem2 B k (compareOp .NotEq) (.v (.int i)) (.v (.int j)) S Ex Q := lift2 (fun _ => op_neI) fun en W H x' y' ho rx ry => by
  cases rx
  cases ry
  exact ⟨i, j, rfl, rfl, nx ho (.bl _) q⟩
theorem s_eqS (q : Q (.v (.bl (decide (x = y)))) S) : sem2 B k (compareOp .Eq) (.v (.str x)) (.v (.str y)) S Ex Q := lift2 (fun _ => op_eqS) fun en W H x' y' ho rx ry => by
  cases rx
  cases ry
  exact ⟨x, y, rfl, rfl, nx ho (.bl _) q⟩
theorem s_neS (q : Q (.v (.bl (!decide (x = y)))) S) : sem2 B k (compareOp .NotEq) (.v (.str x)) (.v (.str y)) S Ex Q := lift2 (fun _ => op_neS) fun en W H x' y' ho rx ry => by
  cases rx
  cases ry
  exact ⟨x, y, rfl, rfl, nx ho (.bl _) q⟩
theorem s_eqD {o p : O} {e f : PyData} (h1 : PdO S o e) (h2 : PdO S p f) (s1 : SeqAt.shaped e = true) (s2 : SeqAt.shaped f = true) (q : Q (.v (.bl (PyData.eqv e f))) S) : sem2 B k (compareOp .Eq) o p S Ex Q :=
  lift2 (fun ft => op_eqDK ft.K ft.units) fun en W H x' y' ho rx ry => ⟨e, f, pdO_dp ho h1 rx, pdO_dp ho h2 ry, s1, s2, nx ho (.bl _) q⟩
theorem s_neD {o p : O} {e f : PyData} (h1 : PdO S o e) (h2 : PdO S p f) (s1 : SeqAt.shaped e = true) (s2 : SeqAt.shaped f = true) (q : Q (.v (.bl (!PyData.eqv e f))) S) : sem2 B k (compareOp .NotEq) o p S Ex Q :=
  lift2 (fun ft => op_neDK ft.K ft.units) fun en W H x' y' ho rx ry => ⟨e, f, pdO_dp ho h1 rx, pdO_dp ho h2 ry, s1, s2, nx ho (.bl _) q⟩
def isNonO : O → Bool
  | .v .non => true
  | _ => false
theorem rep_non {K : PySem.W.Frag} {en : En} {W : Wd} {H : Hp} {o : O} {v : V} (r : RepO K en W H o v) : decide (v = .non) = isNonO o := by
  cases o with
  | v d => cases r <;> simp [isNonO]
  | b xs => obtain ⟨a, vs, rfl, _⟩ := r; simp [isNonO]
  | bd xs => obtain ⟨a, vs, rfl, _⟩ := r; simp [isNonO]
  | s C xs => obtain ⟨a, vs, rfl, _⟩ := r; simp [isNonO]
theorem s_isN {o : O} (q : Q (.v (.bl (isNonO o))) S) : sem2 B k (compareOp .Is) o (.v .non) S Ex Q := lift2 (fun _ => op_isN) fun en W H x' y' ho rx ry => by
  cases ry
  rw [← rep_non rx] at q
  exact ⟨rfl, nx ho (.bl _) q⟩
theorem s_isNotN {o : O} (q : Q (.v (.bl (!isNonO o))) S) : sem2 B k (compareOp .IsNot) o (.v .non) S Ex Q := lift2 (fun _ => op_notN) fun en W H x' y' ho rx ry => by
  cases ry
  rw [← rep_non rx] at q
  exact ⟨rfl, nx ho (.bl _) q⟩
/-! ### truth -/
theorem t_bl {Q : Bool → Sto → Prop} (q : Q b S) : semB B k (.v (.bl b)) S Q := fun X en W σ H ft ho x' rx pins s v I rv => by
  cases rx
  cases rv
  exact wpAny_truthy_bool ⟨H, I, W, S, ho, .refl, q⟩
/-! ### calls -/
theorem c_int (q : Q (.v (.int i)) S) : sCall B k (.type "int") [] [.v (.int i)] [] S Ex Q := liftC (fun _ => call_int1) fun en W H xs' ho rx => by
  cases rx with
  | cons r t =>
    cases t
    cases r
    exact .inl ⟨i, rfl, nx ho (.int _) q⟩
theorem c_intB (q : Q (.v (.int (if b then 1 else 0))) S) : sCall B k (.type "int") [] [.v (.bl b)] [] S Ex Q := liftC (fun _ => call_int1) fun en W H xs' ho rx => by
  cases rx with
  | cons r t =>
    cases t
    cases r
    exact .inr ⟨b, rfl, nx ho (.int _) q⟩
theorem c_abs (q : Q (.v (.int (if i < 0 then -i else i))) S) : sCall B k (.builtin "abs") [] [.v (.int i)] [] S Ex Q := liftC (fun _ => call_abs) fun en W H xs' ho rx => by
  cases rx with
  | cons r t =>
    cases t
    cases r
    exact ⟨i, rfl, nx ho (.int _) q⟩
theorem c_max (hc : B.hot = false) (q : Q (.v (.int (if j > i then j else i))) S) : sCall B k (.builtin "max") [] [.v (.int i), .v (.int j)] [] S Ex Q := liftC (fun ft => call_max2 (ft.calm hc).1) fun en W H xs' ho rx => by
  cases rx with
  | cons r t =>
    cases t with
    | cons r2 t =>
      cases t
      cases r
      cases r2
      exact ⟨i, j, rfl, nx ho (.int _) q⟩
theorem c_min (hc : B.hot = false) (q : Q (.v (.int (if j < i then j else i))) S) : sCall B k (.builtin "min") [] [.v (.int i), .v (.int j)] [] S Ex Q := liftC (fun ft => call_min2 (ft.calm hc).1) fun en W H xs' ho rx => by
  cases rx with
  | cons r t =>
    cases t with
    | cons r2 t =>
      cases t
      cases r
      cases r2
      exact ⟨i, j, rfl, nx ho (.int _) q⟩
theorem c_divmod (h : CDivW i j) (q : Q (.v (.tup [.int (i / j), .int (i % j)])) S) : sCall B k (.builtin "divmod") [] [.v (.int i), .v (.int j)] [] S Ex Q := liftC (fun _ => call_divmodA) fun en W H xs' ho rx => by
  cases rx with
  | cons r t =>
    cases t with
    | cons r2 t =>
      cases t
      cases r
      cases r2
      exact ⟨i, j, rfl, h, nxT ho (.cons (.int _) (.cons (.int _) .nil)) q⟩
theorem c_len {o : O} {xs : List D} (h : SqO S o xs) (q : Q (.v (.int xs.length)) S) : sCall B k (.builtin "len") [] [o] [] S Ex Q := liftC (fun ft => call_lenK ft.K) fun en W H xs' ho rx => by
  cases rx with
  | cons r t =>
    cases t
    obtain ⟨a, vs, rfl, e, rr⟩ := sqO_at ho h r
    rw [← rr.len] at q
    exact ⟨a, vs, rfl, e, nx ho (.int _) q⟩
theorem c_lenS (h : x.length ≤ sizeLine) (q : Q (.v (.int x.length)) S) : sCall B k (.builtin "len") [] [.v (.str x)] [] S Ex Q := liftC (fun ft => call_len_str) fun en W H xs' ho rx => by
  cases rx with
  | cons r t =>
    cases t
    cases r
    exact ⟨x, rfl, h, nx ho (.int _) q⟩
theorem c_strI (h : i.natAbs.log2 < 1920) (q : Q (.v (.str (toString i))) S) : sCall B k (.type "str") [] [.v (.int i)] [] S Ex Q := liftC (fun ft => call_str_int) fun en W H xs' ho rx => by
  cases rx with
  | cons r t =>
    cases t
    cases r
    exact ⟨i, rfl, h, nx ho (.str _) q⟩
theorem c_list {o : O} {xs : List D} (h : SqO S o xs) (q : NewL S Q xs) : sCall B k (.type "list") [] [o] [] S Ex Q := liftC (fun ft => call_listK ft.K) fun en W H xs' ho rx => by
  cases rx with
  | cons r t =>
    cases t
    obtain ⟨a, vs, rfl, e, rr⟩ := sqO_at ho h r
    exact ⟨a, vs, rfl, e, nxN ho rr q⟩
theorem c_tuple {o : O} {xs : List D} (h : SqO S o xs) (q : Q (.v (.tup xs)) S) : sCall B k (.type "tuple") [] [o] [] S Ex Q := liftC (fun ft => call_tupleK ft.K) fun en W H xs' ho rx => by
  cases rx with
  | cons r t =>
    cases t
    rcases h with h | h
    · obtain ⟨a, vs, rfl, e, rr⟩ := lsO_at ho h r
      exact ⟨a, vs, rfl, .inl ⟨.inl e, nxT ho rr q⟩⟩
    · obtain ⟨a, vs, rfl, e, rr⟩ := tpO_at ho h r
      cases o with
      | v d =>
        cases d with
        | tup ys =>
          obtain rfl : xs = ys := h
          exact ⟨a, vs, rfl, .inr ⟨e, nx ho r q⟩⟩
        | _ => exact h.elim
      | _ => exact h.elim
theorem c_repr {o : O} {p : PyData} (h : PdO S o p) (h0 : p.hasDict = false) (h1 : p.showable = true) (h2 : p.depth ≤ 50) (h3 : p.shown.length ≤ sizeLine) (q : Q (.v (.str p.shown)) S) : sCall B k (.builtin "repr") [] [o] [] S Ex Q :=
  liftC (r := rReprT B.K) (fun ft => by
    have z := call_reprTg (X := _) ft.g ft.units
    rw [ft.K] at z
    exact z) fun en W H xs' ho rx => by
  cases rx with
  | cons r t =>
    cases t
    exact ⟨_, p, rfl, .pl (pdO_dp ho h r) h0, h1, h2, h3, nx ho (.str _) q⟩
/-! ### subscripts -/
theorem Reps.atI {K : PySem.W.Frag} {W : Wd} {ds : List D} {vs : List V} {d : D} (r : Reps K W ds vs) (h : atI ds i = some d) : ∃ v, L2.atI vs i = some v ∧ Rep K W d v := by
  unfold L2.atI at h ⊢
  rw [r.len]
  cases e : ixN ds.length i with
  | none =>
    rw [e] at h
    cases h
  | some j =>
    rw [e] at h
    obtain ⟨v, e2, rv⟩ := r.at (show ds[j]? = some d from h)
    exact ⟨v, e2, rv⟩
theorem s_ixL {o : O} {xs : List D} {d : D} (h : LsO S o xs) (e : L2.atI xs i = some d) (q : Q (.v d) S) : sIx B k o (.v (.int i)) S Ex Q := liftI (fun ft => ix_listK ft.K) fun en W H x' y' ho rx ry => by
  cases ry
  obtain ⟨a, vs, rfl, e1, rr⟩ := lsO_at ho h rx
  obtain ⟨v, e2, rv⟩ := rr.atI e
  exact ⟨a, vs, i, v, rfl, rfl, .inl e1, e2, nx ho rv q⟩
theorem s_ixT {xs : List D} {d : D} (e : L2.atI xs i = some d) (q : Q (.v d) S) : sIx B k (.v (.tup xs)) (.v (.int i)) S Ex Q := liftI (fun ft => ix_tupK ft.K) fun en W H x' y' ho rx ry => by
  cases ry
  obtain ⟨a, vs, rfl, e1, rr⟩ := Rep.tupI rx
  obtain ⟨v, e2, rv⟩ := rr.atI e
  exact ⟨a, vs, i, v, rfl, rfl, sqT_le ho.fh e1, e2, nx ho rv q⟩
theorem s_ixS {c : Nat} (h : x.length ≤ sizeLine) (e : L2.atI x.cps.toList i = some c) (q : Q (.v (.str ⟨#[c]⟩)) S) : sIx B k (.v (.str x)) (.v (.int i)) S Ex Q := liftI (fun ft => ix_str) fun en W H x' y' ho rx ry => by
  cases rx
  cases ry
  exact ⟨x, i, c, rfl, rfl, h, e, nx ho (.str _) q⟩
/-! ### slices -/
def cutD (xs : List D) (lo hi : Option Int) : List D := (xs.drop (HT.sIx xs.length 0 lo)).take (HT.sIx xs.length xs.length hi - HT.sIx xs.length 0 lo)
theorem Reps.cut {K : PySem.W.Frag} {W : Wd} {ds : List D} {vs : List V} (r : Reps K W ds vs) (lo hi : Option Int) : Reps K W (cutD ds lo hi) (L2.cutV vs lo hi) := by
  unfold cutD L2.cutV
  rw [r.len]
  exact (r.drop _).take _
theorem s_slL {o : O} {xs : List D} {lo hi : Option Int} (h : LsO S o xs) (q : NewL S Q (cutD xs lo hi)) : sSl B k o lo hi S Q := liftS (fun ft => sl_listK ft.K) fun en W H x' ho rx => by
  obtain ⟨a, vs, rfl, e1, rr⟩ := lsO_at ho h rx
  exact ⟨a, vs, rfl, .inl e1, nxN ho (rr.cut lo hi) q⟩
theorem cut_all {xs : List D} {lo hi : Option Int} (h : HT.sIx xs.length 0 lo = 0 ∧ HT.sIx xs.length xs.length hi = xs.length) : cutD xs lo hi = xs := by
  unfold cutD
  rw [h.1, h.2, List.drop_zero, Nat.sub_zero, List.take_length]
theorem s_slT {xs : List D} {lo hi : Option Int} (q : Q (.v (.tup (cutD xs lo hi))) S) : sSl B k (.v (.tup xs)) lo hi S Q := liftS (fun ft => sl_tupK ft.K) fun en W H x' ho rx => by
  obtain ⟨a, vs, rfl, e1, rr⟩ := Rep.tupI rx
  refine ⟨a, vs, rfl, sqT_le ho.fh e1, fun h => ?_, fun h => nxT ho (rr.cut lo hi) q⟩
  rw [rr.len] at h
  rw [cut_all h] at q
  exact nx ho rx q
theorem s_slS {lo hi : Option Int} (h : x.length ≤ sizeLine) (q : Q (.v (.str (L2.cutS x lo hi))) S) : sSl B k (.v (.str x)) lo hi S Q := liftS (fun ft => sl_str) fun en W H x' ho rx => by
  cases rx
  exact ⟨x, rfl, h, nx ho (.str _) q⟩
/-! ### lists and tuples put together -/
def rCatQ : R2 := fun x y H Q => ∃ l b xs zs, x = .ref l ∧ y = .ref b ∧ Rd H l (.lst xs) ∧ Rd H b (.lst zs) ∧ xs.length + zs.length ≤ sizeLine ∧ ∀ p, H p = none → Q (.ref p) (upd H p (.lst (xs ++ zs)))
theorem lstR {X : Cx} {pins : List (Addr × Obj)} {σ : L2.St} {H : Hp} {s : Shared} {l : Addr} {xs : List V} (I : Inv X pins σ H s) (hH : Rd H l (.lst xs)) : xs.length ≤ sizeLine ∧ ∃ (its : List Value) (n : Nat), Vals xs its ∧ xs.length = its.length ∧ s.heap.get? l = some { cls := .type "list", data := .seq its.toArray n } := by
  obtain ⟨z, its, n, r, e⟩ := hH.ok I.hok
  exact ⟨z, its, n, r, r.length, e⟩
theorem op_catQ {X : Cx} : OpR X (binaryOp .Add) rCatQ := by
  intro pins s σ H x y v u Q I rx ry h
  obtain ⟨l, b, xs, zs, rfl, rfl, hH, hB, hz, q⟩ := h
  cases rx
  cases ry
  obtain ⟨z, its, n, r, hl, e⟩ := lstR I hH
  obtain ⟨z2, its2, n2, r2, hl2, e2⟩ := lstR I hB
  refine PySem.P.add_list e e2 ?_ (by rw [List.size_toArray, List.size_toArray]; omega)
  have ea : its.toArray ++ its2.toArray = (its ++ its2).toArray := by simp
  rw [ea]
  exact ⟨.ref _, _, I.lnew (t' := s.toks) (r.append r2) (by rw [List.length_append]; omega), rfl, q _ I.fresh⟩
theorem s_cat {o p : O} {xs ys : List D} (h1 : LsO S o xs) (h2 : LsO S p ys) (h3 : xs.length + ys.length ≤ sizeLine) (q : NewL S Q (xs ++ ys)) : sem2 B k (binaryOp .Add) o p S Ex Q := lift2 (fun ft => op_catQ) fun en W H x' y' ho rx ry => by
  obtain ⟨a, vs, rfl, e1, rr⟩ := lsO_at ho h1 rx
  obtain ⟨b, us, rfl, e2, rr2⟩ := lsO_at ho h2 ry
  exact ⟨a, b, vs, us, rfl, rfl, e1, e2, by rw [rr.len, rr2.len]; exact h3, nxN ho (rr.app rr2) q⟩
def rRepQ : R2 := fun x y H Q => ∃ l k xs, x = .ref l ∧ y = .int k ∧ Rd H l (.lst xs) ∧ -(2 ^ 63) ≤ k ∧ k < 2 ^ 63 ∧ xs.length * k.toNat ≤ sizeLine ∧
  ∀ p, H p = none → Q (.ref p) (upd H p (.lst (List.replicate k.toNat xs).flatten))

end
end Dt

set_option Elab.async false
set_option linter.all false
set_option maxRecDepth 100000
set_option maxHeartbeats 4000000
/-! DatL: more of what operators, methods and built-ins give on trees -/
namespace Dt
open PySem PySem.Spec PyProof.Rows L2 My
section
variable {B : Bs} {k : Nat} {S : Sto} {Ex : XS} {Q : QO} {i j : Int} {x y : Str} {b c : Bool} {a d : Nat}
theorem op_repQ {X : Cx} : OpR X (binaryOp .Mult) rRepQ := by
  intro pins s σ H x y v u Q I rx ry h
  obtain ⟨l, k, xs, rfl, rfl, hH, h1, h2, hz, q⟩ := h
  cases rx
  obtain ⟨t, rfl⟩ := ry
  obtain ⟨z, its, n, r, hl, e⟩ := lstR I hH
  have hlen : its.toArray.size * k.toNat ≤ sizeLine := by rw [List.size_toArray, ← hl]; exact hz
  have hcap : ¬ its.toArray.size * k.toNat > (2 ^ 63 - 1) / 8 := by
    have : (sizeLine : Nat) ≤ (2 ^ 63 - 1) / 8 := by decide
    omega
  have hfit : ¬ (!Builtin.List.listFitsIndex k) = true := by
    rw [fitsIndex_both h1 h2]
    exact Bool.false_ne_true
  have hlong : ¬ Builtin.List.listTooLong (its.toArray.size * k.toNat) = true := by
    rw [notLongL hlen]
    exact Bool.false_ne_true
  have hnew : List.foldl (fun x1 x2 => x1 ++ x2) #[] (List.replicate (if its.toArray.isEmpty = true then 0 else k.toNat) its.toArray) = (List.replicate k.toNat its).flatten.toArray := by
    have f0 : ∀ m : Nat, List.foldl (fun x1 x2 => x1 ++ x2) #[] (List.replicate m its.toArray) = (List.replicate m its).flatten.toArray := fun m => by
      have := foldl_rep its m []
      rw [List.nil_append] at this
      exact this
    rw [f0]
    cases its with
    | nil => simp
    | cons a r' => rw [if_neg (by simp)]
  refine wpAny_binaryOp_repeat_ref (T := "list") (U := "int") (by decide) ⟨_, e, rfl⟩ (fun s' => typeIs_int s' k t) noFill_list_mul F.fills_int_mul F.slot_int_rmul repeat_list F.slot_int_index.lookup
    (call_meets F.slot_int_rmul (typeIs_int s k t) F.entry_int_rmul (F.args_int_rmul_2 _ _) (int___rmul___int_list k t l its.toArray n)
      ⟨e, rfl, ⟨_, e, rfl⟩, call_meets F.slot_list_mul ⟨_, e, rfl⟩ F.entry_list_mul (F.args_list_mul_2 _ _) (AutoListH.list___mul___list_int_3 l its.toArray n k t hfit hcap hlong) ⟨e, ?_⟩⟩)
  rw [hnew]
  exact ⟨.ref _, _, I.lnew (t' := s.toks) (r.rep k.toNat) (by rw [PyProof.Rows.lm_len_rep_flat, Nat.mul_comm]; exact hz), rfl, q _ I.fresh⟩
theorem Reps.rep {K : PySem.W.Frag} {W : Wd} {ds : List D} {vs : List V} (r : Reps K W ds vs) : ∀ n : Nat, Reps K W (List.replicate n ds).flatten (List.replicate n vs).flatten
  | 0 => .nil
  | n + 1 => by
    rw [List.replicate_succ, List.replicate_succ, List.flatten_cons, List.flatten_cons]
    exact r.app (Reps.rep r n)
theorem s_rep {o : O} {xs : List D} (h1 : LsO S o xs) (h2 : -(2 ^ 63) ≤ i) (h3 : i < 2 ^ 63) (h4 : xs.length * i.toNat ≤ sizeLine) (q : NewL S Q (List.replicate i.toNat xs).flatten) : sem2 B k (binaryOp .Mult) o (.v (.int i)) S Ex Q := lift2 (fun ft => op_repQ) fun en W H x' y' ho rx ry => by
  cases ry
  obtain ⟨a, vs, rfl, e1, rr⟩ := lsO_at ho h1 rx
  exact ⟨a, i, vs, rfl, rfl, e1, h2, h3, by rw [rr.len]; exact h4, nxN ho (rr.rep _) q⟩
theorem s_catT {xs ys : List D} (h3 : xs.length + ys.length ≤ sizeLine) (q : Q (.v (.tup (xs ++ ys))) S) : sem2 B k (binaryOp .Add) (.v (.tup xs)) (.v (.tup ys)) S Ex Q := lift2 (r := rCatA B.K) (fun {X en} ft => by
  have z := op_catA (X := X)
  rw [ft.K] at z
  exact z) fun en W H x' y' ho rx ry => by
  obtain ⟨a, vs, rfl, e1, rr⟩ := Rep.tupI rx
  obtain ⟨b, us, rfl, e2, rr2⟩ := Rep.tupI ry
  refine ⟨a, b, vs, us, rfl, rfl, sqT_le ho.fh e1, sqT_le ho.fh e2, by rw [rr.len, rr2.len]; exact h3, fun e => ?_, fun _ e => ?_, fun _ _ => nxT ho (rr.app rr2) q⟩
  · subst e
    cases rr
    exact nx ho ry q
  · subst e
    cases rr2
    rw [List.append_nil] at q
    exact nx ho rx q
theorem s_catS (h : x.length + y.length ≤ sizeLine) (q : Q (.v (.str (x ++ y))) S) : sem2 B k (binaryOp .Add) (.v (.str x)) (.v (.str y)) S Ex Q := lift2 (fun ft => op_add_str) fun en W H x' y' ho rx ry => by
  cases rx
  cases ry
  exact ⟨x, y, rfl, rfl, h, nx ho (.str _) q⟩
/-! ### in -/
theorem s_inD {o p : O} {e : PyData} {es : List PyData} (h1 : PdO S o e) (h2 : PdO S p (.list es)) (s1 : SeqAt.shaped e = true) (s2 : SeqAt.shaped (.list es) = true) (q : Q (.v (.bl (es.any fun z => PyData.eqv z e))) S) : sem2 B k (compareOp .In) o p S Ex Q :=
  lift2 (r := rInD B.K) (fun {X en} ft => by
    have z := op_inD (X := X) (by have := ft.rm.un; omega)
    rw [ft.K] at z
    exact z) fun en W H x' y' ho rx ry => ⟨e, es, pdO_dp ho h1 rx, pdO_dp ho h2 ry, s1, s2, nx ho (.bl _) q⟩
theorem s_notInD {o p : O} {e : PyData} {es : List PyData} (h1 : PdO S o e) (h2 : PdO S p (.list es)) (s1 : SeqAt.shaped e = true) (s2 : SeqAt.shaped (.list es) = true) (q : Q (.v (.bl (!es.any fun z => PyData.eqv z e))) S) : sem2 B k (compareOp .NotIn) o p S Ex Q :=
  lift2 (r := rNotInD B.K) (fun {X en} ft => by
    have z := op_notInD (X := X) (by have := ft.rm.un; omega)
    rw [ft.K] at z
    exact z) fun en W H x' y' ho rx ry => ⟨e, es, pdO_dp ho h1 rx, pdO_dp ho h2 ry, s1, s2, nx ho (.bl _) q⟩
/-- flat items -/
def flatD : D → Bool
  | .non => true
  | .bl _ => true
  | .int _ => true
  | .str _ => true
  | _ => false
def eqF : D → D → Bool
  | .non, .non => true
  | .bl a, .bl b => a == b
  | .int a, .int b => a == b
  | .str a, .str b => a == b
  | .bl a, .int b => (if a then 1 else 0) == b
  | .int a, .bl b => a == (if b then 1 else 0)
  | _, _ => false
/-! ### the store's lists -/
theorem nxP {K : PySem.W.Frag} {en : En} {W : Wd} {H : Hp} {n : Nat} {o : HO} {c : Cell} {dd : D} {v : V} (ho : Ho K W H S) (hn : n < W.n) (r : RelC K W (upd H (W.m n) o) (W.m n) c) (rv : Rep K W dd v) (q : Q (.v dd) (S.set n c)) : Nx K en W H Q v (upd H (W.m n) o) :=
  ⟨W, .v dd, S.set n c, ho.put hn r, Go.put hn, rv, q⟩
theorem cell_lt {K : PySem.W.Frag} {W : Wd} {H : Hp} {n : Nat} {c : Cell} (ho : Ho K W H S) (e : S[n]? = some c) : n < W.n := by
  rw [ho.n]
  exact (List.getElem?_eq_some_iff.mp e).1
theorem nxPL {K : PySem.W.Frag} {en : En} {W : Wd} {H : Hp} {n : Nat} {c : Cell} {ys : List D} {us : List V} {dd : D} {v : V} (ho : Ho K W H S) (e : S[n]? = some c) (rr : Reps K W ys us) (rv : Rep K W dd v) (q : Q (.v dd) (S.set n (.lst ys))) : Nx K en W H Q v (upd H (W.m n) (.lst us)) :=
  nxP (c := .lst ys) ho (cell_lt ho e) ⟨us, upd_same, rr⟩ rv q
theorem m_append {n : Nat} {xs : List D} {dd : D} (e : S[n]? = some (.lst xs)) (h : xs.length < sizeLine) (q : Q (.v .non) (S.set n (.lst (xs ++ [dd])))) : sCall B k (.builtin "list.append") [] [.v (.ptr n), .v dd] [] S Ex Q := liftM (fun ft => mt_append) fun en W H x' xs' ho rx rxs => by
  cases rx
  cases rxs with
  | cons r t =>
    cases t
    obtain ⟨vs, e1, rr⟩ := ho.cel _ _ e
    exact ⟨_, vs, _, rfl, rfl, e1, by rw [rr.len]; exact h, nxPL ho e (rr.app (.cons r .nil)) .non q⟩
theorem m_pop {n : Nat} {xs : List D} {dd : D} (e : S[n]? = some (.lst xs)) (h : xs[xs.length - 1]? = some dd) (q : Q (.v dd) (S.set n (.lst xs.dropLast))) : sCall B k (.builtin "list.pop") [] [.v (.ptr n)] [] S Ex Q := liftM (fun ft => mt_pop) fun en W H x' xs' ho rx rxs => by
  cases rx
  cases rxs
  obtain ⟨vs, e1, rr⟩ := ho.cel _ _ e
  obtain ⟨v, e2, rv⟩ := rr.at h
  refine ⟨_, vs, v, rfl, rfl, e1, by rw [rr.len]; exact e2, nxPL ho e ?_ rv q⟩
  rw [List.dropLast_eq_take, List.dropLast_eq_take, rr.len]
  exact rr.take _
theorem Reps.erase {K : PySem.W.Frag} {W : Wd} : ∀ {ds : List D} {vs : List V} (i : Nat), Reps K W ds vs → Reps K W (ds.eraseIdx i) (vs.eraseIdx i)
  | _, _, _, .nil => .nil
  | _, _, 0, .cons _ t => t
  | _, _, i + 1, .cons r t => .cons r (Reps.erase i t)
theorem m_popAt {n l : Nat} {xs : List D} {dd : D} (e : S[n]? = some (.lst xs)) (h1 : -(2 ^ 63) ≤ i) (h2 : i < 2 ^ 63) (hl : seqIndex? i xs.length = some l) (h : xs[l]? = some dd) (q : Q (.v dd) (S.set n (.lst (xs.eraseIdx l)))) : sCall B k (.builtin "list.pop") [] [.v (.ptr n), .v (.int i)] [] S Ex Q := liftM (fun ft => mt_popAt) fun en W H x' xs' ho rx rxs => by
  cases rx
  cases rxs with
  | cons r t =>
    cases t
    cases r
    obtain ⟨vs, e1, rr⟩ := ho.cel _ _ e
    obtain ⟨v, e2, rv⟩ := rr.at h
    exact ⟨_, vs, i, l, v, rfl, rfl, e1, h1, h2, by rw [rr.len]; exact hl, e2, nxPL ho e (rr.erase l) rv q⟩
/-! ### lists of ints, of truth values -/
theorem Reps.ints {K : PySem.W.Frag} {W : Wd} : ∀ {ns : List Int} {vs : List V}, Reps K W (ns.map D.int) vs → vs = ns.map V.int
  | [], _, .nil => rfl
  | _ :: _, _, .cons h t => by
    cases h
    rw [Reps.ints t] <;> rfl
theorem Reps.bls {K : PySem.W.Frag} {W : Wd} : ∀ {ns : List Bool} {vs : List V}, Reps K W (ns.map D.bl) vs → vs = ns.map V.bl
  | [], _, .nil => rfl
  | _ :: _, _, .cons h t => by
    cases h
    rw [Reps.bls t] <;> rfl
theorem reps_ints {K : PySem.W.Frag} {W : Wd} : ∀ ns : List Int, Reps K W (ns.map D.int) (ns.map V.int)
  | [] => .nil
  | n :: ns => .cons (.int n) (reps_ints ns)
theorem c_sum {o : O} {ns : List Int} (hc : B.hot = false) (h : LsO S o (ns.map .int)) (q : Q (.v (.int ns.sum)) S) : sCall B k (.builtin "sum") [] [o] [] S Ex Q := liftC (r := rSum B.K) (fun {X en} ft => by
  have z := cr_sum (X := X) (ft.calm hc).1
  rw [ft.K] at z
  exact z) fun en W H xs' ho rx => by
  cases rx with
  | cons r t =>
    cases t
    obtain ⟨a, vs, rfl, e, rr⟩ := lsO_at ho h r
    rw [rr.ints] at e
    exact ⟨a, ns, rfl, .inl e, nx ho (.int _) q⟩
theorem c_all {o : O} {bs : List Bool} (hc : B.hot = false) (h : LsO S o (bs.map .bl)) (q : Q (.v (.bl (bs.all id))) S) : sCall B k (.builtin "all") [] [o] [] S Ex Q := liftC (r := rAll B.K) (fun {X en} ft => by
  have z := cr_all (X := X) (ft.calm hc).1
  rw [ft.K] at z
  exact z) fun en W H xs' ho rx => by
  cases rx with
  | cons r t =>
    cases t
    obtain ⟨a, vs, rfl, e, rr⟩ := lsO_at ho h r
    rw [rr.bls] at e
    exact ⟨a, bs, rfl, .inl e, nx ho (.bl _) q⟩
theorem c_any {o : O} {bs : List Bool} (hc : B.hot = false) (h : LsO S o (bs.map .bl)) (q : Q (.v (.bl (bs.any id))) S) : sCall B k (.builtin "any") [] [o] [] S Ex Q := liftC (r := rAny B.K) (fun {X en} ft => by
  have z := cr_any (X := X) (ft.calm hc).1
  rw [ft.K] at z
  exact z) fun en W H xs' ho rx => by
  cases rx with
  | cons r t =>
    cases t
    obtain ⟨a, vs, rfl, e, rr⟩ := lsO_at ho h r
    rw [rr.bls] at e
    exact ⟨a, bs, rfl, .inl e, nx ho (.bl _) q⟩
theorem c_sorted {o : O} {ns : List Int} (h : LsO S o (ns.map .int)) (q : ∀ ms : List Int, ms.Perm ns → ms.Pairwise (· ≤ ·) → NewL S Q (ms.map .int)) : sCall B k (.builtin "sorted") [] [o] [] S Ex Q := liftC (r := rSortedI B.K) (fun {X en} ft => by
  have z := cr_sortedI (X := X)
  rw [ft.K] at z
  exact z) fun en W H xs' ho rx => by
  cases rx with
  | cons r t =>
    cases t
    obtain ⟨a, vs, rfl, e, rr⟩ := lsO_at ho h r
    rw [rr.ints] at e
    exact ⟨a, ns, rfl, .inl e, fun ms p h1 h2 hp => nxN ho (reps_ints ms) (q ms h1 h2) p hp⟩
theorem c_maxL {o : O} {ns : List Int} (hc : B.hot = false) (h : LsO S o (ns.map .int)) (h0 : 0 < ns.length) (q : ∀ m, m ∈ ns → (∀ y, y ∈ ns → y ≤ m) → Q (.v (.int m)) S) : sCall B k (.builtin "max") [] [o] [] S Ex Q := liftC (r := rMax B.K) (fun {X en} ft => by
  have z := cr_max (X := X) (ft.calm hc).1
  rw [ft.K] at z
  exact z) fun en W H xs' ho rx => by
  cases rx with
  | cons r t =>
    cases t
    obtain ⟨a, vs, rfl, e, rr⟩ := lsO_at ho h r
    rw [rr.ints] at e
    exact ⟨a, ns, rfl, .inl e, h0, fun m h1 h2 => nx ho (.int _) (q m h1 h2)⟩
theorem c_minL {o : O} {ns : List Int} (hc : B.hot = false) (h : LsO S o (ns.map .int)) (h0 : 0 < ns.length) (q : ∀ m, m ∈ ns → (∀ y, y ∈ ns → m ≤ y) → Q (.v (.int m)) S) : sCall B k (.builtin "min") [] [o] [] S Ex Q := liftC (r := rMin B.K) (fun {X en} ft => by
  have z := cr_min (X := X) (ft.calm hc).1
  rw [ft.K] at z
  exact z) fun en W H xs' ho rx => by
  cases rx with
  | cons r t =>
    cases t
    obtain ⟨a, vs, rfl, e, rr⟩ := lsO_at ho h r
    rw [rr.ints] at e
    exact ⟨a, ns, rfl, .inl e, h0, fun m h1 h2 => nx ho (.int _) (q m h1 h2)⟩
end
end Dt

set_option Elab.async false
set_option linter.all false
set_option maxRecDepth 100000
set_option maxHeartbeats 4000000
/-! DatM: stores by subscript, chains of comparisons, operators of own classes, staticmethods -/
namespace Dt
open PySem PySem.Spec PyProof.Rows L2 My
/-! ### o[i] = v -/
def sSet (B : Bs) (k : Nat) (o i : O) (d : D) (S : Sto) (Q : Sto → Prop) : Prop :=
  ∀ (X : Cx) (en : En) (W : Wd) (σ : L2.St) (H : Hp), FitsB B k X en → Ho B.K W H S → ∀ o' i' v', RepO B.K en W H o o' → RepO B.K en W H i i' → Rep B.K W d v' →
    ∀ (pins : List (Addr × Obj)) (s : Shared) (ov iv u : Value), Inv X pins σ H s → RelV o' ov → RelV i' iv → RelV v' u → wpAny (model X.prog X.w) X.A (setItem ov iv u) (fun _ s' => ∃ H' S', Inv X pins σ H' s' ∧ Ho B.K W H' S' ∧ Go W H W H' ∧ Q S') X.xe s
section
variable {B : Bs} {k : Nat} {S : Sto} {Q : Sto → Prop} {d : D}
theorem set_L {n l : Nat} {i : Int} {xs : List D} (e : S[n]? = some (.lst xs)) (h : ixN xs.length i = some l) (q : Q (S.set n (.lst (xs.set l d)))) : sSet B k (.v (.ptr n)) (.v (.int i)) d S Q := by
  intro X en W σ H ft ho o' i' v' ro ri rd pins s ov iv u I r1 r2 r3
  cases ro
  cases ri
  obtain ⟨vs, e1, rr⟩ := ho.cel _ _ e
  refine thn (set_list pins s σ H _ _ _ ov iv u (fun H' => ∃ S', Ho B.K W H' S' ∧ Go W H W H' ∧ Q S') I r1 r2 r3 ⟨_, vs, i, l, rfl, rfl, e1, by rw [rr.len]; exact h, ?_⟩) fun _ s' ⟨H', I', S', h1, h2, h3⟩ => ⟨H', S', I', h1, h2, h3⟩
  exact ⟨_, ho.put (c := .lst (xs.set l d)) (cell_lt ho e) ⟨_, upd_same, rr.set rd l⟩, Go.put (cell_lt ho e), q⟩
theorem set_K {n : Nat} {i : Key} {xs : List (Key × D)} (e : S[n]? = some (.dct xs)) (h : xs.length < sizeLine) (q : Q (S.set n (.dct (putKD xs i d)))) : sSet B k (.v (.ptr n)) (.v (kD i)) d S Q := by
  intro X en W σ H ft ho o' i' v' ro ri rd pins s ov iv u I r1 r2 r3
  cases ro
  obtain rfl := rep_key ri
  obtain ⟨vs, e1, rr⟩ := ho.cel _ _ e
  obtain rfl : ov = Value.ref (W.m n) := r1
  refine d_setItem (by have := ft.units; omega) I (DPut.k e1 (by rw [rr.len]; exact h)) r2 r3 fun s4 I4 => ⟨_, _, I4, ho.put (c := .dct (putKD xs i d)) (cell_lt ho e) ⟨_, upd_same, rr.put i rd⟩, Go.put (cell_lt ho e), q⟩
end
section
variable {G : Cf} {X : Cx} {en : En} {W W1 : Wd} {σ : L2.St} {H H1 : Hp} {ρ : List Sl} {S S1 : Sto} {E : XD} {pins : List (Addr × Obj)} {s s1 : Shared} {e a b c o : Expr} {es : List Expr} {t ta tb tc te to ti : RE} {tA tK : RA} {pos p apos pos' : Pos} {x m : Str}
abbrev gSub (B : Bs) (k : Nat) (ta tb : RE) : RG := fun d ρ S E Q => ta ρ S E fun x S1 => tb ρ S1 E fun y S2 => sSet B k x y d S2 fun S3 => Q ρ S3
theorem dg_sub (ha : DE G a ta) (hb : DE G b tb) (hs : ∀ (env : Env) v, assign (.Subscript a b apos) env v = (do
      let ov ← holding [v] (eval a env)
      let iv ← holding [v, ov] (eval b env)
      standAt apos
      holding [v, ov, iv] (setItem ov iv v)
      release [v, ov, iv] []) := by intro _ _; rfl) : DG G (.Subscript a b apos) [] (gSub G.B G.k ta tb) := by
  refine ⟨fun {X en W σ H ρ S E pins s Q d v u} z r rv q => ?_⟩
  rw [hs]
  refine wpAny_bind (wpAny_holding (ha.at z q fun ov s1 x' H1 W1 o1 S1 z1 g1 r1 ro q1 => ?_))
  refine wpAny_bind (wpAny_holding (hb.at z1 q1 fun iv s2 y' H2 W2 o2 S2 z2 g2 r2 ro2 q2 => ?_))
  have g12 := g1.trans g2 z2.rs.ho
  refine wpAny_bind (wpAny_standAt (wpAny_bind (wpAny_holding (thn (q2 X en W2 σ H2 z2.hf.b z2.rs.ho x' y' v (ro.go g2) ro2 (Rep.le g12.le r) pins s2 ov iv u z2.I r1 r2 rv) fun _ s3 ⟨H3, S3, I3, h3, g3, q3⟩ => ?_))))
  exact wpAny_release ⟨σ, H3, W2, ρ, S3, z2.next I3 h3 g3, ⟨g12.le, q3⟩, ⟨fun _ _ => rfl, rfl⟩, g12.trans g3 h3⟩
def dSub (B : Bs) (k : Nat) (ta tb tv : RE) : RS := fun D ρ S => tv ρ S D.ex fun v S1 => ∃ d, v = .v d ∧ ta ρ S1 D.ex fun x S2 => tb ρ S2 D.ex fun y S3 => sSet B k x y d S3 fun S4 => D.nx ρ S4
theorem ds_sub {tv : RE} (ha : DE G a ta) (hb : DE G b tb) (hv : DE G e tv) (hs : ∀ env : Env, swapsWith e (some (.Subscript a b pos')) pos.line env = pure false := by intro _; rfl) : DS G (.Assign [.Subscript a b pos'] e pos) (dSub G.B G.k ta tb tv) := by
  refine ⟨fun {X en W σ H ρ S pins s D} z q => ?_⟩
  refine wpAny_Assign_Subscript (hv.at z q fun u s1 v' H1 W1 o1 S1 z1 g1 r1 ro ⟨d, eo, q1⟩ => ha.at z1 q1 fun ov s2 x' H2 W2 o2 S2 z2 g2 r2 ro2 q2 => hb.at z2 q2 fun iv s3 y' H3 W3 o3 S3 z3 g3 r3 ro3 q3 => ?_) (hs _)
  subst eo
  refine thn (q3 X en W3 σ H3 z3.hf.b z3.rs.ho x' y' v' (ro2.go g3) ro3 (Rep.le (g2.le.trans g3.le) ro) pins s3 ov iv u z3.I r2 r3 r1) fun _ s4 ⟨H4, S4, I4, h4, g4, q4⟩ => ?_
  exact ⟨σ, H4, I4, W3, ρ, S4, z3.rs.after h4 g4, (g1.le.trans g2.le).trans g3.le, q4⟩
/-! ### a op b op c -/
theorem At.op2' {f : Value → Value → Sem Value} {v v2 : V} {o o2 : O} {Q : QO} {u u2 : Value} (z : At G X en W σ H ρ S E pins s) (r : RelV v u) (ro : RepO G.B.K en W H o v) (r2 : RelV v2 u2) (ro2 : RepO G.B.K en W H o2 v2) (q : sem2 G.B G.k f o o2 S (E ρ) Q) {P : Value → Shared → Prop}
    (k : ∀ v s1 x' H1 W1 o S1, At G X en W1 σ H1 ρ S1 E pins s1 → Go W H W1 H1 → RelV x' v → RepO G.B.K en W1 H1 o x' → Q o S1 → P v s1) : wpAny (model X.prog X.w) X.A (f u u2) P X.xe s :=
  thn (z.op2 r ro r2 ro2 q) fun v s1 ⟨x', H1, I1, r1, W1, o, S1, h1, g1, ro, q1⟩ => k v s1 x' H1 W1 o S1 (z.next I1 h1 g1) g1 r1 ro q1
abbrev dChain (B : Bs) (k : Nat) (op op' : CmpOp) (ta tb tc : RE) : RE := fun ρ S E Q => ta ρ S E fun x S1 => tb ρ S1 E fun y S2 => sem2 B k (compareOp op) x y S2 (E ρ) fun z S3 => ∃ b, z = .v (.bl b) ∧ if b = true then tc ρ S3 E fun w S4 => sem2 B k (compareOp op') y w S4 (E ρ) Q else Q (.v (.bl false)) S3
theorem de_chain {op op' : CmpOp} (ha : DE G a ta) (hb : DE G b tb) (hc : DE G c tc) (hm : lastMarks [op, op'] [b, c] = false := by with_unfolding_all rfl) : DE G (.Compare a [op, op'] [b, c] pos) (dChain G.B G.k op op' ta tb tc) := by
  refine ⟨fun {X en W σ H ρ S E pins s Q} z q => ?_⟩
  refine Compare_chain (ha.at z q fun v s1 x' H1 W1 o1 S1 z1 g1 r1 ro q1 => chain_link (hb.at z1 q1 fun u s2 y' H2 W2 o2 S2 z2 g2 r2 ro2 q2 => z2.op2' r1 (ro.go g2) r2 ro2 q2 fun w s3 w' H3 W3 o3 S3 z3 g3 r3 ro3 ⟨k, eo, q3⟩ => ?_)) hm
  subst eo
  cases ro3
  obtain rfl := r3
  refine wpAny_truthy_bool ?_
  have g13 := (g1.trans g2 z2.rs.ho).trans g3 z3.rs.ho
  cases k with
  | false => exact ite_ff ⟨.bl false, H3, z3.I, rfl, W3, .v (.bl false), S3, z3.rs.ho, g13, .bl _, q3⟩
  | true => exact ite_tt (chain_last (hc.at z3 q3 fun t s4 t' H4 W4 o4 S4 z4 g4 r4 ro4 q4 => thn (z4.op2 r2 ((ro2.go g3).go g4) r4 ro4 q4) fun _ _ => ep_back (g13.trans g4 z4.rs.ho)))
abbrev tChain (B : Bs) (k : Nat) (op op' : CmpOp) (ta tb tc : RE) : RT := fun ρ S E Q => ta ρ S E fun x S1 => tb ρ S1 E fun y S2 => sem2 B k (compareOp op) x y S2 (E ρ) fun z S3 => ∃ b, z = .v (.bl b) ∧ if b = true then tc ρ S3 E fun w S4 => sem2 B k (compareOp op') y w S4 (E ρ) fun z S5 => semB B k z S5 Q else Q false S3
theorem dt_chain {op op' : CmpOp} (ha : DE G a ta) (hb : DE G b tb) (hc : DE G c tc) (hm : lastMarks [op, op'] [b, c] = false := by with_unfolding_all rfl) : DT G (.Compare a [op, op'] [b, c] pos) (tChain G.B G.k op op' ta tb tc) := by
  refine ⟨fun {X en W σ H ρ S E pins s Q} z q => ?_⟩
  refine isTrue_chain (ha.at z q fun v s1 x' H1 W1 o1 S1 z1 g1 r1 ro q1 => test_link (hb.at z1 q1 fun u s2 y' H2 W2 o2 S2 z2 g2 r2 ro2 q2 => z2.op2' r1 (ro.go g2) r2 ro2 q2 fun w s3 w' H3 W3 o3 S3 z3 g3 r3 ro3 ⟨k, eo, q3⟩ => ?_)) hm
  subst eo
  cases ro3
  obtain rfl := r3
  refine wpAny_truthy_bool ?_
  have g13 := (g1.trans g2 z2.rs.ho).trans g3 z3.rs.ho
  cases k with
  | false =>
    exact ite_ff ⟨H3, z3.I, W3, S3, z3.rs.ho, g13, q3⟩
  | true =>
    refine ite_tt (test_last (hc.at z3 q3 fun t s4 t' H4 W4 o4 S4 z4 g4 r4 ro4 q4 => z4.op2' r2 ((ro2.go g3).go g4) r4 ro4 q4 fun w5 s5 w5' H5 W5 o5 S5 z5 g5 r5 ro5 q5 => ?_))
    exact thn (semB.at z5 r5 ro5 q5) fun _ _ => tp_back ((g13.trans g4 z4.rs.ho).trans g5 z5.rs.ho)
end
/-! ### operators of own classes -/
section
variable {B : Bs} {k : Nat} {S : Sto} {Ex : XS} {Q : QO} {d e : D} {C C2 : Str} {fs gs : List (Str × D)} {f : Addr} {n : Str}
theorem s_own2 {op : Operator} (hot : B.hot = false) (i1 : IsI S (.v d) C fs) (i2 : IsI S (.v e) C gs) (o : PySem.W.selfFirst B.K (He.ga B.K C) = true) (p : SpOk B.K (He.ga B.K C) n f) (h : sFun B k (.ref f) [] [d, e] [] S Ex Q) (he : PySem.dunder op.info.2 = n := by rfl) : sem2 B k (binaryOp op) (.v d) (.v e) S Ex Q := by
  intro X en W σ H ft tk ho x' y' rx ry pins s v u I rv ru
  obtain ⟨a, dx, vs, rfl, ea, _⟩ := isI_at ho i1 rx
  obtain ⟨b, dy, us, rfl, eb, _⟩ := isI_at ho i2 ry
  obtain rfl : v = Value.ref a := rv
  obtain rfl : u = Value.ref b := ru
  rw [← ft.K] at o p ea eb
  obtain ⟨mA, O, _⟩ := ins_get I.hok ea
  obtain ⟨od, J, _⟩ := O.look
  obtain ⟨mB, O', _⟩ := ins_get I.hok eb
  obtain ⟨od', J', _⟩ := O'.look
  obtain ⟨m, hF⟩ := I.fr
  refine PySem.W.binop_K hF I.ok.mod.kin J J'.type o (by rw [he]; exact p.at_) p.fn ?_
  exact wpAny_mono (h.run hot ft tk ho (.cons rx (.cons ry .nil)) .nil I (us := [.ref a, .ref b]) (us' := []) (.cons rfl (.cons rfl .nil)) .nil) (fun w s' z => back z) fun _ _ x => x
theorem s_ownC {op : CmpOp} (hop : ∀ a b, compareOp op a b = richCompare op a b) (hot : B.hot = false) (i1 : IsI S (.v d) C fs) (i2 : IsI S (.v e) C gs) (p : SpOk B.K (He.ga B.K C) n f) (h : sFun B k (.ref f) [] [d, e] [] S Ex Q) (he : (cmpInfo op).2.1 = n := by rfl) : sem2 B k (compareOp op) (.v d) (.v e) S Ex Q := by
  intro X en W σ H ft tk ho x' y' rx ry pins s v u I rv ru
  obtain ⟨a, dx, vs, rfl, ea, _⟩ := isI_at ho i1 rx
  obtain ⟨b, dy, us, rfl, eb, _⟩ := isI_at ho i2 ry
  obtain rfl : v = Value.ref a := rv
  obtain rfl : u = Value.ref b := ru
  rw [← ft.K] at p ea eb
  obtain ⟨mA, O, _⟩ := ins_get I.hok ea
  obtain ⟨od, J, _⟩ := O.look
  obtain ⟨mB, O', _⟩ := ins_get I.hok eb
  obtain ⟨od', J', _⟩ := O'.look
  obtain ⟨m, hF⟩ := I.fr
  rw [hop]
  refine PySem.W.cmp_K (op := op) (tb := .ref (He.ga B.K C)) (ft.rg hot).r.units0 hF I.ok.mod.kin J (by rw [← ft.K]; exact J'.type) (by rw [← ft.K]; simp [PySem.W.notFirst]) (by rw [he]; exact p.at_) p.fn ?_
  exact wpAny_mono (h.run hot ft tk ho (.cons rx (.cons ry .nil)) .nil I (us := [.ref a, .ref b]) (us' := []) (.cons rfl (.cons rfl .nil)) .nil) (fun w s' z => back z) fun _ _ x => x
theorem takes_nox2 {X : Cx} {K : PySem.W.Frag} {W : Wd} {H : Hp} {σ : L2.St} : Takes X (XN K W H σ noX) := fun u s' ⟨a, B, sI, pins, σ, H, cls, d, e, I, nb, up, sky, na, os, ag, e2, C, fs, W, S, x, h, g, q⟩ => q.elim
/-- what an own def gives, called within a built-in -/
theorem sFun.in {ds : List D} {X : Cx} {en : En} {W : Wd} {σ : L2.St} {H : Hp} {pins : List (Addr × Obj)} {s : Shared} {A : Around} {vs : List V} {us : List Value} (h : sFun B k (.ref f) [] ds [] S noX Q) (hr : My.RG k A) (ft : FitsB B k X en) (e0 : Env0 X.prog X.w X.K X.mg X.base A X.stack s H) (ho : Ho B.K W H S) (rd : Reps B.K W ds vs) (I : Inv X pins σ H s) (rv : Vals vs us)
    {P : Value → Shared → Prop} (hP : ∀ v o u s' H' W' S', Inv X pins σ H' s' → RelV v u → Ho B.K W' H' S' → Go W H W' H' → RepO B.K en W' H' o v → Q o S' → P u s') {E2 : Value → Shared → Prop} : wpAny (model X.prog X.w) A (call (.ref f) us) P E2 s := by
  rw [ft.P, ft.w, ft.K, ft.mg, ft.base] at e0
  have KX : B.K.In s.heap := by rw [← ft.K]; exact I.kIn
  have key := h A X.stack s W H en σ vs [] us [] hr e0 KX ho rd .nil rv .nil
  rw [← ft.P, ← ft.w] at key
  refine wpAny_call (codeAny_mono key fun y s' hq => ?_)
  match y, hq with
  | .error er, hq => exact (passAt (X := X.nox) (W := XN B.K W H σ noX) takes_nox2 σ pins H s er s' (I.wish _) hq).elim
  | .ok (.ret u), hq =>
    obtain ⟨v, H', I3, rv, W', o, S', h1, g1, ro, q⟩ := I.after hq
    exact hP v o u s' H' W' S' I3 rv h1 g1 ro q
/-- the answer is a truth value -/
abbrev Tru (Q : Bool → Sto → Prop) : QO := fun o S' => ∃ c, o = .v (.bl c) ∧ Q c S'
theorem t_own {Q : Bool → Sto → Prop} {o : O} (hot : B.hot = false) (i1 : IsI S (.v d) C fs) (p : SpOk B.K (He.ga B.K C) "__bool__" f) (h : sFun B k (.ref f) [] [d] [] S noX (Tru Q)) : semB B k (.v d) S Q := by
  intro X en W σ H ft ho x' rx pins s v I rv
  obtain ⟨a, dx, vs, rfl, ea, _⟩ := isI_at ho i1 rx
  obtain rfl : v = Value.ref a := rv
  rw [← ft.K] at p ea
  obtain ⟨mA, O, _⟩ := ins_get I.hok ea
  obtain ⟨od, J, _⟩ := O.look
  obtain ⟨m, hF⟩ := I.fr
  refine PySem.W.truthy_K hF I.ok.mod.kin J p.at_ p.fn (h.in (ft.rg hot) ft I.env0 ho (.cons rx .nil) I (us := [.ref a]) (.cons rfl .nil) fun v o u s' H' W' S' I' rv h1 g1 ro ⟨c, eo, q⟩ => ?_)
  subst eo
  cases ro
  obtain rfl := rv
  exact ⟨H', I', W', S', h1, g1, q⟩
theorem s_ownNe (hot : B.hot = false) (i1 : IsI S (.v d) C fs) (i2 : IsI S (.v e) C gs) (nn : NeOk B.K (He.ga B.K C)) (p : SpOk B.K (He.ga B.K C) "__eq__" f) (h : sFun B k (.ref f) [] [d, e] [] S noX (Tru fun c S' => Q (.v (.bl (!c))) S')) : sem2 B (k + 1) (compareOp .NotEq) (.v d) (.v e) S Ex Q := by
  intro X en W σ H ft tk ho x' y' rx ry pins s v u I rv ru
  obtain ⟨a, dx, vs, rfl, ea, _⟩ := isI_at ho i1 rx
  obtain ⟨b, dy, us, rfl, eb, _⟩ := isI_at ho i2 ry
  obtain rfl : v = Value.ref a := rv
  obtain rfl : u = Value.ref b := ru
  rw [← ft.K] at p ea eb nn
  obtain ⟨mA, O, _⟩ := ins_get I.hok ea
  obtain ⟨od, J, _⟩ := O.look
  obtain ⟨mB, O', _⟩ := ins_get I.hok eb
  obtain ⟨od', J', _⟩ := O'.look
  obtain ⟨m, hF⟩ := I.fr
  have hr1 := ft.rg hot
  refine Own.ne_own (tb := .ref (He.ga X.K C)) hr1.r.units0 hr1.in1.r.units0 hF I.ok.mod.kin J J'.type (by simp [PySem.W.notFirst]) nn.ne nn.ob p.at_ p.fn ?_
  refine h.in hr1.in1 (ft.mono (Nat.le_succ _)) I.env0.in1 ho (.cons rx (.cons ry .nil)) I (us := [.ref a, .ref b]) (.cons rfl (.cons rfl .nil)) fun v o u s' H' W' S' I' rv h1 g1 ro ⟨c, eo, q⟩ => ?_
  subst eo
  cases ro
  obtain rfl := rv
  exact ⟨c, rfl, .bl (!c), H', I', rfl, W', .v (.bl (!c)), S', h1, g1, .bl _, q⟩
/-! other kinds -/
/-- the built-in type of what is no own object -/
def KdO (S : Sto) : O → String → Prop
  | .v .non, T => T = "NoneType"
  | .v (.bl _), T => T = "bool"
  | .v (.int _), T => T = "int"
  | .v (.str _), T => T = "str"
  | .v (.lst _), T => T = "list"
  | .v (.tup _), T => T = "tuple"
  | .v (.dct _), T => T = "dict"
  | .b _, T => T = "list"
  | .bd _, T => T = "dict"
  | .v (.ptr i), T => (T = "list" ∧ ∃ xs, S[i]? = some (.lst xs)) ∨ (T = "dict" ∧ ∃ xs, S[i]? = some (.dct xs))
  | _, _ => False
theorem kdO_is {K : PySem.W.Frag} {en : En} {W : Wd} {H : Hp} {X : Cx} {pins : List (Addr × Obj)} {σ : L2.St} {s : Shared} {o : O} {T : String} {x : V} {v : Value} (eK : X.K = K) (ho : Ho K W H S) (h : KdO S o T) (r : RepO K en W H o x) (I : Inv X pins σ H s) (rv : RelV x v) : s.TypeIs v T := by
  subst eK
  have lst : ∀ {a : Addr} {vs : List V}, Rd H a (.lst vs) → x = .ref a → s.TypeIs v "list" := fun {a vs} q e => by
    subst e
    obtain ⟨z, its, n, r, hl, g⟩ := lstR I q
    obtain rfl : v = Value.ref a := rv
    exact ⟨_, g, rfl⟩
  have dct : ∀ {a : Addr} {vs : List (Key × V)}, H a = some (.dK vs) → x = .ref a → s.TypeIs v "dict" := fun {a vs} q e => by
    subst e
    obtain ⟨_, _, vs, _, o, es, ep, g, ⟨c, _, _⟩, _⟩ := (show ObjOk _ _ H s.heap a (.dK vs) from I.hok a _ q)
    obtain rfl : v = Value.ref a := rv
    exact ⟨_, g, c⟩
  cases o with
  | v d =>
    cases r with
    | non =>
      obtain rfl : T = "NoneType" := h
      obtain rfl := rv
      rfl
    | bl b =>
      obtain rfl : T = "bool" := h
      obtain rfl := rv
      rfl
    | int i =>
      obtain rfl : T = "int" := h
      obtain ⟨t, rfl⟩ := rv
      rfl
    | str y =>
      obtain rfl : T = "str" := h
      obtain ⟨t, rfl⟩ := rv
      rfl
    | lst q _ =>
      obtain rfl : T = "list" := h
      exact lst (rd_le ho.fh q) rfl
    | tup q _ =>
      obtain rfl : T = "tuple" := h
      obtain ⟨its, rv', ht, hz⟩ := I.tuple (sqT_le ho.fh q)
      cases rv
      exact ht.typeIs
    | dct q _ =>
      obtain rfl : T = "dict" := h
      exact dct (ho.fh _ _ q) rfl
    | ptr hi =>
      rcases h with ⟨rfl, xs, q⟩ | ⟨rfl, xs, q⟩
      · obtain ⟨vs, q2, _⟩ := ho.cel _ _ q
        exact lst (.inl q2) rfl
      · obtain ⟨vs, q2, _⟩ := ho.cel _ _ q
        exact dct q2 rfl
    | _ => exact h.elim
  | b xs =>
    obtain rfl : T = "list" := h
    obtain ⟨a, vs, e, q, _⟩ := r
    exact lst (.inl q) e
  | bd xs =>
    obtain rfl : T = "dict" := h
    obtain ⟨a, vs, e, q, _⟩ := r
    exact dct q e
  | s C fs => exact h.elim
theorem s_ownEqK {T : String} (hot : B.hot = false) (i1 : IsI S (.v d) C fs) (kd : KdO S (.v e) T) (o : PySem.W.subIn B.K (.type T) (.ref (He.ga B.K C)) = some false) (p : SpOk B.K (He.ga B.K C) "__eq__" f) (h : sFun B k (.ref f) [] [d, e] [] S Ex Q) : sem2 B k (compareOp .Eq) (.v d) (.v e) S Ex Q := by
  intro X en W σ H ft tk ho x' y' rx ry pins s v u I rv ru
  obtain ⟨a, dx, vs, rfl, ea, _⟩ := isI_at ho i1 rx
  obtain rfl : v = Value.ref a := rv
  have ti := kdO_is ft.K ho kd ry I ru
  rw [← ft.K] at p ea o
  obtain ⟨mA, O, _⟩ := ins_get I.hok ea
  obtain ⟨od, J, _⟩ := O.look
  obtain ⟨m, hF⟩ := I.fr
  have nf : PySem.W.notFirst X.K (He.ga X.K C) (.type T) = true := by
    unfold PySem.W.notFirst
    rw [o] <;> rfl
  refine PySem.W.cmp_K (op := .Eq) (tb := .type T) (ft.rg hot).r.units0 hF I.ok.mod.kin J (looks_type ti) nf p.at_ p.fn ?_
  exact wpAny_mono (h.run hot ft tk ho (.cons rx (.cons ry .nil)) .nil I (us := [.ref a, u]) (us' := []) (.cons rfl (.cons ru .nil)) .nil) (fun w s' z => back z) fun _ _ x => x
theorem s_ownNeK {T : String} (hot : B.hot = false) (i1 : IsI S (.v d) C fs) (kd : KdO S (.v e) T) (o : PySem.W.subIn B.K (.type T) (.ref (He.ga B.K C)) = some false) (nn : NeOk B.K (He.ga B.K C)) (p : SpOk B.K (He.ga B.K C) "__eq__" f) (h : sFun B k (.ref f) [] [d, e] [] S noX (Tru fun c S' => Q (.v (.bl (!c))) S')) : sem2 B (k + 1) (compareOp .NotEq) (.v d) (.v e) S Ex Q := by
  intro X en W σ H ft tk ho x' y' rx ry pins s v u I rv ru
  obtain ⟨a, dx, vs, rfl, ea, _⟩ := isI_at ho i1 rx
  obtain rfl : v = Value.ref a := rv
  have ti := kdO_is ft.K ho kd ry I ru
  rw [← ft.K] at p ea o nn
  obtain ⟨mA, O, _⟩ := ins_get I.hok ea
  obtain ⟨od, J, _⟩ := O.look
  obtain ⟨m, hF⟩ := I.fr
  have nf : PySem.W.notFirst X.K (He.ga X.K C) (.type T) = true := by
    unfold PySem.W.notFirst
    rw [o] <;> rfl
  have hr1 := ft.rg hot
  refine Own.ne_own (tb := .type T) hr1.r.units0 hr1.in1.r.units0 hF I.ok.mod.kin J (looks_type ti) nf nn.ne nn.ob p.at_ p.fn ?_
  refine h.in hr1.in1 (ft.mono (Nat.le_succ _)) I.env0.in1 ho (.cons rx (.cons ry .nil)) I (us := [.ref a, u]) (.cons rfl (.cons ru .nil)) fun v o u s' H' W' S' I' rv h1 g1 ro ⟨c, eo, q⟩ => ?_
  subst eo
  cases ro
  obtain rfl := rv
  exact ⟨c, rfl, .bl (!c), H', I', rfl, W', .v (.bl (!c)), S', h1, g1, .bl _, q⟩
/-! ### str, repr, bool of own objects -/
theorem c_strOwn (hot : B.hot = false) (i1 : IsI S (.v d) C fs) (p : SpOk B.K (He.ga B.K C) "__str__" f) (h : sFun B k (.ref f) [] [d] [] S noX fun o S' => ∃ y, o = .v (.str y) ∧ Q (.v (.str y)) S') : sCall B (k + 2) (.type "str") [] [.v d] [] S Ex Q := by
  intro X en W σ H ft tk ho xs' zs' rx rz pins s us ws I rv rw'
  cases rx with
  | cons r t =>
    cases t
    obtain ⟨a, dx, vs, rfl, ea, _⟩ := isI_at ho i1 r
    obtain ⟨u, rfl, r1⟩ := vals1 rv
    obtain rfl : u = Value.ref a := r1
    rw [← ft.K] at p ea
    obtain ⟨mA, O, _⟩ := ins_get I.hok ea
    obtain ⟨od, J, _⟩ := O.look
    have hr2 := ft.rg hot
    refine PySem.W.kso_call hr2.in1.in1.r.units0 I.kIn J p.at_ p.fn (h.in hr2.in1.in1 (ft.mono (by omega)) I.env0.in1.in1 ho (.cons r .nil) I (us := [.ref a]) (.cons rfl .nil) fun v o u s' H' W' S' I' rv h1 g1 ro ⟨y, eo, q⟩ => ?_)
    subst eo
    cases ro
    obtain ⟨t, rfl⟩ := rv
    exact ⟨.str y, H', I', ⟨t, rfl⟩, W', .v (.str y), S', h1, g1, .str _, q⟩
theorem c_reprOwn (hot : B.hot = false) (i1 : IsI S (.v d) C fs) (p : SpOk B.K (He.ga B.K C) "__repr__" f) (h : sFun B k (.ref f) [] [d] [] S noX fun o S' => ∃ y, o = .v (.str y) ∧ Q (.v (.str y)) S') : sCall B (k + 1) (.builtin "repr") [] [.v d] [] S Ex Q := by
  intro X en W σ H ft tk ho xs' zs' rx rz pins s us ws I rv rw'
  cases rx with
  | cons r t =>
    cases t
    obtain ⟨a, dx, vs, rfl, ea, _⟩ := isI_at ho i1 r
    obtain ⟨u, rfl, r1⟩ := vals1 rv
    obtain rfl : u = Value.ref a := r1
    rw [← ft.K] at p ea
    obtain ⟨mA, O, _⟩ := ins_get I.hok ea
    obtain ⟨od, J, _⟩ := O.look
    obtain ⟨m, hF⟩ := I.fr
    have hr2 := ft.rg hot
    refine PySem.W.repr_K hr2.in1.r.units0 hF I.ok.mod.kin J p.at_ p.fn (h.in hr2.in1 (ft.mono (by omega)) I.env0.in1 ho (.cons r .nil) I (us := [.ref a]) (.cons rfl .nil) fun v o u s' H' W' S' I' rv h1 g1 ro ⟨y, eo, q⟩ => ?_)
    subst eo
    cases ro
    obtain ⟨t, rfl⟩ := rv
    exact ⟨.str y, H', I', ⟨t, rfl⟩, W', .v (.str y), S', h1, g1, .str _, q⟩
end
end Dt

set_option Elab.async false
set_option linter.all false
set_option maxRecDepth 100000
set_option maxHeartbeats 4000000
/-! DatN: dicts: displays, comprehensions, keys asked, read, stored, dropped; zip; staticmethods -/
namespace Dt
open PySem PySem.Spec PyProof.Rows L2 My
section
variable {G : Cf} {X : Cx} {en : En} {W W1 : Wd} {σ : L2.St} {H H1 : Hp} {ρ : List Sl} {S S1 : Sto} {E : XD} {pins : List (Addr × Obj)} {s s1 : Shared} {e a b c o tg : Expr} {es : List Expr} {t ta tb tc te to ti : RE} {tA tK : RA} {pos p apos : Pos} {x m : Str}
/-- the turns of a dict comprehension that are left -/
def Dc (g : RG) (tt : RT) (tk tv : RE) (ρ : List Sl) : List D → List (Key × D) → Sto → (List (Key × D) → Sto → Prop) → Prop
  | [], acc, S, Q => Q acc S
  | x :: xs, acc, S, Q => g x ρ S noE fun ρ' S' => tt ρ' S' noE fun c S2 => if c = true then tk ρ' S2 noE fun o S3 => ∃ k, o = .v (kD k) ∧ tv ρ' S3 noE fun p S4 => ∃ d, p = .v d ∧ acc.length < sizeLine ∧ Dc g tt tk tv ρ xs (putKD acc k d) S4 Q else Dc g tt tk tv ρ xs acc S2 Q
abbrev RFd := List Sl → Sto → XD → (List (Key × D) → Sto → Prop) → Prop
abbrev fDc (ti : RI) (g : RG) (tt : RT) (tk tv : RE) (ws : List Nat) : RFd := fun ρ S E Q => ti ρ S E fun xs S1 => Dc g tt tk tv (wipeS ρ ws) xs [] S1 Q
theorem dc_read {iter kx vx : Expr} {ifs : List Expr} {scope : Scope} {own : List (Str × Nat)} {ws : List Nat} {ti : RI} {g : RG} {tt : RT} {tk tv : RE} {E : XD} {Q : List (Key × D) → Sto → Prop} (hc : G.B.hot = false) (hw : ∀ j, j ∈ ws → j ∈ own.map (·.2)) (hi : DI G tg iter ti) (hg : DG (G.blk scope) tg ws g) (ht : DTs (G.blk scope) ifs tt) (hk : DE (G.blk scope) kx tk) (he : DE (G.blk scope) vx tv) (z : At G X en W σ H ρ S E pins s)
    (q : fDc ti g tt tk tv (own.map (·.2)) ρ S E Q) : tDc (tIr X tg iter) (tGb X scope tg) (tTb X scope ifs) (tEb X scope kx) (tEb X scope vx) (own.map (·.2)) σ H
      (fun v H1 => ∃ a W1 vs xs S1, v = .ref a ∧ H1 a = some (.dK vs) ∧ RepK G.B.K W1 xs vs ∧ Ho G.B.K W1 H1 S1 ∧ Go W H W1 H1 ∧ H a = none ∧ W1.F a = none ∧ (∀ i, i < W1.n → W1.m i ≠ a) ∧ Q xs S1) := by
  intro pins' s' I
  refine thn (hi.run (z.re I) q) fun v s1 h1 => thn h1 fun itv s2 h2 => ?_
  refine pi_imp (fun J H1 ⟨W1, xs, S1, h1, g1, wk, q1⟩ L hL => ?_) h2
  have r1 := (z.rs.after h1 g1).wipe (own.map (·.2))
  have hL0 : H L = none := by
    cases y : H L with
    | none => rfl
    | some u =>
      by_cases c : ∃ i, i < W.n ∧ W.m i = L
      · obtain ⟨i, hi, c⟩ := c
        rw [← g1.le.m i hi] at c
        obtain ⟨u2, e2⟩ := h1.there i (Nat.lt_of_lt_of_le hi g1.le.n)
        rw [c, hL] at e2
        cases e2
      · have := g1.kp L u y fun i hi k => c ⟨i, hi, k⟩
        rw [hL] at this
        cases this
  have nm : ∀ i, i < W1.n → W1.m i ≠ L := fun i hi c => by
    obtain ⟨u2, e2⟩ := h1.there i hi
    rw [c, hL] at e2
    cases e2
  have nE : en.H L = none := by
    have g0 := z.rs.go.trans g1 h1
    cases y : en.H L with
    | none => rfl
    | some u =>
      by_cases c : ∃ i, i < en.W.n ∧ en.W.m i = L
      · obtain ⟨i, hi, c⟩ := c
        rw [← g0.le.m i hi] at c
        exact (nm i (Nat.lt_of_lt_of_le hi g0.le.n) c).elim
      · have := g0.kp L u y fun i hi k => c ⟨i, hi, k⟩
        rw [hL] at this
        cases this
  have w0 : Own en W1 (upd H1 L (.dK [])) L := ⟨h1.nF hL, nE, nm⟩
  have w1 : Own en W1 H1 L := ⟨h1.nF hL, nE, nm⟩
  refine ⟨fun i m H' => m = xs.length - i ∧ i ≤ xs.length ∧ ∃ W' S' acc vs, H' L = some (.dK vs) ∧ RepK G.B.K W' acc vs ∧ Ho G.B.K W' H' S' ∧ Go W1 H1 W' H' ∧ Own en W' H' L ∧ Dc g tt tk tv (wipeS ρ (own.map (·.2))) (xs.drop i) acc S' Q,
    ⟨xs.length, by simp, Nat.zero_le _, W1, S1, [], [], upd_same, .nil, h1.own_put w1, Go.own_put .refl hL, w0, by simpa using q1⟩, ?_⟩
  rintro i m H2 ⟨rfl, hi, W2, S2, acc, vs, eL, ra, h2, g2, w2, q2⟩
  by_cases hlt : i < xs.length
  · refine .inr ⟨wk.go i W2 H2 S2 g2.le h2 hlt, fun H' => ∃ W' S' acc vs, H' L = some (.dK vs) ∧ RepK G.B.K W' acc vs ∧ Ho G.B.K W' H' S' ∧ Go W1 H1 W' H' ∧ Own en W' H' L ∧ Dc g tt tk tv (wipeS ρ (own.map (·.2))) (xs.drop (i + 1)) acc S' Q, fun H' k => ⟨_, by omega, rfl, hlt, k⟩, fun x H3 y => ?_⟩
    obtain ⟨d, W3, ed, h3, g3, rd⟩ := wk.yl i W2 H2 S2 x H3 g2.le h2 hlt y
    rw [List.drop_eq_getElem_cons hlt] at q2
    have e2 : xs[i] = d := by
      rw [List.getElem?_eq_getElem hlt] at ed
      exact Option.some.inj ed
    rw [e2] at q2
    intro s0 H0 C cl fp pins3 s3 u I3 ru
    have ef : Fits (G.blk scope) (X.blk s0 H0 scope (compEnvC scope cl C X.env) fp) en := z.hf.blk hc
    have z3 : At (G.blk scope) (X.blk s0 H0 scope (compEnvC scope cl C X.env) fp) en W3 (L2.wipe σ (own.map (·.2))) H3 (wipeS ρ (own.map (·.2))) S2 noE pins3 s3 := ⟨ef, takes_no, (r1.after h2 g2).after h3 g3, I3⟩
    refine thn (hg.run z3 rd ru q2) fun _ s4 ⟨σ4, H4, W4, ρ4, S4, z4, ⟨l4, q4⟩, ⟨k4, n4⟩, g4⟩ => ⟨σ4, H4, z4.I, ?_, ?_⟩
    · have e1 := wipe_eq (own.map (·.2)) n4 fun j hj => k4 j fun c => hj (hw j c)
      rw [e1]
      exact wipe_eq _ (wipe_length _ _) fun j hj => wipe_out hj
    · intro s01 H01 C1 cl1 fp1 pins5 s5 I5
      have ef1 : Fits (G.blk scope) (X.blk s01 H01 scope (compEnvC scope cl1 C1 X.env) fp1) en := z.hf.blk hc
      have z5 : At (G.blk scope) (X.blk s01 H01 scope (compEnvC scope cl1 C1 X.env) fp1) en W4 σ4 H4 ρ4 S4 noE pins5 s5 := ⟨ef1, takes_no, z4.rs, I5⟩
      refine thn (ht.run z5 q4) fun b s6 ⟨H6, I6, W6, S6, h6, g6, q6⟩ => ⟨H6, I6, ?_⟩
      have g26 : Go W2 H2 W6 H6 := ((g3.trans g4 z4.rs.ho).trans g6 h6)
      cases b with
      | false =>
        simp only [Bool.false_eq_true, if_false] at q6 ⊢
        exact ⟨W6, S6, acc, vs, g26.kp L _ eL w2.m, ra.le g26.le, h6, g2.trans g26 h6, w2.go g26 eL, q6⟩
      | true =>
        simp only [if_true] at q6 ⊢
        intro s02 H02 C2 cl2 fp2 pins7 s7 I7
        have ef2 : Fits (G.blk scope) (X.blk s02 H02 scope (compEnvC scope cl2 C2 X.env) fp2) en := z.hf.blk hc
        have z7 : At (G.blk scope) (X.blk s02 H02 scope (compEnvC scope cl2 C2 X.env) fp2) en W6 σ4 H6 ρ4 S6 noE pins7 s7 := ⟨ef2, takes_no, z5.rs.after h6 g6, I7⟩
        refine thn (hk.run z7 q6) fun v8 s8 ⟨x8, H8, I8, r8, W8, o8, S8, h8, g8, ro8, k8, eo, q8⟩ => ?_
        subst eo
        obtain rfl := rep_key ro8
        refine ⟨kV k8, H8, I8, r8, ?_⟩
        intro s03 H03 C3 cl3 fp3 pins9 s9 I9
        have ef3 : Fits (G.blk scope) (X.blk s03 H03 scope (compEnvC scope cl3 C3 X.env) fp3) en := z.hf.blk hc
        have z9 : At (G.blk scope) (X.blk s03 H03 scope (compEnvC scope cl3 C3 X.env) fp3) en W8 σ4 H8 ρ4 S8 noE pins9 s9 := ⟨ef3, takes_no, z7.rs.after h8 g8, I9⟩
        refine thn (he.run z9 q8) fun v10 s10 ⟨x10, H10, I10, r10, W10, o10, S10, h10, g10, ro10, d10, eo, hz, q10⟩ => ?_
        subst eo
        have g210 := (g26.trans g8 h8).trans g10 h10
        have eL10 := g210.kp L _ eL w2.m
        have w10 := w2.go g210 eL
        refine ⟨x10, H10, I10, r10, vs, k8, rfl, eL10, by rw [ra.len]; exact hz, W10, S10, putKD acc k8 d10, putK vs k8 x10, upd_same, (ra.le g210.le).put k8 ro10, h10.own_put w10, Go.own_put (g2.trans g210 h10) hL, ⟨w10.f, w10.e, w10.m⟩, q10⟩
  · have e : i = xs.length := by omega
    subst e
    rw [List.drop_length] at q2
    exact .inl ⟨wk.st _ W2 H2 S2 g2.le h2 (Nat.le_refl _), L, W2, vs, acc, S2, rfl, eL, ra, h2, g1.trans g2 h2, hL0, w2.f, w2.m, q2⟩
/-- a new dict: a value, or one of the store -/
abbrev NewD (S : Sto) (Q : QO) (ds : List (Key × D)) : Prop := Q (.v (.dct ds)) S ∨ Q (.v (.ptr S.length)) (S ++ [.dct ds])
abbrev dDc (tf : RFd) : RE := fun ρ S E Q => tf ρ S E fun kvs S1 => NewD S1 Q kvs
theorem de_dc {iter kx vx : Expr} {ifs : List Expr} {scope : Scope} {own : List (Str × Nat)} {ws : List Nat} {ti : RI} {g : RG} {tt : RT} {tk tv : RE} (hc : G.B.hot = false) (hw : ∀ j, j ∈ ws → j ∈ own.map (·.2)) (hi : DI G tg iter ti) (ok : BlkOk G.N G.sc scope own) (hg : DG (G.blk scope) tg ws g) (ht : DTs (G.blk scope) ifs tt) (hk : DE (G.blk scope) kx tk) (he : DE (G.blk scope) vx tv)
    (hs : ∀ (env : Env) x, foldedSetIterable iter env x = pure x := by intro _ _; rfl) : DE G (.DictComp kx vx [⟨tg, iter, ifs, 0⟩] scope pos) (dDc (fDc ti g tt tk tv (own.map (·.2)))) := by
  refine ⟨fun {X en W σ H ρ S E pins s Q} z q => ?_⟩
  have PP := pe_dc (X := X) (kx := kx) (vx := vx) (tg := tg) (iter := iter) (ifs := ifs) (scope := scope) (own := own) (pos := pos) (wi := tIr X tg iter) (g := tGb X scope tg) (tt := tTb X scope ifs) (tk := tEb X scope kx) (tv := tEb X scope vx) (z.hf.b.calm hc).1 z.hf.nd (ican X tg iter) (by rw [z.hf.N, z.hf.sc]; exact ok)
    (fun s H C cl fp => ⟨fun pins s' σ H v u Q I r h => h _ _ _ _ _ pins s' u I r⟩) (fun s H C cl fp => ⟨fun pins s' σ H Q I h => h _ _ _ _ _ pins s' I⟩) (fun s H C cl fp => ⟨fun pins s' σ H Q I h => h _ _ _ _ _ pins s' I⟩) (fun s H C cl fp => ⟨fun pins s' σ H Q I h => h _ _ _ _ _ pins s' I⟩) (hs _)
  refine thn (PP.run pins s σ H _ z.I (dc_read hc hw hi hg ht hk he z q)) fun v s1 ⟨x, H1, I1, r1, a, W1, vs, xs, S1, e, ha, rr, h1, g1, n, nf, nm, q1⟩ => ?_
  subst e
  rcases q1 with q1 | q1
  · exact ⟨.ref a, H1, I1, r1, W1.frz a (.dK vs), .v (.dct xs), S1, h1.frz2 ha nf nm, Go.frz2 (K := G.B.K) g1 n nf, .dct upd_same (rr.le (W1.frz_le nf)), q1⟩
  · refine ⟨.ref a, H1, I1, r1, W1.cell a, .v (.ptr S1.length), _, h1.cell2 (c := .dct xs) ha nf nm ⟨vs, ha, rr.le Wd.cell_le⟩, g1.cell2 n, ?_, q1⟩
    have z : Rep G.B.K (W1.cell a) (.ptr W1.n) (.ref ((W1.cell a).m W1.n)) := .ptr (Nat.lt_succ_self _)
    rw [Wd.cell_new, h1.n] at z
    exact z
abbrev dDnew : RE := fun ρ S _ Q => NewD S Q []
theorem de_dnew : DE G (.Dict [] [] pos) dDnew := by
  refine ⟨fun {X en W σ H ρ S E pins s Q} z q => ?_⟩
  refine (pe_dnewK (X := X)).run pins s σ H _ z.I fun p hp => ?_
  rcases q with q | q
  · exact ⟨_, .v (.dct []), S, z.rs.ho.frz hp, Go.frz z.rs.ho hp, .dct upd_same .nil, q⟩
  · have h2 : Ho G.B.K (W.cell p) (upd H p (.dK [])) (S ++ [.dct []]) := z.rs.ho.cell hp ⟨[], upd_same, .nil⟩
    have y : Rep G.B.K (W.cell p) (.ptr W.n) (.ref ((W.cell p).m W.n)) := .ptr (Nat.lt_succ_self _)
    rw [Wd.cell_new, z.rs.ho.n] at y
    exact ⟨_, .v (.ptr S.length), _, h2, Go.cell z.rs.ho hp, y, q⟩
/-! ### zip -/
def zipD : List D → List D → List D
  | x :: xs, y :: ys => .tup [x, y] :: zipD xs ys
  | _, _ => []
theorem zipD_len : ∀ xs ys : List D, (zipD xs ys).length = min xs.length ys.length
  | [], _ => by simp [zipD]
  | _ :: _, [] => by simp [zipD]
  | _ :: xs, _ :: ys => by
    rw [zipD, List.length_cons, zipD_len xs ys]
    simp only [List.length_cons]
    omega
theorem zipD_get : ∀ {xs ys : List D} {i : Nat} {x y : D}, xs[i]? = some x → ys[i]? = some y → (zipD xs ys)[i]? = some (.tup [x, y])
  | [], _, _, _, _, h, _ => by simp at h
  | _ :: _, [], _, _, _, _, h => by simp at h
  | _ :: xs, _ :: ys, 0, x, y, h1, h2 => by
    simp only [List.getElem?_cons_zero, Option.some.injEq] at h1 h2
    subst h1 h2
    rfl
  | _ :: xs, _ :: ys, i + 1, x, y, h1, h2 => by
    rw [zipD, List.getElem?_cons_succ]
    exact zipD_get (by simpa using h1) (by simpa using h2)
theorem Wk.zip {K : PySem.W.Frag} {a b : Addr} {xs ys : List D} {vs us : List V} (h : Rd W.F a (.lst vs)) (h2 : Rd W.F b (.lst us)) (r : Reps K W xs vs) (r2 : Reps K W ys us) : Wk K W (Itz K a b) (zipD xs ys) where
  go := fun i W' H' S' l ho hi => by
    rw [zipD_len] at hi
    have hv : i < vs.length := by rw [r.len]; omega
    have hu : i < us.length := by rw [r2.len]; omega
    exact ⟨vs, us, vs[i], us[i], .inl (rd_le ho.fh (rd_le l.f h)), .inl (rd_le ho.fh (rd_le l.f h2)), List.getElem?_eq_getElem hv, List.getElem?_eq_getElem hu⟩
  yl := fun i W' H' S' x H2 l ho hi ⟨T, x1, y1, e, hT, eH, k1, k2⟩ => by
    subst e eH
    obtain ⟨d, e1, rd⟩ := r.get (k1 vs (.inl (rd_le ho.fh (rd_le l.f h))))
    obtain ⟨d2, e2, rd2⟩ := r2.get (k2 us (.inl (rd_le ho.fh (rd_le l.f h2))))
    exact ⟨_, W'.frz T (.tup [x1, y1]), zipD_get e1 e2, ho.frz hT, Go.frz ho hT, .tup (SqT.of upd_same) (.cons ((rd.le l).le (W'.frz_le (ho.nF hT))) (.cons ((rd2.le l).le (W'.frz_le (ho.nF hT))) .nil))⟩
  st := fun i W' H' S' l ho hi => by
    rw [zipD_len] at hi
    exact ⟨vs, us, .inl (rd_le ho.fh (rd_le l.f h)), .inl (rd_le ho.fh (rd_le l.f h2)), by rw [r.len, r2.len]; omega⟩
abbrev iZipD (tA : RA) : RI := fun ρ S E Q => tA ρ S E fun os S1 => ∃ xs ys, os = [.v (.lst xs), .v (.lst ys)] ∧ Q (zipD xs ys) S1
theorem di_zip {elts : List Expr} {kk : Nat} {tpos : Pos} (hg : Glb G "zip") (hm : G.B.mg "zip" = none) (ha : DA G [a, b] tA) (hs : ∀ env : Env, starEach [a, b] env = (false, eval a env) :: starEach [b] env := by intro _; rfl) (hpl : ∀ env : Env, (backTo pos (starEach [b] env)).any (·.1) = false := by intro _; rfl) : DI G (.Tuple elts kk tpos) (.Call (.Name "zip" p) [a, b] [] pos) (iZipD tA) := by
  refine ⟨fun {X en W σ H ρ S E pins s Q} z q => ?_⟩
  refine (pi_zip (X := X) (gl_of z.hf.sc hg) (by rw [z.hf.b.mg]; exact hm) (acan X [a, b]) (hs _) (hpl _)).run pins s σ H _ z.I fun pos' pins' s' I => ?_
  refine ha.at pos' (z.re I) q fun us s2 vs H1 W1 os S1 z1 g1 r1 ro ⟨xs, ys, eo, q1⟩ => ?_
  subst eo
  cases ro with
  | cons r ro =>
    cases ro with
    | cons r' ro =>
      cases ro
      obtain ⟨p1, v1, rfl, h1, rr1⟩ := Rep.lstI r
      obtain ⟨p2, v2, rfl, h2, rr2⟩ := Rep.lstI r'
      rw [z.hf.b.K]
      exact ⟨_, H1, z1.I, r1, p1, p2, v1, v2, rfl, .inl (rd_le z1.rs.ho.fh h1), .inl (rd_le z1.rs.ho.fh h2), W1, _, S1, z1.rs.ho, g1, .zip h1 h2 rr1 rr2, q1⟩
/-! ### C.m(..), m a staticmethod -/
structure SMet (K : PySem.W.Frag) (C : Addr) (m : Str) (g : Addr) : Prop where
  rd : ClX.CRead K C (.type "type")
  at_ : ∃ p, PySem.W.findCls K (.ref C) (.type "type") m = some (.get (.builtin "staticmethod.__get__") (.ref p) .none (.ref C)) ∧ ∃ rest, PySem.W.recIn K p "staticmethod" = some (.ref g :: rest)
  kp : PySem.W.keepIn K (.ref g) = true
theorem SMet.get {C g : Addr} {pl : Sem Bool} {A : Around} {Q : Value × List Value → Shared → Prop} {E2 : Value → Shared → Prop} (k : SMet X.K C m g) (I : Inv X pins σ H s) (q : ∀ s', Inv X pins σ H s' → Q (.ref g, []) s') : wpAny (model X.prog X.w) A (getMethod (.ref C) m pl) Q E2 s := by
  obtain ⟨pp, h1, rest, h2⟩ := k.at_
  refine PySem.W.method_cls I.kIn k.rd.ga (PySem.W.cls_bind I.kIn k.rd.rd h1 ?_)
  refine wpAny_call (PySem.W.sm_get (s := { s with toks := s.toks + 1 }) I.kIn h2 (PySem.W.handed_on rfl ?_))
  exact q _ (I.tok _)
abbrev dSm (B : Bs) (k : Nat) (m : Str) (to : RE) (tA : RA) : RE := fun ρ S E Q => to ρ S E fun x S1 => ∃ C g, x = .v (.cls C) ∧ SMet B.K (He.ga B.K C) m g ∧ tA ρ S1 E fun os S2 => ∃ ds, Sol os ds ∧ sFun B k (.ref g) [] ds [] S2 (E ρ) Q
theorem de_sm (hc : G.B.hot = false) (ho : DE G o to) (ha : DA G (e :: es) tA) (hst : ∀ env : Env, starEach (e :: es) env = (false, eval e env) :: starEach es env := by intro _; rfl) (hpl : ∀ env : Env, (backTo pos (starEach es env)).any (·.1) = false := by intro _; rfl)
    (ht : MethTx o m apos pos (e :: es) [] := by intro _; exact ⟨_, rfl⟩) : DE G (.Call (.Attribute o m apos) (e :: es) [] pos) (dSm G.B G.k m to tA) := by
  refine ⟨fun {X en W σ H ρ S E pins s Q} z q => ?_⟩
  obtain ⟨pl, ht⟩ := ht X.env
  refine PySem.W.methodCall_KW (pl := pl) (ho.at z q fun v s1 x' H1 W1 o1 S1 z1 g1 r1 ro ⟨C, gg, eo, sm, q1⟩ => ?_) ht
  subst eo
  cases ro
  obtain rfl : v = Value.ref (He.ga G.B.K C) := r1
  have sm' : SMet X.K (He.ga G.B.K C) m gg := by rw [z.hf.b.K]; exact sm
  refine sm'.get z1.I fun s2 I2 => ?_
  refine PySem.W.callWith_K (first := []) (h₀ := X.base) z1.kin sm.kp (ha.at pos (z1.re I2) q1 fun us s3 vs H2 W2 os S2 z2 g2 r2 ro2 ⟨ds, so, q2⟩ => ⟨z2.kIn, ?_⟩) (hst _) (hpl _)
  subst so
  exact thn (z2.fn hc (us := us) (us' := []) q2 ro2 .nil r2 .nil) fun _ _ => ep_back (g1.trans g2 z2.rs.ho)
end
/-! ### dicts asked -/
section
variable {B : Bs} {k : Nat} {S : Sto} {Ex : XS} {Q : QO} {i : Key}
def DcO (S : Sto) : O → List (Key × D) → Prop
  | .v (.dct xs), ys => ys = xs
  | .v (.ptr n), ys => S[n]? = some (.dct ys)
  | .bd xs, ys => ys = xs
  | _, _ => False
theorem dcO_at {K : PySem.W.Frag} {en : En} {W : Wd} {H : Hp} {o : O} {xs : List (Key × D)} {v : V} (ho : Ho K W H S) (h : DcO S o xs) (r : RepO K en W H o v) : ∃ a vs, v = .ref a ∧ H a = some (.dK vs) ∧ RepK K W xs vs := by
  cases o with
  | v d =>
    cases d with
    | dct ys =>
      obtain rfl : xs = ys := h
      cases r with
      | dct h r => exact ⟨_, _, rfl, ho.fh _ _ h, r⟩
    | ptr n =>
      cases r
      obtain ⟨vs, e, r⟩ := ho.cel _ _ h
      exact ⟨_, vs, rfl, e, r⟩
    | _ => exact h.elim
  | bd ys =>
    obtain rfl : xs = ys := h
    obtain ⟨a, vs, e, q, r, _⟩ := r
    exact ⟨a, vs, e, q, r⟩
  | _ => exact h.elim
theorem s_inK {o : O} {xs : List (Key × D)} (h : DcO S o xs) (q : Q (.v (.bl (valD xs i).isSome)) S) : sem2 B k (compareOp .In) (.v (kD i)) o S Ex Q := by
  intro X en W σ H ft tk ho x' y' rx ry pins s v u I rv ru
  obtain ⟨a, vs, rfl, e, r⟩ := dcO_at ho h ry
  obtain rfl := rep_key rx
  obtain rfl : u = Value.ref a := ru
  refine d_in (by have := ft.units; omega) I (DGet.k e) rv fun s3 I3 => ⟨.bl (valV vs i).isSome, H, I3, rfl, W, .v (.bl (valV vs i).isSome), S, ho, .refl, .bl _, ?_⟩
  rcases r.val i with ⟨e1, e2⟩ | ⟨d, w, e1, e2, _⟩
  · rw [e2]
    rw [e1] at q
    exact q
  · rw [e2]
    rw [e1] at q
    exact q
theorem s_notInK {o : O} {xs : List (Key × D)} (h : DcO S o xs) (q : Q (.v (.bl (!(valD xs i).isSome))) S) : sem2 B k (compareOp .NotIn) (.v (kD i)) o S Ex Q := by
  intro X en W σ H ft tk ho x' y' rx ry pins s v u I rv ru
  obtain ⟨a, vs, rfl, e, r⟩ := dcO_at ho h ry
  obtain rfl := rep_key rx
  obtain rfl : u = Value.ref a := ru
  refine d_notIn (by have := ft.units; omega) I (DGet.k e) rv fun s3 I3 => ⟨.bl (!(valV vs i).isSome), H, I3, rfl, W, .v (.bl (!(valV vs i).isSome)), S, ho, .refl, .bl _, ?_⟩
  rcases r.val i with ⟨e1, e2⟩ | ⟨d, w, e1, e2, _⟩
  · rw [e2]
    rw [e1] at q
    exact q
  · rw [e2]
    rw [e1] at q
    exact q
end
end Dt

set_option Elab.async false
set_option linter.all false
set_option maxRecDepth 100000
set_option maxHeartbeats 4000000
/-! DatO: steps -/
namespace Dt
open PySem PySem.Spec PyProof.Rows L2 My
section
variable {G : Cf} {K : PySem.W.Frag} {B : Bs} {k i j l : Nat} {ρ ρ' ρ1 ρ2 : List Sl} {S : Sto} {E ex : XD} {nx bk ct : List Sl → Sto → Prop} {rt : D → List Sl → Sto → Prop} {t u : RS} {te ta tb ti : RE} {tA : RA} {g : RG} {c : RT} {Q : QO} {d x y z : D} {C f : Str} {fs : List (Str × D)} {xs : List D}
/-! ### statements -/
theorem q_seq (h : t ⟨u ⟨nx, rt, bk, ct, ex⟩, rt, bk, ct, ex⟩ ρ S) : dSeq t u ⟨nx, rt, bk, ct, ex⟩ ρ S := ⟨ρ, .refl, h⟩
theorem q_end (h : t ⟨nx, rt, bk, ct, ex⟩ ρ S) : dEnd t ⟨nx, rt, bk, ct, ex⟩ ρ S := ⟨ρ, .refl, h⟩
theorem q_nil (h : nx ρ S) : dNil ⟨nx, rt, bk, ct, ex⟩ ρ S := h
theorem q_brk (h : bk ρ S) : dBrk ⟨nx, rt, bk, ct, ex⟩ ρ S := h
theorem q_cnt (h : ct ρ S) : dCnt ⟨nx, rt, bk, ct, ex⟩ ρ S := h
theorem q_expr (h : te ρ S ex fun _ S1 => nx ρ S1) : dExpr te ⟨nx, rt, bk, ct, ex⟩ ρ S := h
theorem q_ret (h : te ρ S ex fun o S1 => ∃ d, o = .v d ∧ rt d ρ S1) : dRet te ⟨nx, rt, bk, ct, ex⟩ ρ S := h
theorem q_retN (h : rt .non ρ S) : dRetN ⟨nx, rt, bk, ct, ex⟩ ρ S := h
theorem q_if (h : c ρ S ex fun b S1 => if b = true then t ⟨nx, rt, bk, ct, ex⟩ ρ S1 else u ⟨nx, rt, bk, ct, ex⟩ ρ S1) : dIfS c t u ⟨nx, rt, bk, ct, ex⟩ ρ S := h
theorem q_asg (h : te ρ S ex fun o S1 => ∃ d, o = .v d ∧ g d ρ S1 ex nx) : dAsg te g ⟨nx, rt, bk, ct, ex⟩ ρ S := h
theorem q_asgF {tf : RF} (h : tf ρ S ex fun xs S1 => nx (ρ.set i (.ol xs)) S1) : dAsgF i tf ⟨nx, rt, bk, ct, ex⟩ ρ S := h
theorem q_asgC {tf : RF} (h : tf ρ S ex fun xs S1 => nx (ρ.set i (.ol xs)) S1) : dAsgC i tf ⟨nx, rt, bk, ct, ex⟩ ρ S := h
theorem q_app (e : ρ[i]? = some (.ol xs)) (hz : xs.length < sizeLine) (h : te ρ S ex fun o S1 => ∃ d, o = .v d ∧ nx (ρ.set i (.ol (xs ++ [d]))) S1) : dApp i te ⟨nx, rt, bk, ct, ex⟩ ρ S := ⟨xs, e, hz, h⟩
theorem q_setI (e : ρ[i]? = some (.ol xs)) (h : te ρ S ex fun o S1 => ∃ d, o = .v d ∧ ti ρ S1 ex fun j S2 => ∃ n k, j = .v (.int n) ∧ ixN xs.length n = some k ∧ nx (ρ.set i (.ol (xs.set k d))) S2) : dSetI i ti te ⟨nx, rt, bk, ct, ex⟩ ρ S := ⟨xs, e, h⟩
theorem q_sub (h : te ρ S ex fun v S1 => ∃ d, v = .v d ∧ ta ρ S1 ex fun x S2 => tb ρ S2 ex fun y S3 => sSet B k x y d S3 fun S4 => nx ρ S4) : dSub B k ta tb te ⟨nx, rt, bk, ct, ex⟩ ρ S := h
theorem q_par (h : tA ρ S ex fun os S1 => ∃ x y, os = [.v x, .v y] ∧ nx ((ρ.set i (.sh x)).set j (.sh y)) S1) : dPar i j tA ⟨nx, rt, bk, ct, ex⟩ ρ S := h
theorem q_par3 (h : tA ρ S ex fun os S1 => ∃ x y z, os = [.v x, .v y, .v z] ∧ nx (((ρ.set i (.sh x)).set j (.sh y)).set l (.sh z)) S1) : dPar3 i j l tA ⟨nx, rt, bk, ct, ex⟩ ρ S := h
theorem q_fldS (h : te ρ S ex fun y S1 => ∃ d C fs, y = .v d ∧ ρ[i]? = some (.slf C fs) ∧ Cls K (He.ga K C) ∧ NoAttr K (He.ga K C) f ∧ fs.length < 1000 ∧ nx (ρ.set i (.slf C (putD f d fs))) S1) : dFldS i f K te ⟨nx, rt, bk, ct, ex⟩ ρ S := h
theorem f_fldS (e : ρ[i]? = some (.slf C fs)) (c : Cls K (He.ga K C)) (n : NoAttr K (He.ga K C) f) (l : fs.length < 1000) (q : nx (ρ.set i (.slf C (putD f d fs))) S) : ∃ d' C fs, O.v d = .v d' ∧ ρ[i]? = some (.slf C fs) ∧ Cls K (He.ga K C) ∧ NoAttr K (He.ga K C) f ∧ fs.length < 1000 ∧ nx (ρ.set i (.slf C (putD f d' fs))) S := ⟨d, C, fs, rfl, e, c, n, l, q⟩
theorem q_fldP (h : te ρ S ex fun y S1 => ta ρ S1 ex fun x S2 => ∃ d j C fs, y = .v d ∧ x = .v (.ptr j) ∧ S2[j]? = some (.ins C fs) ∧ Cls K (He.ga K C) ∧ NoAttr K (He.ga K C) f ∧ fs.length < 1000 ∧ nx ρ (S2.set j (.ins C (putD f d fs)))) : dFldP K f ta te ⟨nx, rt, bk, ct, ex⟩ ρ S := h
theorem q_raise {fl : List Str} (h : tA ρ S ex fun os S1 => ∃ ds, Sol os ds ∧ ds.length = fl.length ∧ ex ρ C (fl.zip ds).reverse S1) : dRaise C fl tA ⟨nx, rt, bk, ct, ex⟩ ρ S := h
theorem q_for {tI : RI} (h : tI ρ S ex fun xs S1 => Loop g t ⟨nx, rt, bk, ct, ex⟩ xs ρ S1) : dFor tI g t ⟨nx, rt, bk, ct, ex⟩ ρ S := h
theorem q_try {cl : List DCl} (h : t ⟨nx, rt, bk, ct, hand K ⟨nx, rt, bk, ct, ex⟩ cl⟩ ρ S) : dTry K t cl ⟨nx, rt, bk, ct, ex⟩ ρ S := h
/-- an own list becomes a value -/
def dFrz (i : Nat) (t : RS) : RS := fun D ρ S => ∃ xs, ρ[i]? = some (.ol xs) ∧ t D (ρ.set i (.sh (.lst xs))) S
theorem dss_frz {st : List Stmt} (i : Nat) (h : DSs G st t) : DSs G st (dFrz i t) := by
  refine ⟨fun {X en W σ H ρ S pins s D} z ⟨xs, e, q⟩ => ?_⟩
  obtain ⟨W1, r1, l1⟩ := z.rs.fz (.frz i e .refl)
  exact thn (h.run ⟨z.hf, tk_up l1 z.tk, r1, z.I⟩ q) fun _ _ => sp_back l1
theorem q_frz (e : ρ[i]? = some (.ol xs)) (h : t ⟨nx, rt, bk, ct, ex⟩ (ρ.set i (.sh (.lst xs))) S) : dFrz i t ⟨nx, rt, bk, ct, ex⟩ ρ S := ⟨xs, e, h⟩
theorem DE.imp {e : Expr} {t t' : RE} (h : DE G e t) (m : ∀ ρ S E Q, t' ρ S E Q → t ρ S E Q) : DE G e t' := ⟨fun z q => h.run z (m _ _ _ _ q)⟩
/-- a list as a value, as one of the store -/
abbrev dLstV (tA : RA) : RE := fun ρ S E Q => tA ρ S E fun os S1 => ∃ ds, Sol os ds ∧ sz ds.length ∧ Q (.v (.lst ds)) S1
abbrev dLstP (tA : RA) : RE := fun ρ S E Q => tA ρ S E fun os S1 => ∃ ds, Sol os ds ∧ sz ds.length ∧ Q (.v (.ptr S1.length)) (S1 ++ [.lst ds])
theorem DA.mono {es : List Expr} {tA : RA} (h : DA G es tA) : True := trivial
/-! ### variables, values -/
theorem v_sh (e : ρ[i]? = some (.sh d)) (q : Q (.v d) S) : dVar i ρ S E Q := .inl ⟨d, e, q⟩
theorem v_ol (e : ρ[i]? = some (.ol xs)) (q : Q (.b xs) S) : dVar i ρ S E Q := .inr (.inl ⟨xs, e, q⟩)
theorem v_od {xs : List (Key × D)} (e : ρ[i]? = some (.od xs)) (q : Q (.bd xs) S) : dVar i ρ S E Q := .inr (.inr (.inl ⟨xs, e, q⟩))
theorem v_slf (e : ρ[i]? = some (.slf C fs)) (q : Q (.s C fs) S) : dVar i ρ S E Q := .inr (.inr (.inr ⟨C, fs, e, q⟩))
theorem q_val {P : D → Prop} (h : P d) : ∃ d', O.v d = .v d' ∧ P d' := ⟨d, rfl, h⟩
theorem q_bl {b : Bool} {P : Bool → Prop} (h : P b) : ∃ c, O.v (.bl b) = .v (.bl c) ∧ P c := ⟨b, rfl, h⟩
theorem q_str {b : Str} {P : Str → Prop} (h : P b) : ∃ c, O.v (.str b) = .v (.str c) ∧ P c := ⟨b, rfl, h⟩
theorem q_oint {n : Int} {P : Int → Prop} (h : P n) : ∃ i, O.v (.int n) = .v (.int i) ∧ P i := ⟨n, rfl, h⟩
theorem q_two {P : D → D → Prop} (h : P x y) : ∃ a b, [O.v x, O.v y] = [.v a, .v b] ∧ P a b := ⟨x, y, rfl, h⟩
theorem q_three {P : D → D → D → Prop} (h : P x y z) : ∃ a b c, [O.v x, O.v y, O.v z] = [.v a, .v b, .v c] ∧ P a b c := ⟨x, y, z, rfl, h⟩
theorem q_sol0 {P : List D → Prop} (h : P []) : ∃ ds, Sol [] ds ∧ P ds := ⟨[], rfl, h⟩
theorem q_solc {os : List O} {P : List D → Prop} (h : ∃ ds, Sol os ds ∧ P (d :: ds)) : ∃ ds, Sol (.v d :: os) ds ∧ P ds := let ⟨ds, e, q⟩ := h; ⟨d :: ds, by rw [show Sol (O.v d :: os) (d :: ds) = ((O.v d :: os) = O.v d :: ds.map O.v) from rfl, ← show os = ds.map O.v from e], q⟩
theorem sz_of {n : Nat} (h : n ≤ 1000) : sz n := by
  unfold sz
  rw [sizeLine_eq]
  omega
theorem q_gtup {n : Nat} {t : RGs} {P : List Sl → Sto → Prop} (h : xs.length = n) (q : t xs ρ S E P) : gTup n t (.tup xs) ρ S E P := ⟨xs, rfl, h, q⟩
theorem q_gcons {t : RG} {u : RGs} {P : List Sl → Sto → Prop} (q : t d ρ S E fun ρ' S' => u xs ρ' S' E P) : gCons t u (d :: xs) ρ S E P := ⟨d, xs, rfl, q⟩
theorem q_gnil {P : List Sl → Sto → Prop} (q : P ρ S) : gNil [] ρ S E P := ⟨rfl, q⟩
theorem q_gname {P : List Sl → Sto → Prop} (e : ρ.set i (.sh d) = ρ') (q : P ρ' S) : gName i d ρ S E P := by
  subst e
  exact q
theorem n_set {P : List Sl → Sto → Prop} {s : Sl} (e : ρ.set i s = ρ') (q : P ρ' S) : P (ρ.set i s) S := by
  subst e
  exact q
theorem n_set2 {P : List Sl → Sto → Prop} {s s2 : Sl} (e : (ρ.set i s).set j s2 = ρ') (q : P ρ' S) : P ((ρ.set i s).set j s2) S := by
  subst e
  exact q
theorem n_set3 {P : List Sl → Sto → Prop} {s s2 s3 : Sl} (e : ((ρ.set i s).set j s2).set l s3 = ρ') (q : P ρ' S) : P (((ρ.set i s).set j s2).set l s3) S := by
  subst e
  exact q
/-! ### loops -/
theorem loop_inv (I : Nat → List Sl → Sto → Prop) (h0 : I 0 ρ S) (hs : ∀ (i : Nat) x ρ S (Nx : List Sl → Sto → Prop), xs[i]? = some x → I i ρ S → (∀ ρ' S', I (i + 1) ρ' S' → Nx ρ' S') → g x ρ S ex fun ρ' S' => t ⟨Nx, rt, nx, Nx, ex⟩ ρ' S')
    (hd : ∀ ρ S, I xs.length ρ S → nx ρ S) : Loop g t ⟨nx, rt, bk, ct, ex⟩ xs ρ S := by
  induction xs generalizing I ρ S with
  | nil => exact hd _ _ h0
  | cons y ys ih =>
    refine hs 0 y ρ S _ rfl h0 fun ρ' S' q => ?_
    exact ih (fun i => I (i + 1)) q (fun i x ρ S Nx e q hn => hs (i + 1) x ρ S Nx (by simpa using e) q hn) fun ρ S q => hd ρ S q
theorem lc_inv {tt : RT} {R : List D → Sto → Prop} (I : Nat → List D → Sto → Prop) (h0 : I 0 [] S) (hz : ∀ i acc S, I i acc S → acc.length < sizeLine) (hs : ∀ (i : Nat) x acc S (X : QO) (Y : Sto → Prop), xs[i]? = some x → I i acc S → (∀ d S', I (i + 1) (acc ++ [d]) S' → X (.v d) S') → (∀ S', I (i + 1) acc S' → Y S') →
      g x ρ S noE fun ρ' S' => tt ρ' S' noE fun c S2 => if c = true then te ρ' S2 noE X else Y S2) (hd : ∀ acc S, I xs.length acc S → R acc S) : Lc g tt te ρ xs [] S R := by
  have key : ∀ (xs acc : List D) (S : Sto) (I : Nat → List D → Sto → Prop), I 0 acc S → (∀ i acc S, I i acc S → acc.length < sizeLine) → (∀ (i : Nat) x acc S (X : QO) (Y : Sto → Prop), xs[i]? = some x → I i acc S → (∀ d S', I (i + 1) (acc ++ [d]) S' → X (.v d) S') → (∀ S', I (i + 1) acc S' → Y S') →
      g x ρ S noE fun ρ' S' => tt ρ' S' noE fun c S2 => if c = true then te ρ' S2 noE X else Y S2) → (∀ acc S, I xs.length acc S → R acc S) → Lc g tt te ρ xs acc S R := by
    intro xs
    induction xs with
    | nil => exact fun acc S I h0 _ _ hd => hd _ _ h0
    | cons y ys ih =>
      intro acc S I h0 hz hs hd
      refine hs 0 y acc S _ _ rfl h0 (fun d S' q => ⟨d, rfl, hz _ _ _ h0, ?_⟩) fun S' q => ?_
      · exact ih _ _ (fun i => I (i + 1)) q (fun i acc S q => hz _ _ _ q) (fun i x acc S X Y e q hX hY => hs (i + 1) x acc S X Y (by simpa using e) q hX hY) fun acc S q => hd acc S q
      · exact ih _ _ (fun i => I (i + 1)) q (fun i acc S q => hz _ _ _ q) (fun i x acc S X Y e q hX hY => hs (i + 1) x acc S X Y (by simpa using e) q hX hY) fun acc S q => hd acc S q
  exact key xs [] S I h0 hz hs hd
/-- a comprehension that reads no state -/
theorem lc_pure {tt : RT} {R : List D → Sto → Prop} (p : D → Bool) (f : D → D) (hz : xs.length ≤ 1000000) (hs : ∀ x, x ∈ xs → ∀ (X : QO) (Y : Sto → Prop), (p x = true → X (.v (f x)) S) → (p x = false → Y S) →
      g x ρ S noE fun ρ' S' => tt ρ' S' noE fun c S2 => if c = true then te ρ' S2 noE X else Y S2) (hd : R ((xs.filter p).map f) S) : Lc g tt te ρ xs [] S R := by
  have key : ∀ (xs acc : List D), acc.length + xs.length ≤ 1000000 → (∀ x, x ∈ xs → ∀ (X : QO) (Y : Sto → Prop), (p x = true → X (.v (f x)) S) → (p x = false → Y S) →
      g x ρ S noE fun ρ' S' => tt ρ' S' noE fun c S2 => if c = true then te ρ' S2 noE X else Y S2) → R (acc ++ (xs.filter p).map f) S → Lc g tt te ρ xs acc S R := by
    intro xs
    induction xs with
    | nil =>
      intro acc _ _ hd
      have hd2 : R acc S := by simpa using hd
      exact hd2
    | cons y ys ih =>
      intro acc hz hs hd
      simp only [List.length_cons] at hz
      refine hs y List.mem_cons_self _ _ (fun e => ⟨f y, rfl, by rw [sizeLine_eq]; omega, ?_⟩) fun e => ?_
      · refine ih _ (by simp only [List.length_append, List.length_cons, List.length_nil]; omega) (fun x hx => hs x (List.mem_cons_of_mem _ hx)) ?_
        rw [List.filter_cons, if_pos e, List.map_cons] at hd
        rw [List.append_assoc]
        exact hd
      · refine ih _ (by omega) (fun x hx => hs x (List.mem_cons_of_mem _ hx)) ?_
        rw [List.filter_cons, if_neg (by rw [e]; exact Bool.false_ne_true)] at hd
        exact hd
  exact key xs [] (by simpa using hz) hs (by simpa using hd)
end
/-! ### isinstance -/
section
variable {B : Bs} {k : Nat} {S : Sto} {Ex : XS} {Q : QO} {C : Str} {fs : List (Str × D)} {o : O}
/-- an expression's value has the type t -/
def TyD (K : PySem.W.Frag) (S : Sto) (o : O) (t : Value) : Prop := (∃ T, KdO S o T ∧ t = .type T) ∨ ∃ C fs, IsI S o C fs ∧ InsOk K (He.ga K C) ∧ t = .ref (He.ga K C)
def ClT (K : PySem.W.Frag) : D → Value → Prop
  | .ty n, u => u = .type n
  | .cls C, u => u = .ref (He.ga K C)
  | _, _ => False
theorem tyD_at {K : PySem.W.Frag} {en : En} {W : Wd} {H : Hp} {t : Value} {v : V} (ho : Ho K W H S) (h : TyD K S o t) (r : RepO K en W H o v) : TyX K H v t := by
  have lst : ∀ {a : Addr} {vs : List V}, Rd H a (.lst vs) → TyX K H (.ref a) (.type "list") := fun {a vs} q => q.elim (fun q => .base (.lst q)) fun ⟨_, q⟩ => .base (.frz q)
  rcases h with ⟨T, h, rfl⟩ | ⟨C, fs, i, io, rfl⟩
  · cases o with
    | v d =>
      cases r with
      | non =>
        obtain rfl : T = "NoneType" := h
        exact .base .non
      | bl b =>
        obtain rfl : T = "bool" := h
        exact .base (.bl b)
      | int i =>
        obtain rfl : T = "int" := h
        exact .base (.int i)
      | str y =>
        obtain rfl : T = "str" := h
        exact .base (.str y)
      | lst q _ =>
        obtain rfl : T = "list" := h
        exact lst (rd_le ho.fh q)
      | tup q _ =>
        obtain rfl : T = "tuple" := h
        exact tyT (sqT_le ho.fh q)
      | dct q _ =>
        obtain rfl : T = "dict" := h
        exact .base (.dK (ho.fh _ _ q))
      | ptr hi =>
        rcases h with ⟨rfl, xs, q⟩ | ⟨rfl, xs, q⟩
        · obtain ⟨vs, q2, _⟩ := ho.cel _ _ q
          exact .base (.lst q2)
        · obtain ⟨vs, q2, _⟩ := ho.cel _ _ q
          exact .base (.dK q2)
      | _ => exact h.elim
    | b xs =>
      obtain rfl : T = "list" := h
      obtain ⟨a, vs, rfl, q, _⟩ := r
      exact .base (.lst q)
    | bd xs =>
      obtain rfl : T = "dict" := h
      obtain ⟨a, vs, rfl, q, _⟩ := r
      exact .base (.dK q)
    | s C fs => exact h.elim
  · obtain ⟨a, dx, vs, rfl, e, _⟩ := isI_at ho i r
    exact io.ty e
theorem c_isi {c : D} {t u : Value} {b : Bool} (h : TyD B.K S o t) (hc : ClT B.K c u) (e : PySem.W.kitOne B.K t u = some b) (q : Q (.v (.bl b)) S) : sCall B k (.builtin "isinstance") [] [o, .v c] [] S Ex Q := liftC (r := rIsi B.K) (fun {X en} ft => by
  have z := call_isi (X := X)
  rw [ft.K] at z
  exact z) fun en W H xs' ho rx => by
  cases rx with
  | cons r1 rt =>
    cases rt with
    | cons r2 rt =>
      cases rt
      cases r2 with
      | ty n =>
        obtain rfl : u = _ := hc
        exact ⟨_, _, t, _, b, rfl, .ty n, tyD_at ho h r1, e, nx ho (.bl _) q⟩
      | cls C =>
        obtain rfl : u = _ := hc
        exact ⟨_, _, t, _, b, rfl, .own _, tyD_at ho h r1, e, nx ho (.bl _) q⟩
      | _ => exact hc.elim
theorem tyK {T : String} (h : KdO S o T) : TyD B.K S o (.type T) := .inl ⟨T, h, rfl⟩
theorem tyI (h : IsI S o C fs) (i : InsOk B.K (He.ga B.K C)) : TyD B.K S o (.ref (He.ga B.K C)) := .inr ⟨C, fs, h, i, rfl⟩
end
/-! ### rules with fewer words -/
section
variable {G : Cf} {es : List Expr} {tA : RA} {pos : Pos} {x : Str} {i : Nat}
theorem dv (i : Nat) (hN : G.N[i]? = some x := by rfl) (hv : Vis G.sc x := by first | exact .inl rfl | exact .inr (.inl rfl) | exact .inr (.inr rfl)) (hd : (x == ("__debug__" : Str)) = false := by decide) (hcd : (x == ("__classdict__" : Str)) = false := by decide) : DE G (.Name x pos) (dVar i) := de_var hN hv hd hcd
theorem de_lstV (h : DA G es tA) : DE G (.List es pos) (dLstV tA) := by
  refine ⟨fun {X en W σ H ρ S E pins s Q} z q => ?_⟩
  refine wpAny_List_spliced (h.at pos z q fun us s1 vs H1 W1 os S1 z1 g1 r1 ro ⟨ds, so, hz, q1⟩ => ?_)
  subst so
  have hr := Sol.rep ro
  have hl : vs.length ≤ sizeLine := by rw [hr.len]; exact hz
  refine ⟨by rw [← r1.length]; exact hl, ?_⟩
  have hf : H1 s1.heap.objs.size = none := z1.I.hok.fresh (Nat.le_refl _)
  refine ⟨.ref s1.heap.objs.size, upd H1 s1.heap.objs.size (.lst vs), z1.I.laid (t' := s1.toks) (fun b u e => Heap.get?_push_of_some _ e) (Nat.le_refl _) ⟨hl, us, 0, r1, Heap.get?_push_size _ rfl⟩, rfl, ?_⟩
  exact ⟨_, .v (.lst ds), S1, z1.rs.ho.frz hf, g1.trans (Go.frz z1.rs.ho hf) (z1.rs.ho.frz hf), .lst (.inl upd_same) (hr.le (W1.frz_le (z1.rs.ho.nF hf))), q1⟩
theorem de_lstP (h : DA G es tA) : DE G (.List es pos) (dLstP tA) := by
  refine ⟨fun {X en W σ H ρ S E pins s Q} z q => ?_⟩
  refine wpAny_List_spliced (h.at pos z q fun us s1 vs H1 W1 os S1 z1 g1 r1 ro ⟨ds, so, hz, q1⟩ => ?_)
  subst so
  have hr := Sol.rep ro
  have hl : vs.length ≤ sizeLine := by rw [hr.len]; exact hz
  refine ⟨by rw [← r1.length]; exact hl, ?_⟩
  have hf : H1 s1.heap.objs.size = none := z1.I.hok.fresh (Nat.le_refl _)
  refine ⟨.ref s1.heap.objs.size, upd H1 s1.heap.objs.size (.lst vs), z1.I.laid (t' := s1.toks) (fun b u e => Heap.get?_push_of_some _ e) (Nat.le_refl _) ⟨hl, us, 0, r1, Heap.get?_push_size _ rfl⟩, rfl, ?_⟩
  have ho : Ho G.B.K (W1.cell s1.heap.objs.size) (upd H1 s1.heap.objs.size (.lst vs)) (S1 ++ [.lst ds]) := z1.rs.ho.cell hf ⟨vs, upd_same, hr.le Wd.cell_le⟩
  refine ⟨_, .v (.ptr S1.length), _, ho, g1.trans (Go.cell z1.rs.ho hf) ho, ?_, q1⟩
  have r : Rep G.B.K (W1.cell s1.heap.objs.size) (.ptr W1.n) (.ref ((W1.cell s1.heap.objs.size).m W1.n)) := .ptr (Nat.lt_succ_self _)
  rw [Wd.cell_new, z1.rs.ho.n] at r
  exact r
end
theorem sFun.mono {B : Bs} {k j : Nat} {fv : Value} {ks : List Str} {ds zs : List D} {S : Sto} {Ex : XS} {Q : QO} (h : sFun B k fv ks ds zs S Ex Q) (l : k ≤ j) : sFun B j fv ks ds zs S Ex Q := fun A outer s W H en σ vs ws us us' hr => h A outer s W H en σ vs ws us us' (hr.mono l)
/-- a weaker wish -/
theorem sFun.imp {B : Bs} {k : Nat} {fv : Value} {ks : List Str} {ds zs : List D} {S : Sto} {Ex : XS} {Q Q' : QO} (h : sFun B k fv ks ds zs S Ex Q) (m : ∀ o S', Q o S' → Q' o S') : sFun B k fv ks ds zs S Ex Q' := by
  intro A outer s W H en σ vs ws us us' hr e0 KX ho rd rz rv rw'
  refine codeAny_mono (h A outer s W H en σ vs ws us us' hr e0 KX ho rd rz rv rw') fun y s' q => ?_
  match y, q with
  | .error er, q => exact q
  | .ok (.ret u), ⟨v, H', a1, a2, a3, a4, a5, W', o, S', h1, g1, ro, q⟩ => exact ⟨v, H', a1, a2, a3, a4, a5, W', o, S', h1, g1, ro, m _ _ q⟩
end Dt

set_option Elab.async false
set_option linter.all false
set_option maxRecDepth 100000
set_option maxHeartbeats 4000000
/-! DatP: rules as a printer writes them; more facts as Bools -/
namespace Dt
open PySem PySem.Spec PyProof.Rows L2 My He
section
variable {G : Cf} {e a b c : Expr} {es : List Expr} {te ti ta tb tc : RE} {tA : RA} {tf : RF} {pos pos' px py pz pt p apos : Pos} {x y z : Str} {k k2 pt2 kt : Nat}
theorem dst (i : Nat) (he : DE G e te) (hi : G.N[i]? = some x := by rfl) (hx : Loc G.sc x := by first | exact .inl rfl | exact .inr rfl) (hf : Sto1 G x := by first | exact .inr rfl | exact .inl rfl) (hs : ∀ env : Env, swapsWith e (some (.Name x pos')) pos.line env = pure false := by intro _; rfl) : DS G (.Assign [.Name x pos'] e pos) (dAsg te (gName i)) := ds_set hi hx he hs hf
/-- a comprehension's value in a cell: no swap -/
theorem dstC (i : Nat) (he : DE G e te) (hs : ∀ env : Env, env.scope = G.sc → swapsWith e (some (.Name x pos')) pos.line env = pure false) (hi : G.N[i]? = some x := by rfl) (hx : Loc G.sc x := by first | exact .inl rfl | exact .inr rfl) (hf : Sto1 G x := by first | exact .inr rfl | exact .inl rfl) : DS G (.Assign [.Name x pos'] e pos) (dAsg te (gName i)) := by
  refine ⟨fun {X en W σ H ρ S pins s D} z q => wpAny_Assign_Name (he.at z q fun v s1 x' H1 W1 o S1 z1 g1 r1 ro ⟨d, e1, q1⟩ => ?_) (hs _ z.hf.sc)⟩
  subst e1
  obtain ⟨h1, h2, h3⟩ := z1.hf.sto hi hx hf
  exact store_ok z1.I z1.hf.nd h1 h2 r1 (fun s' I' => ⟨_, H1, I', W1, _, S1, z1.rs.set i (s := .sh d) rfl ⟨x', rfl, ro⟩, g1.le, q1⟩) h3
theorem dstF (i : Nat) (he : DF G e tf) (hi : G.N[i]? = some x := by rfl) (hx : Loc G.sc x := by first | exact .inl rfl | exact .inr rfl) (hf : Sto1 G x := by first | exact .inr rfl | exact .inl rfl) (hs : ∀ env : Env, swapsWith e (some (.Name x pos')) pos.line env = pure false := by intro _; rfl) : DS G (.Assign [.Name x pos'] e pos) (dAsgF i tf) := ds_setF hi hx he hs hf
theorem dgn (i : Nat) (hi : G.N[i]? = some x := by rfl) (hx : Loc G.sc x := by first | exact .inl rfl | exact .inr rfl) (hf : Sto1 G x := by first | exact .inr rfl | exact .inl rfl) : DG G (.Name x pos) [i] (gName i) := dg_name hi hx hf
theorem sw_two {es fs : List Expr} {kt k2 : Nat} {env : Env} {sc : Scope} {r : Option (List Str)} (h : env.scope = sc) (e : ∀ env : Env, env.scope = sc → swappedStores [.Tuple es kt pt] (.Tuple fs k2 pos) env = pure r) : swappedStores [.Tuple es kt pt] (.Tuple fs k2 pos) env = pure r := e env h
end
/-! ### staticmethods -/
def smtB (K : PySem.W.Frag) (x m : Str) : Bool := (match PySem.W.findCls K (.ref (ga K x)) (.type "type") m with
    | some (.get (.builtin g) (.ref p) .none (.ref D)) => decide (g = "staticmethod.__get__") && (decide (p = ma K (ga K x) m) && decide (D = ga K x))
    | _ => false) && ((match PySem.W.recIn K (ma K (ga K x) m) "staticmethod" with
    | some (.ref f :: _) => decide (f = Hk.wfA x "staticmethod" m K)
    | _ => false) && (PySem.W.keepIn K (.ref (Hk.wfA x "staticmethod" m K)) && crB K x))
theorem smtB_ok {K : PySem.W.Frag} {x m : Str} (h : smtB K x m = true) : SMet K (ga K x) m (Hk.wfA x "staticmethod" m K) := by
  obtain ⟨h1, h⟩ := ba h
  obtain ⟨h2, h⟩ := ba h
  obtain ⟨h3, h4⟩ := ba h
  refine ⟨crB_ok h4, ⟨ma K (ga K x) m, ?_, ?_⟩, h3⟩
  · split at h1
    · rename_i g p D e
      obtain ⟨e1, e2⟩ := ba h1
      obtain ⟨e2, e3⟩ := ba e2
      rw [e, of_decide_eq_true e1, of_decide_eq_true e2, of_decide_eq_true e3]
    · cases h1
  · split at h2
    · rename_i f rest e
      exact ⟨rest, by rw [e, of_decide_eq_true h2]⟩
    · cases h2
abbrev bs (P : Program) (w : World) (K : PySem.W.Frag) (mg : Str → Option Value) (base : Heap) : Bs := ⟨P, w, K, mg, base, false⟩
section
variable {B : Bs} {x qual C : Str} {params : Arguments} {body : List Stmt} {scope : Scope} {dvs : List V} {kws : List (Str × V)} {f : Addr} {fd : FuncData} {N ps ks : List Str} {m k : Nat} {ok : List D → List D → Prop} {ar : List D → List D → List D} {t : RS} {S : Sto} {Ex : XS} {Q : QO} {ρ0 : List Sl}
theorem call_d (k : Nat) (F : FunD B.K x qual params body scope dvs kws f fd) (Sc : FnScope N ps scope) (hot : B.hot = false) (bm : BindM B fd ps 0 ks ok ar) (hd : DSs (fnCf B k N scope) body t) {ds zs : List D} (hok : ok ds zs)
    (e : startS N.length (ar ds zs) = ρ0) (hq : t ⟨fun _ S' => Q (.v .non) S', fun d _ S' => Q (.v d) S', fun _ _ => False, fun _ _ => False, fun _ => Ex⟩ ρ0 S) : sFun B (k + 1) (.ref f) ks ds zs S Ex Q := by
  subst e
  exact call_def F Sc hot bm hd hok hq
theorem call_m (k : Nat) (M : Mg B.K (He.ga B.K C) f) (F : FunD B.K x qual params body scope dvs kws f fd) (Sc : FnScope N ps scope) (hot : B.hot = false) (bm : BindM B fd ps 1 ks ok ar) (hd : DSs (fnCf B k N scope) body t) {ds zs : List D} (hok : ok ds zs)
    (e : startM C N.length (ar ds zs) = ρ0) (hq : t ⟨fun ρ S' => ∃ fs, ρ[0]? = some (.slf C fs) ∧ (Q (.v (.ins C fs)) S' ∨ Q (.v (.ptr S'.length)) (S' ++ [.ins C fs])), fun d ρ S' => d = .non ∧ ∃ fs, ρ[0]? = some (.slf C fs) ∧ (Q (.v (.ins C fs)) S' ∨ Q (.v (.ptr S'.length)) (S' ++ [.ins C fs])), fun _ _ => False, fun _ _ => False, fun _ => Ex⟩ ρ0 S) (hN : 0 < N.length := by decide) : sFun B (k + 2) (.ref (He.ga B.K C)) ks ds zs S Ex Q := by
  subst e
  exact call_mk M F Sc hot bm hd hok hq hN
end
/-! ### the store but for one object -/
structure Bt (n : Nat) (S S' : Sto) : Prop where
  at_ : ∀ i, i ≠ n → S'[i]? = S[i]?
  len : S'.length = S.length
theorem Bt.refl {n : Nat} {S : Sto} : Bt n S S := ⟨fun _ _ => rfl, rfl⟩
theorem Bt.trans {n : Nat} {S S1 S2 : Sto} (a : Bt n S S1) (b : Bt n S1 S2) : Bt n S S2 := ⟨fun i h => (b.at_ i h).trans (a.at_ i h), b.len.trans a.len⟩
theorem Bt.set {n : Nat} {S : Sto} {c : Cell} : Bt n S (S.set n c) := ⟨fun i h => List.getElem?_set_ne (Ne.symm h), List.length_set⟩
section
variable {B : Bs} {k n l : Nat} {i : Int} {S : Sto} {d : D} {xs ys : List D}
theorem set_L2 {Q : Sto → Prop} (e : S[n]? = some (.lst xs)) (h : ixN xs.length i = some l) (es : xs.set l d = ys) (q : ∀ S', S'[n]? = some (.lst ys) → Bt n S S' → Q S') : sSet B k (.v (.ptr n)) (.v (.int i)) d S Q := by
  subst es
  exact set_L e h (q _ (by rw [List.getElem?_set_self (List.getElem?_eq_some_iff.mp e).1]) .set)
end
theorem ls_p {S : Sto} {n : Nat} {xs : List D} (h : S[n]? = some (.lst xs)) : LsO S (.v (.ptr n)) xs := h
theorem ls_v {S : Sto} {xs : List D} : LsO S (.v (.lst xs)) xs := rfl
theorem ls_b {S : Sto} {xs : List D} : LsO S (.b xs) xs := rfl
theorem q_walk {o : O} {ys : List D} {P : List D → Prop} (h : Walk o ys) (q : P ys) : ∃ xs, Walk o xs ∧ P xs := ⟨ys, h, q⟩
theorem map_at {α : Type} {d : D} {i : Nat} {f : α → D} {zs : List α} (h : (zs.map f)[i]? = some d) : ∃ z, zs[i]? = some z ∧ f z = d := by
  rw [List.getElem?_map] at h
  exact Option.map_eq_some_iff.mp h
section
variable {o : O} {A B : Prop}
theorem n_t (e : isNonO o = true) (h : A) : if isNonO o = true then A else B := by rw [if_pos e]; exact h
theorem n_f (e : isNonO o = false) (h : B) : if isNonO o = true then A else B := by rw [if_neg (by rw [e]; exact Bool.false_ne_true)]; exact h
theorem nn_t (e : isNonO o = true) (h : B) : if (!isNonO o) = true then A else B := by rw [if_neg (by rw [e]; exact Bool.false_ne_true)]; exact h
theorem nn_f (e : isNonO o = false) (h : A) : if (!isNonO o) = true then A else B := by rw [if_pos (by rw [e]; rfl)]; exact h
end
theorem q_meth {K : PySem.W.Frag} {S : Sto} {d : D} {C m : Str} {P : D → Str → Prop} (h : MtD K m d S C) (q : P d C) : ∃ d' C', O.v d = .v d' ∧ MtD K m d' S C' ∧ P d' C' := ⟨d, C, rfl, h, q⟩
theorem q_sm {K : PySem.W.Frag} {C m : Str} {g : Addr} {P : Str → Addr → Prop} (h : SMet K (He.ga K C) m g) (q : P C g) : ∃ C' g', O.v (.cls C) = .v (.cls C') ∧ SMet K (He.ga K C') m g' ∧ P C' g' := ⟨C, g, rfl, h, q⟩
theorem q_rng1 {n : Int} {P : List D → Prop} (h1 : -(2 ^ 62) ≤ n) (h2 : n < 2 ^ 62) (q : P (rngD 0 n.toNat)) : ∃ (m : Int) (xs : List D), [O.v (.int n)] = [.v (.int m)] ∧ -(2 ^ 62) ≤ m ∧ m < 2 ^ 62 ∧ xs = rngD 0 m.toNat ∧ P xs := ⟨n, _, rfl, h1, h2, rfl, q⟩
theorem q_rng2 {i j : Int} {P : List D → Prop} (h : -(2 ^ 62) ≤ i ∧ i < 2 ^ 62 ∧ -(2 ^ 62) ≤ j ∧ j < 2 ^ 62) (q : P (rngD i (j - i).toNat)) : ∃ (a b : Int) (xs : List D), [O.v (.int i), O.v (.int j)] = [.v (.int a), .v (.int b)] ∧ (-(2 ^ 62) ≤ a ∧ a < 2 ^ 62 ∧ -(2 ^ 62) ≤ b ∧ b < 2 ^ 62) ∧ xs = rngD a (b - a).toNat ∧ P xs := ⟨i, j, _, rfl, h, rfl, q⟩
theorem rngD_at {lo : Int} {n i : Nat} {x : D} (h : (rngD lo n)[i]? = some x) : i < n ∧ x = .int (lo + (i : Nat)) := by
  have hi : i < n := by
    have := (List.getElem?_eq_some_iff.mp h).1
    rw [rngD_len] at this
    exact this
  rw [rngD_get hi] at h
  exact ⟨hi, (Option.some.inj h).symm⟩
end Dt

set_option Elab.async false
set_option linter.all false
set_option maxRecDepth 100000
set_option maxHeartbeats 4000000
/-! DatQ: ranges of integers of any size -/
namespace Dt
open PySem PySem.Spec PyProof.Rows L2 My He
theorem turn_rangeL {P : Program} {w : World} {K : PySem.W.Frag} {tg : Expr} (it : Addr) (lo : Int) (n : Nat) : Turn P w K tg (Itr lo n) [it] it (fun i h => IsLongIter h it (lo + (i : Nat) * 1) ((n : Int) - (i : Nat)) 1) where
  mem := by simp
  obj := fun i h st b hb => by
    have e : b = it := by simpa using hb
    subst e
    exact ⟨_, st, fun v z => by
      have z' : Data.fields _ = Data.cell v := z
      cases z'⟩
  keep := fun i h h' st k => k it (by simp) _ st
  item := by
    intro X hP hw hK hc i pins s σ H E I hf st hg
    subst hP hw hK
    obtain ⟨f0, f1, f2, f3, f4, f5⟩ := hf it (by simp)
    have W := Walks.longrange (prog := X.prog) (w := X.w) (I.ok.hd hc) it lo 1 n
    refine W.item i s _ _ hg st fun v h' tk hv st' kk => ?_
    obtain ⟨t, rfl⟩ := hv
    have I1 : Inv X pins σ H { s with heap := h', toks := tk } := I.turned (fun b o hb e => kk b o (by simpa using hb) e) f0 f1 f3 f4 f5
    refine ⟨_, rfl, go_of (s := { s with heap := h', toks := tk }) (n := "longrange_iterator") st' rfl rfl (by decide) ⟨.int (lo + i), H, I1, ⟨t, ?_⟩, ⟨rfl, rfl⟩, st', fun b hb => (hf b hb).1⟩⟩
    rw [Int.mul_one]
  done := by
    intro X hP hw hK hc i pins s σ H E I hf st hg
    subst hP hw hK
    obtain ⟨f0, f1, f2, f3, f4, f5⟩ := hf it (by simp)
    exact wpAny_pyNext_long_end (I.ok.hd hc) st (by have : n ≤ i := hg; omega) fun h' eb => ⟨rfl, I.turned (t' := s.toks) (fun b o hb e => eb b o hb e) f0 f1 f3 f4 f5⟩
  self := fun _ _ _ _ _ st h => wpAny_pyIter_longiter st h
section
variable {X : Cx} {tg : Expr}
theorem range_itL {pins : List (Addr × Obj)} {σ : L2.St} {H : Hp} {s : Shared} {R : It → Hp → Prop} {E : Value → Shared → Prop} {lo hi : Int} {t u v : Tok} {tk : Nat} (I : Inv X pins σ H s)
    (q : R (Itr lo (hi - lo).toNat) H) : wpAny (model X.prog X.w) X.A (pyIter (.ref s.heap.objs.size)) (PIE X pins σ tg R) E { s with heap := s.heap.push { cls := .type "range", data := .fields #[.int lo t, .int hi u, .int 1 v] }, toks := tk } := by
  have I1 : Inv X pins σ H { s with heap := s.heap.push { cls := .type "range", data := .fields #[.int lo t, .int hi u, .int 1 v] }, toks := tk } := I.kept fun b o e => Heap.get?_push_of_some _ e
  have e1 : lo + ((0 : Nat) : Int) * 1 = lo := by simp
  have e2 : (((hi - lo).toNat : Nat) : Int) - ((0 : Nat) : Int) = Builtin.Range.rangeSize lo hi 1 := by rw [rangeSize_one]; split <;> omega
  cases hs : Builtin.Range.small lo hi 1 with
  | true =>
    refine wpAny_pyIter_range (IsRange.new ..) hs ?_
    refine pi_one (tk := tk) I1 _ (turn_range _ lo (hi - lo).toNat) ?_ q
    show IsRangeIter _ _ (lo + ((0 : Nat) : Int) * 1) ((((hi - lo).toNat : Nat) : Int) - ((0 : Nat) : Int)) 1
    rw [e1, e2]
    exact Heap.get?_push_size _ rfl
  | false =>
    refine wpAny_pyIter_longrange (IsRange.new ..) hs ?_
    refine pi_one (tk := tk) I1 _ (turn_rangeL _ lo (hi - lo).toNat) ?_ q
    show IsLongIter _ _ (lo + ((0 : Nat) : Int) * 1) ((((hi - lo).toNat : Nat) : Int) - ((0 : Nat) : Int)) 1
    rw [e1, e2]
    exact Heap.get?_push_size _ rfl
def iRng2T (ta : TA) : TI := fun σ H R => ta σ H fun vs H1 => ∃ i j : Int, vs = [.int i, .int j] ∧ R (Itr i (j - i).toNat) H1
theorem pi_range2L {a b : Expr} {ta : TA} {p pos : Pos} (hg : Gl X "range") (hm : X.mg "range" = none) (ha : PA X [a, b] ta) (hs : starEach [a, b] X.env = [(false, eval a X.env), (false, eval b X.env)] := by rfl) (hs2 : starEach [b] X.env = [(false, eval b X.env)] := by rfl) :
    PI X tg (.Call (.Name "range" p) [a, b] [] pos) (iRng2T ta) := by
  refine ⟨fun pins s σ H R I h => ?_⟩
  refine Call_ (ld_blt I hg hm boot_range (PyProof.Rows.callWith_type1 (thn (ha.run pos pins s σ H _ I h) fun us s1 ⟨vs, H1, I1, r1, q1⟩ => ?_) (by rw [hs, hs2]) (by rw [hs2]; rfl)))
  obtain ⟨i, j, e, q⟩ := q1
  subst e
  cases r1 with
  | cons r rr =>
    cases rr with
    | cons r' rr =>
      cases rr
      obtain ⟨t, rfl⟩ := r
      obtain ⟨t', rfl⟩ := r'
      exact call_range_2 (range_itL I1 q)
end
section
variable {G : Cf} {tg a b : Expr} {tA : RA} {p pos : Pos}
/-- range(a, b) at any size -/
abbrev iRngL (tA : RA) : RI := fun ρ S E Q => tA ρ S E fun os S1 => ∃ (i j : Int) (xs : List D), os = [.v (.int i), .v (.int j)] ∧ xs = rngD i (j - i).toNat ∧ Q xs S1
theorem di_rangeL (hg : Glb G "range") (hm : G.B.mg "range" = none) (ha : DA G [a, b] tA) (hs : ∀ env : Env, starEach [a, b] env = [(false, eval a env), (false, eval b env)] := by intro _; rfl) (hs2 : ∀ env : Env, starEach [b] env = [(false, eval b env)] := by intro _; rfl) : DI G tg (.Call (.Name "range" p) [a, b] [] pos) (iRngL tA) := by
  refine ⟨fun {X en W σ H ρ S E pins s Q} z q => ?_⟩
  refine (pi_range2L (X := X) (gl_of z.hf.sc hg) (by rw [z.hf.b.mg]; exact hm) (acan X [a, b]) (hs _) (hs2 _)).run pins s σ H _ z.I fun pos' pins' s' I => ?_
  refine ha.at pos' (z.re I) q fun us s2 vs H1 W1 os S1 z1 g1 r1 ro ⟨i, j, xs, eo, ex, q1⟩ => ?_
  subst eo ex
  cases ro with
  | cons r ro =>
    cases ro with
    | cons r' ro =>
      cases ro
      cases r
      cases r'
      exact ⟨_, H1, z1.I, r1, i, j, rfl, W1, _, S1, z1.rs.ho, g1, .rng, q1⟩
end
theorem q_rngL {i j : Int} {P : List D → Prop} (q : P (rngD i (j - i).toNat)) : ∃ (a b : Int) (xs : List D), [O.v (.int i), O.v (.int j)] = [.v (.int a), .v (.int b)] ∧ xs = rngD a (b - a).toNat ∧ P xs := ⟨i, j, _, rfl, rfl, q⟩
end Dt

set_option Elab.async false
set_option linter.all false
set_option maxRecDepth 100000
set_option maxHeartbeats 4000000
/-! DatR: the script; the law's end -/
namespace Dt
open PySem PySem.Spec PyProof.Rows L2 My He
theorem Rep.lskI {K : PySem.W.Frag} {W : Wd} {xs : List D} {v : V} (h : Rep K W (.lsk xs) v) : ∃ a vs, v = .ref a ∧ SqL K W.F a vs ∧ Reps K W xs vs := by
  cases h with
  | lsk h r => exact ⟨_, _, rfl, h, r⟩
section
variable {B : Bs} {k : Nat} {S : Sto} {Ex : XS} {Q : QO} {i : Int} {xs : List D} {d : D}
theorem c_lenX (q : Q (.v (.int xs.length)) S) : sCall B k (.builtin "len") [] [.v (.lsk xs)] [] S Ex Q := liftC (fun ft => call_lenK ft.K) fun en W H xs' ho rx => by
  cases rx with
  | cons r t =>
    cases t
    obtain ⟨a, vs, rfl, e, rr⟩ := Rep.lskI r
    rw [← rr.len] at q
    exact ⟨a, vs, rfl, .inl (sqL_le ho.fh e), nx ho (.int _) q⟩
theorem s_ixX (e : L2.atI xs i = some d) (q : Q (.v d) S) : sIx B k (.v (.lsk xs)) (.v (.int i)) S Ex Q := liftI (fun ft => ix_listK ft.K) fun en W H x' y' ho rx ry => by
  cases ry
  obtain ⟨a, vs, rfl, e1, rr⟩ := Rep.lskI rx
  obtain ⟨v, e2, rv⟩ := rr.atI e
  exact ⟨a, vs, i, v, rfl, rfl, sqL_le ho.fh e1, e2, nx ho rv q⟩
theorem s_slX {lo hi : Option Int} (q : NewL S Q (cutD xs lo hi)) : sSl B k (.v (.lsk xs)) lo hi S Q := liftS (fun ft => sl_listK ft.K) fun en W H x' ho rx => by
  obtain ⟨a, vs, rfl, e1, rr⟩ := Rep.lskI rx
  exact ⟨a, vs, rfl, sqL_le ho.fh e1, nxN ho (rr.cut lo hi) q⟩
end
/-! ### the law's end -/
/-- what is asked of the def law -/
abbrev LawOk (P : Program) (w : World) (K : PySem.W.Frag) (mg : Str → Option Value) (k n : Nat) (fa : Addr) : Prop :=
  ∀ base : Heap, ∀ ns : List Int, ns.length ≤ n → sFun (bs P w K mg base) k (.ref fa) [] [.lsk (ns.map .int)] [] [] noX fun o _ => o = .v (.bl true)
theorem law_d0 {P : Program} {w : World} {K : PySem.W.Frag} {mg mb : Str → Option Value} {k n : Nat} {fa a : Addr} {t : Shared} {vs : List Value} {ns : List Int} {H : Hp}
    (KX : K.In t.heap) (hns : t.heap.Ns mainGlobals mg) (hb : t.heap.Ns builtinsNs mb) (hbb : ∀ x : Str, x ≠ "__name__" → mb x = bootBuiltins x) (hlim : t.heap.NoLimit) (hg : t.gens = #[])
    (ha : t.heap.get? a = some { cls := .type "list", data := .seq vs.toArray }) (hr : My.RG k callerA) (F : LawOk P w K mg k n fa) (hl : ns.length ≤ n) (hS : SqL K H a (ns.map V.int))
    (hO : Only H) (hok : HOk P w H t.heap) (hA : ∀ b, H b ≠ none → b = a) (hK : H a ≠ none → K.lookup a = none) :
    codeAny (model P w) callerA (.call (.ref fa) ⟨[.ref a], []⟩) (fun r s' => r = .ok (.ret (.bool true)) ∧ OldK t.heap s'.heap ∧ s'.os = t.os ∧ AllBare s'.gens) t := by
  have off : ∀ {b : Addr}, (b = a → False) → H b = none := fun {b} n => Classical.byContradiction fun q => n (hA b q)
  have kb : K.In (hidT t.heap H) := fun b o e => hidT_get (KX b o e) (Classical.byContradiction fun q => by
    have z := hA b q
    subst z
    rw [hK q] at e
    cases e)
  have nsK : ∀ {b : Addr} {m : Str → Option Value}, t.heap.Ns b m → (hidT t.heap H).Ns b m := fun {b m} ⟨o, es, ep, e, d, r⟩ => ⟨o, es, ep, hidT_get e (off fun z => by
    subst z
    rw [ha] at e
    cases e
    have d2 : Data.seq vs.toArray _ = Data.dict es ep := d
    cases d2), d, r⟩
  have hM : Mod K mg (hidT t.heap H) := ⟨kb, nsK hns, ⟨mb, nsK hb, hbb⟩, let ⟨mc, h1, h2⟩ := hlim; ⟨mc, nsK h1, h2⟩⟩
  have e0 : Env0 P w K mg (hidT t.heap H) callerA [] t H := ⟨rfl, hM, fun b o e => of_hidT e, Nat.le_of_eq (hidT_size _ _), trivial, fun b z => (List.not_mem_nil (a := b) z).elim, hok, .of_eq hg⟩
  let W : Wd := ⟨H, fun _ => 0, 0⟩
  have ho : Ho K W H [] := ⟨rfl, fun _ _ e => e, fun i j hi => absurd hi (Nat.not_lt_zero _), fun i hi => absurd hi (Nat.not_lt_zero _), fun i hi => absurd hi (Nat.not_lt_zero _), fun i c e => by simp at e⟩
  have rd : Reps K W [.lsk (ns.map .int)] [.ref a] := .cons (.lsk hS (reps_ints ns)) .nil
  refine codeAny_mono (F (hidT t.heap H) ns hl callerA [] t W H ⟨W, H, 0, none⟩ [] [.ref a] [] [.ref a] [] hr e0 KX ho rd .nil (.cons rfl .nil) .nil) fun y s' h => ?_
  match y, h with
  | .error e, h =>
    obtain ⟨_, _, _, _, _, _, _, _, _, _, _, _, hE⟩ := h
    obtain ⟨_, C, fs, W', S', _, _, _, q⟩ := hE
    exact q.elim
  | .ok (.ret u), h =>
    obtain ⟨v, H', os, bare, un, hok', r', W', o, S', _, _, ro, q⟩ := h
    subst q
    cases ro
    obtain rfl : u = Value.bool true := r'
    refine ⟨rfl, OldK.of_keep fun b o e => ?_, os, bare⟩
    cases q : H b with
    | none => exact un.keep b o e q (fun z => (List.not_mem_nil (a := b) z).elim) (by simp)
    | some u =>
      rcases hO b with z | ⟨ob, xs, z⟩
      · rw [q] at z
        cases z
      · obtain ⟨e1, _⟩ := hok b _ z
        obtain ⟨e2, _⟩ := hok' b _ (un.frzs b ob _ z)
        rw [e] at e1
        cases e1
        exact e2
theorem law_d {P : Program} {w : World} {K : PySem.W.Frag} {mg mb : Str → Option Value} {k n : Nat} {fa a : Addr} {t : Shared} {vs : List Value} {ns : List Int}
    (KX : K.In t.heap) (hns : t.heap.Ns mainGlobals mg) (hb : t.heap.Ns builtinsNs mb) (hbb : ∀ x : Str, x ≠ "__name__" → mb x = bootBuiltins x) (hlim : t.heap.NoLimit) (hg : t.gens = #[])
    (ha : t.heap.get? a = some { cls := .type "list", data := .seq vs.toArray }) (hi : IntsAre vs ns) (hn : n ≤ sizeLine) (hl : ns.length ≤ n) (hr : My.RG k callerA) (F : LawOk P w K mg k n fa) :
    codeAny (model P w) callerA (.call (.ref fa) ⟨[.ref a], []⟩) (fun r s' => r = .ok (.ret (.bool true)) ∧ OldK t.heap s'.heap ∧ s'.os = t.os ∧ AllBare s'.gens) t := by
  have rv := vals_ints hi
  have hl2 : ns.length ≤ sizeLine := Nat.le_trans hl hn
  cases hk : K.lookup a with
  | some o =>
    have e := KX a o hk
    rw [ha] at e
    cases e
    have O : Only (fun _ => none) := fun _ => .inl rfl
    exact law_d0 (ns := ns) (H := fun _ => none) KX hns hb hbb hlim hg ha hr F hl (.inr ⟨_, vs.toArray, _, hk, rfl, rfl, rfl, by rw [List.size_toArray, hi.length]; exact hl2, by simpa using rv⟩) O (fun b u z => by cases (show (none : Option HO) = some u from z)) (fun b z => absurd rfl z) fun z => absurd rfl z
  | none =>
    let ob : Obj := { cls := .type "list", data := .seq vs.toArray }
    let H : Hp := fun b => if b = a then some (.frz ob (.lst (ns.map V.int))) else none
    have Ha : H a = some (.frz ob (.lst (ns.map V.int))) := if_pos rfl
    have Hn : ∀ {b}, b ≠ a → H b = none := fun {b} z => if_neg z
    have O : Only H := fun b => by
      by_cases z : b = a
      · exact .inr ⟨_, _, if_pos z⟩
      · exact .inl (Hn z)
    refine law_d0 (H := H) (ns := ns) KX hns hb hbb hlim hg ha hr F hl (.inl (.inr ⟨ob, Ha⟩)) O (fun b u z => ?_) (fun b z => Classical.byContradiction fun n => z (Hn n)) fun _ => hk
    by_cases n : b = a
    · subst n
      rw [Ha] at z
      cases z
      exact ⟨ha, by rw [List.length_map]; exact hl2, vs, _, rv, ha⟩
    · rw [Hn n] at z
      cases z
theorem walk_d {l : PySem.W.OpenLaw} {n k : Nat} {q : Program} {loose : List Str} {XP : (Str → Option Value) → Heap → Prop} {YP : World → Heap → Prop} {d : DefRec}
    (hn : l.most = some n) (hn2 : n ≤ sizeLine) (hdf : d.params.defaults = []) (hr : My.RG k callerA)
    (F : ∀ (w : World) (mg : Str → Option Value) (fa : Addr) (h : Heap), YP w h → h.Ns mainGlobals mg → mg d.name = some (.ref fa) → ∃ K : PySem.W.Frag, K.In h ∧ LawOk l.prog w K mg k n fa) :
    PySem.W.WalkO q loose XP YP l.row.toRowW d [] (fun f vs => PySem.call f vs) := by
  refine Att.attach_call hn hdf fun w s₀ t mg mb fa o pm cd doc a vs ns G Y ho hd hcd hmg hobj hints hlen hg => ?_
  obtain ⟨K, KX, hF⟩ := F w mg fa _ Y G.T.g hmg
  exact law_d KX G.T.g G.T.b G.T.builtins G.T.nolimit hg hobj hints hn2 hlen hr hF
end Dt

set_option Elab.async false
set_option linter.all false
set_option maxRecDepth 100000
set_option maxHeartbeats 4000000
namespace Toy
open PySem PySem.Spec PyProof.Rows L2 My Dt SX
def top (i : Nat) : Stmt := PySem.Challenge.pw_drawclaims_k22_whole_order_of_sets.main.body.getD i (.Pass ⟨0, 0, 0, 0⟩)
abbrev s_common_divisor : Stmt := (top 10)
theorem sc_common_divisor : FnScope ["first", "second", "great", "small"] ["first", "second"] (defScope s_common_divisor) := ⟨rfl, rfl, rfl, by decide +kernel, rfl, by decide +kernel, by decide +kernel⟩
abbrev s_common_multiple : Stmt := (top 11)
theorem sc_common_multiple : FnScope ["first", "second"] ["first", "second"] (defScope s_common_multiple) := ⟨rfl, rfl, rfl, by decide +kernel, rfl, by decide +kernel, by decide +kernel⟩
abbrev s_is_integer : Stmt := (top 9)
theorem sc_is_integer : FnScope ["value"] ["value"] (defScope s_is_integer) := ⟨rfl, rfl, rfl, by decide +kernel, rfl, by decide +kernel, by decide +kernel⟩
abbrev s_others : Stmt := (top 15)
theorem sc_others : FnScope ["ranges", "found", "start", "first", "last"] ["ranges"] (defScope s_others) := ⟨rfl, rfl, rfl, by decide +kernel, rfl, by decide +kernel, by decide +kernel⟩
abbrev s_common : Stmt := (top 16)
theorem sc_common : FnScope ["ranges", "more", "found", "first", "last", "start", "end", "low", "high"] ["ranges", "more"] (defScope s_common) := ⟨rfl, rfl, rfl, by decide +kernel, rfl, by decide +kernel, by decide +kernel⟩
abbrev s_indexes_of : Stmt := (top 17)
theorem sc_indexes_of : FnScope ["ranges", "rest", "modulus", "found", "first", "last", "low", "high"] ["ranges", "rest", "modulus"] (defScope s_indexes_of) := ⟨rfl, rfl, rfl, by decide +kernel, rfl, by decide +kernel, by decide +kernel⟩
abbrev s_sizes_of : Stmt := (top 18)
theorem sc_sizes_of : FnScope ["ranges", "rest", "modulus", "found", "first", "last"] ["ranges", "rest", "modulus"] (defScope s_sizes_of) := ⟨rfl, rfl, rfl, by decide +kernel, rfl, by decide +kernel, by decide +kernel⟩
abbrev s_picked : Stmt := (top 19)
theorem sc_picked : FnScope ["word", "ranges", "more"] ["word", "ranges", "more"] (defScope s_picked) := ⟨rfl, rfl, rfl, by decide +kernel, rfl, by decide +kernel, by decide +kernel⟩
abbrev s_check_number : Stmt := (top 20)
theorem sc_check_number : FnScope ["number"] ["number"] (defScope s_check_number) := ⟨rfl, rfl, rfl, by decide +kernel, rfl, by decide +kernel, by decide +kernel⟩
abbrev s_Sizes__init : Stmt := (inClass (top 21) 0)
theorem sc_Sizes__init : FnScope ["self", "modulus", "ranges"] ["self", "modulus", "ranges"] (defScope s_Sizes__init) := ⟨rfl, rfl, rfl, by decide +kernel, rfl, by decide +kernel, by decide +kernel⟩
abbrev s_Sizes_span : Stmt := (inClass (top 21) 1)
theorem sc_Sizes_span : FnScope ["first", "last"] ["first", "last"] (defScope s_Sizes_span) := ⟨rfl, rfl, rfl, by decide +kernel, rfl, by decide +kernel, by decide +kernel⟩
abbrev s_Sizes_rests : Stmt := (inClass (top 21) 2)
theorem sc_Sizes_rests : FnScope ["modulus", "rests", "least", "index", "chosen", "rest"] ["modulus", "rests"] (defScope s_Sizes_rests) := ⟨rfl, rfl, rfl, by decide +kernel, rfl, by decide +kernel, by decide +kernel⟩
abbrev s_Sizes_joined : Stmt := (inClass (top 21) 4)
theorem sc_Sizes_joined : FnScope ["self", "other", "word", "wide", "rows", "rest", "ranges", "more"] ["self", "other", "word"] (defScope s_Sizes_joined) := ⟨rfl, rfl, rfl, by decide +kernel, rfl, by decide +kernel, by decide +kernel⟩
abbrev s_Sizes__and : Stmt := (inClass (top 21) 5)
theorem sc_Sizes__and : FnScope ["self", "other"] ["self", "other"] (defScope s_Sizes__and) := ⟨rfl, rfl, rfl, by decide +kernel, rfl, by decide +kernel, by decide +kernel⟩
abbrev s_Sizes__or : Stmt := (inClass (top 21) 6)
theorem sc_Sizes__or : FnScope ["self", "other"] ["self", "other"] (defScope s_Sizes__or) := ⟨rfl, rfl, rfl, by decide +kernel, rfl, by decide +kernel, by decide +kernel⟩
abbrev s_Sizes__sub : Stmt := (inClass (top 21) 7)
theorem sc_Sizes__sub : FnScope ["self", "other"] ["self", "other"] (defScope s_Sizes__sub) := ⟨rfl, rfl, rfl, by decide +kernel, rfl, by decide +kernel, by decide +kernel⟩
abbrev s_Sizes__le : Stmt := (inClass (top 21) 9)
theorem sc_Sizes__le : FnScope ["self", "other"] ["self", "other"] (defScope s_Sizes__le) := ⟨rfl, rfl, rfl, by decide +kernel, rfl, by decide +kernel, by decide +kernel⟩
abbrev s_Sizes__eq : Stmt := (inClass (top 21) 10)
theorem sc_Sizes__eq : FnScope ["self", "other"] ["self", "other"] (defScope s_Sizes__eq) := ⟨rfl, rfl, rfl, by decide +kernel, rfl, by decide +kernel, by decide +kernel⟩
abbrev s_Sizes__bool : Stmt := (inClass (top 21) 11)
theorem sc_Sizes__bool : FnScope ["self", "ranges"] ["self"] (defScope s_Sizes__bool) := ⟨rfl, rfl, rfl, by decide +kernel, rfl, by decide +kernel, by decide +kernel⟩
abbrev s_law_purse : Stmt := (top 23)
theorem sc_law_purse : FnScope ["_law_script", "_law_place", "_law_cell", "_law_number_here", "_law_mixed"] ["_law_script", "_law_place"] (defScope s_law_purse) := ⟨rfl, rfl, rfl, by decide +kernel, rfl, by decide +kernel, by decide +kernel⟩
abbrev s_law_draw : Stmt := (top 24)
theorem sc_law_draw : FnScope ["_law_purse_here", "_law_many", "_law_mixed", "_law_step", "_law_digit"] ["_law_purse_here", "_law_many"] (defScope s_law_draw) := ⟨rfl, rfl, rfl, by decide +kernel, rfl, by decide +kernel, by decide +kernel⟩
abbrev s_law_number : Stmt := (top 25)
theorem sc_law_number : FnScope ["_law_purse_here", "_law_way", "_law_number_here"] ["_law_purse_here"] (defScope s_law_number) := ⟨rfl, rfl, rfl, by decide +kernel, rfl, by decide +kernel, by decide +kernel⟩
abbrev s_law_leaf : Stmt := (top 26)
theorem sc_law_leaf : FnScope ["_law_purse_here", "_law_moduli_here", "_law_first", "_law_way", "_law_modulus_here", "_law_places", "_law_turn", "_law_rest"] ["_law_purse_here", "_law_moduli_here"] (defScope s_law_leaf) := ⟨rfl, rfl, rfl, by decide +kernel, rfl, by decide +kernel, by decide +kernel⟩
abbrev s_law_tree : Stmt := (top 27)
theorem sc_law_tree : FnScope ["_law_purse_here", "_law_moduli_here", "_law_deep", "_law_way", "_law_one"] ["_law_purse_here", "_law_moduli_here", "_law_deep"] (defScope s_law_tree) := ⟨rfl, rfl, rfl, by decide +kernel, rfl, by decide +kernel, by decide +kernel⟩
abbrev s_law_has : Stmt := (top 28)
theorem sc_law_has : FnScope ["_law_tree_here", "_law_x", "_law_one", "_law_two"] ["_law_tree_here", "_law_x"] (defScope s_law_has) := ⟨rfl, rfl, rfl, by decide +kernel, rfl, by decide +kernel, by decide +kernel⟩
abbrev s_law_common : Stmt := (top 29)
theorem sc_law_common : FnScope ["_law_one", "_law_two", "_law_great", "_law_small"] ["_law_one", "_law_two"] (defScope s_law_common) := ⟨rfl, rfl, rfl, by decide +kernel, rfl, by decide +kernel, by decide +kernel⟩
abbrev s_law_modulus : Stmt := (top 30)
theorem sc_law_modulus : FnScope ["_law_tree_here"] ["_law_tree_here"] (defScope s_law_modulus) := ⟨rfl, rfl, rfl, by decide +kernel, rfl, by decide +kernel, by decide +kernel⟩
abbrev s_law_cuts : Stmt := (top 31)
theorem sc_law_cuts : FnScope ["_law_tree_here"] ["_law_tree_here"] (defScope s_law_cuts) := ⟨rfl, rfl, rfl, by decide +kernel, rfl, by decide +kernel, by decide +kernel⟩
abbrev s_law_points : Stmt := (top 32)
theorem sc_law_points : FnScope ["_law_cuts_here", "_law_modulus_here", "_law_some", "_law_cut", "_law_x"] ["_law_cuts_here", "_law_modulus_here"] (defScope s_law_points) := ⟨rfl, rfl, rfl, by decide +kernel, rfl, by decide +kernel, by decide +kernel⟩
abbrev s_law_rests : Stmt := (top 33)
theorem sc_law_rests : FnScope ["_law_modulus_here", "_law_rests_here", "_law_one"] ["_law_modulus_here", "_law_rests_here"] (defScope s_law_rests) := ⟨rfl, rfl, rfl, by decide +kernel, rfl, by decide +kernel, by decide +kernel⟩
abbrev s_law_set : Stmt := (top 34)
theorem sc_law_set : FnScope ["_law_tree_here", "_law_one", "_law_two"] ["_law_tree_here"] (defScope s_law_set) := ⟨rfl, rfl, rfl, by decide +kernel, rfl, by decide +kernel, by decide +kernel⟩
abbrev s_law_moduli : Stmt := (top 35)
theorem sc_law_moduli : FnScope ["_law_purse_here", "_law_way"] ["_law_purse_here"] (defScope s_law_moduli) := ⟨rfl, rfl, rfl, by decide +kernel, rfl, by decide +kernel, by decide +kernel⟩
abbrev s_law_compared_right : Stmt := (top 36)
theorem sc_law_compared_right : FnScope ["_law_first", "_law_second", "_law_modulus_here", "_law_points_here", "_law_left", "_law_right_here", "_law_less", "_law_more", "_law_one", "_law_two", "_law_told", "_law_same", "_law_x"] ["_law_first", "_law_second"] (defScope s_law_compared_right) := ⟨rfl, rfl, rfl, by decide +kernel, rfl, by decide +kernel, by decide +kernel⟩
abbrev s_law_ways_right : Stmt := (top 37)
theorem sc_law_ways_right : FnScope ["_law_first", "_law_second", "_law_left", "_law_right_here", "_law_one", "_law_two"] ["_law_first", "_law_second"] (defScope s_law_ways_right) := ⟨rfl, rfl, rfl, by decide +kernel, rfl, by decide +kernel, by decide +kernel⟩
abbrev s_law_right : Stmt := (top 38)
theorem sc_law_right : FnScope ["_law_purse_here", "_law_moduli_here", "_law_extra", "_law_first", "_law_second", "_law_more", "_law_wide", "_law_pair", "_law_made", "_law_thing"] ["_law_purse_here"] (defScope s_law_right) := ⟨rfl, rfl, rfl, by decide +kernel, rfl, by decide +kernel, by decide +kernel⟩
abbrev s_law : Stmt := (top 39)
theorem sc_law : FnScope ["_law_script", "_law_place"] ["_law_script"] (defScope s_law) := ⟨rfl, rfl, rfl, by decide +kernel, rfl, by decide +kernel, by decide +kernel⟩
def d_common_divisor : Hk.DefE := ⟨fun K => He.ga K "common_divisor", "common_divisor", "common_divisor", defArgs s_common_divisor, defBody s_common_divisor, defScope s_common_divisor, [], []⟩
def d_common_multiple : Hk.DefE := ⟨fun K => He.ga K "common_multiple", "common_multiple", "common_multiple", defArgs s_common_multiple, defBody s_common_multiple, defScope s_common_multiple, [], []⟩
def d_is_integer : Hk.DefE := ⟨fun K => He.ga K "is_integer", "is_integer", "is_integer", defArgs s_is_integer, defBody s_is_integer, defScope s_is_integer, [], []⟩
def d_others : Hk.DefE := ⟨fun K => He.ga K "others", "others", "others", defArgs s_others, defBody s_others, defScope s_others, [], []⟩
def d_common : Hk.DefE := ⟨fun K => He.ga K "common", "common", "common", defArgs s_common, defBody s_common, defScope s_common, [], []⟩
def d_indexes_of : Hk.DefE := ⟨fun K => He.ga K "indexes_of", "indexes_of", "indexes_of", defArgs s_indexes_of, defBody s_indexes_of, defScope s_indexes_of, [], []⟩
def d_sizes_of : Hk.DefE := ⟨fun K => He.ga K "sizes_of", "sizes_of", "sizes_of", defArgs s_sizes_of, defBody s_sizes_of, defScope s_sizes_of, [], []⟩
def d_picked : Hk.DefE := ⟨fun K => He.ga K "picked", "picked", "picked", defArgs s_picked, defBody s_picked, defScope s_picked, [], []⟩
def d_check_number : Hk.DefE := ⟨fun K => He.ga K "check_number", "check_number", "check_number", defArgs s_check_number, defBody s_check_number, defScope s_check_number, [], []⟩
def d_Sizes__init : Hk.DefE := ⟨fun K => He.ma K (He.ga K "Sizes") "__init__", "__init__", "Sizes.__init__", defArgs s_Sizes__init, defBody s_Sizes__init, defScope s_Sizes__init, [], []⟩
def d_Sizes_span : Hk.DefE := ⟨Hk.wfA "Sizes" "staticmethod" "span", "span", "Sizes.span", defArgs s_Sizes_span, defBody s_Sizes_span, defScope s_Sizes_span, [.non], []⟩
def d_Sizes_rests : Hk.DefE := ⟨Hk.wfA "Sizes" "staticmethod" "rests", "rests", "Sizes.rests", defArgs s_Sizes_rests, defBody s_Sizes_rests, defScope s_Sizes_rests, [], []⟩
def d_Sizes_joined : Hk.DefE := ⟨fun K => He.ma K (He.ga K "Sizes") "joined", "joined", "Sizes.joined", defArgs s_Sizes_joined, defBody s_Sizes_joined, defScope s_Sizes_joined, [], []⟩
def d_Sizes__and : Hk.DefE := ⟨fun K => He.ma K (He.ga K "Sizes") "__and__", "__and__", "Sizes.__and__", defArgs s_Sizes__and, defBody s_Sizes__and, defScope s_Sizes__and, [], []⟩
def d_Sizes__or : Hk.DefE := ⟨fun K => He.ma K (He.ga K "Sizes") "__or__", "__or__", "Sizes.__or__", defArgs s_Sizes__or, defBody s_Sizes__or, defScope s_Sizes__or, [], []⟩
def d_Sizes__sub : Hk.DefE := ⟨fun K => He.ma K (He.ga K "Sizes") "__sub__", "__sub__", "Sizes.__sub__", defArgs s_Sizes__sub, defBody s_Sizes__sub, defScope s_Sizes__sub, [], []⟩
def d_Sizes__le : Hk.DefE := ⟨fun K => He.ma K (He.ga K "Sizes") "__le__", "__le__", "Sizes.__le__", defArgs s_Sizes__le, defBody s_Sizes__le, defScope s_Sizes__le, [], []⟩
def d_Sizes__eq : Hk.DefE := ⟨fun K => He.ma K (He.ga K "Sizes") "__eq__", "__eq__", "Sizes.__eq__", defArgs s_Sizes__eq, defBody s_Sizes__eq, defScope s_Sizes__eq, [], []⟩
def d_Sizes__bool : Hk.DefE := ⟨fun K => He.ma K (He.ga K "Sizes") "__bool__", "__bool__", "Sizes.__bool__", defArgs s_Sizes__bool, defBody s_Sizes__bool, defScope s_Sizes__bool, [], []⟩
def d_law_purse : Hk.DefE := ⟨fun K => He.ga K "_law_purse", "_law_purse", "_law_purse", defArgs s_law_purse, defBody s_law_purse, defScope s_law_purse, [], []⟩
def d_law_draw : Hk.DefE := ⟨fun K => He.ga K "_law_draw", "_law_draw", "_law_draw", defArgs s_law_draw, defBody s_law_draw, defScope s_law_draw, [], []⟩
def d_law_number : Hk.DefE := ⟨fun K => He.ga K "_law_number", "_law_number", "_law_number", defArgs s_law_number, defBody s_law_number, defScope s_law_number, [], []⟩
def d_law_leaf : Hk.DefE := ⟨fun K => He.ga K "_law_leaf", "_law_leaf", "_law_leaf", defArgs s_law_leaf, defBody s_law_leaf, defScope s_law_leaf, [], []⟩
def d_law_tree : Hk.DefE := ⟨fun K => He.ga K "_law_tree", "_law_tree", "_law_tree", defArgs s_law_tree, defBody s_law_tree, defScope s_law_tree, [], []⟩
def d_law_has : Hk.DefE := ⟨fun K => He.ga K "_law_has", "_law_has", "_law_has", defArgs s_law_has, defBody s_law_has, defScope s_law_has, [], []⟩
def d_law_common : Hk.DefE := ⟨fun K => He.ga K "_law_common", "_law_common", "_law_common", defArgs s_law_common, defBody s_law_common, defScope s_law_common, [], []⟩
def d_law_modulus : Hk.DefE := ⟨fun K => He.ga K "_law_modulus", "_law_modulus", "_law_modulus", defArgs s_law_modulus, defBody s_law_modulus, defScope s_law_modulus, [], []⟩
def d_law_cuts : Hk.DefE := ⟨fun K => He.ga K "_law_cuts", "_law_cuts", "_law_cuts", defArgs s_law_cuts, defBody s_law_cuts, defScope s_law_cuts, [], []⟩
def d_law_points : Hk.DefE := ⟨fun K => He.ga K "_law_points", "_law_points", "_law_points", defArgs s_law_points, defBody s_law_points, defScope s_law_points, [], []⟩
def d_law_rests : Hk.DefE := ⟨fun K => He.ga K "_law_rests", "_law_rests", "_law_rests", defArgs s_law_rests, defBody s_law_rests, defScope s_law_rests, [], []⟩
def d_law_set : Hk.DefE := ⟨fun K => He.ga K "_law_set", "_law_set", "_law_set", defArgs s_law_set, defBody s_law_set, defScope s_law_set, [], []⟩
def d_law_moduli : Hk.DefE := ⟨fun K => He.ga K "_law_moduli", "_law_moduli", "_law_moduli", defArgs s_law_moduli, defBody s_law_moduli, defScope s_law_moduli, [], []⟩
def d_law_compared_right : Hk.DefE := ⟨fun K => He.ga K "_law_compared_right", "_law_compared_right", "_law_compared_right", defArgs s_law_compared_right, defBody s_law_compared_right, defScope s_law_compared_right, [], []⟩
def d_law_ways_right : Hk.DefE := ⟨fun K => He.ga K "_law_ways_right", "_law_ways_right", "_law_ways_right", defArgs s_law_ways_right, defBody s_law_ways_right, defScope s_law_ways_right, [], []⟩
def d_law_right : Hk.DefE := ⟨fun K => He.ga K "_law_right", "_law_right", "_law_right", defArgs s_law_right, defBody s_law_right, defScope s_law_right, [], []⟩
def d_law : Hk.DefE := ⟨fun K => He.ga K "law", "law", "law", defArgs s_law, defBody s_law, defScope s_law, [], []⟩
def fn : List Hk.DefE := [d_common_divisor, d_common_multiple, d_is_integer, d_others, d_common, d_indexes_of, d_sizes_of, d_picked, d_check_number, d_Sizes__init, d_Sizes_span, d_Sizes_rests, d_Sizes_joined, d_Sizes__and, d_Sizes__or, d_Sizes__sub, d_Sizes__le, d_Sizes__eq, d_Sizes__bool, d_law_purse, d_law_draw, d_law_number, d_law_leaf, d_law_tree, d_law_has, d_law_common, d_law_modulus, d_law_cuts, d_law_points, d_law_rests, d_law_set, d_law_moduli, d_law_compared_right, d_law_ways_right, d_law_right, d_law]
def fa : List He.Fa := [.glo "common_divisor", .glo "common_multiple", .glo "is_integer", .glo "others", .glo "common", .glo "indexes_of", .glo "sizes_of", .glo "picked", .glo "check_number", .glo "_law_purse", .glo "_law_draw", .glo "_law_number", .glo "_law_leaf", .glo "_law_tree", .glo "_law_has", .glo "_law_common", .glo "_law_modulus", .glo "_law_cuts", .glo "_law_points", .glo "_law_rests", .glo "_law_set", .glo "_law_moduli", .glo "_law_compared_right", .glo "_law_ways_right", .glo "_law_right", .glo "law", .free "isinstance", .free "int", .free "bool", .free "abs", .free "len", .free "divmod", .free "range", .free "max", .free "min", .free "repr", .free "all", .free "any", .free "list", .free "tuple", .free "zip", .int "MODULUS" 5040, .int "MANY" 1000, .glo "Sizes", .cls "Sizes", .noat "Sizes" "modulus", .noat "Sizes" "ranges", .mkr "Sizes", .meth "Sizes" "joined"]
def exs (K : PySem.W.Frag) : List Bool := [spB K "Sizes" "__and__", spB K "Sizes" "__or__", spB K "Sizes" "__sub__", spB K "Sizes" "__le__", spB K "Sizes" "__eq__", spB K "Sizes" "__bool__", Dt.smtB K "Sizes" "span", Dt.smtB K "Sizes" "rests", neB K "Sizes", insB K "Sizes", PySem.W.selfFirst K (He.ga K "Sizes"), decide (PySem.W.subIn K (.type "int") (.ref (He.ga K "Sizes")) = some false), decide (PySem.W.subIn K (.type "bool") (.ref (He.ga K "Sizes")) = some false), decide (PySem.W.subIn K (.type "NoneType") (.ref (He.ga K "Sizes")) = some false), decide (PySem.W.subIn K (.type "str") (.ref (He.ga K "Sizes")) = some false), decide (PySem.W.subIn K (.type "list") (.ref (He.ga K "Sizes")) = some false), decide (PySem.W.subIn K (.type "tuple") (.ref (He.ga K "Sizes")) = some false), isiB K (.type "int") (.ref (He.ga K "Sizes")) false, isiB K (.type "bool") (.ref (He.ga K "Sizes")) false, isiB K (.type "NoneType") (.ref (He.ga K "Sizes")) false, isiB K (.type "str") (.ref (He.ga K "Sizes")) false, isiB K (.type "list") (.ref (He.ga K "Sizes")) false, isiB K (.type "tuple") (.ref (He.ga K "Sizes")) false, isiB K (.ref (He.ga K "Sizes")) (.ref (He.ga K "Sizes")) true, isiB K (.type "int") (.type "int") true, isiB K (.type "int") (.type "bool") false]
def ex (K : PySem.W.Frag) : Bool := (exs K).all id
theorem ex_at {K : PySem.W.Frag} (c : Hk.SaysE fa fn ex K) (i : Nat) {b : Bool} (h : (exs K)[i]? = some b) : b = true := List.all_eq_true.mp c.more b (List.mem_of_getElem? h)
/-- what the top has written -/
structure Tx (K : PySem.W.Frag) (mg : Str → Option Value) : Prop where
  d_common_divisor : ∃ fd, FunD K "common_divisor" "common_divisor" (defArgs s_common_divisor) (defBody s_common_divisor) (defScope s_common_divisor) (d_common_divisor.dvs K) (d_common_divisor.kws K) (d_common_divisor.adr K) fd
  g_common_divisor : mg "common_divisor" = some (.ref (He.ga K "common_divisor"))
  d_common_multiple : ∃ fd, FunD K "common_multiple" "common_multiple" (defArgs s_common_multiple) (defBody s_common_multiple) (defScope s_common_multiple) (d_common_multiple.dvs K) (d_common_multiple.kws K) (d_common_multiple.adr K) fd
  g_common_multiple : mg "common_multiple" = some (.ref (He.ga K "common_multiple"))
  d_is_integer : ∃ fd, FunD K "is_integer" "is_integer" (defArgs s_is_integer) (defBody s_is_integer) (defScope s_is_integer) (d_is_integer.dvs K) (d_is_integer.kws K) (d_is_integer.adr K) fd
  g_is_integer : mg "is_integer" = some (.ref (He.ga K "is_integer"))
  d_others : ∃ fd, FunD K "others" "others" (defArgs s_others) (defBody s_others) (defScope s_others) (d_others.dvs K) (d_others.kws K) (d_others.adr K) fd
  g_others : mg "others" = some (.ref (He.ga K "others"))
  d_common : ∃ fd, FunD K "common" "common" (defArgs s_common) (defBody s_common) (defScope s_common) (d_common.dvs K) (d_common.kws K) (d_common.adr K) fd
  g_common : mg "common" = some (.ref (He.ga K "common"))
  d_indexes_of : ∃ fd, FunD K "indexes_of" "indexes_of" (defArgs s_indexes_of) (defBody s_indexes_of) (defScope s_indexes_of) (d_indexes_of.dvs K) (d_indexes_of.kws K) (d_indexes_of.adr K) fd
  g_indexes_of : mg "indexes_of" = some (.ref (He.ga K "indexes_of"))
  d_sizes_of : ∃ fd, FunD K "sizes_of" "sizes_of" (defArgs s_sizes_of) (defBody s_sizes_of) (defScope s_sizes_of) (d_sizes_of.dvs K) (d_sizes_of.kws K) (d_sizes_of.adr K) fd
  g_sizes_of : mg "sizes_of" = some (.ref (He.ga K "sizes_of"))
  d_picked : ∃ fd, FunD K "picked" "picked" (defArgs s_picked) (defBody s_picked) (defScope s_picked) (d_picked.dvs K) (d_picked.kws K) (d_picked.adr K) fd
  g_picked : mg "picked" = some (.ref (He.ga K "picked"))
  d_check_number : ∃ fd, FunD K "check_number" "check_number" (defArgs s_check_number) (defBody s_check_number) (defScope s_check_number) (d_check_number.dvs K) (d_check_number.kws K) (d_check_number.adr K) fd
  g_check_number : mg "check_number" = some (.ref (He.ga K "check_number"))
  d_Sizes__init : ∃ fd, FunD K "__init__" "Sizes.__init__" (defArgs s_Sizes__init) (defBody s_Sizes__init) (defScope s_Sizes__init) (d_Sizes__init.dvs K) (d_Sizes__init.kws K) (d_Sizes__init.adr K) fd
  d_Sizes_span : ∃ fd, FunD K "span" "Sizes.span" (defArgs s_Sizes_span) (defBody s_Sizes_span) (defScope s_Sizes_span) (d_Sizes_span.dvs K) (d_Sizes_span.kws K) (d_Sizes_span.adr K) fd
  d_Sizes_rests : ∃ fd, FunD K "rests" "Sizes.rests" (defArgs s_Sizes_rests) (defBody s_Sizes_rests) (defScope s_Sizes_rests) (d_Sizes_rests.dvs K) (d_Sizes_rests.kws K) (d_Sizes_rests.adr K) fd
  d_Sizes_joined : ∃ fd, FunD K "joined" "Sizes.joined" (defArgs s_Sizes_joined) (defBody s_Sizes_joined) (defScope s_Sizes_joined) (d_Sizes_joined.dvs K) (d_Sizes_joined.kws K) (d_Sizes_joined.adr K) fd
  d_Sizes__and : ∃ fd, FunD K "__and__" "Sizes.__and__" (defArgs s_Sizes__and) (defBody s_Sizes__and) (defScope s_Sizes__and) (d_Sizes__and.dvs K) (d_Sizes__and.kws K) (d_Sizes__and.adr K) fd
  d_Sizes__or : ∃ fd, FunD K "__or__" "Sizes.__or__" (defArgs s_Sizes__or) (defBody s_Sizes__or) (defScope s_Sizes__or) (d_Sizes__or.dvs K) (d_Sizes__or.kws K) (d_Sizes__or.adr K) fd
  d_Sizes__sub : ∃ fd, FunD K "__sub__" "Sizes.__sub__" (defArgs s_Sizes__sub) (defBody s_Sizes__sub) (defScope s_Sizes__sub) (d_Sizes__sub.dvs K) (d_Sizes__sub.kws K) (d_Sizes__sub.adr K) fd
  d_Sizes__le : ∃ fd, FunD K "__le__" "Sizes.__le__" (defArgs s_Sizes__le) (defBody s_Sizes__le) (defScope s_Sizes__le) (d_Sizes__le.dvs K) (d_Sizes__le.kws K) (d_Sizes__le.adr K) fd
  d_Sizes__eq : ∃ fd, FunD K "__eq__" "Sizes.__eq__" (defArgs s_Sizes__eq) (defBody s_Sizes__eq) (defScope s_Sizes__eq) (d_Sizes__eq.dvs K) (d_Sizes__eq.kws K) (d_Sizes__eq.adr K) fd
  d_Sizes__bool : ∃ fd, FunD K "__bool__" "Sizes.__bool__" (defArgs s_Sizes__bool) (defBody s_Sizes__bool) (defScope s_Sizes__bool) (d_Sizes__bool.dvs K) (d_Sizes__bool.kws K) (d_Sizes__bool.adr K) fd
  d_law_purse : ∃ fd, FunD K "_law_purse" "_law_purse" (defArgs s_law_purse) (defBody s_law_purse) (defScope s_law_purse) (d_law_purse.dvs K) (d_law_purse.kws K) (d_law_purse.adr K) fd
  g_law_purse : mg "_law_purse" = some (.ref (He.ga K "_law_purse"))
  d_law_draw : ∃ fd, FunD K "_law_draw" "_law_draw" (defArgs s_law_draw) (defBody s_law_draw) (defScope s_law_draw) (d_law_draw.dvs K) (d_law_draw.kws K) (d_law_draw.adr K) fd
  g_law_draw : mg "_law_draw" = some (.ref (He.ga K "_law_draw"))
  d_law_number : ∃ fd, FunD K "_law_number" "_law_number" (defArgs s_law_number) (defBody s_law_number) (defScope s_law_number) (d_law_number.dvs K) (d_law_number.kws K) (d_law_number.adr K) fd
  g_law_number : mg "_law_number" = some (.ref (He.ga K "_law_number"))
  d_law_leaf : ∃ fd, FunD K "_law_leaf" "_law_leaf" (defArgs s_law_leaf) (defBody s_law_leaf) (defScope s_law_leaf) (d_law_leaf.dvs K) (d_law_leaf.kws K) (d_law_leaf.adr K) fd
  g_law_leaf : mg "_law_leaf" = some (.ref (He.ga K "_law_leaf"))
  d_law_tree : ∃ fd, FunD K "_law_tree" "_law_tree" (defArgs s_law_tree) (defBody s_law_tree) (defScope s_law_tree) (d_law_tree.dvs K) (d_law_tree.kws K) (d_law_tree.adr K) fd
  g_law_tree : mg "_law_tree" = some (.ref (He.ga K "_law_tree"))
  d_law_has : ∃ fd, FunD K "_law_has" "_law_has" (defArgs s_law_has) (defBody s_law_has) (defScope s_law_has) (d_law_has.dvs K) (d_law_has.kws K) (d_law_has.adr K) fd
  g_law_has : mg "_law_has" = some (.ref (He.ga K "_law_has"))
  d_law_common : ∃ fd, FunD K "_law_common" "_law_common" (defArgs s_law_common) (defBody s_law_common) (defScope s_law_common) (d_law_common.dvs K) (d_law_common.kws K) (d_law_common.adr K) fd
  g_law_common : mg "_law_common" = some (.ref (He.ga K "_law_common"))
  d_law_modulus : ∃ fd, FunD K "_law_modulus" "_law_modulus" (defArgs s_law_modulus) (defBody s_law_modulus) (defScope s_law_modulus) (d_law_modulus.dvs K) (d_law_modulus.kws K) (d_law_modulus.adr K) fd
  g_law_modulus : mg "_law_modulus" = some (.ref (He.ga K "_law_modulus"))
  d_law_cuts : ∃ fd, FunD K "_law_cuts" "_law_cuts" (defArgs s_law_cuts) (defBody s_law_cuts) (defScope s_law_cuts) (d_law_cuts.dvs K) (d_law_cuts.kws K) (d_law_cuts.adr K) fd
  g_law_cuts : mg "_law_cuts" = some (.ref (He.ga K "_law_cuts"))
  d_law_points : ∃ fd, FunD K "_law_points" "_law_points" (defArgs s_law_points) (defBody s_law_points) (defScope s_law_points) (d_law_points.dvs K) (d_law_points.kws K) (d_law_points.adr K) fd
  g_law_points : mg "_law_points" = some (.ref (He.ga K "_law_points"))
  d_law_rests : ∃ fd, FunD K "_law_rests" "_law_rests" (defArgs s_law_rests) (defBody s_law_rests) (defScope s_law_rests) (d_law_rests.dvs K) (d_law_rests.kws K) (d_law_rests.adr K) fd
  g_law_rests : mg "_law_rests" = some (.ref (He.ga K "_law_rests"))
  d_law_set : ∃ fd, FunD K "_law_set" "_law_set" (defArgs s_law_set) (defBody s_law_set) (defScope s_law_set) (d_law_set.dvs K) (d_law_set.kws K) (d_law_set.adr K) fd
  g_law_set : mg "_law_set" = some (.ref (He.ga K "_law_set"))
  d_law_moduli : ∃ fd, FunD K "_law_moduli" "_law_moduli" (defArgs s_law_moduli) (defBody s_law_moduli) (defScope s_law_moduli) (d_law_moduli.dvs K) (d_law_moduli.kws K) (d_law_moduli.adr K) fd
  g_law_moduli : mg "_law_moduli" = some (.ref (He.ga K "_law_moduli"))
  d_law_compared_right : ∃ fd, FunD K "_law_compared_right" "_law_compared_right" (defArgs s_law_compared_right) (defBody s_law_compared_right) (defScope s_law_compared_right) (d_law_compared_right.dvs K) (d_law_compared_right.kws K) (d_law_compared_right.adr K) fd
  g_law_compared_right : mg "_law_compared_right" = some (.ref (He.ga K "_law_compared_right"))
  d_law_ways_right : ∃ fd, FunD K "_law_ways_right" "_law_ways_right" (defArgs s_law_ways_right) (defBody s_law_ways_right) (defScope s_law_ways_right) (d_law_ways_right.dvs K) (d_law_ways_right.kws K) (d_law_ways_right.adr K) fd
  g_law_ways_right : mg "_law_ways_right" = some (.ref (He.ga K "_law_ways_right"))
  d_law_right : ∃ fd, FunD K "_law_right" "_law_right" (defArgs s_law_right) (defBody s_law_right) (defScope s_law_right) (d_law_right.dvs K) (d_law_right.kws K) (d_law_right.adr K) fd
  g_law_right : mg "_law_right" = some (.ref (He.ga K "_law_right"))
  d_law : ∃ fd, FunD K "law" "law" (defArgs s_law) (defBody s_law) (defScope s_law) (d_law.dvs K) (d_law.kws K) (d_law.adr K) fd
  g_law : mg "law" = some (.ref (He.ga K "law"))
  f_isinstance : mg "isinstance" = none
  f_int : mg "int" = none
  f_bool : mg "bool" = none
  f_abs : mg "abs" = none
  f_len : mg "len" = none
  f_divmod : mg "divmod" = none
  f_range : mg "range" = none
  f_max : mg "max" = none
  f_min : mg "min" = none
  f_repr : mg "repr" = none
  f_all : mg "all" = none
  f_any : mg "any" = none
  f_list : mg "list" = none
  f_tuple : mg "tuple" = none
  f_zip : mg "zip" = none
  c_MODULUS : ∃ t, mg "MODULUS" = some (.int 5040 t)
  c_MANY : ∃ t, mg "MANY" = some (.int 1000 t)
  g_Sizes : mg "Sizes" = some (.ref (He.ga K "Sizes"))
  cl_Sizes : Cls K (He.ga K "Sizes")
  n_Sizes_modulus : NoAttr K (He.ga K "Sizes") "modulus"
  n_Sizes_ranges : NoAttr K (He.ga K "Sizes") "ranges"
  mk_Sizes : Mg K (He.ga K "Sizes") (He.ma K (He.ga K "Sizes") "__init__")
  m_Sizes_joined : Meth K (He.ga K "Sizes") "joined" (He.ma K (He.ga K "Sizes") "joined")
  sp_Sizes__and : SpOk K (He.ga K "Sizes") "__and__" (He.ma K (He.ga K "Sizes") "__and__")
  sp_Sizes__or : SpOk K (He.ga K "Sizes") "__or__" (He.ma K (He.ga K "Sizes") "__or__")
  sp_Sizes__sub : SpOk K (He.ga K "Sizes") "__sub__" (He.ma K (He.ga K "Sizes") "__sub__")
  sp_Sizes__le : SpOk K (He.ga K "Sizes") "__le__" (He.ma K (He.ga K "Sizes") "__le__")
  sp_Sizes__eq : SpOk K (He.ga K "Sizes") "__eq__" (He.ma K (He.ga K "Sizes") "__eq__")
  sp_Sizes__bool : SpOk K (He.ga K "Sizes") "__bool__" (He.ma K (He.ga K "Sizes") "__bool__")
  smt_Sizes_span : Dt.SMet K (He.ga K "Sizes") "span" (Hk.wfA "Sizes" "staticmethod" "span" K)
  smt_Sizes_rests : Dt.SMet K (He.ga K "Sizes") "rests" (Hk.wfA "Sizes" "staticmethod" "rests" K)
  ne_Sizes : NeOk K (He.ga K "Sizes")
  in_Sizes : InsOk K (He.ga K "Sizes")
  sf_Sizes : PySem.W.selfFirst K (He.ga K "Sizes") = true
  sb_int : PySem.W.subIn K (.type "int") (.ref (He.ga K "Sizes")) = some false
  sb_bool : PySem.W.subIn K (.type "bool") (.ref (He.ga K "Sizes")) = some false
  sb_NoneType : PySem.W.subIn K (.type "NoneType") (.ref (He.ga K "Sizes")) = some false
  sb_str : PySem.W.subIn K (.type "str") (.ref (He.ga K "Sizes")) = some false
  sb_list : PySem.W.subIn K (.type "list") (.ref (He.ga K "Sizes")) = some false
  sb_tuple : PySem.W.subIn K (.type "tuple") (.ref (He.ga K "Sizes")) = some false
  i_Kint : PySem.W.kitOne K (.type "int") (.ref (He.ga K "Sizes")) = some false
  i_Kbool : PySem.W.kitOne K (.type "bool") (.ref (He.ga K "Sizes")) = some false
  i_KNoneType : PySem.W.kitOne K (.type "NoneType") (.ref (He.ga K "Sizes")) = some false
  i_Kstr : PySem.W.kitOne K (.type "str") (.ref (He.ga K "Sizes")) = some false
  i_Klist : PySem.W.kitOne K (.type "list") (.ref (He.ga K "Sizes")) = some false
  i_Ktuple : PySem.W.kitOne K (.type "tuple") (.ref (He.ga K "Sizes")) = some false
  i_S : PySem.W.kitOne K (.ref (He.ga K "Sizes")) (.ref (He.ga K "Sizes")) = some true
  i_II : PySem.W.kitOne K (.type "int") (.type "int") = some true
  i_IB : PySem.W.kitOne K (.type "int") (.type "bool") = some false
theorem tx_ok {K : PySem.W.Frag} {h : Heap} {mg : Str → Option Value} (X : K.In h) (G : h.Ns mainGlobals mg) (c : Hk.SaysE fa fn ex K) : Tx K mg where
  d_common_divisor := c.def_ 0 rfl
  g_common_divisor := He.glo_ok X G (c.fact 0 (f := .glo "common_divisor") rfl)
  d_common_multiple := c.def_ 1 rfl
  g_common_multiple := He.glo_ok X G (c.fact 1 (f := .glo "common_multiple") rfl)
  d_is_integer := c.def_ 2 rfl
  g_is_integer := He.glo_ok X G (c.fact 2 (f := .glo "is_integer") rfl)
  d_others := c.def_ 3 rfl
  g_others := He.glo_ok X G (c.fact 3 (f := .glo "others") rfl)
  d_common := c.def_ 4 rfl
  g_common := He.glo_ok X G (c.fact 4 (f := .glo "common") rfl)
  d_indexes_of := c.def_ 5 rfl
  g_indexes_of := He.glo_ok X G (c.fact 5 (f := .glo "indexes_of") rfl)
  d_sizes_of := c.def_ 6 rfl
  g_sizes_of := He.glo_ok X G (c.fact 6 (f := .glo "sizes_of") rfl)
  d_picked := c.def_ 7 rfl
  g_picked := He.glo_ok X G (c.fact 7 (f := .glo "picked") rfl)
  d_check_number := c.def_ 8 rfl
  g_check_number := He.glo_ok X G (c.fact 8 (f := .glo "check_number") rfl)
  d_Sizes__init := c.def_ 9 rfl
  d_Sizes_span := c.def_ 10 rfl
  d_Sizes_rests := c.def_ 11 rfl
  d_Sizes_joined := c.def_ 12 rfl
  d_Sizes__and := c.def_ 13 rfl
  d_Sizes__or := c.def_ 14 rfl
  d_Sizes__sub := c.def_ 15 rfl
  d_Sizes__le := c.def_ 16 rfl
  d_Sizes__eq := c.def_ 17 rfl
  d_Sizes__bool := c.def_ 18 rfl
  d_law_purse := c.def_ 19 rfl
  g_law_purse := He.glo_ok X G (c.fact 9 (f := .glo "_law_purse") rfl)
  d_law_draw := c.def_ 20 rfl
  g_law_draw := He.glo_ok X G (c.fact 10 (f := .glo "_law_draw") rfl)
  d_law_number := c.def_ 21 rfl
  g_law_number := He.glo_ok X G (c.fact 11 (f := .glo "_law_number") rfl)
  d_law_leaf := c.def_ 22 rfl
  g_law_leaf := He.glo_ok X G (c.fact 12 (f := .glo "_law_leaf") rfl)
  d_law_tree := c.def_ 23 rfl
  g_law_tree := He.glo_ok X G (c.fact 13 (f := .glo "_law_tree") rfl)
  d_law_has := c.def_ 24 rfl
  g_law_has := He.glo_ok X G (c.fact 14 (f := .glo "_law_has") rfl)
  d_law_common := c.def_ 25 rfl
  g_law_common := He.glo_ok X G (c.fact 15 (f := .glo "_law_common") rfl)
  d_law_modulus := c.def_ 26 rfl
  g_law_modulus := He.glo_ok X G (c.fact 16 (f := .glo "_law_modulus") rfl)
  d_law_cuts := c.def_ 27 rfl
  g_law_cuts := He.glo_ok X G (c.fact 17 (f := .glo "_law_cuts") rfl)
  d_law_points := c.def_ 28 rfl
  g_law_points := He.glo_ok X G (c.fact 18 (f := .glo "_law_points") rfl)
  d_law_rests := c.def_ 29 rfl
  g_law_rests := He.glo_ok X G (c.fact 19 (f := .glo "_law_rests") rfl)
  d_law_set := c.def_ 30 rfl
  g_law_set := He.glo_ok X G (c.fact 20 (f := .glo "_law_set") rfl)
  d_law_moduli := c.def_ 31 rfl
  g_law_moduli := He.glo_ok X G (c.fact 21 (f := .glo "_law_moduli") rfl)
  d_law_compared_right := c.def_ 32 rfl
  g_law_compared_right := He.glo_ok X G (c.fact 22 (f := .glo "_law_compared_right") rfl)
  d_law_ways_right := c.def_ 33 rfl
  g_law_ways_right := He.glo_ok X G (c.fact 23 (f := .glo "_law_ways_right") rfl)
  d_law_right := c.def_ 34 rfl
  g_law_right := He.glo_ok X G (c.fact 24 (f := .glo "_law_right") rfl)
  d_law := c.def_ 35 rfl
  g_law := He.glo_ok X G (c.fact 25 (f := .glo "law") rfl)
  f_isinstance := He.free_ok X G (c.fact 26 (f := .free "isinstance") rfl)
  f_int := He.free_ok X G (c.fact 27 (f := .free "int") rfl)
  f_bool := He.free_ok X G (c.fact 28 (f := .free "bool") rfl)
  f_abs := He.free_ok X G (c.fact 29 (f := .free "abs") rfl)
  f_len := He.free_ok X G (c.fact 30 (f := .free "len") rfl)
  f_divmod := He.free_ok X G (c.fact 31 (f := .free "divmod") rfl)
  f_range := He.free_ok X G (c.fact 32 (f := .free "range") rfl)
  f_max := He.free_ok X G (c.fact 33 (f := .free "max") rfl)
  f_min := He.free_ok X G (c.fact 34 (f := .free "min") rfl)
  f_repr := He.free_ok X G (c.fact 35 (f := .free "repr") rfl)
  f_all := He.free_ok X G (c.fact 36 (f := .free "all") rfl)
  f_any := He.free_ok X G (c.fact 37 (f := .free "any") rfl)
  f_list := He.free_ok X G (c.fact 38 (f := .free "list") rfl)
  f_tuple := He.free_ok X G (c.fact 39 (f := .free "tuple") rfl)
  f_zip := He.free_ok X G (c.fact 40 (f := .free "zip") rfl)
  c_MODULUS := He.int_ok X G (c.fact 41 (f := .int "MODULUS" 5040) rfl)
  c_MANY := He.int_ok X G (c.fact 42 (f := .int "MANY" 1000) rfl)
  g_Sizes := He.glo_ok X G (c.fact 43 (f := .glo "Sizes") rfl)
  cl_Sizes := He.cls_ok (c.fact 44 (f := .cls "Sizes") rfl)
  n_Sizes_modulus := He.noat_ok (c.fact 45 (f := .noat "Sizes" "modulus") rfl)
  n_Sizes_ranges := He.noat_ok (c.fact 46 (f := .noat "Sizes" "ranges") rfl)
  mk_Sizes := mg_ok (c.fact 47 (f := .mkr "Sizes") rfl)
  m_Sizes_joined := He.meth_ok (c.fact 48 (f := .meth "Sizes" "joined") rfl)
  sp_Sizes__and := spB_ok (ex_at c 0 rfl)
  sp_Sizes__or := spB_ok (ex_at c 1 rfl)
  sp_Sizes__sub := spB_ok (ex_at c 2 rfl)
  sp_Sizes__le := spB_ok (ex_at c 3 rfl)
  sp_Sizes__eq := spB_ok (ex_at c 4 rfl)
  sp_Sizes__bool := spB_ok (ex_at c 5 rfl)
  smt_Sizes_span := Dt.smtB_ok (ex_at c 6 rfl)
  smt_Sizes_rests := Dt.smtB_ok (ex_at c 7 rfl)
  ne_Sizes := neB_ok (ex_at c 8 rfl)
  in_Sizes := insB_ok (He.cls_ok (c.fact 44 (f := .cls "Sizes") rfl)) (ex_at c 9 rfl)
  sf_Sizes := (ex_at c 10 rfl)
  sb_int := of_decide_eq_true (ex_at c 11 rfl)
  sb_bool := of_decide_eq_true (ex_at c 12 rfl)
  sb_NoneType := of_decide_eq_true (ex_at c 13 rfl)
  sb_str := of_decide_eq_true (ex_at c 14 rfl)
  sb_list := of_decide_eq_true (ex_at c 15 rfl)
  sb_tuple := of_decide_eq_true (ex_at c 16 rfl)
  i_Kint := isiB_ok (ex_at c 17 rfl)
  i_Kbool := isiB_ok (ex_at c 18 rfl)
  i_KNoneType := isiB_ok (ex_at c 19 rfl)
  i_Kstr := isiB_ok (ex_at c 20 rfl)
  i_Klist := isiB_ok (ex_at c 21 rfl)
  i_Ktuple := isiB_ok (ex_at c 22 rfl)
  i_S := isiB_ok (ex_at c 23 rfl)
  i_II := isiB_ok (ex_at c 24 rfl)
  i_IB := isiB_ok (ex_at c 25 rfl)
end Toy

set_option Elab.async false
set_option linter.all false
set_option maxRecDepth 100000
set_option maxHeartbeats 4000000
namespace Toy
open PySem PySem.Spec PyProof.Rows L2 My Dt SX
local macro_rules | `(tactic| walk_at "rg") => `(tactic| first
  | omega
  | ((refine And.intro ?_ (And.intro ?_ (And.intro ?_ ?_))) <;> omega))
local macro_rules | `(tactic| walk_at "ls") => `(tactic| first
  | with_reducible exact ls_v
  | with_reducible exact ls_b
  | ((with_reducible refine' ls_p ?hlp); (case hlp => with_reducible assumption)))
local macro_rules | `(tactic| walk_at "start") => `(tactic| ((simp only [startM, startS, List.map_cons, List.map_nil, List.length_cons, List.length_nil, List.cons_append, List.nil_append, Nat.reduceAdd, Nat.reduceSub, List.replicate_succ, List.replicate_zero]); exact rfl))
local macro_rules | `(tactic| walk_at "set") => `(tactic| first
  | ((dsimp only [Int.reduceToNat, List.set_cons_zero, List.set_cons_succ]); done)
  | ((dsimp only [Int.reduceToNat, List.set_cons_zero, List.set_cons_succ]); exact rfl)
  | exact rfl)
local macro_rules | `(tactic| walk_at "sz") => `(tactic| first
  | exact sz_of (Nat.le_of_ble_eq_true rfl)
  | (apply sz_of; simp only [List.length_cons, List.length_nil, List.length_append, List.length_map]; omega))
local macro_rules | `(tactic| walk_at "side") => `(tactic| first
  | with_reducible assumption
  | omega
  | exact ml (by omega) (by omega)
  | exact mr (by omega) (by omega)
  | exact dv (by omega) (by omega)
  | exact Bd.mulOk (by with_reducible assumption) (by with_reducible assumption) (by decide) (by decide) (by decide)
  | exact Bd.div (by with_reducible assumption) (by omega) (by decide) (by decide)
  | (show (0 : Int) < _; omega)
  | exact ⟨by decide, by decide, by decide⟩
  | decide
  | exact rfl)
local macro_rules | `(tactic| walk_at "st") => `(tactic| first
  | with_reducible refine q_seq ?_
  | with_reducible refine q_end ?_
  | with_reducible refine q_nil ?_
  | with_reducible refine q_asg ?_
  | with_reducible refine q_ret ?_
  | with_reducible refine q_if ?_
  | with_reducible refine q_expr ?_
  | with_reducible refine q_retN ?_
  | with_reducible refine q_sub ?_
  | with_reducible refine q_for ?_
  | with_reducible refine q_par ?_
  | with_reducible refine q_par3 ?_
  | with_reducible refine q_asgF ?_
  | with_reducible refine q_asgC ?_
  | ((with_reducible refine' q_frz ?ef ?_); (case ef => exact rfl))
  | ((with_reducible refine' q_app ?ea ?eb ?_); (case ea => exact rfl); (case eb => walk_at "slen"))
  | with_reducible refine q_brk ?_
  | with_reducible refine q_cnt ?_
  | with_reducible refine q_fldS ?_
  | with_reducible refine q_fldP ?_
  | with_reducible refine q_raise ?_
  | with_reducible refine q_try ?_)
local macro_rules | `(tactic| walk_at "slen") => `(tactic| first
  | with_reducible assumption
  | ((rw [sizeLine_eq]); (simp only [List.length_cons, List.length_nil, List.length_append, List.length_map]); omega))
local macro_rules | `(tactic| walk_at "sm") => `(tactic| first
  | with_reducible refine s_add ?_
  | with_reducible refine s_sub ?_
  | ((with_reducible refine' s_mul ?hm ?_); (case hm => walk_at "side"))
  | ((with_reducible refine' s_fdiv ?hm ?_); (case hm => walk_at "side"))
  | ((with_reducible refine' s_mod ?hm ?_); (case hm => walk_at "side"))
  | with_reducible refine s_neg ?_
  | ((with_reducible refine' s_pow ?hm ?_); (case hm => walk_at "side"))
  | ((with_reducible refine' s_ixL ?hl ?he ?_); (case hl => walk_at "ls"); (case he => exact rfl))
  | ((with_reducible refine' s_ixT ?he ?_); (case he => exact rfl))
  | ((with_reducible refine' set_L2 ?ha ?hb ?hc ?_); (case ha => with_reducible assumption); (case hb => exact rfl); (case hc => walk_at "set"))
  | with_reducible refine s_addB ?_
  | with_reducible refine s_lt ?_
  | with_reducible refine s_le ?_
  | with_reducible refine s_gt ?_
  | with_reducible refine s_ge ?_
  | with_reducible refine s_eq ?_
  | with_reducible refine s_ne ?_
  | with_reducible refine s_eqS ?_
  | with_reducible refine s_neS ?_
  | with_reducible refine s_isN ?_
  | with_reducible refine s_isNotN ?_
  | with_reducible refine t_bl ?_)
local macro_rules | `(tactic| walk_at "cl") => `(tactic| first
  | with_reducible refine c_int ?_
  | with_reducible refine c_intB ?_
  | with_reducible refine c_abs ?_
  | ((with_reducible refine' c_max ?hm ?_); (case hm => exact rfl))
  | ((with_reducible refine' c_min ?hm ?_); (case hm => exact rfl))
  | ((with_reducible refine' c_divmod ?hm ?_); (case hm => walk_at "side"))
  | ((with_reducible refine' c_len ?hm ?_); (case hm => walk_at "sq"))
  | ((with_reducible refine' c_list ?hm ?_); (case hm => walk_at "sq"))
  | ((with_reducible refine' c_tuple ?hm ?_); (case hm => walk_at "sq")))
local macro_rules | `(tactic| walk_at "sq") => `(tactic| first
  | exact sqL
  | exact sqT
  | exact sqB
  | exact sqP (by with_reducible assumption))
local macro_rules | `(tactic| walk_at "v") => `(tactic| first
  | ((with_reducible refine' v_sh ?ev ?_); (case ev => exact rfl))
  | ((with_reducible refine' v_ol ?ev ?_); (case ev => exact rfl))
  | ((with_reducible refine' v_slf ?ev ?_); (case ev => exact rfl))
  | with_reducible refine q_val ?_
  | ((with_reducible refine' q_walk ?ew ?_); (case ew => exact rfl))
  | ((with_reducible refine' q_rng1 ?ej ?ek ?_); (case ej => walk_at "rg"); (case ek => walk_at "rg"))
  | ((with_reducible refine' q_rng2 ?ej ?_); (case ej => walk_at "rg"))
  | with_reducible refine q_rngL ?_
  | with_reducible refine q_solc ?_
  | with_reducible refine q_sol0 ?_
  | ((with_reducible refine' q_gname ?eg ?_); (case eg => walk_at "set"))
  | ((with_reducible refine' n_set ?eg ?_); (case eg => walk_at "set"))
  | ((with_reducible refine' n_set2 ?eg ?_); (case eg => walk_at "set"))
  | ((with_reducible refine' n_set3 ?eg ?_); (case eg => walk_at "set"))
  | with_reducible refine q_two ?_
  | with_reducible refine q_three ?_
  | with_reducible refine q_bl ?_
  | with_reducible refine q_oint ?_
  | ((with_reducible refine' q_gtup ?el ?_); (case el => exact rfl))
  | with_reducible refine q_gcons ?_
  | with_reducible refine q_gnil ?_
  | with_reducible refine i_t ?_
  | with_reducible refine i_f ?_
  | with_reducible refine i_nt ?_
  | with_reducible refine i_nf ?_
  | ((with_reducible refine' n_t ?en ?_); (case en => exact rfl))
  | ((with_reducible refine' n_f ?en ?_); (case en => exact rfl))
  | ((with_reducible refine' nn_t ?en ?_); (case en => exact rfl))
  | ((with_reducible refine' nn_f ?en ?_); (case en => exact rfl))
  | with_reducible refine And.intro (by walk_at "sz") ?_)
local macro_rules | `(tactic| walk_at "d") => `(tactic| first
  | walk_at "v"
  | walk_at "st"
  | walk_at "sm"
  | walk_at "cl"
  | walk_at "at")
local macro_rules | `(tactic| walk_at "dd") => `(tactic| repeat walk_at "d")

variable {P : Program} {w : World} {K : PySem.W.Frag} {mg : Str → Option Value} {base : Heap}
/-- a purse: what is drawn from -/
def Purse (S : Sto) (n : Nat) : Prop := ∃ a b c : Int, S[n]? = some (.lst [.int a, .int b, .int c]) ∧ 0 ≤ a ∧ a < 2147483629
theorem dv2 {i j : Int} (h1 : 0 < j) (h2 : j < 2 ^ 200) : CDivW i j := wide_div (b := 200) h1 (by omega) (by decide) (by decide)
theorem ok_draw (T : Tx K mg) {S : Sto} {n : Nat} {m : Int} {Ex : XS} {Q : QO} (h : Purse S n) (hm : 0 < m) (hm2 : m < 2 ^ 200) (q : ∀ (v : Int) (S' : Sto), 0 ≤ v → v < m → Purse S' n → Bt n S S' → Q (.v (.int v)) S') :
    sFun (bs P w K mg base) 1 (.ref (He.ga K "_law_draw")) [] [.ptr n, .int m] [] S Ex Q := by
  obtain ⟨a, b, c, e, a1, a2⟩ := h
  refine' call_d (B := bs P w K mg base) 0 (Classical.choose_spec T.d_law_draw) sc_law_draw rfl (bm_all (ps := ["_law_purse_here", "_law_many"]) (Classical.choose_spec T.d_law_draw) (fun _ _ _ _ _ _ us hl => match us, hl with | [_, _], _ => rfl)) (dss_cons (ds_sub (dv 0) de_int (de_bin (de_ix (dv 0) de_int (fun _ _ => rfl)) de_int)) (dss_cons (dst 2 (de_callT (T := "int") rfl T.f_int (by decide +kernel) (da_cons (de_ix (dv 0) de_int (fun _ _ => rfl)) da_nil))) (dss_cons (dst 3 (de_bin (de_bin (de_callT (T := "int") rfl T.f_int (by decide +kernel) (da_cons (dv 2) da_nil)) de_int) de_int)) (dss_cons (ds_sub (dv 0) de_int (de_bin (de_callT (T := "int") rfl T.f_int (by decide +kernel) (da_cons (de_bin (de_bin (de_bin (dv 2) (dv 3)) (de_bin de_int (de_ix (dv 0) de_int (fun _ _ => rfl)))) de_int) da_nil)) de_int)) (dss_cons (ds_if (dt_cmp (de_ix (dv 0) de_int (fun _ _ => rfl)) de_int) (dss_cons (ds_asg (de_callB (id := "divmod") rfl T.f_divmod (by decide +kernel) (da_cons (de_ix (dv 0) de_int (fun _ _ => rfl)) (da_cons (dv 1) da_nil))) (dg_tup (n := 2) rfl (dgs_cons (dg_sub (dv 0) de_int) (dgs_cons (dgn 4) dgs_nil)))) (dss_one (ds_ret (dv 4)))) dss_nil) (dss_one (ds_ret (de_bin (de_callT (T := "int") rfl T.f_int (by decide +kernel) (da_cons (de_bin (de_ix (dv 0) de_int (fun _ _ => rfl)) de_int) da_nil)) (dv 1))))))))) ⟨rfl, rfl⟩ ?st ?_
  case st => walk_at "start"
  walk_at "dd"
  intro S1 e1 s1
  clear e
  have r1 := Int.emod_nonneg a (show (40009 : Int) ≠ 0 by decide)
  have r2 := Int.emod_lt_of_pos a (show (0 : Int) < 40009 by decide)
  walk_at "dd"
  intro S2 e2 s2
  clear e1
  have b1 := Int.emod_nonneg (a * (a % 40009 + 20011) + 69997 * (c + 1) + 7) (show (2147483629 : Int) ≠ 0 by decide)
  have b2 := Int.emod_lt_of_pos (a * (a % 40009 + 20011) + 69997 * (c + 1) + 7) (show (0 : Int) < 2147483629 by decide)
  generalize (a * (a % 40009 + 20011) + 69997 * (c + 1) + 7) % 2147483629 = y at e2 b1 b2
  have s12 := s1.trans s2
  have p2 : Purse S2 n := ⟨y, b, c + 1, e2, b1, b2⟩
  walk_at "dd"
  refine i_two (fun h0 => ?_) fun h0 => ?_
  · have hd : CDivW b m := dv2 hm hm2
    walk_at "dd"
    intro S3 e3 s3
    walk_at "dd"
    exact q _ S3 (Int.emod_nonneg b (by omega)) (Int.emod_lt_of_pos b hm) ⟨y, b / m, c + 1, e3, b1, b2⟩ (s12.trans s3)
  · walk_at "dd"
    exact q _ S2 (Int.emod_nonneg _ (by omega)) (Int.emod_lt_of_pos _ hm) p2 s12
end Toy

set_option Elab.async false
set_option linter.all false
set_option maxRecDepth 100000
set_option maxHeartbeats 4000000
/-! K22M: ranges of integers, plain -/
namespace Toy
/-- a range: its first integer, its last one if there is one -/
abbrev Rg := Int × Option Int
def inR (x : Int) (r : Rg) : Prop := r.1 ≤ x ∧ ∀ h, r.2 = some h → x ≤ h
def mem (R : List Rg) (x : Int) : Prop := ∃ r ∈ R, inR x r
/-- ascending from s on, none empty, apart -/
def Asc : Int → List Rg → Prop
  | _, [] => True
  | s, (lo, none) :: r => s ≤ lo ∧ r = []
  | s, (lo, some hi) :: r => s ≤ lo ∧ lo ≤ hi ∧ Asc (hi + 1) r
theorem Asc.le {s t : Int} (h : t ≤ s) : ∀ {R : List Rg}, Asc s R → Asc t R
  | [], _ => trivial
  | (lo, none) :: r, a => ⟨by have := a.1; omega, a.2⟩
  | (lo, some hi) :: r, a => ⟨by have := a.1; omega, a.2⟩
theorem mem_nil {x : Int} : ¬ mem [] x := fun ⟨_, h, _⟩ => nomatch h
theorem mem_cons {r : Rg} {R : List Rg} {x : Int} : mem (r :: R) x ↔ inR x r ∨ mem R x := by
  constructor
  · rintro ⟨q, h, i⟩
    rcases List.mem_cons.mp h with e | h
    · exact .inl (e ▸ i)
    · exact .inr ⟨q, h, i⟩
  · rintro (h | ⟨q, h, i⟩)
    · exact ⟨r, List.mem_cons_self, h⟩
    · exact ⟨q, List.mem_cons_of_mem _ h, i⟩
theorem mem_app {R M : List Rg} {x : Int} : mem (R ++ M) x ↔ mem R x ∨ mem M x := by
  constructor
  · rintro ⟨q, h, i⟩
    rcases List.mem_append.mp h with h | h
    · exact .inl ⟨q, h, i⟩
    · exact .inr ⟨q, h, i⟩
  · rintro (⟨q, h, i⟩ | ⟨q, h, i⟩)
    · exact ⟨q, List.mem_append_left _ h, i⟩
    · exact ⟨q, List.mem_append_right _ h, i⟩
theorem inR_none {x lo : Int} : inR x (lo, none) ↔ lo ≤ x := ⟨fun h => h.1, fun h => ⟨h, fun _ e => nomatch e⟩⟩
theorem inR_some {x lo hi : Int} : inR x (lo, some hi) ↔ lo ≤ x ∧ x ≤ hi := ⟨fun h => ⟨h.1, h.2 hi rfl⟩, fun h => ⟨h.1, fun k e => by cases e; exact h.2⟩⟩
theorem Asc.ge {s x : Int} : ∀ {R : List Rg}, Asc s R → mem R x → s ≤ x
  | [], _, h => (mem_nil h).elim
  | (lo, none) :: r, a, h => by
    obtain ⟨a1, rfl⟩ := a
    rcases mem_cons.mp h with h | h
    · have := inR_none.mp h
      omega
    · exact (mem_nil h).elim
  | (lo, some hi) :: r, a, h => by
    obtain ⟨a1, a2, a3⟩ := a
    rcases mem_cons.mp h with h | h
    · have := (inR_some.mp h).1
      omega
    · have := a3.ge h
      omega
theorem Asc.ex {s : Int} : ∀ {R : List Rg}, Asc s R → R ≠ [] → ∃ x, mem R x
  | [], _, h => (h rfl).elim
  | (lo, none) :: r, _, _ => ⟨lo, mem_cons.mpr (.inl (inR_none.mpr (Int.le_refl _)))⟩
  | (lo, some hi) :: r, a, _ => ⟨lo, mem_cons.mpr (.inl (inR_some.mpr ⟨Int.le_refl _, a.2.1⟩))⟩
/-- what is in none of them, from s on -/
def comp : Int → List Rg → List Rg
  | s, [] => [(s, none)]
  | s, (lo, none) :: _ => if s < lo then [(s, some (lo - 1))] else []
  | s, (lo, some hi) :: r => (if s < lo then [(s, some (lo - 1))] else []) ++ comp (hi + 1) r
theorem comp_asc : ∀ {R : List Rg} {s : Int}, Asc s R → Asc s (comp s R)
  | [], s, _ => ⟨Int.le_refl _, rfl⟩
  | (lo, none) :: r, s, a => by
    unfold comp
    split
    · exact ⟨Int.le_refl _, by omega, trivial⟩
    · exact trivial
  | (lo, some hi) :: r, s, ⟨a1, a2, a3⟩ => by
    unfold comp
    have ih := comp_asc a3
    split
    · exact ⟨Int.le_refl _, by omega, ih.le (by omega)⟩
    · exact ih.le (by omega)
theorem comp_mem {x : Int} : ∀ {R : List Rg} {s : Int}, Asc s R → (mem (comp s R) x ↔ s ≤ x ∧ ¬ mem R x)
  | [], s, _ => by
    unfold comp
    rw [mem_cons, inR_none]
    exact ⟨fun h => h.elim (fun h => ⟨h, mem_nil⟩) fun h => (mem_nil h).elim, fun h => .inl h.1⟩
  | (lo, none) :: r, s, a => by
    obtain ⟨a1, rfl⟩ := a
    unfold comp
    rw [mem_cons, inR_none]
    split
    · rw [mem_cons, inR_some]
      constructor
      · rintro (h | h)
        · exact ⟨h.1, fun k => k.elim (fun k => by omega) mem_nil⟩
        · exact (mem_nil h).elim
      · rintro ⟨h1, h2⟩
        refine .inl ⟨h1, ?_⟩
        have : ¬ lo ≤ x := fun k => h2 (.inl k)
        omega
    · constructor
      · exact fun h => (mem_nil h).elim
      · rintro ⟨h1, h2⟩
        exact (h2 (.inl (by omega))).elim
  | (lo, some hi) :: r, s, ⟨a1, a2, a3⟩ => by
    unfold comp
    have ih := comp_mem (x := x) a3
    have g := fun (h : mem r x) => a3.ge h
    rw [mem_app, ih, mem_cons, inR_some]
    split
    · rw [mem_cons, inR_some]
      constructor
      · rintro ((h | h) | h)
        · exact ⟨h.1, fun k => k.elim (fun k => by omega) fun k => by have := g k; omega⟩
        · exact (mem_nil h).elim
        · exact ⟨by omega, fun k => k.elim (fun k => by omega) h.2⟩
      · rintro ⟨h1, h2⟩
        by_cases c : x < lo
        · exact .inl (.inl ⟨h1, by omega⟩)
        · refine .inr ⟨?_, fun k => h2 (.inr k)⟩
          have : ¬ (lo ≤ x ∧ x ≤ hi) := fun k => h2 (.inl k)
          omega
    · constructor
      · rintro (h | h)
        · exact (mem_nil h).elim
        · exact ⟨by omega, fun k => k.elim (fun k => by omega) h.2⟩
      · rintro ⟨h1, h2⟩
        refine .inr ⟨?_, fun k => h2 (.inr k)⟩
        have : ¬ (lo ≤ x ∧ x ≤ hi) := fun k => h2 (.inl k)
        omega
theorem comp2_mem {R : List Rg} {x : Int} (a : Asc 0 R) : mem (comp 0 (comp 0 R)) x ↔ mem R x := by
  rw [comp_mem (comp_asc a), comp_mem a]
  constructor
  · rintro ⟨h1, h2⟩
    by_cases c : mem R x
    · exact c
    · exact (h2 ⟨h1, c⟩).elim
  · exact fun h => ⟨a.ge h, fun k => k.2 h⟩
/-! what is in both -/
def hiMin : Option Int → Option Int → Option Int
  | none, e => e
  | some l, none => some l
  | some l, some e => if e < l then some e else some l
def mx (a b : Int) : Int := if a > b then a else b
theorem mx_le {a b x : Int} : mx a b ≤ x ↔ a ≤ x ∧ b ≤ x := by
  unfold mx
  split <;> omega
def one (lo : Int) : Option Int → List Rg
  | none => [(lo, none)]
  | some h => if lo ≤ h then [(lo, some h)] else []
theorem one_def {lo h : Int} : one lo (some h) = if lo ≤ h then [(lo, some h)] else [] := rfl
theorem one_some {lo h x : Int} : mem (one lo (some h)) x ↔ lo ≤ x ∧ x ≤ h := by
  rw [one_def]
  split
  · rw [mem_cons, inR_some]
    exact ⟨fun k => k.elim id fun k => (mem_nil k).elim, .inl⟩
  · exact ⟨fun k => (mem_nil k).elim, fun k => by omega⟩
theorem one_none {lo x : Int} : mem (one lo none) x ↔ lo ≤ x := by
  unfold one
  rw [mem_cons, inR_none]
  exact ⟨fun k => k.elim id fun k => (mem_nil k).elim, .inl⟩
def both1 (r q : Rg) : List Rg := one (mx r.1 q.1) (hiMin r.2 q.2)
def bothL (r : Rg) (M : List Rg) : List Rg := (M.map (both1 r)).flatten
def bothR (R M : List Rg) : List Rg := (R.map fun r => bothL r M).flatten
theorem both1_mem {r q : Rg} {x : Int} : mem (both1 r q) x ↔ inR x r ∧ inR x q := by
  obtain ⟨a, b⟩ := r
  obtain ⟨c, d⟩ := q
  unfold both1
  cases b with
  | none =>
    cases d with
    | none => rw [show hiMin none none = none from rfl, one_none, inR_none, inR_none, mx_le]
    | some d =>
      rw [show hiMin none (some d) = some d from rfl, one_some, inR_none, inR_some, mx_le]
      exact ⟨fun h => ⟨h.1.1, h.1.2, h.2⟩, fun h => ⟨⟨h.1, h.2.1⟩, h.2.2⟩⟩
  | some b =>
    cases d with
    | none =>
      rw [show hiMin (some b) none = some b from rfl, one_some, inR_none, inR_some, mx_le]
      exact ⟨fun h => ⟨⟨h.1.1, h.2⟩, h.1.2⟩, fun h => ⟨⟨h.1.1, h.2⟩, h.1.2⟩⟩
    | some d =>
      rw [inR_some, inR_some]
      by_cases e : d < b
      · rw [show hiMin (some b) (some d) = some d from if_pos e, one_some, mx_le]
        constructor
        · rintro ⟨⟨h1, h2⟩, h3⟩
          exact ⟨⟨h1, by omega⟩, h2, h3⟩
        · rintro ⟨⟨h1, h2⟩, h3, h4⟩
          exact ⟨⟨h1, h3⟩, h4⟩
      · rw [show hiMin (some b) (some d) = some b from if_neg e, one_some, mx_le]
        constructor
        · rintro ⟨⟨h1, h2⟩, h3⟩
          exact ⟨⟨h1, h3⟩, h2, by omega⟩
        · rintro ⟨⟨h1, h2⟩, h3, h4⟩
          exact ⟨⟨h1, h3⟩, h2⟩
theorem mem_flat {α : Type} {l : List α} {f : α → List Rg} {x : Int} : mem ((l.map f).flatten) x ↔ ∃ a ∈ l, mem (f a) x := by
  constructor
  · rintro ⟨r, h, i⟩
    obtain ⟨L, hL, hr⟩ := List.mem_flatten.mp h
    obtain ⟨a, ha, rfl⟩ := List.mem_map.mp hL
    exact ⟨a, ha, r, hr, i⟩
  · rintro ⟨a, ha, r, hr, i⟩
    exact ⟨r, List.mem_flatten.mpr ⟨_, List.mem_map.mpr ⟨a, ha, rfl⟩, hr⟩, i⟩
theorem bothR_mem {R M : List Rg} {x : Int} : mem (bothR R M) x ↔ mem R x ∧ mem M x := by
  unfold bothR
  rw [mem_flat]
  constructor
  · rintro ⟨r, hr, h⟩
    unfold bothL at h
    obtain ⟨q, hq, h⟩ := mem_flat.mp h
    obtain ⟨h1, h2⟩ := both1_mem.mp h
    exact ⟨⟨r, hr, h1⟩, ⟨q, hq, h2⟩⟩
  · rintro ⟨⟨r, hr, h1⟩, ⟨q, hq, h2⟩⟩
    exact ⟨r, hr, mem_flat.mpr ⟨q, hq, both1_mem.mpr ⟨h1, h2⟩⟩⟩
theorem asc_app {h : Int} {B : List Rg} (b : Asc (h + 1) B) : ∀ {A : List Rg} {s : Int}, Asc s A → (∀ r ∈ A, ∃ k, r.2 = some k ∧ k ≤ h) → s ≤ h + 1 → Asc s (A ++ B)
  | [], s, _, _, l => b.le l
  | (lo, none) :: r, s, _, f, _ => by
    obtain ⟨k, e, _⟩ := f _ List.mem_cons_self
    cases e
  | (lo, some hi) :: r, s, a, f, l => by
    obtain ⟨k, e, e2⟩ := f _ List.mem_cons_self
    cases e
    exact ⟨a.1, a.2.1, asc_app b a.2.2 (fun q hq => f q (List.mem_cons_of_mem _ hq)) (by omega)⟩
theorem bothL_asc {lo : Int} {b : Option Int} : ∀ {M : List Rg} {t u : Int}, Asc t M → u ≤ lo ∨ u ≤ t → Asc u (bothL (lo, b) M)
  | [], _, _, _, _ => trivial
  | (c, none) :: M, t, u, a, l => by
    obtain ⟨a1, rfl⟩ := a
    show Asc u (both1 (lo, b) (c, none) ++ [])
    rw [List.append_nil]
    have hu : u ≤ mx lo c := by
      unfold mx
      split <;> omega
    unfold both1
    cases b with
    | none => exact ⟨hu, rfl⟩
    | some b =>
      show Asc u (one _ (some b))
      rw [one_def]
      split
      · exact ⟨hu, by assumption, trivial⟩
      · trivial
  | (c, some d) :: M, t, u, ⟨a1, a2, a3⟩, l => by
    show Asc u (both1 (lo, b) (c, some d) ++ bothL (lo, b) M)
    have hu : u ≤ mx lo c := by
      unfold mx
      split <;> omega
    have key : ∀ h, h ≤ d → Asc u (one (mx lo c) (some h) ++ bothL (lo, b) M) := fun h hd => by
      rw [one_def]
      split
      · exact ⟨hu, by assumption, bothL_asc a3 (.inr (by omega))⟩
      · exact bothL_asc a3 (by omega)
    unfold both1
    cases b with
    | none => exact key d (Int.le_refl _)
    | some b =>
      by_cases e : d < b
      · rw [show hiMin (some b) (some d) = some d from if_pos e]
        exact key d (Int.le_refl _)
      · rw [show hiMin (some b) (some d) = some b from if_neg e]
        exact key b (by omega)
theorem one_end {lo h : Int} {r : Rg} (i : r ∈ one lo (some h)) : r.2 = some h := by
  rw [one_def] at i
  split at i
  · obtain rfl := List.mem_singleton.mp i
    rfl
  · cases i
theorem bothL_end {lo hi : Int} {M : List Rg} {r : Rg} (h : r ∈ bothL (lo, some hi) M) : ∃ k, r.2 = some k ∧ k ≤ hi := by
  obtain ⟨L, hL, hr⟩ := List.mem_flatten.mp h
  obtain ⟨⟨c, d⟩, hq, rfl⟩ := List.mem_map.mp hL
  unfold both1 at hr
  cases d with
  | none => exact ⟨hi, one_end hr, Int.le_refl _⟩
  | some d =>
    by_cases e : d < hi
    · rw [show hiMin (some hi) (some d) = some d from if_pos e] at hr
      exact ⟨d, one_end hr, by omega⟩
    · rw [show hiMin (some hi) (some d) = some hi from if_neg e] at hr
      exact ⟨hi, one_end hr, Int.le_refl _⟩
theorem bothR_asc {M : List Rg} {t : Int} (m : Asc t M) : ∀ {R : List Rg} {s : Int}, Asc s R → Asc s (bothR R M)
  | [], _, _ => trivial
  | (lo, none) :: R, s, a => by
    obtain ⟨a1, rfl⟩ := a
    show Asc s (bothL (lo, none) M ++ [])
    rw [List.append_nil]
    exact bothL_asc m (.inl a1)
  | (lo, some hi) :: R, s, ⟨a1, a2, a3⟩ => by
    show Asc s (bothL (lo, some hi) M ++ bothR R M)
    exact asc_app (bothR_asc m a3) (bothL_asc m (.inl a1)) (fun r hr => bothL_end hr) (by omega)
/-! by a modulus -/
def cl (m rest x : Int) : Int := (x - rest + m - 1) / m
def fl (m rest x : Int) : Int := (x - rest) / m
def ix1 (m rest : Int) (r : Rg) : List Rg := one (cl m rest r.1) (r.2.map (fl m rest))
def ixR (m rest : Int) (R : List Rg) : List Rg := (R.map (ix1 m rest)).flatten
section
variable {m rest : Int} (hm : 0 < m)
include hm
theorem cl_le {x t : Int} : cl m rest x ≤ t ↔ x ≤ m * t + rest := by
  unfold cl
  have := Int.ediv_lt_iff_lt_mul (c := m) (H := hm) (a := x - rest + m - 1) (b := t + 1)
  have e : (t + 1) * m = m * t + m := by rw [Int.add_mul, Int.one_mul, Int.mul_comm]
  rw [e] at this
  omega
theorem le_fl {x t : Int} : t ≤ fl m rest x ↔ m * t + rest ≤ x := by
  unfold fl
  rw [Int.le_ediv_iff_mul_le hm, Int.mul_comm]
  omega
theorem cl_succ {x : Int} : cl m rest (x + 1) = fl m rest x + 1 := by
  unfold cl fl
  have e : x + 1 - rest + m - 1 = (x - rest) + 1 * m := by omega
  rw [e, Int.add_mul_ediv_right _ _ (by omega)]
theorem cl_mono {x y : Int} (h : x ≤ y) : cl m rest x ≤ cl m rest y := Int.ediv_le_ediv hm (by omega)
theorem ixR_mem {R : List Rg} {t : Int} : mem (ixR m rest R) t ↔ mem R (m * t + rest) := by
  unfold ixR
  rw [mem_flat]
  have key : ∀ r : Rg, mem (ix1 m rest r) t ↔ inR (m * t + rest) r := fun r => by
    obtain ⟨lo, hi⟩ := r
    unfold ix1
    cases hi with
    | none => rw [show (Option.none : Option Int).map (fl m rest) = none from rfl, one_none, inR_none, cl_le hm]
    | some hi => rw [show (Option.some hi).map (fl m rest) = some (fl m rest hi) from rfl, one_some, inR_some, cl_le hm, le_fl hm]
  exact ⟨fun ⟨r, h, i⟩ => ⟨r, h, (key r).mp i⟩, fun ⟨r, h, i⟩ => ⟨r, h, (key r).mpr i⟩⟩
theorem ixR_asc : ∀ {R : List Rg} {s : Int}, Asc s R → Asc (cl m rest s) (ixR m rest R)
  | [], _, _ => trivial
  | (lo, none) :: R, s, a => by
    obtain ⟨a1, rfl⟩ := a
    show Asc _ (ix1 m rest (lo, none) ++ [])
    rw [List.append_nil]
    exact ⟨cl_mono hm a1, rfl⟩
  | (lo, some hi) :: R, s, ⟨a1, a2, a3⟩ => by
    show Asc _ (one (cl m rest lo) (some (fl m rest hi)) ++ ixR m rest R)
    have ih := ixR_asc a3
    rw [one_def]
    split
    · refine ⟨cl_mono hm a1, by assumption, ?_⟩
      rw [cl_succ hm] at ih
      exact ih
    · exact ih.le (cl_mono hm (by omega))
theorem cl_zero (h0 : 0 ≤ rest) (h1 : rest < m) : cl m rest 0 = 0 := by
  unfold cl
  exact Int.ediv_eq_zero_of_lt (by omega) (by omega)
def szR (m rest : Int) (R : List Rg) : List Rg := R.map fun r => (m * r.1 + rest, r.2.map fun h => m * h + rest)
theorem szR_mem {R : List Rg} {t : Int} : mem (szR m rest R) (m * t + rest) ↔ mem R t := by
  have key : ∀ r : Rg, inR (m * t + rest) (m * r.1 + rest, r.2.map fun h => m * h + rest) ↔ inR t r := fun r => by
    obtain ⟨lo, hi⟩ := r
    have e : ∀ a b : Int, m * a + rest ≤ m * b + rest ↔ a ≤ b := fun a b => by
      have := Int.mul_le_mul_left (a := m) (b := a) (c := b) hm
      omega
    cases hi with
    | none => rw [show (Option.none : Option Int).map (fun h => m * h + rest) = none from rfl, inR_none, inR_none, e]
    | some hi => rw [show (Option.some hi).map (fun h => m * h + rest) = some (m * hi + rest) from rfl, inR_some, inR_some, e, e]
  constructor
  · rintro ⟨q, h, i⟩
    obtain ⟨r, hr, rfl⟩ := List.mem_map.mp h
    exact ⟨r, hr, (key r).mp i⟩
  · rintro ⟨r, h, i⟩
    exact ⟨_, List.mem_map.mpr ⟨r, h, rfl⟩, (key r).mpr i⟩
theorem szR_asc : ∀ {R : List Rg} {s : Int}, Asc s R → Asc (m * s + rest) (szR m rest R)
  | [], _, _ => trivial
  | (lo, none) :: R, s, a => by
    obtain ⟨a1, rfl⟩ := a
    have := Int.mul_le_mul_of_nonneg_left a1 (Int.le_of_lt hm)
    exact ⟨by show m * s + rest ≤ m * lo + rest; omega, rfl⟩
  | (lo, some hi) :: R, s, ⟨a1, a2, a3⟩ => by
    have h1 := Int.mul_le_mul_of_nonneg_left a1 (Int.le_of_lt hm)
    have h2 := Int.mul_le_mul_of_nonneg_left a2 (Int.le_of_lt hm)
    have ih := szR_asc a3
    refine ⟨by show m * s + rest ≤ m * lo + rest; omega, by show m * lo + rest ≤ m * hi + rest; omega, ih.le ?_⟩
    have e : m * (hi + 1) = m * hi + m := by rw [Int.mul_add, Int.mul_one]
    show m * hi + rest + 1 ≤ m * (hi + 1) + rest
    omega
end
/-! ranges of which no two can be one -/
/-- behind each end is no member -/
def Cm (R : List Rg) : Prop := ∀ q ∈ R, ∀ h, q.2 = some h → ¬ mem R (h + 1)
theorem comp_end : ∀ {R : List Rg} {s : Int}, Asc s R → ∀ q ∈ comp s R, ∀ h, q.2 = some h → mem R (h + 1)
  | [], s, _, q, hq, h, e => by
    obtain rfl := List.mem_singleton.mp hq
    cases e
  | (lo, none) :: r, s, a, q, hq, h, e => by
    unfold comp at hq
    split at hq
    · obtain rfl := List.mem_singleton.mp hq
      cases e
      exact mem_cons.mpr (.inl (inR_none.mpr (by omega)))
    · cases hq
  | (lo, some hi) :: r, s, ⟨a1, a2, a3⟩, q, hq, h, e => by
    unfold comp at hq
    rcases List.mem_append.mp hq with hq | hq
    · split at hq
      · obtain rfl := List.mem_singleton.mp hq
        cases e
        exact mem_cons.mpr (.inl (inR_some.mpr ⟨by omega, by omega⟩))
      · cases hq
    · exact mem_cons.mpr (.inr (comp_end a3 q hq h e))
theorem comp_cm {R : List Rg} (a : Asc 0 R) : Cm (comp 0 R) := fun q hq h e k => ((comp_mem a).mp k).2 (comp_end a q hq h e)
theorem both_cm {A B : List Rg} (a : Cm A) (b : Cm B) : Cm (bothR A B) := by
  intro q hq h e k
  obtain ⟨k1, k2⟩ := bothR_mem.mp k
  unfold bothR at hq
  obtain ⟨l, hl, hq⟩ := List.mem_flatten.mp hq
  obtain ⟨r, hr, rfl⟩ := List.mem_map.mp hl
  unfold bothL at hq
  obtain ⟨l, hl, hq⟩ := List.mem_flatten.mp hq
  obtain ⟨t, ht, rfl⟩ := List.mem_map.mp hl
  unfold both1 at hq
  have key : hiMin r.2 t.2 = some h := by
    cases c : hiMin r.2 t.2 with
    | none =>
      rw [c] at hq
      obtain rfl := List.mem_singleton.mp hq
      cases e
    | some x =>
      rw [c] at hq
      have := one_end hq
      rw [e] at this
      exact this.symm
  have two : r.2 = some h ∨ t.2 = some h := by
    cases c : r.2 <;> cases d : t.2 <;> rw [c, d] at key
    · cases key
    · exact .inr key
    · exact .inl key
    · simp only [hiMin] at key
      split at key
      · exact .inr key
      · exact .inl key
  exact two.elim (fun z => a r hr h z k1) fun z => b t ht h z k2
theorem sz_cm {m rest : Int} (hm : 0 < m) {R : List Rg} (c : Cm R) : ∀ q ∈ szR m rest R, ∀ h, q.2 = some h → h % m = rest % m ∧ ¬ mem (szR m rest R) (h + m) := by
  intro q hq h e
  obtain ⟨r, hr, rfl⟩ := List.mem_map.mp hq
  obtain ⟨lo, hi⟩ := r
  cases hi with
  | none => cases e
  | some hi =>
    obtain rfl : m * hi + rest = h := Option.some.inj e
    refine ⟨by rw [Int.add_comm, Int.add_mul_emod_self_left], ?_⟩
    have e2 : m * hi + rest + m = m * (hi + 1) + rest := by rw [Int.mul_add, Int.mul_one]; omega
    rw [e2, szR_mem hm]
    exact c _ hr hi rfl
/-- the rows of a set: ends are of the row's rest, none behind them -/
def Cn (m : Int) (rows : List (List Rg)) : Prop := ∀ (i : Nat) r, rows[i]? = some r → ∀ q ∈ r, ∀ h, q.2 = some h → h % m = i ∧ ¬ mem r (h + m)
/-- two ranges of a row are apart -/
theorem cn_gap {m : Int} {i : Nat} (hm : 0 < m) {s : Int} {lo hi lo2 : Int} {b : Option Int} {r pre post : List Rg} (e : r = pre ++ (lo, some hi) :: (lo2, b) :: post) (a : Asc s ((lo, some hi) :: (lo2, b) :: post)) (cg : lo2 % m = i) (ce : hi % m = i) (n : ¬ mem r (hi + m)) : hi + 2 * m ≤ lo2 := by
  have h1 : hi + 1 ≤ lo2 := by
    cases b with
    | none => exact a.2.2.1
    | some b => exact a.2.2.1
  have h2 : lo2 ≠ hi + m := fun z => n (z ▸ ⟨(lo2, b), by rw [e]; simp, Int.le_refl _, fun k hk => by
    cases b with
    | none => cases hk
    | some b =>
      cases hk
      exact a.2.2.2.1⟩)
  have d : (lo2 - hi) % m = 0 := by
    rw [Int.sub_emod, cg, ce, Int.sub_self, Int.zero_emod]
  obtain ⟨k, hk⟩ := Int.dvd_of_emod_eq_zero d
  have k1 : 0 < k := by
    refine Int.lt_of_not_ge fun z => ?_
    have := Int.mul_le_mul_of_nonneg_left z (Int.le_of_lt hm)
    rw [Int.mul_zero] at this
    omega
  have k2 : k ≠ 1 := fun z => by
    rw [z, Int.mul_one] at hk
    omega
  have := Int.mul_le_mul_of_nonneg_left (show 2 ≤ k by omega) (Int.le_of_lt hm)
  rw [Int.mul_comm m 2] at this
  omega
end Toy

set_option Elab.async false
set_option linter.all false
set_option maxRecDepth 100000
set_option maxHeartbeats 4000000
namespace Toy
open PySem PySem.Spec PyProof.Rows L2 My Dt SX
local macro_rules | `(tactic| walk_at "rg") => `(tactic| first
  | omega
  | ((refine And.intro ?_ (And.intro ?_ (And.intro ?_ ?_))) <;> omega))
local macro_rules | `(tactic| walk_at "ls") => `(tactic| first
  | with_reducible exact ls_v
  | with_reducible exact ls_b
  | ((with_reducible refine' ls_p ?hlp); (case hlp => with_reducible assumption)))
local macro_rules | `(tactic| walk_at "start") => `(tactic| ((simp only [startM, startS, List.map_cons, List.map_nil, List.length_cons, List.length_nil, List.cons_append, List.nil_append, Nat.reduceAdd, Nat.reduceSub, List.replicate_succ, List.replicate_zero]); exact rfl))
local macro_rules | `(tactic| walk_at "set") => `(tactic| first
  | ((dsimp only [Int.reduceToNat, List.set_cons_zero, List.set_cons_succ]); done)
  | ((dsimp only [Int.reduceToNat, List.set_cons_zero, List.set_cons_succ]); exact rfl)
  | exact rfl)
local macro_rules | `(tactic| walk_at "sz") => `(tactic| first
  | exact sz_of (Nat.le_of_ble_eq_true rfl)
  | (apply sz_of; simp only [List.length_cons, List.length_nil, List.length_append, List.length_map]; omega))
local macro_rules | `(tactic| walk_at "side") => `(tactic| first
  | with_reducible assumption
  | omega
  | exact ml (by omega) (by omega)
  | exact mr (by omega) (by omega)
  | exact dv (by omega) (by omega)
  | exact Bd.mulOk (by with_reducible assumption) (by with_reducible assumption) (by decide) (by decide) (by decide)
  | exact Bd.div (by with_reducible assumption) (by omega) (by decide) (by decide)
  | (show (0 : Int) < _; omega)
  | exact ⟨by decide, by decide, by decide⟩
  | decide
  | exact rfl)
local macro_rules | `(tactic| walk_at "st") => `(tactic| first
  | with_reducible refine q_seq ?_
  | with_reducible refine q_end ?_
  | with_reducible refine q_nil ?_
  | with_reducible refine q_asg ?_
  | with_reducible refine q_ret ?_
  | with_reducible refine q_if ?_
  | with_reducible refine q_expr ?_
  | with_reducible refine q_retN ?_
  | with_reducible refine q_sub ?_
  | with_reducible refine q_for ?_
  | with_reducible refine q_par ?_
  | with_reducible refine q_par3 ?_
  | with_reducible refine q_asgF ?_
  | with_reducible refine q_asgC ?_
  | ((with_reducible refine' q_frz ?ef ?_); (case ef => exact rfl))
  | ((with_reducible refine' q_app ?ea ?eb ?_); (case ea => exact rfl); (case eb => walk_at "slen"))
  | with_reducible refine q_brk ?_
  | with_reducible refine q_cnt ?_
  | with_reducible refine q_fldS ?_
  | with_reducible refine q_fldP ?_
  | with_reducible refine q_raise ?_
  | with_reducible refine q_try ?_)
local macro_rules | `(tactic| walk_at "slen") => `(tactic| first
  | with_reducible assumption
  | ((rw [sizeLine_eq]); (simp only [List.length_cons, List.length_nil, List.length_append, List.length_map]); omega))
local macro_rules | `(tactic| walk_at "sm") => `(tactic| first
  | with_reducible refine s_add ?_
  | with_reducible refine s_sub ?_
  | ((with_reducible refine' s_mul ?hm ?_); (case hm => walk_at "side"))
  | ((with_reducible refine' s_fdiv ?hm ?_); (case hm => walk_at "side"))
  | ((with_reducible refine' s_mod ?hm ?_); (case hm => walk_at "side"))
  | with_reducible refine s_neg ?_
  | ((with_reducible refine' s_pow ?hm ?_); (case hm => walk_at "side"))
  | ((with_reducible refine' s_ixL ?hl ?he ?_); (case hl => walk_at "ls"); (case he => exact rfl))
  | ((with_reducible refine' s_ixT ?he ?_); (case he => exact rfl))
  | ((with_reducible refine' set_L2 ?ha ?hb ?hc ?_); (case ha => with_reducible assumption); (case hb => exact rfl); (case hc => walk_at "set"))
  | with_reducible refine s_addB ?_
  | with_reducible refine s_lt ?_
  | with_reducible refine s_le ?_
  | with_reducible refine s_gt ?_
  | with_reducible refine s_ge ?_
  | with_reducible refine s_eq ?_
  | with_reducible refine s_ne ?_
  | with_reducible refine s_eqS ?_
  | with_reducible refine s_neS ?_
  | with_reducible refine s_isN ?_
  | with_reducible refine s_isNotN ?_
  | with_reducible refine t_bl ?_)
local macro_rules | `(tactic| walk_at "cl") => `(tactic| first
  | with_reducible refine c_int ?_
  | with_reducible refine c_intB ?_
  | with_reducible refine c_abs ?_
  | ((with_reducible refine' c_max ?hm ?_); (case hm => exact rfl))
  | ((with_reducible refine' c_min ?hm ?_); (case hm => exact rfl))
  | ((with_reducible refine' c_divmod ?hm ?_); (case hm => walk_at "side"))
  | ((with_reducible refine' c_len ?hm ?_); (case hm => walk_at "sq"))
  | ((with_reducible refine' c_list ?hm ?_); (case hm => walk_at "sq"))
  | ((with_reducible refine' c_tuple ?hm ?_); (case hm => walk_at "sq")))
local macro_rules | `(tactic| walk_at "sq") => `(tactic| first
  | exact sqL
  | exact sqT
  | exact sqB
  | exact sqP (by with_reducible assumption))
local macro_rules | `(tactic| walk_at "v") => `(tactic| first
  | ((with_reducible refine' v_sh ?ev ?_); (case ev => exact rfl))
  | ((with_reducible refine' v_ol ?ev ?_); (case ev => exact rfl))
  | ((with_reducible refine' v_slf ?ev ?_); (case ev => exact rfl))
  | with_reducible refine q_val ?_
  | ((with_reducible refine' q_walk ?ew ?_); (case ew => exact rfl))
  | ((with_reducible refine' q_rng1 ?ej ?ek ?_); (case ej => walk_at "rg"); (case ek => walk_at "rg"))
  | ((with_reducible refine' q_rng2 ?ej ?_); (case ej => walk_at "rg"))
  | with_reducible refine q_rngL ?_
  | with_reducible refine q_solc ?_
  | with_reducible refine q_sol0 ?_
  | ((with_reducible refine' q_gname ?eg ?_); (case eg => walk_at "set"))
  | ((with_reducible refine' n_set ?eg ?_); (case eg => walk_at "set"))
  | ((with_reducible refine' n_set2 ?eg ?_); (case eg => walk_at "set"))
  | ((with_reducible refine' n_set3 ?eg ?_); (case eg => walk_at "set"))
  | with_reducible refine q_two ?_
  | with_reducible refine q_three ?_
  | with_reducible refine q_bl ?_
  | with_reducible refine q_oint ?_
  | ((with_reducible refine' q_gtup ?el ?_); (case el => exact rfl))
  | with_reducible refine q_gcons ?_
  | with_reducible refine q_gnil ?_
  | with_reducible refine i_t ?_
  | with_reducible refine i_f ?_
  | with_reducible refine i_nt ?_
  | with_reducible refine i_nf ?_
  | ((with_reducible refine' n_t ?en ?_); (case en => exact rfl))
  | ((with_reducible refine' n_f ?en ?_); (case en => exact rfl))
  | ((with_reducible refine' nn_t ?en ?_); (case en => exact rfl))
  | ((with_reducible refine' nn_f ?en ?_); (case en => exact rfl))
  | with_reducible refine And.intro (by walk_at "sz") ?_)
local macro_rules | `(tactic| walk_at "d") => `(tactic| first
  | walk_at "v"
  | walk_at "st"
  | walk_at "sm"
  | walk_at "cl"
  | walk_at "at")
local macro_rules | `(tactic| walk_at "dd") => `(tactic| repeat walk_at "d")

variable {P : Program} {w : World} {K : PySem.W.Frag} {mg : Str → Option Value} {base : Heap} {S : Sto} {Ex : XS} {Q : QO}
def optD : Option Int → D
  | none => .non
  | some i => .int i
def rgD (r : Rg) : D := .tup [.int r.1, optD r.2]
theorem comp_len : ∀ (R : List Rg) (s : Int), (comp s R).length ≤ R.length + 1
  | [], _ => by simp [comp]
  | (lo, none) :: r, s => by
    unfold comp
    split <;> simp
  | (lo, some hi) :: r, s => by
    have := comp_len r (hi + 1)
    unfold comp
    split <;> simp <;> omega
/-- the state of others behind some ranges -/
theorem ok_others (T : Tx K mg) {R : List Rg} {o : D} (ho : o = .lst (R.map rgD) ∨ o = .tup (R.map rgD)) (hz : R.length ≤ 10000000) (q : Q (.v (.lst ((comp 0 R).map rgD))) S) : sFun (bs P w K mg base) 1 (.ref (He.ga K "others")) [] [o] [] S Ex Q := by
  refine' call_d (B := bs P w K mg base) 0 (Classical.choose_spec T.d_others) sc_others rfl (bm_all (ps := ["ranges"]) (Classical.choose_spec T.d_others) (fun _ _ _ _ _ _ us hl => match us, hl with | [_], _ => rfl)) (dss_cons (dstF 1 (df_lst da_nil)) (dss_cons (dst 2 de_int) (dss_cons (ds_for rfl rfl (di_val (dv 0)) (dg_tup (n := 2) rfl (dgs_cons (dgn 3) (dgs_cons (dgn 4) dgs_nil))) (dss_cons (ds_if (dt_cmp (dv 3) (dv 2)) (dss_one (ds_app (i := 1) rfl (.inl rfl) (de_tup (da_cons (dv 2) (da_cons (de_bin (dv 3) de_int) da_nil))))) dss_nil) (dss_cons (ds_if (dt_cmp (dv 4) de_non) (dss_frz 1 (dss_one (ds_ret (dv 1)))) dss_nil) (dss_one (dst 2 (de_bin (dv 4) de_int)))))) (dss_cons (ds_app (i := 1) rfl (.inl rfl) (de_tup (da_cons (dv 2) (da_cons de_non da_nil)))) (dss_frz 1 (dss_one (ds_ret (dv 1)))))))) ⟨rfl, rfl⟩ ?st ?_
  case st => walk_at "start"
  walk_at "dd"
  refine q_walk (ys := R.map rgD) (by rcases ho with rfl | rfl <;> exact rfl) ?_
  refine loop_inv (fun i ρ S' => S' = S ∧ ∃ (acc : List Rg) (s : Int) (x3 x4 : Sl), ρ = [.sh o, .ol (acc.map rgD), .sh (.int s), x3, x4] ∧ comp 0 R = acc ++ comp s (R.drop i) ∧ acc.length ≤ i) ⟨rfl, [], 0, _, _, rfl, rfl, Nat.le_refl _⟩ ?_ ?_
  · rintro i x ρ S' Nx hx ⟨rfl, acc, s, x3, x4, rfl, hc, hl⟩ hN
    obtain ⟨⟨lo, hi⟩, hr, rfl⟩ := map_at hx
    have hi' : i < R.length := (List.getElem?_eq_some_iff.mp hr).1
    have hd : R.drop i = (lo, hi) :: R.drop (i + 1) := by
      rw [List.drop_eq_getElem_cons hi', (List.getElem?_eq_some_iff.mp hr).2]
    rw [hd] at hc
    have hz2 : (acc.map rgD).length < sizeLine := by
      rw [List.length_map, sizeLine_eq]
      omega
    cases hi with
    | none =>
      rw [show rgD (lo, none) = .tup [.int lo, .non] from rfl]
      walk_at "dd"
      refine i_two (fun h0 => ?_) fun h0 => ?_
      · walk_at "dd"
        rw [hc, comp, if_pos h0, List.map_append] at q
        exact q
      · walk_at "dd"
        rw [hc, comp, if_neg h0, List.append_nil] at q
        exact q
    | some h =>
      rw [show rgD (lo, some h) = .tup [.int lo, .int h] from rfl]
      walk_at "dd"
      refine i_two (fun h0 => ?_) fun h0 => ?_
      · walk_at "dd"
        exact hN _ _ ⟨rfl, acc ++ [(s, some (lo - 1))], h + 1, _, _, by rw [List.map_append]; exact rfl, by rw [hc, comp, if_pos h0, List.append_assoc], by rw [List.length_append]; exact Nat.succ_le_succ hl⟩
      · walk_at "dd"
        exact hN _ _ ⟨rfl, acc, h + 1, _, _, rfl, by rw [hc, comp, if_neg h0, List.nil_append], by omega⟩
  · rintro ρ S' ⟨rfl, acc, s, x3, x4, rfl, hc, hl⟩
    rw [List.length_map] at hl hc
    rw [List.drop_length] at hc
    have hz2 : (acc.map rgD).length < sizeLine := by
      rw [List.length_map, sizeLine_eq]
      omega
    walk_at "dd"
    rw [hc, comp, List.map_append] at q
    exact q
end Toy

set_option Elab.async false
set_option linter.all false
set_option maxRecDepth 100000
set_option maxHeartbeats 4000000
namespace Toy
open PySem PySem.Spec PyProof.Rows L2 My Dt SX
local macro_rules | `(tactic| walk_at "rg") => `(tactic| first
  | omega
  | ((refine And.intro ?_ (And.intro ?_ (And.intro ?_ ?_))) <;> omega))
local macro_rules | `(tactic| walk_at "ls") => `(tactic| first
  | with_reducible exact ls_v
  | with_reducible exact ls_b
  | ((with_reducible refine' ls_p ?hlp); (case hlp => with_reducible assumption)))
local macro_rules | `(tactic| walk_at "start") => `(tactic| ((simp only [startM, startS, List.map_cons, List.map_nil, List.length_cons, List.length_nil, List.cons_append, List.nil_append, Nat.reduceAdd, Nat.reduceSub, List.replicate_succ, List.replicate_zero]); exact rfl))
local macro_rules | `(tactic| walk_at "set") => `(tactic| first
  | ((dsimp only [Int.reduceToNat, List.set_cons_zero, List.set_cons_succ]); done)
  | ((dsimp only [Int.reduceToNat, List.set_cons_zero, List.set_cons_succ]); exact rfl)
  | exact rfl)
local macro_rules | `(tactic| walk_at "sz") => `(tactic| first
  | exact sz_of (Nat.le_of_ble_eq_true rfl)
  | (apply sz_of; simp only [List.length_cons, List.length_nil, List.length_append, List.length_map]; omega))
local macro_rules | `(tactic| walk_at "side") => `(tactic| first
  | with_reducible assumption
  | omega
  | exact ml (by omega) (by omega)
  | exact mr (by omega) (by omega)
  | exact dv (by omega) (by omega)
  | exact Bd.mulOk (by with_reducible assumption) (by with_reducible assumption) (by decide) (by decide) (by decide)
  | exact Bd.div (by with_reducible assumption) (by omega) (by decide) (by decide)
  | (show (0 : Int) < _; omega)
  | exact ⟨by decide, by decide, by decide⟩
  | decide
  | exact rfl)
local macro_rules | `(tactic| walk_at "st") => `(tactic| first
  | with_reducible refine q_seq ?_
  | with_reducible refine q_end ?_
  | with_reducible refine q_nil ?_
  | with_reducible refine q_asg ?_
  | with_reducible refine q_ret ?_
  | with_reducible refine q_if ?_
  | with_reducible refine q_expr ?_
  | with_reducible refine q_retN ?_
  | with_reducible refine q_sub ?_
  | with_reducible refine q_for ?_
  | with_reducible refine q_par ?_
  | with_reducible refine q_par3 ?_
  | with_reducible refine q_asgF ?_
  | with_reducible refine q_asgC ?_
  | ((with_reducible refine' q_frz ?ef ?_); (case ef => exact rfl))
  | ((with_reducible refine' q_app ?ea ?eb ?_); (case ea => exact rfl); (case eb => walk_at "slen"))
  | with_reducible refine q_brk ?_
  | with_reducible refine q_cnt ?_
  | with_reducible refine q_fldS ?_
  | with_reducible refine q_fldP ?_
  | with_reducible refine q_raise ?_
  | with_reducible refine q_try ?_)
local macro_rules | `(tactic| walk_at "slen") => `(tactic| first
  | with_reducible assumption
  | ((rw [sizeLine_eq]); (simp only [List.length_cons, List.length_nil, List.length_append, List.length_map]); omega))
local macro_rules | `(tactic| walk_at "sm") => `(tactic| first
  | with_reducible refine s_add ?_
  | with_reducible refine s_sub ?_
  | ((with_reducible refine' s_mul ?hm ?_); (case hm => walk_at "side"))
  | ((with_reducible refine' s_fdiv ?hm ?_); (case hm => walk_at "side"))
  | ((with_reducible refine' s_mod ?hm ?_); (case hm => walk_at "side"))
  | with_reducible refine s_neg ?_
  | ((with_reducible refine' s_pow ?hm ?_); (case hm => walk_at "side"))
  | ((with_reducible refine' s_ixL ?hl ?he ?_); (case hl => walk_at "ls"); (case he => exact rfl))
  | ((with_reducible refine' s_ixT ?he ?_); (case he => exact rfl))
  | ((with_reducible refine' set_L2 ?ha ?hb ?hc ?_); (case ha => with_reducible assumption); (case hb => exact rfl); (case hc => walk_at "set"))
  | with_reducible refine s_addB ?_
  | with_reducible refine s_lt ?_
  | with_reducible refine s_le ?_
  | with_reducible refine s_gt ?_
  | with_reducible refine s_ge ?_
  | with_reducible refine s_eq ?_
  | with_reducible refine s_ne ?_
  | with_reducible refine s_eqS ?_
  | with_reducible refine s_neS ?_
  | with_reducible refine s_isN ?_
  | with_reducible refine s_isNotN ?_
  | with_reducible refine t_bl ?_)
local macro_rules | `(tactic| walk_at "cl") => `(tactic| first
  | with_reducible refine c_int ?_
  | with_reducible refine c_intB ?_
  | with_reducible refine c_abs ?_
  | ((with_reducible refine' c_max ?hm ?_); (case hm => exact rfl))
  | ((with_reducible refine' c_min ?hm ?_); (case hm => exact rfl))
  | ((with_reducible refine' c_divmod ?hm ?_); (case hm => walk_at "side"))
  | ((with_reducible refine' c_len ?hm ?_); (case hm => walk_at "sq"))
  | ((with_reducible refine' c_list ?hm ?_); (case hm => walk_at "sq"))
  | ((with_reducible refine' c_tuple ?hm ?_); (case hm => walk_at "sq")))
local macro_rules | `(tactic| walk_at "sq") => `(tactic| first
  | exact sqL
  | exact sqT
  | exact sqB
  | exact sqP (by with_reducible assumption))
local macro_rules | `(tactic| walk_at "v") => `(tactic| first
  | ((with_reducible refine' v_sh ?ev ?_); (case ev => exact rfl))
  | ((with_reducible refine' v_ol ?ev ?_); (case ev => exact rfl))
  | ((with_reducible refine' v_slf ?ev ?_); (case ev => exact rfl))
  | with_reducible refine q_val ?_
  | ((with_reducible refine' q_walk ?ew ?_); (case ew => exact rfl))
  | ((with_reducible refine' q_rng1 ?ej ?ek ?_); (case ej => walk_at "rg"); (case ek => walk_at "rg"))
  | ((with_reducible refine' q_rng2 ?ej ?_); (case ej => walk_at "rg"))
  | with_reducible refine q_rngL ?_
  | with_reducible refine q_solc ?_
  | with_reducible refine q_sol0 ?_
  | ((with_reducible refine' q_gname ?eg ?_); (case eg => walk_at "set"))
  | ((with_reducible refine' n_set ?eg ?_); (case eg => walk_at "set"))
  | ((with_reducible refine' n_set2 ?eg ?_); (case eg => walk_at "set"))
  | ((with_reducible refine' n_set3 ?eg ?_); (case eg => walk_at "set"))
  | with_reducible refine q_two ?_
  | with_reducible refine q_three ?_
  | with_reducible refine q_bl ?_
  | with_reducible refine q_oint ?_
  | ((with_reducible refine' q_gtup ?el ?_); (case el => exact rfl))
  | with_reducible refine q_gcons ?_
  | with_reducible refine q_gnil ?_
  | with_reducible refine i_t ?_
  | with_reducible refine i_f ?_
  | with_reducible refine i_nt ?_
  | with_reducible refine i_nf ?_
  | ((with_reducible refine' n_t ?en ?_); (case en => exact rfl))
  | ((with_reducible refine' n_f ?en ?_); (case en => exact rfl))
  | ((with_reducible refine' nn_t ?en ?_); (case en => exact rfl))
  | ((with_reducible refine' nn_f ?en ?_); (case en => exact rfl))
  | with_reducible refine And.intro (by walk_at "sz") ?_)
local macro_rules | `(tactic| walk_at "d") => `(tactic| first
  | walk_at "v"
  | walk_at "st"
  | walk_at "sm"
  | walk_at "cl"
  | walk_at "at")
local macro_rules | `(tactic| walk_at "dd") => `(tactic| repeat walk_at "d")

variable {P : Program} {w : World} {K : PySem.W.Frag} {mg : Str → Option Value} {base : Heap} {S : Sto} {Ex : XS} {Q : QO}
/-- a list or a tuple of ranges -/
def RgO (R : List Rg) (o : D) : Prop := o = .lst (R.map rgD) ∨ o = .tup (R.map rgD)
theorem RgO.walk {R : List Rg} {o : D} (h : RgO R o) : Walk (.v o) (R.map rgD) := by rcases h with rfl | rfl <;> exact rfl
theorem drop_at {α : Type} {l : List α} {i : Nat} {a : α} (h : l[i]? = some a) : i < l.length ∧ l.take (i + 1) = l.take i ++ [a] := by
  obtain ⟨hi, e⟩ := List.getElem?_eq_some_iff.mp h
  refine ⟨hi, ?_⟩
  rw [List.take_add_one, h] <;> rfl
theorem bothL_len (r : Rg) (M : List Rg) : (bothL r M).length ≤ M.length := by
  induction M with
  | nil => exact Nat.le_refl _
  | cons q M ih =>
    have e : bothL r (q :: M) = both1 r q ++ bothL r M := rfl
    have h : (both1 r q).length ≤ 1 := by
      unfold both1
      cases hiMin r.2 q.2 with
      | none => exact Nat.le_refl _
      | some h =>
        rw [one_def]
        split <;> simp
    rw [e, List.length_append, List.length_cons]
    omega
theorem bothR_len (R M : List Rg) : (bothR R M).length ≤ R.length * M.length := by
  induction R with
  | nil => simp [bothR]
  | cons q R ih =>
    have e : bothR (q :: R) M = bothL q M ++ bothR R M := rfl
    have := bothL_len q M
    rw [e, List.length_append, List.length_cons, Nat.add_mul, Nat.one_mul]
    omega
theorem bothR_take {R M : List Rg} {i : Nat} {r : Rg} (h : R[i]? = some r) : bothR (R.take (i + 1)) M = bothR (R.take i) M ++ bothL r M := by
  rw [(drop_at h).2]
  simp [bothR]
theorem bothL_take {M : List Rg} {i : Nat} {r q : Rg} (h : M[i]? = some q) : bothL r (M.take (i + 1)) = bothL r (M.take i) ++ both1 r q := by
  rw [(drop_at h).2]
  simp [bothL]
theorem ok_common (T : Tx K mg) {R M : List Rg} {o p : D} (ho : RgO R o) (hp : RgO M p) (hz : R.length * M.length ≤ 10000000) (q : Q (.v (.lst ((bothR R M).map rgD))) S) : sFun (bs P w K mg base) 1 (.ref (He.ga K "common")) [] [o, p] [] S Ex Q := by
  refine' call_d (B := bs P w K mg base) 0 (Classical.choose_spec T.d_common) sc_common rfl (bm_all (ps := ["ranges", "more"]) (Classical.choose_spec T.d_common) (fun _ _ _ _ _ _ us hl => match us, hl with | [_, _], _ => rfl)) (dss_cons (dstF 2 (df_lst da_nil)) (dss_cons (ds_for rfl rfl (di_val (dv 0)) (dg_tup (n := 2) rfl (dgs_cons (dgn 3) (dgs_cons (dgn 4) dgs_nil))) (dss_one (ds_for rfl rfl (di_val (dv 1)) (dg_tup (n := 2) rfl (dgs_cons (dgn 5) (dgs_cons (dgn 6) dgs_nil))) (dss_cons (dst 7 (de_if (dt_cmp (dv 3) (dv 5)) (dv 3) (dv 5))) (dss_cons (dst 8 (de_if (DW.dt (dw_or (dt_cmp (dv 4) de_non) (dw_or1 (DW.dt (dw_and (dt_cmp (dv 6) de_non) (dw_and1 (dt_cmp (dv 6) (dv 4)))))))) (dv 6) (dv 4))) (dss_one (ds_if (DW.dt (dw_or (dt_cmp (dv 8) de_non) (dw_or1 (dt_cmp (dv 7) (dv 8))))) (dss_one (ds_app (i := 2) rfl (.inl rfl) (de_tup (da_cons (dv 7) (da_cons (dv 8) da_nil))))) dss_nil))))))) (dss_frz 2 (dss_one (ds_ret (dv 2)))))) ⟨rfl, rfl⟩ ?st ?_
  case st => walk_at "start"
  walk_at "dd"
  refine q_walk (ys := R.map rgD) ho.walk ?_
  refine loop_inv (fun i ρ S' => S' = S ∧ ∃ x3 x4 x5 x6 x7 x8 : Sl, ρ = [.sh o, .sh p, .ol ((bothR (R.take i) M).map rgD), x3, x4, x5, x6, x7, x8]) ⟨rfl, _, _, _, _, _, _, rfl⟩ ?_ ?_
  · rintro i x ρ S' Nx hx ⟨rfl, x3, x4, x5, x6, x7, x8, rfl⟩ hN
    obtain ⟨⟨lo, hi⟩, hr, rfl⟩ := map_at hx
    rw [bothR_take hr] at hN
    have hR := drop_at hr
    have hz1 : (bothR (R.take i) M).length + M.length ≤ 10000000 := by
      have h1 := bothR_len (R.take i) M
      have h2 : (i + 1) * M.length ≤ R.length * M.length := Nat.mul_le_mul_right _ hR.1
      have h3 : (R.take i).length ≤ i := List.length_take_le _ _
      have h4 : (R.take i).length * M.length ≤ i * M.length := Nat.mul_le_mul_right _ h3
      rw [Nat.add_mul, Nat.one_mul] at h2
      omega
    generalize bothR (R.take i) M = A at hN hz1 ⊢
    rw [show rgD (lo, hi) = .tup [.int lo, optD hi] from rfl]
    walk_at "dd"
    refine q_walk (ys := M.map rgD) hp.walk ?_
    refine loop_inv (fun j ρ S'' => S'' = S' ∧ ∃ x5 x6 x7 x8 : Sl, ρ = [.sh o, .sh p, .ol ((A ++ bothL (lo, hi) (M.take j)).map rgD), .sh (.int lo), .sh (optD hi), x5, x6, x7, x8]) ⟨rfl, _, _, _, _, by rw [show bothL (lo, hi) (M.take 0) = [] from rfl, List.append_nil]⟩ ?_ ?_
    · rintro j y ρ S'' Ny hy ⟨rfl, x5, x6, x7, x8, rfl⟩ hM
      obtain ⟨⟨lo2, hi2⟩, hq, rfl⟩ := map_at hy
      rw [bothL_take hq] at hM
      have hz2 : ((A ++ bothL (lo, hi) (M.take j)).map rgD).length < sizeLine := by
        have h1 := bothL_len (lo, hi) (M.take j)
        have h2 : (M.take j).length ≤ M.length := by rw [List.length_take]; omega
        rw [List.length_map, List.length_append, sizeLine_eq]
        omega
      have fin : ∀ (x5 x6 x7 x8 : Sl), Ny [.sh o, .sh p, .ol (((A ++ bothL (lo, hi) (M.take j)).map rgD) ++ (both1 (lo, hi) (lo2, hi2)).map rgD), .sh (.int lo), .sh (optD hi), x5, x6, x7, x8] S'' := fun x5 x6 x7 x8 => hM _ _ ⟨rfl, x5, x6, x7, x8, by rw [← List.map_append, List.append_assoc]⟩
      have two : ∀ {A B : Prop} {c d : Int} {F : Int → Prop}, F (mx c d) → (c > d → F c) ∧ (¬ c > d → F d) := fun {A B c d F} h => by
        unfold mx at h
        split at h
        · exact ⟨fun _ => h, fun k => absurd ‹_› k⟩
        · exact ⟨fun k => absurd k ‹_›, fun _ => h⟩
      have e1 : mx lo lo2 = if lo > lo2 then lo else lo2 := rfl
      unfold both1 at fin
      dsimp only at fin
      cases hi with
      | none =>
        cases hi2 with
        | none =>
          rw [show rgD (lo2, none) = .tup [.int lo2, .non] from rfl]
          rw [show (optD none : D) = .non from rfl] at *
          walk_at "dd"
          refine i_two (fun h0 => ?_) fun h0 => ?_
          · rw [if_pos h0] at e1
            rw [e1] at fin
            walk_at "dd"
            exact fin _ _ _ _
          · rw [if_neg h0] at e1
            rw [e1] at fin
            walk_at "dd"
            exact fin _ _ _ _
        | some h2 =>
          rw [show rgD (lo2, some h2) = .tup [.int lo2, .int h2] from rfl]
          rw [show (optD none : D) = .non from rfl] at *
          rw [show hiMin none (some h2) = some h2 from rfl] at fin
          walk_at "dd"
          refine i_two (fun h0 => ?_) fun h0 => ?_
          · rw [if_pos h0] at e1
            rw [e1, one_def] at fin
            walk_at "dd"
            refine i_two (fun h3 => ?_) fun h3 => ?_
            · rw [if_pos h3] at fin
              walk_at "dd"
              exact fin _ _ _ _
            · rw [if_neg h3, List.map_nil, List.append_nil] at fin
              walk_at "dd"
              exact fin _ _ _ _
          · rw [if_neg h0] at e1
            rw [e1, one_def] at fin
            walk_at "dd"
            refine i_two (fun h3 => ?_) fun h3 => ?_
            · rw [if_pos h3] at fin
              walk_at "dd"
              exact fin _ _ _ _
            · rw [if_neg h3, List.map_nil, List.append_nil] at fin
              walk_at "dd"
              exact fin _ _ _ _
      | some h1 =>
        rw [show optD (some h1) = .int h1 from rfl] at *
        cases hi2 with
        | none =>
          rw [show rgD (lo2, none) = .tup [.int lo2, .non] from rfl]
          rw [show hiMin (some h1) none = some h1 from rfl] at fin
          walk_at "dd"
          refine i_two (fun h0 => ?_) fun h0 => ?_
          · rw [if_pos h0] at e1
            rw [e1, one_def] at fin
            walk_at "dd"
            refine i_two (fun h3 => ?_) fun h3 => ?_
            · rw [if_pos h3] at fin
              walk_at "dd"
              exact fin _ _ _ _
            · rw [if_neg h3, List.map_nil, List.append_nil] at fin
              walk_at "dd"
              exact fin _ _ _ _
          · rw [if_neg h0] at e1
            rw [e1, one_def] at fin
            walk_at "dd"
            refine i_two (fun h3 => ?_) fun h3 => ?_
            · rw [if_pos h3] at fin
              walk_at "dd"
              exact fin _ _ _ _
            · rw [if_neg h3, List.map_nil, List.append_nil] at fin
              walk_at "dd"
              exact fin _ _ _ _
        | some h2 =>
          rw [show rgD (lo2, some h2) = .tup [.int lo2, .int h2] from rfl]
          walk_at "dd"
          refine i_two (fun h0 => ?_) fun h0 => ?_
          · rw [if_pos h0] at e1
            rw [e1] at fin
            walk_at "dd"
            refine i_two (fun h4 => ?_) fun h4 => ?_
            · rw [show hiMin (some h1) (some h2) = some h2 from if_pos h4, one_def] at fin
              walk_at "dd"
              refine i_two (fun h3 => ?_) fun h3 => ?_
              · rw [if_pos h3] at fin
                walk_at "dd"
                exact fin _ _ _ _
              · rw [if_neg h3, List.map_nil, List.append_nil] at fin
                walk_at "dd"
                exact fin _ _ _ _
            · rw [show hiMin (some h1) (some h2) = some h1 from if_neg h4, one_def] at fin
              walk_at "dd"
              refine i_two (fun h3 => ?_) fun h3 => ?_
              · rw [if_pos h3] at fin
                walk_at "dd"
                exact fin _ _ _ _
              · rw [if_neg h3, List.map_nil, List.append_nil] at fin
                walk_at "dd"
                exact fin _ _ _ _
          · rw [if_neg h0] at e1
            rw [e1] at fin
            walk_at "dd"
            refine i_two (fun h4 => ?_) fun h4 => ?_
            · rw [show hiMin (some h1) (some h2) = some h2 from if_pos h4, one_def] at fin
              walk_at "dd"
              refine i_two (fun h3 => ?_) fun h3 => ?_
              · rw [if_pos h3] at fin
                walk_at "dd"
                exact fin _ _ _ _
              · rw [if_neg h3, List.map_nil, List.append_nil] at fin
                walk_at "dd"
                exact fin _ _ _ _
            · rw [show hiMin (some h1) (some h2) = some h1 from if_neg h4, one_def] at fin
              walk_at "dd"
              refine i_two (fun h3 => ?_) fun h3 => ?_
              · rw [if_pos h3] at fin
                walk_at "dd"
                exact fin _ _ _ _
              · rw [if_neg h3, List.map_nil, List.append_nil] at fin
                walk_at "dd"
                exact fin _ _ _ _
    · rintro ρ S'' ⟨rfl, x5, x6, x7, x8, rfl⟩
      rw [List.length_map, List.take_length]
      exact hN _ _ ⟨rfl, _, _, _, _, _, _, rfl⟩
  · rintro ρ S' ⟨rfl, x3, x4, x5, x6, x7, x8, rfl⟩
    rw [List.length_map, List.take_length]
    walk_at "dd"
    exact q
end Toy

set_option Elab.async false
set_option linter.all false
set_option maxRecDepth 100000
set_option maxHeartbeats 4000000
namespace Toy
open PySem PySem.Spec PyProof.Rows L2 My Dt SX
local macro_rules | `(tactic| walk_at "rg") => `(tactic| first
  | omega
  | ((refine And.intro ?_ (And.intro ?_ (And.intro ?_ ?_))) <;> omega))
local macro_rules | `(tactic| walk_at "ls") => `(tactic| first
  | with_reducible exact ls_v
  | with_reducible exact ls_b
  | ((with_reducible refine' ls_p ?hlp); (case hlp => with_reducible assumption)))
local macro_rules | `(tactic| walk_at "start") => `(tactic| ((simp only [startM, startS, List.map_cons, List.map_nil, List.length_cons, List.length_nil, List.cons_append, List.nil_append, Nat.reduceAdd, Nat.reduceSub, List.replicate_succ, List.replicate_zero]); exact rfl))
local macro_rules | `(tactic| walk_at "set") => `(tactic| first
  | ((dsimp only [Int.reduceToNat, List.set_cons_zero, List.set_cons_succ]); done)
  | ((dsimp only [Int.reduceToNat, List.set_cons_zero, List.set_cons_succ]); exact rfl)
  | exact rfl)
local macro_rules | `(tactic| walk_at "sz") => `(tactic| first
  | exact sz_of (Nat.le_of_ble_eq_true rfl)
  | (apply sz_of; simp only [List.length_cons, List.length_nil, List.length_append, List.length_map]; omega))
local macro_rules | `(tactic| walk_at "side") => `(tactic| first
  | with_reducible assumption
  | omega
  | exact ml (by omega) (by omega)
  | exact mr (by omega) (by omega)
  | exact dv (by omega) (by omega)
  | exact Bd.mulOk (by with_reducible assumption) (by with_reducible assumption) (by decide) (by decide) (by decide)
  | exact Bd.div (by with_reducible assumption) (by omega) (by decide) (by decide)
  | (show (0 : Int) < _; omega)
  | exact ⟨by decide, by decide, by decide⟩
  | decide
  | exact rfl)
local macro_rules | `(tactic| walk_at "st") => `(tactic| first
  | with_reducible refine q_seq ?_
  | with_reducible refine q_end ?_
  | with_reducible refine q_nil ?_
  | with_reducible refine q_asg ?_
  | with_reducible refine q_ret ?_
  | with_reducible refine q_if ?_
  | with_reducible refine q_expr ?_
  | with_reducible refine q_retN ?_
  | with_reducible refine q_sub ?_
  | with_reducible refine q_for ?_
  | with_reducible refine q_par ?_
  | with_reducible refine q_par3 ?_
  | with_reducible refine q_asgF ?_
  | with_reducible refine q_asgC ?_
  | ((with_reducible refine' q_frz ?ef ?_); (case ef => exact rfl))
  | ((with_reducible refine' q_app ?ea ?eb ?_); (case ea => exact rfl); (case eb => walk_at "slen"))
  | with_reducible refine q_brk ?_
  | with_reducible refine q_cnt ?_
  | with_reducible refine q_fldS ?_
  | with_reducible refine q_fldP ?_
  | with_reducible refine q_raise ?_
  | with_reducible refine q_try ?_)
local macro_rules | `(tactic| walk_at "slen") => `(tactic| first
  | with_reducible assumption
  | ((rw [sizeLine_eq]); (simp only [List.length_cons, List.length_nil, List.length_append, List.length_map]); omega))
local macro_rules | `(tactic| walk_at "sm") => `(tactic| first
  | with_reducible refine s_add ?_
  | with_reducible refine s_sub ?_
  | ((with_reducible refine' s_mul ?hm ?_); (case hm => walk_at "side"))
  | ((with_reducible refine' s_fdiv ?hm ?_); (case hm => walk_at "side"))
  | ((with_reducible refine' s_mod ?hm ?_); (case hm => walk_at "side"))
  | with_reducible refine s_neg ?_
  | ((with_reducible refine' s_pow ?hm ?_); (case hm => walk_at "side"))
  | ((with_reducible refine' s_ixL ?hl ?he ?_); (case hl => walk_at "ls"); (case he => exact rfl))
  | ((with_reducible refine' s_ixT ?he ?_); (case he => exact rfl))
  | ((with_reducible refine' set_L2 ?ha ?hb ?hc ?_); (case ha => with_reducible assumption); (case hb => exact rfl); (case hc => walk_at "set"))
  | with_reducible refine s_addB ?_
  | with_reducible refine s_lt ?_
  | with_reducible refine s_le ?_
  | with_reducible refine s_gt ?_
  | with_reducible refine s_ge ?_
  | with_reducible refine s_eq ?_
  | with_reducible refine s_ne ?_
  | with_reducible refine s_eqS ?_
  | with_reducible refine s_neS ?_
  | with_reducible refine s_isN ?_
  | with_reducible refine s_isNotN ?_
  | with_reducible refine t_bl ?_)
local macro_rules | `(tactic| walk_at "cl") => `(tactic| first
  | with_reducible refine c_int ?_
  | with_reducible refine c_intB ?_
  | with_reducible refine c_abs ?_
  | ((with_reducible refine' c_max ?hm ?_); (case hm => exact rfl))
  | ((with_reducible refine' c_min ?hm ?_); (case hm => exact rfl))
  | ((with_reducible refine' c_divmod ?hm ?_); (case hm => walk_at "side"))
  | ((with_reducible refine' c_len ?hm ?_); (case hm => walk_at "sq"))
  | ((with_reducible refine' c_list ?hm ?_); (case hm => walk_at "sq"))
  | ((with_reducible refine' c_tuple ?hm ?_); (case hm => walk_at "sq")))
local macro_rules | `(tactic| walk_at "sq") => `(tactic| first
  | exact sqL
  | exact sqT
  | exact sqB
  | exact sqP (by with_reducible assumption))
local macro_rules | `(tactic| walk_at "v") => `(tactic| first
  | ((with_reducible refine' v_sh ?ev ?_); (case ev => exact rfl))
  | ((with_reducible refine' v_ol ?ev ?_); (case ev => exact rfl))
  | ((with_reducible refine' v_slf ?ev ?_); (case ev => exact rfl))
  | with_reducible refine q_val ?_
  | ((with_reducible refine' q_walk ?ew ?_); (case ew => exact rfl))
  | ((with_reducible refine' q_rng1 ?ej ?ek ?_); (case ej => walk_at "rg"); (case ek => walk_at "rg"))
  | ((with_reducible refine' q_rng2 ?ej ?_); (case ej => walk_at "rg"))
  | with_reducible refine q_rngL ?_
  | with_reducible refine q_solc ?_
  | with_reducible refine q_sol0 ?_
  | ((with_reducible refine' q_gname ?eg ?_); (case eg => walk_at "set"))
  | ((with_reducible refine' n_set ?eg ?_); (case eg => walk_at "set"))
  | ((with_reducible refine' n_set2 ?eg ?_); (case eg => walk_at "set"))
  | ((with_reducible refine' n_set3 ?eg ?_); (case eg => walk_at "set"))
  | with_reducible refine q_two ?_
  | with_reducible refine q_three ?_
  | with_reducible refine q_bl ?_
  | with_reducible refine q_oint ?_
  | ((with_reducible refine' q_gtup ?el ?_); (case el => exact rfl))
  | with_reducible refine q_gcons ?_
  | with_reducible refine q_gnil ?_
  | with_reducible refine i_t ?_
  | with_reducible refine i_f ?_
  | with_reducible refine i_nt ?_
  | with_reducible refine i_nf ?_
  | ((with_reducible refine' n_t ?en ?_); (case en => exact rfl))
  | ((with_reducible refine' n_f ?en ?_); (case en => exact rfl))
  | ((with_reducible refine' nn_t ?en ?_); (case en => exact rfl))
  | ((with_reducible refine' nn_f ?en ?_); (case en => exact rfl))
  | with_reducible refine And.intro (by walk_at "sz") ?_)
local macro_rules | `(tactic| walk_at "d") => `(tactic| first
  | walk_at "v"
  | walk_at "st"
  | walk_at "sm"
  | walk_at "cl"
  | walk_at "at")
local macro_rules | `(tactic| walk_at "dd") => `(tactic| repeat walk_at "d")

variable {P : Program} {w : World} {K : PySem.W.Frag} {mg : Str → Option Value} {base : Heap} {S : Sto} {Ex : XS} {Q : QO}
theorem ixR_take {m rest : Int} {R : List Rg} {i : Nat} {r : Rg} (h : R[i]? = some r) : ixR m rest (R.take (i + 1)) = ixR m rest (R.take i) ++ ix1 m rest r := by
  rw [(drop_at h).2]
  simp [ixR]
theorem ix1_len {m rest : Int} (r : Rg) : (ix1 m rest r).length ≤ 1 := by
  unfold ix1
  cases r.2 with
  | none => exact Nat.le_refl _
  | some h =>
    rw [show (some h).map (fl m rest) = some (fl m rest h) from rfl, one_def]
    split <;> simp
theorem ixR_len {m rest : Int} (R : List Rg) : (ixR m rest R).length ≤ R.length := by
  induction R with
  | nil => exact Nat.le_refl _
  | cons q R ih =>
    have e : ixR m rest (q :: R) = ix1 m rest q ++ ixR m rest R := rfl
    have := ix1_len (m := m) (rest := rest) q
    rw [e, List.length_append, List.length_cons]
    omega
theorem ok_indexes_of (T : Tx K mg) {R : List Rg} {o : D} {m rest : Int} (ho : RgO R o) (hm : 0 < m) (hm2 : m ≤ 5040) (hz : R.length ≤ 4000000) (q : Q (.v (.lst ((comp 0 (comp 0 (ixR m rest R))).map rgD))) S) : sFun (bs P w K mg base) 2 (.ref (He.ga K "indexes_of")) [] [o, .int rest, .int m] [] S Ex Q := by
  refine' call_d (B := bs P w K mg base) 1 (Classical.choose_spec T.d_indexes_of) sc_indexes_of rfl (bm_all (ps := ["ranges", "rest", "modulus"]) (Classical.choose_spec T.d_indexes_of) (fun _ _ _ _ _ _ us hl => match us, hl with | [_, _, _], _ => rfl)) (dss_cons (dstF 3 (df_lst da_nil)) (dss_cons (ds_for rfl rfl (di_val (dv 0)) (dg_tup (n := 2) rfl (dgs_cons (dgn 4) (dgs_cons (dgn 5) dgs_nil))) (dss_cons (dst 6 (de_bin (de_bin (de_bin (de_bin (dv 4) (dv 1)) (dv 2)) de_int) (dv 2))) (dss_cons (dst 7 (de_if (dt_cmp (dv 5) de_non) de_non (de_bin (de_bin (dv 5) (dv 1)) (dv 2)))) (dss_one (ds_if (DW.dt (dw_or (dt_cmp (dv 7) de_non) (dw_or1 (dt_cmp (dv 6) (dv 7))))) (dss_one (ds_app (i := 3) rfl (.inl rfl) (de_tup (da_cons (dv 6) (da_cons (dv 7) da_nil))))) dss_nil))))) (dss_frz 3 (dss_one (ds_ret (de_call rfl rfl ⟨T.g_others, (Classical.choose_spec T.d_others).kp⟩ (da_cons (de_call rfl rfl ⟨T.g_others, (Classical.choose_spec T.d_others).kp⟩ (da_cons (dv 3) da_nil)) da_nil))))))) ⟨rfl, rfl⟩ ?st ?_
  case st => walk_at "start"
  walk_at "dd"
  refine q_walk (ys := R.map rgD) ho.walk ?_
  refine loop_inv (fun i ρ S' => S' = S ∧ ∃ x4 x5 x6 x7 : Sl, ρ = [.sh o, .sh (.int rest), .sh (.int m), .ol ((ixR m rest (R.take i)).map rgD), x4, x5, x6, x7]) ⟨rfl, _, _, _, _, rfl⟩ ?_ ?_
  · rintro i x ρ S' Nx hx ⟨rfl, x4, x5, x6, x7, rfl⟩ hN
    obtain ⟨⟨lo, hi⟩, hr, rfl⟩ := map_at hx
    rw [ixR_take hr] at hN
    have hR := drop_at hr
    have hz2 : ((ixR m rest (R.take i)).map rgD).length < sizeLine := by
      have h1 := ixR_len (m := m) (rest := rest) (R.take i)
      have h2 : (R.take i).length ≤ i := List.length_take_le _ _
      rw [List.length_map, sizeLine_eq]
      omega
    have fin : ∀ (x4 x5 x6 x7 : Sl), Nx [.sh o, .sh (.int rest), .sh (.int m), .ol ((ixR m rest (R.take i)).map rgD ++ (ix1 m rest (lo, hi)).map rgD), x4, x5, x6, x7] S' := fun x4 x5 x6 x7 => hN _ _ ⟨rfl, x4, x5, x6, x7, by rw [List.map_append]⟩
    cases hi with
    | none =>
      rw [show rgD (lo, none) = .tup [.int lo, .non] from rfl]
      walk_at "dd"
      exact fin _ _ _ _
    | some h =>
      rw [show rgD (lo, some h) = .tup [.int lo, .int h] from rfl]
      walk_at "dd"
      rw [show ix1 m rest (lo, some h) = one (cl m rest lo) (some (fl m rest h)) from rfl, one_def] at fin
      refine i_two (fun h3 => ?_) fun h3 => ?_
      · rw [if_pos (show cl m rest lo ≤ fl m rest h from h3)] at fin
        walk_at "dd"
        exact fin _ _ _ _
      · rw [if_neg (show ¬ cl m rest lo ≤ fl m rest h from h3), List.map_nil, List.append_nil] at fin
        walk_at "dd"
        exact fin _ _ _ _
  · rintro ρ S' ⟨rfl, x4, x5, x6, x7, rfl⟩
    rw [List.length_map, List.take_length]
    have h1 := ixR_len (m := m) (rest := rest) R
    have h2 := comp_len (ixR m rest R) 0
    walk_at "dd"
    refine ok_others T (.inl rfl) (by omega) ?_
    walk_at "dd"
    refine ok_others T (.inl rfl) (by omega) ?_
    walk_at "dd"
    exact q
theorem ok_sizes_of (T : Tx K mg) {R : List Rg} {o : D} {m rest : Int} (ho : RgO R o) (hm : 0 < m) (hm2 : m ≤ 5040) (hz : R.length ≤ 10000000) (q : Q (.v (.tup ((szR m rest R).map rgD))) S) : sFun (bs P w K mg base) 1 (.ref (He.ga K "sizes_of")) [] [o, .int rest, .int m] [] S Ex Q := by
  refine' call_d (B := bs P w K mg base) 0 (Classical.choose_spec T.d_sizes_of) sc_sizes_of rfl (bm_all (ps := ["ranges", "rest", "modulus"]) (Classical.choose_spec T.d_sizes_of) (fun _ _ _ _ _ _ us hl => match us, hl with | [_, _, _], _ => rfl)) (dss_cons (dstF 3 (df_lst da_nil)) (dss_cons (ds_for rfl rfl (di_val (dv 0)) (dg_tup (n := 2) rfl (dgs_cons (dgn 4) (dgs_cons (dgn 5) dgs_nil))) (dss_one (ds_app (i := 3) rfl (.inl rfl) (de_tup (da_cons (de_bin (de_bin (dv 2) (dv 4)) (dv 1)) (da_cons (de_if (dt_cmp (dv 5) de_non) de_non (de_bin (de_bin (dv 2) (dv 5)) (dv 1))) da_nil)))))) (dss_frz 3 (dss_one (ds_ret (de_callT (T := "tuple") rfl T.f_tuple (by decide +kernel) (da_cons (dv 3) da_nil))))))) ⟨rfl, rfl⟩ ?st ?_
  case st => walk_at "start"
  walk_at "dd"
  refine q_walk (ys := R.map rgD) ho.walk ?_
  refine loop_inv (fun i ρ S' => S' = S ∧ ∃ x4 x5 : Sl, ρ = [.sh o, .sh (.int rest), .sh (.int m), .ol ((szR m rest (R.take i)).map rgD), x4, x5]) ⟨rfl, _, _, rfl⟩ ?_ ?_
  · rintro i x ρ S' Nx hx ⟨rfl, x4, x5, rfl⟩ hN
    obtain ⟨⟨lo, hi⟩, hr, rfl⟩ := map_at hx
    have hR := drop_at hr
    have hz2 : ((szR m rest (R.take i)).map rgD).length < sizeLine := by
      rw [List.length_map, szR, List.length_map, List.length_take, sizeLine_eq]
      omega
    have fin : ∀ (x4 x5 : Sl), Nx [.sh o, .sh (.int rest), .sh (.int m), .ol ((szR m rest (R.take i)).map rgD ++ (szR m rest [(lo, hi)]).map rgD), x4, x5] S' := fun x4 x5 => hN _ _ ⟨rfl, x4, x5, by rw [hR.2, szR, szR, szR, List.map_append, List.map_append]⟩
    cases hi with
    | none =>
      rw [show rgD (lo, none) = .tup [.int lo, .non] from rfl]
      walk_at "dd"
      exact fin _ _
    | some h =>
      rw [show rgD (lo, some h) = .tup [.int lo, .int h] from rfl]
      walk_at "dd"
      exact fin _ _
  · rintro ρ S' ⟨rfl, x4, x5, rfl⟩
    rw [List.length_map, List.take_length]
    walk_at "dd"
    exact q
/-- how two sets are joined -/
inductive Wo where
  | both | any | first
def Wo.str : Wo → Str
  | .both => "both"
  | .any => "any"
  | .first => "first"
def Wo.fn : Wo → Bool → Bool → Bool
  | .both, a, b => a && b
  | .any, a, b => a || b
  | .first, a, b => a && !b
def pick : Wo → List Rg → List Rg → List Rg
  | .both, R, M => bothR R M
  | .first, R, M => bothR R (comp 0 M)
  | .any, R, M => comp 0 (bothR (comp 0 R) (comp 0 M))
theorem pick_asc {R M : List Rg} (a : Asc 0 R) (b : Asc 0 M) : ∀ o : Wo, Asc 0 (pick o R M)
  | .both => bothR_asc b a
  | .first => bothR_asc (comp_asc b) a
  | .any => comp_asc (bothR_asc (comp_asc b) (comp_asc a))
theorem pick_cm {R M : List Rg} (a : Asc 0 R) (b : Asc 0 M) (ca : Cm R) (cb : Cm M) : ∀ o : Wo, Cm (pick o R M)
  | .both => both_cm ca cb
  | .any => comp_cm (bothR_asc (comp_asc b) (comp_asc a))
  | .first => both_cm ca (comp_cm b)
theorem pick_len {R M : List Rg} {a b : Nat} (h1 : R.length ≤ a) (h2 : M.length ≤ b) (o : Wo) : (pick o R M).length ≤ (a + 1) * (b + 1) + 1 := by
  have c1 := comp_len R 0
  have c2 := comp_len M 0
  have k : ∀ {x y : Nat}, x ≤ a + 1 → y ≤ b + 1 → x * y ≤ (a + 1) * (b + 1) := fun h h' => Nat.mul_le_mul h h'
  cases o with
  | both => exact Nat.le_succ_of_le (Nat.le_trans (bothR_len _ _) (k (by omega) (by omega)))
  | first => exact Nat.le_succ_of_le (Nat.le_trans (bothR_len _ _) (k (by omega) (by omega)))
  | any => exact Nat.le_trans (comp_len _ _) (Nat.succ_le_succ (Nat.le_trans (bothR_len _ _) (k (by omega) (by omega))))
theorem pick_mem {R M : List Rg} (a : Asc 0 R) (b : Asc 0 M) {x : Int} (hx : 0 ≤ x) {f g : Bool} (hf : f = true ↔ mem R x) (hg : g = true ↔ mem M x) (o : Wo) : o.fn f g = true ↔ mem (pick o R M) x := by
  have e1 := comp_mem (x := x) a
  have e2 := comp_mem (x := x) b
  cases o with
  | both =>
    show (f && g) = true ↔ mem (bothR R M) x
    rw [bothR_mem, ← hf, ← hg, Bool.and_eq_true]
  | first =>
    show (f && !g) = true ↔ mem (bothR R (comp 0 M)) x
    rw [bothR_mem, e2, ← hf, ← hg]
    cases f <;> cases g <;> simp [hx]
  | any =>
    show (f || g) = true ↔ mem (comp 0 (bothR (comp 0 R) (comp 0 M))) x
    rw [comp_mem (bothR_asc (comp_asc b) (comp_asc a)), bothR_mem, e1, e2, ← hf, ← hg]
    cases f <;> cases g <;> simp [hx]
theorem ok_picked (T : Tx K mg) {R M : List Rg} (o : Wo) (hz : (R.length + 1) * (M.length + 1) ≤ 9000000) (q : Q (.v (.lst ((pick o R M).map rgD))) S) : sFun (bs P w K mg base) 2 (.ref (He.ga K "picked")) [] [.str o.str, .lst (R.map rgD), .lst (M.map rgD)] [] S Ex Q := by
  have c1 := comp_len R 0
  have c2 := comp_len M 0
  have k : ∀ {x y : Nat}, x ≤ R.length + 1 → y ≤ M.length + 1 → x * y ≤ 10000000 := fun h h' => Nat.le_trans (Nat.mul_le_mul h h') (by omega)
  have z1 : R.length ≤ 10000000 := by
    have h : R.length + 1 ≤ (R.length + 1) * (M.length + 1) := Nat.le_mul_of_pos_right _ (Nat.succ_pos _)
    omega
  have z2 : M.length ≤ 10000000 := by
    have h : M.length + 1 ≤ (R.length + 1) * (M.length + 1) := Nat.le_mul_of_pos_left _ (Nat.succ_pos _)
    omega
  refine' call_d (B := bs P w K mg base) 1 (Classical.choose_spec T.d_picked) sc_picked rfl (bm_all (ps := ["word", "ranges", "more"]) (Classical.choose_spec T.d_picked) (fun _ _ _ _ _ _ us hl => match us, hl with | [_, _, _], _ => rfl)) (dss_cons (ds_if (dt_cmp (dv 0) de_str) (dss_one (ds_ret (de_call rfl rfl ⟨T.g_common, (Classical.choose_spec T.d_common).kp⟩ (da_cons (dv 1) (da_cons (dv 2) da_nil))))) dss_nil) (dss_cons (ds_if (dt_cmp (dv 0) de_str) (dss_one (ds_ret (de_call rfl rfl ⟨T.g_common, (Classical.choose_spec T.d_common).kp⟩ (da_cons (dv 1) (da_cons (de_call rfl rfl ⟨T.g_others, (Classical.choose_spec T.d_others).kp⟩ (da_cons (dv 2) da_nil)) da_nil))))) dss_nil) (dss_one (ds_ret (de_call rfl rfl ⟨T.g_others, (Classical.choose_spec T.d_others).kp⟩ (da_cons (de_call rfl rfl ⟨T.g_common, (Classical.choose_spec T.d_common).kp⟩ (da_cons (de_call rfl rfl ⟨T.g_others, (Classical.choose_spec T.d_others).kp⟩ (da_cons (dv 1) da_nil)) (da_cons (de_call rfl rfl ⟨T.g_others, (Classical.choose_spec T.d_others).kp⟩ (da_cons (dv 2) da_nil)) da_nil))) da_nil)))))) ⟨rfl, rfl⟩ ?st ?_
  case st => walk_at "start"
  cases o with
  | both =>
    rw [show Wo.both.str = "both" from rfl]
    walk_at "dd"
    refine i_pos (by decide +kernel) ?_
    walk_at "dd"
    refine ok_common T (.inl rfl) (.inl rfl) (k (by omega) (by omega)) ?_
    walk_at "dd"
    exact q
  | first =>
    rw [show Wo.first.str = "first" from rfl]
    walk_at "dd"
    refine i_neg (by decide +kernel) ?_
    walk_at "dd"
    refine i_pos (by decide +kernel) ?_
    walk_at "dd"
    refine ok_others T (.inl rfl) z2 ?_
    walk_at "dd"
    refine ok_common T (.inl rfl) (.inl rfl) (k (by omega) (by omega)) ?_
    walk_at "dd"
    exact q
  | any =>
    rw [show Wo.any.str = "any" from rfl]
    walk_at "dd"
    refine i_neg (by decide +kernel) ?_
    walk_at "dd"
    refine i_neg (by decide +kernel) ?_
    walk_at "dd"
    refine ok_others T (.inl rfl) z1 ?_
    walk_at "dd"
    refine ok_others T (.inl rfl) z2 ?_
    walk_at "dd"
    refine ok_common T (.inl rfl) (.inl rfl) (k (by omega) (by omega)) ?_
    walk_at "dd"
    refine ok_others T (.inl rfl) (Nat.le_trans (bothR_len _ _) (k (by omega) (by omega))) ?_
    walk_at "dd"
    exact q
end Toy

set_option Elab.async false
set_option linter.all false
set_option maxRecDepth 100000
set_option maxHeartbeats 4000000
namespace Toy
open PySem PySem.Spec PyProof.Rows L2 My Dt SX
local macro_rules | `(tactic| walk_at "rg") => `(tactic| first
  | omega
  | ((refine And.intro ?_ (And.intro ?_ (And.intro ?_ ?_))) <;> omega))
local macro_rules | `(tactic| walk_at "ls") => `(tactic| first
  | with_reducible exact ls_v
  | with_reducible exact ls_b
  | ((with_reducible refine' ls_p ?hlp); (case hlp => with_reducible assumption)))
local macro_rules | `(tactic| walk_at "start") => `(tactic| ((simp only [startM, startS, List.map_cons, List.map_nil, List.length_cons, List.length_nil, List.cons_append, List.nil_append, Nat.reduceAdd, Nat.reduceSub, List.replicate_succ, List.replicate_zero]); exact rfl))
local macro_rules | `(tactic| walk_at "set") => `(tactic| first
  | ((dsimp only [Int.reduceToNat, List.set_cons_zero, List.set_cons_succ]); done)
  | ((dsimp only [Int.reduceToNat, List.set_cons_zero, List.set_cons_succ]); exact rfl)
  | exact rfl)
local macro_rules | `(tactic| walk_at "sz") => `(tactic| first
  | exact sz_of (Nat.le_of_ble_eq_true rfl)
  | (apply sz_of; simp only [List.length_cons, List.length_nil, List.length_append, List.length_map]; omega))
local macro_rules | `(tactic| walk_at "side") => `(tactic| first
  | with_reducible assumption
  | omega
  | exact ml (by omega) (by omega)
  | exact mr (by omega) (by omega)
  | exact dv (by omega) (by omega)
  | exact Bd.mulOk (by with_reducible assumption) (by with_reducible assumption) (by decide) (by decide) (by decide)
  | exact Bd.div (by with_reducible assumption) (by omega) (by decide) (by decide)
  | (show (0 : Int) < _; omega)
  | exact ⟨by decide, by decide, by decide⟩
  | decide
  | exact rfl)
local macro_rules | `(tactic| walk_at "st") => `(tactic| first
  | with_reducible refine q_seq ?_
  | with_reducible refine q_end ?_
  | with_reducible refine q_nil ?_
  | with_reducible refine q_asg ?_
  | with_reducible refine q_ret ?_
  | with_reducible refine q_if ?_
  | with_reducible refine q_expr ?_
  | with_reducible refine q_retN ?_
  | with_reducible refine q_sub ?_
  | with_reducible refine q_for ?_
  | with_reducible refine q_par ?_
  | with_reducible refine q_par3 ?_
  | with_reducible refine q_asgF ?_
  | with_reducible refine q_asgC ?_
  | ((with_reducible refine' q_frz ?ef ?_); (case ef => exact rfl))
  | ((with_reducible refine' q_app ?ea ?eb ?_); (case ea => exact rfl); (case eb => walk_at "slen"))
  | with_reducible refine q_brk ?_
  | with_reducible refine q_cnt ?_
  | with_reducible refine q_fldS ?_
  | with_reducible refine q_fldP ?_
  | with_reducible refine q_raise ?_
  | with_reducible refine q_try ?_)
local macro_rules | `(tactic| walk_at "slen") => `(tactic| first
  | with_reducible assumption
  | ((rw [sizeLine_eq]); (simp only [List.length_cons, List.length_nil, List.length_append, List.length_map]); omega))
local macro_rules | `(tactic| walk_at "sm") => `(tactic| first
  | with_reducible refine s_add ?_
  | with_reducible refine s_sub ?_
  | ((with_reducible refine' s_mul ?hm ?_); (case hm => walk_at "side"))
  | ((with_reducible refine' s_fdiv ?hm ?_); (case hm => walk_at "side"))
  | ((with_reducible refine' s_mod ?hm ?_); (case hm => walk_at "side"))
  | with_reducible refine s_neg ?_
  | ((with_reducible refine' s_pow ?hm ?_); (case hm => walk_at "side"))
  | ((with_reducible refine' s_ixL ?hl ?he ?_); (case hl => walk_at "ls"); (case he => exact rfl))
  | ((with_reducible refine' s_ixT ?he ?_); (case he => exact rfl))
  | ((with_reducible refine' set_L2 ?ha ?hb ?hc ?_); (case ha => with_reducible assumption); (case hb => exact rfl); (case hc => walk_at "set"))
  | with_reducible refine s_addB ?_
  | with_reducible refine s_lt ?_
  | with_reducible refine s_le ?_
  | with_reducible refine s_gt ?_
  | with_reducible refine s_ge ?_
  | with_reducible refine s_eq ?_
  | with_reducible refine s_ne ?_
  | with_reducible refine s_eqS ?_
  | with_reducible refine s_neS ?_
  | with_reducible refine s_isN ?_
  | with_reducible refine s_isNotN ?_
  | with_reducible refine t_bl ?_)
local macro_rules | `(tactic| walk_at "cl") => `(tactic| first
  | with_reducible refine c_int ?_
  | with_reducible refine c_intB ?_
  | with_reducible refine c_abs ?_
  | ((with_reducible refine' c_max ?hm ?_); (case hm => exact rfl))
  | ((with_reducible refine' c_min ?hm ?_); (case hm => exact rfl))
  | ((with_reducible refine' c_divmod ?hm ?_); (case hm => walk_at "side"))
  | ((with_reducible refine' c_len ?hm ?_); (case hm => walk_at "sq"))
  | ((with_reducible refine' c_list ?hm ?_); (case hm => walk_at "sq"))
  | ((with_reducible refine' c_tuple ?hm ?_); (case hm => walk_at "sq")))
local macro_rules | `(tactic| walk_at "sq") => `(tactic| first
  | exact sqL
  | exact sqT
  | exact sqB
  | exact sqP (by with_reducible assumption))
local macro_rules | `(tactic| walk_at "v") => `(tactic| first
  | ((with_reducible refine' v_sh ?ev ?_); (case ev => exact rfl))
  | ((with_reducible refine' v_ol ?ev ?_); (case ev => exact rfl))
  | ((with_reducible refine' v_slf ?ev ?_); (case ev => exact rfl))
  | with_reducible refine q_val ?_
  | ((with_reducible refine' q_walk ?ew ?_); (case ew => exact rfl))
  | ((with_reducible refine' q_rng1 ?ej ?ek ?_); (case ej => walk_at "rg"); (case ek => walk_at "rg"))
  | ((with_reducible refine' q_rng2 ?ej ?_); (case ej => walk_at "rg"))
  | with_reducible refine q_rngL ?_
  | with_reducible refine q_solc ?_
  | with_reducible refine q_sol0 ?_
  | ((with_reducible refine' q_gname ?eg ?_); (case eg => walk_at "set"))
  | ((with_reducible refine' n_set ?eg ?_); (case eg => walk_at "set"))
  | ((with_reducible refine' n_set2 ?eg ?_); (case eg => walk_at "set"))
  | ((with_reducible refine' n_set3 ?eg ?_); (case eg => walk_at "set"))
  | with_reducible refine q_two ?_
  | with_reducible refine q_three ?_
  | with_reducible refine q_bl ?_
  | with_reducible refine q_oint ?_
  | ((with_reducible refine' q_gtup ?el ?_); (case el => exact rfl))
  | with_reducible refine q_gcons ?_
  | with_reducible refine q_gnil ?_
  | with_reducible refine i_t ?_
  | with_reducible refine i_f ?_
  | with_reducible refine i_nt ?_
  | with_reducible refine i_nf ?_
  | ((with_reducible refine' n_t ?en ?_); (case en => exact rfl))
  | ((with_reducible refine' n_f ?en ?_); (case en => exact rfl))
  | ((with_reducible refine' nn_t ?en ?_); (case en => exact rfl))
  | ((with_reducible refine' nn_f ?en ?_); (case en => exact rfl))
  | with_reducible refine And.intro (by walk_at "sz") ?_)
local macro_rules | `(tactic| walk_at "d") => `(tactic| first
  | walk_at "v"
  | walk_at "st"
  | walk_at "sm"
  | walk_at "cl"
  | walk_at "at")
local macro_rules | `(tactic| walk_at "dd") => `(tactic| repeat walk_at "d")

variable {P : Program} {w : World} {K : PySem.W.Frag} {mg : Str → Option Value} {base : Heap} {S : Sto} {Ex : XS} {Q : QO}
/-! ### the least common multiple -/
theorem gcd_step (a b : Int) (ha : 0 < a) (hb : 0 < b) : Int.gcd b (a % b) = Int.gcd a b := by
  obtain ⟨n, rfl⟩ := Int.eq_ofNat_of_zero_le (Int.le_of_lt ha)
  obtain ⟨m, rfl⟩ := Int.eq_ofNat_of_zero_le (Int.le_of_lt hb)
  rw [← Int.natCast_emod, Int.gcd_natCast_natCast, Int.gcd_natCast_natCast, Nat.gcd_comm m, ← Nat.gcd_rec, Nat.gcd_comm]
/-- great, small walk down -/
def lc (a b : Int) : Int := a / (Int.gcd a b : Nat) * b
theorem lc_nat (n m : Nat) : lc n m = (Nat.lcm n m : Nat) := by
  unfold lc
  rw [Int.gcd_natCast_natCast, ← Int.natCast_ediv, ← Int.natCast_mul, Nat.lcm, Nat.div_mul_right_comm (Nat.gcd_dvd_left n m)]
theorem lc_facts {a b L : Int} (ha : 0 < a) (hb : 0 < b) (hL : 0 < L) (h1 : a ∣ L) (h2 : b ∣ L) : 0 < lc a b ∧ lc a b ∣ L ∧ lc a b ≤ L ∧ a ∣ lc a b ∧ b ∣ lc a b := by
  obtain ⟨n, rfl⟩ := Int.eq_ofNat_of_zero_le (Int.le_of_lt ha)
  obtain ⟨m, rfl⟩ := Int.eq_ofNat_of_zero_le (Int.le_of_lt hb)
  obtain ⟨l, rfl⟩ := Int.eq_ofNat_of_zero_le (Int.le_of_lt hL)
  rw [lc_nat]
  have d1 := Int.natCast_dvd_natCast.mp h1
  have d2 := Int.natCast_dvd_natCast.mp h2
  have hd := Nat.lcm_dvd d1 d2
  have hl : 0 < l := by omega
  have p : 0 < Nat.lcm n m := Nat.pos_of_dvd_of_pos hd hl
  exact ⟨by omega, Int.natCast_dvd_natCast.mpr hd, by have := Nat.le_of_dvd hl hd; omega, Int.natCast_dvd_natCast.mpr (Nat.dvd_lcm_left n m), Int.natCast_dvd_natCast.mpr (Nat.dvd_lcm_right n m)⟩
theorem ok_common_divisor (T : Tx K mg) {a b : Int} (ha : 0 < a) (hb : 0 < b) (q : Q (.v (.int (Int.gcd a b : Nat))) S) : sFun (bs P w K mg base) 1 (.ref (He.ga K "common_divisor")) [] [.int a, .int b] [] S Ex Q := by
  refine' call_d (B := bs P w K mg base) 0 (Classical.choose_spec T.d_common_divisor) sc_common_divisor rfl (bm_all (ps := ["first", "second"]) (Classical.choose_spec T.d_common_divisor) (fun _ _ _ _ _ _ us hl => match us, hl with | [_, _], _ => rfl)) (dss_cons (ds_par (i := 2) (j := 3) rfl rfl rfl (by decide) rfl rfl (da_cons (de_callB (id := "abs") rfl T.f_abs (by decide +kernel) (da_cons (dv 0) da_nil)) (da_cons (de_callB (id := "abs") rfl T.f_abs (by decide +kernel) (da_cons (dv 1) da_nil)) da_nil)) (fun env h => by cases env; cases h; rfl)) (dss_cons (ds_while rfl (dt_cmp (dv 3) de_int) (dss_one (ds_par (i := 2) (j := 3) rfl rfl rfl (by decide) rfl rfl (da_cons (dv 3) (da_cons (de_bin (dv 2) (dv 3)) da_nil)) (fun env h => by cases env; cases h; rfl)))) (dss_one (ds_ret (dv 2))))) ⟨rfl, rfl⟩ ?st ?_
  case st => walk_at "start"
  walk_at "dd"
  rw [if_neg (by omega), if_neg (by omega)]
  refine ⟨fun m ρ S' => S' = S ∧ ∃ g s : Int, ρ = [.sh (.int a), .sh (.int b), .sh (.int g), .sh (.int s)] ∧ 0 < g ∧ 0 ≤ s ∧ m = s.toNat ∧ Int.gcd g s = Int.gcd a b, ⟨b.toNat, rfl, a, b, rfl, ha, by omega, rfl, rfl⟩, ?_⟩
  rintro m ρ S' ⟨rfl, g, s, rfl, hg, hs, rfl, e⟩
  walk_at "dd"
  refine i_two (fun h => ?_) fun h => ?_
  · walk_at "dd"
    have h1 := Int.emod_nonneg g (show s ≠ 0 by omega)
    have h2 := Int.emod_lt_of_pos g h
    exact ⟨(g % s).toNat, by omega, rfl, s, g % s, rfl, h, h1, rfl, (gcd_step g s hg h).trans e⟩
  · walk_at "dd"
    obtain rfl : s = 0 := by omega
    have e2 : Int.gcd g 0 = g.natAbs := Int.gcd_zero_right g
    rw [e2] at e
    have e3 : ((Int.gcd a b : Nat) : Int) = g := by omega
    rw [e3] at q
    exact q
theorem ok_common_multiple (T : Tx K mg) {a b : Int} (ha : 0 < a) (ha2 : a ≤ 5040) (hb : 0 < b) (hb2 : b ≤ 5040) (q : Q (.v (.int (lc a b))) S) : sFun (bs P w K mg base) 2 (.ref (He.ga K "common_multiple")) [] [.int a, .int b] [] S Ex Q := by
  refine' call_d (B := bs P w K mg base) 1 (Classical.choose_spec T.d_common_multiple) sc_common_multiple rfl (bm_all (ps := ["first", "second"]) (Classical.choose_spec T.d_common_multiple) (fun _ _ _ _ _ _ us hl => match us, hl with | [_, _], _ => rfl)) (dss_one (ds_ret (de_bin (de_bin (dv 0) (de_call rfl rfl ⟨T.g_common_divisor, (Classical.choose_spec T.d_common_divisor).kp⟩ (da_cons (dv 0) (da_cons (dv 1) da_nil)))) (dv 1)))) ⟨rfl, rfl⟩ ?st ?_
  case st => walk_at "start"
  walk_at "dd"
  refine ok_common_divisor T ha hb ?_
  have h1 : 0 < Int.gcd a b := Int.gcd_pos_of_ne_zero_left _ (by omega)
  have h2 : (Int.gcd a b : Int) ≤ a := Int.le_of_dvd ha (Int.gcd_dvd_left ..)
  walk_at "dd"
  exact q
theorem ok_is_integer (T : Tx K mg) {i : Int} (q : Q (.v (.bl true)) S) : sFun (bs P w K mg base) 1 (.ref (He.ga K "is_integer")) [] [.int i] [] S Ex Q := by
  refine' call_d (B := bs P w K mg base) 0 (Classical.choose_spec T.d_is_integer) sc_is_integer rfl (bm_all (ps := ["value"]) (Classical.choose_spec T.d_is_integer) (fun _ _ _ _ _ _ us hl => match us, hl with | [_], _ => rfl)) (dss_one (ds_ret (de_and (de_callB (id := "isinstance") rfl T.f_isinstance (by decide +kernel) (da_cons (dv 0) (da_cons (de_ty (n := "int") rfl T.f_int (by decide +kernel)) da_nil))) (de_one (de_not (de_callB (id := "isinstance") rfl T.f_isinstance (by decide +kernel) (da_cons (dv 0) (da_cons (de_ty (n := "bool") rfl T.f_bool (by decide +kernel)) da_nil)))))))) ⟨rfl, rfl⟩ ?st ?_
  case st => walk_at "start"
  walk_at "dd"
  refine c_isi (tyK rfl) rfl T.i_II ?_
  walk_at "dd"
  refine c_isi (tyK rfl) rfl T.i_IB ?_
  walk_at "dd"
  exact q
/-! ### sets -/
def rowD (R : List Rg) : D := .tup (R.map rgD)
def setD (m : Int) (rows : List (List Rg)) : D := .ins "Sizes" [("modulus", .int m), ("ranges", .tup (rows.map rowD))]
theorem ok_Sizes (T : Tx K mg) {m : Int} {rows : List (List Rg)} (q : Q (.v (setD m rows)) S) : sFun (bs P w K mg base) 2 (.ref (He.ga K "Sizes")) [] [.int m, .tup (rows.map rowD)] [] S Ex Q := by
  refine' call_m (B := bs P w K mg base) 0 T.mk_Sizes (Classical.choose_spec T.d_Sizes__init) sc_Sizes__init rfl (bm_all (ps := ["self", "modulus", "ranges"]) (Classical.choose_spec T.d_Sizes__init) (fun _ _ _ _ _ _ us hl => match us, hl with | [_, _, _], _ => rfl)) (dss_cons (ds_self (i := 0) rfl (.inl rfl) (dv 1)) (dss_one (ds_self (i := 0) rfl (.inl rfl) (dv 2)))) ⟨rfl, rfl⟩ ?st ?_
  case st => walk_at "start"
  walk_at "dd"
  refine' f_fldS ?e1 T.cl_Sizes T.n_Sizes_modulus ?l1 ?_
  case e1 => exact rfl
  case l1 => decide
  walk_at "dd"
  refine ⟨_, _, _, rfl, rfl, T.cl_Sizes, T.n_Sizes_ranges, Nat.le_of_ble_eq_true rfl, ?_⟩
  exact ⟨_, rfl, .inl q⟩
/-! ### joined -/
/-- the sets: m the modulus, f its members, no row longer than n -/
structure SetR (m : Int) (rows : List (List Rg)) (n : Nat) (f : Int → Bool) : Prop where
  m0 : 0 < m
  m1 : m ≤ 5040
  len : (rows.length : Int) = m
  asc : ∀ r ∈ rows, Asc 0 r
  ln : ∀ r ∈ rows, r.length ≤ n
  cg : ∀ (i : Nat) r, rows[i]? = some r → ∀ q ∈ r, q.1 % m = i
  mem : ∀ x, 0 ≤ x → ∀ r, rows[(x % m).toNat]? = some r → (f x = true ↔ mem r x)
  cn : Cn m rows
def row (rows : List (List Rg)) (i : Int) : List Rg := rows.getD i.toNat []
/-- the row of a rest -/
def joinRow (o : Wo) (m1 m2 : Int) (R M : List (List Rg)) (rest : Int) : List Rg :=
  szR (lc m1 m2) rest (pick o (comp 0 (comp 0 (ixR (lc m1 m2) rest (row R (rest % m1))))) (comp 0 (comp 0 (ixR (lc m1 m2) rest (row M (rest % m2))))))
def join (o : Wo) (m1 m2 : Int) (R M : List (List Rg)) : List (List Rg) := (List.range (lc m1 m2).toNat).map fun i => joinRow o m1 m2 R M (i : Nat)
theorem row_at {m : Int} {rows : List (List Rg)} (hm : 0 < m) (hl : (rows.length : Int) = m) (x : Int) : rows[(x % m).toNat]? = some (row rows (x % m)) := by
  have h1 := Int.emod_nonneg x (show m ≠ 0 by omega)
  have h2 := Int.emod_lt_of_pos x hm
  have h3 : (x % m).toNat < rows.length := by omega
  unfold row
  rw [List.getD_eq_getElem?_getD, List.getElem?_eq_getElem h3] <;> rfl
theorem SetR.row {m : Int} {rows : List (List Rg)} {n : Nat} {f : Int → Bool} (h : SetR m rows n f) (x : Int) : Asc 0 (row rows (x % m)) ∧ (row rows (x % m)).length ≤ n := by
  have e := row_at h.m0 h.len x
  exact ⟨h.asc _ (List.mem_of_getElem? e), h.ln _ (List.mem_of_getElem? e)⟩
theorem join_ok {o : Wo} {m1 m2 L : Int} {R M : List (List Rg)} {n1 n2 : Nat} {f g : Int → Bool} (a : SetR m1 R n1 f) (b : SetR m2 M n2 g) (hL : 0 < L) (hL2 : L ≤ 5040) (d1 : m1 ∣ L) (d2 : m2 ∣ L) : SetR (lc m1 m2) (join o m1 m2 R M) ((n1 + 3) * (n2 + 3) + 1) (fun x => o.fn (f x) (g x)) ∧ lc m1 m2 ∣ L := by
  obtain ⟨p, dL, le, q1, q2⟩ := lc_facts a.m0 b.m0 hL d1 d2
  have asc1 : ∀ rest, 0 ≤ rest → rest < lc m1 m2 → Asc 0 (comp 0 (comp 0 (ixR (lc m1 m2) rest (row R (rest % m1))))) ∧ (∀ t, 0 ≤ t → (f (lc m1 m2 * t + rest) = true ↔ mem (comp 0 (comp 0 (ixR (lc m1 m2) rest (row R (rest % m1))))) t)) ∧ Cm (comp 0 (comp 0 (ixR (lc m1 m2) rest (row R (rest % m1))))) := fun rest h0 h1 => by
    have c := ixR_asc p (rest := rest) (a.row rest).1
    rw [cl_zero p h0 h1] at c
    refine ⟨comp_asc (comp_asc c), fun t ht => ?_, comp_cm (comp_asc c)⟩
    rw [comp2_mem c, ixR_mem p]
    have hx : 0 ≤ lc m1 m2 * t + rest := Int.add_nonneg (Int.mul_nonneg (Int.le_of_lt p) ht) h0
    have e : (lc m1 m2 * t + rest) % m1 = rest % m1 := by
      obtain ⟨k, hk⟩ := q1
      rw [hk, Int.mul_assoc, Int.add_comm, Int.add_mul_emod_self_left]
    have := a.mem _ hx _ (row_at a.m0 a.len _)
    rw [e] at this
    exact this
  have asc2 : ∀ rest, 0 ≤ rest → rest < lc m1 m2 → Asc 0 (comp 0 (comp 0 (ixR (lc m1 m2) rest (row M (rest % m2))))) ∧ (∀ t, 0 ≤ t → (g (lc m1 m2 * t + rest) = true ↔ mem (comp 0 (comp 0 (ixR (lc m1 m2) rest (row M (rest % m2))))) t)) ∧ Cm (comp 0 (comp 0 (ixR (lc m1 m2) rest (row M (rest % m2))))) := fun rest h0 h1 => by
    have c := ixR_asc p (rest := rest) (b.row rest).1
    rw [cl_zero p h0 h1] at c
    refine ⟨comp_asc (comp_asc c), fun t ht => ?_, comp_cm (comp_asc c)⟩
    rw [comp2_mem c, ixR_mem p]
    have hx : 0 ≤ lc m1 m2 * t + rest := Int.add_nonneg (Int.mul_nonneg (Int.le_of_lt p) ht) h0
    have e : (lc m1 m2 * t + rest) % m2 = rest % m2 := by
      obtain ⟨k, hk⟩ := q2
      rw [hk, Int.mul_assoc, Int.add_comm, Int.add_mul_emod_self_left]
    have := b.mem _ hx _ (row_at b.m0 b.len _)
    rw [e] at this
    exact this
  refine ⟨⟨p, by omega, ?_, fun r hr => ?_, fun r hr => ?_, fun i r hr q hq => ?_, fun x hx r hr => ?_, fun i r hr q hq h e => ?_⟩, dL⟩
  · unfold join
    rw [List.length_map, List.length_range]
    omega
  · obtain ⟨i, hi, rfl⟩ := List.mem_map.mp hr
    have hi := List.mem_range.mp hi
    have z := szR_asc p (rest := (i : Nat)) (pick_asc (asc1 i (by omega) (by omega)).1 (asc2 i (by omega) (by omega)).1 o)
    exact z.le (by rw [Int.mul_zero]; omega)
  · obtain ⟨i, hi, rfl⟩ := List.mem_map.mp hr
    unfold joinRow szR
    rw [List.length_map]
    have l1 : (comp 0 (comp 0 (ixR (lc m1 m2) (i : Nat) (Toy.row R ((i : Nat) % m1))))).length ≤ n1 + 2 := by
      have h1 := comp_len (comp 0 (ixR (lc m1 m2) (i : Nat) (Toy.row R ((i : Nat) % m1)))) 0
      have h2 := comp_len (ixR (lc m1 m2) (i : Nat) (Toy.row R ((i : Nat) % m1))) 0
      have h3 := ixR_len (m := lc m1 m2) (rest := (i : Nat)) (Toy.row R ((i : Nat) % m1))
      have h4 := (a.row (i : Nat)).2
      omega
    have l2 : (comp 0 (comp 0 (ixR (lc m1 m2) (i : Nat) (Toy.row M ((i : Nat) % m2))))).length ≤ n2 + 2 := by
      have h1 := comp_len (comp 0 (ixR (lc m1 m2) (i : Nat) (Toy.row M ((i : Nat) % m2)))) 0
      have h2 := comp_len (ixR (lc m1 m2) (i : Nat) (Toy.row M ((i : Nat) % m2))) 0
      have h3 := ixR_len (m := lc m1 m2) (rest := (i : Nat)) (Toy.row M ((i : Nat) % m2))
      have h4 := (b.row (i : Nat)).2
      omega
    exact pick_len l1 l2 o
  · have hi : i < (lc m1 m2).toNat := by
      have := (List.getElem?_eq_some_iff.mp hr).1
      unfold join at this
      rw [List.length_map, List.length_range] at this
      exact this
    unfold join at hr
    rw [List.getElem?_map, List.getElem?_range hi] at hr
    obtain rfl := Option.some.inj hr
    obtain ⟨r, _, rfl⟩ := List.mem_map.mp hq
    show (lc m1 m2 * r.1 + (i : Nat)) % lc m1 m2 = i
    rw [Int.add_comm, Int.add_mul_emod_self_left]
    exact Int.emod_eq_of_lt (by omega) (by omega)
  · have h1 := Int.emod_nonneg x (show lc m1 m2 ≠ 0 by omega)
    have h2 := Int.emod_lt_of_pos x p
    unfold join at hr
    rw [List.getElem?_map, List.getElem?_range (by omega)] at hr
    obtain rfl := Option.some.inj hr
    have e : (((x % lc m1 m2).toNat : Nat) : Int) = x % lc m1 m2 := by omega
    show _ ↔ mem (joinRow o m1 m2 R M (((x % lc m1 m2).toNat : Nat) : Int)) x
    rw [e]
    unfold joinRow
    have ex : x = lc m1 m2 * (x / lc m1 m2) + x % lc m1 m2 := by
      have := Int.emod_add_mul_ediv x (lc m1 m2)
      omega
    have ht : 0 ≤ x / lc m1 m2 := Int.ediv_nonneg hx (Int.le_of_lt p)
    obtain ⟨c1, k1, _⟩ := asc1 _ h1 h2
    obtain ⟨c2, k2, _⟩ := asc2 _ h1 h2
    have k1 := k1 _ ht
    have k2 := k2 _ ht
    have key := szR_mem p (rest := x % lc m1 m2) (R := pick o (comp 0 (comp 0 (ixR (lc m1 m2) (x % lc m1 m2) (Toy.row R (x % lc m1 m2 % m1))))) (comp 0 (comp 0 (ixR (lc m1 m2) (x % lc m1 m2) (Toy.row M (x % lc m1 m2 % m2)))))) (t := x / lc m1 m2)
    rw [← ex] at key k1 k2
    rw [key]
    exact pick_mem c1 c2 ht k1 k2 o
  · have hi : i < (lc m1 m2).toNat := by
      have := (List.getElem?_eq_some_iff.mp hr).1
      unfold join at this
      rw [List.length_map, List.length_range] at this
      exact this
    unfold join at hr
    rw [List.getElem?_map, List.getElem?_range hi] at hr
    obtain rfl := Option.some.inj hr
    obtain ⟨c1, _, d1⟩ := asc1 (i : Nat) (by omega) (by omega)
    obtain ⟨c2, _, d2⟩ := asc2 (i : Nat) (by omega) (by omega)
    have z := sz_cm p (rest := (i : Nat)) (pick_cm c1 c2 d1 d2 o) q hq h e
    rw [Int.emod_eq_of_lt (show (0 : Int) ≤ (i : Nat) by omega) (by omega)] at z
    exact z
end Toy

set_option Elab.async false
set_option linter.all false
set_option maxRecDepth 100000
set_option maxHeartbeats 4000000
namespace Toy
open PySem PySem.Spec PyProof.Rows L2 My Dt SX
local macro_rules | `(tactic| walk_at "rg") => `(tactic| first
  | omega
  | ((refine And.intro ?_ (And.intro ?_ (And.intro ?_ ?_))) <;> omega))
local macro_rules | `(tactic| walk_at "ls") => `(tactic| first
  | with_reducible exact ls_v
  | with_reducible exact ls_b
  | ((with_reducible refine' ls_p ?hlp); (case hlp => with_reducible assumption)))
local macro_rules | `(tactic| walk_at "start") => `(tactic| ((simp only [startM, startS, List.map_cons, List.map_nil, List.length_cons, List.length_nil, List.cons_append, List.nil_append, Nat.reduceAdd, Nat.reduceSub, List.replicate_succ, List.replicate_zero]); exact rfl))
local macro_rules | `(tactic| walk_at "set") => `(tactic| first
  | ((dsimp only [Int.reduceToNat, List.set_cons_zero, List.set_cons_succ]); done)
  | ((dsimp only [Int.reduceToNat, List.set_cons_zero, List.set_cons_succ]); exact rfl)
  | exact rfl)
local macro_rules | `(tactic| walk_at "sz") => `(tactic| first
  | exact sz_of (Nat.le_of_ble_eq_true rfl)
  | (apply sz_of; simp only [List.length_cons, List.length_nil, List.length_append, List.length_map]; omega))
local macro_rules | `(tactic| walk_at "side") => `(tactic| first
  | with_reducible assumption
  | omega
  | exact ml (by omega) (by omega)
  | exact mr (by omega) (by omega)
  | exact dv (by omega) (by omega)
  | exact Bd.mulOk (by with_reducible assumption) (by with_reducible assumption) (by decide) (by decide) (by decide)
  | exact Bd.div (by with_reducible assumption) (by omega) (by decide) (by decide)
  | (show (0 : Int) < _; omega)
  | exact ⟨by decide, by decide, by decide⟩
  | decide
  | exact rfl)
local macro_rules | `(tactic| walk_at "st") => `(tactic| first
  | with_reducible refine q_seq ?_
  | with_reducible refine q_end ?_
  | with_reducible refine q_nil ?_
  | with_reducible refine q_asg ?_
  | with_reducible refine q_ret ?_
  | with_reducible refine q_if ?_
  | with_reducible refine q_expr ?_
  | with_reducible refine q_retN ?_
  | with_reducible refine q_sub ?_
  | with_reducible refine q_for ?_
  | with_reducible refine q_par ?_
  | with_reducible refine q_par3 ?_
  | with_reducible refine q_asgF ?_
  | with_reducible refine q_asgC ?_
  | ((with_reducible refine' q_frz ?ef ?_); (case ef => exact rfl))
  | ((with_reducible refine' q_app ?ea ?eb ?_); (case ea => exact rfl); (case eb => walk_at "slen"))
  | with_reducible refine q_brk ?_
  | with_reducible refine q_cnt ?_
  | with_reducible refine q_fldS ?_
  | with_reducible refine q_fldP ?_
  | with_reducible refine q_raise ?_
  | with_reducible refine q_try ?_)
local macro_rules | `(tactic| walk_at "slen") => `(tactic| first
  | with_reducible assumption
  | ((rw [sizeLine_eq]); (simp only [List.length_cons, List.length_nil, List.length_append, List.length_map]); omega))
local macro_rules | `(tactic| walk_at "sm") => `(tactic| first
  | with_reducible refine s_add ?_
  | with_reducible refine s_sub ?_
  | ((with_reducible refine' s_mul ?hm ?_); (case hm => walk_at "side"))
  | ((with_reducible refine' s_fdiv ?hm ?_); (case hm => walk_at "side"))
  | ((with_reducible refine' s_mod ?hm ?_); (case hm => walk_at "side"))
  | with_reducible refine s_neg ?_
  | ((with_reducible refine' s_pow ?hm ?_); (case hm => walk_at "side"))
  | ((with_reducible refine' s_ixL ?hl ?he ?_); (case hl => walk_at "ls"); (case he => exact rfl))
  | ((with_reducible refine' s_ixT ?he ?_); (case he => exact rfl))
  | ((with_reducible refine' set_L2 ?ha ?hb ?hc ?_); (case ha => with_reducible assumption); (case hb => exact rfl); (case hc => walk_at "set"))
  | with_reducible refine s_addB ?_
  | with_reducible refine s_lt ?_
  | with_reducible refine s_le ?_
  | with_reducible refine s_gt ?_
  | with_reducible refine s_ge ?_
  | with_reducible refine s_eq ?_
  | with_reducible refine s_ne ?_
  | with_reducible refine s_eqS ?_
  | with_reducible refine s_neS ?_
  | with_reducible refine s_isN ?_
  | with_reducible refine s_isNotN ?_
  | with_reducible refine t_bl ?_)
local macro_rules | `(tactic| walk_at "cl") => `(tactic| first
  | with_reducible refine c_int ?_
  | with_reducible refine c_intB ?_
  | with_reducible refine c_abs ?_
  | ((with_reducible refine' c_max ?hm ?_); (case hm => exact rfl))
  | ((with_reducible refine' c_min ?hm ?_); (case hm => exact rfl))
  | ((with_reducible refine' c_divmod ?hm ?_); (case hm => walk_at "side"))
  | ((with_reducible refine' c_len ?hm ?_); (case hm => walk_at "sq"))
  | ((with_reducible refine' c_list ?hm ?_); (case hm => walk_at "sq"))
  | ((with_reducible refine' c_tuple ?hm ?_); (case hm => walk_at "sq")))
local macro_rules | `(tactic| walk_at "sq") => `(tactic| first
  | exact sqL
  | exact sqT
  | exact sqB
  | exact sqP (by with_reducible assumption))
local macro_rules | `(tactic| walk_at "v") => `(tactic| first
  | ((with_reducible refine' v_sh ?ev ?_); (case ev => exact rfl))
  | ((with_reducible refine' v_ol ?ev ?_); (case ev => exact rfl))
  | ((with_reducible refine' v_slf ?ev ?_); (case ev => exact rfl))
  | with_reducible refine q_val ?_
  | ((with_reducible refine' q_walk ?ew ?_); (case ew => exact rfl))
  | ((with_reducible refine' q_rng1 ?ej ?ek ?_); (case ej => walk_at "rg"); (case ek => walk_at "rg"))
  | ((with_reducible refine' q_rng2 ?ej ?_); (case ej => walk_at "rg"))
  | with_reducible refine q_rngL ?_
  | with_reducible refine q_solc ?_
  | with_reducible refine q_sol0 ?_
  | ((with_reducible refine' q_gname ?eg ?_); (case eg => walk_at "set"))
  | ((with_reducible refine' n_set ?eg ?_); (case eg => walk_at "set"))
  | ((with_reducible refine' n_set2 ?eg ?_); (case eg => walk_at "set"))
  | ((with_reducible refine' n_set3 ?eg ?_); (case eg => walk_at "set"))
  | with_reducible refine q_two ?_
  | with_reducible refine q_three ?_
  | with_reducible refine q_bl ?_
  | with_reducible refine q_oint ?_
  | ((with_reducible refine' q_gtup ?el ?_); (case el => exact rfl))
  | with_reducible refine q_gcons ?_
  | with_reducible refine q_gnil ?_
  | with_reducible refine i_t ?_
  | with_reducible refine i_f ?_
  | with_reducible refine i_nt ?_
  | with_reducible refine i_nf ?_
  | ((with_reducible refine' n_t ?en ?_); (case en => exact rfl))
  | ((with_reducible refine' n_f ?en ?_); (case en => exact rfl))
  | ((with_reducible refine' nn_t ?en ?_); (case en => exact rfl))
  | ((with_reducible refine' nn_f ?en ?_); (case en => exact rfl))
  | with_reducible refine And.intro (by walk_at "sz") ?_)
local macro_rules | `(tactic| walk_at "d") => `(tactic| first
  | walk_at "v"
  | walk_at "st"
  | walk_at "sm"
  | walk_at "cl"
  | walk_at "at")
local macro_rules | `(tactic| walk_at "dd") => `(tactic| repeat walk_at "d")

variable {P : Program} {w : World} {K : PySem.W.Frag} {mg : Str → Option Value} {base : Heap} {S : Sto} {Ex : XS} {Q : QO}
theorem a_mod (T : Tx K mg) {k : Nat} {m : Int} {rows : List (List Rg)} (q : Q (.v (.int m)) S) : sAttr (bs P w K mg base) k "modulus" (.v (setD m rows)) S Ex Q := sAttr_f isI_ins T.cl_Sizes T.n_Sizes_modulus rfl q
theorem a_rng (T : Tx K mg) {k : Nat} {m : Int} {rows : List (List Rg)} (q : Q (.v (.tup (rows.map rowD))) S) : sAttr (bs P w K mg base) k "ranges" (.v (setD m rows)) S Ex Q := sAttr_f isI_ins T.cl_Sizes T.n_Sizes_ranges rfl q
theorem row_ix {m : Int} {rows : List (List Rg)} (hm : 0 < m) (hl : (rows.length : Int) = m) (x : Int) : L2.atI (rows.map rowD) (x % m) = some (rowD (row rows (x % m))) := by
  have h1 := Int.emod_nonneg x (show m ≠ 0 by omega)
  have h2 := Int.emod_lt_of_pos x hm
  unfold L2.atI ixN
  rw [List.length_map, if_pos h1, if_pos (by omega)]
  show (rows.map rowD)[(x % m).toNat]? = _
  rw [List.getElem?_map, row_at hm hl] <;> rfl
theorem ok_joined (T : Tx K mg) {o : Wo} {m1 m2 L : Int} {R M : List (List Rg)} {n1 n2 : Nat} {f g : Int → Bool} (a : SetR m1 R n1 f) (b : SetR m2 M n2 g) (hL : 0 < L) (hL2 : L ≤ 5040) (d1 : m1 ∣ L) (d2 : m2 ∣ L) (hz : (n1 + 3) * (n2 + 3) ≤ 8000000) (q : Q (.v (setD (lc m1 m2) (join o m1 m2 R M))) S) :
    sFun (bs P w K mg base) 3 (.ref (mAd K "Sizes" "joined")) [] [setD m1 R, setD m2 M, .str o.str] [] S Ex Q := by
  obtain ⟨p, dL, le, q1, q2⟩ := lc_facts a.m0 b.m0 hL d1 d2
  have z1 : n1 ≤ 3000000 := by
    have h : (n1 + 3) * 3 ≤ (n1 + 3) * (n2 + 3) := Nat.mul_le_mul_left _ (by omega)
    omega
  have z2 : n2 ≤ 3000000 := by
    have h : 3 * (n2 + 3) ≤ (n1 + 3) * (n2 + 3) := Nat.mul_le_mul_right _ (by omega)
    omega
  refine' call_d (B := bs P w K mg base) 2 (Classical.choose_spec T.d_Sizes_joined) sc_Sizes_joined rfl (bm_all (ps := ["self", "other", "word"]) (Classical.choose_spec T.d_Sizes_joined) (fun _ _ _ _ _ _ us hl => match us, hl with | [_, _, _], _ => rfl)) (dss_cons (dst 3 (de_call rfl rfl ⟨T.g_common_multiple, (Classical.choose_spec T.d_common_multiple).kp⟩ (da_cons (de_attr (dv 0)) (da_cons (de_attr (dv 1)) da_nil)))) (dss_cons (ds_if (dt_cmp (dv 3) (de_gint rfl T.c_MODULUS)) (dss_one ds_never) dss_nil) (dss_cons (dstF 4 (df_lst da_nil)) (dss_cons (ds_for rfl rfl (di_range1 rfl T.f_range (da_cons (dv 3) da_nil)) (dgn 5) (dss_cons (dst 6 (de_call rfl rfl ⟨T.g_indexes_of, (Classical.choose_spec T.d_indexes_of).kp⟩ (da_cons (de_ix (de_attr (dv 0)) (de_bin (dv 5) (de_attr (dv 0))) (fun _ _ => rfl)) (da_cons (dv 5) (da_cons (dv 3) da_nil))))) (dss_cons (dst 7 (de_call rfl rfl ⟨T.g_indexes_of, (Classical.choose_spec T.d_indexes_of).kp⟩ (da_cons (de_ix (de_attr (dv 1)) (de_bin (dv 5) (de_attr (dv 1))) (fun _ _ => rfl)) (da_cons (dv 5) (da_cons (dv 3) da_nil))))) (dss_one (ds_app (i := 4) rfl (.inl rfl) (de_call rfl rfl ⟨T.g_sizes_of, (Classical.choose_spec T.d_sizes_of).kp⟩ (da_cons (de_call rfl rfl ⟨T.g_picked, (Classical.choose_spec T.d_picked).kp⟩ (da_cons (dv 2) (da_cons (dv 6) (da_cons (dv 7) da_nil)))) (da_cons (dv 5) (da_cons (dv 3) da_nil))))))))) (dss_frz 4 (dss_one (ds_ret (de_call rfl rfl ⟨T.g_Sizes, T.mk_Sizes.kp⟩ (da_cons (dv 3) (da_cons (de_callT (T := "tuple") rfl T.f_tuple (by decide +kernel) (da_cons (dv 4) da_nil)) da_nil)))))))))) ⟨rfl, rfl⟩ ?st ?_
  case st => walk_at "start"
  walk_at "dd"
  refine a_mod T ?_
  walk_at "dd"
  refine a_mod T ?_
  walk_at "dd"
  refine ok_common_multiple T a.m0 a.m1 b.m0 b.m1 ?_
  walk_at "dd"
  refine i_neg (by omega) ?_
  walk_at "dd"
  refine loop_inv (fun i ρ S' => S' = S ∧ ∃ x5 x6 x7 : Sl, ρ = [.sh (setD m1 R), .sh (setD m2 M), .sh (.str o.str), .sh (.int (lc m1 m2)), .ol (((join o m1 m2 R M).take i).map rowD), x5, x6, x7]) ⟨rfl, _, _, _, rfl⟩ ?_ ?_
  · rintro i x ρ S' Nx hx ⟨rfl, x5, x6, x7, rfl⟩ hN
    obtain ⟨hi, rfl⟩ := rngD_at hx
    rw [Int.zero_add]
    have hj : (join o m1 m2 R M)[i]? = some (joinRow o m1 m2 R M (i : Nat)) := by
      unfold join
      rw [List.getElem?_map, List.getElem?_range hi] <;> rfl
    have hR := drop_at hj
    have hz2 : (((join o m1 m2 R M).take i).map rowD).length < sizeLine := by
      rw [List.length_map, List.length_take, sizeLine_eq]
      omega
    have l1 : (comp 0 (comp 0 (ixR (lc m1 m2) (i : Nat) (Toy.row R ((i : Nat) % m1))))).length ≤ n1 + 2 := by
      have h1 := comp_len (comp 0 (ixR (lc m1 m2) (i : Nat) (Toy.row R ((i : Nat) % m1)))) 0
      have h2 := comp_len (ixR (lc m1 m2) (i : Nat) (Toy.row R ((i : Nat) % m1))) 0
      have h3 := ixR_len (m := lc m1 m2) (rest := (i : Nat)) (Toy.row R ((i : Nat) % m1))
      have h4 := (a.row (i : Nat)).2
      omega
    have l2 : (comp 0 (comp 0 (ixR (lc m1 m2) (i : Nat) (Toy.row M ((i : Nat) % m2))))).length ≤ n2 + 2 := by
      have h1 := comp_len (comp 0 (ixR (lc m1 m2) (i : Nat) (Toy.row M ((i : Nat) % m2)))) 0
      have h2 := comp_len (ixR (lc m1 m2) (i : Nat) (Toy.row M ((i : Nat) % m2))) 0
      have h3 := ixR_len (m := lc m1 m2) (rest := (i : Nat)) (Toy.row M ((i : Nat) % m2))
      have h4 := (b.row (i : Nat)).2
      omega
    simp only [hR.2, List.map_append] at hN
    have m1p := a.m0
    have m2p := b.m0
    walk_at "dd"
    refine a_rng T ?_
    walk_at "dd"
    refine a_mod T ?_
    walk_at "dd"
    refine s_ixT (row_ix a.m0 a.len _) ?_
    walk_at "dd"
    refine ok_indexes_of T (.inr rfl) p (by omega) (Nat.le_trans (a.row _).2 (by omega)) ?_
    walk_at "dd"
    refine a_rng T ?_
    walk_at "dd"
    refine a_mod T ?_
    walk_at "dd"
    refine s_ixT (row_ix b.m0 b.len _) ?_
    walk_at "dd"
    refine ok_indexes_of T (.inr rfl) p (by omega) (Nat.le_trans (b.row _).2 (by omega)) ?_
    walk_at "dd"
    have pz : _ ≤ (n1 + 3) * (n2 + 3) + 1 := pick_len l1 l2 o
    refine ok_picked T o (Nat.le_trans (Nat.mul_le_mul (show _ ≤ n1 + 3 by omega) (show _ ≤ n2 + 3 by omega)) (by omega)) ?_
    walk_at "dd"
    refine (ok_sizes_of T (.inl rfl) p (by omega) (Nat.le_trans pz (by omega)) ?_).mono (Nat.le_of_ble_eq_true rfl)
    walk_at "dd"
    exact hN _ _ ⟨rfl, _, _, _, rfl⟩
  · rintro ρ S' ⟨rfl, x5, x6, x7, rfl⟩
    have e : (join o m1 m2 R M).take (rngD 0 (lc m1 m2).toNat).length = join o m1 m2 R M := by
      rw [rngD_len]
      exact List.take_of_length_le (by unfold join; rw [List.length_map, List.length_range]; exact Nat.le_refl _)
    rw [e]
    walk_at "dd"
    refine ok_Sizes T ?_
    walk_at "dd"
    exact q
/-! ### the operators -/
theorem mt_set (T : Tx K mg) {m : Int} {rows : List (List Rg)} : MtD K "joined" (setD m rows) S "Sizes" := ⟨_, isI_ins, T.cl_Sizes, T.m_Sizes_joined, rfl⟩
section
variable {m1 m2 L : Int} {R M : List (List Rg)} {n1 n2 : Nat} {f g : Int → Bool}
theorem ok_and (T : Tx K mg) (a : SetR m1 R n1 f) (b : SetR m2 M n2 g) (hL : 0 < L) (hL2 : L ≤ 5040) (d1 : m1 ∣ L) (d2 : m2 ∣ L) (hz : (n1 + 3) * (n2 + 3) ≤ 8000000) (q : Q (.v (setD (lc m1 m2) (join .both m1 m2 R M))) S) : sFun (bs P w K mg base) 4 (.ref (He.ma K (He.ga K "Sizes") "__and__")) [] [setD m1 R, setD m2 M] [] S Ex Q := by
  refine' call_d (B := bs P w K mg base) 3 (Classical.choose_spec T.d_Sizes__and) sc_Sizes__and rfl (bm_all (ps := ["self", "other"]) (Classical.choose_spec T.d_Sizes__and) (fun _ _ _ _ _ _ us hl => match us, hl with | [_, _], _ => rfl)) (dss_cons (ds_if (dt_not (dt_val (de_callB (id := "isinstance") rfl T.f_isinstance (by decide +kernel) (da_cons (dv 1) (da_cons (de_cls rfl T.g_Sizes) da_nil))))) (dss_one ds_never) dss_nil) (dss_one (ds_ret (de_me rfl (dv 0) (da_cons (dv 1) (da_cons de_str da_nil)))))) ⟨rfl, rfl⟩ ?st ?_
  case st => walk_at "start"
  walk_at "dd"
  refine c_isi (tyI isI_ins T.in_Sizes) rfl T.i_S ?_
  walk_at "dd"
  refine q_meth (mt_set T) ?_
  walk_at "dd"
  refine ok_joined (o := .both) T a b hL hL2 d1 d2 hz ?_
  walk_at "dd"
  exact q
theorem ok_or (T : Tx K mg) (a : SetR m1 R n1 f) (b : SetR m2 M n2 g) (hL : 0 < L) (hL2 : L ≤ 5040) (d1 : m1 ∣ L) (d2 : m2 ∣ L) (hz : (n1 + 3) * (n2 + 3) ≤ 8000000) (q : Q (.v (setD (lc m1 m2) (join .any m1 m2 R M))) S) : sFun (bs P w K mg base) 4 (.ref (He.ma K (He.ga K "Sizes") "__or__")) [] [setD m1 R, setD m2 M] [] S Ex Q := by
  refine' call_d (B := bs P w K mg base) 3 (Classical.choose_spec T.d_Sizes__or) sc_Sizes__or rfl (bm_all (ps := ["self", "other"]) (Classical.choose_spec T.d_Sizes__or) (fun _ _ _ _ _ _ us hl => match us, hl with | [_, _], _ => rfl)) (dss_cons (ds_if (dt_not (dt_val (de_callB (id := "isinstance") rfl T.f_isinstance (by decide +kernel) (da_cons (dv 1) (da_cons (de_cls rfl T.g_Sizes) da_nil))))) (dss_one ds_never) dss_nil) (dss_one (ds_ret (de_me rfl (dv 0) (da_cons (dv 1) (da_cons de_str da_nil)))))) ⟨rfl, rfl⟩ ?st ?_
  case st => walk_at "start"
  walk_at "dd"
  refine c_isi (tyI isI_ins T.in_Sizes) rfl T.i_S ?_
  walk_at "dd"
  refine q_meth (mt_set T) ?_
  walk_at "dd"
  refine ok_joined (o := .any) T a b hL hL2 d1 d2 hz ?_
  walk_at "dd"
  exact q
theorem ok_sub (T : Tx K mg) (a : SetR m1 R n1 f) (b : SetR m2 M n2 g) (hL : 0 < L) (hL2 : L ≤ 5040) (d1 : m1 ∣ L) (d2 : m2 ∣ L) (hz : (n1 + 3) * (n2 + 3) ≤ 8000000) (q : Q (.v (setD (lc m1 m2) (join .first m1 m2 R M))) S) : sFun (bs P w K mg base) 4 (.ref (He.ma K (He.ga K "Sizes") "__sub__")) [] [setD m1 R, setD m2 M] [] S Ex Q := by
  refine' call_d (B := bs P w K mg base) 3 (Classical.choose_spec T.d_Sizes__sub) sc_Sizes__sub rfl (bm_all (ps := ["self", "other"]) (Classical.choose_spec T.d_Sizes__sub) (fun _ _ _ _ _ _ us hl => match us, hl with | [_, _], _ => rfl)) (dss_cons (ds_if (dt_not (dt_val (de_callB (id := "isinstance") rfl T.f_isinstance (by decide +kernel) (da_cons (dv 1) (da_cons (de_cls rfl T.g_Sizes) da_nil))))) (dss_one ds_never) dss_nil) (dss_one (ds_ret (de_me rfl (dv 0) (da_cons (dv 1) (da_cons de_str da_nil)))))) ⟨rfl, rfl⟩ ?st ?_
  case st => walk_at "start"
  walk_at "dd"
  refine c_isi (tyI isI_ins T.in_Sizes) rfl T.i_S ?_
  walk_at "dd"
  refine q_meth (mt_set T) ?_
  walk_at "dd"
  refine ok_joined (o := .first) T a b hL hL2 d1 d2 hz ?_
  walk_at "dd"
  exact q
/-- some row has a range -/
def anyR (rows : List (List Rg)) : Bool := (rows.map fun r => decide (0 < r.length)).any id
theorem ok_bool (T : Tx K mg) {m : Int} {rows : List (List Rg)} (hz : rows.length ≤ 6000) (q : Q (.v (.bl (anyR rows))) S) : sFun (bs P w K mg base) 1 (.ref (He.ma K (He.ga K "Sizes") "__bool__")) [] [setD m rows] [] S Ex Q := by
  refine' call_d (B := bs P w K mg base) 0 (Classical.choose_spec T.d_Sizes__bool) sc_Sizes__bool rfl (bm_all (ps := ["self"]) (Classical.choose_spec T.d_Sizes__bool) (fun _ _ _ _ _ _ us hl => match us, hl with | [_], _ => rfl)) (dss_one (ds_ret (de_callB (id := "any") rfl T.f_any (by decide +kernel) (da_cons (DF.de (df_lc (own := [("ranges", 1)]) rfl (by decide) (di_val (de_attr (dv 0))) (blkOk_by (N := ["self", "ranges"]) (sc := defScope s_Sizes__bool) (by decide +kernel)) (dgn 1) dts_nil (de_cmp (de_callB (id := "len") rfl T.f_len (by decide +kernel) (da_cons (dv 1) da_nil)) de_int))) da_nil)))) ⟨rfl, rfl⟩ ?st ?_
  case st => walk_at "start"
  walk_at "dd"
  refine a_rng T ?_
  walk_at "dd"
  refine lc_pure (fun _ => true) (fun d => match d with | .tup xs => .bl (decide (0 < (xs.length : Int))) | _ => .non) (by rw [List.length_map]; omega) (fun x hx X Y h1 h2 => ?_) ?_
  · obtain ⟨r, hr, rfl⟩ := List.mem_map.mp hx
    unfold rowD at h1 ⊢
    walk_at "dd"
    exact h1 rfl
  · have e : ((rows.map rowD).filter fun _ => true).map (fun d => match d with | .tup xs => D.bl (decide (0 < (xs.length : Int))) | _ => D.non) = (rows.map fun r => decide (0 < r.length)).map .bl := by
      rw [List.filter_eq_self.mpr (fun _ _ => rfl), List.map_map, List.map_map]
      refine List.map_congr_left fun r _ => ?_
      show D.bl (decide (0 < (((r.map rgD).length : Nat) : Int))) = D.bl (decide (0 < r.length))
      rw [List.length_map]
      congr 1
      exact decide_eq_decide.mpr (by omega)
    rw [e]
    walk_at "dd"
    refine c_any rfl ls_v ?_
    walk_at "dd"
    exact q
end
end Toy

set_option Elab.async false
set_option linter.all false
set_option maxRecDepth 100000
set_option maxHeartbeats 4000000
namespace Toy
open PySem PySem.Spec PyProof.Rows L2 My Dt SX
local macro_rules | `(tactic| walk_at "rg") => `(tactic| first
  | omega
  | ((refine And.intro ?_ (And.intro ?_ (And.intro ?_ ?_))) <;> omega))
local macro_rules | `(tactic| walk_at "ls") => `(tactic| first
  | with_reducible exact ls_v
  | with_reducible exact ls_b
  | ((with_reducible refine' ls_p ?hlp); (case hlp => with_reducible assumption)))
local macro_rules | `(tactic| walk_at "start") => `(tactic| ((simp only [startM, startS, List.map_cons, List.map_nil, List.length_cons, List.length_nil, List.cons_append, List.nil_append, Nat.reduceAdd, Nat.reduceSub, List.replicate_succ, List.replicate_zero]); exact rfl))
local macro_rules | `(tactic| walk_at "set") => `(tactic| first
  | ((dsimp only [Int.reduceToNat, List.set_cons_zero, List.set_cons_succ]); done)
  | ((dsimp only [Int.reduceToNat, List.set_cons_zero, List.set_cons_succ]); exact rfl)
  | exact rfl)
local macro_rules | `(tactic| walk_at "sz") => `(tactic| first
  | exact sz_of (Nat.le_of_ble_eq_true rfl)
  | (apply sz_of; simp only [List.length_cons, List.length_nil, List.length_append, List.length_map]; omega))
local macro_rules | `(tactic| walk_at "side") => `(tactic| first
  | with_reducible assumption
  | omega
  | exact ml (by omega) (by omega)
  | exact mr (by omega) (by omega)
  | exact dv (by omega) (by omega)
  | exact Bd.mulOk (by with_reducible assumption) (by with_reducible assumption) (by decide) (by decide) (by decide)
  | exact Bd.div (by with_reducible assumption) (by omega) (by decide) (by decide)
  | (show (0 : Int) < _; omega)
  | exact ⟨by decide, by decide, by decide⟩
  | decide
  | exact rfl)
local macro_rules | `(tactic| walk_at "st") => `(tactic| first
  | with_reducible refine q_seq ?_
  | with_reducible refine q_end ?_
  | with_reducible refine q_nil ?_
  | with_reducible refine q_asg ?_
  | with_reducible refine q_ret ?_
  | with_reducible refine q_if ?_
  | with_reducible refine q_expr ?_
  | with_reducible refine q_retN ?_
  | with_reducible refine q_sub ?_
  | with_reducible refine q_for ?_
  | with_reducible refine q_par ?_
  | with_reducible refine q_par3 ?_
  | with_reducible refine q_asgF ?_
  | with_reducible refine q_asgC ?_
  | ((with_reducible refine' q_frz ?ef ?_); (case ef => exact rfl))
  | ((with_reducible refine' q_app ?ea ?eb ?_); (case ea => exact rfl); (case eb => walk_at "slen"))
  | with_reducible refine q_brk ?_
  | with_reducible refine q_cnt ?_
  | with_reducible refine q_fldS ?_
  | with_reducible refine q_fldP ?_
  | with_reducible refine q_raise ?_
  | with_reducible refine q_try ?_)
local macro_rules | `(tactic| walk_at "slen") => `(tactic| first
  | with_reducible assumption
  | ((rw [sizeLine_eq]); (simp only [List.length_cons, List.length_nil, List.length_append, List.length_map]); omega))
local macro_rules | `(tactic| walk_at "sm") => `(tactic| first
  | with_reducible refine s_add ?_
  | with_reducible refine s_sub ?_
  | ((with_reducible refine' s_mul ?hm ?_); (case hm => walk_at "side"))
  | ((with_reducible refine' s_fdiv ?hm ?_); (case hm => walk_at "side"))
  | ((with_reducible refine' s_mod ?hm ?_); (case hm => walk_at "side"))
  | with_reducible refine s_neg ?_
  | ((with_reducible refine' s_pow ?hm ?_); (case hm => walk_at "side"))
  | ((with_reducible refine' s_ixL ?hl ?he ?_); (case hl => walk_at "ls"); (case he => exact rfl))
  | ((with_reducible refine' s_ixT ?he ?_); (case he => exact rfl))
  | ((with_reducible refine' set_L2 ?ha ?hb ?hc ?_); (case ha => with_reducible assumption); (case hb => exact rfl); (case hc => walk_at "set"))
  | with_reducible refine s_addB ?_
  | with_reducible refine s_lt ?_
  | with_reducible refine s_le ?_
  | with_reducible refine s_gt ?_
  | with_reducible refine s_ge ?_
  | with_reducible refine s_eq ?_
  | with_reducible refine s_ne ?_
  | with_reducible refine s_eqS ?_
  | with_reducible refine s_neS ?_
  | with_reducible refine s_isN ?_
  | with_reducible refine s_isNotN ?_
  | with_reducible refine t_bl ?_)
local macro_rules | `(tactic| walk_at "cl") => `(tactic| first
  | with_reducible refine c_int ?_
  | with_reducible refine c_intB ?_
  | with_reducible refine c_abs ?_
  | ((with_reducible refine' c_max ?hm ?_); (case hm => exact rfl))
  | ((with_reducible refine' c_min ?hm ?_); (case hm => exact rfl))
  | ((with_reducible refine' c_divmod ?hm ?_); (case hm => walk_at "side"))
  | ((with_reducible refine' c_len ?hm ?_); (case hm => walk_at "sq"))
  | ((with_reducible refine' c_list ?hm ?_); (case hm => walk_at "sq"))
  | ((with_reducible refine' c_tuple ?hm ?_); (case hm => walk_at "sq")))
local macro_rules | `(tactic| walk_at "sq") => `(tactic| first
  | exact sqL
  | exact sqT
  | exact sqB
  | exact sqP (by with_reducible assumption))
local macro_rules | `(tactic| walk_at "v") => `(tactic| first
  | ((with_reducible refine' v_sh ?ev ?_); (case ev => exact rfl))
  | ((with_reducible refine' v_ol ?ev ?_); (case ev => exact rfl))
  | ((with_reducible refine' v_slf ?ev ?_); (case ev => exact rfl))
  | with_reducible refine q_val ?_
  | ((with_reducible refine' q_walk ?ew ?_); (case ew => exact rfl))
  | ((with_reducible refine' q_rng1 ?ej ?ek ?_); (case ej => walk_at "rg"); (case ek => walk_at "rg"))
  | ((with_reducible refine' q_rng2 ?ej ?_); (case ej => walk_at "rg"))
  | with_reducible refine q_rngL ?_
  | with_reducible refine q_solc ?_
  | with_reducible refine q_sol0 ?_
  | ((with_reducible refine' q_gname ?eg ?_); (case eg => walk_at "set"))
  | ((with_reducible refine' n_set ?eg ?_); (case eg => walk_at "set"))
  | ((with_reducible refine' n_set2 ?eg ?_); (case eg => walk_at "set"))
  | ((with_reducible refine' n_set3 ?eg ?_); (case eg => walk_at "set"))
  | with_reducible refine q_two ?_
  | with_reducible refine q_three ?_
  | with_reducible refine q_bl ?_
  | with_reducible refine q_oint ?_
  | ((with_reducible refine' q_gtup ?el ?_); (case el => exact rfl))
  | with_reducible refine q_gcons ?_
  | with_reducible refine q_gnil ?_
  | with_reducible refine i_t ?_
  | with_reducible refine i_f ?_
  | with_reducible refine i_nt ?_
  | with_reducible refine i_nf ?_
  | ((with_reducible refine' n_t ?en ?_); (case en => exact rfl))
  | ((with_reducible refine' n_f ?en ?_); (case en => exact rfl))
  | ((with_reducible refine' nn_t ?en ?_); (case en => exact rfl))
  | ((with_reducible refine' nn_f ?en ?_); (case en => exact rfl))
  | with_reducible refine And.intro (by walk_at "sz") ?_)
local macro_rules | `(tactic| walk_at "d") => `(tactic| first
  | walk_at "v"
  | walk_at "st"
  | walk_at "sm"
  | walk_at "cl"
  | walk_at "at")
local macro_rules | `(tactic| walk_at "dd") => `(tactic| repeat walk_at "d")

variable {P : Program} {w : World} {K : PySem.W.Frag} {mg : Str → Option Value} {base : Heap} {S : Sto} {Ex : XS} {Q : QO}
section
variable {m1 m2 L : Int} {R M : List (List Rg)} {n1 n2 : Nat} {f g : Int → Bool}
/-- all members of one are members of the other -/
noncomputable def leB (f g : Int → Bool) : Bool := @decide (∀ x, 0 ≤ x → f x = true → g x = true) (Classical.propDecidable _)
theorem leB_iff {f g : Int → Bool} : leB f g = true ↔ ∀ x, 0 ≤ x → f x = true → g x = true := by
  unfold leB
  exact @decide_eq_true_iff _ (Classical.propDecidable _)
theorem SetR.any {m : Int} {rows : List (List Rg)} {n : Nat} {f : Int → Bool} (h : SetR m rows n f) : anyR rows = true ↔ ∃ x, 0 ≤ x ∧ f x = true := by
  unfold anyR
  rw [List.any_map, List.any_eq_true]
  constructor
  · rintro ⟨r, hr, e⟩
    have e : 0 < r.length := of_decide_eq_true e
    obtain ⟨i, hi⟩ := List.getElem?_of_mem hr
    have hl := (List.getElem?_eq_some_iff.mp hi).1
    have hm := h.m0
    have hlen := h.len
    cases c : r with
    | nil =>
      rw [c] at e
      exact absurd e (Nat.lt_irrefl 0)
    | cons q r' =>
      subst c
      have ha := h.asc _ hr
      have h1 := h.cg i _ hi q List.mem_cons_self
      have inq : Toy.mem (q :: r') q.1 := ⟨q, List.mem_cons_self, by
        obtain ⟨lo, up⟩ := q
        cases up with
        | none => exact inR_none.mpr (Int.le_refl _)
        | some up => exact inR_some.mpr ⟨Int.le_refl _, ha.2.1⟩⟩
      have h0 := ha.ge inq
      refine ⟨q.1, h0, (h.mem q.1 h0 _ ?_).mpr inq⟩
      rw [h1]
      exact hi
  · rintro ⟨x, hx, e⟩
    have k := row_at h.m0 h.len x
    have z := (h.mem x hx _ k).mp e
    refine ⟨_, List.mem_of_getElem? k, decide_eq_true ?_⟩
    cases c : Toy.row rows (x % m) with
    | nil =>
      rw [c] at z
      exact (mem_nil z).elim
    | cons _ _ => exact Nat.succ_pos _
theorem any_first (a : SetR m1 R n1 f) (b : SetR m2 M n2 g) (hL : 0 < L) (hL2 : L ≤ 5040) (d1 : m1 ∣ L) (d2 : m2 ∣ L) : (!anyR (join .first m1 m2 R M)) = leB f g := by
  have j := (join_ok (o := .first) a b hL hL2 d1 d2).1.any
  rw [Bool.eq_iff_iff, leB_iff, Bool.not_eq_true', Bool.eq_false_iff, Ne, j]
  constructor
  · intro h x hx hf
    cases hg : g x with
    | true => rfl
    | false => exact (h ⟨x, hx, by show (f x && !g x) = true; rw [hf, hg] <;> rfl⟩).elim
  · rintro h ⟨x, hx, e⟩
    have e : (f x && !g x) = true := e
    rw [Bool.and_eq_true] at e
    rw [h x hx e.1] at e
    exact absurd e.2 Bool.false_ne_true
theorem join_rows (a : SetR m1 R n1 f) (b : SetR m2 M n2 g) (hL : 0 < L) (hL2 : L ≤ 5040) (d1 : m1 ∣ L) (d2 : m2 ∣ L) (o : Wo) : (join o m1 m2 R M).length ≤ 6000 := by
  have h := (join_ok (o := o) a b hL hL2 d1 d2).1
  have h1 := h.m1
  have h2 := h.len
  omega
theorem ok_le (T : Tx K mg) (a : SetR m1 R n1 f) (b : SetR m2 M n2 g) (hL : 0 < L) (hL2 : L ≤ 5040) (d1 : m1 ∣ L) (d2 : m2 ∣ L) (hz : (n1 + 3) * (n2 + 3) ≤ 8000000) (q : Q (.v (.bl (leB f g))) S) : sFun (bs P w K mg base) 4 (.ref (He.ma K (He.ga K "Sizes") "__le__")) [] [setD m1 R, setD m2 M] [] S Ex Q := by
  refine' call_d (B := bs P w K mg base) 3 (Classical.choose_spec T.d_Sizes__le) sc_Sizes__le rfl (bm_all (ps := ["self", "other"]) (Classical.choose_spec T.d_Sizes__le) (fun _ _ _ _ _ _ us hl => match us, hl with | [_, _], _ => rfl)) (dss_cons (ds_if (dt_not (dt_val (de_callB (id := "isinstance") rfl T.f_isinstance (by decide +kernel) (da_cons (dv 1) (da_cons (de_cls rfl T.g_Sizes) da_nil))))) (dss_one ds_never) dss_nil) (dss_one (ds_ret (de_not (de_me rfl (dv 0) (da_cons (dv 1) (da_cons de_str da_nil))))))) ⟨rfl, rfl⟩ ?st ?_
  case st => walk_at "start"
  walk_at "dd"
  refine c_isi (tyI isI_ins T.in_Sizes) rfl T.i_S ?_
  walk_at "dd"
  refine q_meth (mt_set T) ?_
  walk_at "dd"
  refine ok_joined (o := .first) T a b hL hL2 d1 d2 hz ?_
  walk_at "dd"
  refine t_own (o := .v .non) rfl isI_ins T.sp_Sizes__bool ((ok_bool T (join_rows a b hL hL2 d1 d2 .first) ?_).mono (Nat.le_of_ble_eq_true rfl))
  rw [← any_first a b hL hL2 d1 d2] at q
  exact ⟨_, rfl, _, rfl, q⟩
theorem ok_eq (T : Tx K mg) (a : SetR m1 R n1 f) (b : SetR m2 M n2 g) (hL : 0 < L) (hL2 : L ≤ 5040) (d1 : m1 ∣ L) (d2 : m2 ∣ L) (hz : (n1 + 3) * (n2 + 3) ≤ 8000000) (q : Q (.v (.bl (leB f g && leB g f))) S) : sFun (bs P w K mg base) 5 (.ref (He.ma K (He.ga K "Sizes") "__eq__")) [] [setD m1 R, setD m2 M] [] S Ex Q := by
  have hz2 : (n2 + 3) * (n1 + 3) ≤ 8000000 := by rw [Nat.mul_comm]; exact hz
  refine' call_d (B := bs P w K mg base) 4 (Classical.choose_spec T.d_Sizes__eq) sc_Sizes__eq rfl (bm_all (ps := ["self", "other"]) (Classical.choose_spec T.d_Sizes__eq) (fun _ _ _ _ _ _ us hl => match us, hl with | [_, _], _ => rfl)) (dss_one (ds_ret (de_and (de_callB (id := "isinstance") rfl T.f_isinstance (by decide +kernel) (da_cons (dv 1) (da_cons (de_cls rfl T.g_Sizes) da_nil))) (de_and (de_cmp (dv 0) (dv 1)) (de_one (de_cmp (dv 1) (dv 0))))))) ⟨rfl, rfl⟩ ?st ?_
  case st => walk_at "start"
  walk_at "dd"
  refine c_isi (tyI isI_ins T.in_Sizes) rfl T.i_S ?_
  walk_at "dd"
  refine s_ownC (fun _ _ => rfl) rfl isI_ins isI_ins T.sp_Sizes__le (ok_le T a b hL hL2 d1 d2 hz ?_)
  walk_at "dd"
  cases h : leB f g with
  | false =>
    rw [h] at q
    walk_at "dd"
    exact q
  | true =>
    rw [h] at q
    walk_at "dd"
    refine s_ownC (fun _ _ => rfl) rfl isI_ins isI_ins T.sp_Sizes__le (ok_le T b a hL hL2 d2 d1 hz2 ?_)
    walk_at "dd"
    exact q
theorem ok_eqK (T : Tx K mg) {d : D} {t : String} (kd : KdO S (.v d) t) (hi : PySem.W.kitOne K (.type t) (.ref (He.ga K "Sizes")) = some false) (q : Q (.v (.bl false)) S) : sFun (bs P w K mg base) 5 (.ref (He.ma K (He.ga K "Sizes") "__eq__")) [] [setD m1 R, d] [] S Ex Q := by
  refine' call_d (B := bs P w K mg base) 4 (Classical.choose_spec T.d_Sizes__eq) sc_Sizes__eq rfl (bm_all (ps := ["self", "other"]) (Classical.choose_spec T.d_Sizes__eq) (fun _ _ _ _ _ _ us hl => match us, hl with | [_, _], _ => rfl)) (dss_one (ds_ret (de_and (de_callB (id := "isinstance") rfl T.f_isinstance (by decide +kernel) (da_cons (dv 1) (da_cons (de_cls rfl T.g_Sizes) da_nil))) (de_and (de_cmp (dv 0) (dv 1)) (de_one (de_cmp (dv 1) (dv 0))))))) ⟨rfl, rfl⟩ ?st ?_
  case st => walk_at "start"
  walk_at "dd"
  refine c_isi (tyK kd) rfl hi ?_
  walk_at "dd"
  exact q
end
end Toy

set_option Elab.async false
set_option linter.all false
set_option maxRecDepth 100000
set_option maxHeartbeats 4000000
namespace Toy
open PySem PySem.Spec PyProof.Rows L2 My Dt SX
local macro_rules | `(tactic| walk_at "rg") => `(tactic| first
  | omega
  | ((refine And.intro ?_ (And.intro ?_ (And.intro ?_ ?_))) <;> omega))
local macro_rules | `(tactic| walk_at "ls") => `(tactic| first
  | with_reducible exact ls_v
  | with_reducible exact ls_b
  | ((with_reducible refine' ls_p ?hlp); (case hlp => with_reducible assumption)))
local macro_rules | `(tactic| walk_at "start") => `(tactic| ((simp only [startM, startS, List.map_cons, List.map_nil, List.length_cons, List.length_nil, List.cons_append, List.nil_append, Nat.reduceAdd, Nat.reduceSub, List.replicate_succ, List.replicate_zero]); exact rfl))
local macro_rules | `(tactic| walk_at "set") => `(tactic| first
  | ((dsimp only [Int.reduceToNat, List.set_cons_zero, List.set_cons_succ]); done)
  | ((dsimp only [Int.reduceToNat, List.set_cons_zero, List.set_cons_succ]); exact rfl)
  | exact rfl)
local macro_rules | `(tactic| walk_at "sz") => `(tactic| first
  | exact sz_of (Nat.le_of_ble_eq_true rfl)
  | (apply sz_of; simp only [List.length_cons, List.length_nil, List.length_append, List.length_map]; omega))
local macro_rules | `(tactic| walk_at "side") => `(tactic| first
  | with_reducible assumption
  | omega
  | exact ml (by omega) (by omega)
  | exact mr (by omega) (by omega)
  | exact dv (by omega) (by omega)
  | exact Bd.mulOk (by with_reducible assumption) (by with_reducible assumption) (by decide) (by decide) (by decide)
  | exact Bd.div (by with_reducible assumption) (by omega) (by decide) (by decide)
  | (show (0 : Int) < _; omega)
  | exact ⟨by decide, by decide, by decide⟩
  | decide
  | exact rfl)
local macro_rules | `(tactic| walk_at "st") => `(tactic| first
  | with_reducible refine q_seq ?_
  | with_reducible refine q_end ?_
  | with_reducible refine q_nil ?_
  | with_reducible refine q_asg ?_
  | with_reducible refine q_ret ?_
  | with_reducible refine q_if ?_
  | with_reducible refine q_expr ?_
  | with_reducible refine q_retN ?_
  | with_reducible refine q_sub ?_
  | with_reducible refine q_for ?_
  | with_reducible refine q_par ?_
  | with_reducible refine q_par3 ?_
  | with_reducible refine q_asgF ?_
  | with_reducible refine q_asgC ?_
  | ((with_reducible refine' q_frz ?ef ?_); (case ef => exact rfl))
  | ((with_reducible refine' q_app ?ea ?eb ?_); (case ea => exact rfl); (case eb => walk_at "slen"))
  | with_reducible refine q_brk ?_
  | with_reducible refine q_cnt ?_
  | with_reducible refine q_fldS ?_
  | with_reducible refine q_fldP ?_
  | with_reducible refine q_raise ?_
  | with_reducible refine q_try ?_)
local macro_rules | `(tactic| walk_at "slen") => `(tactic| first
  | with_reducible assumption
  | ((rw [sizeLine_eq]); (simp only [List.length_cons, List.length_nil, List.length_append, List.length_map]); omega))
local macro_rules | `(tactic| walk_at "sm") => `(tactic| first
  | with_reducible refine s_add ?_
  | with_reducible refine s_sub ?_
  | ((with_reducible refine' s_mul ?hm ?_); (case hm => walk_at "side"))
  | ((with_reducible refine' s_fdiv ?hm ?_); (case hm => walk_at "side"))
  | ((with_reducible refine' s_mod ?hm ?_); (case hm => walk_at "side"))
  | with_reducible refine s_neg ?_
  | ((with_reducible refine' s_pow ?hm ?_); (case hm => walk_at "side"))
  | ((with_reducible refine' s_ixL ?hl ?he ?_); (case hl => walk_at "ls"); (case he => exact rfl))
  | ((with_reducible refine' s_ixT ?he ?_); (case he => exact rfl))
  | ((with_reducible refine' set_L2 ?ha ?hb ?hc ?_); (case ha => with_reducible assumption); (case hb => exact rfl); (case hc => walk_at "set"))
  | with_reducible refine s_addB ?_
  | with_reducible refine s_lt ?_
  | with_reducible refine s_le ?_
  | with_reducible refine s_gt ?_
  | with_reducible refine s_ge ?_
  | with_reducible refine s_eq ?_
  | with_reducible refine s_ne ?_
  | with_reducible refine s_eqS ?_
  | with_reducible refine s_neS ?_
  | with_reducible refine s_isN ?_
  | with_reducible refine s_isNotN ?_
  | with_reducible refine t_bl ?_)
local macro_rules | `(tactic| walk_at "cl") => `(tactic| first
  | with_reducible refine c_int ?_
  | with_reducible refine c_intB ?_
  | with_reducible refine c_abs ?_
  | ((with_reducible refine' c_max ?hm ?_); (case hm => exact rfl))
  | ((with_reducible refine' c_min ?hm ?_); (case hm => exact rfl))
  | ((with_reducible refine' c_divmod ?hm ?_); (case hm => walk_at "side"))
  | ((with_reducible refine' c_len ?hm ?_); (case hm => walk_at "sq"))
  | ((with_reducible refine' c_list ?hm ?_); (case hm => walk_at "sq"))
  | ((with_reducible refine' c_tuple ?hm ?_); (case hm => walk_at "sq")))
local macro_rules | `(tactic| walk_at "sq") => `(tactic| first
  | exact sqL
  | exact sqT
  | exact sqB
  | exact sqP (by with_reducible assumption))
local macro_rules | `(tactic| walk_at "v") => `(tactic| first
  | ((with_reducible refine' v_sh ?ev ?_); (case ev => exact rfl))
  | ((with_reducible refine' v_ol ?ev ?_); (case ev => exact rfl))
  | ((with_reducible refine' v_slf ?ev ?_); (case ev => exact rfl))
  | with_reducible refine q_val ?_
  | ((with_reducible refine' q_walk ?ew ?_); (case ew => exact rfl))
  | ((with_reducible refine' q_rng1 ?ej ?ek ?_); (case ej => walk_at "rg"); (case ek => walk_at "rg"))
  | ((with_reducible refine' q_rng2 ?ej ?_); (case ej => walk_at "rg"))
  | with_reducible refine q_rngL ?_
  | with_reducible refine q_solc ?_
  | with_reducible refine q_sol0 ?_
  | ((with_reducible refine' q_gname ?eg ?_); (case eg => walk_at "set"))
  | ((with_reducible refine' n_set ?eg ?_); (case eg => walk_at "set"))
  | ((with_reducible refine' n_set2 ?eg ?_); (case eg => walk_at "set"))
  | ((with_reducible refine' n_set3 ?eg ?_); (case eg => walk_at "set"))
  | with_reducible refine q_two ?_
  | with_reducible refine q_three ?_
  | with_reducible refine q_bl ?_
  | with_reducible refine q_oint ?_
  | ((with_reducible refine' q_gtup ?el ?_); (case el => exact rfl))
  | with_reducible refine q_gcons ?_
  | with_reducible refine q_gnil ?_
  | with_reducible refine i_t ?_
  | with_reducible refine i_f ?_
  | with_reducible refine i_nt ?_
  | with_reducible refine i_nf ?_
  | ((with_reducible refine' n_t ?en ?_); (case en => exact rfl))
  | ((with_reducible refine' n_f ?en ?_); (case en => exact rfl))
  | ((with_reducible refine' nn_t ?en ?_); (case en => exact rfl))
  | ((with_reducible refine' nn_f ?en ?_); (case en => exact rfl))
  | with_reducible refine And.intro (by walk_at "sz") ?_)
local macro_rules | `(tactic| walk_at "d") => `(tactic| first
  | walk_at "v"
  | walk_at "st"
  | walk_at "sm"
  | walk_at "cl"
  | walk_at "at")
local macro_rules | `(tactic| walk_at "dd") => `(tactic| repeat walk_at "d")

variable {P : Program} {w : World} {K : PySem.W.Frag} {mg : Str → Option Value} {base : Heap} {S : Sto} {Ex : XS} {Q : QO}
theorem valD_any (xs : List (Key × D)) (j : Key) : (valD xs j).isSome = xs.any fun kv => decide (kv.1 = j) := by
  unfold valD
  rw [Option.isSome_map]
  induction xs with
  | nil => rfl
  | cons x xs ih =>
    rw [List.find?_cons, List.any_cons]
    by_cases e : decide (x.1 = j) = true
    · rw [e] <;> rfl
    · rw [Bool.not_eq_true] at e
      rw [e, Bool.false_or]
      exact ih
theorem valD_put (xs : List (Key × D)) (k j : Key) (d : D) : (valD (putKD xs k d) j).isSome = (decide (k = j) || (valD xs j).isSome) := by
  rw [valD_any, valD_any]
  unfold putKD
  by_cases h : (xs.any fun kv => decide (kv.1 = k)) = true
  · rw [if_pos h, List.any_map]
    have e : ((fun kv : Key × D => decide (kv.1 = j)) ∘ fun kv : Key × D => if kv.1 = k then (kv.1, d) else kv) = fun kv => decide (kv.1 = j) := by
      funext kv
      show decide ((if kv.1 = k then (kv.1, d) else kv).1 = j) = decide (kv.1 = j)
      by_cases q : kv.1 = k
      · rw [if_pos q]
      · rw [if_neg q]
    rw [e]
    by_cases q : k = j
    · subst q
      rw [h] <;> simp
    · rw [decide_eq_false q, Bool.false_or]
  · rw [if_neg h, List.any_append, List.any_cons, List.any_nil, Bool.or_false, Bool.or_comm]
theorem dc_inv {g : RG} {tt : RT} {tk tv : RE} {ρ : List Sl} {S : Sto} {R : List (Key × D) → Sto → Prop} {xs : List D} (I : Nat → List (Key × D) → Prop) (h0 : I 0 []) (hz : ∀ i acc, I i acc → acc.length < sizeLine)
    (hs : ∀ (i : Nat) x acc (N : Key → D → Sto → Prop) (Y : Sto → Prop), xs[i]? = some x → I i acc → (∀ k d, I (i + 1) (putKD acc k d) → N k d S) → (I (i + 1) acc → Y S) →
      g x ρ S noE fun ρ' S' => tt ρ' S' noE fun c S2 => if c = true then tk ρ' S2 noE fun o S3 => ∃ k, o = .v (kD k) ∧ tv ρ' S3 noE fun p S4 => ∃ d, p = .v d ∧ acc.length < sizeLine ∧ N k d S4 else Y S2)
    (hd : ∀ acc, I xs.length acc → R acc S) : Dc g tt tk tv ρ xs [] S R := by
  have key : ∀ (xs : List D) (acc : List (Key × D)) (I : Nat → List (Key × D) → Prop), I 0 acc → (∀ i acc, I i acc → acc.length < sizeLine) → (∀ (i : Nat) x acc (N : Key → D → Sto → Prop) (Y : Sto → Prop), xs[i]? = some x → I i acc → (∀ k d, I (i + 1) (putKD acc k d) → N k d S) → (I (i + 1) acc → Y S) →
      g x ρ S noE fun ρ' S' => tt ρ' S' noE fun c S2 => if c = true then tk ρ' S2 noE fun o S3 => ∃ k, o = .v (kD k) ∧ tv ρ' S3 noE fun p S4 => ∃ d, p = .v d ∧ acc.length < sizeLine ∧ N k d S4 else Y S2) → (∀ acc, I xs.length acc → R acc S) → Dc g tt tk tv ρ xs acc S R := by
    intro xs
    induction xs with
    | nil => exact fun acc I h0 _ _ hd => hd _ h0
    | cons y ys ih =>
      intro acc I h0 hz hs hd
      refine hs 0 y acc (fun k d S4 => Dc g tt tk tv ρ ys (putKD acc k d) S4 R) (fun S2 => Dc g tt tk tv ρ ys acc S2 R) rfl h0 (fun k d q => ?_) fun q => ?_
      · exact ih _ (fun i => I (i + 1)) q (fun i acc q => hz _ _ q) (fun i x acc N Y e q hN hY => hs (i + 1) x acc N Y (by simpa using e) q hN hY) hd
      · exact ih _ (fun i => I (i + 1)) q (fun i acc q => hz _ _ q) (fun i x acc N Y e q hN hY => hs (i + 1) x acc N Y (by simpa using e) q hN hY) hd
  exact key xs [] I h0 hz hs hd
theorem atI_nat {α : Type} {xs : List α} {i : Nat} {x : α} (h : xs[i]? = some x) : L2.atI xs (i : Int) = some x := by
  have hi := (List.getElem?_eq_some_iff.mp h).1
  unfold L2.atI ixN
  rw [if_pos (by omega), if_pos (by omega)]
  show xs[((i : Nat) : Int).toNat]? = _
  rw [Int.toNat_natCast]
  exact h
theorem ok_check_number (T : Tx K mg) {i : Int} (hi : 0 ≤ i) (q : Q (.v .non) S) : sFun (bs P w K mg base) 2 (.ref (He.ga K "check_number")) [] [.int i] [] S Ex Q := by
  refine' call_d (B := bs P w K mg base) 1 (Classical.choose_spec T.d_check_number) sc_check_number rfl (bm_all (ps := ["number"]) (Classical.choose_spec T.d_check_number) (fun _ _ _ _ _ _ us hl => match us, hl with | [_], _ => rfl)) (dss_one (ds_if (DW.dt (dw_or (dt_not (dt_val (de_call rfl rfl ⟨T.g_is_integer, (Classical.choose_spec T.d_is_integer).kp⟩ (da_cons (dv 0) da_nil)))) (dw_or1 (dt_cmp (dv 0) de_int)))) (dss_one ds_never) dss_nil)) ⟨rfl, rfl⟩ ?st ?_
  case st => walk_at "start"
  walk_at "dd"
  refine ok_is_integer T ?_
  walk_at "dd"
  refine i_neg (by omega) ?_
  walk_at "dd"
  exact q

theorem ok_span1 (T : Tx K mg) {a : Int} (ha : 0 ≤ a) (q : Q (.v (setD 1 [one a none])) S) : sFun (bs P w K mg base) 3 (.ref (Hk.wfA "Sizes" "staticmethod" "span" K)) [] [.int a] [] S Ex Q := by
  refine' call_d (B := bs P w K mg base) 2 (Classical.choose_spec T.d_Sizes_span) sc_Sizes_span rfl (bm_dfl (ps := ["first", "last"]) (Classical.choose_spec T.d_Sizes_span) 1 0 (List.cons_ne_nil _ _) rfl (fun _ _ _ _ _ _ _ us its l1 l2 => match us, its, l1, l2 with | [_], [_], _, _ => ⟨_, rfl, rfl⟩) (fun _ => (.cons .non .nil))) (dss_cons (ds_expr (de_call rfl rfl ⟨T.g_check_number, (Classical.choose_spec T.d_check_number).kp⟩ (da_cons (dv 0) da_nil))) (dss_cons (ds_if (dt_cmp (dv 1) de_non) (dss_one (ds_ret (de_call rfl rfl ⟨T.g_Sizes, T.mk_Sizes.kp⟩ (da_cons de_int (da_cons (de_tup (da_cons (de_tup (da_cons (de_tup (da_cons (dv 0) (da_cons de_non da_nil))) da_nil)) da_nil)) da_nil))))) dss_nil) (dss_cons (ds_expr (de_call rfl rfl ⟨T.g_check_number, (Classical.choose_spec T.d_check_number).kp⟩ (da_cons (dv 1) da_nil))) (dss_one (ds_ret (de_call rfl rfl ⟨T.g_Sizes, T.mk_Sizes.kp⟩ (da_cons de_int (da_cons (de_tup (da_cons (de_if (dt_cmp (dv 0) (dv 1)) (de_tup (da_cons (de_tup (da_cons (dv 0) (da_cons (dv 1) da_nil))) da_nil)) (de_tup da_nil)) da_nil)) da_nil)))))))) ⟨rfl, rfl⟩ ?st ?_
  case st => walk_at "start"
  walk_at "dd"
  refine ok_check_number T ha ?_
  walk_at "dd"
  refine ok_Sizes (rows := [one a none]) T ?_
  walk_at "dd"
  exact q
theorem ok_span2 (T : Tx K mg) {a b : Int} (ha : 0 ≤ a) (hb : 0 ≤ b) (q : Q (.v (setD 1 [one a (some b)])) S) : sFun (bs P w K mg base) 3 (.ref (Hk.wfA "Sizes" "staticmethod" "span" K)) [] [.int a, .int b] [] S Ex Q := by
  refine' call_d (B := bs P w K mg base) 2 (Classical.choose_spec T.d_Sizes_span) sc_Sizes_span rfl (bm_dfl (ps := ["first", "last"]) (Classical.choose_spec T.d_Sizes_span) 2 1 (List.cons_ne_nil _ _) rfl (fun _ _ _ _ _ _ _ us its l1 l2 => match us, its, l1, l2 with | [_, _], [_], _, _ => ⟨_, rfl, rfl⟩) (fun _ => .nil)) (dss_cons (ds_expr (de_call rfl rfl ⟨T.g_check_number, (Classical.choose_spec T.d_check_number).kp⟩ (da_cons (dv 0) da_nil))) (dss_cons (ds_if (dt_cmp (dv 1) de_non) (dss_one (ds_ret (de_call rfl rfl ⟨T.g_Sizes, T.mk_Sizes.kp⟩ (da_cons de_int (da_cons (de_tup (da_cons (de_tup (da_cons (de_tup (da_cons (dv 0) (da_cons de_non da_nil))) da_nil)) da_nil)) da_nil))))) dss_nil) (dss_cons (ds_expr (de_call rfl rfl ⟨T.g_check_number, (Classical.choose_spec T.d_check_number).kp⟩ (da_cons (dv 1) da_nil))) (dss_one (ds_ret (de_call rfl rfl ⟨T.g_Sizes, T.mk_Sizes.kp⟩ (da_cons de_int (da_cons (de_tup (da_cons (de_if (dt_cmp (dv 0) (dv 1)) (de_tup (da_cons (de_tup (da_cons (dv 0) (da_cons (dv 1) da_nil))) da_nil)) (de_tup da_nil)) da_nil)) da_nil)))))))) ⟨rfl, rfl⟩ ?st ?_
  case st => walk_at "start"
  walk_at "dd"
  refine ok_check_number T ha ?_
  walk_at "dd"
  refine ok_check_number T hb ?_
  walk_at "dd"
  rw [one_def] at q
  refine i_two (fun h => ?_) fun h => ?_
  · rw [if_pos h] at q
    walk_at "dd"
    refine ok_Sizes (rows := [[(a, some b)]]) T ?_
    walk_at "dd"
    exact q
  · rw [if_neg h] at q
    walk_at "dd"
    refine ok_Sizes (rows := [[]]) T ?_
    walk_at "dd"
    exact q
/-- the rows of the integers with some rests -/
def restRow (rs : List Int) (i : Int) : List Rg := if rs.contains i then [(i, none)] else []
def restRows (m : Int) (rs : List Int) : List (List Rg) := (List.range m.toNat).map fun i => restRow rs (0 + ((i : Nat) : Int))
theorem putKD_len (xs : List (Key × D)) (k : Key) (d : D) : (putKD xs k d).length ≤ xs.length + 1 := by
  unfold putKD
  split <;> simp
/-- ascending from s on, below m -/
def Up (m : Int) : Int → List Int → Prop
  | _, [] => True
  | s, x :: xs => s ≤ x ∧ x < m ∧ Up m (x + 1) xs
theorem Up.le {m : Int} : ∀ {s t : Int} {xs : List Int}, t ≤ s → Up m s xs → Up m t xs
  | _, _, [], _, _ => trivial
  | _, _, _ :: _, h, u => ⟨by have := u.1; omega, u.2⟩
theorem Up.at {m : Int} : ∀ {xs : List Int} {s : Int} {i : Nat} {x : Int}, Up m s xs → xs[i]? = some x → (i = 0 → s ≤ x) ∧ (∀ j y, i = j + 1 → xs[j]? = some y → y + 1 ≤ x) ∧ x < m
  | [], _, _, _, _, e => by simp at e
  | y :: ys, s, 0, x, u, e => by
    simp only [List.getElem?_cons_zero, Option.some.injEq] at e
    subst e
    exact ⟨fun _ => u.1, fun j z h _ => by omega, u.2.1⟩
  | y :: ys, s, i + 1, x, u, e => by
    rw [List.getElem?_cons_succ] at e
    have ih := Up.at u.2.2 e
    refine ⟨fun h => by omega, fun j z h hz => ?_, ih.2.2⟩
    obtain rfl : i = j := by omega
    cases i with
    | zero =>
      simp only [List.getElem?_cons_zero, Option.some.injEq] at hz
      subst hz
      exact ih.1 rfl
    | succ j =>
      rw [List.getElem?_cons_succ] at hz
      exact ih.2.1 j z rfl hz
theorem ok_rests (T : Tx K mg) {m : Int} {rs : List Int} (hm : 1 ≤ m) (hm2 : m ≤ 5040) (hu : Up m 0 rs) (hl : rs.length ≤ 10) (q : Q (.v (setD m (restRows m rs))) S) : sFun (bs P w K mg base) 3 (.ref (Hk.wfA "Sizes" "staticmethod" "rests" K)) [] (.int m :: rs.map .int) [] S Ex Q := by
  refine' call_d (B := bs P w K mg base) 2 (Classical.choose_spec T.d_Sizes_rests) sc_Sizes_rests rfl (bm_star (ps := ["modulus"]) (pv := "rests") (Classical.choose_spec T.d_Sizes_rests) (by decide) (fun _ _ _ _ _ _ us rest hl => match us, rest, hl with | [_], [], _ => rfl | [_], _ :: _, _ => rfl)) (dss_cons (ds_if (DW.dt (dw_or (dt_not (dt_val (de_call rfl rfl ⟨T.g_is_integer, (Classical.choose_spec T.d_is_integer).kp⟩ (da_cons (dv 0) da_nil)))) (dw_or1 (dt_not (dt_chain de_int (dv 0) (de_gint rfl T.c_MODULUS)))))) (dss_one ds_never) dss_nil) (dss_cons (dst 2 de_int) (dss_cons (ds_for rfl rfl (di_range1 rfl T.f_range (da_cons (de_callB (id := "len") rfl T.f_len (by decide +kernel) (da_cons (dv 1) da_nil)) da_nil)) (dgn 3) (dss_cons (ds_if (DW.dt (dw_or (dt_not (dt_val (de_call rfl rfl ⟨T.g_is_integer, (Classical.choose_spec T.d_is_integer).kp⟩ (da_cons (de_ix (dv 1) (dv 3) (fun _ _ => rfl)) da_nil)))) (dw_or1 (dt_not (dt_chain (dv 2) (de_ix (dv 1) (dv 3) (fun _ _ => rfl)) (dv 0)))))) (dss_one ds_never) dss_nil) (dss_one (dst 2 (de_bin (de_ix (dv 1) (dv 3) (fun _ _ => rfl)) de_int))))) (dss_cons (dstC 4 (de_dc (own := [("rest", 5)]) rfl (by decide) (di_val (dv 1)) (blkOk_by (N := ["modulus", "rests", "least", "index", "chosen", "rest"]) (sc := defScope s_Sizes_rests) (by decide +kernel)) (dgn 5) dts_nil (dv 5) de_bl) (fun env h => by cases env; cases h; rfl)) (dss_one (ds_ret (de_call rfl rfl ⟨T.g_Sizes, T.mk_Sizes.kp⟩ (da_cons (dv 0) (da_cons (de_callT (T := "tuple") rfl T.f_tuple (by decide +kernel) (da_cons (DF.de (df_lc (own := [("rest", 5)]) rfl (by decide) (di_range1 rfl T.f_range (da_cons (dv 0) da_nil)) (blkOk_by (N := ["modulus", "rests", "least", "index", "chosen", "rest"]) (sc := defScope s_Sizes_rests) (by decide +kernel)) (dgn 5) dts_nil (de_if (dt_cmp (dv 5) (dv 4)) (de_tup (da_cons (de_tup (da_cons (dv 5) (da_cons de_non da_nil))) da_nil)) (de_tup da_nil)))) da_nil)) da_nil))))))))) ⟨Nat.succ_le_succ (Nat.zero_le _), ?sz, rfl⟩ ?st ?_
  case sz =>
    show (D.int m :: rs.map D.int).length - 1 ≤ sizeLine
    rw [List.length_cons, List.length_map, sizeLine_eq]
    omega
  case st =>
    show startS 6 [D.int m, .tup (rs.map .int)] = _
    walk_at "start"
  walk_at "dd"
  have hl2 : (rs.map D.int).length ≤ 10 := by rw [List.length_map]; exact hl
  refine (ok_is_integer T ?_).mono (Nat.le_of_ble_eq_true rfl)
  walk_at "dd"
  refine i_pos hm ?_
  walk_at "dd"
  refine n_pos hm2 ?_
  walk_at "dd"
  refine loop_inv (fun i ρ S' => S' = S ∧ ∃ (x : Int) (x3 : Sl), Up m x (rs.drop i) ∧ 0 ≤ x ∧ ρ = [.sh (.int m), .sh (.tup (rs.map .int)), .sh (.int x), x3, .un, .un]) ⟨rfl, _, _, hu, Int.le_refl _, rfl⟩ ?_ ?_
  · rintro i x ρ S' Nx hx ⟨rfl, l, x3, up, h0, rfl⟩ hN
    obtain ⟨hi, rfl⟩ := rngD_at hx
    have hi : i < rs.length := by
      have := hi
      simp only [List.length_map] at this
      omega
    have ex : L2.atI (rs.map D.int) ((0 : Int) + (i : Nat)) = some (.int rs[i]) := by
      rw [Int.zero_add]
      exact atI_nat (by rw [List.getElem?_map, List.getElem?_eq_getElem hi] <;> rfl)
    rw [List.drop_eq_getElem_cons hi] at up
    obtain ⟨u1, u2, u3⟩ := up
    walk_at "dd"
    refine s_ixT ex ?_
    walk_at "dd"
    refine (ok_is_integer T ?_).mono (Nat.le_of_ble_eq_true rfl)
    walk_at "dd"
    refine s_ixT ex ?_
    walk_at "dd"
    refine i_pos u1 ?_
    walk_at "dd"
    refine n_pos u2 ?_
    walk_at "dd"
    refine s_ixT ex ?_
    walk_at "dd"
    exact hN _ _ ⟨rfl, _, _, u3, by omega, rfl⟩
  · rintro ρ S' ⟨rfl, l, x3, up, h0, rfl⟩
    walk_at "dd"
    refine dc_inv (fun i acc => acc.length ≤ i ∧ i ≤ rs.length ∧ ∀ j : Int, (valD acc (.inl j)).isSome = (rs.take i).contains j) ⟨Nat.le_refl _, Nat.zero_le _, fun j => by simp [valD]⟩ (fun i acc h => by have := h.1; have := h.2.1; rw [sizeLine_eq]; omega) ?_ ?_
    · intro i x acc N Y hx ⟨a1, a2, a3⟩ hN hY
      obtain ⟨z, hz, rfl⟩ := map_at hx
      have hi := (List.getElem?_eq_some_iff.mp hz).1
      walk_at "dd"
      refine ⟨.inl z, rfl, ?_⟩
      walk_at "dd"
      refine ⟨by rw [sizeLine_eq]; omega, hN _ _ ⟨?_, by omega, fun j => ?_⟩⟩
      · have := putKD_len acc (.inl z) (.bl true)
        omega
      · rw [valD_put, a3, List.take_succ, hz, Bool.eq_iff_iff]
        simp only [Option.toList, List.contains_eq_mem, List.mem_append, List.mem_singleton, Bool.or_eq_true, decide_eq_true_eq, Sum.inl.injEq]
        exact ⟨fun h => h.elim (fun h => .inr h.symm) .inl, fun h => h.elim .inr fun h => .inl h.symm⟩
    · intro acc ⟨a1, a2, a3⟩
      rw [List.length_map, List.take_length] at a3
      refine .inl ?_
      walk_at "dd"
      refine lc_pure (fun _ => true) (fun d => match d with | .int i => rowD (restRow rs i) | _ => .non) (by rw [rngD_len]; omega) (fun x hx X Y h1 h2 => ?_) ?_
      · obtain ⟨i, hi, rfl⟩ := List.mem_map.mp hx
        have h1 : X (.v (rowD (if rs.contains (0 + (i : Nat) : Int) then [((0 + (i : Nat) : Int), none)] else []))) S' := h1 rfl
        walk_at "dd"
        refine s_inK (i := .inl (0 + (i : Nat))) (xs := acc) rfl ?_
        rw [a3]
        walk_at "dd"
        refine b_two (fun e => ?_) fun e => ?_
        · rw [if_pos e] at h1
          walk_at "dd"
          exact h1
        · rw [if_neg (by rw [e]; exact Bool.false_ne_true)] at h1
          walk_at "dd"
          exact h1
      · walk_at "dd"
        rw [List.filter_eq_self.mpr fun _ _ => rfl]
        have e : (rngD 0 m.toNat).map (fun d => match d with | .int i => rowD (restRow rs i) | _ => .non) = (restRows m rs).map rowD := by
          rw [rngD, restRows, List.map_map, List.map_map] <;> rfl
        rw [e]
        refine (ok_Sizes T ?_).mono (Nat.le_of_ble_eq_true rfl)
        walk_at "dd"
        exact q
end Toy

set_option Elab.async false
set_option linter.all false
set_option maxRecDepth 100000
set_option maxHeartbeats 4000000
namespace Toy
open PySem PySem.Spec PyProof.Rows L2 My Dt SX
local macro_rules | `(tactic| walk_at "rg") => `(tactic| first
  | omega
  | ((refine And.intro ?_ (And.intro ?_ (And.intro ?_ ?_))) <;> omega))
local macro_rules | `(tactic| walk_at "ls") => `(tactic| first
  | with_reducible exact ls_v
  | with_reducible exact ls_b
  | ((with_reducible refine' ls_p ?hlp); (case hlp => with_reducible assumption)))
local macro_rules | `(tactic| walk_at "start") => `(tactic| ((simp only [startM, startS, List.map_cons, List.map_nil, List.length_cons, List.length_nil, List.cons_append, List.nil_append, Nat.reduceAdd, Nat.reduceSub, List.replicate_succ, List.replicate_zero]); exact rfl))
local macro_rules | `(tactic| walk_at "set") => `(tactic| first
  | ((dsimp only [Int.reduceToNat, List.set_cons_zero, List.set_cons_succ]); done)
  | ((dsimp only [Int.reduceToNat, List.set_cons_zero, List.set_cons_succ]); exact rfl)
  | exact rfl)
local macro_rules | `(tactic| walk_at "sz") => `(tactic| first
  | exact sz_of (Nat.le_of_ble_eq_true rfl)
  | (apply sz_of; simp only [List.length_cons, List.length_nil, List.length_append, List.length_map]; omega))
local macro_rules | `(tactic| walk_at "side") => `(tactic| first
  | with_reducible assumption
  | omega
  | exact ml (by omega) (by omega)
  | exact mr (by omega) (by omega)
  | exact dv (by omega) (by omega)
  | exact Bd.mulOk (by with_reducible assumption) (by with_reducible assumption) (by decide) (by decide) (by decide)
  | exact Bd.div (by with_reducible assumption) (by omega) (by decide) (by decide)
  | (show (0 : Int) < _; omega)
  | exact ⟨by decide, by decide, by decide⟩
  | decide
  | exact rfl)
local macro_rules | `(tactic| walk_at "st") => `(tactic| first
  | with_reducible refine q_seq ?_
  | with_reducible refine q_end ?_
  | with_reducible refine q_nil ?_
  | with_reducible refine q_asg ?_
  | with_reducible refine q_ret ?_
  | with_reducible refine q_if ?_
  | with_reducible refine q_expr ?_
  | with_reducible refine q_retN ?_
  | with_reducible refine q_sub ?_
  | with_reducible refine q_for ?_
  | with_reducible refine q_par ?_
  | with_reducible refine q_par3 ?_
  | with_reducible refine q_asgF ?_
  | with_reducible refine q_asgC ?_
  | ((with_reducible refine' q_frz ?ef ?_); (case ef => exact rfl))
  | ((with_reducible refine' q_app ?ea ?eb ?_); (case ea => exact rfl); (case eb => walk_at "slen"))
  | with_reducible refine q_brk ?_
  | with_reducible refine q_cnt ?_
  | with_reducible refine q_fldS ?_
  | with_reducible refine q_fldP ?_
  | with_reducible refine q_raise ?_
  | with_reducible refine q_try ?_)
local macro_rules | `(tactic| walk_at "slen") => `(tactic| first
  | with_reducible assumption
  | ((rw [sizeLine_eq]); (simp only [List.length_cons, List.length_nil, List.length_append, List.length_map]); omega))
local macro_rules | `(tactic| walk_at "sm") => `(tactic| first
  | with_reducible refine s_add ?_
  | with_reducible refine s_sub ?_
  | ((with_reducible refine' s_mul ?hm ?_); (case hm => walk_at "side"))
  | ((with_reducible refine' s_fdiv ?hm ?_); (case hm => walk_at "side"))
  | ((with_reducible refine' s_mod ?hm ?_); (case hm => walk_at "side"))
  | with_reducible refine s_neg ?_
  | ((with_reducible refine' s_pow ?hm ?_); (case hm => walk_at "side"))
  | ((with_reducible refine' s_ixL ?hl ?he ?_); (case hl => walk_at "ls"); (case he => exact rfl))
  | ((with_reducible refine' s_ixT ?he ?_); (case he => exact rfl))
  | ((with_reducible refine' set_L2 ?ha ?hb ?hc ?_); (case ha => with_reducible assumption); (case hb => exact rfl); (case hc => walk_at "set"))
  | with_reducible refine s_addB ?_
  | with_reducible refine s_lt ?_
  | with_reducible refine s_le ?_
  | with_reducible refine s_gt ?_
  | with_reducible refine s_ge ?_
  | with_reducible refine s_eq ?_
  | with_reducible refine s_ne ?_
  | with_reducible refine s_eqS ?_
  | with_reducible refine s_neS ?_
  | with_reducible refine s_isN ?_
  | with_reducible refine s_isNotN ?_
  | with_reducible refine t_bl ?_)
local macro_rules | `(tactic| walk_at "cl") => `(tactic| first
  | with_reducible refine c_int ?_
  | with_reducible refine c_intB ?_
  | with_reducible refine c_abs ?_
  | ((with_reducible refine' c_max ?hm ?_); (case hm => exact rfl))
  | ((with_reducible refine' c_min ?hm ?_); (case hm => exact rfl))
  | ((with_reducible refine' c_divmod ?hm ?_); (case hm => walk_at "side"))
  | ((with_reducible refine' c_len ?hm ?_); (case hm => walk_at "sq"))
  | ((with_reducible refine' c_list ?hm ?_); (case hm => walk_at "sq"))
  | ((with_reducible refine' c_tuple ?hm ?_); (case hm => walk_at "sq")))
local macro_rules | `(tactic| walk_at "sq") => `(tactic| first
  | exact sqL
  | exact sqT
  | exact sqB
  | exact sqP (by with_reducible assumption))
local macro_rules | `(tactic| walk_at "v") => `(tactic| first
  | ((with_reducible refine' v_sh ?ev ?_); (case ev => exact rfl))
  | ((with_reducible refine' v_ol ?ev ?_); (case ev => exact rfl))
  | ((with_reducible refine' v_slf ?ev ?_); (case ev => exact rfl))
  | with_reducible refine q_val ?_
  | ((with_reducible refine' q_walk ?ew ?_); (case ew => exact rfl))
  | ((with_reducible refine' q_rng1 ?ej ?ek ?_); (case ej => walk_at "rg"); (case ek => walk_at "rg"))
  | ((with_reducible refine' q_rng2 ?ej ?_); (case ej => walk_at "rg"))
  | with_reducible refine q_rngL ?_
  | with_reducible refine q_solc ?_
  | with_reducible refine q_sol0 ?_
  | ((with_reducible refine' q_gname ?eg ?_); (case eg => walk_at "set"))
  | ((with_reducible refine' n_set ?eg ?_); (case eg => walk_at "set"))
  | ((with_reducible refine' n_set2 ?eg ?_); (case eg => walk_at "set"))
  | ((with_reducible refine' n_set3 ?eg ?_); (case eg => walk_at "set"))
  | with_reducible refine q_two ?_
  | with_reducible refine q_three ?_
  | with_reducible refine q_bl ?_
  | with_reducible refine q_oint ?_
  | ((with_reducible refine' q_gtup ?el ?_); (case el => exact rfl))
  | with_reducible refine q_gcons ?_
  | with_reducible refine q_gnil ?_
  | with_reducible refine i_t ?_
  | with_reducible refine i_f ?_
  | with_reducible refine i_nt ?_
  | with_reducible refine i_nf ?_
  | ((with_reducible refine' n_t ?en ?_); (case en => exact rfl))
  | ((with_reducible refine' n_f ?en ?_); (case en => exact rfl))
  | ((with_reducible refine' nn_t ?en ?_); (case en => exact rfl))
  | ((with_reducible refine' nn_f ?en ?_); (case en => exact rfl))
  | with_reducible refine And.intro (by walk_at "sz") ?_)
local macro_rules | `(tactic| walk_at "d") => `(tactic| first
  | walk_at "v"
  | walk_at "st"
  | walk_at "sm"
  | walk_at "cl"
  | walk_at "at")
local macro_rules | `(tactic| walk_at "dd") => `(tactic| repeat walk_at "d")

variable {P : Program} {w : World} {K : PySem.W.Frag} {mg : Str → Option Value} {base : Heap} {S : Sto} {Ex : XS} {Q : QO}
theorem atI_lt {α : Type} {xs : List α} {i : Int} (h0 : 0 ≤ i) (h1 : i < xs.length) : ∃ x, x ∈ xs ∧ L2.atI xs i = some x := by
  obtain ⟨n, rfl⟩ := Int.eq_ofNat_of_zero_le h0
  have hn : n < xs.length := by omega
  exact ⟨xs[n], List.getElem_mem hn, atI_nat (List.getElem?_eq_getElem hn)⟩
/-- a drawn number -/
def Nb (a : Int) : Prop := 0 ≤ a ∧ a < 2 ^ 210
theorem Nb.le {a b : Int} (h0 : 0 ≤ a) (h : a ≤ b) (n : b < 2 ^ 205) : Nb a := ⟨h0, Int.lt_of_le_of_lt h (Int.lt_trans n (by decide))⟩
theorem ok_number (T : Tx K mg) {n : Nat} (h : Purse S n) (q : ∀ (v : Int) (S' : Sto), 0 ≤ v → v < 2 ^ 205 → Purse S' n → Bt n S S' → Q (.v (.int v)) S') : sFun (bs P w K mg base) 2 (.ref (He.ga K "_law_number")) [] [.ptr n] [] S Ex Q := by
  refine' call_d (B := bs P w K mg base) 1 (Classical.choose_spec T.d_law_number) sc_law_number rfl (bm_all (ps := ["_law_purse_here"]) (Classical.choose_spec T.d_law_number) (fun _ _ _ _ _ _ us hl => match us, hl with | [_], _ => rfl)) (dss_cons (ds_par (i := 1) (j := 2) rfl rfl rfl (by decide) rfl rfl (da_cons (de_call rfl rfl ⟨T.g_law_draw, (Classical.choose_spec T.d_law_draw).kp⟩ (da_cons (dv 0) (da_cons de_int da_nil))) (da_cons (de_call rfl rfl ⟨T.g_law_draw, (Classical.choose_spec T.d_law_draw).kp⟩ (da_cons (dv 0) (da_cons de_int da_nil))) da_nil)) (fun env h => by cases env; cases h; rfl)) (dss_cons (ds_if (dt_cmp (dv 1) de_int) (dss_one (ds_ret (dv 2))) dss_nil) (dss_one (ds_ret (de_bin (dv 2) (de_ix (de_lstV (da_cons (de_bin de_int de_int) (da_cons (de_bin de_int de_int) (da_cons (de_bin de_int de_int) (da_cons (de_bin (de_bin de_int de_int) (de_bin de_int de_int)) da_nil))))) (de_call rfl rfl ⟨T.g_law_draw, (Classical.choose_spec T.d_law_draw).kp⟩ (da_cons (dv 0) (da_cons de_int da_nil))) (fun _ _ => rfl))))))) ⟨rfl, rfl⟩ ?st ?_
  case st => walk_at "start"
  walk_at "dd"
  refine ok_draw T h (by decide) (by decide) fun a S1 a1 a2 h1 s1 => ?_
  walk_at "dd"
  refine ok_draw T h1 (by decide) (by decide) fun b S2 b1 b2 h2 s2 => ?_
  walk_at "dd"
  refine i_two (fun c => ?_) fun c => ?_
  · walk_at "dd"
    exact q _ _ b1 (Int.lt_trans b2 (by decide)) h2 (s1.trans s2)
  · walk_at "dd"
    refine ok_draw T h2 (by decide) (by decide) fun d S3 d1 d2 h3 s3 => ?_
    obtain ⟨x, hx, ex⟩ := atI_lt (xs := [D.int (10 ^ Int.toNat 6), D.int (10 ^ Int.toNat 30), D.int (10 ^ Int.toNat 60), D.int (10 ^ Int.toNat 60 + 10 ^ Int.toNat 9)]) d1 d2
    refine s_ixL ls_v ex ?_
    simp only [List.mem_cons, List.not_mem_nil, or_false] at hx
    rcases hx with rfl | rfl | rfl | rfl
    all_goals
      walk_at "dd"
      exact q _ _ (Int.add_nonneg b1 (by decide)) (Int.lt_of_lt_of_le (Int.add_lt_add_right b2 _) (by decide)) h3 ((s1.trans s2).trans s3)
def modL : List (List Int) := [[1, 2, 3, 4, 6, 12], [1, 2, 5, 10], [1, 3, 7], [2, 4, 8], [9, 1, 3], [11, 1]]
theorem ok_moduli (T : Tx K mg) {n : Nat} (h : Purse S n) (q : ∀ (ms : List Int) (S' : Sto), ms ∈ modL → Purse S' n → Bt n S S' → Q (.v (.lst (ms.map .int))) S') : sFun (bs P w K mg base) 2 (.ref (He.ga K "_law_moduli")) [] [.ptr n] [] S Ex Q := by
  refine' call_d (B := bs P w K mg base) 1 (Classical.choose_spec T.d_law_moduli) sc_law_moduli rfl (bm_all (ps := ["_law_purse_here"]) (Classical.choose_spec T.d_law_moduli) (fun _ _ _ _ _ _ us hl => match us, hl with | [_], _ => rfl)) (dss_cons (dst 1 (de_call rfl rfl ⟨T.g_law_draw, (Classical.choose_spec T.d_law_draw).kp⟩ (da_cons (dv 0) (da_cons de_int da_nil)))) (dss_one (ds_ret (de_ix (de_lstV (da_cons (de_lstV (da_cons de_int (da_cons de_int (da_cons de_int (da_cons de_int (da_cons de_int (da_cons de_int da_nil))))))) (da_cons (de_lstV (da_cons de_int (da_cons de_int (da_cons de_int (da_cons de_int da_nil))))) (da_cons (de_lstV (da_cons de_int (da_cons de_int (da_cons de_int da_nil)))) (da_cons (de_lstV (da_cons de_int (da_cons de_int (da_cons de_int da_nil)))) (da_cons (de_lstV (da_cons de_int (da_cons de_int (da_cons de_int da_nil)))) (da_cons (de_lstV (da_cons de_int (da_cons de_int da_nil))) da_nil))))))) (dv 1) (fun _ _ => rfl))))) ⟨rfl, rfl⟩ ?st ?_
  case st => walk_at "start"
  walk_at "dd"
  refine ok_draw T h (by decide) (by decide) fun a S1 a1 a2 h1 s1 => ?_
  walk_at "dd"
  obtain ⟨ms, hx, ex⟩ := atI_lt (xs := modL) a1 a2
  have e2 : L2.atI (modL.map fun m => D.lst (m.map .int)) a = some (.lst (ms.map .int)) := by
    obtain ⟨i, rfl⟩ := Int.eq_ofNat_of_zero_le a1
    have hi : i < modL.length := by
      have : modL.length = 6 := rfl
      omega
    have e3 : modL[i]? = some ms := by
      rw [← ex]
      exact (atI_nat (List.getElem?_eq_getElem hi) ▸ List.getElem?_eq_getElem hi)
    exact atI_nat (by rw [List.getElem?_map, e3] <;> rfl)
  refine s_ixL ls_v e2 ?_
  walk_at "dd"
  exact q _ _ hx h1 s1
/-! ### trees -/
inductive Tr where
  | span (a : Int) (b : Option Int) | rests (m : Int) (rs : List Int) | node (o : Wo) (l r : Tr)
def Tr.toD : Tr → D
  | .span a b => .tup [.str "span", .int a, optD b]
  | .rests m rs => .tup [.str "rests", .int m, .lst (rs.map .int)]
  | .node o l r => .tup [.str o.str, l.toD, r.toD]
theorem pds_ints : ∀ ns : List Int, pds (ns.map .int) = some (ns.map PyData.int)
  | [] => rfl
  | n :: ns => by
    show (match pd (.int n), pds (ns.map .int) with | some d, some ds => some (d :: ds) | _, _ => none) = _
    rw [pds_ints ns] <;> rfl
theorem eqv_any (x : Int) : ∀ ns : List Int, (ns.map PyData.int).any (fun z => PyData.eqv z (.int x)) = ns.contains x
  | [] => rfl
  | n :: ns => by
    rw [List.map_cons, List.any_cons, eqv_any x ns, List.contains_cons]
    have e : PyData.eqv (.int n) (.int x) = (x == n) := by
      show (n == x) = _
      rw [Bool.eq_iff_iff, beq_iff_eq, beq_iff_eq]
      exact eq_comm
    rw [e]
theorem s_inZ {B : Bs} {k : Nat} {x : Int} {ns : List Int} (q : Q (.v (.bl (ns.contains x))) S) : sem2 B k (compareOp .In) (.v (.int x)) (.v (.lst (ns.map .int))) S Ex Q := by
  refine s_inD (pdV (p := .int x) rfl) (pdV (p := .list (ns.map PyData.int)) ?_) rfl (shp_ints ns) ?_
  · show (pds (ns.map .int)).map PyData.list = _
    rw [pds_ints] <;> rfl
  · rw [eqv_any]
    exact q
theorem up_sub {m : Int} : ∀ (rs : List Int) {s : Int} {ps : List Int}, Up m s rs → (∀ x ∈ rs, x ∈ ps) → rs.length ≤ ps.length
  | [], _, _, _, _ => Nat.zero_le _
  | x :: xs, s, ps, u, h => by
    have low : ∀ (ys : List Int) {t : Int}, Up m t ys → ∀ y ∈ ys, t ≤ y := by
      intro ys
      induction ys with
      | nil => intro t _ y hy; cases hy
      | cons z zs ih =>
        intro t u y hy
        rcases List.mem_cons.mp hy with rfl | hy
        · exact u.1
        · have := ih u.2.2 y hy
          have := u.1
          omega
    have hx := h x List.mem_cons_self
    have ih := up_sub xs (ps := ps.erase x) u.2.2 fun y hy => by
      have := low xs u.2.2 y hy
      exact (List.mem_erase_of_ne (by omega)).mpr (h y (List.mem_cons_of_mem _ hy))
    have l := List.length_erase_of_mem hx
    have l0 : 0 < ps.length := List.length_pos_of_mem hx
    rw [List.length_cons]
    omega
def rsOf (m : Int) (ps : List Int) : List Int := ((List.range m.toNat).map fun i => (0 : Int) + ((i : Nat) : Int)).filter fun x => ps.contains x
theorem up_rng {m : Int} {p : Int → Bool} : ∀ (k a : Nat), ((a + k : Nat) : Int) ≤ m → Up m a (((List.range' a k).map fun i => (0 : Int) + ((i : Nat) : Int)).filter p)
  | 0, _, _ => trivial
  | k + 1, a, h => by
    rw [List.range'_succ, List.map_cons, List.filter_cons]
    have ih := up_rng (m := m) (p := p) k (a + 1) (by omega)
    split
    · refine ⟨by omega, by omega, ?_⟩
      rw [show (0 : Int) + (a : Int) + 1 = ((a + 1 : Nat) : Int) by omega]
      exact ih
    · exact Up.le (s := ((a + 1 : Nat) : Int)) (by omega) ih
theorem rsOf_up {m : Int} (hm : 0 ≤ m) (ps : List Int) : Up m 0 (rsOf m ps) := by
  unfold rsOf
  rw [List.range_eq_range']
  exact up_rng (p := fun x => ps.contains x) m.toNat 0 (by omega)
theorem rsOf_len {m : Int} (hm : 0 ≤ m) (ps : List Int) : (rsOf m ps).length ≤ ps.length := up_sub _ (rsOf_up hm ps) fun x hx => by
  have := (List.mem_filter.mp hx).2
  exact List.contains_iff_mem.mp this
theorem ok_leaf (T : Tx K mg) {n : Nat} {ms : List Int} (h : Purse S n) (hm : ∀ m ∈ ms, 1 ≤ m ∧ m ≤ 100) (h0 : 0 < ms.length) (hz : ms.length ≤ 100) (q1 : ∀ (a : Int) (b : Option Int) (S' : Sto), Nb a → (∀ x, b = some x → Nb x) → Purse S' n → Bt n S S' → Q (.v (Tr.toD (.span a b))) S')
    (q2 : ∀ (m : Int) (rs : List Int) (S' : Sto), m ∈ ms → Up m 0 rs → rs.length ≤ 4 → Purse S' n → Bt n S S' → Q (.v (Tr.toD (.rests m rs))) S') : sFun (bs P w K mg base) 3 (.ref (He.ga K "_law_leaf")) [] [.ptr n, .lst (ms.map .int)] [] S Ex Q := by
  refine' call_d (B := bs P w K mg base) 2 (Classical.choose_spec T.d_law_leaf) sc_law_leaf rfl (bm_all (ps := ["_law_purse_here", "_law_moduli_here"]) (Classical.choose_spec T.d_law_leaf) (fun _ _ _ _ _ _ us hl => match us, hl with | [_, _], _ => rfl)) (dss_cons (ds_if (dt_cmp (de_call rfl rfl ⟨T.g_law_draw, (Classical.choose_spec T.d_law_draw).kp⟩ (da_cons (dv 0) (da_cons de_int da_nil))) de_int) (dss_cons (dst 2 (de_call rfl rfl ⟨T.g_law_number, (Classical.choose_spec T.d_law_number).kp⟩ (da_cons (dv 0) da_nil))) (dss_cons (dst 3 (de_call rfl rfl ⟨T.g_law_draw, (Classical.choose_spec T.d_law_draw).kp⟩ (da_cons (dv 0) (da_cons de_int da_nil)))) (dss_cons (ds_if (dt_cmp (dv 3) de_int) (dss_one (ds_ret (de_tup (da_cons de_str (da_cons (dv 2) (da_cons de_non da_nil)))))) dss_nil) (dss_one (ds_ret (de_tup (da_cons de_str (da_cons (dv 2) (da_cons (de_if (dt_cmp (dv 3) de_int) (de_call rfl rfl ⟨T.g_law_number, (Classical.choose_spec T.d_law_number).kp⟩ (da_cons (dv 0) da_nil)) (de_bin (dv 2) (de_call rfl rfl ⟨T.g_law_draw, (Classical.choose_spec T.d_law_draw).kp⟩ (da_cons (dv 0) (da_cons de_int da_nil))))) da_nil))))))))) dss_nil) (dss_cons (dst 4 (de_ix (dv 1) (de_call rfl rfl ⟨T.g_law_draw, (Classical.choose_spec T.d_law_draw).kp⟩ (da_cons (dv 0) (da_cons (de_callB (id := "len") rfl T.f_len (by decide +kernel) (da_cons (dv 1) da_nil)) da_nil))) (fun _ _ => rfl))) (dss_cons (dstC 5 (DF.de (df_lc (own := [("_law_turn", 6)]) rfl (by decide) (di_range1 rfl T.f_range (da_cons (de_call rfl rfl ⟨T.g_law_draw, (Classical.choose_spec T.d_law_draw).kp⟩ (da_cons (dv 0) (da_cons de_int da_nil))) da_nil)) (blkOk_by (N := ["_law_purse_here", "_law_moduli_here", "_law_first", "_law_way", "_law_modulus_here", "_law_places", "_law_turn", "_law_rest"]) (sc := defScope s_law_leaf) (by decide +kernel)) (dgn 6) dts_nil (de_call rfl rfl ⟨T.g_law_draw, (Classical.choose_spec T.d_law_draw).kp⟩ (da_cons (dv 0) (da_cons (dv 4) da_nil))))) (fun env h => by cases env; cases h; rfl)) (dss_one (ds_ret (de_tup (da_cons de_str (da_cons (dv 4) (da_cons (DF.de (df_lc (own := [("_law_rest", 7)]) rfl (by decide) (di_range1 rfl T.f_range (da_cons (dv 4) da_nil)) (blkOk_by (N := ["_law_purse_here", "_law_moduli_here", "_law_first", "_law_way", "_law_modulus_here", "_law_places", "_law_turn", "_law_rest"]) (sc := defScope s_law_leaf) (by decide +kernel)) (dgn 7) (dts_one (dt_cmp (dv 7) (dv 5))) (dv 7))) da_nil))))))))) ⟨rfl, rfl⟩ ?st ?_
  case st => walk_at "start"
  walk_at "dd"
  refine (ok_draw T h (by decide) (by decide) fun a S1 a1 a2 h1 s1 => ?_).mono (Nat.le_of_ble_eq_true rfl)
  walk_at "dd"
  refine i_two (fun c => ?_) fun c => ?_
  · walk_at "dd"
    refine ok_number T h1 fun x S2 x1 x0 h2 s2 => ?_
    walk_at "dd"
    refine (ok_draw T h2 (by decide) (by decide) fun b S3 b1 b2 h3 s3 => ?_).mono (Nat.le_of_ble_eq_true rfl)
    have s13 := (s1.trans s2).trans s3
    walk_at "dd"
    refine i_two (fun c => ?_) fun c => ?_
    · walk_at "dd"
      exact q1 x none _ (.le x1 (Int.le_refl _) x0) (fun _ e => nomatch e) h3 s13
    · walk_at "dd"
      refine i_two (fun c => ?_) fun c => ?_
      · walk_at "dd"
        refine ok_number T h3 fun y S4 y1 y0 h4 s4 => ?_
        walk_at "dd"
        exact q1 x (some y) _ (.le x1 (Int.le_refl _) x0) (fun _ e => by cases e; exact .le y1 (Int.le_refl _) y0) h4 (s13.trans s4)
      · walk_at "dd"
        refine (ok_draw T h3 (by decide) (by decide) fun y S4 y1 y2 h4 s4 => ?_).mono (Nat.le_of_ble_eq_true rfl)
        walk_at "dd"
        exact q1 x (some (x + y)) _ (.le x1 (Int.le_refl _) x0) (fun _ e => by cases e; exact ⟨by omega, by omega⟩) h4 (s13.trans s4)
  · walk_at "dd"
    have hl : ((ms.map D.int).length : Int) ≤ 100 := by rw [List.length_map]; omega
    have hl0 : 0 < ((ms.map D.int).length : Int) := by rw [List.length_map]; omega
    refine (ok_draw T h1 hl0 (by omega) fun x S2 x1 x2 h2 s2 => ?_).mono (Nat.le_of_ble_eq_true rfl)
    rw [List.length_map] at x2
    obtain ⟨m, hmm, ex⟩ := atI_lt (xs := ms) x1 x2
    have e2 : L2.atI (ms.map D.int) x = some (.int m) := by
      unfold L2.atI at ex ⊢
      rw [List.length_map]
      obtain ⟨j, hj, e⟩ := Option.bind_eq_some_iff.mp ex
      rw [hj]
      show (ms.map D.int)[j]? = _
      rw [List.getElem?_map, e] <;> rfl
    obtain ⟨m1, m2⟩ := hm m hmm
    refine s_ixL ls_v e2 ?_
    walk_at "dd"
    refine (ok_draw T h2 (by decide) (by decide) fun y S3 y1 y2 h3 s3 => ?_).mono (Nat.le_of_ble_eq_true rfl)
    have s13 := (s1.trans s2).trans s3
    walk_at "dd"
    refine lc_inv (fun i acc S' => ∃ ps : List Int, acc = ps.map .int ∧ ps.length = i ∧ i ≤ y.toNat ∧ Purse S' n ∧ Bt n S S') ⟨[], rfl, rfl, Nat.zero_le _, h3, s13⟩ (fun i acc S' ⟨ps, e, l, le, _⟩ => by rw [e, List.length_map, l, sizeLine_eq]; omega) ?_ ?_
    · rintro i z acc S' X Y hz ⟨ps, rfl, l, le, h4, s4⟩ hX hY
      obtain ⟨hi, rfl⟩ := rngD_at hz
      walk_at "dd"
      refine (ok_draw T h4 (by omega) (by omega) fun v S5 v1 v2 h5 s5 => ?_).mono (Nat.le_of_ble_eq_true rfl)
      walk_at "dd"
      exact hX (.int v) S5 ⟨ps ++ [v], by rw [List.map_append] <;> rfl, by rw [List.length_append, l] <;> rfl, hi, h5, s4.trans s5⟩
    · rintro acc S' ⟨ps, rfl, l, le, h4, s4⟩
      walk_at "dd"
      refine lc_pure (fun d => match d with | .int i => ps.contains i | _ => false) (fun d => d) (by rw [rngD_len]; omega) (fun z hz X Y h1 h2 => ?_) ?_
      · obtain ⟨i, hi, rfl⟩ := List.mem_map.mp hz
        walk_at "dd"
        refine s_inZ ?_
        walk_at "dd"
        refine b_two (fun e => ?_) fun e => ?_
        · walk_at "dd"
          exact h1 e
        · walk_at "dd"
          exact h2 e
      · have e : ((rngD 0 m.toNat).filter (fun d => match d with | .int i => ps.contains i | _ => false)).map (fun d => d) = (rsOf m ps).map .int := by
          rw [List.map_id', rngD, rsOf, show (fun i : Nat => D.int (0 + (i : Nat))) = D.int ∘ (fun i : Nat => (0 : Int) + ((i : Nat) : Int)) from rfl, ← List.map_map, List.filter_map] <;> rfl
        rw [e]
        have l4 := rsOf_len (m := m) (by omega) ps
        walk_at "dd"
        exact q2 m _ _ hmm (rsOf_up (by omega) ps) (by omega) h4 s4
end Toy

set_option Elab.async false
set_option linter.all false
set_option maxRecDepth 100000
set_option maxHeartbeats 4000000
namespace Toy
open PySem PySem.Spec PyProof.Rows L2 My Dt SX
local macro_rules | `(tactic| walk_at "rg") => `(tactic| first
  | omega
  | ((refine And.intro ?_ (And.intro ?_ (And.intro ?_ ?_))) <;> omega))
local macro_rules | `(tactic| walk_at "ls") => `(tactic| first
  | with_reducible exact ls_v
  | with_reducible exact ls_b
  | ((with_reducible refine' ls_p ?hlp); (case hlp => with_reducible assumption)))
local macro_rules | `(tactic| walk_at "start") => `(tactic| ((simp only [startM, startS, List.map_cons, List.map_nil, List.length_cons, List.length_nil, List.cons_append, List.nil_append, Nat.reduceAdd, Nat.reduceSub, List.replicate_succ, List.replicate_zero]); exact rfl))
local macro_rules | `(tactic| walk_at "set") => `(tactic| first
  | ((dsimp only [Int.reduceToNat, List.set_cons_zero, List.set_cons_succ]); done)
  | ((dsimp only [Int.reduceToNat, List.set_cons_zero, List.set_cons_succ]); exact rfl)
  | exact rfl)
local macro_rules | `(tactic| walk_at "sz") => `(tactic| first
  | exact sz_of (Nat.le_of_ble_eq_true rfl)
  | (apply sz_of; simp only [List.length_cons, List.length_nil, List.length_append, List.length_map]; omega))
local macro_rules | `(tactic| walk_at "side") => `(tactic| first
  | with_reducible assumption
  | omega
  | exact ml (by omega) (by omega)
  | exact mr (by omega) (by omega)
  | exact dv (by omega) (by omega)
  | exact Bd.mulOk (by with_reducible assumption) (by with_reducible assumption) (by decide) (by decide) (by decide)
  | exact Bd.div (by with_reducible assumption) (by omega) (by decide) (by decide)
  | (show (0 : Int) < _; omega)
  | exact ⟨by decide, by decide, by decide⟩
  | decide
  | exact rfl)
local macro_rules | `(tactic| walk_at "st") => `(tactic| first
  | with_reducible refine q_seq ?_
  | with_reducible refine q_end ?_
  | with_reducible refine q_nil ?_
  | with_reducible refine q_asg ?_
  | with_reducible refine q_ret ?_
  | with_reducible refine q_if ?_
  | with_reducible refine q_expr ?_
  | with_reducible refine q_retN ?_
  | with_reducible refine q_sub ?_
  | with_reducible refine q_for ?_
  | with_reducible refine q_par ?_
  | with_reducible refine q_par3 ?_
  | with_reducible refine q_asgF ?_
  | with_reducible refine q_asgC ?_
  | ((with_reducible refine' q_frz ?ef ?_); (case ef => exact rfl))
  | ((with_reducible refine' q_app ?ea ?eb ?_); (case ea => exact rfl); (case eb => walk_at "slen"))
  | with_reducible refine q_brk ?_
  | with_reducible refine q_cnt ?_
  | with_reducible refine q_fldS ?_
  | with_reducible refine q_fldP ?_
  | with_reducible refine q_raise ?_
  | with_reducible refine q_try ?_)
local macro_rules | `(tactic| walk_at "slen") => `(tactic| first
  | with_reducible assumption
  | ((rw [sizeLine_eq]); (simp only [List.length_cons, List.length_nil, List.length_append, List.length_map]); omega))
local macro_rules | `(tactic| walk_at "sm") => `(tactic| first
  | with_reducible refine s_add ?_
  | with_reducible refine s_sub ?_
  | ((with_reducible refine' s_mul ?hm ?_); (case hm => walk_at "side"))
  | ((with_reducible refine' s_fdiv ?hm ?_); (case hm => walk_at "side"))
  | ((with_reducible refine' s_mod ?hm ?_); (case hm => walk_at "side"))
  | with_reducible refine s_neg ?_
  | ((with_reducible refine' s_pow ?hm ?_); (case hm => walk_at "side"))
  | ((with_reducible refine' s_ixL ?hl ?he ?_); (case hl => walk_at "ls"); (case he => exact rfl))
  | ((with_reducible refine' s_ixT ?he ?_); (case he => exact rfl))
  | ((with_reducible refine' set_L2 ?ha ?hb ?hc ?_); (case ha => with_reducible assumption); (case hb => exact rfl); (case hc => walk_at "set"))
  | with_reducible refine s_addB ?_
  | with_reducible refine s_lt ?_
  | with_reducible refine s_le ?_
  | with_reducible refine s_gt ?_
  | with_reducible refine s_ge ?_
  | with_reducible refine s_eq ?_
  | with_reducible refine s_ne ?_
  | with_reducible refine s_eqS ?_
  | with_reducible refine s_neS ?_
  | with_reducible refine s_isN ?_
  | with_reducible refine s_isNotN ?_
  | with_reducible refine t_bl ?_)
local macro_rules | `(tactic| walk_at "cl") => `(tactic| first
  | with_reducible refine c_int ?_
  | with_reducible refine c_intB ?_
  | with_reducible refine c_abs ?_
  | ((with_reducible refine' c_max ?hm ?_); (case hm => exact rfl))
  | ((with_reducible refine' c_min ?hm ?_); (case hm => exact rfl))
  | ((with_reducible refine' c_divmod ?hm ?_); (case hm => walk_at "side"))
  | ((with_reducible refine' c_len ?hm ?_); (case hm => walk_at "sq"))
  | ((with_reducible refine' c_list ?hm ?_); (case hm => walk_at "sq"))
  | ((with_reducible refine' c_tuple ?hm ?_); (case hm => walk_at "sq")))
local macro_rules | `(tactic| walk_at "sq") => `(tactic| first
  | exact sqL
  | exact sqT
  | exact sqB
  | exact sqP (by with_reducible assumption))
local macro_rules | `(tactic| walk_at "v") => `(tactic| first
  | ((with_reducible refine' v_sh ?ev ?_); (case ev => exact rfl))
  | ((with_reducible refine' v_ol ?ev ?_); (case ev => exact rfl))
  | ((with_reducible refine' v_slf ?ev ?_); (case ev => exact rfl))
  | with_reducible refine q_val ?_
  | ((with_reducible refine' q_walk ?ew ?_); (case ew => exact rfl))
  | ((with_reducible refine' q_rng1 ?ej ?ek ?_); (case ej => walk_at "rg"); (case ek => walk_at "rg"))
  | ((with_reducible refine' q_rng2 ?ej ?_); (case ej => walk_at "rg"))
  | with_reducible refine q_rngL ?_
  | with_reducible refine q_solc ?_
  | with_reducible refine q_sol0 ?_
  | ((with_reducible refine' q_gname ?eg ?_); (case eg => walk_at "set"))
  | ((with_reducible refine' n_set ?eg ?_); (case eg => walk_at "set"))
  | ((with_reducible refine' n_set2 ?eg ?_); (case eg => walk_at "set"))
  | ((with_reducible refine' n_set3 ?eg ?_); (case eg => walk_at "set"))
  | with_reducible refine q_two ?_
  | with_reducible refine q_three ?_
  | with_reducible refine q_bl ?_
  | with_reducible refine q_oint ?_
  | ((with_reducible refine' q_gtup ?el ?_); (case el => exact rfl))
  | with_reducible refine q_gcons ?_
  | with_reducible refine q_gnil ?_
  | with_reducible refine i_t ?_
  | with_reducible refine i_f ?_
  | with_reducible refine i_nt ?_
  | with_reducible refine i_nf ?_
  | ((with_reducible refine' n_t ?en ?_); (case en => exact rfl))
  | ((with_reducible refine' n_f ?en ?_); (case en => exact rfl))
  | ((with_reducible refine' nn_t ?en ?_); (case en => exact rfl))
  | ((with_reducible refine' nn_f ?en ?_); (case en => exact rfl))
  | with_reducible refine And.intro (by walk_at "sz") ?_)
local macro_rules | `(tactic| walk_at "d") => `(tactic| first
  | walk_at "v"
  | walk_at "st"
  | walk_at "sm"
  | walk_at "cl"
  | walk_at "at")
local macro_rules | `(tactic| walk_at "dd") => `(tactic| repeat walk_at "d")

variable {P : Program} {w : World} {K : PySem.W.Frag} {mg : Str → Option Value} {base : Heap} {S : Sto} {Ex : XS} {Q : QO}
/-- a leaf that is drawn -/
def Lf (ms : List Int) (t : Tr) : Prop := (∃ a b, t = .span a b ∧ Nb a ∧ ∀ x, b = some x → Nb x) ∨ ∃ m rs, t = .rests m rs ∧ m ∈ ms ∧ Up m 0 rs ∧ rs.length ≤ 4
def Tr1 (ms : List Int) (t : Tr) : Prop := Lf ms t ∨ ∃ o l r, t = .node o l r ∧ Lf ms l ∧ Lf ms r
theorem ok_leafL (T : Tx K mg) {n : Nat} {ms : List Int} (h : Purse S n) (hm : ∀ m ∈ ms, 1 ≤ m ∧ m ≤ 100) (h0 : 0 < ms.length) (hz : ms.length ≤ 100) (q : ∀ (t : Tr) (S' : Sto), Lf ms t → Purse S' n → Bt n S S' → Q (.v t.toD) S') : sFun (bs P w K mg base) 3 (.ref (He.ga K "_law_leaf")) [] [.ptr n, .lst (ms.map .int)] [] S Ex Q :=
  ok_leaf T h hm h0 hz (fun a b S' a0 b0 h' s' => q _ S' (.inl ⟨a, b, rfl, a0, b0⟩) h' s') fun m rs S' mm u l h' s' => q _ S' (.inr ⟨m, rs, rfl, mm, u, l⟩) h' s'
theorem ok_tree0 (T : Tx K mg) {n : Nat} {ms : List Int} (h : Purse S n) (hm : ∀ m ∈ ms, 1 ≤ m ∧ m ≤ 100) (h0 : 0 < ms.length) (hz : ms.length ≤ 100) (q : ∀ (t : Tr) (S' : Sto), Lf ms t → Purse S' n → Bt n S S' → Q (.v t.toD) S') : sFun (bs P w K mg base) 4 (.ref (He.ga K "_law_tree")) [] [.ptr n, .lst (ms.map .int), .int 0] [] S Ex Q := by
  refine' call_d (B := bs P w K mg base) 3 (Classical.choose_spec T.d_law_tree) sc_law_tree rfl (bm_all (ps := ["_law_purse_here", "_law_moduli_here", "_law_deep"]) (Classical.choose_spec T.d_law_tree) (fun _ _ _ _ _ _ us hl => match us, hl with | [_, _, _], _ => rfl)) (dss_cons (dst 3 (de_call rfl rfl ⟨T.g_law_draw, (Classical.choose_spec T.d_law_draw).kp⟩ (da_cons (dv 0) (da_cons de_int da_nil)))) (dss_cons (ds_if (DW.dt (dw_or (dt_cmp (dv 2) de_int) (dw_or1 (dt_cmp (dv 3) de_int)))) (dss_one (ds_ret (de_call rfl rfl ⟨T.g_law_leaf, (Classical.choose_spec T.d_law_leaf).kp⟩ (da_cons (dv 0) (da_cons (dv 1) da_nil))))) dss_nil) (dss_cons (dst 4 (de_call rfl rfl ⟨T.g_law_tree, (Classical.choose_spec T.d_law_tree).kp⟩ (da_cons (dv 0) (da_cons (dv 1) (da_cons (de_bin (dv 2) de_int) da_nil))))) (dss_one (ds_ret (de_tup (da_cons (de_ix (de_lstV (da_cons de_str (da_cons de_str (da_cons de_str da_nil)))) (de_bin (de_callT (T := "int") rfl T.f_int (by decide +kernel) (da_cons (dv 3) da_nil)) de_int) (fun _ _ => rfl)) (da_cons (dv 4) (da_cons (de_call rfl rfl ⟨T.g_law_tree, (Classical.choose_spec T.d_law_tree).kp⟩ (da_cons (dv 0) (da_cons (dv 1) (da_cons (de_bin (dv 2) de_int) da_nil)))) da_nil))))))))) ⟨rfl, rfl⟩ ?st ?_
  case st => walk_at "start"
  walk_at "dd"
  refine (ok_draw T h (by decide) (by decide) fun a S1 a1 a2 h1 s1 => ?_).mono (Nat.le_of_ble_eq_true rfl)
  walk_at "dd"
  refine i_pos rfl ?_
  walk_at "dd"
  refine ok_leafL T h1 hm h0 hz fun t S2 l h2 s2 => ?_
  walk_at "dd"
  exact q t _ l h2 (s1.trans s2)
theorem ok_tree1 (T : Tx K mg) {n : Nat} {ms : List Int} (h : Purse S n) (hm : ∀ m ∈ ms, 1 ≤ m ∧ m ≤ 100) (h0 : 0 < ms.length) (hz : ms.length ≤ 100) (q : ∀ (t : Tr) (S' : Sto), Tr1 ms t → Purse S' n → Bt n S S' → Q (.v t.toD) S') : sFun (bs P w K mg base) 5 (.ref (He.ga K "_law_tree")) [] [.ptr n, .lst (ms.map .int), .int 1] [] S Ex Q := by
  refine' call_d (B := bs P w K mg base) 4 (Classical.choose_spec T.d_law_tree) sc_law_tree rfl (bm_all (ps := ["_law_purse_here", "_law_moduli_here", "_law_deep"]) (Classical.choose_spec T.d_law_tree) (fun _ _ _ _ _ _ us hl => match us, hl with | [_, _, _], _ => rfl)) (dss_cons (dst 3 (de_call rfl rfl ⟨T.g_law_draw, (Classical.choose_spec T.d_law_draw).kp⟩ (da_cons (dv 0) (da_cons de_int da_nil)))) (dss_cons (ds_if (DW.dt (dw_or (dt_cmp (dv 2) de_int) (dw_or1 (dt_cmp (dv 3) de_int)))) (dss_one (ds_ret (de_call rfl rfl ⟨T.g_law_leaf, (Classical.choose_spec T.d_law_leaf).kp⟩ (da_cons (dv 0) (da_cons (dv 1) da_nil))))) dss_nil) (dss_cons (dst 4 (de_call rfl rfl ⟨T.g_law_tree, (Classical.choose_spec T.d_law_tree).kp⟩ (da_cons (dv 0) (da_cons (dv 1) (da_cons (de_bin (dv 2) de_int) da_nil))))) (dss_one (ds_ret (de_tup (da_cons (de_ix (de_lstV (da_cons de_str (da_cons de_str (da_cons de_str da_nil)))) (de_bin (de_callT (T := "int") rfl T.f_int (by decide +kernel) (da_cons (dv 3) da_nil)) de_int) (fun _ _ => rfl)) (da_cons (dv 4) (da_cons (de_call rfl rfl ⟨T.g_law_tree, (Classical.choose_spec T.d_law_tree).kp⟩ (da_cons (dv 0) (da_cons (dv 1) (da_cons (de_bin (dv 2) de_int) da_nil)))) da_nil))))))))) ⟨rfl, rfl⟩ ?st ?_
  case st => walk_at "start"
  walk_at "dd"
  refine (ok_draw T h (by decide) (by decide) fun a S1 a1 a2 h1 s1 => ?_).mono (Nat.le_of_ble_eq_true rfl)
  walk_at "dd"
  refine i_neg (by decide) ?_
  walk_at "dd"
  refine i_two (fun c => ?_) fun c => ?_
  · walk_at "dd"
    refine (ok_leafL T h1 hm h0 hz fun t S2 l h2 s2 => ?_).mono (Nat.le_of_ble_eq_true rfl)
    walk_at "dd"
    exact q t _ (.inl l) h2 (s1.trans s2)
  · walk_at "dd"
    refine ok_tree0 T h1 hm h0 hz fun l S2 l2 h2 s2 => ?_
    walk_at "dd"
    have r1 := Int.emod_nonneg a (show (3 : Int) ≠ 0 by decide)
    have r2 := Int.emod_lt_of_pos a (show (0 : Int) < 3 by decide)
    obtain ⟨o, ho⟩ : ∃ o : Wo, L2.atI [D.str "both", D.str "any", D.str "first"] (a % 3) = some (.str o.str) := by
      have h3 : a % 3 = 0 ∨ a % 3 = 1 ∨ a % 3 = 2 := by omega
      rcases h3 with e | e | e <;> rw [e]
      · exact ⟨.both, rfl⟩
      · exact ⟨.any, rfl⟩
      · exact ⟨.first, rfl⟩
    refine s_ixL ls_v ho ?_
    walk_at "dd"
    refine ok_tree0 T h2 hm h0 hz fun r S3 l3 h3 s3 => ?_
    walk_at "dd"
    exact q (.node o l r) _ (.inr ⟨o, l, r, rfl, l2, l3⟩) h3 ((s1.trans s2).trans s3)
def Tr.dep : Tr → Nat
  | .span _ _ => 0
  | .rests _ _ => 0
  | .node _ l r => max l.dep r.dep + 1
def Tr.n : Tr → Nat
  | .span _ _ => 1
  | .rests _ _ => 1
  | .node _ l r => (l.n + 3) * (r.n + 3) + 1
def Tr.Ok (L : Int) : Tr → Prop
  | .span a b => 0 ≤ a ∧ ∀ x, b = some x → 0 ≤ x
  | .rests m rs => 1 ≤ m ∧ m ∣ L ∧ Up m 0 rs ∧ rs.length ≤ 4
  | .node _ l r => l.Ok L ∧ r.Ok L ∧ (l.n + 3) * (r.n + 3) ≤ 8000000
def Tr.has : Tr → Int → Bool
  | .span a b, x => decide (a ≤ x) && (match b with | none => true | some b => decide (x ≤ b))
  | .rests m rs, x => rs.contains (x % m)
  | .node o l r, x => o.fn (l.has x) (r.has x)
theorem ok_has (T : Tx K mg) {L : Int} {x : Int} (hL : 0 < L) (hL2 : L ≤ 5040) : ∀ (t : Tr) {S : Sto} {Ex : XS} {Q : QO}, t.Ok L → Q (.v (.bl (t.has x))) S → sFun (bs P w K mg base) (t.dep + 1) (.ref (He.ga K "_law_has")) [] [t.toD, .int x] [] S Ex Q
  | .span a b, S, Ex, Q, ok, q => by
    refine' call_d (B := bs P w K mg base) 0 (Classical.choose_spec T.d_law_has) sc_law_has rfl (bm_all (ps := ["_law_tree_here", "_law_x"]) (Classical.choose_spec T.d_law_has) (fun _ _ _ _ _ _ us hl => match us, hl with | [_, _], _ => rfl)) (dss_cons (ds_if (dt_cmp (de_ix (dv 0) de_int (fun _ _ => rfl)) de_str) (dss_one (ds_ret (de_and (de_cmp (de_ix (dv 0) de_int (fun _ _ => rfl)) (dv 1)) (de_one (de_or (de_cmp (de_ix (dv 0) de_int (fun _ _ => rfl)) de_non) (de_one (de_cmp (dv 1) (de_ix (dv 0) de_int (fun _ _ => rfl))))))))) dss_nil) (dss_cons (ds_if (dt_cmp (de_ix (dv 0) de_int (fun _ _ => rfl)) de_str) (dss_one (ds_ret (de_cmp (de_bin (de_callT (T := "int") rfl T.f_int (by decide +kernel) (da_cons (dv 1) da_nil)) (de_ix (dv 0) de_int (fun _ _ => rfl))) (de_ix (dv 0) de_int (fun _ _ => rfl))))) dss_nil) (dss_cons (ds_par (i := 2) (j := 3) rfl rfl rfl (by decide) rfl rfl (da_cons (de_call rfl rfl ⟨T.g_law_has, (Classical.choose_spec T.d_law_has).kp⟩ (da_cons (de_ix (dv 0) de_int (fun _ _ => rfl)) (da_cons (dv 1) da_nil))) (da_cons (de_call rfl rfl ⟨T.g_law_has, (Classical.choose_spec T.d_law_has).kp⟩ (da_cons (de_ix (dv 0) de_int (fun _ _ => rfl)) (da_cons (dv 1) da_nil))) da_nil)) (fun env h => by cases env; cases h; rfl)) (dss_cons (ds_if (dt_cmp (de_ix (dv 0) de_int (fun _ _ => rfl)) de_str) (dss_one (ds_ret (de_and (dv 2) (de_one (dv 3))))) dss_nil) (dss_one (ds_ret (de_if (dt_cmp (de_ix (dv 0) de_int (fun _ _ => rfl)) de_str) (de_or (dv 2) (de_one (dv 3))) (de_and (dv 2) (de_one (de_not (dv 3))))))))))) ⟨rfl, rfl⟩ ?st ?_
    case st => walk_at "start"
    rw [show Tr.toD (.span a b) = .tup [.str "span", .int a, optD b] from rfl]
    walk_at "dd"
    refine i_pos rfl ?_
    walk_at "dd"
    have hv : ∀ v, v = (Tr.span a b).has x → Q (.v (.bl v)) S := fun v e => e ▸ q
    cases b with
    | none =>
      rw [show optD none = D.non from rfl]
      refine i_two (fun e => ?_) fun e => ?_
      · walk_at "dd"
        exact hv _ (by simp [Tr.has, e, isNonO])
      · walk_at "dd"
        exact hv _ (by simp [Tr.has, e, isNonO])
    | some b =>
      rw [show optD (some b) = D.int b from rfl]
      refine i_two (fun e => ?_) fun e => ?_
      · walk_at "dd"
        exact hv _ (by simp [Tr.has, e, isNonO])
      · walk_at "dd"
        exact hv _ (by simp [Tr.has, e, isNonO])
  | .rests m rs, S, Ex, Q, ok, q => by
    have m0 : 0 < m := by have := ok.1; omega
    refine' call_d (B := bs P w K mg base) 0 (Classical.choose_spec T.d_law_has) sc_law_has rfl (bm_all (ps := ["_law_tree_here", "_law_x"]) (Classical.choose_spec T.d_law_has) (fun _ _ _ _ _ _ us hl => match us, hl with | [_, _], _ => rfl)) (dss_cons (ds_if (dt_cmp (de_ix (dv 0) de_int (fun _ _ => rfl)) de_str) (dss_one (ds_ret (de_and (de_cmp (de_ix (dv 0) de_int (fun _ _ => rfl)) (dv 1)) (de_one (de_or (de_cmp (de_ix (dv 0) de_int (fun _ _ => rfl)) de_non) (de_one (de_cmp (dv 1) (de_ix (dv 0) de_int (fun _ _ => rfl))))))))) dss_nil) (dss_cons (ds_if (dt_cmp (de_ix (dv 0) de_int (fun _ _ => rfl)) de_str) (dss_one (ds_ret (de_cmp (de_bin (de_callT (T := "int") rfl T.f_int (by decide +kernel) (da_cons (dv 1) da_nil)) (de_ix (dv 0) de_int (fun _ _ => rfl))) (de_ix (dv 0) de_int (fun _ _ => rfl))))) dss_nil) (dss_cons (ds_par (i := 2) (j := 3) rfl rfl rfl (by decide) rfl rfl (da_cons (de_call rfl rfl ⟨T.g_law_has, (Classical.choose_spec T.d_law_has).kp⟩ (da_cons (de_ix (dv 0) de_int (fun _ _ => rfl)) (da_cons (dv 1) da_nil))) (da_cons (de_call rfl rfl ⟨T.g_law_has, (Classical.choose_spec T.d_law_has).kp⟩ (da_cons (de_ix (dv 0) de_int (fun _ _ => rfl)) (da_cons (dv 1) da_nil))) da_nil)) (fun env h => by cases env; cases h; rfl)) (dss_cons (ds_if (dt_cmp (de_ix (dv 0) de_int (fun _ _ => rfl)) de_str) (dss_one (ds_ret (de_and (dv 2) (de_one (dv 3))))) dss_nil) (dss_one (ds_ret (de_if (dt_cmp (de_ix (dv 0) de_int (fun _ _ => rfl)) de_str) (de_or (dv 2) (de_one (dv 3))) (de_and (dv 2) (de_one (de_not (dv 3))))))))))) ⟨rfl, rfl⟩ ?st ?_
    case st => walk_at "start"
    rw [show Tr.toD (.rests m rs) = .tup [.str "rests", .int m, .lst (rs.map .int)] from rfl]
    walk_at "dd"
    refine i_neg (by decide) ?_
    walk_at "dd"
    refine i_pos rfl ?_
    walk_at "dd"
    refine s_inZ ?_
    walk_at "dd"
    exact q
  | .node o l r, S, Ex, Q, ok, q => by
    refine' call_d (B := bs P w K mg base) (max l.dep r.dep + 1) (Classical.choose_spec T.d_law_has) sc_law_has rfl (bm_all (ps := ["_law_tree_here", "_law_x"]) (Classical.choose_spec T.d_law_has) (fun _ _ _ _ _ _ us hl => match us, hl with | [_, _], _ => rfl)) (dss_cons (ds_if (dt_cmp (de_ix (dv 0) de_int (fun _ _ => rfl)) de_str) (dss_one (ds_ret (de_and (de_cmp (de_ix (dv 0) de_int (fun _ _ => rfl)) (dv 1)) (de_one (de_or (de_cmp (de_ix (dv 0) de_int (fun _ _ => rfl)) de_non) (de_one (de_cmp (dv 1) (de_ix (dv 0) de_int (fun _ _ => rfl))))))))) dss_nil) (dss_cons (ds_if (dt_cmp (de_ix (dv 0) de_int (fun _ _ => rfl)) de_str) (dss_one (ds_ret (de_cmp (de_bin (de_callT (T := "int") rfl T.f_int (by decide +kernel) (da_cons (dv 1) da_nil)) (de_ix (dv 0) de_int (fun _ _ => rfl))) (de_ix (dv 0) de_int (fun _ _ => rfl))))) dss_nil) (dss_cons (ds_par (i := 2) (j := 3) rfl rfl rfl (by decide) rfl rfl (da_cons (de_call rfl rfl ⟨T.g_law_has, (Classical.choose_spec T.d_law_has).kp⟩ (da_cons (de_ix (dv 0) de_int (fun _ _ => rfl)) (da_cons (dv 1) da_nil))) (da_cons (de_call rfl rfl ⟨T.g_law_has, (Classical.choose_spec T.d_law_has).kp⟩ (da_cons (de_ix (dv 0) de_int (fun _ _ => rfl)) (da_cons (dv 1) da_nil))) da_nil)) (fun env h => by cases env; cases h; rfl)) (dss_cons (ds_if (dt_cmp (de_ix (dv 0) de_int (fun _ _ => rfl)) de_str) (dss_one (ds_ret (de_and (dv 2) (de_one (dv 3))))) dss_nil) (dss_one (ds_ret (de_if (dt_cmp (de_ix (dv 0) de_int (fun _ _ => rfl)) de_str) (de_or (dv 2) (de_one (dv 3))) (de_and (dv 2) (de_one (de_not (dv 3))))))))))) ⟨rfl, rfl⟩ ?st ?_
    case st => walk_at "start"
    rw [show Tr.toD (.node o l r) = .tup [.str o.str, l.toD, r.toD] from rfl]
    walk_at "dd"
    refine i_neg (by cases o <;> decide) ?_
    walk_at "dd"
    refine i_neg (by cases o <;> decide) ?_
    walk_at "dd"
    refine (ok_has T hL hL2 l ok.1 ?_).mono (Nat.succ_le_succ (Nat.le_max_left _ _))
    walk_at "dd"
    refine (ok_has T hL hL2 r ok.2.1 ?_).mono (Nat.succ_le_succ (Nat.le_max_right _ _))
    walk_at "dd"
    have hv : ∀ v, v = (Tr.node o l r).has x → Q (.v (.bl v)) S := fun v e => e ▸ q
    cases o with
    | both =>
      refine i_pos rfl ?_
      walk_at "dd"
      refine b_two (fun e => ?_) fun e => ?_
      · walk_at "dd"
        exact hv _ (by simp [Tr.has, Wo.fn, e])
      · walk_at "dd"
        exact hv _ (by simp [Tr.has, Wo.fn, e])
    | any =>
      refine i_neg (by decide) ?_
      walk_at "dd"
      refine i_pos rfl ?_
      walk_at "dd"
      refine b_two (fun e => ?_) fun e => ?_
      · walk_at "dd"
        exact hv _ (by simp [Tr.has, Wo.fn, e])
      · walk_at "dd"
        exact hv _ (by simp [Tr.has, Wo.fn, e])
    | first =>
      refine i_neg (by decide) ?_
      walk_at "dd"
      refine i_neg (by decide) ?_
      walk_at "dd"
      refine b_two (fun e => ?_) fun e => ?_
      · walk_at "dd"
        exact hv _ (by simp [Tr.has, Wo.fn, e])
      · walk_at "dd"
        exact hv _ (by simp [Tr.has, Wo.fn, e])
end Toy

set_option Elab.async false
set_option linter.all false
set_option maxRecDepth 100000
set_option maxHeartbeats 4000000
namespace Toy
open PySem PySem.Spec PyProof.Rows L2 My Dt SX
local macro_rules | `(tactic| walk_at "rg") => `(tactic| first
  | omega
  | ((refine And.intro ?_ (And.intro ?_ (And.intro ?_ ?_))) <;> omega))
local macro_rules | `(tactic| walk_at "ls") => `(tactic| first
  | with_reducible exact ls_v
  | with_reducible exact ls_b
  | ((with_reducible refine' ls_p ?hlp); (case hlp => with_reducible assumption)))
local macro_rules | `(tactic| walk_at "start") => `(tactic| ((simp only [startM, startS, List.map_cons, List.map_nil, List.length_cons, List.length_nil, List.cons_append, List.nil_append, Nat.reduceAdd, Nat.reduceSub, List.replicate_succ, List.replicate_zero]); exact rfl))
local macro_rules | `(tactic| walk_at "set") => `(tactic| first
  | ((dsimp only [Int.reduceToNat, List.set_cons_zero, List.set_cons_succ]); done)
  | ((dsimp only [Int.reduceToNat, List.set_cons_zero, List.set_cons_succ]); exact rfl)
  | exact rfl)
local macro_rules | `(tactic| walk_at "sz") => `(tactic| first
  | exact sz_of (Nat.le_of_ble_eq_true rfl)
  | (apply sz_of; simp only [List.length_cons, List.length_nil, List.length_append, List.length_map]; omega))
local macro_rules | `(tactic| walk_at "side") => `(tactic| first
  | with_reducible assumption
  | omega
  | exact ml (by omega) (by omega)
  | exact mr (by omega) (by omega)
  | exact dv (by omega) (by omega)
  | exact Bd.mulOk (by with_reducible assumption) (by with_reducible assumption) (by decide) (by decide) (by decide)
  | exact Bd.div (by with_reducible assumption) (by omega) (by decide) (by decide)
  | (show (0 : Int) < _; omega)
  | exact ⟨by decide, by decide, by decide⟩
  | decide
  | exact rfl)
local macro_rules | `(tactic| walk_at "st") => `(tactic| first
  | with_reducible refine q_seq ?_
  | with_reducible refine q_end ?_
  | with_reducible refine q_nil ?_
  | with_reducible refine q_asg ?_
  | with_reducible refine q_ret ?_
  | with_reducible refine q_if ?_
  | with_reducible refine q_expr ?_
  | with_reducible refine q_retN ?_
  | with_reducible refine q_sub ?_
  | with_reducible refine q_for ?_
  | with_reducible refine q_par ?_
  | with_reducible refine q_par3 ?_
  | with_reducible refine q_asgF ?_
  | with_reducible refine q_asgC ?_
  | ((with_reducible refine' q_frz ?ef ?_); (case ef => exact rfl))
  | ((with_reducible refine' q_app ?ea ?eb ?_); (case ea => exact rfl); (case eb => walk_at "slen"))
  | with_reducible refine q_brk ?_
  | with_reducible refine q_cnt ?_
  | with_reducible refine q_fldS ?_
  | with_reducible refine q_fldP ?_
  | with_reducible refine q_raise ?_
  | with_reducible refine q_try ?_)
local macro_rules | `(tactic| walk_at "slen") => `(tactic| first
  | with_reducible assumption
  | ((rw [sizeLine_eq]); (simp only [List.length_cons, List.length_nil, List.length_append, List.length_map]); omega))
local macro_rules | `(tactic| walk_at "sm") => `(tactic| first
  | with_reducible refine s_add ?_
  | with_reducible refine s_sub ?_
  | ((with_reducible refine' s_mul ?hm ?_); (case hm => walk_at "side"))
  | ((with_reducible refine' s_fdiv ?hm ?_); (case hm => walk_at "side"))
  | ((with_reducible refine' s_mod ?hm ?_); (case hm => walk_at "side"))
  | with_reducible refine s_neg ?_
  | ((with_reducible refine' s_pow ?hm ?_); (case hm => walk_at "side"))
  | ((with_reducible refine' s_ixL ?hl ?he ?_); (case hl => walk_at "ls"); (case he => exact rfl))
  | ((with_reducible refine' s_ixT ?he ?_); (case he => exact rfl))
  | ((with_reducible refine' set_L2 ?ha ?hb ?hc ?_); (case ha => with_reducible assumption); (case hb => exact rfl); (case hc => walk_at "set"))
  | with_reducible refine s_addB ?_
  | with_reducible refine s_lt ?_
  | with_reducible refine s_le ?_
  | with_reducible refine s_gt ?_
  | with_reducible refine s_ge ?_
  | with_reducible refine s_eq ?_
  | with_reducible refine s_ne ?_
  | with_reducible refine s_eqS ?_
  | with_reducible refine s_neS ?_
  | with_reducible refine s_isN ?_
  | with_reducible refine s_isNotN ?_
  | with_reducible refine t_bl ?_)
local macro_rules | `(tactic| walk_at "cl") => `(tactic| first
  | with_reducible refine c_int ?_
  | with_reducible refine c_intB ?_
  | with_reducible refine c_abs ?_
  | ((with_reducible refine' c_max ?hm ?_); (case hm => exact rfl))
  | ((with_reducible refine' c_min ?hm ?_); (case hm => exact rfl))
  | ((with_reducible refine' c_divmod ?hm ?_); (case hm => walk_at "side"))
  | ((with_reducible refine' c_len ?hm ?_); (case hm => walk_at "sq"))
  | ((with_reducible refine' c_list ?hm ?_); (case hm => walk_at "sq"))
  | ((with_reducible refine' c_tuple ?hm ?_); (case hm => walk_at "sq")))
local macro_rules | `(tactic| walk_at "sq") => `(tactic| first
  | exact sqL
  | exact sqT
  | exact sqB
  | exact sqP (by with_reducible assumption))
local macro_rules | `(tactic| walk_at "v") => `(tactic| first
  | ((with_reducible refine' v_sh ?ev ?_); (case ev => exact rfl))
  | ((with_reducible refine' v_ol ?ev ?_); (case ev => exact rfl))
  | ((with_reducible refine' v_slf ?ev ?_); (case ev => exact rfl))
  | with_reducible refine q_val ?_
  | ((with_reducible refine' q_walk ?ew ?_); (case ew => exact rfl))
  | ((with_reducible refine' q_rng1 ?ej ?ek ?_); (case ej => walk_at "rg"); (case ek => walk_at "rg"))
  | ((with_reducible refine' q_rng2 ?ej ?_); (case ej => walk_at "rg"))
  | with_reducible refine q_rngL ?_
  | with_reducible refine q_solc ?_
  | with_reducible refine q_sol0 ?_
  | ((with_reducible refine' q_gname ?eg ?_); (case eg => walk_at "set"))
  | ((with_reducible refine' n_set ?eg ?_); (case eg => walk_at "set"))
  | ((with_reducible refine' n_set2 ?eg ?_); (case eg => walk_at "set"))
  | ((with_reducible refine' n_set3 ?eg ?_); (case eg => walk_at "set"))
  | with_reducible refine q_two ?_
  | with_reducible refine q_three ?_
  | with_reducible refine q_bl ?_
  | with_reducible refine q_oint ?_
  | ((with_reducible refine' q_gtup ?el ?_); (case el => exact rfl))
  | with_reducible refine q_gcons ?_
  | with_reducible refine q_gnil ?_
  | with_reducible refine i_t ?_
  | with_reducible refine i_f ?_
  | with_reducible refine i_nt ?_
  | with_reducible refine i_nf ?_
  | ((with_reducible refine' n_t ?en ?_); (case en => exact rfl))
  | ((with_reducible refine' n_f ?en ?_); (case en => exact rfl))
  | ((with_reducible refine' nn_t ?en ?_); (case en => exact rfl))
  | ((with_reducible refine' nn_f ?en ?_); (case en => exact rfl))
  | with_reducible refine And.intro (by walk_at "sz") ?_)
local macro_rules | `(tactic| walk_at "d") => `(tactic| first
  | walk_at "v"
  | walk_at "st"
  | walk_at "sm"
  | walk_at "cl"
  | walk_at "at")
local macro_rules | `(tactic| walk_at "dd") => `(tactic| repeat walk_at "d")

variable {P : Program} {w : World} {K : PySem.W.Frag} {mg : Str → Option Value} {base : Heap} {S : Sto} {Ex : XS} {Q : QO}
theorem ok_lcommon (T : Tx K mg) {a b : Int} (ha : 0 < a) (ha2 : a ≤ 5040) (hb : 0 < b) (hb2 : b ≤ 5040) (q : Q (.v (.int (lc a b))) S) : sFun (bs P w K mg base) 1 (.ref (He.ga K "_law_common")) [] [.int a, .int b] [] S Ex Q := by
  refine' call_d (B := bs P w K mg base) 0 (Classical.choose_spec T.d_law_common) sc_law_common rfl (bm_all (ps := ["_law_one", "_law_two"]) (Classical.choose_spec T.d_law_common) (fun _ _ _ _ _ _ us hl => match us, hl with | [_, _], _ => rfl)) (dss_cons (ds_par (i := 2) (j := 3) rfl rfl rfl (by decide) rfl rfl (da_cons (dv 0) (da_cons (dv 1) da_nil)) (fun env h => by cases env; cases h; rfl)) (dss_cons (ds_while rfl (dt_cmp (dv 3) de_int) (dss_one (ds_par (i := 2) (j := 3) rfl rfl rfl (by decide) rfl rfl (da_cons (dv 3) (da_cons (de_bin (de_callT (T := "int") rfl T.f_int (by decide +kernel) (da_cons (dv 2) da_nil)) (dv 3)) da_nil)) (fun env h => by cases env; cases h; rfl)))) (dss_one (ds_ret (de_bin (de_bin (dv 0) (dv 2)) (dv 1)))))) ⟨rfl, rfl⟩ ?st ?_
  case st => walk_at "start"
  walk_at "dd"
  have h1 : 0 < Int.gcd a b := Int.gcd_pos_of_ne_zero_left _ (by omega)
  have h2 : (Int.gcd a b : Int) ≤ a := Int.le_of_dvd ha (Int.gcd_dvd_left ..)
  refine ⟨fun m ρ S' => S' = S ∧ ∃ g s : Int, ρ = [.sh (.int a), .sh (.int b), .sh (.int g), .sh (.int s)] ∧ 0 < g ∧ 0 ≤ s ∧ m = s.toNat ∧ Int.gcd g s = Int.gcd a b, ⟨b.toNat, rfl, a, b, rfl, ha, by omega, rfl, rfl⟩, ?_⟩
  rintro m ρ S' ⟨rfl, g, s, rfl, hg, hs, rfl, e⟩
  walk_at "dd"
  refine i_two (fun h => ?_) fun h => ?_
  · walk_at "dd"
    have h1 := Int.emod_nonneg g (show s ≠ 0 by omega)
    have h2 := Int.emod_lt_of_pos g h
    exact ⟨(g % s).toNat, by omega, rfl, s, g % s, rfl, h, h1, rfl, (gcd_step g s hg h).trans e⟩
  · obtain rfl : s = 0 := by omega
    have e2 : Int.gcd g 0 = g.natAbs := Int.gcd_zero_right g
    rw [e2] at e
    have e3 : ((Int.gcd a b : Nat) : Int) = g := by omega
    have q : Q (.v (.int (a / g * b))) S' := by rw [← e3]; exact q
    walk_at "dd"
    exact q
def Tr.mod : Tr → Int
  | .span _ _ => 1
  | .rests m _ => m
  | .node _ l r => lc l.mod r.mod
def Tr.cuts : Tr → List Int
  | .span a none => [a]
  | .span a (some b) => [a, b + 1]
  | .rests _ _ => []
  | .node _ l r => l.cuts ++ r.cuts
theorem Tr.mod_ok {L : Int} (hL : 0 < L) : ∀ {t : Tr}, t.Ok L → 0 < t.mod ∧ t.mod ∣ L ∧ t.mod ≤ L
  | .span _ _, _ => ⟨by show (0 : Int) < 1; decide, ⟨L, by rw [show Tr.mod (.span _ _) = 1 from rfl]; omega⟩, by show (1 : Int) ≤ L; omega⟩
  | .rests m _, ok => ⟨by have := ok.1; show 0 < m; omega, ok.2.1, Int.le_of_dvd hL ok.2.1⟩
  | .node _ l r, ok => by
    have a := Tr.mod_ok hL ok.1
    have b := Tr.mod_ok hL ok.2.1
    have c := lc_facts a.1 b.1 hL a.2.1 b.2.1
    exact ⟨c.1, c.2.1, c.2.2.1⟩
theorem ok_modulus (T : Tx K mg) {L : Int} (hL : 0 < L) (hL2 : L ≤ 5040) : ∀ (t : Tr) {S : Sto} {Ex : XS} {Q : QO}, t.Ok L → Q (.v (.int t.mod)) S → sFun (bs P w K mg base) (t.dep + 2) (.ref (He.ga K "_law_modulus")) [] [t.toD] [] S Ex Q
  | .span a b, S, Ex, Q, ok, q => by
    refine' call_d (B := bs P w K mg base) 1 (Classical.choose_spec T.d_law_modulus) sc_law_modulus rfl (bm_all (ps := ["_law_tree_here"]) (Classical.choose_spec T.d_law_modulus) (fun _ _ _ _ _ _ us hl => match us, hl with | [_], _ => rfl)) (dss_cons (ds_if (dt_cmp (de_ix (dv 0) de_int (fun _ _ => rfl)) (de_lstV (da_cons de_str (da_cons de_str da_nil)))) (dss_one (ds_ret (de_if (dt_cmp (de_ix (dv 0) de_int (fun _ _ => rfl)) de_str) de_int (de_ix (dv 0) de_int (fun _ _ => rfl))))) dss_nil) (dss_one (ds_ret (de_call rfl rfl ⟨T.g_law_common, (Classical.choose_spec T.d_law_common).kp⟩ (da_cons (de_call rfl rfl ⟨T.g_law_modulus, (Classical.choose_spec T.d_law_modulus).kp⟩ (da_cons (de_ix (dv 0) de_int (fun _ _ => rfl)) da_nil)) (da_cons (de_call rfl rfl ⟨T.g_law_modulus, (Classical.choose_spec T.d_law_modulus).kp⟩ (da_cons (de_ix (dv 0) de_int (fun _ _ => rfl)) da_nil)) da_nil)))))) ⟨rfl, rfl⟩ ?st ?_
    case st => walk_at "start"
    rw [show Tr.toD (.span a b) = .tup [.str "span", .int a, optD b] from rfl]
    walk_at "dd"
    refine s_inD (pdV (p := .str "span") rfl) (pdV (p := .list [.str "span", .str "rests"]) rfl) (by decide +kernel) (by decide +kernel) ?_
    rw [show (List.any [PyData.str "span", .str "rests"] fun z => PyData.eqv z (.str "span")) = true by decide +kernel]
    walk_at "dd"
    refine i_pos rfl ?_
    walk_at "dd"
    exact q
  | .rests m rs, S, Ex, Q, ok, q => by
    refine' call_d (B := bs P w K mg base) 1 (Classical.choose_spec T.d_law_modulus) sc_law_modulus rfl (bm_all (ps := ["_law_tree_here"]) (Classical.choose_spec T.d_law_modulus) (fun _ _ _ _ _ _ us hl => match us, hl with | [_], _ => rfl)) (dss_cons (ds_if (dt_cmp (de_ix (dv 0) de_int (fun _ _ => rfl)) (de_lstV (da_cons de_str (da_cons de_str da_nil)))) (dss_one (ds_ret (de_if (dt_cmp (de_ix (dv 0) de_int (fun _ _ => rfl)) de_str) de_int (de_ix (dv 0) de_int (fun _ _ => rfl))))) dss_nil) (dss_one (ds_ret (de_call rfl rfl ⟨T.g_law_common, (Classical.choose_spec T.d_law_common).kp⟩ (da_cons (de_call rfl rfl ⟨T.g_law_modulus, (Classical.choose_spec T.d_law_modulus).kp⟩ (da_cons (de_ix (dv 0) de_int (fun _ _ => rfl)) da_nil)) (da_cons (de_call rfl rfl ⟨T.g_law_modulus, (Classical.choose_spec T.d_law_modulus).kp⟩ (da_cons (de_ix (dv 0) de_int (fun _ _ => rfl)) da_nil)) da_nil)))))) ⟨rfl, rfl⟩ ?st ?_
    case st => walk_at "start"
    rw [show Tr.toD (.rests m rs) = .tup [.str "rests", .int m, .lst (rs.map .int)] from rfl]
    walk_at "dd"
    refine s_inD (pdV (p := .str "rests") rfl) (pdV (p := .list [.str "span", .str "rests"]) rfl) (by decide +kernel) (by decide +kernel) ?_
    rw [show (List.any [PyData.str "span", .str "rests"] fun z => PyData.eqv z (.str "rests")) = true by decide +kernel]
    walk_at "dd"
    refine i_neg (by decide) ?_
    walk_at "dd"
    exact q
  | .node o l r, S, Ex, Q, ok, q => by
    have a := Tr.mod_ok hL ok.1
    have b := Tr.mod_ok hL ok.2.1
    refine' call_d (B := bs P w K mg base) (max l.dep r.dep + 2) (Classical.choose_spec T.d_law_modulus) sc_law_modulus rfl (bm_all (ps := ["_law_tree_here"]) (Classical.choose_spec T.d_law_modulus) (fun _ _ _ _ _ _ us hl => match us, hl with | [_], _ => rfl)) (dss_cons (ds_if (dt_cmp (de_ix (dv 0) de_int (fun _ _ => rfl)) (de_lstV (da_cons de_str (da_cons de_str da_nil)))) (dss_one (ds_ret (de_if (dt_cmp (de_ix (dv 0) de_int (fun _ _ => rfl)) de_str) de_int (de_ix (dv 0) de_int (fun _ _ => rfl))))) dss_nil) (dss_one (ds_ret (de_call rfl rfl ⟨T.g_law_common, (Classical.choose_spec T.d_law_common).kp⟩ (da_cons (de_call rfl rfl ⟨T.g_law_modulus, (Classical.choose_spec T.d_law_modulus).kp⟩ (da_cons (de_ix (dv 0) de_int (fun _ _ => rfl)) da_nil)) (da_cons (de_call rfl rfl ⟨T.g_law_modulus, (Classical.choose_spec T.d_law_modulus).kp⟩ (da_cons (de_ix (dv 0) de_int (fun _ _ => rfl)) da_nil)) da_nil)))))) ⟨rfl, rfl⟩ ?st ?_
    case st => walk_at "start"
    rw [show Tr.toD (.node o l r) = .tup [.str o.str, l.toD, r.toD] from rfl]
    walk_at "dd"
    refine s_inD (pdV (p := .str o.str) rfl) (pdV (p := .list [.str "span", .str "rests"]) rfl) (by cases o <;> decide +kernel) (by decide +kernel) ?_
    rw [show (List.any [PyData.str "span", .str "rests"] fun z => PyData.eqv z (.str o.str)) = false by cases o <;> decide +kernel]
    walk_at "dd"
    refine (ok_modulus T hL hL2 l ok.1 ?_).mono (Nat.add_le_add_right (Nat.le_max_left _ _) 2)
    walk_at "dd"
    refine (ok_modulus T hL hL2 r ok.2.1 ?_).mono (Nat.add_le_add_right (Nat.le_max_right _ _) 2)
    walk_at "dd"
    refine (ok_lcommon T a.1 (by omega) b.1 (by omega) ?_).mono (Nat.succ_le_succ (Nat.zero_le _))
    walk_at "dd"
    exact q
theorem cuts_len : ∀ t : Tr, t.cuts.length ≤ 2 * t.n
  | .span _ none => by show 1 ≤ 2; decide
  | .span _ (some _) => by show 2 ≤ 2; decide
  | .rests _ _ => by show 0 ≤ 2; decide
  | .node _ l r => by
    have a := cuts_len l
    have b := cuts_len r
    have c : (l.n + 3) * 3 ≤ (l.n + 3) * (r.n + 3) := Nat.mul_le_mul_left _ (by omega)
    have d : 3 * (r.n + 3) ≤ (l.n + 3) * (r.n + 3) := Nat.mul_le_mul_right _ (by omega)
    show (l.cuts ++ r.cuts).length ≤ 2 * ((l.n + 3) * (r.n + 3) + 1)
    rw [List.length_append]
    omega
end Toy

set_option Elab.async false
set_option linter.all false
set_option maxRecDepth 100000
set_option maxHeartbeats 4000000
namespace Toy
open PySem PySem.Spec PyProof.Rows L2 My Dt SX
theorem span_ok {a : Int} {b : Option Int} (ha : 0 ≤ a) : SetR 1 [one a b] 1 (Tr.has (.span a b)) := by
  have ln : (one a b).length ≤ 1 := by
    cases b with
    | none => exact Nat.le_refl _
    | some b => rw [one_def]; split <;> simp
  refine ⟨by decide, by decide, rfl, fun r hr => ?_, fun r hr => ?_, fun i r hr q hq => ?_, fun x hx r hr => ?_, fun i r hr q hq h e => ?_⟩
  · obtain rfl := List.mem_singleton.mp hr
    cases b with
    | none => exact ⟨ha, rfl⟩
    | some b =>
      rw [one_def]
      split
      · rename_i h
        exact ⟨ha, h, trivial⟩
      · trivial
  · obtain rfl := List.mem_singleton.mp hr
    exact ln
  · have hi := (List.getElem?_eq_some_iff.mp hr).1
    simp only [List.length_cons, List.length_nil] at hi
    omega
  · have e : (x % 1).toNat = 0 := by omega
    rw [e] at hr
    obtain rfl := Option.some.inj hr
    cases b with
    | none =>
      rw [one_none]
      simp [Tr.has]
    | some b =>
      rw [one_some]
      simp [Tr.has]
  · have hi := (List.getElem?_eq_some_iff.mp hr).1
    simp only [List.length_cons, List.length_nil] at hi
    obtain rfl : i = 0 := by omega
    obtain rfl := Option.some.inj hr
    refine ⟨Int.emod_one h, fun k => ?_⟩
    cases b with
    | none =>
      obtain rfl := List.mem_singleton.mp hq
      cases e
    | some b =>
      have := one_end hq
      rw [e] at this
      cases this
      have := (one_some.mp k).2
      omega
theorem rests_ok {m : Int} {rs : List Int} (h1 : 1 ≤ m) (h2 : m ≤ 5040) : SetR m (restRows m rs) 1 (Tr.has (.rests m rs)) := by
  have at' : ∀ (i : Nat) r, (restRows m rs)[i]? = some r → (i : Int) < m ∧ r = restRow rs i := fun i r h => by
    have hi := (List.getElem?_eq_some_iff.mp h).1
    unfold restRows at h hi
    rw [List.length_map, List.length_range] at hi
    rw [List.getElem?_map, List.getElem?_range hi] at h
    have : restRow rs (0 + (i : Nat) : Int) = r := Option.some.inj h
    rw [Int.zero_add] at this
    exact ⟨by omega, this.symm⟩
  refine ⟨by omega, h2, ?_, fun r hr => ?_, fun r hr => ?_, fun i r hr q hq => ?_, fun x hx r hr => ?_, fun i r hr q hq h e => ?_⟩
  · unfold restRows
    rw [List.length_map, List.length_range]
    omega
  · obtain ⟨i, hi⟩ := List.getElem?_of_mem hr
    obtain ⟨l, rfl⟩ := at' i r hi
    unfold restRow
    split
    · exact ⟨by omega, rfl⟩
    · trivial
  · obtain ⟨i, hi⟩ := List.getElem?_of_mem hr
    obtain ⟨l, rfl⟩ := at' i r hi
    unfold restRow
    split <;> simp
  · obtain ⟨l, rfl⟩ := at' i r hr
    unfold restRow at hq
    split at hq
    · obtain rfl := List.mem_singleton.mp hq
      exact Int.emod_eq_of_lt (by show (0 : Int) ≤ (i : Int); omega) l
    · cases hq
  · have e1 := Int.emod_nonneg x (show m ≠ 0 by omega)
    obtain ⟨l, rfl⟩ := at' _ r hr
    rw [Int.toNat_of_nonneg e1]
    show rs.contains (x % m) = true ↔ _
    unfold restRow
    have le : x % m ≤ x := by
      have h3 := Int.emod_add_mul_ediv x m
      have h4 := Int.ediv_nonneg hx (show 0 ≤ m by omega)
      have h5 := Int.mul_nonneg (show 0 ≤ m by omega) h4
      omega
    by_cases c : rs.contains (x % m) = true
    · rw [if_pos c]
      exact ⟨fun _ => one_none.mpr le, fun _ => c⟩
    · rw [if_neg c]
      exact ⟨fun h => absurd h c, fun h => (mem_nil h).elim⟩
  · obtain ⟨l, rfl⟩ := at' i r hr
    unfold restRow at hq
    split at hq
    · obtain rfl := List.mem_singleton.mp hq
      cases e
    · cases hq
end Toy

set_option Elab.async false
set_option linter.all false
set_option maxRecDepth 100000
set_option maxHeartbeats 4000000
namespace Toy
open PySem PySem.Spec PyProof.Rows L2 My Dt SX
local macro_rules | `(tactic| walk_at "rg") => `(tactic| first
  | omega
  | ((refine And.intro ?_ (And.intro ?_ (And.intro ?_ ?_))) <;> omega))
local macro_rules | `(tactic| walk_at "ls") => `(tactic| first
  | with_reducible exact ls_v
  | with_reducible exact ls_b
  | ((with_reducible refine' ls_p ?hlp); (case hlp => with_reducible assumption)))
local macro_rules | `(tactic| walk_at "start") => `(tactic| ((simp only [startM, startS, List.map_cons, List.map_nil, List.length_cons, List.length_nil, List.cons_append, List.nil_append, Nat.reduceAdd, Nat.reduceSub, List.replicate_succ, List.replicate_zero]); exact rfl))
local macro_rules | `(tactic| walk_at "set") => `(tactic| first
  | ((dsimp only [Int.reduceToNat, List.set_cons_zero, List.set_cons_succ]); done)
  | ((dsimp only [Int.reduceToNat, List.set_cons_zero, List.set_cons_succ]); exact rfl)
  | exact rfl)
local macro_rules | `(tactic| walk_at "sz") => `(tactic| first
  | exact sz_of (Nat.le_of_ble_eq_true rfl)
  | (apply sz_of; simp only [List.length_cons, List.length_nil, List.length_append, List.length_map]; omega))
local macro_rules | `(tactic| walk_at "side") => `(tactic| first
  | with_reducible assumption
  | omega
  | exact ml (by omega) (by omega)
  | exact mr (by omega) (by omega)
  | exact dv (by omega) (by omega)
  | exact Bd.mulOk (by with_reducible assumption) (by with_reducible assumption) (by decide) (by decide) (by decide)
  | exact Bd.div (by with_reducible assumption) (by omega) (by decide) (by decide)
  | (show (0 : Int) < _; omega)
  | exact ⟨by decide, by decide, by decide⟩
  | decide
  | exact rfl)
local macro_rules | `(tactic| walk_at "st") => `(tactic| first
  | with_reducible refine q_seq ?_
  | with_reducible refine q_end ?_
  | with_reducible refine q_nil ?_
  | with_reducible refine q_asg ?_
  | with_reducible refine q_ret ?_
  | with_reducible refine q_if ?_
  | with_reducible refine q_expr ?_
  | with_reducible refine q_retN ?_
  | with_reducible refine q_sub ?_
  | with_reducible refine q_for ?_
  | with_reducible refine q_par ?_
  | with_reducible refine q_par3 ?_
  | with_reducible refine q_asgF ?_
  | with_reducible refine q_asgC ?_
  | ((with_reducible refine' q_frz ?ef ?_); (case ef => exact rfl))
  | ((with_reducible refine' q_app ?ea ?eb ?_); (case ea => exact rfl); (case eb => walk_at "slen"))
  | with_reducible refine q_brk ?_
  | with_reducible refine q_cnt ?_
  | with_reducible refine q_fldS ?_
  | with_reducible refine q_fldP ?_
  | with_reducible refine q_raise ?_
  | with_reducible refine q_try ?_)
local macro_rules | `(tactic| walk_at "slen") => `(tactic| first
  | with_reducible assumption
  | ((rw [sizeLine_eq]); (simp only [List.length_cons, List.length_nil, List.length_append, List.length_map]); omega))
local macro_rules | `(tactic| walk_at "sm") => `(tactic| first
  | with_reducible refine s_add ?_
  | with_reducible refine s_sub ?_
  | ((with_reducible refine' s_mul ?hm ?_); (case hm => walk_at "side"))
  | ((with_reducible refine' s_fdiv ?hm ?_); (case hm => walk_at "side"))
  | ((with_reducible refine' s_mod ?hm ?_); (case hm => walk_at "side"))
  | with_reducible refine s_neg ?_
  | ((with_reducible refine' s_pow ?hm ?_); (case hm => walk_at "side"))
  | ((with_reducible refine' s_ixL ?hl ?he ?_); (case hl => walk_at "ls"); (case he => exact rfl))
  | ((with_reducible refine' s_ixT ?he ?_); (case he => exact rfl))
  | ((with_reducible refine' set_L2 ?ha ?hb ?hc ?_); (case ha => with_reducible assumption); (case hb => exact rfl); (case hc => walk_at "set"))
  | with_reducible refine s_addB ?_
  | with_reducible refine s_lt ?_
  | with_reducible refine s_le ?_
  | with_reducible refine s_gt ?_
  | with_reducible refine s_ge ?_
  | with_reducible refine s_eq ?_
  | with_reducible refine s_ne ?_
  | with_reducible refine s_eqS ?_
  | with_reducible refine s_neS ?_
  | with_reducible refine s_isN ?_
  | with_reducible refine s_isNotN ?_
  | with_reducible refine t_bl ?_)
local macro_rules | `(tactic| walk_at "cl") => `(tactic| first
  | with_reducible refine c_int ?_
  | with_reducible refine c_intB ?_
  | with_reducible refine c_abs ?_
  | ((with_reducible refine' c_max ?hm ?_); (case hm => exact rfl))
  | ((with_reducible refine' c_min ?hm ?_); (case hm => exact rfl))
  | ((with_reducible refine' c_divmod ?hm ?_); (case hm => walk_at "side"))
  | ((with_reducible refine' c_len ?hm ?_); (case hm => walk_at "sq"))
  | ((with_reducible refine' c_list ?hm ?_); (case hm => walk_at "sq"))
  | ((with_reducible refine' c_tuple ?hm ?_); (case hm => walk_at "sq")))
local macro_rules | `(tactic| walk_at "sq") => `(tactic| first
  | exact sqL
  | exact sqT
  | exact sqB
  | exact sqP (by with_reducible assumption))
local macro_rules | `(tactic| walk_at "v") => `(tactic| first
  | ((with_reducible refine' v_sh ?ev ?_); (case ev => exact rfl))
  | ((with_reducible refine' v_ol ?ev ?_); (case ev => exact rfl))
  | ((with_reducible refine' v_slf ?ev ?_); (case ev => exact rfl))
  | with_reducible refine q_val ?_
  | ((with_reducible refine' q_walk ?ew ?_); (case ew => exact rfl))
  | ((with_reducible refine' q_rng1 ?ej ?ek ?_); (case ej => walk_at "rg"); (case ek => walk_at "rg"))
  | ((with_reducible refine' q_rng2 ?ej ?_); (case ej => walk_at "rg"))
  | with_reducible refine q_rngL ?_
  | with_reducible refine q_solc ?_
  | with_reducible refine q_sol0 ?_
  | ((with_reducible refine' q_gname ?eg ?_); (case eg => walk_at "set"))
  | ((with_reducible refine' n_set ?eg ?_); (case eg => walk_at "set"))
  | ((with_reducible refine' n_set2 ?eg ?_); (case eg => walk_at "set"))
  | ((with_reducible refine' n_set3 ?eg ?_); (case eg => walk_at "set"))
  | with_reducible refine q_two ?_
  | with_reducible refine q_three ?_
  | with_reducible refine q_bl ?_
  | with_reducible refine q_oint ?_
  | ((with_reducible refine' q_gtup ?el ?_); (case el => exact rfl))
  | with_reducible refine q_gcons ?_
  | with_reducible refine q_gnil ?_
  | with_reducible refine i_t ?_
  | with_reducible refine i_f ?_
  | with_reducible refine i_nt ?_
  | with_reducible refine i_nf ?_
  | ((with_reducible refine' n_t ?en ?_); (case en => exact rfl))
  | ((with_reducible refine' n_f ?en ?_); (case en => exact rfl))
  | ((with_reducible refine' nn_t ?en ?_); (case en => exact rfl))
  | ((with_reducible refine' nn_f ?en ?_); (case en => exact rfl))
  | with_reducible refine And.intro (by walk_at "sz") ?_)
local macro_rules | `(tactic| walk_at "d") => `(tactic| first
  | walk_at "v"
  | walk_at "st"
  | walk_at "sm"
  | walk_at "cl"
  | walk_at "at")
local macro_rules | `(tactic| walk_at "dd") => `(tactic| repeat walk_at "d")

variable {P : Program} {w : World} {K : PySem.W.Frag} {mg : Str → Option Value} {base : Heap} {S : Sto} {Ex : XS} {Q : QO}
theorem ok_lcuts (T : Tx K mg) {L : Int} : ∀ (t : Tr) {S : Sto} {Ex : XS} {Q : QO}, t.Ok L → Q (.v (.lst (t.cuts.map .int))) S → sFun (bs P w K mg base) (t.dep + 1) (.ref (He.ga K "_law_cuts")) [] [t.toD] [] S Ex Q
  | .span a b, S, Ex, Q, ok, q => by
    refine' call_d (B := bs P w K mg base) 0 (Classical.choose_spec T.d_law_cuts) sc_law_cuts rfl (bm_all (ps := ["_law_tree_here"]) (Classical.choose_spec T.d_law_cuts) (fun _ _ _ _ _ _ us hl => match us, hl with | [_], _ => rfl)) (dss_cons (ds_if (dt_cmp (de_ix (dv 0) de_int (fun _ _ => rfl)) de_str) (dss_one (ds_ret (de_if (dt_cmp (de_ix (dv 0) de_int (fun _ _ => rfl)) de_non) (de_lstV (da_cons (de_ix (dv 0) de_int (fun _ _ => rfl)) da_nil)) (de_lstV (da_cons (de_ix (dv 0) de_int (fun _ _ => rfl)) (da_cons (de_bin (de_ix (dv 0) de_int (fun _ _ => rfl)) de_int) da_nil)))))) dss_nil) (dss_one (ds_ret (de_if (dt_cmp (de_ix (dv 0) de_int (fun _ _ => rfl)) de_str) (de_lstV da_nil) (de_bin (de_call rfl rfl ⟨T.g_law_cuts, (Classical.choose_spec T.d_law_cuts).kp⟩ (da_cons (de_ix (dv 0) de_int (fun _ _ => rfl)) da_nil)) (de_call rfl rfl ⟨T.g_law_cuts, (Classical.choose_spec T.d_law_cuts).kp⟩ (da_cons (de_ix (dv 0) de_int (fun _ _ => rfl)) da_nil))))))) ⟨rfl, rfl⟩ ?st ?_
    case st => walk_at "start"
    rw [show Tr.toD (.span a b) = .tup [.str "span", .int a, optD b] from rfl]
    walk_at "dd"
    refine i_pos rfl ?_
    cases b with
    | none =>
      rw [show optD none = D.non from rfl]
      walk_at "dd"
      exact q
    | some b =>
      rw [show optD (some b) = D.int b from rfl]
      walk_at "dd"
      exact q
  | .rests m rs, S, Ex, Q, ok, q => by
    refine' call_d (B := bs P w K mg base) 0 (Classical.choose_spec T.d_law_cuts) sc_law_cuts rfl (bm_all (ps := ["_law_tree_here"]) (Classical.choose_spec T.d_law_cuts) (fun _ _ _ _ _ _ us hl => match us, hl with | [_], _ => rfl)) (dss_cons (ds_if (dt_cmp (de_ix (dv 0) de_int (fun _ _ => rfl)) de_str) (dss_one (ds_ret (de_if (dt_cmp (de_ix (dv 0) de_int (fun _ _ => rfl)) de_non) (de_lstV (da_cons (de_ix (dv 0) de_int (fun _ _ => rfl)) da_nil)) (de_lstV (da_cons (de_ix (dv 0) de_int (fun _ _ => rfl)) (da_cons (de_bin (de_ix (dv 0) de_int (fun _ _ => rfl)) de_int) da_nil)))))) dss_nil) (dss_one (ds_ret (de_if (dt_cmp (de_ix (dv 0) de_int (fun _ _ => rfl)) de_str) (de_lstV da_nil) (de_bin (de_call rfl rfl ⟨T.g_law_cuts, (Classical.choose_spec T.d_law_cuts).kp⟩ (da_cons (de_ix (dv 0) de_int (fun _ _ => rfl)) da_nil)) (de_call rfl rfl ⟨T.g_law_cuts, (Classical.choose_spec T.d_law_cuts).kp⟩ (da_cons (de_ix (dv 0) de_int (fun _ _ => rfl)) da_nil))))))) ⟨rfl, rfl⟩ ?st ?_
    case st => walk_at "start"
    rw [show Tr.toD (.rests m rs) = .tup [.str "rests", .int m, .lst (rs.map .int)] from rfl]
    walk_at "dd"
    refine i_neg (by decide) ?_
    walk_at "dd"
    refine i_pos rfl ?_
    walk_at "dd"
    exact q
  | .node o l r, S, Ex, Q, ok, q => by
    refine' call_d (B := bs P w K mg base) (max l.dep r.dep + 1) (Classical.choose_spec T.d_law_cuts) sc_law_cuts rfl (bm_all (ps := ["_law_tree_here"]) (Classical.choose_spec T.d_law_cuts) (fun _ _ _ _ _ _ us hl => match us, hl with | [_], _ => rfl)) (dss_cons (ds_if (dt_cmp (de_ix (dv 0) de_int (fun _ _ => rfl)) de_str) (dss_one (ds_ret (de_if (dt_cmp (de_ix (dv 0) de_int (fun _ _ => rfl)) de_non) (de_lstV (da_cons (de_ix (dv 0) de_int (fun _ _ => rfl)) da_nil)) (de_lstV (da_cons (de_ix (dv 0) de_int (fun _ _ => rfl)) (da_cons (de_bin (de_ix (dv 0) de_int (fun _ _ => rfl)) de_int) da_nil)))))) dss_nil) (dss_one (ds_ret (de_if (dt_cmp (de_ix (dv 0) de_int (fun _ _ => rfl)) de_str) (de_lstV da_nil) (de_bin (de_call rfl rfl ⟨T.g_law_cuts, (Classical.choose_spec T.d_law_cuts).kp⟩ (da_cons (de_ix (dv 0) de_int (fun _ _ => rfl)) da_nil)) (de_call rfl rfl ⟨T.g_law_cuts, (Classical.choose_spec T.d_law_cuts).kp⟩ (da_cons (de_ix (dv 0) de_int (fun _ _ => rfl)) da_nil))))))) ⟨rfl, rfl⟩ ?st ?_
    case st => walk_at "start"
    rw [show Tr.toD (.node o l r) = .tup [.str o.str, l.toD, r.toD] from rfl]
    walk_at "dd"
    refine i_neg (by cases o <;> decide) ?_
    walk_at "dd"
    refine i_neg (by cases o <;> decide) ?_
    walk_at "dd"
    refine (ok_lcuts T l ok.1 ?_).mono (Nat.succ_le_succ (Nat.le_max_left _ _))
    walk_at "dd"
    refine (ok_lcuts T r ok.2.1 ?_).mono (Nat.succ_le_succ (Nat.le_max_right _ _))
    have h3 := ok.2.2
    have c1 := cuts_len l
    have c2 := cuts_len r
    have h4 : (l.n + 3) * 3 ≤ (l.n + 3) * (r.n + 3) := Nat.mul_le_mul_left _ (by omega)
    have h5 : 3 * (r.n + 3) ≤ (l.n + 3) * (r.n + 3) := Nat.mul_le_mul_right _ (by omega)
    refine s_cat ls_v ls_v (by rw [List.length_map, List.length_map, sizeLine_eq]; omega) (.inl ?_)
    rw [← List.map_append]
    walk_at "dd"
    exact q
end Toy

set_option Elab.async false
set_option linter.all false
set_option maxRecDepth 100000
set_option maxHeartbeats 4000000
namespace Toy
open PySem PySem.Spec PyProof.Rows L2 My Dt SX
local macro_rules | `(tactic| walk_at "rg") => `(tactic| first
  | omega
  | ((refine And.intro ?_ (And.intro ?_ (And.intro ?_ ?_))) <;> omega))
local macro_rules | `(tactic| walk_at "ls") => `(tactic| first
  | with_reducible exact ls_v
  | with_reducible exact ls_b
  | ((with_reducible refine' ls_p ?hlp); (case hlp => with_reducible assumption)))
local macro_rules | `(tactic| walk_at "start") => `(tactic| ((simp only [startM, startS, List.map_cons, List.map_nil, List.length_cons, List.length_nil, List.cons_append, List.nil_append, Nat.reduceAdd, Nat.reduceSub, List.replicate_succ, List.replicate_zero]); exact rfl))
local macro_rules | `(tactic| walk_at "set") => `(tactic| first
  | ((dsimp only [Int.reduceToNat, List.set_cons_zero, List.set_cons_succ]); done)
  | ((dsimp only [Int.reduceToNat, List.set_cons_zero, List.set_cons_succ]); exact rfl)
  | exact rfl)
local macro_rules | `(tactic| walk_at "sz") => `(tactic| first
  | exact sz_of (Nat.le_of_ble_eq_true rfl)
  | (apply sz_of; simp only [List.length_cons, List.length_nil, List.length_append, List.length_map]; omega))
local macro_rules | `(tactic| walk_at "side") => `(tactic| first
  | with_reducible assumption
  | omega
  | exact ml (by omega) (by omega)
  | exact mr (by omega) (by omega)
  | exact dv (by omega) (by omega)
  | exact Bd.mulOk (by with_reducible assumption) (by with_reducible assumption) (by decide) (by decide) (by decide)
  | exact Bd.div (by with_reducible assumption) (by omega) (by decide) (by decide)
  | (show (0 : Int) < _; omega)
  | exact ⟨by decide, by decide, by decide⟩
  | decide
  | exact rfl)
local macro_rules | `(tactic| walk_at "st") => `(tactic| first
  | with_reducible refine q_seq ?_
  | with_reducible refine q_end ?_
  | with_reducible refine q_nil ?_
  | with_reducible refine q_asg ?_
  | with_reducible refine q_ret ?_
  | with_reducible refine q_if ?_
  | with_reducible refine q_expr ?_
  | with_reducible refine q_retN ?_
  | with_reducible refine q_sub ?_
  | with_reducible refine q_for ?_
  | with_reducible refine q_par ?_
  | with_reducible refine q_par3 ?_
  | with_reducible refine q_asgF ?_
  | with_reducible refine q_asgC ?_
  | ((with_reducible refine' q_frz ?ef ?_); (case ef => exact rfl))
  | ((with_reducible refine' q_app ?ea ?eb ?_); (case ea => exact rfl); (case eb => walk_at "slen"))
  | with_reducible refine q_brk ?_
  | with_reducible refine q_cnt ?_
  | with_reducible refine q_fldS ?_
  | with_reducible refine q_fldP ?_
  | with_reducible refine q_raise ?_
  | with_reducible refine q_try ?_)
local macro_rules | `(tactic| walk_at "slen") => `(tactic| first
  | with_reducible assumption
  | ((rw [sizeLine_eq]); (simp only [List.length_cons, List.length_nil, List.length_append, List.length_map]); omega))
local macro_rules | `(tactic| walk_at "sm") => `(tactic| first
  | with_reducible refine s_add ?_
  | with_reducible refine s_sub ?_
  | ((with_reducible refine' s_mul ?hm ?_); (case hm => walk_at "side"))
  | ((with_reducible refine' s_fdiv ?hm ?_); (case hm => walk_at "side"))
  | ((with_reducible refine' s_mod ?hm ?_); (case hm => walk_at "side"))
  | with_reducible refine s_neg ?_
  | ((with_reducible refine' s_pow ?hm ?_); (case hm => walk_at "side"))
  | ((with_reducible refine' s_ixL ?hl ?he ?_); (case hl => walk_at "ls"); (case he => exact rfl))
  | ((with_reducible refine' s_ixT ?he ?_); (case he => exact rfl))
  | ((with_reducible refine' set_L2 ?ha ?hb ?hc ?_); (case ha => with_reducible assumption); (case hb => exact rfl); (case hc => walk_at "set"))
  | with_reducible refine s_addB ?_
  | with_reducible refine s_lt ?_
  | with_reducible refine s_le ?_
  | with_reducible refine s_gt ?_
  | with_reducible refine s_ge ?_
  | with_reducible refine s_eq ?_
  | with_reducible refine s_ne ?_
  | with_reducible refine s_eqS ?_
  | with_reducible refine s_neS ?_
  | with_reducible refine s_isN ?_
  | with_reducible refine s_isNotN ?_
  | with_reducible refine t_bl ?_)
local macro_rules | `(tactic| walk_at "cl") => `(tactic| first
  | with_reducible refine c_int ?_
  | with_reducible refine c_intB ?_
  | with_reducible refine c_abs ?_
  | ((with_reducible refine' c_max ?hm ?_); (case hm => exact rfl))
  | ((with_reducible refine' c_min ?hm ?_); (case hm => exact rfl))
  | ((with_reducible refine' c_divmod ?hm ?_); (case hm => walk_at "side"))
  | ((with_reducible refine' c_len ?hm ?_); (case hm => walk_at "sq"))
  | ((with_reducible refine' c_list ?hm ?_); (case hm => walk_at "sq"))
  | ((with_reducible refine' c_tuple ?hm ?_); (case hm => walk_at "sq")))
local macro_rules | `(tactic| walk_at "sq") => `(tactic| first
  | exact sqL
  | exact sqT
  | exact sqB
  | exact sqP (by with_reducible assumption))
local macro_rules | `(tactic| walk_at "v") => `(tactic| first
  | ((with_reducible refine' v_sh ?ev ?_); (case ev => exact rfl))
  | ((with_reducible refine' v_ol ?ev ?_); (case ev => exact rfl))
  | ((with_reducible refine' v_slf ?ev ?_); (case ev => exact rfl))
  | with_reducible refine q_val ?_
  | ((with_reducible refine' q_walk ?ew ?_); (case ew => exact rfl))
  | ((with_reducible refine' q_rng1 ?ej ?ek ?_); (case ej => walk_at "rg"); (case ek => walk_at "rg"))
  | ((with_reducible refine' q_rng2 ?ej ?_); (case ej => walk_at "rg"))
  | with_reducible refine q_rngL ?_
  | with_reducible refine q_solc ?_
  | with_reducible refine q_sol0 ?_
  | ((with_reducible refine' q_gname ?eg ?_); (case eg => walk_at "set"))
  | ((with_reducible refine' n_set ?eg ?_); (case eg => walk_at "set"))
  | ((with_reducible refine' n_set2 ?eg ?_); (case eg => walk_at "set"))
  | ((with_reducible refine' n_set3 ?eg ?_); (case eg => walk_at "set"))
  | with_reducible refine q_two ?_
  | with_reducible refine q_three ?_
  | with_reducible refine q_bl ?_
  | with_reducible refine q_oint ?_
  | ((with_reducible refine' q_gtup ?el ?_); (case el => exact rfl))
  | with_reducible refine q_gcons ?_
  | with_reducible refine q_gnil ?_
  | with_reducible refine i_t ?_
  | with_reducible refine i_f ?_
  | with_reducible refine i_nt ?_
  | with_reducible refine i_nf ?_
  | ((with_reducible refine' n_t ?en ?_); (case en => exact rfl))
  | ((with_reducible refine' n_f ?en ?_); (case en => exact rfl))
  | ((with_reducible refine' nn_t ?en ?_); (case en => exact rfl))
  | ((with_reducible refine' nn_f ?en ?_); (case en => exact rfl))
  | with_reducible refine And.intro (by walk_at "sz") ?_)
local macro_rules | `(tactic| walk_at "d") => `(tactic| first
  | walk_at "v"
  | walk_at "st"
  | walk_at "sm"
  | walk_at "cl"
  | walk_at "at")
local macro_rules | `(tactic| walk_at "dd") => `(tactic| repeat walk_at "d")

variable {P : Program} {w : World} {K : PySem.W.Frag} {mg : Str → Option Value} {base : Heap} {S : Sto} {Ex : XS} {Q : QO}
theorem ok_lrests (T : Tx K mg) {m : Int} {rs : List Int} (hm : 1 ≤ m) (hm2 : m ≤ 5040) (hu : Up m 0 rs) (hl : rs.length ≤ 4) (q : Q (.v (setD m (restRows m rs))) S) : sFun (bs P w K mg base) 4 (.ref (He.ga K "_law_rests")) [] [.int m, .lst (rs.map .int)] [] S Ex Q := by
  refine' call_d (B := bs P w K mg base) 3 (Classical.choose_spec T.d_law_rests) sc_law_rests rfl (bm_all (ps := ["_law_modulus_here", "_law_rests_here"]) (Classical.choose_spec T.d_law_rests) (fun _ _ _ _ _ _ us hl => match us, hl with | [_, _], _ => rfl)) (dss_cons (dst 2 (de_sl (de_bin (de_callT (T := "list") rfl T.f_list (by decide +kernel) (da_cons (dv 1) da_nil)) (de_bin (de_lstV (da_cons de_non da_nil)) de_int)) do_no (do_some de_int))) (dss_cons (ds_if (dt_cmp (de_callB (id := "len") rfl T.f_len (by decide +kernel) (da_cons (dv 1) da_nil)) de_int) (dss_one (ds_ret (de_sm rfl (de_cls rfl T.g_Sizes) (da_cons (dv 0) da_nil)))) dss_nil) (dss_cons (ds_if (dt_cmp (de_callB (id := "len") rfl T.f_len (by decide +kernel) (da_cons (dv 1) da_nil)) de_int) (dss_one (ds_ret (de_sm rfl (de_cls rfl T.g_Sizes) (da_cons (dv 0) (da_cons (de_ix (dv 2) de_int (fun _ _ => rfl)) da_nil))))) dss_nil) (dss_cons (ds_if (dt_cmp (de_callB (id := "len") rfl T.f_len (by decide +kernel) (da_cons (dv 1) da_nil)) de_int) (dss_one (ds_ret (de_sm rfl (de_cls rfl T.g_Sizes) (da_cons (dv 0) (da_cons (de_ix (dv 2) de_int (fun _ _ => rfl)) (da_cons (de_ix (dv 2) de_int (fun _ _ => rfl)) da_nil)))))) dss_nil) (dss_cons (ds_if (dt_cmp (de_callB (id := "len") rfl T.f_len (by decide +kernel) (da_cons (dv 1) da_nil)) de_int) (dss_one (ds_ret (de_sm rfl (de_cls rfl T.g_Sizes) (da_cons (dv 0) (da_cons (de_ix (dv 2) de_int (fun _ _ => rfl)) (da_cons (de_ix (dv 2) de_int (fun _ _ => rfl)) (da_cons (de_ix (dv 2) de_int (fun _ _ => rfl)) da_nil))))))) dss_nil) (dss_one (ds_ret (de_sm rfl (de_cls rfl T.g_Sizes) (da_cons (dv 0) (da_cons (de_ix (dv 2) de_int (fun _ _ => rfl)) (da_cons (de_ix (dv 2) de_int (fun _ _ => rfl)) (da_cons (de_ix (dv 2) de_int (fun _ _ => rfl)) (da_cons (de_ix (dv 2) de_int (fun _ _ => rfl)) da_nil))))))))))))) ⟨rfl, rfl⟩ ?st ?_
  case st => walk_at "start"
  have hl2 : (rs.map D.int).length ≤ 4 := by rw [List.length_map]; exact hl
  walk_at "dd"
  refine .inl ?_
  walk_at "dd"
  refine s_rep ls_v (by decide) (by decide) (by decide) (.inl ?_)
  walk_at "dd"
  refine s_cat ls_v ls_v (by rw [sizeLine_eq]; show (rs.map D.int).length + 4 ≤ _; omega) (.inl ?_)
  walk_at "dd"
  refine s_slL ls_v (.inl ?_)
  walk_at "dd"
  match rs, hu, hl, q with
  | [], hu, hl, q =>
    refine i_pos rfl ?_
    walk_at "dd"
    refine q_sm T.smt_Sizes_rests ?_
    walk_at "dd"
    refine ok_rests (rs := []) T hm hm2 hu (by decide) ?_
    walk_at "dd"
    exact q
  | [a], hu, hl, q =>
    refine i_neg (by simp) ?_
    walk_at "dd"
    refine i_pos rfl ?_
    walk_at "dd"
    refine q_sm T.smt_Sizes_rests ?_
    walk_at "dd"
    refine ok_rests (rs := [a]) T hm hm2 hu (by simp) ?_
    walk_at "dd"
    exact q
  | [a, b], hu, hl, q =>
    refine i_neg (by simp) ?_
    walk_at "dd"
    refine i_neg (by simp) ?_
    walk_at "dd"
    refine i_pos rfl ?_
    walk_at "dd"
    refine q_sm T.smt_Sizes_rests ?_
    walk_at "dd"
    refine ok_rests (rs := [a, b]) T hm hm2 hu (by simp) ?_
    walk_at "dd"
    exact q
  | [a, b, c], hu, hl, q =>
    refine i_neg (by simp) ?_
    walk_at "dd"
    refine i_neg (by simp) ?_
    walk_at "dd"
    refine i_neg (by simp) ?_
    walk_at "dd"
    refine i_pos rfl ?_
    walk_at "dd"
    refine q_sm T.smt_Sizes_rests ?_
    walk_at "dd"
    refine ok_rests (rs := [a, b, c]) T hm hm2 hu (by simp) ?_
    walk_at "dd"
    exact q
  | [a, b, c, d], hu, hl, q =>
    refine i_neg (by simp) ?_
    walk_at "dd"
    refine i_neg (by simp) ?_
    walk_at "dd"
    refine i_neg (by simp) ?_
    walk_at "dd"
    refine i_neg (by simp) ?_
    walk_at "dd"
    refine q_sm T.smt_Sizes_rests ?_
    walk_at "dd"
    refine ok_rests (rs := [a, b, c, d]) T hm hm2 hu (by simp) ?_
    walk_at "dd"
    exact q
  | _ :: _ :: _ :: _ :: _ :: _, _, hl, _ =>
    simp at hl
end Toy

set_option Elab.async false
set_option linter.all false
set_option maxRecDepth 100000
set_option maxHeartbeats 4000000
namespace Toy
open PySem PySem.Spec PyProof.Rows L2 My Dt SX
local macro_rules | `(tactic| walk_at "rg") => `(tactic| first
  | omega
  | ((refine And.intro ?_ (And.intro ?_ (And.intro ?_ ?_))) <;> omega))
local macro_rules | `(tactic| walk_at "ls") => `(tactic| first
  | with_reducible exact ls_v
  | with_reducible exact ls_b
  | ((with_reducible refine' ls_p ?hlp); (case hlp => with_reducible assumption)))
local macro_rules | `(tactic| walk_at "start") => `(tactic| ((simp only [startM, startS, List.map_cons, List.map_nil, List.length_cons, List.length_nil, List.cons_append, List.nil_append, Nat.reduceAdd, Nat.reduceSub, List.replicate_succ, List.replicate_zero]); exact rfl))
local macro_rules | `(tactic| walk_at "set") => `(tactic| first
  | ((dsimp only [Int.reduceToNat, List.set_cons_zero, List.set_cons_succ]); done)
  | ((dsimp only [Int.reduceToNat, List.set_cons_zero, List.set_cons_succ]); exact rfl)
  | exact rfl)
local macro_rules | `(tactic| walk_at "sz") => `(tactic| first
  | exact sz_of (Nat.le_of_ble_eq_true rfl)
  | (apply sz_of; simp only [List.length_cons, List.length_nil, List.length_append, List.length_map]; omega))
local macro_rules | `(tactic| walk_at "side") => `(tactic| first
  | with_reducible assumption
  | omega
  | exact ml (by omega) (by omega)
  | exact mr (by omega) (by omega)
  | exact dv (by omega) (by omega)
  | exact Bd.mulOk (by with_reducible assumption) (by with_reducible assumption) (by decide) (by decide) (by decide)
  | exact Bd.div (by with_reducible assumption) (by omega) (by decide) (by decide)
  | (show (0 : Int) < _; omega)
  | exact ⟨by decide, by decide, by decide⟩
  | decide
  | exact rfl)
local macro_rules | `(tactic| walk_at "st") => `(tactic| first
  | with_reducible refine q_seq ?_
  | with_reducible refine q_end ?_
  | with_reducible refine q_nil ?_
  | with_reducible refine q_asg ?_
  | with_reducible refine q_ret ?_
  | with_reducible refine q_if ?_
  | with_reducible refine q_expr ?_
  | with_reducible refine q_retN ?_
  | with_reducible refine q_sub ?_
  | with_reducible refine q_for ?_
  | with_reducible refine q_par ?_
  | with_reducible refine q_par3 ?_
  | with_reducible refine q_asgF ?_
  | with_reducible refine q_asgC ?_
  | ((with_reducible refine' q_frz ?ef ?_); (case ef => exact rfl))
  | ((with_reducible refine' q_app ?ea ?eb ?_); (case ea => exact rfl); (case eb => walk_at "slen"))
  | with_reducible refine q_brk ?_
  | with_reducible refine q_cnt ?_
  | with_reducible refine q_fldS ?_
  | with_reducible refine q_fldP ?_
  | with_reducible refine q_raise ?_
  | with_reducible refine q_try ?_)
local macro_rules | `(tactic| walk_at "slen") => `(tactic| first
  | with_reducible assumption
  | ((rw [sizeLine_eq]); (simp only [List.length_cons, List.length_nil, List.length_append, List.length_map]); omega))
local macro_rules | `(tactic| walk_at "sm") => `(tactic| first
  | with_reducible refine s_add ?_
  | with_reducible refine s_sub ?_
  | ((with_reducible refine' s_mul ?hm ?_); (case hm => walk_at "side"))
  | ((with_reducible refine' s_fdiv ?hm ?_); (case hm => walk_at "side"))
  | ((with_reducible refine' s_mod ?hm ?_); (case hm => walk_at "side"))
  | with_reducible refine s_neg ?_
  | ((with_reducible refine' s_pow ?hm ?_); (case hm => walk_at "side"))
  | ((with_reducible refine' s_ixL ?hl ?he ?_); (case hl => walk_at "ls"); (case he => exact rfl))
  | ((with_reducible refine' s_ixT ?he ?_); (case he => exact rfl))
  | ((with_reducible refine' set_L2 ?ha ?hb ?hc ?_); (case ha => with_reducible assumption); (case hb => exact rfl); (case hc => walk_at "set"))
  | with_reducible refine s_addB ?_
  | with_reducible refine s_lt ?_
  | with_reducible refine s_le ?_
  | with_reducible refine s_gt ?_
  | with_reducible refine s_ge ?_
  | with_reducible refine s_eq ?_
  | with_reducible refine s_ne ?_
  | with_reducible refine s_eqS ?_
  | with_reducible refine s_neS ?_
  | with_reducible refine s_isN ?_
  | with_reducible refine s_isNotN ?_
  | with_reducible refine t_bl ?_)
local macro_rules | `(tactic| walk_at "cl") => `(tactic| first
  | with_reducible refine c_int ?_
  | with_reducible refine c_intB ?_
  | with_reducible refine c_abs ?_
  | ((with_reducible refine' c_max ?hm ?_); (case hm => exact rfl))
  | ((with_reducible refine' c_min ?hm ?_); (case hm => exact rfl))
  | ((with_reducible refine' c_divmod ?hm ?_); (case hm => walk_at "side"))
  | ((with_reducible refine' c_len ?hm ?_); (case hm => walk_at "sq"))
  | ((with_reducible refine' c_list ?hm ?_); (case hm => walk_at "sq"))
  | ((with_reducible refine' c_tuple ?hm ?_); (case hm => walk_at "sq")))
local macro_rules | `(tactic| walk_at "sq") => `(tactic| first
  | exact sqL
  | exact sqT
  | exact sqB
  | exact sqP (by with_reducible assumption))
local macro_rules | `(tactic| walk_at "v") => `(tactic| first
  | ((with_reducible refine' v_sh ?ev ?_); (case ev => exact rfl))
  | ((with_reducible refine' v_ol ?ev ?_); (case ev => exact rfl))
  | ((with_reducible refine' v_slf ?ev ?_); (case ev => exact rfl))
  | with_reducible refine q_val ?_
  | ((with_reducible refine' q_walk ?ew ?_); (case ew => exact rfl))
  | ((with_reducible refine' q_rng1 ?ej ?ek ?_); (case ej => walk_at "rg"); (case ek => walk_at "rg"))
  | ((with_reducible refine' q_rng2 ?ej ?_); (case ej => walk_at "rg"))
  | with_reducible refine q_rngL ?_
  | with_reducible refine q_solc ?_
  | with_reducible refine q_sol0 ?_
  | ((with_reducible refine' q_gname ?eg ?_); (case eg => walk_at "set"))
  | ((with_reducible refine' n_set ?eg ?_); (case eg => walk_at "set"))
  | ((with_reducible refine' n_set2 ?eg ?_); (case eg => walk_at "set"))
  | ((with_reducible refine' n_set3 ?eg ?_); (case eg => walk_at "set"))
  | with_reducible refine q_two ?_
  | with_reducible refine q_three ?_
  | with_reducible refine q_bl ?_
  | with_reducible refine q_oint ?_
  | ((with_reducible refine' q_gtup ?el ?_); (case el => exact rfl))
  | with_reducible refine q_gcons ?_
  | with_reducible refine q_gnil ?_
  | with_reducible refine i_t ?_
  | with_reducible refine i_f ?_
  | with_reducible refine i_nt ?_
  | with_reducible refine i_nf ?_
  | ((with_reducible refine' n_t ?en ?_); (case en => exact rfl))
  | ((with_reducible refine' n_f ?en ?_); (case en => exact rfl))
  | ((with_reducible refine' nn_t ?en ?_); (case en => exact rfl))
  | ((with_reducible refine' nn_f ?en ?_); (case en => exact rfl))
  | with_reducible refine And.intro (by walk_at "sz") ?_)
local macro_rules | `(tactic| walk_at "d") => `(tactic| first
  | walk_at "v"
  | walk_at "st"
  | walk_at "sm"
  | walk_at "cl"
  | walk_at "at")
local macro_rules | `(tactic| walk_at "dd") => `(tactic| repeat walk_at "d")

variable {P : Program} {w : World} {K : PySem.W.Frag} {mg : Str → Option Value} {base : Heap} {S : Sto} {Ex : XS} {Q : QO}
theorem ok_lset (T : Tx K mg) {L : Int} (hL : 0 < L) (hL2 : L ≤ 5040) : ∀ (t : Tr) {S : Sto} {Ex : XS} {Q : QO}, t.Ok L → (∀ rows, SetR t.mod rows t.n t.has → Q (.v (setD t.mod rows)) S) → sFun (bs P w K mg base) (t.dep + 5) (.ref (He.ga K "_law_set")) [] [t.toD] [] S Ex Q
  | .span a b, S, Ex, Q, ok, q => by
    refine' call_d (B := bs P w K mg base) 4 (Classical.choose_spec T.d_law_set) sc_law_set rfl (bm_all (ps := ["_law_tree_here"]) (Classical.choose_spec T.d_law_set) (fun _ _ _ _ _ _ us hl => match us, hl with | [_], _ => rfl)) (dss_cons (ds_if (dt_cmp (de_ix (dv 0) de_int (fun _ _ => rfl)) de_str) (dss_one (ds_ret (de_if (dt_cmp (de_ix (dv 0) de_int (fun _ _ => rfl)) de_non) (de_sm rfl (de_cls rfl T.g_Sizes) (da_cons (de_ix (dv 0) de_int (fun _ _ => rfl)) (da_cons (de_ix (dv 0) de_int (fun _ _ => rfl)) da_nil))) (de_sm rfl (de_cls rfl T.g_Sizes) (da_cons (de_ix (dv 0) de_int (fun _ _ => rfl)) da_nil))))) dss_nil) (dss_cons (ds_if (dt_cmp (de_ix (dv 0) de_int (fun _ _ => rfl)) de_str) (dss_one (ds_ret (de_call rfl rfl ⟨T.g_law_rests, (Classical.choose_spec T.d_law_rests).kp⟩ (da_cons (de_ix (dv 0) de_int (fun _ _ => rfl)) (da_cons (de_ix (dv 0) de_int (fun _ _ => rfl)) da_nil))))) dss_nil) (dss_cons (ds_par (i := 1) (j := 2) rfl rfl rfl (by decide) rfl rfl (da_cons (de_call rfl rfl ⟨T.g_law_set, (Classical.choose_spec T.d_law_set).kp⟩ (da_cons (de_ix (dv 0) de_int (fun _ _ => rfl)) da_nil)) (da_cons (de_call rfl rfl ⟨T.g_law_set, (Classical.choose_spec T.d_law_set).kp⟩ (da_cons (de_ix (dv 0) de_int (fun _ _ => rfl)) da_nil)) da_nil)) (fun env h => by cases env; cases h; rfl)) (dss_cons (ds_if (dt_cmp (de_ix (dv 0) de_int (fun _ _ => rfl)) de_str) (dss_one (ds_ret (de_bin (dv 1) (dv 2)))) dss_nil) (dss_one (ds_ret (de_if (dt_cmp (de_ix (dv 0) de_int (fun _ _ => rfl)) de_str) (de_bin (dv 1) (dv 2)) (de_bin (dv 1) (dv 2))))))))) ⟨rfl, rfl⟩ ?st ?_
    case st => walk_at "start"
    rw [show Tr.toD (.span a b) = .tup [.str "span", .int a, optD b] from rfl]
    have q := q _ (span_ok ok.1)
    obtain ⟨a0, b0⟩ := ok
    walk_at "dd"
    refine i_pos rfl ?_
    cases b with
    | none =>
      rw [show optD none = D.non from rfl]
      walk_at "dd"
      refine q_sm T.smt_Sizes_span ?_
      walk_at "dd"
      refine (ok_span1 T a0 ?_).mono (Nat.le_of_ble_eq_true rfl)
      walk_at "dd"
      exact q
    | some b =>
      rw [show optD (some b) = D.int b from rfl]
      walk_at "dd"
      refine q_sm T.smt_Sizes_span ?_
      walk_at "dd"
      refine (ok_span2 T a0 (b0 b rfl) ?_).mono (Nat.le_of_ble_eq_true rfl)
      walk_at "dd"
      exact q
  | .rests m rs, S, Ex, Q, ok, q => by
    obtain ⟨m1, md, mu, ml⟩ := ok
    have m2 : m ≤ 5040 := by
      have := Int.le_of_dvd hL md
      omega
    have q := q _ (rests_ok m1 m2)
    refine' call_d (B := bs P w K mg base) 4 (Classical.choose_spec T.d_law_set) sc_law_set rfl (bm_all (ps := ["_law_tree_here"]) (Classical.choose_spec T.d_law_set) (fun _ _ _ _ _ _ us hl => match us, hl with | [_], _ => rfl)) (dss_cons (ds_if (dt_cmp (de_ix (dv 0) de_int (fun _ _ => rfl)) de_str) (dss_one (ds_ret (de_if (dt_cmp (de_ix (dv 0) de_int (fun _ _ => rfl)) de_non) (de_sm rfl (de_cls rfl T.g_Sizes) (da_cons (de_ix (dv 0) de_int (fun _ _ => rfl)) (da_cons (de_ix (dv 0) de_int (fun _ _ => rfl)) da_nil))) (de_sm rfl (de_cls rfl T.g_Sizes) (da_cons (de_ix (dv 0) de_int (fun _ _ => rfl)) da_nil))))) dss_nil) (dss_cons (ds_if (dt_cmp (de_ix (dv 0) de_int (fun _ _ => rfl)) de_str) (dss_one (ds_ret (de_call rfl rfl ⟨T.g_law_rests, (Classical.choose_spec T.d_law_rests).kp⟩ (da_cons (de_ix (dv 0) de_int (fun _ _ => rfl)) (da_cons (de_ix (dv 0) de_int (fun _ _ => rfl)) da_nil))))) dss_nil) (dss_cons (ds_par (i := 1) (j := 2) rfl rfl rfl (by decide) rfl rfl (da_cons (de_call rfl rfl ⟨T.g_law_set, (Classical.choose_spec T.d_law_set).kp⟩ (da_cons (de_ix (dv 0) de_int (fun _ _ => rfl)) da_nil)) (da_cons (de_call rfl rfl ⟨T.g_law_set, (Classical.choose_spec T.d_law_set).kp⟩ (da_cons (de_ix (dv 0) de_int (fun _ _ => rfl)) da_nil)) da_nil)) (fun env h => by cases env; cases h; rfl)) (dss_cons (ds_if (dt_cmp (de_ix (dv 0) de_int (fun _ _ => rfl)) de_str) (dss_one (ds_ret (de_bin (dv 1) (dv 2)))) dss_nil) (dss_one (ds_ret (de_if (dt_cmp (de_ix (dv 0) de_int (fun _ _ => rfl)) de_str) (de_bin (dv 1) (dv 2)) (de_bin (dv 1) (dv 2))))))))) ⟨rfl, rfl⟩ ?st ?_
    case st => walk_at "start"
    rw [show Tr.toD (.rests m rs) = .tup [.str "rests", .int m, .lst (rs.map .int)] from rfl]
    walk_at "dd"
    refine i_neg (by decide) ?_
    walk_at "dd"
    refine i_pos rfl ?_
    walk_at "dd"
    refine ok_lrests T m1 m2 mu ml ?_
    walk_at "dd"
    exact q
  | .node o l r, S, Ex, Q, ok, q => by
    have al := Tr.mod_ok hL ok.1
    have ar := Tr.mod_ok hL ok.2.1
    refine' call_d (B := bs P w K mg base) (max l.dep r.dep + 5) (Classical.choose_spec T.d_law_set) sc_law_set rfl (bm_all (ps := ["_law_tree_here"]) (Classical.choose_spec T.d_law_set) (fun _ _ _ _ _ _ us hl => match us, hl with | [_], _ => rfl)) (dss_cons (ds_if (dt_cmp (de_ix (dv 0) de_int (fun _ _ => rfl)) de_str) (dss_one (ds_ret (de_if (dt_cmp (de_ix (dv 0) de_int (fun _ _ => rfl)) de_non) (de_sm rfl (de_cls rfl T.g_Sizes) (da_cons (de_ix (dv 0) de_int (fun _ _ => rfl)) (da_cons (de_ix (dv 0) de_int (fun _ _ => rfl)) da_nil))) (de_sm rfl (de_cls rfl T.g_Sizes) (da_cons (de_ix (dv 0) de_int (fun _ _ => rfl)) da_nil))))) dss_nil) (dss_cons (ds_if (dt_cmp (de_ix (dv 0) de_int (fun _ _ => rfl)) de_str) (dss_one (ds_ret (de_call rfl rfl ⟨T.g_law_rests, (Classical.choose_spec T.d_law_rests).kp⟩ (da_cons (de_ix (dv 0) de_int (fun _ _ => rfl)) (da_cons (de_ix (dv 0) de_int (fun _ _ => rfl)) da_nil))))) dss_nil) (dss_cons (ds_par (i := 1) (j := 2) rfl rfl rfl (by decide) rfl rfl (da_cons (de_call rfl rfl ⟨T.g_law_set, (Classical.choose_spec T.d_law_set).kp⟩ (da_cons (de_ix (dv 0) de_int (fun _ _ => rfl)) da_nil)) (da_cons (de_call rfl rfl ⟨T.g_law_set, (Classical.choose_spec T.d_law_set).kp⟩ (da_cons (de_ix (dv 0) de_int (fun _ _ => rfl)) da_nil)) da_nil)) (fun env h => by cases env; cases h; rfl)) (dss_cons (ds_if (dt_cmp (de_ix (dv 0) de_int (fun _ _ => rfl)) de_str) (dss_one (ds_ret (de_bin (dv 1) (dv 2)))) dss_nil) (dss_one (ds_ret (de_if (dt_cmp (de_ix (dv 0) de_int (fun _ _ => rfl)) de_str) (de_bin (dv 1) (dv 2)) (de_bin (dv 1) (dv 2))))))))) ⟨rfl, rfl⟩ ?st ?_
    case st => walk_at "start"
    rw [show Tr.toD (.node o l r) = .tup [.str o.str, l.toD, r.toD] from rfl]
    walk_at "dd"
    refine i_neg (by cases o <;> decide) ?_
    walk_at "dd"
    refine i_neg (by cases o <;> decide) ?_
    walk_at "dd"
    refine (ok_lset T hL hL2 l ok.1 fun R a => ?_).mono (Nat.add_le_add_right (Nat.le_max_left _ _) 5)
    walk_at "dd"
    refine (ok_lset T hL hL2 r ok.2.1 fun M b => ?_).mono (Nat.add_le_add_right (Nat.le_max_right _ _) 5)
    walk_at "dd"
    have lv : 4 ≤ max l.dep r.dep + 5 := by omega
    cases o with
    | both =>
      refine i_pos rfl ?_
      walk_at "dd"
      refine s_own2 rfl isI_ins isI_ins T.sf_Sizes T.sp_Sizes__and ((ok_and T a b hL hL2 al.2.1 ar.2.1 ok.2.2 ?_).mono lv)
      walk_at "dd"
      exact q _ (join_ok (o := .both) a b hL hL2 al.2.1 ar.2.1).1
    | any =>
      refine i_neg (by decide) ?_
      walk_at "dd"
      refine i_pos rfl ?_
      walk_at "dd"
      refine s_own2 rfl isI_ins isI_ins T.sf_Sizes T.sp_Sizes__or ((ok_or T a b hL hL2 al.2.1 ar.2.1 ok.2.2 ?_).mono lv)
      walk_at "dd"
      exact q _ (join_ok (o := .any) a b hL hL2 al.2.1 ar.2.1).1
    | first =>
      refine i_neg (by decide) ?_
      walk_at "dd"
      refine i_neg (by decide) ?_
      walk_at "dd"
      refine s_own2 rfl isI_ins isI_ins T.sf_Sizes T.sp_Sizes__sub ((ok_sub T a b hL hL2 al.2.1 ar.2.1 ok.2.2 ?_).mono lv)
      walk_at "dd"
      exact q _ (join_ok (o := .first) a b hL hL2 al.2.1 ar.2.1).1
end Toy

set_option Elab.async false
set_option linter.all false
set_option maxRecDepth 100000
set_option maxHeartbeats 4000000
namespace Toy
open PySem PySem.Spec PyProof.Rows L2 My Dt SX
local macro_rules | `(tactic| walk_at "rg") => `(tactic| first
  | omega
  | ((refine And.intro ?_ (And.intro ?_ (And.intro ?_ ?_))) <;> omega))
local macro_rules | `(tactic| walk_at "ls") => `(tactic| first
  | with_reducible exact ls_v
  | with_reducible exact ls_b
  | ((with_reducible refine' ls_p ?hlp); (case hlp => with_reducible assumption)))
local macro_rules | `(tactic| walk_at "start") => `(tactic| ((simp only [startM, startS, List.map_cons, List.map_nil, List.length_cons, List.length_nil, List.cons_append, List.nil_append, Nat.reduceAdd, Nat.reduceSub, List.replicate_succ, List.replicate_zero]); exact rfl))
local macro_rules | `(tactic| walk_at "set") => `(tactic| first
  | ((dsimp only [Int.reduceToNat, List.set_cons_zero, List.set_cons_succ]); done)
  | ((dsimp only [Int.reduceToNat, List.set_cons_zero, List.set_cons_succ]); exact rfl)
  | exact rfl)
local macro_rules | `(tactic| walk_at "sz") => `(tactic| first
  | exact sz_of (Nat.le_of_ble_eq_true rfl)
  | (apply sz_of; simp only [List.length_cons, List.length_nil, List.length_append, List.length_map]; omega))
local macro_rules | `(tactic| walk_at "side") => `(tactic| first
  | with_reducible assumption
  | omega
  | exact ml (by omega) (by omega)
  | exact mr (by omega) (by omega)
  | exact dv (by omega) (by omega)
  | exact Bd.mulOk (by with_reducible assumption) (by with_reducible assumption) (by decide) (by decide) (by decide)
  | exact Bd.div (by with_reducible assumption) (by omega) (by decide) (by decide)
  | (show (0 : Int) < _; omega)
  | exact ⟨by decide, by decide, by decide⟩
  | decide
  | exact rfl)
local macro_rules | `(tactic| walk_at "st") => `(tactic| first
  | with_reducible refine q_seq ?_
  | with_reducible refine q_end ?_
  | with_reducible refine q_nil ?_
  | with_reducible refine q_asg ?_
  | with_reducible refine q_ret ?_
  | with_reducible refine q_if ?_
  | with_reducible refine q_expr ?_
  | with_reducible refine q_retN ?_
  | with_reducible refine q_sub ?_
  | with_reducible refine q_for ?_
  | with_reducible refine q_par ?_
  | with_reducible refine q_par3 ?_
  | with_reducible refine q_asgF ?_
  | with_reducible refine q_asgC ?_
  | ((with_reducible refine' q_frz ?ef ?_); (case ef => exact rfl))
  | ((with_reducible refine' q_app ?ea ?eb ?_); (case ea => exact rfl); (case eb => walk_at "slen"))
  | with_reducible refine q_brk ?_
  | with_reducible refine q_cnt ?_
  | with_reducible refine q_fldS ?_
  | with_reducible refine q_fldP ?_
  | with_reducible refine q_raise ?_
  | with_reducible refine q_try ?_)
local macro_rules | `(tactic| walk_at "slen") => `(tactic| first
  | with_reducible assumption
  | ((rw [sizeLine_eq]); (simp only [List.length_cons, List.length_nil, List.length_append, List.length_map]); omega))
local macro_rules | `(tactic| walk_at "sm") => `(tactic| first
  | with_reducible refine s_add ?_
  | with_reducible refine s_sub ?_
  | ((with_reducible refine' s_mul ?hm ?_); (case hm => walk_at "side"))
  | ((with_reducible refine' s_fdiv ?hm ?_); (case hm => walk_at "side"))
  | ((with_reducible refine' s_mod ?hm ?_); (case hm => walk_at "side"))
  | with_reducible refine s_neg ?_
  | ((with_reducible refine' s_pow ?hm ?_); (case hm => walk_at "side"))
  | ((with_reducible refine' s_ixL ?hl ?he ?_); (case hl => walk_at "ls"); (case he => exact rfl))
  | ((with_reducible refine' s_ixT ?he ?_); (case he => exact rfl))
  | ((with_reducible refine' set_L2 ?ha ?hb ?hc ?_); (case ha => with_reducible assumption); (case hb => exact rfl); (case hc => walk_at "set"))
  | with_reducible refine s_addB ?_
  | with_reducible refine s_lt ?_
  | with_reducible refine s_le ?_
  | with_reducible refine s_gt ?_
  | with_reducible refine s_ge ?_
  | with_reducible refine s_eq ?_
  | with_reducible refine s_ne ?_
  | with_reducible refine s_eqS ?_
  | with_reducible refine s_neS ?_
  | with_reducible refine s_isN ?_
  | with_reducible refine s_isNotN ?_
  | with_reducible refine t_bl ?_)
local macro_rules | `(tactic| walk_at "cl") => `(tactic| first
  | with_reducible refine c_int ?_
  | with_reducible refine c_intB ?_
  | with_reducible refine c_abs ?_
  | ((with_reducible refine' c_max ?hm ?_); (case hm => exact rfl))
  | ((with_reducible refine' c_min ?hm ?_); (case hm => exact rfl))
  | ((with_reducible refine' c_divmod ?hm ?_); (case hm => walk_at "side"))
  | ((with_reducible refine' c_len ?hm ?_); (case hm => walk_at "sq"))
  | ((with_reducible refine' c_list ?hm ?_); (case hm => walk_at "sq"))
  | ((with_reducible refine' c_tuple ?hm ?_); (case hm => walk_at "sq")))
local macro_rules | `(tactic| walk_at "sq") => `(tactic| first
  | exact sqL
  | exact sqT
  | exact sqB
  | exact sqP (by with_reducible assumption))
local macro_rules | `(tactic| walk_at "v") => `(tactic| first
  | ((with_reducible refine' v_sh ?ev ?_); (case ev => exact rfl))
  | ((with_reducible refine' v_ol ?ev ?_); (case ev => exact rfl))
  | ((with_reducible refine' v_slf ?ev ?_); (case ev => exact rfl))
  | with_reducible refine q_val ?_
  | ((with_reducible refine' q_walk ?ew ?_); (case ew => exact rfl))
  | ((with_reducible refine' q_rng1 ?ej ?ek ?_); (case ej => walk_at "rg"); (case ek => walk_at "rg"))
  | ((with_reducible refine' q_rng2 ?ej ?_); (case ej => walk_at "rg"))
  | with_reducible refine q_rngL ?_
  | with_reducible refine q_solc ?_
  | with_reducible refine q_sol0 ?_
  | ((with_reducible refine' q_gname ?eg ?_); (case eg => walk_at "set"))
  | ((with_reducible refine' n_set ?eg ?_); (case eg => walk_at "set"))
  | ((with_reducible refine' n_set2 ?eg ?_); (case eg => walk_at "set"))
  | ((with_reducible refine' n_set3 ?eg ?_); (case eg => walk_at "set"))
  | with_reducible refine q_two ?_
  | with_reducible refine q_three ?_
  | with_reducible refine q_bl ?_
  | with_reducible refine q_oint ?_
  | ((with_reducible refine' q_gtup ?el ?_); (case el => exact rfl))
  | with_reducible refine q_gcons ?_
  | with_reducible refine q_gnil ?_
  | with_reducible refine i_t ?_
  | with_reducible refine i_f ?_
  | with_reducible refine i_nt ?_
  | with_reducible refine i_nf ?_
  | ((with_reducible refine' n_t ?en ?_); (case en => exact rfl))
  | ((with_reducible refine' n_f ?en ?_); (case en => exact rfl))
  | ((with_reducible refine' nn_t ?en ?_); (case en => exact rfl))
  | ((with_reducible refine' nn_f ?en ?_); (case en => exact rfl))
  | with_reducible refine And.intro (by walk_at "sz") ?_)
local macro_rules | `(tactic| walk_at "d") => `(tactic| first
  | walk_at "v"
  | walk_at "st"
  | walk_at "sm"
  | walk_at "cl"
  | walk_at "at")
local macro_rules | `(tactic| walk_at "dd") => `(tactic| repeat walk_at "d")

variable {P : Program} {w : World} {K : PySem.W.Frag} {mg : Str → Option Value} {base : Heap} {S : Sto} {Ex : XS} {Q : QO}
/-- the points at one cut -/
def ptAt (M c : Int) : List Int := ((List.range (c + M - (c - M)).toNat).map fun i => (c - M) + ((i : Nat) : Int)).filter fun x => decide (0 ≤ x)
def pts (M : Int) (cs : List Int) : List Int := (cs.map (ptAt M)).flatten
theorem ptAt_len (M c : Int) : (ptAt M c).length ≤ (2 * M).toNat := by
  unfold ptAt
  refine Nat.le_trans (List.length_filter_le _ _) ?_
  rw [List.length_map, List.length_range]
  omega
theorem pts_app (M : Int) (cs : List Int) (c : Int) : pts M (cs ++ [c]) = pts M cs ++ ptAt M c := by
  unfold pts
  simp
theorem pts_len {M : Int} (hM : M ≤ 5040) : ∀ cs : List Int, (pts M cs).length ≤ 10080 * cs.length
  | [] => Nat.le_refl _
  | c :: cs => by
    have a := ptAt_len M c
    have b := pts_len hM cs
    show (ptAt M c ++ pts M cs).length ≤ 10080 * (cs.length + 1)
    rw [List.length_append]
    omega
theorem ok_lpoints (T : Tx K mg) {M : Int} {cs : List Int} (hM : 0 < M) (hM2 : M ≤ 5040) (hc : cs.length ≤ 500) (q : Q (.v (.lst ((pts M (0 :: cs)).map .int))) S) : sFun (bs P w K mg base) 1 (.ref (He.ga K "_law_points")) [] [.lst (cs.map .int), .int M] [] S Ex Q := by
  refine' call_d (B := bs P w K mg base) 0 (Classical.choose_spec T.d_law_points) sc_law_points rfl (bm_all (ps := ["_law_cuts_here", "_law_modulus_here"]) (Classical.choose_spec T.d_law_points) (fun _ _ _ _ _ _ us hl => match us, hl with | [_, _], _ => rfl)) (dss_cons (dst 2 (de_lstV da_nil)) (dss_cons (ds_for rfl rfl (di_val (de_bin (de_lstV (da_cons de_int da_nil)) (dv 0))) (dgn 3) (dss_one (dst 2 (de_bin (dv 2) (DF.de (df_lc (own := [("_law_x", 4)]) rfl (by decide) (di_rangeL rfl T.f_range (da_cons (de_bin (dv 3) (dv 1)) (da_cons (de_bin (dv 3) (dv 1)) da_nil))) (blkOk_by (N := ["_law_cuts_here", "_law_modulus_here", "_law_some", "_law_cut", "_law_x"]) (sc := defScope s_law_points) (by decide +kernel)) (dgn 4) (dts_one (dt_cmp (dv 4) de_int)) (dv 4))))))) (dss_one (ds_ret (dv 2))))) ⟨rfl, rfl⟩ ?st ?_
  case st => walk_at "start"
  walk_at "dd"
  refine s_cat ls_v ls_v (by rw [List.length_map, sizeLine_eq]; show 1 + cs.length ≤ _; omega) (.inl ?_)
  rw [show [D.int 0] ++ cs.map D.int = (0 :: cs).map D.int from rfl]
  walk_at "dd"
  refine loop_inv (fun i ρ S' => S' = S ∧ ∃ x3 x4 : Sl, ρ = [.sh (.lst (cs.map .int)), .sh (.int M), .sh (.lst ((pts M ((0 :: cs).take i)).map .int)), x3, x4]) ⟨rfl, _, _, rfl⟩ ?_ ?_
  · rintro i x ρ S' Nx hx ⟨rfl, x3, x4, rfl⟩ hN
    obtain ⟨c, hc1, rfl⟩ := map_at hx
    have hi := (List.getElem?_eq_some_iff.mp hc1).1
    have et : (0 :: cs).take (i + 1) = (0 :: cs).take i ++ [c] := by
      rw [List.take_succ, hc1] <;> rfl
    have l1 := pts_len hM2 ((0 :: cs).take i)
    have l2 := ptAt_len M c
    have l3 : ((0 :: cs).take i).length ≤ 501 := by
      rw [List.length_take, List.length_cons]
      omega
    walk_at "dd"
    refine lc_pure (fun d => match d with | .int i => decide (0 ≤ i) | _ => false) (fun d => d) (by rw [rngD_len]; omega) (fun z hz X Y h1 h2 => ?_) ?_
    · obtain ⟨j, hj, rfl⟩ := List.mem_map.mp hz
      walk_at "dd"
      refine b_two (fun e => ?_) fun e => ?_
      · walk_at "dd"
        exact h1 e
      · walk_at "dd"
        exact h2 e
    · have e : ((rngD (c - M) (c + M - (c - M)).toNat).filter (fun d => match d with | .int i => decide (0 ≤ i) | _ => false)).map (fun d => d) = (ptAt M c).map .int := by
        rw [List.map_id', rngD, ptAt, show (fun i : Nat => D.int (c - M + (i : Nat))) = D.int ∘ (fun i : Nat => (c - M) + ((i : Nat) : Int)) from rfl, ← List.map_map, List.filter_map] <;> rfl
      rw [e]
      refine s_cat (S := S') ls_v (ls_b (S := S')) (by rw [List.length_map, List.length_map, sizeLine_eq]; omega) (.inl ?_)
      rw [← List.map_append]
      walk_at "dd"
      exact hN _ _ ⟨rfl, _, _, by rw [et, pts_app]⟩
  · rintro ρ S' ⟨rfl, x3, x4, rfl⟩
    rw [List.length_map, List.take_length]
    walk_at "dd"
    exact q
end Toy

set_option Elab.async false
set_option linter.all false
set_option maxRecDepth 100000
set_option maxHeartbeats 4000000
namespace Toy
open PySem PySem.Spec PyProof.Rows L2 My Dt SX
/-- between its cuts it goes by the rest alone -/
def Pc (M : Int) (cs : List Int) (f : Int → Bool) : Prop := ∀ x y : Int, 0 ≤ x → 0 ≤ y → x % M = y % M → (∀ c ∈ cs, c ≤ x ↔ c ≤ y) → f x = f y
theorem Pc.mono {M : Int} {cs ds : List Int} {f : Int → Bool} (h : Pc M cs f) (hs : ∀ c ∈ cs, c ∈ ds) : Pc M ds f := fun x y hx hy e k => h x y hx hy e fun c hc => k c (hs c hc)
theorem has_pc {L M : Int} (hL : 0 < L) : ∀ {t : Tr}, t.Ok L → t.mod ∣ M → Pc M t.cuts t.has
  | .span a none, _, _ => fun x y _ _ _ k => by
    have k1 := k a (List.mem_singleton.mpr rfl)
    show (decide (a ≤ x) && true) = (decide (a ≤ y) && true)
    rw [decide_eq_decide.mpr k1]
  | .span a (some b), _, _ => fun x y _ _ _ k => by
    have k1 := k a List.mem_cons_self
    have k2 := k (b + 1) (List.mem_cons_of_mem _ (List.mem_singleton.mpr rfl))
    show (decide (a ≤ x) && decide (x ≤ b)) = (decide (a ≤ y) && decide (y ≤ b))
    rw [decide_eq_decide.mpr k1, decide_eq_decide.mpr (show x ≤ b ↔ y ≤ b by omega)]
  | .rests m rs, _, hd => fun x y _ _ e _ => by
    have hd : m ∣ M := hd
    show rs.contains (x % m) = rs.contains (y % m)
    rw [← Int.emod_emod_of_dvd x hd, ← Int.emod_emod_of_dvd y hd, e]
  | .node o l r, ok, hd => fun x y hx hy e k => by
    have a := Tr.mod_ok hL ok.1
    have b := Tr.mod_ok hL ok.2.1
    have c := lc_facts a.1 b.1 hL a.2.1 b.2.1
    have hd : lc l.mod r.mod ∣ M := hd
    have e1 := has_pc hL ok.1 (Int.dvd_trans c.2.2.2.1 hd) x y hx hy e fun c hc => k c (List.mem_append_left _ hc)
    have e2 := has_pc hL ok.2.1 (Int.dvd_trans c.2.2.2.2 hd) x y hx hy e fun c hc => k c (List.mem_append_right _ hc)
    show o.fn (l.has x) (r.has x) = o.fn (l.has y) (r.has y)
    rw [e1, e2]
theorem top_cut (x : Int) (hx : 0 ≤ x) : ∀ cs : List Int, ∃ c ∈ (0 :: cs), c ≤ x ∧ ∀ d ∈ cs, d ≤ x → d ≤ c
  | [] => ⟨0, List.mem_cons_self, hx, fun d hd => nomatch hd⟩
  | d :: ds => by
    obtain ⟨c, hc, h1, h2⟩ := top_cut x hx ds
    have hc2 : c ∈ 0 :: d :: ds := by
      rcases List.mem_cons.mp hc with rfl | h
      · exact List.mem_cons_self
      · exact List.mem_cons_of_mem _ (List.mem_cons_of_mem _ h)
    by_cases q : d ≤ x ∧ c < d
    · refine ⟨d, List.mem_cons_of_mem _ List.mem_cons_self, q.1, fun e he hx => ?_⟩
      rcases List.mem_cons.mp he with rfl | he
      · exact Int.le_refl _
      · have := h2 e he hx
        omega
    · refine ⟨c, hc2, h1, fun e he hx => ?_⟩
      rcases List.mem_cons.mp he with rfl | he
      · omega
      · exact h2 e he hx
theorem pt_of {M : Int} (hM : 0 < M) (cs : List Int) (x : Int) (hx : 0 ≤ x) (hc : ∀ c ∈ cs, 0 ≤ c) : ∃ p ∈ pts M (0 :: cs), 0 ≤ p ∧ p % M = x % M ∧ ∀ c ∈ cs, c ≤ p ↔ c ≤ x := by
  obtain ⟨c, h1, h2, h3⟩ := top_cut x hx cs
  have c0 : 0 ≤ c := by
    rcases List.mem_cons.mp h1 with rfl | h
    · exact Int.le_refl _
    · exact hc c h
  have r1 := Int.emod_nonneg (x - c) (show M ≠ 0 by omega)
  have r2 := Int.emod_lt_of_pos (x - c) hM
  have r3 := Int.emod_add_mul_ediv (x - c) M
  have r4 := Int.mul_nonneg (Int.le_of_lt hM) (Int.ediv_nonneg (show 0 ≤ x - c by omega) (Int.le_of_lt hM))
  refine ⟨c + (x - c) % M, ?_, by omega, ?_, fun d hd => ⟨fun h => by omega, fun h => by have := h3 d hd h; omega⟩⟩
  · refine List.mem_flatten.mpr ⟨ptAt M c, List.mem_map.mpr ⟨c, h1, rfl⟩, List.mem_filter.mpr ⟨List.mem_map.mpr ⟨((x - c) % M + M).toNat, List.mem_range.mpr (by omega), by omega⟩, decide_eq_true (by omega)⟩⟩
  · rw [Int.add_emod_emod]
    congr 1
    omega
theorem pts_pos {M p : Int} {cs : List Int} (h : p ∈ pts M cs) : 0 ≤ p := by
  obtain ⟨l, hl, hp⟩ := List.mem_flatten.mp h
  obtain ⟨c, _, rfl⟩ := List.mem_map.mp hl
  exact of_decide_eq_true (List.mem_filter.mp hp).2
theorem le_pts {M : Int} {cs : List Int} {f g : Int → Bool} (hM : 0 < M) (hc : ∀ c ∈ cs, 0 ≤ c) (hf : Pc M cs f) (hg : Pc M cs g) : leB f g = (pts M (0 :: cs)).all fun p => !f p || g p := by
  rw [Bool.eq_iff_iff, leB_iff, List.all_eq_true]
  constructor
  · intro h p hp
    have := h p (pts_pos hp)
    cases q : f p
    · rfl
    · rw [this q] <;> rfl
  · intro h x hx fx
    obtain ⟨p, hp, p0, e, k⟩ := pt_of hM cs x hx hc
    have e1 := hf p x p0 hx e k
    have e2 := hg p x p0 hx e k
    have := h p hp
    rw [e1, e2, fx] at this
    simpa using this
theorem cuts_pos {L : Int} : ∀ {t : Tr}, t.Ok L → ∀ c ∈ t.cuts, 0 ≤ c
  | .span a none, ok => fun c hc => by
    obtain rfl := List.mem_singleton.mp hc
    exact ok.1
  | .span a (some b), ok => fun c hc => by
    have := ok.2 b rfl
    have := ok.1
    rcases List.mem_cons.mp hc with rfl | hc
    · exact ok.1
    · obtain rfl := List.mem_singleton.mp hc
      omega
  | .rests _ _, _ => fun c hc => nomatch hc
  | .node _ l r, ok => fun c hc => (List.mem_append.mp hc).elim (cuts_pos ok.1 c) (cuts_pos ok.2.1 c)
end Toy

set_option Elab.async false
set_option linter.all false
set_option maxRecDepth 100000
set_option maxHeartbeats 4000000
namespace Toy
open PySem PySem.Spec PyProof.Rows L2 My Dt SX
local macro_rules | `(tactic| walk_at "rg") => `(tactic| first
  | omega
  | ((refine And.intro ?_ (And.intro ?_ (And.intro ?_ ?_))) <;> omega))
local macro_rules | `(tactic| walk_at "ls") => `(tactic| first
  | with_reducible exact ls_v
  | with_reducible exact ls_b
  | ((with_reducible refine' ls_p ?hlp); (case hlp => with_reducible assumption)))
local macro_rules | `(tactic| walk_at "start") => `(tactic| ((simp only [startM, startS, List.map_cons, List.map_nil, List.length_cons, List.length_nil, List.cons_append, List.nil_append, Nat.reduceAdd, Nat.reduceSub, List.replicate_succ, List.replicate_zero]); exact rfl))
local macro_rules | `(tactic| walk_at "set") => `(tactic| first
  | ((dsimp only [Int.reduceToNat, List.set_cons_zero, List.set_cons_succ]); done)
  | ((dsimp only [Int.reduceToNat, List.set_cons_zero, List.set_cons_succ]); exact rfl)
  | exact rfl)
local macro_rules | `(tactic| walk_at "sz") => `(tactic| first
  | exact sz_of (Nat.le_of_ble_eq_true rfl)
  | (apply sz_of; simp only [List.length_cons, List.length_nil, List.length_append, List.length_map]; omega))
local macro_rules | `(tactic| walk_at "side") => `(tactic| first
  | with_reducible assumption
  | omega
  | exact ml (by omega) (by omega)
  | exact mr (by omega) (by omega)
  | exact dv (by omega) (by omega)
  | exact Bd.mulOk (by with_reducible assumption) (by with_reducible assumption) (by decide) (by decide) (by decide)
  | exact Bd.div (by with_reducible assumption) (by omega) (by decide) (by decide)
  | (show (0 : Int) < _; omega)
  | exact ⟨by decide, by decide, by decide⟩
  | decide
  | exact rfl)
local macro_rules | `(tactic| walk_at "st") => `(tactic| first
  | with_reducible refine q_seq ?_
  | with_reducible refine q_end ?_
  | with_reducible refine q_nil ?_
  | with_reducible refine q_asg ?_
  | with_reducible refine q_ret ?_
  | with_reducible refine q_if ?_
  | with_reducible refine q_expr ?_
  | with_reducible refine q_retN ?_
  | with_reducible refine q_sub ?_
  | with_reducible refine q_for ?_
  | with_reducible refine q_par ?_
  | with_reducible refine q_par3 ?_
  | with_reducible refine q_asgF ?_
  | with_reducible refine q_asgC ?_
  | ((with_reducible refine' q_frz ?ef ?_); (case ef => exact rfl))
  | ((with_reducible refine' q_app ?ea ?eb ?_); (case ea => exact rfl); (case eb => walk_at "slen"))
  | with_reducible refine q_brk ?_
  | with_reducible refine q_cnt ?_
  | with_reducible refine q_fldS ?_
  | with_reducible refine q_fldP ?_
  | with_reducible refine q_raise ?_
  | with_reducible refine q_try ?_)
local macro_rules | `(tactic| walk_at "slen") => `(tactic| first
  | with_reducible assumption
  | ((rw [sizeLine_eq]); (simp only [List.length_cons, List.length_nil, List.length_append, List.length_map]); omega))
local macro_rules | `(tactic| walk_at "sm") => `(tactic| first
  | with_reducible refine s_add ?_
  | with_reducible refine s_sub ?_
  | ((with_reducible refine' s_mul ?hm ?_); (case hm => walk_at "side"))
  | ((with_reducible refine' s_fdiv ?hm ?_); (case hm => walk_at "side"))
  | ((with_reducible refine' s_mod ?hm ?_); (case hm => walk_at "side"))
  | with_reducible refine s_neg ?_
  | ((with_reducible refine' s_pow ?hm ?_); (case hm => walk_at "side"))
  | ((with_reducible refine' s_ixL ?hl ?he ?_); (case hl => walk_at "ls"); (case he => exact rfl))
  | ((with_reducible refine' s_ixT ?he ?_); (case he => exact rfl))
  | ((with_reducible refine' set_L2 ?ha ?hb ?hc ?_); (case ha => with_reducible assumption); (case hb => exact rfl); (case hc => walk_at "set"))
  | with_reducible refine s_addB ?_
  | with_reducible refine s_lt ?_
  | with_reducible refine s_le ?_
  | with_reducible refine s_gt ?_
  | with_reducible refine s_ge ?_
  | with_reducible refine s_eq ?_
  | with_reducible refine s_ne ?_
  | with_reducible refine s_eqS ?_
  | with_reducible refine s_neS ?_
  | with_reducible refine s_isN ?_
  | with_reducible refine s_isNotN ?_
  | with_reducible refine t_bl ?_)
local macro_rules | `(tactic| walk_at "cl") => `(tactic| first
  | with_reducible refine c_int ?_
  | with_reducible refine c_intB ?_
  | with_reducible refine c_abs ?_
  | ((with_reducible refine' c_max ?hm ?_); (case hm => exact rfl))
  | ((with_reducible refine' c_min ?hm ?_); (case hm => exact rfl))
  | ((with_reducible refine' c_divmod ?hm ?_); (case hm => walk_at "side"))
  | ((with_reducible refine' c_len ?hm ?_); (case hm => walk_at "sq"))
  | ((with_reducible refine' c_list ?hm ?_); (case hm => walk_at "sq"))
  | ((with_reducible refine' c_tuple ?hm ?_); (case hm => walk_at "sq")))
local macro_rules | `(tactic| walk_at "sq") => `(tactic| first
  | exact sqL
  | exact sqT
  | exact sqB
  | exact sqP (by with_reducible assumption))
local macro_rules | `(tactic| walk_at "v") => `(tactic| first
  | ((with_reducible refine' v_sh ?ev ?_); (case ev => exact rfl))
  | ((with_reducible refine' v_ol ?ev ?_); (case ev => exact rfl))
  | ((with_reducible refine' v_slf ?ev ?_); (case ev => exact rfl))
  | with_reducible refine q_val ?_
  | ((with_reducible refine' q_walk ?ew ?_); (case ew => exact rfl))
  | ((with_reducible refine' q_rng1 ?ej ?ek ?_); (case ej => walk_at "rg"); (case ek => walk_at "rg"))
  | ((with_reducible refine' q_rng2 ?ej ?_); (case ej => walk_at "rg"))
  | with_reducible refine q_rngL ?_
  | with_reducible refine q_solc ?_
  | with_reducible refine q_sol0 ?_
  | ((with_reducible refine' q_gname ?eg ?_); (case eg => walk_at "set"))
  | ((with_reducible refine' n_set ?eg ?_); (case eg => walk_at "set"))
  | ((with_reducible refine' n_set2 ?eg ?_); (case eg => walk_at "set"))
  | ((with_reducible refine' n_set3 ?eg ?_); (case eg => walk_at "set"))
  | with_reducible refine q_two ?_
  | with_reducible refine q_three ?_
  | with_reducible refine q_bl ?_
  | with_reducible refine q_oint ?_
  | ((with_reducible refine' q_gtup ?el ?_); (case el => exact rfl))
  | with_reducible refine q_gcons ?_
  | with_reducible refine q_gnil ?_
  | with_reducible refine i_t ?_
  | with_reducible refine i_f ?_
  | with_reducible refine i_nt ?_
  | with_reducible refine i_nf ?_
  | ((with_reducible refine' n_t ?en ?_); (case en => exact rfl))
  | ((with_reducible refine' n_f ?en ?_); (case en => exact rfl))
  | ((with_reducible refine' nn_t ?en ?_); (case en => exact rfl))
  | ((with_reducible refine' nn_f ?en ?_); (case en => exact rfl))
  | with_reducible refine And.intro (by walk_at "sz") ?_)
local macro_rules | `(tactic| walk_at "d") => `(tactic| first
  | walk_at "v"
  | walk_at "st"
  | walk_at "sm"
  | walk_at "cl"
  | walk_at "at")
local macro_rules | `(tactic| walk_at "dd") => `(tactic| repeat walk_at "d")

variable {P : Program} {w : World} {K : PySem.W.Frag} {mg : Str → Option Value} {base : Heap} {S : Sto} {Ex : XS} {Q : QO}
theorem zip_pts {α : Type} (f g : α → Bool) : ∀ ps : List α, zipD ((ps.map f).map D.bl) ((ps.map g).map D.bl) = ps.map fun p => D.tup [.bl (f p), .bl (g p)]
  | [] => rfl
  | p :: ps => by
    show D.tup [.bl (f p), .bl (g p)] :: zipD ((ps.map f).map D.bl) ((ps.map g).map D.bl) = _
    rw [zip_pts f g ps] <;> rfl
def orD : D → D
  | .tup [.bl x, .bl y] => .bl (!x || y)
  | d => d
def orD2 : D → D
  | .tup [.bl x, .bl y] => .bl (!y || x)
  | d => d
theorem ok_compared (T : Tx K mg) {L : Int} (hL : 0 < L) (hL2 : L ≤ 5040) {a b : Tr} (oa : a.Ok L) (ob : b.Ok L) (da : a.dep ≤ 5) (db : b.dep ≤ 5) (hz : (a.n + 3) * (b.n + 3) ≤ 8000000) (la : a.cuts.length ≤ 40) (lb : b.cuts.length ≤ 40) (q : Q (.v (.bl true)) S) : sFun (bs P w K mg base) 12 (.ref (He.ga K "_law_compared_right")) [] [a.toD, b.toD] [] S Ex Q := by
  have ma := Tr.mod_ok hL oa
  have mb := Tr.mod_ok hL ob
  have mm := lc_facts ma.1 mb.1 hL ma.2.1 mb.2.1
  refine' call_d (B := bs P w K mg base) 11 (Classical.choose_spec T.d_law_compared_right) sc_law_compared_right rfl (bm_all (ps := ["_law_first", "_law_second"]) (Classical.choose_spec T.d_law_compared_right) (fun _ _ _ _ _ _ us hl => match us, hl with | [_, _], _ => rfl)) (dss_cons (dst 2 (de_call rfl rfl ⟨T.g_law_common, (Classical.choose_spec T.d_law_common).kp⟩ (da_cons (de_call rfl rfl ⟨T.g_law_modulus, (Classical.choose_spec T.d_law_modulus).kp⟩ (da_cons (dv 0) da_nil)) (da_cons (de_call rfl rfl ⟨T.g_law_modulus, (Classical.choose_spec T.d_law_modulus).kp⟩ (da_cons (dv 1) da_nil)) da_nil)))) (dss_cons (dst 3 (de_call rfl rfl ⟨T.g_law_points, (Classical.choose_spec T.d_law_points).kp⟩ (da_cons (de_bin (de_call rfl rfl ⟨T.g_law_cuts, (Classical.choose_spec T.d_law_cuts).kp⟩ (da_cons (dv 0) da_nil)) (de_call rfl rfl ⟨T.g_law_cuts, (Classical.choose_spec T.d_law_cuts).kp⟩ (da_cons (dv 1) da_nil))) (da_cons (dv 2) da_nil)))) (dss_cons (ds_par (i := 4) (j := 5) rfl rfl rfl (by decide) rfl rfl (da_cons (DF.de (df_lc (own := [("_law_x", 12)]) rfl (by decide) (di_val (dv 3)) (blkOk_by (N := ["_law_first", "_law_second", "_law_modulus_here", "_law_points_here", "_law_left", "_law_right_here", "_law_less", "_law_more", "_law_one", "_law_two", "_law_told", "_law_same", "_law_x"]) (sc := defScope s_law_compared_right) (by decide +kernel)) (dgn 12) dts_nil (de_call rfl rfl ⟨T.g_law_has, (Classical.choose_spec T.d_law_has).kp⟩ (da_cons (dv 0) (da_cons (dv 12) da_nil))))) (da_cons (DF.de (df_lc (own := [("_law_x", 12)]) rfl (by decide) (di_val (dv 3)) (blkOk_by (N := ["_law_first", "_law_second", "_law_modulus_here", "_law_points_here", "_law_left", "_law_right_here", "_law_less", "_law_more", "_law_one", "_law_two", "_law_told", "_law_same", "_law_x"]) (sc := defScope s_law_compared_right) (by decide +kernel)) (dgn 12) dts_nil (de_call rfl rfl ⟨T.g_law_has, (Classical.choose_spec T.d_law_has).kp⟩ (da_cons (dv 1) (da_cons (dv 12) da_nil))))) da_nil)) (fun env h => by cases env; cases h; rfl)) (dss_cons (dst 6 (de_callB (id := "all") rfl T.f_all (by decide +kernel) (da_cons (DF.de (df_lc (own := [("_law_one", 8), ("_law_two", 9)]) rfl (by decide) (di_zip rfl T.f_zip (da_cons (dv 4) (da_cons (dv 5) da_nil))) (blkOk_by (N := ["_law_first", "_law_second", "_law_modulus_here", "_law_points_here", "_law_left", "_law_right_here", "_law_less", "_law_more", "_law_one", "_law_two", "_law_told", "_law_same", "_law_x"]) (sc := defScope s_law_compared_right) (by decide +kernel)) (dg_tup (n := 2) rfl (dgs_cons (dgn 8) (dgs_cons (dgn 9) dgs_nil))) dts_nil (de_or (de_not (dv 8)) (de_one (dv 9))))) da_nil))) (dss_cons (dst 7 (de_callB (id := "all") rfl T.f_all (by decide +kernel) (da_cons (DF.de (df_lc (own := [("_law_one", 8), ("_law_two", 9)]) rfl (by decide) (di_zip rfl T.f_zip (da_cons (dv 4) (da_cons (dv 5) da_nil))) (blkOk_by (N := ["_law_first", "_law_second", "_law_modulus_here", "_law_points_here", "_law_left", "_law_right_here", "_law_less", "_law_more", "_law_one", "_law_two", "_law_told", "_law_same", "_law_x"]) (sc := defScope s_law_compared_right) (by decide +kernel)) (dg_tup (n := 2) rfl (dgs_cons (dgn 8) (dgs_cons (dgn 9) dgs_nil))) dts_nil (de_or (de_not (dv 9)) (de_one (dv 8))))) da_nil))) (dss_cons (ds_par (i := 8) (j := 9) rfl rfl rfl (by decide) rfl rfl (da_cons (de_call rfl rfl ⟨T.g_law_set, (Classical.choose_spec T.d_law_set).kp⟩ (da_cons (dv 0) da_nil)) (da_cons (de_call rfl rfl ⟨T.g_law_set, (Classical.choose_spec T.d_law_set).kp⟩ (da_cons (dv 1) da_nil)) da_nil)) (fun env h => by cases env; cases h; rfl)) (dss_cons (dst 10 (de_lstV (da_cons (de_cmp (dv 8) (dv 9)) (da_cons (de_cmp (dv 9) (dv 8)) (da_cons (de_cmp (dv 8) (dv 9)) (da_cons (de_cmp (dv 9) (dv 8)) (da_cons (de_cmp (dv 8) (dv 9)) da_nil))))))) (dss_cons (dst 11 (de_and (dv 6) (de_one (dv 7)))) (dss_one (ds_ret (de_cmp (de_callB (id := "repr") rfl T.f_repr (by decide +kernel) (da_cons (dv 10) da_nil)) (de_callB (id := "repr") rfl T.f_repr (by decide +kernel) (da_cons (de_lstV (da_cons (dv 6) (da_cons (dv 7) (da_cons (dv 11) (da_cons (dv 11) (da_cons (de_not (dv 11)) da_nil)))))) da_nil))))))))))))) ⟨rfl, rfl⟩ ?st ?_
  case st => walk_at "start"
  walk_at "dd"
  refine (ok_modulus T hL hL2 a oa ?_).mono (show a.dep + 2 ≤ 11 by omega)
  walk_at "dd"
  refine (ok_modulus T hL hL2 b ob ?_).mono (show b.dep + 2 ≤ 11 by omega)
  walk_at "dd"
  refine (ok_lcommon T ma.1 (by omega) mb.1 (by omega) ?_).mono (Nat.le_of_ble_eq_true rfl)
  walk_at "dd"
  refine (ok_lcuts T a oa ?_).mono (show a.dep + 1 ≤ 11 by omega)
  walk_at "dd"
  refine (ok_lcuts T b ob ?_).mono (show b.dep + 1 ≤ 11 by omega)
  refine s_cat (S := S) ls_v ls_v (by rw [List.length_map, List.length_map, sizeLine_eq]; omega) (.inl ?_)
  rw [← List.map_append]
  walk_at "dd"
  refine (ok_lpoints T mm.1 (by omega) (by rw [List.length_append]; omega) ?_).mono (Nat.le_of_ble_eq_true rfl)
  have pl := pts_len (M := lc a.mod b.mod) (by omega) (0 :: (a.cuts ++ b.cuts))
  rw [List.length_cons, List.length_append] at pl
  have key : leB a.has b.has = (pts (lc a.mod b.mod) (0 :: (a.cuts ++ b.cuts))).all fun p => !a.has p || b.has p := le_pts mm.1 (fun c hc => (List.mem_append.mp hc).elim (cuts_pos oa c) (cuts_pos ob c)) ((has_pc hL oa mm.2.2.2.1).mono fun c hc => List.mem_append_left _ hc) ((has_pc hL ob mm.2.2.2.2).mono fun c hc => List.mem_append_right _ hc)
  have key2 : leB b.has a.has = (pts (lc a.mod b.mod) (0 :: (a.cuts ++ b.cuts))).all fun p => !b.has p || a.has p := le_pts mm.1 (fun c hc => (List.mem_append.mp hc).elim (cuts_pos oa c) (cuts_pos ob c)) ((has_pc hL ob mm.2.2.2.2).mono fun c hc => List.mem_append_right _ hc) ((has_pc hL oa mm.2.2.2.1).mono fun c hc => List.mem_append_left _ hc)
  generalize pts (lc a.mod b.mod) (0 :: (a.cuts ++ b.cuts)) = ps at key key2 pl
  walk_at "dd"
  have lp : (ps.map D.int).length ≤ 1000000 → True := fun _ => trivial
  have el : ∀ t : Tr, ((ps.map D.int).filter (fun _ => true)).map (fun d => match d with | .int i => D.bl (t.has i) | d => d) = (ps.map t.has).map .bl := fun t => by
    rw [List.filter_eq_self.mpr fun _ _ => rfl, List.map_map, List.map_map] <;> rfl
  refine lc_pure (fun _ => true) (fun d => match d with | .int i => D.bl (a.has i) | d => d) (by rw [List.length_map]; omega) (fun z hz X Y h1 h2 => ?_) ?_
  · obtain ⟨j, hj, rfl⟩ := List.mem_map.mp hz
    walk_at "dd"
    refine (ok_has T hL hL2 a oa ?_).mono (show a.dep + 1 ≤ 11 by omega)
    exact h1 rfl
  rw [el]
  walk_at "dd"
  refine lc_pure (fun _ => true) (fun d => match d with | .int i => D.bl (b.has i) | d => d) (by rw [List.length_map]; omega) (fun z hz X Y h1 h2 => ?_) ?_
  · obtain ⟨j, hj, rfl⟩ := List.mem_map.mp hz
    walk_at "dd"
    refine (ok_has T hL hL2 b ob ?_).mono (show b.dep + 1 ≤ 11 by omega)
    exact h1 rfl
  rw [el]
  walk_at "dd"
  refine ⟨_, _, rfl, ?_⟩
  rw [zip_pts]
  walk_at "dd"
  refine lc_pure (fun _ => true) orD (by rw [List.length_map]; omega) (fun z hz X Y h1 h2 => ?_) ?_
  · obtain ⟨j, hj, rfl⟩ := List.mem_map.mp hz
    have h1 : X (.v (.bl (!a.has j || b.has j))) S := h1 rfl
    walk_at "dd"
    cases qa : a.has j <;> rw [qa] at h1
    · walk_at "dd"
      exact h1
    · walk_at "dd"
      exact h1
  rw [show ((ps.map fun p => D.tup [.bl (a.has p), .bl (b.has p)]).filter (fun _ => true)).map orD = (ps.map fun p => !a.has p || b.has p).map .bl from by
    rw [List.filter_eq_self.mpr fun _ _ => rfl, List.map_map, List.map_map] <;> rfl]
  walk_at "dd"
  refine c_all rfl ls_v ?_
  rw [show (ps.map fun p => !a.has p || b.has p).all id = leB a.has b.has from by rw [key, List.all_map] <;> rfl]
  walk_at "dd"
  refine ⟨_, _, rfl, ?_⟩
  rw [zip_pts]
  walk_at "dd"
  refine lc_pure (fun _ => true) orD2 (by rw [List.length_map]; omega) (fun z hz X Y h1 h2 => ?_) ?_
  · obtain ⟨j, hj, rfl⟩ := List.mem_map.mp hz
    have h1 : X (.v (.bl (!b.has j || a.has j))) S := h1 rfl
    walk_at "dd"
    cases qa : b.has j <;> rw [qa] at h1
    · walk_at "dd"
      exact h1
    · walk_at "dd"
      exact h1
  rw [show ((ps.map fun p => D.tup [.bl (a.has p), .bl (b.has p)]).filter (fun _ => true)).map orD2 = (ps.map fun p => !b.has p || a.has p).map .bl from by
    rw [List.filter_eq_self.mpr fun _ _ => rfl, List.map_map, List.map_map] <;> rfl]
  walk_at "dd"
  refine c_all rfl ls_v ?_
  rw [show (ps.map fun p => !b.has p || a.has p).all id = leB b.has a.has from by rw [key2, List.all_map] <;> rfl]
  walk_at "dd"
  refine (ok_lset T hL hL2 a oa fun R sa => ?_).mono (show a.dep + 5 ≤ 11 by omega)
  walk_at "dd"
  refine (ok_lset T hL hL2 b ob fun M sb => ?_).mono (show b.dep + 5 ≤ 11 by omega)
  walk_at "dd"
  have hz2 : (b.n + 3) * (a.n + 3) ≤ 8000000 := by rw [Nat.mul_comm]; exact hz
  refine s_ownC (fun _ _ => rfl) rfl isI_ins isI_ins T.sp_Sizes__le ((ok_le T sa sb hL hL2 ma.2.1 mb.2.1 hz ?_).mono (Nat.le_of_ble_eq_true rfl))
  walk_at "dd"
  refine s_ownC (fun _ _ => rfl) rfl isI_ins isI_ins T.sp_Sizes__le ((ok_le T sb sa hL hL2 mb.2.1 ma.2.1 hz2 ?_).mono (Nat.le_of_ble_eq_true rfl))
  walk_at "dd"
  refine s_ownC (fun _ _ => rfl) rfl isI_ins isI_ins T.sp_Sizes__eq ((ok_eq T sa sb hL hL2 ma.2.1 mb.2.1 hz ?_).mono (Nat.le_of_ble_eq_true rfl))
  walk_at "dd"
  refine s_ownC (fun _ _ => rfl) rfl isI_ins isI_ins T.sp_Sizes__eq ((ok_eq T sb sa hL hL2 mb.2.1 ma.2.1 hz2 ?_).mono (Nat.le_of_ble_eq_true rfl))
  walk_at "dd"
  refine s_ownNe (k := 10) rfl isI_ins isI_ins T.ne_Sizes T.sp_Sizes__eq ((ok_eq T sa sb hL hL2 ma.2.1 mb.2.1 hz ?_).mono (Nat.le_of_ble_eq_true rfl))
  refine ⟨_, rfl, ?_⟩
  clear key key2
  generalize leB a.has b.has = x
  generalize leB b.has a.has = y
  walk_at "dd"
  have fin : ∀ u : Str, Q (.v (.bl (decide (u = u)))) S := fun u => by
    rw [decide_eq_true rfl]
    exact q
  cases x <;> cases y
  all_goals
    walk_at "dd"
    refine c_repr (pdV rfl) rfl rfl (by decide) (by rw [sizeLine_eq]; decide +kernel) ?_
    walk_at "dd"
    refine c_repr (pdV rfl) rfl rfl (by decide) (by rw [sizeLine_eq]; decide +kernel) ?_
    walk_at "dd"
    exact fin _
end Toy

set_option Elab.async false
set_option linter.all false
set_option maxRecDepth 100000
set_option maxHeartbeats 4000000
namespace Toy
open PySem PySem.Spec PyProof.Rows L2 My Dt SX
local macro_rules | `(tactic| walk_at "rg") => `(tactic| first
  | omega
  | ((refine And.intro ?_ (And.intro ?_ (And.intro ?_ ?_))) <;> omega))
local macro_rules | `(tactic| walk_at "ls") => `(tactic| first
  | with_reducible exact ls_v
  | with_reducible exact ls_b
  | ((with_reducible refine' ls_p ?hlp); (case hlp => with_reducible assumption)))
local macro_rules | `(tactic| walk_at "start") => `(tactic| ((simp only [startM, startS, List.map_cons, List.map_nil, List.length_cons, List.length_nil, List.cons_append, List.nil_append, Nat.reduceAdd, Nat.reduceSub, List.replicate_succ, List.replicate_zero]); exact rfl))
local macro_rules | `(tactic| walk_at "set") => `(tactic| first
  | ((dsimp only [Int.reduceToNat, List.set_cons_zero, List.set_cons_succ]); done)
  | ((dsimp only [Int.reduceToNat, List.set_cons_zero, List.set_cons_succ]); exact rfl)
  | exact rfl)
local macro_rules | `(tactic| walk_at "sz") => `(tactic| first
  | exact sz_of (Nat.le_of_ble_eq_true rfl)
  | (apply sz_of; simp only [List.length_cons, List.length_nil, List.length_append, List.length_map]; omega))
local macro_rules | `(tactic| walk_at "side") => `(tactic| first
  | with_reducible assumption
  | omega
  | exact ml (by omega) (by omega)
  | exact mr (by omega) (by omega)
  | exact dv (by omega) (by omega)
  | exact Bd.mulOk (by with_reducible assumption) (by with_reducible assumption) (by decide) (by decide) (by decide)
  | exact Bd.div (by with_reducible assumption) (by omega) (by decide) (by decide)
  | (show (0 : Int) < _; omega)
  | exact ⟨by decide, by decide, by decide⟩
  | decide
  | exact rfl)
local macro_rules | `(tactic| walk_at "st") => `(tactic| first
  | with_reducible refine q_seq ?_
  | with_reducible refine q_end ?_
  | with_reducible refine q_nil ?_
  | with_reducible refine q_asg ?_
  | with_reducible refine q_ret ?_
  | with_reducible refine q_if ?_
  | with_reducible refine q_expr ?_
  | with_reducible refine q_retN ?_
  | with_reducible refine q_sub ?_
  | with_reducible refine q_for ?_
  | with_reducible refine q_par ?_
  | with_reducible refine q_par3 ?_
  | with_reducible refine q_asgF ?_
  | with_reducible refine q_asgC ?_
  | ((with_reducible refine' q_frz ?ef ?_); (case ef => exact rfl))
  | ((with_reducible refine' q_app ?ea ?eb ?_); (case ea => exact rfl); (case eb => walk_at "slen"))
  | with_reducible refine q_brk ?_
  | with_reducible refine q_cnt ?_
  | with_reducible refine q_fldS ?_
  | with_reducible refine q_fldP ?_
  | with_reducible refine q_raise ?_
  | with_reducible refine q_try ?_)
local macro_rules | `(tactic| walk_at "slen") => `(tactic| first
  | with_reducible assumption
  | ((rw [sizeLine_eq]); (simp only [List.length_cons, List.length_nil, List.length_append, List.length_map]); omega))
local macro_rules | `(tactic| walk_at "sm") => `(tactic| first
  | with_reducible refine s_add ?_
  | with_reducible refine s_sub ?_
  | ((with_reducible refine' s_mul ?hm ?_); (case hm => walk_at "side"))
  | ((with_reducible refine' s_fdiv ?hm ?_); (case hm => walk_at "side"))
  | ((with_reducible refine' s_mod ?hm ?_); (case hm => walk_at "side"))
  | with_reducible refine s_neg ?_
  | ((with_reducible refine' s_pow ?hm ?_); (case hm => walk_at "side"))
  | ((with_reducible refine' s_ixL ?hl ?he ?_); (case hl => walk_at "ls"); (case he => exact rfl))
  | ((with_reducible refine' s_ixT ?he ?_); (case he => exact rfl))
  | ((with_reducible refine' set_L2 ?ha ?hb ?hc ?_); (case ha => with_reducible assumption); (case hb => exact rfl); (case hc => walk_at "set"))
  | with_reducible refine s_addB ?_
  | with_reducible refine s_lt ?_
  | with_reducible refine s_le ?_
  | with_reducible refine s_gt ?_
  | with_reducible refine s_ge ?_
  | with_reducible refine s_eq ?_
  | with_reducible refine s_ne ?_
  | with_reducible refine s_eqS ?_
  | with_reducible refine s_neS ?_
  | with_reducible refine s_isN ?_
  | with_reducible refine s_isNotN ?_
  | with_reducible refine t_bl ?_)
local macro_rules | `(tactic| walk_at "cl") => `(tactic| first
  | with_reducible refine c_int ?_
  | with_reducible refine c_intB ?_
  | with_reducible refine c_abs ?_
  | ((with_reducible refine' c_max ?hm ?_); (case hm => exact rfl))
  | ((with_reducible refine' c_min ?hm ?_); (case hm => exact rfl))
  | ((with_reducible refine' c_divmod ?hm ?_); (case hm => walk_at "side"))
  | ((with_reducible refine' c_len ?hm ?_); (case hm => walk_at "sq"))
  | ((with_reducible refine' c_list ?hm ?_); (case hm => walk_at "sq"))
  | ((with_reducible refine' c_tuple ?hm ?_); (case hm => walk_at "sq")))
local macro_rules | `(tactic| walk_at "sq") => `(tactic| first
  | exact sqL
  | exact sqT
  | exact sqB
  | exact sqP (by with_reducible assumption))
local macro_rules | `(tactic| walk_at "v") => `(tactic| first
  | ((with_reducible refine' v_sh ?ev ?_); (case ev => exact rfl))
  | ((with_reducible refine' v_ol ?ev ?_); (case ev => exact rfl))
  | ((with_reducible refine' v_slf ?ev ?_); (case ev => exact rfl))
  | with_reducible refine q_val ?_
  | ((with_reducible refine' q_walk ?ew ?_); (case ew => exact rfl))
  | ((with_reducible refine' q_rng1 ?ej ?ek ?_); (case ej => walk_at "rg"); (case ek => walk_at "rg"))
  | ((with_reducible refine' q_rng2 ?ej ?_); (case ej => walk_at "rg"))
  | with_reducible refine q_rngL ?_
  | with_reducible refine q_solc ?_
  | with_reducible refine q_sol0 ?_
  | ((with_reducible refine' q_gname ?eg ?_); (case eg => walk_at "set"))
  | ((with_reducible refine' n_set ?eg ?_); (case eg => walk_at "set"))
  | ((with_reducible refine' n_set2 ?eg ?_); (case eg => walk_at "set"))
  | ((with_reducible refine' n_set3 ?eg ?_); (case eg => walk_at "set"))
  | with_reducible refine q_two ?_
  | with_reducible refine q_three ?_
  | with_reducible refine q_bl ?_
  | with_reducible refine q_oint ?_
  | ((with_reducible refine' q_gtup ?el ?_); (case el => exact rfl))
  | with_reducible refine q_gcons ?_
  | with_reducible refine q_gnil ?_
  | with_reducible refine i_t ?_
  | with_reducible refine i_f ?_
  | with_reducible refine i_nt ?_
  | with_reducible refine i_nf ?_
  | ((with_reducible refine' n_t ?en ?_); (case en => exact rfl))
  | ((with_reducible refine' n_f ?en ?_); (case en => exact rfl))
  | ((with_reducible refine' nn_t ?en ?_); (case en => exact rfl))
  | ((with_reducible refine' nn_f ?en ?_); (case en => exact rfl))
  | with_reducible refine And.intro (by walk_at "sz") ?_)
local macro_rules | `(tactic| walk_at "d") => `(tactic| first
  | walk_at "v"
  | walk_at "st"
  | walk_at "sm"
  | walk_at "cl"
  | walk_at "at")
local macro_rules | `(tactic| walk_at "dd") => `(tactic| repeat walk_at "d")

variable {P : Program} {w : World} {K : PySem.W.Frag} {mg : Str → Option Value} {base : Heap} {S : Sto} {Ex : XS} {Q : QO}
/-- the pairs of two ways -/
def ways (a b : Tr) : List (Tr × Tr) := [(.node .both a b, .node .first a (.node .first a b)), (.node .any a b, .node .any b (.node .first a b)), (.node .first a b, .node .first (.node .any a b) b), (.node .both a b, .node .both b a)]
theorem ways_same {a b l r : Tr} (h : (l, r) ∈ ways a b) (x : Int) : l.has x = r.has x := by
  simp only [ways, List.mem_cons, List.not_mem_nil, or_false, Prod.mk.injEq] at h
  rcases h with ⟨rfl, rfl⟩ | ⟨rfl, rfl⟩ | ⟨rfl, rfl⟩ | ⟨rfl, rfl⟩ <;> simp only [Tr.has, Wo.fn] <;> cases a.has x <;> cases b.has x <;> rfl
theorem ways_le {a b l r : Tr} (h : (l, r) ∈ ways a b) : leB l.has r.has = true ∧ leB r.has l.has = true :=
  ⟨leB_iff.mpr fun x _ e => by rw [← ways_same h x]; exact e, leB_iff.mpr fun x _ e => by rw [ways_same h x]; exact e⟩
end Toy

set_option Elab.async false
set_option linter.all false
set_option maxRecDepth 100000
set_option maxHeartbeats 4000000
namespace Toy
open PySem PySem.Spec PyProof.Rows L2 My Dt SX
local macro_rules | `(tactic| walk_at "rg") => `(tactic| first
  | omega
  | ((refine And.intro ?_ (And.intro ?_ (And.intro ?_ ?_))) <;> omega))
local macro_rules | `(tactic| walk_at "ls") => `(tactic| first
  | with_reducible exact ls_v
  | with_reducible exact ls_b
  | ((with_reducible refine' ls_p ?hlp); (case hlp => with_reducible assumption)))
local macro_rules | `(tactic| walk_at "start") => `(tactic| ((simp only [startM, startS, List.map_cons, List.map_nil, List.length_cons, List.length_nil, List.cons_append, List.nil_append, Nat.reduceAdd, Nat.reduceSub, List.replicate_succ, List.replicate_zero]); exact rfl))
local macro_rules | `(tactic| walk_at "set") => `(tactic| first
  | ((dsimp only [Int.reduceToNat, List.set_cons_zero, List.set_cons_succ]); done)
  | ((dsimp only [Int.reduceToNat, List.set_cons_zero, List.set_cons_succ]); exact rfl)
  | exact rfl)
local macro_rules | `(tactic| walk_at "sz") => `(tactic| first
  | exact sz_of (Nat.le_of_ble_eq_true rfl)
  | (apply sz_of; simp only [List.length_cons, List.length_nil, List.length_append, List.length_map]; omega))
local macro_rules | `(tactic| walk_at "side") => `(tactic| first
  | with_reducible assumption
  | omega
  | exact ml (by omega) (by omega)
  | exact mr (by omega) (by omega)
  | exact dv (by omega) (by omega)
  | exact Bd.mulOk (by with_reducible assumption) (by with_reducible assumption) (by decide) (by decide) (by decide)
  | exact Bd.div (by with_reducible assumption) (by omega) (by decide) (by decide)
  | (show (0 : Int) < _; omega)
  | exact ⟨by decide, by decide, by decide⟩
  | decide
  | exact rfl)
local macro_rules | `(tactic| walk_at "st") => `(tactic| first
  | with_reducible refine q_seq ?_
  | with_reducible refine q_end ?_
  | with_reducible refine q_nil ?_
  | with_reducible refine q_asg ?_
  | with_reducible refine q_ret ?_
  | with_reducible refine q_if ?_
  | with_reducible refine q_expr ?_
  | with_reducible refine q_retN ?_
  | with_reducible refine q_sub ?_
  | with_reducible refine q_for ?_
  | with_reducible refine q_par ?_
  | with_reducible refine q_par3 ?_
  | with_reducible refine q_asgF ?_
  | with_reducible refine q_asgC ?_
  | ((with_reducible refine' q_frz ?ef ?_); (case ef => exact rfl))
  | ((with_reducible refine' q_app ?ea ?eb ?_); (case ea => exact rfl); (case eb => walk_at "slen"))
  | with_reducible refine q_brk ?_
  | with_reducible refine q_cnt ?_
  | with_reducible refine q_fldS ?_
  | with_reducible refine q_fldP ?_
  | with_reducible refine q_raise ?_
  | with_reducible refine q_try ?_)
local macro_rules | `(tactic| walk_at "slen") => `(tactic| first
  | with_reducible assumption
  | ((rw [sizeLine_eq]); (simp only [List.length_cons, List.length_nil, List.length_append, List.length_map]); omega))
local macro_rules | `(tactic| walk_at "sm") => `(tactic| first
  | with_reducible refine s_add ?_
  | with_reducible refine s_sub ?_
  | ((with_reducible refine' s_mul ?hm ?_); (case hm => walk_at "side"))
  | ((with_reducible refine' s_fdiv ?hm ?_); (case hm => walk_at "side"))
  | ((with_reducible refine' s_mod ?hm ?_); (case hm => walk_at "side"))
  | with_reducible refine s_neg ?_
  | ((with_reducible refine' s_pow ?hm ?_); (case hm => walk_at "side"))
  | ((with_reducible refine' s_ixL ?hl ?he ?_); (case hl => walk_at "ls"); (case he => exact rfl))
  | ((with_reducible refine' s_ixT ?he ?_); (case he => exact rfl))
  | ((with_reducible refine' set_L2 ?ha ?hb ?hc ?_); (case ha => with_reducible assumption); (case hb => exact rfl); (case hc => walk_at "set"))
  | with_reducible refine s_addB ?_
  | with_reducible refine s_lt ?_
  | with_reducible refine s_le ?_
  | with_reducible refine s_gt ?_
  | with_reducible refine s_ge ?_
  | with_reducible refine s_eq ?_
  | with_reducible refine s_ne ?_
  | with_reducible refine s_eqS ?_
  | with_reducible refine s_neS ?_
  | with_reducible refine s_isN ?_
  | with_reducible refine s_isNotN ?_
  | with_reducible refine t_bl ?_)
local macro_rules | `(tactic| walk_at "cl") => `(tactic| first
  | with_reducible refine c_int ?_
  | with_reducible refine c_intB ?_
  | with_reducible refine c_abs ?_
  | ((with_reducible refine' c_max ?hm ?_); (case hm => exact rfl))
  | ((with_reducible refine' c_min ?hm ?_); (case hm => exact rfl))
  | ((with_reducible refine' c_divmod ?hm ?_); (case hm => walk_at "side"))
  | ((with_reducible refine' c_len ?hm ?_); (case hm => walk_at "sq"))
  | ((with_reducible refine' c_list ?hm ?_); (case hm => walk_at "sq"))
  | ((with_reducible refine' c_tuple ?hm ?_); (case hm => walk_at "sq")))
local macro_rules | `(tactic| walk_at "sq") => `(tactic| first
  | exact sqL
  | exact sqT
  | exact sqB
  | exact sqP (by with_reducible assumption))
local macro_rules | `(tactic| walk_at "v") => `(tactic| first
  | ((with_reducible refine' v_sh ?ev ?_); (case ev => exact rfl))
  | ((with_reducible refine' v_ol ?ev ?_); (case ev => exact rfl))
  | ((with_reducible refine' v_slf ?ev ?_); (case ev => exact rfl))
  | with_reducible refine q_val ?_
  | ((with_reducible refine' q_walk ?ew ?_); (case ew => exact rfl))
  | ((with_reducible refine' q_rng1 ?ej ?ek ?_); (case ej => walk_at "rg"); (case ek => walk_at "rg"))
  | ((with_reducible refine' q_rng2 ?ej ?_); (case ej => walk_at "rg"))
  | with_reducible refine q_rngL ?_
  | with_reducible refine q_solc ?_
  | with_reducible refine q_sol0 ?_
  | ((with_reducible refine' q_gname ?eg ?_); (case eg => walk_at "set"))
  | ((with_reducible refine' n_set ?eg ?_); (case eg => walk_at "set"))
  | ((with_reducible refine' n_set2 ?eg ?_); (case eg => walk_at "set"))
  | ((with_reducible refine' n_set3 ?eg ?_); (case eg => walk_at "set"))
  | with_reducible refine q_two ?_
  | with_reducible refine q_three ?_
  | with_reducible refine q_bl ?_
  | with_reducible refine q_oint ?_
  | ((with_reducible refine' q_gtup ?el ?_); (case el => exact rfl))
  | with_reducible refine q_gcons ?_
  | with_reducible refine q_gnil ?_
  | with_reducible refine i_t ?_
  | with_reducible refine i_f ?_
  | with_reducible refine i_nt ?_
  | with_reducible refine i_nf ?_
  | ((with_reducible refine' n_t ?en ?_); (case en => exact rfl))
  | ((with_reducible refine' n_f ?en ?_); (case en => exact rfl))
  | ((with_reducible refine' nn_t ?en ?_); (case en => exact rfl))
  | ((with_reducible refine' nn_f ?en ?_); (case en => exact rfl))
  | with_reducible refine And.intro (by walk_at "sz") ?_)
local macro_rules | `(tactic| walk_at "d") => `(tactic| first
  | walk_at "v"
  | walk_at "st"
  | walk_at "sm"
  | walk_at "cl"
  | walk_at "at")
local macro_rules | `(tactic| walk_at "dd") => `(tactic| repeat walk_at "d")

variable {P : Program} {w : World} {K : PySem.W.Frag} {mg : Str → Option Value} {base : Heap} {S : Sto} {Ex : XS} {Q : QO}
theorem ok_ways (T : Tx K mg) {L : Int} (hL : 0 < L) (hL2 : L ≤ 5040) {a b : Tr} (oa : a.Ok L) (ob : b.Ok L) (na : a.n ≤ 17) (nb : b.n ≤ 17) (da : a.dep ≤ 1) (db : b.dep ≤ 1) (q : Q (.v (.bl true)) S) : sFun (bs P w K mg base) 12 (.ref (He.ga K "_law_ways_right")) [] [a.toD, b.toD] [] S Ex Q := by
  refine' call_d (B := bs P w K mg base) 11 (Classical.choose_spec T.d_law_ways_right) sc_law_ways_right rfl (bm_all (ps := ["_law_first", "_law_second"]) (Classical.choose_spec T.d_law_ways_right) (fun _ _ _ _ _ _ us hl => match us, hl with | [_, _], _ => rfl)) (dss_cons (ds_for rfl rfl (di_val (de_lstV (da_cons (de_tup (da_cons (de_tup (da_cons de_str (da_cons (dv 0) (da_cons (dv 1) da_nil)))) (da_cons (de_tup (da_cons de_str (da_cons (dv 0) (da_cons (de_tup (da_cons de_str (da_cons (dv 0) (da_cons (dv 1) da_nil)))) da_nil)))) da_nil))) (da_cons (de_tup (da_cons (de_tup (da_cons de_str (da_cons (dv 0) (da_cons (dv 1) da_nil)))) (da_cons (de_tup (da_cons de_str (da_cons (dv 1) (da_cons (de_tup (da_cons de_str (da_cons (dv 0) (da_cons (dv 1) da_nil)))) da_nil)))) da_nil))) (da_cons (de_tup (da_cons (de_tup (da_cons de_str (da_cons (dv 0) (da_cons (dv 1) da_nil)))) (da_cons (de_tup (da_cons de_str (da_cons (de_tup (da_cons de_str (da_cons (dv 0) (da_cons (dv 1) da_nil)))) (da_cons (dv 1) da_nil)))) da_nil))) (da_cons (de_tup (da_cons (de_tup (da_cons de_str (da_cons (dv 0) (da_cons (dv 1) da_nil)))) (da_cons (de_tup (da_cons de_str (da_cons (dv 1) (da_cons (dv 0) da_nil)))) da_nil))) da_nil)))))) (dg_tup (n := 2) rfl (dgs_cons (dgn 2) (dgs_cons (dgn 3) dgs_nil))) (dss_cons (ds_par (i := 4) (j := 5) rfl rfl rfl (by decide) rfl rfl (da_cons (de_call rfl rfl ⟨T.g_law_set, (Classical.choose_spec T.d_law_set).kp⟩ (da_cons (dv 2) da_nil)) (da_cons (de_call rfl rfl ⟨T.g_law_set, (Classical.choose_spec T.d_law_set).kp⟩ (da_cons (dv 3) da_nil)) da_nil)) (fun env h => by cases env; cases h; rfl)) (dss_one (ds_if (DW.dt (dw_or (dt_not (dt_cmp (dv 4) (dv 5))) (dw_or (dt_not (dt_cmp (dv 4) (dv 5))) (dw_or (dt_not (dt_cmp (dv 5) (dv 4))) (dw_or1 (dt_cmp (dv 4) (dv 5))))))) (dss_one (ds_ret de_bl)) dss_nil)))) (dss_one (ds_ret de_bl))) ⟨rfl, rfl⟩ ?st ?_
  case st => walk_at "start"
  walk_at "dd"
  have bd : ∀ l r, (l, r) ∈ ways a b → l.Ok L ∧ r.Ok L ∧ l.dep ≤ 5 ∧ r.dep ≤ 5 ∧ (l.n + 3) * (r.n + 3) ≤ 8000000 ∧ (r.n + 3) * (l.n + 3) ≤ 8000000 := by
    have nd : ∀ (o : Wo) (c d : Tr) (x y : Nat), c.Ok L → d.Ok L → c.n ≤ x → d.n ≤ y → (x + 3) * (y + 3) ≤ 8080 → c.dep ≤ 2 → d.dep ≤ 2 → (Tr.node o c d).Ok L ∧ (Tr.node o c d).n ≤ (x + 3) * (y + 3) + 1 ∧ (Tr.node o c d).dep ≤ 3 ∧ (c.dep ≤ 1 → d.dep ≤ 1 → (Tr.node o c d).dep ≤ 2) := fun o c d x y hc hd h1 h2 h3 d1 d2 => by
      have m := Nat.mul_le_mul (show c.n + 3 ≤ x + 3 by omega) (show d.n + 3 ≤ y + 3 by omega)
      refine ⟨⟨hc, hd, by omega⟩, by show (c.n + 3) * (d.n + 3) + 1 ≤ _; omega, by show max c.dep d.dep + 1 ≤ 3; omega, fun e1 e2 => by show max c.dep d.dep + 1 ≤ 2; omega⟩
    have pr : ∀ l r : Tr, l.n ≤ 401 → r.n ≤ 8081 → (l.n + 3) * (r.n + 3) ≤ 8000000 ∧ (r.n + 3) * (l.n + 3) ≤ 8000000 := fun l r h1 h2 => by
      have m := Nat.mul_le_mul (show l.n + 3 ≤ 404 by omega) (show r.n + 3 ≤ 8084 by omega)
      rw [Nat.mul_comm (r.n + 3)]
      omega
    intro l r h
    have ab := fun o => nd o a b 17 17 oa ob na nb (by decide) (by omega) (by omega)
    have ba := fun o => nd o b a 17 17 ob oa nb na (by decide) (by omega) (by omega)
    have p1 := nd .first a (.node .first a b) 17 401 oa (ab .first).1 na (ab .first).2.1 (by decide) (by omega) ((ab .first).2.2.2 da db)
    have p2 := nd .any b (.node .first a b) 17 401 ob (ab .first).1 nb (ab .first).2.1 (by decide) (by omega) ((ab .first).2.2.2 da db)
    have p3 := nd .first (.node .any a b) b 401 17 (ab .any).1 ob (ab .any).2.1 nb (by decide) ((ab .any).2.2.2 da db) (by omega)
    simp only [ways, List.mem_cons, List.not_mem_nil, or_false, Prod.mk.injEq] at h
    rcases h with ⟨rfl, rfl⟩ | ⟨rfl, rfl⟩ | ⟨rfl, rfl⟩ | ⟨rfl, rfl⟩
    · exact ⟨(ab .both).1, p1.1, Nat.le_trans (ab .both).2.2.1 (by decide), Nat.le_trans p1.2.2.1 (by decide), pr _ _ (ab .both).2.1 p1.2.1⟩
    · exact ⟨(ab .any).1, p2.1, Nat.le_trans (ab .any).2.2.1 (by decide), Nat.le_trans p2.2.2.1 (by decide), pr _ _ (ab .any).2.1 p2.2.1⟩
    · exact ⟨(ab .first).1, p3.1, Nat.le_trans (ab .first).2.2.1 (by decide), Nat.le_trans p3.2.2.1 (by decide), pr _ _ (ab .first).2.1 p3.2.1⟩
    · exact ⟨(ab .both).1, (ba .both).1, Nat.le_trans (ab .both).2.2.1 (by decide), Nat.le_trans (ba .both).2.2.1 (by decide), pr _ _ (ab .both).2.1 (Nat.le_trans (ba .both).2.1 (by decide))⟩
  refine (?_ : Loop _ _ _ ((ways a b).map fun p => D.tup [p.1.toD, p.2.toD]) _ _)
  refine loop_inv (fun i ρ S' => S' = S ∧ ∃ x2 x3 x4 x5 : Sl, ρ = [.sh a.toD, .sh b.toD, x2, x3, x4, x5]) ⟨rfl, _, _, _, _, rfl⟩ ?_ ?_
  · rintro i x ρ S' Nx hx ⟨rfl, x2, x3, x4, x5, rfl⟩ hN
    obtain ⟨⟨l, r⟩, hlr, rfl⟩ := map_at hx
    have hm := List.mem_of_getElem? hlr
    obtain ⟨ol, or', dl, dr, z1, z2⟩ := bd l r hm
    obtain ⟨le1, le2⟩ := ways_le hm
    have ml := Tr.mod_ok hL ol
    have mr' := Tr.mod_ok hL or'
    walk_at "dd"
    refine (ok_lset T hL hL2 l ol fun R sa => ?_).mono (show l.dep + 5 ≤ 11 by omega)
    walk_at "dd"
    refine (ok_lset T hL hL2 r or' fun M sb => ?_).mono (show r.dep + 5 ≤ 11 by omega)
    walk_at "dd"
    refine s_ownC (fun _ _ => rfl) rfl isI_ins isI_ins T.sp_Sizes__eq ((ok_eq T sa sb hL hL2 ml.2.1 mr'.2.1 z1 ?_).mono (Nat.le_of_ble_eq_true rfl))
    rw [le1, le2, Bool.and_self]
    walk_at "dd"
    refine s_ownC (fun _ _ => rfl) rfl isI_ins isI_ins T.sp_Sizes__le ((ok_le T sa sb hL hL2 ml.2.1 mr'.2.1 z1 ?_).mono (Nat.le_of_ble_eq_true rfl))
    rw [le1]
    walk_at "dd"
    refine s_ownC (fun _ _ => rfl) rfl isI_ins isI_ins T.sp_Sizes__le ((ok_le T sb sa hL hL2 mr'.2.1 ml.2.1 z2 ?_).mono (Nat.le_of_ble_eq_true rfl))
    rw [le2]
    walk_at "dd"
    refine s_ownNe (k := 10) rfl isI_ins isI_ins T.ne_Sizes T.sp_Sizes__eq ((ok_eq T sa sb hL hL2 ml.2.1 mr'.2.1 z1 ?_).mono (Nat.le_of_ble_eq_true rfl))
    refine ⟨_, rfl, ?_⟩
    rw [le1, le2, Bool.and_self]
    walk_at "dd"
    exact hN _ _ ⟨rfl, _, _, _, _, rfl⟩
  · rintro ρ S' ⟨rfl, x2, x3, x4, x5, rfl⟩
    walk_at "dd"
    exact q
end Toy

set_option Elab.async false
set_option linter.all false
set_option maxRecDepth 100000
set_option maxHeartbeats 4000000
namespace Toy
open PySem PySem.Spec PyProof.Rows L2 My Dt SX
local macro_rules | `(tactic| walk_at "rg") => `(tactic| first
  | omega
  | ((refine And.intro ?_ (And.intro ?_ (And.intro ?_ ?_))) <;> omega))
local macro_rules | `(tactic| walk_at "ls") => `(tactic| first
  | with_reducible exact ls_v
  | with_reducible exact ls_b
  | ((with_reducible refine' ls_p ?hlp); (case hlp => with_reducible assumption)))
local macro_rules | `(tactic| walk_at "start") => `(tactic| ((simp only [startM, startS, List.map_cons, List.map_nil, List.length_cons, List.length_nil, List.cons_append, List.nil_append, Nat.reduceAdd, Nat.reduceSub, List.replicate_succ, List.replicate_zero]); exact rfl))
local macro_rules | `(tactic| walk_at "set") => `(tactic| first
  | ((dsimp only [Int.reduceToNat, List.set_cons_zero, List.set_cons_succ]); done)
  | ((dsimp only [Int.reduceToNat, List.set_cons_zero, List.set_cons_succ]); exact rfl)
  | exact rfl)
local macro_rules | `(tactic| walk_at "sz") => `(tactic| first
  | exact sz_of (Nat.le_of_ble_eq_true rfl)
  | (apply sz_of; simp only [List.length_cons, List.length_nil, List.length_append, List.length_map]; omega))
local macro_rules | `(tactic| walk_at "side") => `(tactic| first
  | with_reducible assumption
  | omega
  | exact ml (by omega) (by omega)
  | exact mr (by omega) (by omega)
  | exact dv (by omega) (by omega)
  | exact Bd.mulOk (by with_reducible assumption) (by with_reducible assumption) (by decide) (by decide) (by decide)
  | exact Bd.div (by with_reducible assumption) (by omega) (by decide) (by decide)
  | (show (0 : Int) < _; omega)
  | exact ⟨by decide, by decide, by decide⟩
  | decide
  | exact rfl)
local macro_rules | `(tactic| walk_at "st") => `(tactic| first
  | with_reducible refine q_seq ?_
  | with_reducible refine q_end ?_
  | with_reducible refine q_nil ?_
  | with_reducible refine q_asg ?_
  | with_reducible refine q_ret ?_
  | with_reducible refine q_if ?_
  | with_reducible refine q_expr ?_
  | with_reducible refine q_retN ?_
  | with_reducible refine q_sub ?_
  | with_reducible refine q_for ?_
  | with_reducible refine q_par ?_
  | with_reducible refine q_par3 ?_
  | with_reducible refine q_asgF ?_
  | with_reducible refine q_asgC ?_
  | ((with_reducible refine' q_frz ?ef ?_); (case ef => exact rfl))
  | ((with_reducible refine' q_app ?ea ?eb ?_); (case ea => exact rfl); (case eb => walk_at "slen"))
  | with_reducible refine q_brk ?_
  | with_reducible refine q_cnt ?_
  | with_reducible refine q_fldS ?_
  | with_reducible refine q_fldP ?_
  | with_reducible refine q_raise ?_
  | with_reducible refine q_try ?_)
local macro_rules | `(tactic| walk_at "slen") => `(tactic| first
  | with_reducible assumption
  | ((rw [sizeLine_eq]); (simp only [List.length_cons, List.length_nil, List.length_append, List.length_map]); omega))
local macro_rules | `(tactic| walk_at "sm") => `(tactic| first
  | with_reducible refine s_add ?_
  | with_reducible refine s_sub ?_
  | ((with_reducible refine' s_mul ?hm ?_); (case hm => walk_at "side"))
  | ((with_reducible refine' s_fdiv ?hm ?_); (case hm => walk_at "side"))
  | ((with_reducible refine' s_mod ?hm ?_); (case hm => walk_at "side"))
  | with_reducible refine s_neg ?_
  | ((with_reducible refine' s_pow ?hm ?_); (case hm => walk_at "side"))
  | ((with_reducible refine' s_ixL ?hl ?he ?_); (case hl => walk_at "ls"); (case he => exact rfl))
  | ((with_reducible refine' s_ixT ?he ?_); (case he => exact rfl))
  | ((with_reducible refine' set_L2 ?ha ?hb ?hc ?_); (case ha => with_reducible assumption); (case hb => exact rfl); (case hc => walk_at "set"))
  | with_reducible refine s_addB ?_
  | with_reducible refine s_lt ?_
  | with_reducible refine s_le ?_
  | with_reducible refine s_gt ?_
  | with_reducible refine s_ge ?_
  | with_reducible refine s_eq ?_
  | with_reducible refine s_ne ?_
  | with_reducible refine s_eqS ?_
  | with_reducible refine s_neS ?_
  | with_reducible refine s_isN ?_
  | with_reducible refine s_isNotN ?_
  | with_reducible refine t_bl ?_)
local macro_rules | `(tactic| walk_at "cl") => `(tactic| first
  | with_reducible refine c_int ?_
  | with_reducible refine c_intB ?_
  | with_reducible refine c_abs ?_
  | ((with_reducible refine' c_max ?hm ?_); (case hm => exact rfl))
  | ((with_reducible refine' c_min ?hm ?_); (case hm => exact rfl))
  | ((with_reducible refine' c_divmod ?hm ?_); (case hm => walk_at "side"))
  | ((with_reducible refine' c_len ?hm ?_); (case hm => walk_at "sq"))
  | ((with_reducible refine' c_list ?hm ?_); (case hm => walk_at "sq"))
  | ((with_reducible refine' c_tuple ?hm ?_); (case hm => walk_at "sq")))
local macro_rules | `(tactic| walk_at "sq") => `(tactic| first
  | exact sqL
  | exact sqT
  | exact sqB
  | exact sqP (by with_reducible assumption))
local macro_rules | `(tactic| walk_at "v") => `(tactic| first
  | ((with_reducible refine' v_sh ?ev ?_); (case ev => exact rfl))
  | ((with_reducible refine' v_ol ?ev ?_); (case ev => exact rfl))
  | ((with_reducible refine' v_slf ?ev ?_); (case ev => exact rfl))
  | with_reducible refine q_val ?_
  | ((with_reducible refine' q_walk ?ew ?_); (case ew => exact rfl))
  | ((with_reducible refine' q_rng1 ?ej ?ek ?_); (case ej => walk_at "rg"); (case ek => walk_at "rg"))
  | ((with_reducible refine' q_rng2 ?ej ?_); (case ej => walk_at "rg"))
  | with_reducible refine q_rngL ?_
  | with_reducible refine q_solc ?_
  | with_reducible refine q_sol0 ?_
  | ((with_reducible refine' q_gname ?eg ?_); (case eg => walk_at "set"))
  | ((with_reducible refine' n_set ?eg ?_); (case eg => walk_at "set"))
  | ((with_reducible refine' n_set2 ?eg ?_); (case eg => walk_at "set"))
  | ((with_reducible refine' n_set3 ?eg ?_); (case eg => walk_at "set"))
  | with_reducible refine q_two ?_
  | with_reducible refine q_three ?_
  | with_reducible refine q_bl ?_
  | with_reducible refine q_oint ?_
  | ((with_reducible refine' q_gtup ?el ?_); (case el => exact rfl))
  | with_reducible refine q_gcons ?_
  | with_reducible refine q_gnil ?_
  | with_reducible refine i_t ?_
  | with_reducible refine i_f ?_
  | with_reducible refine i_nt ?_
  | with_reducible refine i_nf ?_
  | ((with_reducible refine' n_t ?en ?_); (case en => exact rfl))
  | ((with_reducible refine' n_f ?en ?_); (case en => exact rfl))
  | ((with_reducible refine' nn_t ?en ?_); (case en => exact rfl))
  | ((with_reducible refine' nn_f ?en ?_); (case en => exact rfl))
  | with_reducible refine And.intro (by walk_at "sz") ?_)
local macro_rules | `(tactic| walk_at "d") => `(tactic| first
  | walk_at "v"
  | walk_at "st"
  | walk_at "sm"
  | walk_at "cl"
  | walk_at "at")
local macro_rules | `(tactic| walk_at "dd") => `(tactic| repeat walk_at "d")

variable {P : Program} {w : World} {K : PySem.W.Frag} {mg : Str → Option Value} {base : Heap} {S : Sto} {Ex : XS} {Q : QO}
theorem Tr.Lf_ok {L : Int} {ms : List Int} (hd : ∀ m ∈ ms, 1 ≤ m ∧ m ∣ L) {t : Tr} (h : Lf ms t) : t.Ok L ∧ t.n = 1 ∧ t.dep = 0 ∧ t.cuts.length ≤ 2 := by
  rcases h with ⟨a, b, rfl, h1, h2⟩ | ⟨m, rs, rfl, hm, u, l⟩
  · refine ⟨⟨h1.1, fun x e => (h2 x e).1⟩, rfl, rfl, ?_⟩
    cases b <;> simp [Tr.cuts]
  · exact ⟨⟨(hd m hm).1, (hd m hm).2, u, l⟩, rfl, rfl, by simp [Tr.cuts]⟩
theorem Tr.Tr1_ok {L : Int} {ms : List Int} (hd : ∀ m ∈ ms, 1 ≤ m ∧ m ∣ L) {t : Tr} (h : Tr1 ms t) : t.Ok L ∧ t.n ≤ 17 ∧ t.dep ≤ 1 ∧ t.cuts.length ≤ 4 := by
  rcases h with h | ⟨o, l, r, rfl, hl, hr⟩
  · obtain ⟨h1, h2, h3, h4⟩ := Tr.Lf_ok hd h
    exact ⟨h1, by omega, by omega, by omega⟩
  · obtain ⟨h1, h2, h3, h4⟩ := Tr.Lf_ok hd hl
    obtain ⟨k1, k2, k3, k4⟩ := Tr.Lf_ok hd hr
    refine ⟨⟨h1, k1, by rw [h2, k2]; decide⟩, ?_, ?_, ?_⟩
    · show (l.n + 3) * (r.n + 3) + 1 ≤ 17
      rw [h2, k2]
      decide
    · show max l.dep r.dep + 1 ≤ 1
      rw [h3, k3]
      decide
    · show (l.cuts ++ r.cuts).length ≤ 4
      rw [List.length_append]
      omega
/-- a number that all moduli divide, and 2 -/
theorem modL_ok {ms : List Int} (h : ms ∈ modL) : 0 < ms.length ∧ ms.length ≤ 100 ∧ (∀ m ∈ ms, 1 ≤ m ∧ m ≤ 100) ∧ ∃ L : Int, 0 < L ∧ L ≤ 5040 ∧ (2 : Int) ∣ L ∧ ∀ m ∈ ms, 1 ≤ m ∧ m ∣ L := by
  simp only [modL, List.mem_cons, List.not_mem_nil, or_false] at h
  rcases h with rfl | rfl | rfl | rfl | rfl | rfl
  · exact ⟨by decide, by decide, by decide, 24, by decide, by decide, by decide, by decide⟩
  · exact ⟨by decide, by decide, by decide, 20, by decide, by decide, by decide, by decide⟩
  · exact ⟨by decide, by decide, by decide, 42, by decide, by decide, by decide, by decide⟩
  · exact ⟨by decide, by decide, by decide, 16, by decide, by decide, by decide, by decide⟩
  · exact ⟨by decide, by decide, by decide, 18, by decide, by decide, by decide, by decide⟩
  · exact ⟨by decide, by decide, by decide, 22, by decide, by decide, by decide, by decide⟩
theorem node_ok {L : Int} {o : Wo} {l r : Tr} {x y : Nat} (hl : l.Ok L) (hr : r.Ok L) (h1 : l.n ≤ x) (h2 : r.n ≤ y) (h3 : (x + 3) * (y + 3) ≤ 8080) : (Tr.node o l r).Ok L ∧ (Tr.node o l r).n ≤ (x + 3) * (y + 3) + 1 := by
  have m := Nat.mul_le_mul (show l.n + 3 ≤ x + 3 by omega) (show r.n + 3 ≤ y + 3 by omega)
  exact ⟨⟨hl, hr, by omega⟩, by show (l.n + 3) * (r.n + 3) + 1 ≤ _; omega⟩
theorem ok_right (T : Tx K mg) {n : Nat} (h : Purse S n) (q : ∀ S' : Sto, Q (.v (.bl true)) S') : sFun (bs P w K mg base) 13 (.ref (He.ga K "_law_right")) [] [.ptr n] [] S Ex Q := by
  refine' call_d (B := bs P w K mg base) 12 (Classical.choose_spec T.d_law_right) sc_law_right rfl (bm_all (ps := ["_law_purse_here"]) (Classical.choose_spec T.d_law_right) (fun _ _ _ _ _ _ us hl => match us, hl with | [_], _ => rfl)) (dss_cons (ds_par (i := 1) (j := 2) rfl rfl rfl (by decide) rfl rfl (da_cons (de_call rfl rfl ⟨T.g_law_moduli, (Classical.choose_spec T.d_law_moduli).kp⟩ (da_cons (dv 0) da_nil)) (da_cons (de_call rfl rfl ⟨T.g_law_number, (Classical.choose_spec T.d_law_number).kp⟩ (da_cons (dv 0) da_nil)) da_nil)) (fun env h => by cases env; cases h; rfl)) (dss_cons (ds_par (i := 3) (j := 4) rfl rfl rfl (by decide) rfl rfl (da_cons (de_call rfl rfl ⟨T.g_law_tree, (Classical.choose_spec T.d_law_tree).kp⟩ (da_cons (dv 0) (da_cons (dv 1) (da_cons de_int da_nil)))) (da_cons (de_call rfl rfl ⟨T.g_law_tree, (Classical.choose_spec T.d_law_tree).kp⟩ (da_cons (dv 0) (da_cons (dv 1) (da_cons de_int da_nil)))) da_nil)) (fun env h => by cases env; cases h; rfl)) (dss_cons (dst 5 (de_tup (da_cons de_str (da_cons (dv 3) (da_cons (de_tup (da_cons de_str (da_cons (dv 2) (da_cons (dv 2) da_nil)))) da_nil))))) (dss_cons (dst 6 (de_tup (da_cons de_str (da_cons (de_tup (da_cons de_str (da_cons (dv 3) (da_cons (de_tup (da_cons de_str (da_cons de_int (da_cons (de_lstV (da_cons de_int da_nil)) da_nil)))) da_nil)))) (da_cons (de_tup (da_cons de_str (da_cons (dv 3) (da_cons (de_tup (da_cons de_str (da_cons de_int (da_cons (de_lstV (da_cons de_int da_nil)) da_nil)))) da_nil)))) da_nil))))) (dss_cons (ds_for rfl rfl (di_val (de_lstV (da_cons (de_tup (da_cons (dv 3) (da_cons (dv 4) da_nil))) (da_cons (de_tup (da_cons (dv 3) (da_cons (dv 5) da_nil))) (da_cons (de_tup (da_cons (dv 5) (da_cons (dv 4) da_nil))) (da_cons (de_tup (da_cons (dv 3) (da_cons (dv 6) da_nil))) (da_cons (de_tup (da_cons (dv 3) (da_cons (dv 3) da_nil))) da_nil))))))) (dgn 7) (dss_one (ds_if (dt_not (dt_val (de_call rfl rfl ⟨T.g_law_compared_right, (Classical.choose_spec T.d_law_compared_right).kp⟩ (da_cons (de_ix (dv 7) de_int (fun _ _ => rfl)) (da_cons (de_ix (dv 7) de_int (fun _ _ => rfl)) da_nil))))) (dss_one (ds_ret de_bl)) dss_nil))) (dss_cons (dst 8 (de_call rfl rfl ⟨T.g_law_set, (Classical.choose_spec T.d_law_set).kp⟩ (da_cons (dv 3) da_nil))) (dss_cons (ds_for rfl rfl (di_val (de_lstV (da_cons de_non (da_cons de_bl (da_cons (de_attr (dv 8)) (da_cons de_int (da_cons (de_lstV da_nil) (da_cons de_str da_nil)))))))) (dgn 9) (dss_one (ds_if (DW.dt (dw_or (dt_cmp (dv 8) (dv 9)) (dw_or1 (dt_not (dt_cmp (dv 8) (dv 9)))))) (dss_one (ds_ret de_bl)) dss_nil))) (dss_one (ds_ret (de_call rfl rfl ⟨T.g_law_ways_right, (Classical.choose_spec T.d_law_ways_right).kp⟩ (da_cons (dv 3) (da_cons (dv 4) da_nil)))))))))))) ⟨rfl, rfl⟩ ?st ?_
  case st => walk_at "start"
  walk_at "dd"
  refine (ok_moduli T h fun ms S1 hms h1 _ => ?_).mono (Nat.le_of_ble_eq_true rfl)
  obtain ⟨m0, m1, m2, L, hL, hL2, l2, hd⟩ := modL_ok hms
  walk_at "dd"
  refine (ok_number T h1 fun x S2 hx _ h2 _ => ?_).mono (Nat.le_of_ble_eq_true rfl)
  walk_at "dd"
  refine (ok_tree1 T h2 m2 m0 m1 fun t S3 ht h3 _ => ?_).mono (Nat.le_of_ble_eq_true rfl)
  walk_at "dd"
  refine (ok_tree1 T h3 m2 m0 m1 fun u S4 hu h4 _ => ?_).mono (Nat.le_of_ble_eq_true rfl)
  walk_at "dd"
  obtain ⟨t1, t2, t3, t4⟩ := Tr.Tr1_ok hd ht
  obtain ⟨u1, u2, u3, u4⟩ := Tr.Tr1_ok hd hu
  have sp : (Tr.span x (some x)).Ok L := ⟨hx, fun y e => by cases e; exact hx⟩
  have rs : ∀ i : Int, 0 ≤ i → i < 2 → (Tr.rests 2 [i]).Ok L := fun i i0 i1 => ⟨by decide, l2, ⟨i0, i1, trivial⟩, Nat.le_of_ble_eq_true rfl⟩
  have more := node_ok (o := .any) t1 sp t2 (show (Tr.span x (some x)).n ≤ 1 from Nat.le_refl _) (by decide)
  have w0 := node_ok (o := .both) t1 (rs 0 (by decide) (by decide)) t2 (show (Tr.rests 2 [0]).n ≤ 1 from Nat.le_refl _) (by decide)
  have w1 := node_ok (o := .both) t1 (rs 1 (by decide) (by decide)) t2 (show (Tr.rests 2 [1]).n ≤ 1 from Nat.le_refl _) (by decide)
  have wide := node_ok (o := .any) w0.1 w1.1 w0.2 w1.2 (by decide)
  have pr : ∀ a b : Tr, a.n ≤ 7057 → b.n ≤ 81 → (a.n + 3) * (b.n + 3) ≤ 8000000 ∧ (b.n + 3) * (a.n + 3) ≤ 8000000 := fun a b h1 h2 => by
    have m := Nat.mul_le_mul (show a.n + 3 ≤ 7060 by omega) (show b.n + 3 ≤ 84 by omega)
    rw [Nat.mul_comm (b.n + 3)]
    omega
  refine (?_ : Loop _ _ _ ([(t, u), (t, Tr.node .any t (.span x (some x))), (Tr.node .any t (.span x (some x)), u), (t, Tr.node .any (.node .both t (.rests 2 [0])) (.node .both t (.rests 2 [1]))), (t, t)].map fun p => D.tup [p.1.toD, p.2.toD]) _ _)
  have dpm : (Tr.node .any t (.span x (some x))).dep ≤ 5 := by
    show max t.dep 0 + 1 ≤ 5
    omega
  have dpw : (Tr.node .any (.node .both t (.rests 2 [0])) (.node .both t (.rests 2 [1]))).dep ≤ 5 := by
    show max (max t.dep 0 + 1) (max t.dep 0 + 1) + 1 ≤ 5
    omega
  have cum : (Tr.node .any t (.span x (some x))).cuts.length ≤ 40 := by
    show (t.cuts ++ [x, x + 1]).length ≤ 40
    rw [List.length_append]
    exact Nat.le_trans (Nat.add_le_add t4 (Nat.le_refl _)) (Nat.le_of_ble_eq_true rfl)
  have cuw : (Tr.node .any (.node .both t (.rests 2 [0])) (.node .both t (.rests 2 [1]))).cuts.length ≤ 40 := by
    show ((t.cuts ++ []) ++ (t.cuts ++ [])).length ≤ 40
    rw [List.length_append, List.append_nil]
    omega
  have bd : ∀ a b : Tr, (a, b) ∈ [(t, u), (t, Tr.node .any t (.span x (some x))), (Tr.node .any t (.span x (some x)), u), (t, Tr.node .any (.node .both t (.rests 2 [0])) (.node .both t (.rests 2 [1]))), (t, t)] →
      a.Ok L ∧ b.Ok L ∧ a.dep ≤ 5 ∧ b.dep ≤ 5 ∧ (a.n + 3) * (b.n + 3) ≤ 8000000 ∧ a.cuts.length ≤ 40 ∧ b.cuts.length ≤ 40 := fun a b hm => by
    simp only [List.mem_cons, List.not_mem_nil, or_false, Prod.mk.injEq] at hm
    rcases hm with ⟨rfl, rfl⟩ | ⟨rfl, rfl⟩ | ⟨rfl, rfl⟩ | ⟨rfl, rfl⟩ | ⟨rfl, rfl⟩
    · exact ⟨t1, u1, by omega, by omega, (pr _ _ (by omega) (by omega)).1, by omega, by omega⟩
    · exact ⟨t1, more.1, by omega, dpm, (pr _ _ (by omega) (Nat.le_trans more.2 (by decide))).1, by omega, cum⟩
    · exact ⟨more.1, u1, dpm, by omega, (pr _ _ (Nat.le_trans more.2 (by decide)) (by omega)).1, cum, by omega⟩
    · exact ⟨t1, wide.1, by omega, dpw, (pr _ _ (Nat.le_trans wide.2 (by decide)) (by omega)).2, by omega, cuw⟩
    · exact ⟨t1, t1, by omega, by omega, (pr _ _ (by omega) (by omega)).1, by omega, by omega⟩
  clear dpm dpw cum cuw
  generalize hmore : Tr.node .any t (.span x (some x)) = more' at bd
  generalize hwide : Tr.node .any (.node .both t (.rests 2 [0])) (.node .both t (.rests 2 [1])) = wide' at bd
  generalize hps : [(t, u), (t, more'), (more', u), (t, wide'), (t, t)] = ps at bd
  refine loop_inv (fun i ρ S' => S' = S4 ∧ ∃ x7 x8 x9 : Sl, ρ = [.sh (.ptr n), .sh (.lst (ms.map .int)), .sh (.int x), .sh t.toD, .sh u.toD, .sh more'.toD, .sh wide'.toD, x7, x8, x9]) ⟨rfl, _, _, _, by subst hmore hwide; rfl⟩ ?_ ?_
  · rintro i y ρ S' Nx hy ⟨rfl, x7, x8, x9, rfl⟩ hN
    obtain ⟨⟨a, b⟩, hab, rfl⟩ := map_at hy
    obtain ⟨b1, b2, b3, b4, b5, b6, b7⟩ := bd a b (List.mem_of_getElem? hab)
    walk_at "dd"
    refine ok_compared T hL hL2 b1 b2 b3 b4 b5 b6 b7 ?_
    walk_at "dd"
    exact hN _ _ ⟨rfl, _, _, _, rfl⟩
  · rintro ρ S' ⟨rfl, x7, x8, x9, rfl⟩
    walk_at "dd"
    refine (ok_lset T hL hL2 t t1 fun rows sr => ?_).mono (show t.dep + 5 ≤ 12 by omega)
    walk_at "dd"
    refine a_rng T ?_
    walk_at "dd"
    refine loop_inv (fun i ρ S'' => S'' = S' ∧ ∃ x7 x9 : Sl, ρ = [.sh (.ptr n), .sh (.lst (ms.map .int)), .sh (.int x), .sh t.toD, .sh u.toD, .sh more'.toD, .sh wide'.toD, x7, .sh (setD t.mod rows), x9]) ⟨rfl, _, _, rfl⟩ ?_ ?_
    · rintro i y ρ S'' Nx hy ⟨rfl, x7, x9, rfl⟩ hN
      have fin : ∀ (d : D) (T' : String), KdO S'' (.v d) T' → PySem.W.subIn K (.type T') (.ref (He.ga K "Sizes")) = some false → PySem.W.kitOne K (.type T') (.ref (He.ga K "Sizes")) = some false → True := fun _ _ _ _ _ => trivial
      have hy2 := List.mem_of_getElem? hy
      have kd : ∃ T' : String, KdO S'' (.v y) T' ∧ PySem.W.subIn (bs P w K mg base).K (.type T') (.ref (He.ga K "Sizes")) = some false ∧ PySem.W.kitOne K (.type T') (.ref (He.ga K "Sizes")) = some false := by
        simp only [List.mem_cons, List.not_mem_nil, or_false] at hy2
        rcases hy2 with rfl | rfl | rfl | rfl | rfl | rfl
        · exact ⟨"NoneType", rfl, T.sb_NoneType, T.i_KNoneType⟩
        · exact ⟨"bool", rfl, T.sb_bool, T.i_Kbool⟩
        · exact ⟨"tuple", rfl, T.sb_tuple, T.i_Ktuple⟩
        · exact ⟨"int", rfl, T.sb_int, T.i_Kint⟩
        · exact ⟨"list", rfl, T.sb_list, T.i_Klist⟩
        · exact ⟨"str", rfl, T.sb_str, T.i_Kstr⟩
      obtain ⟨T', k1, k2, k3⟩ := kd
      clear hy2 hy
      walk_at "dd"
      refine s_ownEqK (k := 12) rfl isI_ins k1 k2 T.sp_Sizes__eq ((ok_eqK T k1 k3 ?_).mono (Nat.le_of_ble_eq_true rfl))
      walk_at "dd"
      refine s_ownNeK (k := 11) rfl isI_ins k1 k2 T.ne_Sizes T.sp_Sizes__eq ((ok_eqK T k1 k3 ?_).mono (Nat.le_of_ble_eq_true rfl))
      refine ⟨_, rfl, ?_⟩
      walk_at "dd"
      exact hN _ _ ⟨rfl, _, _, rfl⟩
    · rintro ρ S'' ⟨rfl, x7, x9, rfl⟩
      walk_at "dd"
      refine ok_ways T hL hL2 t1 u1 t2 u2 t3 u3 ?_
      walk_at "dd"
      exact q _
end Toy

set_option Elab.async false
set_option linter.all false
set_option maxRecDepth 100000
set_option maxHeartbeats 4000000
namespace Toy
open PySem PySem.Spec PyProof.Rows L2 My Dt SX
local macro_rules | `(tactic| walk_at "rg") => `(tactic| first
  | omega
  | ((refine And.intro ?_ (And.intro ?_ (And.intro ?_ ?_))) <;> omega))
local macro_rules | `(tactic| walk_at "ls") => `(tactic| first
  | with_reducible exact ls_v
  | with_reducible exact ls_b
  | ((with_reducible refine' ls_p ?hlp); (case hlp => with_reducible assumption)))
local macro_rules | `(tactic| walk_at "start") => `(tactic| ((simp only [startM, startS, List.map_cons, List.map_nil, List.length_cons, List.length_nil, List.cons_append, List.nil_append, Nat.reduceAdd, Nat.reduceSub, List.replicate_succ, List.replicate_zero]); exact rfl))
local macro_rules | `(tactic| walk_at "set") => `(tactic| first
  | ((dsimp only [Int.reduceToNat, List.set_cons_zero, List.set_cons_succ]); done)
  | ((dsimp only [Int.reduceToNat, List.set_cons_zero, List.set_cons_succ]); exact rfl)
  | exact rfl)
local macro_rules | `(tactic| walk_at "sz") => `(tactic| first
  | exact sz_of (Nat.le_of_ble_eq_true rfl)
  | (apply sz_of; simp only [List.length_cons, List.length_nil, List.length_append, List.length_map]; omega))
local macro_rules | `(tactic| walk_at "side") => `(tactic| first
  | with_reducible assumption
  | omega
  | exact ml (by omega) (by omega)
  | exact mr (by omega) (by omega)
  | exact dv (by omega) (by omega)
  | exact Bd.mulOk (by with_reducible assumption) (by with_reducible assumption) (by decide) (by decide) (by decide)
  | exact Bd.div (by with_reducible assumption) (by omega) (by decide) (by decide)
  | (show (0 : Int) < _; omega)
  | exact ⟨by decide, by decide, by decide⟩
  | decide
  | exact rfl)
local macro_rules | `(tactic| walk_at "st") => `(tactic| first
  | with_reducible refine q_seq ?_
  | with_reducible refine q_end ?_
  | with_reducible refine q_nil ?_
  | with_reducible refine q_asg ?_
  | with_reducible refine q_ret ?_
  | with_reducible refine q_if ?_
  | with_reducible refine q_expr ?_
  | with_reducible refine q_retN ?_
  | with_reducible refine q_sub ?_
  | with_reducible refine q_for ?_
  | with_reducible refine q_par ?_
  | with_reducible refine q_par3 ?_
  | with_reducible refine q_asgF ?_
  | with_reducible refine q_asgC ?_
  | ((with_reducible refine' q_frz ?ef ?_); (case ef => exact rfl))
  | ((with_reducible refine' q_app ?ea ?eb ?_); (case ea => exact rfl); (case eb => walk_at "slen"))
  | with_reducible refine q_brk ?_
  | with_reducible refine q_cnt ?_
  | with_reducible refine q_fldS ?_
  | with_reducible refine q_fldP ?_
  | with_reducible refine q_raise ?_
  | with_reducible refine q_try ?_)
local macro_rules | `(tactic| walk_at "slen") => `(tactic| first
  | with_reducible assumption
  | ((rw [sizeLine_eq]); (simp only [List.length_cons, List.length_nil, List.length_append, List.length_map]); omega))
local macro_rules | `(tactic| walk_at "sm") => `(tactic| first
  | with_reducible refine s_add ?_
  | with_reducible refine s_sub ?_
  | ((with_reducible refine' s_mul ?hm ?_); (case hm => walk_at "side"))
  | ((with_reducible refine' s_fdiv ?hm ?_); (case hm => walk_at "side"))
  | ((with_reducible refine' s_mod ?hm ?_); (case hm => walk_at "side"))
  | with_reducible refine s_neg ?_
  | ((with_reducible refine' s_pow ?hm ?_); (case hm => walk_at "side"))
  | ((with_reducible refine' s_ixL ?hl ?he ?_); (case hl => walk_at "ls"); (case he => exact rfl))
  | ((with_reducible refine' s_ixT ?he ?_); (case he => exact rfl))
  | ((with_reducible refine' set_L2 ?ha ?hb ?hc ?_); (case ha => with_reducible assumption); (case hb => exact rfl); (case hc => walk_at "set"))
  | with_reducible refine s_addB ?_
  | with_reducible refine s_lt ?_
  | with_reducible refine s_le ?_
  | with_reducible refine s_gt ?_
  | with_reducible refine s_ge ?_
  | with_reducible refine s_eq ?_
  | with_reducible refine s_ne ?_
  | with_reducible refine s_eqS ?_
  | with_reducible refine s_neS ?_
  | with_reducible refine s_isN ?_
  | with_reducible refine s_isNotN ?_
  | with_reducible refine t_bl ?_)
local macro_rules | `(tactic| walk_at "cl") => `(tactic| first
  | with_reducible refine c_int ?_
  | with_reducible refine c_intB ?_
  | with_reducible refine c_abs ?_
  | ((with_reducible refine' c_max ?hm ?_); (case hm => exact rfl))
  | ((with_reducible refine' c_min ?hm ?_); (case hm => exact rfl))
  | ((with_reducible refine' c_divmod ?hm ?_); (case hm => walk_at "side"))
  | ((with_reducible refine' c_len ?hm ?_); (case hm => walk_at "sq"))
  | ((with_reducible refine' c_list ?hm ?_); (case hm => walk_at "sq"))
  | ((with_reducible refine' c_tuple ?hm ?_); (case hm => walk_at "sq")))
local macro_rules | `(tactic| walk_at "sq") => `(tactic| first
  | exact sqL
  | exact sqT
  | exact sqB
  | exact sqP (by with_reducible assumption))
local macro_rules | `(tactic| walk_at "v") => `(tactic| first
  | ((with_reducible refine' v_sh ?ev ?_); (case ev => exact rfl))
  | ((with_reducible refine' v_ol ?ev ?_); (case ev => exact rfl))
  | ((with_reducible refine' v_slf ?ev ?_); (case ev => exact rfl))
  | with_reducible refine q_val ?_
  | ((with_reducible refine' q_walk ?ew ?_); (case ew => exact rfl))
  | ((with_reducible refine' q_rng1 ?ej ?ek ?_); (case ej => walk_at "rg"); (case ek => walk_at "rg"))
  | ((with_reducible refine' q_rng2 ?ej ?_); (case ej => walk_at "rg"))
  | with_reducible refine q_rngL ?_
  | with_reducible refine q_solc ?_
  | with_reducible refine q_sol0 ?_
  | ((with_reducible refine' q_gname ?eg ?_); (case eg => walk_at "set"))
  | ((with_reducible refine' n_set ?eg ?_); (case eg => walk_at "set"))
  | ((with_reducible refine' n_set2 ?eg ?_); (case eg => walk_at "set"))
  | ((with_reducible refine' n_set3 ?eg ?_); (case eg => walk_at "set"))
  | with_reducible refine q_two ?_
  | with_reducible refine q_three ?_
  | with_reducible refine q_bl ?_
  | with_reducible refine q_oint ?_
  | ((with_reducible refine' q_gtup ?el ?_); (case el => exact rfl))
  | with_reducible refine q_gcons ?_
  | with_reducible refine q_gnil ?_
  | with_reducible refine i_t ?_
  | with_reducible refine i_f ?_
  | with_reducible refine i_nt ?_
  | with_reducible refine i_nf ?_
  | ((with_reducible refine' n_t ?en ?_); (case en => exact rfl))
  | ((with_reducible refine' n_f ?en ?_); (case en => exact rfl))
  | ((with_reducible refine' nn_t ?en ?_); (case en => exact rfl))
  | ((with_reducible refine' nn_f ?en ?_); (case en => exact rfl))
  | with_reducible refine And.intro (by walk_at "sz") ?_)
local macro_rules | `(tactic| walk_at "d") => `(tactic| first
  | walk_at "v"
  | walk_at "st"
  | walk_at "sm"
  | walk_at "cl"
  | walk_at "at")
local macro_rules | `(tactic| walk_at "dd") => `(tactic| repeat walk_at "d")

variable {P : Program} {w : World} {K : PySem.W.Frag} {mg : Str → Option Value} {base : Heap} {S : Sto} {Ex : XS} {Q : QO}
/-- a cell of the script is drawn from: a new purse -/
theorem ok_purse (T : Tx K mg) {ns : List Int} {p : Nat} (hl : ns.length ≤ 63) (hp : p ≤ 63) (q : ∀ S' : Sto, Purse S' S.length → (∀ i, i < S.length → S'[i]? = S[i]?) → Q (.v (.ptr S.length)) S') : sFun (bs P w K mg base) 1 (.ref (He.ga K "_law_purse")) [] [.lsk (ns.map .int), .int p] [] S Ex Q := by
  refine' call_d (B := bs P w K mg base) 0 (Classical.choose_spec T.d_law_purse) sc_law_purse rfl (bm_all (ps := ["_law_script", "_law_place"]) (Classical.choose_spec T.d_law_purse) (fun _ _ _ _ _ _ us hl => match us, hl with | [_, _], _ => rfl)) (dss_cons (dst 2 (de_bin (de_bin de_int (de_callB (id := "len") rfl T.f_len (by decide +kernel) (da_cons (dv 0) da_nil))) (de_bin de_int (dv 1)))) (dss_cons (ds_for rfl rfl (di_val (de_sl (dv 0) do_no (do_some de_int))) (dgn 3) (dss_one (dst 2 (de_bin (de_callT (T := "int") rfl T.f_int (by decide +kernel) (da_cons (de_bin (de_bin (dv 2) de_int) (dv 3)) da_nil)) de_int)))) (dss_cons (ds_if (dt_cmp (dv 1) (de_callB (id := "len") rfl T.f_len (by decide +kernel) (da_cons (dv 0) da_nil))) (dss_one (dst 2 (de_ix (dv 0) (dv 1) (fun _ _ => rfl)))) dss_nil) (dss_cons (dst 4 (de_bin (de_callT (T := "int") rfl T.f_int (by decide +kernel) (da_cons (de_bin (de_bin (de_callT (T := "int") rfl T.f_int (by decide +kernel) (da_cons (dv 2) da_nil)) de_int) de_int) da_nil)) de_int)) (dss_one (ds_ret (de_lstP (da_cons (de_bin (de_callT (T := "int") rfl T.f_int (by decide +kernel) (da_cons (dv 4) da_nil)) de_int) (da_cons (de_if (DW.dt (dw_or (dt_cmp (dv 2) de_int) (dw_or1 (dt_cmp (dv 2) (de_bin de_int de_int))))) (de_callB (id := "abs") rfl T.f_abs (by decide +kernel) (da_cons (dv 2) da_nil)) de_int) (da_cons de_int da_nil)))))))))) ⟨rfl, rfl⟩ ?st ?_
  case st => walk_at "start"
  walk_at "dd"
  refine c_lenX ?_
  rw [List.length_map]
  walk_at "dd"
  refine s_slX (.inl ?_)
  have ci : ∀ x ∈ cutD (ns.map D.int) none (some 3), ∃ i, x = .int i := fun x hx => by
    obtain ⟨i, _, e⟩ := List.mem_map.mp (List.mem_of_mem_drop (List.mem_of_mem_take hx))
    exact ⟨i, e.symm⟩
  generalize cutD (ns.map D.int) none (some 3) = xs at ci
  walk_at "dd"
  refine loop_inv (fun i ρ S' => S' = S ∧ ∃ (c : Int) (x3 : Sl), 0 ≤ c ∧ c < 2 ^ 63 ∧ ρ = [.sh (.lsk (ns.map .int)), .sh (.int p), .sh (.int c), x3, .un]) ⟨rfl, _, _, ?_, ?_, rfl⟩ ?_ ?_
  · omega
  · omega
  · rintro i x ρ S' Nx hx ⟨rfl, c, x3, c0, c1, rfl⟩ hN
    obtain ⟨j, rfl⟩ := ci x (List.mem_of_getElem? hx)
    walk_at "dd"
    refine hN _ _ ⟨rfl, _, _, Int.emod_nonneg _ (by decide), ?_, rfl⟩
    have := Int.emod_lt_of_pos (c * 60013 + j) (show (0 : Int) < 2147483629 by decide)
    omega
  · rintro ρ S' ⟨rfl, c, x3, c0, c1, rfl⟩
    clear c0 c1
    walk_at "dd"
    refine c_lenX ?_
    rw [List.length_map]
    walk_at "dd"
    have fin : ∀ (c : Int) (x3 : Sl) (R : List Sl → Sto → Prop), True := fun _ _ _ => trivial
    refine i_two (fun h0 => ?_) fun h0 => ?_
    · have hp2 : p < ns.length := by omega
      walk_at "dd"
      refine s_ixX (d := .int (ns.getD p 0)) ?_ ?_
      · refine atI_nat ?_
        rw [List.getElem?_map, List.getD_eq_getElem?_getD, List.getElem?_eq_getElem hp2] <;> rfl
      generalize ns.getD p 0 = c
      walk_at "dd"
      have m1 := Int.emod_nonneg c (show (2147483629 : Int) ≠ 0 by decide)
      have m2 := Int.emod_lt_of_pos c (show (0 : Int) < 2147483629 by decide)
      have hw : CPow (c % 2147483629 + 314159) 3 := ⟨by decide, by decide, by omega⟩
      walk_at "dd"
      have e1 := Int.emod_nonneg ((c % 2147483629 + 314159) ^ (3 : Int).toNat) (show (2147483629 : Int) ≠ 0 by decide)
      have e2 := Int.emod_lt_of_pos ((c % 2147483629 + 314159) ^ (3 : Int).toNat) (show (0 : Int) < 2147483629 by decide)
      have done : ∀ b : Int, Q (.v (.ptr S'.length)) (S' ++ [.lst [.int ((c % 2147483629 + 314159) ^ (3 : Int).toNat % 2147483629), .int b, .int 0]]) := fun b =>
        q _ ⟨_, b, 0, List.getElem?_concat_length, e1, e2⟩ fun i hi => List.getElem?_append_left hi
      refine i_two (fun h1 => ?_) fun h1 => ?_
      · walk_at "dd"
        exact done _
      · walk_at "dd"
        refine i_two (fun h2 => ?_) fun h2 => ?_
        · walk_at "dd"
          exact done _
        · walk_at "dd"
          exact done _
    · walk_at "dd"
      have m1 := Int.emod_nonneg c (show (2147483629 : Int) ≠ 0 by decide)
      have m2 := Int.emod_lt_of_pos c (show (0 : Int) < 2147483629 by decide)
      have hw : CPow (c % 2147483629 + 314159) 3 := ⟨by decide, by decide, by omega⟩
      walk_at "dd"
      have e1 := Int.emod_nonneg ((c % 2147483629 + 314159) ^ (3 : Int).toNat) (show (2147483629 : Int) ≠ 0 by decide)
      have e2 := Int.emod_lt_of_pos ((c % 2147483629 + 314159) ^ (3 : Int).toNat) (show (0 : Int) < 2147483629 by decide)
      have done : ∀ b : Int, Q (.v (.ptr S'.length)) (S' ++ [.lst [.int ((c % 2147483629 + 314159) ^ (3 : Int).toNat % 2147483629), .int b, .int 0]]) := fun b =>
        q _ ⟨_, b, 0, List.getElem?_concat_length, e1, e2⟩ fun i hi => List.getElem?_append_left hi
      refine i_two (fun h1 => ?_) fun h1 => ?_
      · walk_at "dd"
        exact done _
      · walk_at "dd"
        refine i_two (fun h2 => ?_) fun h2 => ?_
        · walk_at "dd"
          exact done _
        · walk_at "dd"
          exact done _

theorem ok_law (T : Tx K mg) {ns : List Int} (hl : ns.length ≤ 63) : sFun (bs P w K mg base) 14 (.ref (He.ga K "law")) [] [.lsk (ns.map .int)] [] [] noX (fun o _ => o = .v (.bl true)) := by
  refine' call_d (B := bs P w K mg base) 13 (Classical.choose_spec T.d_law) sc_law rfl (bm_all (ps := ["_law_script"]) (Classical.choose_spec T.d_law) (fun _ _ _ _ _ _ us hl => match us, hl with | [_], _ => rfl)) (dss_cons (ds_for rfl rfl (di_range1 rfl T.f_range (da_cons (de_callB (id := "max") rfl T.f_max (by decide +kernel) (da_cons de_int (da_cons (de_callB (id := "min") rfl T.f_min (by decide +kernel) (da_cons (de_callB (id := "len") rfl T.f_len (by decide +kernel) (da_cons (dv 0) da_nil)) (da_cons de_int da_nil))) da_nil))) da_nil)) (dgn 1) (dss_one (ds_if (dt_not (dt_val (de_call rfl rfl ⟨T.g_law_right, (Classical.choose_spec T.d_law_right).kp⟩ (da_cons (de_call rfl rfl ⟨T.g_law_purse, (Classical.choose_spec T.d_law_purse).kp⟩ (da_cons (dv 0) (da_cons (dv 1) da_nil))) da_nil)))) (dss_one (ds_ret de_bl)) dss_nil))) (dss_one (ds_ret de_bl))) ⟨rfl, rfl⟩ ?st ?_
  case st => walk_at "start"
  walk_at "dd"
  refine c_lenX ?_
  rw [List.length_map]
  walk_at "dd"
  have hr : ∀ n : Int, n ≤ 63 → n = n → True := fun _ _ _ => trivial
  have h1 : ∃ m : Int, m = (if (if (3 : Int) < (ns.length : Int) then 3 else (ns.length : Int)) > 2 then (if (3 : Int) < (ns.length : Int) then 3 else (ns.length : Int)) else 2) ∧ 0 ≤ m ∧ m ≤ 3 := ⟨_, rfl, by split <;> split at * <;> omega, by split <;> split at * <;> omega⟩
  obtain ⟨m, em, m0, m1⟩ := h1
  rw [← em]
  clear em
  walk_at "dd"
  refine loop_inv (fun i ρ S' => ∃ x1 : Sl, ρ = [.sh (.lsk (ns.map .int)), x1]) ⟨_, rfl⟩ ?_ ?_
  · rintro i x ρ S' Nx hx ⟨x1, rfl⟩ hN
    obtain ⟨hi, rfl⟩ := rngD_at hx
    rw [Int.zero_add]
    walk_at "dd"
    refine (ok_purse T hl (by omega) fun S1 h1 _ => ?_).mono (Nat.le_of_ble_eq_true rfl)
    walk_at "dd"
    refine ok_right T h1 fun S2 => ?_
    walk_at "dd"
    exact hN _ _ ⟨_, rfl⟩
  · rintro ρ S' ⟨x1, rfl⟩
    walk_at "dd"
    exact rfl
end Toy

set_option Elab.async false
set_option linter.all false
set_option maxRecDepth 100000
set_option maxHeartbeats 4000000
namespace Toy
open PySem PySem.Spec PyProof.Rows L2 My Dt SX
abbrev R : PySem.W.OpenRow := PySem.W.OpenLaw.row PySem.Challenge.rw_drawclaims_k22_whole_order_of_sets
abbrev hk : PySem.W.Hook := Hk.hookE 6 fa fn ex
def ob (s : PySem.W.SharedT) : Hk.AlE := Hk.obsEG 6 fa fn ex (HandSHeadRun.getT s)
theorem ob_eq (s : PySem.W.SharedT) : ob s = hk.obs s.abs := Hk.obsEG_eq (HandSHeadRun.getT_eq s)
def loose : List Str := (["_wall", "InputError", "InvalidNumber", "InvalidLimits", "InvalidModulus", "LimitError", "TooFine", "is_integer", "common_divisor", "common_multiple", "MODULUS", "MANY", "others", "common", "indexes_of", "sizes_of", "picked", "check_number", "Sizes", "_law_purse", "_law_draw", "_law_number", "_law_leaf", "_law_tree", "_law_has"] : List Str) ++ (["_law_common", "_law_modulus", "_law_cuts", "_law_points", "_law_rests", "_law_set", "_law_moduli", "_law_compared_right", "_law_ways_right", "_law_right"] : List Str)
theorem run (w : World) : HandSHeadRun.RunEq R (PySem.W.view R.prog [39]) hk ob 6000 loose w := by
  intro os
  kernel_rfl
end Toy
open PySem PySem.W PySem.Calls PyProof.Rows
theorem PySem.Challenge.cw_drawclaims_k22_whole_order_of_sets_holds : PySem.Challenge.rw_drawclaims_k22_whole_order_of_sets.Holds := by
  w_on; o_law
  refine HandSHeadRun.head_any (r := OpenLaw.row PySem.Challenge.rw_drawclaims_k22_whole_order_of_sets) (q := view (OpenLaw.row PySem.Challenge.rw_drawclaims_k22_whole_order_of_sets).prog [39]) (H := Toy.hk) (ob := Toy.ob) (M := 6000) (loose := Toy.loose) (d := HandSHeadRun.topDef (OpenLaw.row PySem.Challenge.rw_drawclaims_k22_whole_order_of_sets).prog 39) (kwd := []) Toy.ob_eq
    (by kernel_rfl) (fun s => by kernel_rfl) Toy.run (by kernel_rfl) (by kernel_rfl) (by kernel_rfl) (by rfl) (by first | assumption | decide +kernel) (by decide +kernel) ⟨rfl, rfl, rfl, rfl, rfl, by decide +kernel⟩ ?hw ?hc
  case hw => w_witness2
  case hc =>
    refine Dt.walk_d (l := PySem.Challenge.rw_drawclaims_k22_whole_order_of_sets) (n := 63) (k := 14) rfl (by decide) (by kernel_rfl) ⟨⟨rfl, by decide, by decide⟩, rfl⟩ ?F
    intro w mg fa h Y G hmg0
    obtain ⟨K, KX, c⟩ := Y
    have hmg : mg ("law" : PySem.Str) = some (.ref fa) := by
      have e : (HandSHeadRun.topDef (OpenLaw.row PySem.Challenge.rw_drawclaims_k22_whole_order_of_sets).prog 39).name = ("law" : PySem.Str) := by kernel_rfl
      rw [← e]
      exact hmg0
    have T := Toy.tx_ok KX G c
    have e := hmg.symm.trans T.g_law
    cases e
    exact ⟨K, KX, fun base ns hl => Toy.ok_law T hl⟩
