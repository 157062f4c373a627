import PyProof.Rows.All
import Wide.All
import OpenK.AllK
import Wide.FinOn
import KE.KStateDown
import Lean
import HandS.Base
import HandS.Call
import HandS.List
import HandS.Comp
import HandS.Ends
import HandS.More
import HandS.Text
import HandS.Words
import HandS.WordsList
import HandS.Exc
import HandS.WordsExc
import HandS.Defaults
import HandS.Wide
import HandS.WideBits
import HandS.IsInst
import HandS.FStr
import HandS.MakeKwOnly
import HandS.Property
import HandS.ClsMeth
import HandS.Evl
import HandS.Head0
import HandS.Head1
import HandS.Head2
import HandS.HeadEnd
import HandS.HeadHook1
import HandS.HeadHook2
import HandS.Codes
import HandS.MakeKw
import HandS.TupAny
import KE.IntTextLaws
import KE.KOpsOwn
import HandS.SlotsOwn
import PyProof.InstEq
import PySem.Challenge.RW_drawclaims_k03_order_of_ratios
set_option Elab.async false
set_option linter.all false
set_option maxRecDepth 100000
set_option maxHeartbeats 4000000
/-! LayA: a hook of facts about defs at any place; good defs; steps of readings -/
namespace Hk
open PySem PySem.Spec PyProof.Rows L2 He
/-- one def: where it stands, its name, qualified name, parameters, body, scope, defaults -/
structure DefE where
  adr : PySem.W.Frag → Addr
  name : Str
  qual : Str
  params : Arguments
  body : List Stmt
  scope : Scope
  dfl : List Dv := []
  kwd : List (Str × Dv) := []
def fnE (K : PySem.W.Frag) (a : Addr) : FnW := match K.lookup a with
  | some ⟨_, _, .func fd, _⟩ => some (fd.name, fd.qualname, fd.params, fd.body, fd.scope, fd.globals, fd.closure, fd.builtins)
  | _ => none
def DefE.val (d : DefE) : FnW := some (d.name, d.qual, d.params, .stmts d.body, d.scope, mainGlobals, [], builtinsNs)
def DefE.dvs (K : PySem.W.Frag) (d : DefE) : List V := d.dfl.map (Dv.v K)
def DefE.kws (K : PySem.W.Frag) (d : DefE) : List (Str × V) := d.kwd.map fun q => (q.1, q.2.v K)
def DefE.ok (K : PySem.W.Frag) (d : DefE) : Bool := PySem.W.keepIn K (.ref (d.adr K)) && (match K.lookup (d.adr K) with
  | some ⟨_, _, .func fd, _⟩ => PySem.W.codeIn K fd.code d.qual && (dflB K fd.defaults (d.dvs K) && kwdB K fd.kwdefaults (d.kws K))
  | _ => false)
theorem DefE.funD {K : PySem.W.Frag} {d : DefE} (e : fnE K (d.adr K) = d.val) (c : d.ok K = true) : ∃ fd, FunD K d.name d.qual d.params d.body d.scope (d.dvs K) (d.kws K) (d.adr K) fd := by
  obtain ⟨kp, c2⟩ := ba c
  unfold fnE at e
  cases q : K.lookup (d.adr K) with
  | none =>
    rw [q] at c2
    cases c2
  | some o =>
    obtain ⟨oc, od, dt, osl⟩ := o
    rw [q] at c2 e
    cases dt with
    | func fd =>
      obtain ⟨n1, n2, n3, n4, n5, n6, n7, n8, n9, n10, n11, n12, n13, n14, n15⟩ := fd
      have e2 : (some (n1, n2, n3, n4, n5, n6, n7, n15) : FnW) = some (d.name, d.qual, d.params, .stmts d.body, d.scope, mainGlobals, [], builtinsNs) := e
      simp only [Option.some.injEq, Prod.mk.injEq] at e2
      obtain ⟨h1, h2, h3, h4, h5, h6, h7, h8⟩ := e2
      subst h1 h2 h3 h4 h5 h6 h7 h8
      have c3 : (PySem.W.codeIn K n13 d.qual && (dflB K n8 (d.dvs K) && kwdB K n9 (d.kws K))) = true := c2
      obtain ⟨k1, k2⟩ := ba c3
      obtain ⟨k3, k4⟩ := ba k2
      exact ⟨_, ⟨oc, od, n8, n9, n10, n11, n12, n13, n14, osl, rfl, q, k1, dflB_ok k3, kwdB_ok k4⟩, kp⟩
    | _ => cases c2
/-! the Hook -/
abbrev AlE : Type := Bool × List FnW
def obsE (fa : List Fa) (fn : List DefE) (ex : PySem.W.Frag → Bool) (K : PySem.W.Frag) : AlE := ((fa.all fun f => f.ok K) && ((fn.all fun d => d.ok K) && ex K), fn.map fun d => fnE K (d.adr K))
def valE (fn : List DefE) : AlE := (true, fn.map DefE.val)
def SaysE (fa : List Fa) (fn : List DefE) (ex : PySem.W.Frag → Bool) (K : PySem.W.Frag) : Prop := obsE fa fn ex K = valE fn
def obsEG (n : Nat) (fa : List Fa) (fn : List DefE) (ex : PySem.W.Frag → Bool) (g : Addr → Option Obj) : AlE := obsE fa fn ex (frG g (asD g n ++ [cStatics]))
def hookE (n : Nat) (fa : List Fa) (fn : List DefE) (ex : PySem.W.Frag → Bool) : PySem.W.Hook where
  α := AlE
  obs := fun s => obsEG n fa fn ex s.heap.get?
  val := fun _ => valE fn
  says := fun _ h => ∃ K : PySem.W.Frag, K.In h ∧ SaysE fa fn ex K
  of := fun _ _ e => ⟨_, frG_in, e⟩
  keeps := fun _ _ _ ⟨K, hK, c⟩ k => ⟨K, PySem.W.Frag.In.keeps hK k, c⟩
theorem obsEG_eq {n : Nat} {fa : List Fa} {fn : List DefE} {ex : PySem.W.Frag → Bool} {g : Addr → Option Obj} {s : Shared} (h : ∀ a, g a = s.heap.get? a) : obsEG n fa fn ex g = (hookE n fa fn ex).obs s := by
  have e : g = s.heap.get? := funext h
  rw [e] <;> rfl
section
variable {fa : List Fa} {fn : List DefE} {ex : PySem.W.Frag → Bool} {K : PySem.W.Frag}
theorem SaysE.parts (c : SaysE fa fn ex K) : (fa.all fun f => f.ok K) = true ∧ (fn.all fun d => d.ok K) = true ∧ ex K = true := by
  have c1 : ((fa.all fun f => f.ok K) && ((fn.all fun d => d.ok K) && ex K)) = true := congrArg (fun z : AlE => z.1) c
  obtain ⟨h1, h2⟩ := ba c1
  obtain ⟨h3, h4⟩ := ba h2
  exact ⟨h1, h3, h4⟩
theorem SaysE.fact (c : SaysE fa fn ex K) (i : Nat) {f : Fa} (h : fa[i]? = some f := by rfl) : f.ok K = true :=
  List.all_eq_true.mp c.parts.1 f (List.mem_of_getElem? h)
theorem SaysE.more (c : SaysE fa fn ex K) : ex K = true := c.parts.2.2
theorem SaysE.def_ (c : SaysE fa fn ex K) (i : Nat) {d : DefE} (h : fn[i]? = some d := by rfl) : ∃ fd, FunD K d.name d.qual d.params d.body d.scope (d.dvs K) (d.kws K) (d.adr K) fd := by
  have c2 := c.parts.2.1
  have e : fn.map (fun d => fnE K (d.adr K)) = fn.map DefE.val := congrArg (fun z : AlE => z.2) c
  have e2 : (fn.map fun d => fnE K (d.adr K))[i]? = (fn.map DefE.val)[i]? := by rw [e]
  rw [List.getElem?_map, List.getElem?_map, h] at e2
  exact DefE.funD (Option.some.inj e2) (List.all_eq_true.mp c2 d (List.mem_of_getElem? h))
end
/-- the def of the record (a property, a classmethod, a staticmethod) that the class has under this name -/
def wfA (x : Str) (T : String) (m : Str) (K : PySem.W.Frag) : Addr := match PySem.W.recIn K (ma K (ga K x) m) T with
  | some (.ref f :: _) => f
  | _ => 0
end Hk
namespace My
open PySem PySem.Spec PyProof.Rows L2
/-! good defs: beside the room it is known that no repr is under way -/
structure RG (k : Nat) (A : Around) : Prop where
  r : Room k A
  g : A.guards = some []
theorem RG.mono {j k : Nat} {A : Around} (r : RG k A) (h : j ≤ k) : RG j A := ⟨r.r.mono h, r.g⟩
theorem RG.deeper {k : Nat} {A : Around} (r : RG (k + 1) A) (env : Env) : RG k (A.deeper env) := ⟨r.r.deeper env, r.g⟩
theorem RG.in1 {k : Nat} {A : Around} (r : RG (k + 1) A) : RG k A.in1 := ⟨r.r.in1, r.g⟩
theorem RG.units {k : Nat} {A : Around} (r : RG k A) : A.units + 64 < cLine := r.r.units
theorem RG.make {k : Nat} {A : Around} (r : RG (k + 1) A) (C : Addr) (us : List Value) (kw : List (Str × Value)) : RG k (A.under (.builtin "type.__call__" ⟨.ref C :: us, kw⟩)) := by
  refine ⟨r.r.make C us kw, ?_⟩
  show pushGuards (Code.guards (.builtin "type.__call__" ⟨.ref C :: us, kw⟩)) A.guards = some []
  have e : Code.guards (.builtin "type.__call__" ⟨.ref C :: us, kw⟩) = [] := by
    unfold Code.guards Code.isGuard
    rw [if_neg (show ¬ (guardIds.contains "type.__call__" = true) from by decide +kernel)]
  rw [e]
  exact r.g
/-- the def fd at f keeps its promise wherever no repr is under way -/
structure FnG (P : Program) (w : World) (K : PySem.W.Frag) (mg : Str → Option Value) (base : Heap) (CX : CXT) (k : Nat) (f : Addr) (fd : FuncData) (ps : List Str) (sp : Sp) : Prop where
  len : ∀ vs H Q E, sp vs H Q E → vs.length = ps.length
  run : ∀ (A : Around) (outer : List Env) (s : Shared) (H : Hp) (args : Args) (us : List Value) (vs : List V) (Q : VK) (E : XK), RG k A → Env0 P w K mg base A outer s H → BindsTo s fd args (ps.zip us) → Vals vs us → sp vs H Q E →
    codeAny (model P w) A (.call (.ref f) args) (CR CX outer P w H s Q E) s
/-- dvs: the values of the parameters that a call by position does not write -/
structure Gf (P : Program) (w : World) (K : PySem.W.Frag) (mg : Str → Option Value) (base : Heap) (CX : CXT) (k : Nat) (f : Addr) (ps : List Str) (dvs : List V) (sp : Sp) : Prop where
  ex : ∃ (fd : FuncData) (ds : List Value), FnG P w K mg base CX k f fd ps sp ∧ Binds K fd ps ds ∧ Vals dvs ds
  kp : PySem.W.keepIn K (.ref f) = true
section
variable {CX : CXT} {P : Program} {w : World} {K : PySem.W.Frag} {mg : Str → Option Value} {base : Heap} {k : Nat} {f : Addr} {x qual : Str} {params : Arguments} {body : List Stmt} {scope : Scope} {dvs : List V} {kws : List (Str × V)} {fd : FuncData} {N ps : List Str} {sp : Sp}
theorem fnG (F : FunD K x qual params body scope dvs kws f fd) (S : FnScope N ps scope) (len : ∀ vs H Q E, sp vs H Q E → vs.length = ps.length)
    (hbody : ∀ (cdv : Value) (A : Around) (outer : List Env) (s : Shared) (H : Hp) (vs : List V) (Q : VK) (E : XK), RG k (A.deeper (envOfC qual scope s.heap.objs.size f cdv)) → sp vs H Q E →
      ∃ t, PSs (cxOf CX P w K mg base N qual scope f cdv A outer s H E) body t ∧ t { nx := fun _ H' => Q .non H', rt := Q } (start N vs) H) : FnG P w K mg base CX (k + 1) f fd ps sp := by
  obtain ⟨oc, od, dV, kV, doc, pm, an, cdv, ct, osl, rfl, lk, hcd, _, _⟩ := F.ex
  refine ⟨len, fun A outer s H args us vs Q E hr e0 hb r hsp => ?_⟩
  have old := fun b o e => (e0.bs b o e).1
  have KX : K.In s.heap := e0.mod.kin.keeps old
  refine codeAny_call_function hr.r.depth (KX _ _ lk) rfl S.co S.gen rfl (PySem.W.codeRec_of KX hcd) (hb _ _ _ _ ?_)
  refine wpAny_newFunctionEnv_cells S.kind (fun p hy => ?_) fun env he s1 z => ?_
  · obtain ⟨n, v⟩ := p
    exact (S.par n (List.of_mem_zip hy).1).elim (fun q => .inl q) fun q => .inr ⟨q, PySem.W.cellsFrom_some _ _ _ (.inl q)⟩
  subst he
  refine ⟨(e0.mod.nolimit.keeps old).keeps z.toInCall.keep, codeAny_func ?_⟩
  obtain ⟨t, ht, hq⟩ := hbody cdv A outer s H vs Q E (hr.deeper _) hsp
  refine wpAny_mono (ht.run [] s1 (start N vs) H _ (inv_start S hr.r.hd e0 (len _ _ _ _ hsp) r z) hq) (fun fl s' hs => ?_) fun _ _ hs => hs
  cases fl with
  | ret u => exact let ⟨v, _, H', J, rv, q⟩ := hs; ⟨v, H', J.os, J.bare, J.base, J.hok, rv, q⟩
  | next => exact let ⟨_, H', J, q⟩ := hs; ⟨.non, H', J.os, J.bare, J.base, J.hok, rfl, q⟩
  | brk => exact let ⟨_, _, _, q⟩ := hs; q.elim
  | cont => exact let ⟨_, _, _, q⟩ := hs; q.elim
/-- from a def without defaults -/
theorem gf0 (F : FunD K x qual params body scope [] kws f fd) (G : FnG P w K mg base CX k f fd ps sp)
    (h : ∀ (kV doc pm : Value) (an : Option Addr) (cdv ct : Value) (us : List Value), us.length = ps.length → bindArgs (PySem.W.fnOf x qual params body scope .none kV doc pm an cdv ct) ⟨us, []⟩ = pure (ps.zip us)) : Gf P w K mg base CX k f ps [] sp :=
  ⟨⟨fd, [], G, F.bindsN h, .nil⟩, F.kp⟩
end
section
variable {X : Cx} {CX : CXT} {k j : Nat} {f C : Addr} {x : Str} {ps : List Str} {dvs : List V} {sp : Sp} {E : XK} {e : Expr} {es : List Expr} {p pos : Pos} {t : TA}
theorem Gf.go {A : Around} {H : Hp} {s : Shared} {us : List Value} {vs : List V} {Q : VK} {outer : List Env} {P : Program} {w : World} {K : PySem.W.Frag} {mg : Str → Option Value} {base : Heap} (G : Gf P w K mg base CX k f ps dvs sp) (hr : RG j A) (hj : k ≤ j) (e0 : Env0 P w K mg base A outer s H) (KX : K.In s.heap) (r : Vals vs us) (h : sp (vs ++ dvs) H Q E) :
    codeAny (model P w) A (.call (.ref f) ⟨us, []⟩) (CR CX outer P w H s Q E) s := by
  obtain ⟨fd, ds, F, hb, hd⟩ := G.ex
  have r2 := r.append hd
  exact F.run A outer s H ⟨us, []⟩ (us ++ ds) (vs ++ dvs) Q E (hr.mono hj) e0 (hb s us KX (by rw [← r2.length]; exact F.len _ _ _ _ h)) r2 h
theorem run_g {pins : List (Addr × Obj)} {σ : L2.St} {H : Hp} {s : Shared} {Q : VK} {us : List Value} {vs : List V} (G : Gf X.prog X.w X.K X.mg X.base CX k f ps dvs sp) (hr : RG j X.A) (hj : k ≤ j) (hx : Passes CX X E)
    (I : Inv X pins σ H s) (r : Vals vs us) (h : sp (vs ++ dvs) H Q E) : wpAny (model X.prog X.w) X.A (call (.ref f) us) (EP X pins σ Q) X.xe s := by
  refine wpAny_call (codeAny_mono (G.go hr hj I.env0 I.kIn r h) fun y s' hq => ?_)
  match y, hq with
  | .error e, hq => exact hx pins σ H s e s' I hq
  | .ok (.ret u), hq => exact I.after hq
theorem pe_g (G : Gf X.prog X.w X.K X.mg X.base CX k f ps dvs sp) (hm : X.mg x = some (.ref f)) (hr : RG j X.A) (hj : k ≤ j) (hx : Passes CX X E) (ha : PA X (e :: es) t) (hg : Gl X x := by rfl)
    (hdb : (x == ("__debug__" : Str)) = false := by decide) (he : starEach (e :: es) X.env = (false, eval e X.env) :: starEach es X.env := by rfl) (hpl : (backTo pos (starEach es X.env)).any (·.1) = false := by rfl) :
    PE X (.Call (.Name x p) (e :: es) [] pos) (tCall sp dvs E t) := by
  refine ⟨fun pins s σ H Q I h => ?_⟩
  refine wpAny_Call_Name_kw (ld_glob I hg hm ?_ hdb)
  exact PySem.W.callWith_K (h₀ := X.base) I.ok.mod.kin G.kp (thn (ha.run pos pins s σ H _ I h) fun us s1 ⟨vs, H1, I1, r, q⟩ => ⟨I1.kIn, run_g G hr hj hx I1 r q⟩) he hpl
/-- a class whose instances its own __init__ makes -/
structure Mg (K : PySem.W.Frag) (C f : Addr) : Prop where
  makes : PySem.W.makesIn K C = true
  init : PySem.W.findIn K (.ref C) "__init__" = some (some (.ref f))
  fn : PySem.W.isFn K (.ref f) = true
  kp : PySem.W.keepIn K (.ref C) = true
theorem run_mk {pins : List (Addr × Obj)} {σ : L2.St} {H : Hp} {s : Shared} {Q : VK} {us : List Value} {vs : List V} (M : Mg X.K C f) (G : Gf X.prog X.w X.K X.mg X.base CX k f ps dvs sp) (hr : RG j X.A) (hj : k + 1 ≤ j) (hx : Passes CX X E) (I : Inv X pins σ H s) (r : Vals vs us)
    (h : ∀ x dx, H x = none → H dx = none → dx ≠ x → sp (.ref x :: (vs ++ dvs)) (upd (upd H dx (.own x)) x (.ins C dx [])) (fun v H2 => v = .non ∧ Q (.ref x) H2) E) :
    wpAny (model X.prog X.w) X.A (call (.ref C) us) (EP X pins σ Q) X.xe s := by
  have n := s.heap.objs.size
  have hq := h (s.heap.objs.size + 1) s.heap.objs.size (I.hok.fresh (Nat.le_succ _)) (I.hok.fresh (Nat.le_refl _)) (Nat.ne_of_lt (Nat.lt_succ_self _))
  have I2 := Inv.made (C := C) I
  have r2 : Vals (V.ref (s.heap.objs.size + 1) :: vs) (Value.ref (s.heap.objs.size + 1) :: us) := .cons rfl r
  refine wpAny_call (make_map (f := f) I.kIn M.makes M.init (beq_iff_eq.mp M.fn) (codeAny_mono (G.go (outer := X.stack) (RG.make (hr.mono hj) C us []) (Nat.le_refl _) (I2.env0.make C us []) I2.kIn r2 hq) fun y s' hq' => ?_))
  match y, hq' with
  | .error e, hq' => exact hx pins σ _ _ e s' I2 hq'
  | .ok (.ret u), hq' =>
    obtain ⟨v, H', I3, rv, ev, q3⟩ := I2.after hq'
    subst ev
    exact ⟨rv, ⟨V.ref (s.heap.objs.size + 1), H', I3, rfl, q3⟩⟩
theorem pe_mk (M : Mg X.K C f) (G : Gf X.prog X.w X.K X.mg X.base CX k f ps dvs sp) (hm : X.mg x = some (.ref C)) (hr : RG j X.A) (hj : k + 1 ≤ j) (hx : Passes CX X E) (ha : PA X (e :: es) t) (hg : Gl X x := by rfl)
    (hdb : (x == ("__debug__" : Str)) = false := by decide) (he : starEach (e :: es) X.env = (false, eval e X.env) :: starEach es X.env := by rfl) (hpl : (backTo pos (starEach es X.env)).any (·.1) = false := by rfl) :
    PE X (.Call (.Name x p) (e :: es) [] pos) (tMake C sp dvs E t) := by
  refine ⟨fun pins s σ H Q I h => ?_⟩
  refine wpAny_Call_Name_kw (ld_glob I hg hm ?_ hdb)
  exact PySem.W.callWith_K (h₀ := X.base) I.ok.mod.kin M.kp (thn (ha.run pos pins s σ H _ I h) fun us s1 ⟨vs, H1, I1, r, q⟩ => ⟨I1.kIn, run_mk M G hr hj hx I1 r q⟩) he hpl
/-- the class stands in the i-th slot -/
def tMakeL (i : Nat) (C : Addr) (sp : Sp) (dvs : List V) (E : XK) (t : TA) : TE := fun σ H Q => σ[i]? = some (some (.ref C)) ∧ tMake C sp dvs E t σ H Q
theorem pe_mkL {i : Nat} (M : Mg X.K C f) (G : Gf X.prog X.w X.K X.mg X.base CX k f ps dvs sp) (hN : X.N[i]? = some x) (hv : Vis X.env.scope x) (hr : RG j X.A) (hj : k + 1 ≤ j) (hx : Passes CX X E) (ha : PA X (e :: es) t)
    (hdb : (x == ("__debug__" : Str)) = false := by decide) (hcd : (x == ("__classdict__" : Str)) = false := by decide) (he : starEach (e :: es) X.env = (false, eval e X.env) :: starEach es X.env := by rfl) (hpl : (backTo pos (starEach es X.env)).any (·.1) = false := by rfl) :
    PE X (.Call (.Name x p) (e :: es) [] pos) (tMakeL i C sp dvs E t) := by
  refine ⟨fun pins s σ H Q I h => ?_⟩
  refine wpAny_Call_Name_kw (thn ((pe_var (pos := p) hN hv hdb hcd).run pins s σ H (fun v H1 => v = .ref C ∧ H1 = H) I ⟨.ref C, h.1, rfl, rfl⟩) fun u s1 ⟨v, H1, I1, r1, e1, e2⟩ => ?_)
  subst e1 e2
  obtain rfl : u = Value.ref C := r1
  exact PySem.W.callWith_K (h₀ := X.base) I.ok.mod.kin M.kp (thn (ha.run pos pins s1 σ _ _ I1 h.2) fun us s2 ⟨vs, H2, I2, r, q⟩ => ⟨I2.kIn, run_mk M G hr hj hx I2 r q⟩) he hpl
end
section
theorem pe_gi {X : Cx} {x : Str} {i : Int} {pos : Pos} (hg : Gl X x) (h : ∃ t, X.mg x = some (.int i t)) (hd : (x == ("__debug__" : Str)) = false := by decide) : PE X (.Name x pos) (tC (.int i)) := by
  obtain ⟨t, hm⟩ := h
  exact pe_glob hg hm ⟨t, rfl⟩ hd
end
/-! tests -/
section
variable {A B : Prop}
theorem b_bl {b : Bool} {F : Bool → Prop} (h : F b) : ∃ k, V.bl b = .bl k ∧ F k := ⟨b, rfl, h⟩
theorem i_pos {p : Prop} [Decidable p] (hp : p) (h : A) : if decide p = true then A else B := by
  rw [if_pos (decide_eq_true hp)]
  exact h
theorem i_neg {p : Prop} [Decidable p] (hp : ¬ p) (h : B) : if decide p = true then A else B := by
  rw [if_neg (by rw [decide_eq_false hp]; exact Bool.false_ne_true)]
  exact h
theorem i_two {p : Prop} [Decidable p] (h1 : p → A) (h2 : ¬ p → B) : if decide p = true then A else B := by
  by_cases hp : p
  · exact i_pos hp (h1 hp)
  · exact i_neg hp (h2 hp)
theorem n_pos {p : Prop} [Decidable p] (hp : p) (h : B) : if (!decide p) = true then A else B := by
  rw [if_neg (by rw [decide_eq_true hp]; exact Bool.false_ne_true)]
  exact h
theorem n_neg {p : Prop} [Decidable p] (hp : ¬ p) (h : A) : if (!decide p) = true then A else B := by
  rw [if_pos (by rw [decide_eq_false hp] <;> rfl)]
  exact h
theorem n_two {p : Prop} [Decidable p] (h1 : p → B) (h2 : ¬ p → A) : if (!decide p) = true then A else B := by
  by_cases hp : p
  · exact n_pos hp (h1 hp)
  · exact n_neg hp (h2 hp)
theorem b_two {b : Bool} (h1 : b = true → A) (h2 : b = false → B) : if b = true then A else B := by
  cases b with
  | true => exact h1 rfl
  | false => exact h2 rfl
theorem nb_two {b : Bool} (h1 : b = true → B) (h2 : b = false → A) : if (!b) = true then A else B := by
  cases b with
  | true => exact h1 rfl
  | false => exact h2 rfl
theorem i_t (h : A) : if true = true then A else B := h
theorem i_f (h : B) : if false = true then A else B := h
theorem i_nt (h : B) : if (!true) = true then A else B := h
theorem i_nf (h : A) : if (!false) = true then A else B := h
end
/-! operators on ints, texts, bools with their own readings -/
section
variable {X : Cx}
theorem op_mulA : OpR X (binaryOp .Mult) (rI IntMulOk fun i j => .int (i * j)) := opI fun _ _ _ _ _ _ _ hc q => mul_int q hc
def rSB (f : Str → Str → Bool) : R2 := fun x y H Q => ∃ a b, x = .str a ∧ y = .str b ∧ Q (.bl (f a b)) H
theorem op_eqI : OpR X (compareOp .Eq) (rI0 fun i j => .bl (decide (i = j))) := fun pins s σ H x y v u Q I rx ry h => by
  obtain ⟨i, j, rfl, rfl, q⟩ := h
  refine op_eq pins s σ H _ _ v u Q I rx ry ⟨rfl, ?_⟩
  rw [dec_int, Bool.beq_eq_decide_eq]
  exact q
theorem op_neI : OpR X (compareOp .NotEq) (rI0 fun i j => .bl (!decide (i = j))) := fun pins s σ H x y v u Q I rx ry h => by
  obtain ⟨i, j, rfl, rfl, q⟩ := h
  refine op_ne pins s σ H _ _ v u Q I rx ry ⟨rfl, ?_⟩
  rw [dec_int, Bool.beq_eq_decide_eq]
  exact q
theorem op_eqS : OpR X (compareOp .Eq) (rSB fun a b => decide (a = b)) := fun pins s σ H x y v u Q I rx ry h => by
  obtain ⟨i, j, rfl, rfl, q⟩ := h
  refine op_eq pins s σ H _ _ v u Q I rx ry ⟨rfl, ?_⟩
  rw [dec_str, Bool.beq_eq_decide_eq]
  exact q
theorem op_neS : OpR X (compareOp .NotEq) (rSB fun a b => !decide (a = b)) := fun pins s σ H x y v u Q I rx ry h => by
  obtain ⟨i, j, rfl, rfl, q⟩ := h
  refine op_ne pins s σ H _ _ v u Q I rx ry ⟨rfl, ?_⟩
  rw [dec_str, Bool.beq_eq_decide_eq]
  exact q
end
/-! steps -/
section
variable {K : PySem.W.Frag} {σ : L2.St} {H : Hp} {nx bk ct : L2.St → Hp → Prop} {rt : VK} {ta tb tc te tv : TE} {Q : VK} {t u : TS} {g : TG} {tA : TA} {c d : TT} {R : Bool → Hp → Prop} {RA : List V → Hp → Prop}
theorem r_seq (h : t ⟨u ⟨nx, rt, bk, ct⟩, rt, bk, ct⟩ σ H) : tSeq t u ⟨nx, rt, bk, ct⟩ σ H := h
theorem r_next (h : nx σ H) : tNext ⟨nx, rt, bk, ct⟩ σ H := h
theorem r_brk (h : bk σ H) : tBreak ⟨nx, rt, bk, ct⟩ σ H := h
theorem r_cont (h : ct σ H) : tCont ⟨nx, rt, bk, ct⟩ σ H := h
theorem r_ret (h : te σ H rt) : tRet te ⟨nx, rt, bk, ct⟩ σ H := h
theorem r_retN (h : rt .non H) : tRetN ⟨nx, rt, bk, ct⟩ σ H := h
theorem r_asg (h : te σ H fun x H1 => g x σ H1 nx) : tAsg te g ⟨nx, rt, bk, ct⟩ σ H := h
theorem r_drop (h : te σ H fun _ H1 => nx σ H1) : tDrop te ⟨nx, rt, bk, ct⟩ σ H := h
theorem r_ifS (h : c σ H fun b H1 => if b = true then t ⟨nx, rt, bk, ct⟩ σ H1 else u ⟨nx, rt, bk, ct⟩ σ H1) : tIfS c t u ⟨nx, rt, bk, ct⟩ σ H := h
theorem r_par {i j : Nat} (h : tA σ H fun vs H1 => ∃ v w, vs = [v, w] ∧ nx ((σ.set i (some v)).set j (some w)) H1) : tPar i j tA ⟨nx, rt, bk, ct⟩ σ H := h
theorem r_two {v w : V} {F : V → V → Prop} (h : F v w) : ∃ a b, ([v, w] : List V) = [a, b] ∧ F a b := ⟨v, w, rfl, h⟩
theorem r_gname {i : Nat} {v : V} {N : L2.St → Hp → Prop} (h : N (σ.set i (some v)) H) : gName i v σ H N := h
theorem r_gsub {v : V} {ts : TSet} {N : L2.St → Hp → Prop} (h : ta σ H fun o H1 => tb σ H1 fun i H2 => ts o i v H2 fun H3 => N σ H3) : gSub ta tb ts v σ H N := h
theorem r_var {i : Nat} {v : V} (e : σ[i]? = some (some v)) (h : Q v H) : tVar i σ H Q := ⟨v, e, h⟩
theorem r_c {v : V} (h : Q v H) : tC v σ H Q := h
theorem r_op {r : R2} (h : ta σ H fun x H1 => tb σ H1 fun y H2 => r x y H2 Q) : tOp r ta tb σ H Q := h
theorem r_un {r : V → Hp → VK → Prop} (h : ta σ H fun x H1 => r x H1 Q) : tUn r ta σ H Q := h
theorem r_i0 {f : Int → Int → V} {i j : Int} (h : Q (f i j) H) : rI0 f (.int i) (.int j) H Q := ⟨i, j, rfl, rfl, h⟩
theorem r_i {C : Int → Int → Prop} {f : Int → Int → V} {i j : Int} (hc : C i j) (h : Q (f i j) H) : rI C f (.int i) (.int j) H Q := ⟨i, j, rfl, rfl, hc, h⟩
theorem r_u {f : Int → V} {i : Int} (h : Q (f i) H) : rU f (.int i) H Q := ⟨i, rfl, h⟩
theorem r_sb {f : Str → Str → Bool} {a b : Str} (h : Q (.bl (f a b)) H) : rSB f (.str a) (.str b) H Q := ⟨a, b, rfl, rfl, h⟩
theorem r_test (h : te σ H fun x H' => ∃ k, x = .bl k ∧ R k H') : tTest te σ H R := h
theorem r_tB (h : te σ H fun x H' => ∃ k, x = .bl k ∧ R k H') : tB te σ H R := h
theorem r_and (h : c σ H fun b H1 => if b = true then d σ H1 R else R false H1) : tAnd c d σ H R := h
theorem r_or (h : c σ H fun b H1 => if b = true then R true H1 else d σ H1 R) : tOr c d σ H R := h
theorem r_not (h : c σ H fun b H1 => R (!b) H1) : tNot c σ H R := h
theorem r_andV (h : ta σ H fun x H1 => ∃ k, x = .bl k ∧ if k = true then tb σ H1 Q else Q (.bl false) H1) : tAndV ta tb σ H Q := h
theorem r_orV (h : ta σ H fun x H1 => ∃ k, x = .bl k ∧ if k = true then Q (.bl true) H1 else tb σ H1 Q) : tOrV ta tb σ H Q := h
theorem r_notV (h : ta σ H fun x H1 => ∃ k, x = .bl k ∧ Q (.bl (!k)) H1) : tNotV ta σ H Q := h
theorem r_tif (h : c σ H fun b H1 => if b = true then ta σ H1 Q else tb σ H1 Q) : tIf c ta tb σ H Q := h
theorem r_nil (h : RA [] H) : tNil σ H RA := h
theorem r_cons {tR : TA} (h : te σ H fun x H1 => tR σ H1 fun xs H2 => RA (x :: xs) H2) : tCons te tR σ H RA := h
theorem r_call {sp : Sp} {dvs : List V} {E : XK} (h : tA σ H fun vs H1 => sp (vs ++ dvs) H1 Q E) : tCall sp dvs E tA σ H Q := h
theorem r_cb {r : List V → Hp → VK → Prop} (h : tA σ H fun vs H1 => r vs H1 Q) : tCB r tA σ H Q := h
theorem r_lst (h : tA σ H fun xs H1 => xs.length ≤ sizeLine ∧ ∀ p, H1 p = none → Q (.ref p) (upd H1 p (.lst xs))) : tLst tA σ H Q := h
theorem r_tup (h : tA σ H fun xs H1 => xs.length ≤ sizeLine ∧ ∀ p, H1 p = none → Q (.ref p) (upd H1 p (.tup xs))) : tTup tA σ H Q := h
theorem r_int {i : Int} {F : Int → Prop} {B : Prop} (h : F i) : (∃ j, ([V.int i] : List V) = [.int j] ∧ F j) ∨ B := .inl ⟨i, rfl, h⟩
theorem r_intb {b : Bool} {F : Bool → Prop} {B : Prop} (h : F b) : B ∨ ∃ k, ([V.bl b] : List V) = [.bl k] ∧ F k := .inr ⟨b, rfl, h⟩
theorem r_call0 {sp : Sp} {E : XK} (h : tA σ H fun vs H1 => sp vs H1 Q E) : tCall sp [] E tA σ H Q := by
  unfold tCall
  simp only [List.append_nil]
  exact h
theorem r_i1 {i : Int} {F : Int → Prop} (h : F i) : ∃ j, ([V.int i] : List V) = [.int j] ∧ F j := ⟨i, rfl, h⟩
theorem r_i2 {i j : Int} {F : Int → Int → Prop} (h : F i j) : ∃ a b, ([V.int i, V.int j] : List V) = [.int a, .int b] ∧ F a b := ⟨i, j, rfl, h⟩
end
end My

set_option Elab.async false
set_option linter.all false
set_option maxRecDepth 100000
set_option maxHeartbeats 4000000
/-! LayB: methods, properties, classmethods, keywords, str and repr of own objects, repr of data -/
namespace My
open PySem PySem.Spec PyProof.Rows L2
section
variable {X : Cx} {CX : CXT} {k j : Nat} {f C : Addr} {x m : Str} {ps : List Str} {dvs : List V} {sp : Sp} {E : XK} {o e : Expr} {es : List Expr} {p pos apos : Pos} {t : TA} {ta : TE}
theorem pe_me {pl : Sem Bool} (he : PE X o ta) (c : Cls X.K C) (hm : Meth X.K C m f) (G : Gf X.prog X.w X.K X.mg X.base CX k f ps dvs sp) (hr : RG j X.A) (hj : k ≤ j) (hx : Passes CX X E) (ha : PA X (e :: es) t)
    (hst : starEach (e :: es) X.env = (false, eval e X.env) :: starEach es X.env := by rfl) (hpl : (backTo pos (starEach es X.env)).any (·.1) = false := by rfl)
    (ht : eval (.Call (.Attribute o m apos) (e :: es) [] pos) X.env = (do
      let ov ← eval o X.env
      standAt apos.atName
      let (f, first) ← holding [ov] (getMethod ov m pl)
      callWith pos f first (backTo pos (starEach (e :: es) X.env)) (backToKw pos (keywordEach [] X.env))) := by rfl) :
    PE X (.Call (.Attribute o m apos) (e :: es) [] pos) (tMeth C m sp dvs E ta t) := by
  refine ⟨fun pins s σ H Q I h => PySem.W.methodCall_KW (pl := pl) (thn (he.run pins s σ H _ I h) fun u s1 ⟨x, H1, I1, rx, a, dx, fs, ex, ea, l, q⟩ => ?_) ht⟩
  subst ex
  obtain rfl : u = Value.ref a := rx
  refine getmeth_ok I1 ea c hm l ?_
  exact PySem.W.callWith_K (first := [.ref a]) (h₀ := X.base) I.ok.mod.kin hm.kp (thn (ha.run pos pins s1 σ H1 _ I1 q) fun us s2 ⟨vs, H2, I2, r, q2⟩ => ⟨I2.kIn, run_g (us := .ref a :: us) (vs := .ref a :: vs) G hr hj hx I2 (.cons rfl r) q2⟩) hst hpl
theorem pe_me0 {pl : Sem Bool} (he : PE X o ta) (c : Cls X.K C) (hm : Meth X.K C m f) (G : Gf X.prog X.w X.K X.mg X.base CX k f ps dvs sp) (hr : RG j X.A) (hj : k ≤ j) (hx : Passes CX X E)
    (ht : eval (.Call (.Attribute o m apos) [] [] pos) X.env = (do
      let ov ← eval o X.env
      standAt apos.atName
      let (f, first) ← holding [ov] (getMethod ov m pl)
      callWith pos f first (backTo pos (starEach [] X.env)) (backToKw pos (keywordEach [] X.env))) := by rfl) :
    PE X (.Call (.Attribute o m apos) [] [] pos) (tMeth C m sp dvs E ta tNil) := by
  refine ⟨fun pins s σ H Q I h => PySem.W.methodCall_KW (pl := pl) (thn (he.run pins s σ H _ I h) fun u s1 ⟨x, H1, I1, rx, a, dx, fs, ex, ea, l, q⟩ => ?_) ht⟩
  subst ex
  obtain rfl : u = Value.ref a := rx
  refine getmeth_ok I1 ea c hm l ?_
  exact PySem.W.callWith_K0 (first := [.ref a]) I1.kIn hm.kp (run_g (us := [.ref a]) (vs := [.ref a]) G hr hj hx I1 (.cons rfl .nil) q)
/-- e.f, a property at q whose getter is the def at f -/
theorem pe_pr {q : Addr} {n : Str} (he : PE X e ta) (c : Cls X.K C) (hp : PropOf X.K C n q f) (G : Gf X.prog X.w X.K X.mg X.base CX k f ps dvs sp) (hr : RG j X.A) (hj : k + 1 ≤ j) (hx : Passes CX X.nox E)
    (hab : attributeBase e n X.env (eval e X.env) = eval e X.env := by rfl) : PE X (.Attribute e n pos) (tProp C sp dvs E ta) := by
  refine ⟨fun pins s σ H Q I h => attr_of hab (thn (he.run pins s σ H _ I h) fun u s1 ⟨y, H1, I1, rx, a, dx, fs, ex, ea, h1⟩ => ?_)⟩
  subst ex
  obtain rfl : u = Value.ref a := rx
  obtain ⟨mA, O, _, _, _, _⟩ := ins_get I1.hok ea
  obtain ⟨od, J, _⟩ := O.look
  obtain ⟨rest, hrec⟩ := hp.rec_
  have I2 := I1.tok (s1.toks + 1)
  have hc : (PySem.W.clsIn X.K C).isSome = true := let ⟨cd, hc, _⟩ := PySem.W.any_some c.hd; by rw [hc] <;> rfl
  refine PySem.W.get_bind I1.kIn J (PySem.W.plainGet_of (c.get n)).1 (PySem.W.findObj_data hc hp.at_ hp.get hp.tak) (PySem.W.plainGet_of (c.get n)).2 (wpAny_call (PySem.W.prop_get (s := { s1 with toks := s1.toks + 1 }) I1.kIn hrec ?_))
  refine codeAny_mono (G.go (outer := X.stack) (us := [.ref a]) (vs := [.ref a]) (hr.mono hj).in1 (Nat.le_refl _) I2.env0.in1 I2.kIn (.cons rfl .nil) h1) fun y s' hq => ?_
  match y, hq with
  | .error er, hq => exact (hx pins σ H1 { s1 with toks := s1.toks + 1 } er s' (I2.wish _) hq).elim
  | .ok (.ret u), hq =>
    obtain ⟨v, H', I3, rv, q3⟩ := I2.after hq
    show wpAny _ _ (handedOut u) _ _ _
    rw [PySem.W.handedOut_of (handed_of rv)]
    exact wpAny_pure ⟨v, H', I3, rv, q3⟩
/-- C.m(..), m a classmethod: its record at q, its def at f -/
theorem pe_cm {q : Addr} {mc : Value} {pl : Sem Bool} (he : PE X o ta) (r : ClX.CRead X.K C mc) (c : ClX.CMet X.K C mc m q f) (G : Gf X.prog X.w X.K X.mg X.base CX k f ps dvs sp) (hr : RG j X.A) (hj : k ≤ j) (hx : Passes CX X E) (ha : PA X (e :: es) t)
    (hst : starEach (e :: es) X.env = (false, eval e X.env) :: starEach es X.env := by rfl) (hpl : (backTo pos (starEach es X.env)).any (·.1) = false := by rfl)
    (ht : eval (.Call (.Attribute o m apos) (e :: es) [] pos) X.env = (do
      let ov ← eval o X.env
      standAt apos.atName
      let (f, first) ← holding [ov] (getMethod ov m pl)
      callWith pos f first (backTo pos (starEach (e :: es) X.env)) (backToKw pos (keywordEach [] X.env))) := by rfl) :
    PE X (.Call (.Attribute o m apos) (e :: es) [] pos) (ClX.tCMeth C (fun vs => sp (vs ++ dvs)) E ta t) := by
  refine ⟨fun pins s σ H Q I h => PySem.W.methodCall_KW (pl := pl) (thn (he.run pins s σ H _ I h) fun u s1 ⟨x, H1, I1, rx, ex, h1⟩ => ?_) ht⟩
  subst ex
  obtain rfl : u = Value.ref C := rx
  refine ClX.getmethcm_ok I1 r c fun s2 I2 => ?_
  refine ClX.callwith_cm I2 (ClX.base_none I1 (Nat.le_refl _)) c.fi (thn (ha.run pos _ s2 σ H1 _ I2 h1) fun us s3 ⟨vs, H2, I3, rv, q2⟩ => ⟨⟨ClX.pin_at I3, I3.kIn⟩, ?_⟩) hst hpl
  have z : wpAny (model X.prog X.w) X.A (call (.ref s1.heap.objs.size) us) (EP X ((s1.heap.objs.size, PySem.W.methodObj (.ref f) (.ref C)) :: pins) σ Q) X.xe s3 := by
    refine wpAny_call (PySem.W.method_call (ClX.pin_at I3) (codeAny_mono (G.go (outer := X.stack) (us := .ref C :: us) (vs := .ref C :: vs) hr hj I3.env0 I3.kIn (.cons rfl rv) q2) fun y s' hq => ?_))
    match y, hq with
    | .error er, hq => exact hx _ σ H2 s3 er s' I3 hq
    | .ok (.ret u), hq => exact I3.after hq
  exact thn z fun _ _ y => ClX.unpinE y
end
/-! f(.., k = v, ..), C(.., k = v, ..) -/
/-- a def as a call with n positional values and keywords ks finds it; gV puts both in the parameters' order -/
structure Gk (P : Program) (w : World) (K : PySem.W.Frag) (mg : Str → Option Value) (base : Heap) (CX : CXT) (k : Nat) (f : Addr) (ps : List Str) (n : Nat) (ks : List Str) (gV : List V → List V → List V) (sp : Sp) : Prop where
  ex : ∃ (fd : FuncData) (g : List Value → List Value → List Value), FnG P w K mg base CX k f fd ps sp ∧ KBn K fd ps n ks g gV
  kp : PySem.W.keepIn K (.ref f) = true
section
variable {X : Cx} {CX : CXT} {k j n : Nat} {f C : Addr} {x m : Str} {ps ks : List Str} {sp : Sp} {E : XK} {o e : Expr} {es : List Expr} {p pos apos : Pos} {t tk : TA} {ta : TE} {kws : List Keyword} {gV : List V → List V → List V}
theorem Gk.go {A : Around} {H : Hp} {s : Shared} {us ws : List Value} {vs zs : List V} {Q : VK} {outer : List Env} {P : Program} {w : World} {K : PySem.W.Frag} {mg : Str → Option Value} {base : Heap} (G : Gk P w K mg base CX k f ps n ks gV sp) (hr : RG j A) (hj : k ≤ j) (e0 : Env0 P w K mg base A outer s H) (KX : K.In s.heap)
    (r : Vals vs us) (rz : Vals zs ws) (l1 : vs.length = n) (l2 : zs.length = ks.length) (h : sp (gV vs zs) H Q E) :
    codeAny (model P w) A (.call (.ref f) ⟨us, ks.zip ws⟩) (CR CX outer P w H s Q E) s := by
  obtain ⟨fd, g, F, hb⟩ := G.ex
  exact F.run A outer s H ⟨us, ks.zip ws⟩ (g us ws) (gV vs zs) Q E (hr.mono hj) e0 (hb.to s us ws KX (r.length.symm.trans l1) (rz.length.symm.trans l2)) (hb.rel r rz) h
theorem run_gk {pins : List (Addr × Obj)} {σ : L2.St} {H : Hp} {s : Shared} {Q : VK} {us ws : List Value} {vs zs : List V} (G : Gk X.prog X.w X.K X.mg X.base CX k f ps n ks gV sp) (hr : RG j X.A) (hj : k ≤ j) (hx : Passes CX X E)
    (I : Inv X pins σ H s) (r : Vals vs us) (rz : Vals zs ws) (l1 : vs.length = n) (l2 : zs.length = ks.length) (h : sp (gV vs zs) H Q E) : wpAny (model X.prog X.w) X.A (call (.ref f) us (ks.zip ws)) (EP X pins σ Q) X.xe s := by
  refine wpAny_call (codeAny_mono (G.go hr hj I.env0 I.kIn r rz l1 l2 h) fun y s' hq => ?_)
  match y, hq with
  | .error e, hq => exact hx pins σ H s e s' I hq
  | .ok (.ret u), hq => exact I.after hq
theorem run_mkk {pins : List (Addr × Obj)} {σ : L2.St} {H : Hp} {s : Shared} {Q : VK} {us ws : List Value} {vs zs : List V} (M : Mg X.K C f) (G : Gk X.prog X.w X.K X.mg X.base CX k f ps (n + 1) ks gV sp) (hr : RG j X.A) (hj : k + 1 ≤ j) (hx : Passes CX X E) (I : Inv X pins σ H s) (r : Vals vs us) (rz : Vals zs ws) (l1 : vs.length = n) (l2 : zs.length = ks.length)
    (h : ∀ x dx, H x = none → H dx = none → dx ≠ x → sp (gV (.ref x :: vs) zs) (upd (upd H dx (.own x)) x (.ins C dx [])) (fun v H2 => v = .non ∧ Q (.ref x) H2) E) :
    wpAny (model X.prog X.w) X.A (call (.ref C) us (ks.zip ws)) (EP X pins σ Q) X.xe s := by
  have hq := h (s.heap.objs.size + 1) s.heap.objs.size (I.hok.fresh (Nat.le_succ _)) (I.hok.fresh (Nat.le_refl _)) (Nat.ne_of_lt (Nat.lt_succ_self _))
  have I2 := Inv.made (C := C) I
  have r2 : Vals (V.ref (s.heap.objs.size + 1) :: vs) (Value.ref (s.heap.objs.size + 1) :: us) := .cons rfl r
  refine wpAny_call (make_map (f := f) I.kIn M.makes M.init (beq_iff_eq.mp M.fn) (codeAny_mono (G.go (outer := X.stack) (RG.make (hr.mono hj) C us (ks.zip ws)) (Nat.le_refl _) (I2.env0.make C us (ks.zip ws)) I2.kIn r2 rz (by rw [List.length_cons, l1]) l2 hq) fun y s' hq' => ?_))
  match y, hq' with
  | .error e, hq' => exact hx pins σ _ _ e s' I2 hq'
  | .ok (.ret u), hq' =>
    obtain ⟨v, H', I3, rv, ev, q3⟩ := I2.after hq'
    subst ev
    exact ⟨rv, ⟨V.ref (s.heap.objs.size + 1), H', I3, rfl, q3⟩⟩
theorem pe_mkK0 (M : Mg X.K C f) (G : Gk X.prog X.w X.K X.mg X.base CX k f ps 1 ks gV sp) (hm : X.mg x = some (.ref C)) (hr : RG j X.A) (hj : k + 1 ≤ j) (hx : Passes CX X E) (hkw : PK X kws tk) (hg : Gl X x := by rfl)
    (hall : (backToKw pos (keywordEach kws X.env)).all (·.1.isSome) = true := by rfl) (hks : (backToKw pos (keywordEach kws X.env)).filterMap (·.1) = ks := by rfl) (hdb : (x == ("__debug__" : Str)) = false := by decide)
    (hpl : ((backTo pos (starEach [] X.env)).any (·.1) || (backToKw pos (keywordEach kws X.env)).any (·.1.isNone)) = false := by rfl) :
    PE X (.Call (.Name x p) [] kws pos) (tMakeK C 0 ks.length sp gV E tNil tk) := by
  refine ⟨fun pins s σ H Q I h => wpAny_Call_Name_kw (ld_glob I hg hm ?_ hdb)⟩
  refine PySem.W.callWith_KW0 (h₀ := X.base) I.ok.mod.kin M.kp hall ?_ hpl
  refine thn (hkw.run pos pins s σ H _ I h) fun ws s2 ⟨zs, H2, I2, rz, l1, l2, q2⟩ => ⟨I2.kIn, ?_⟩
  rw [hks]
  exact run_mkk (us := []) (vs := []) M G hr hj hx I2 .nil rz rfl l2 q2
/-- f(k = v, ..) -/
theorem pe_gk0 (G : Gk X.prog X.w X.K X.mg X.base CX k f ps 0 ks gV sp) (hm : X.mg x = some (.ref f)) (hr : RG j X.A) (hj : k ≤ j) (hx : Passes CX X E) (hkw : PK X kws tk) (hg : Gl X x := by rfl)
    (hall : (backToKw pos (keywordEach kws X.env)).all (·.1.isSome) = true := by rfl) (hks : (backToKw pos (keywordEach kws X.env)).filterMap (·.1) = ks := by rfl) (hdb : (x == ("__debug__" : Str)) = false := by decide)
    (hpl : ((backTo pos (starEach [] X.env)).any (·.1) || (backToKw pos (keywordEach kws X.env)).any (·.1.isNone)) = false := by rfl) :
    PE X (.Call (.Name x p) [] kws pos) (tCallN 0 ks.length sp gV E tNil tk) := by
  refine ⟨fun pins s σ H Q I h => wpAny_Call_Name_kw (ld_glob I hg hm ?_ hdb)⟩
  refine PySem.W.callWith_KW0 (h₀ := X.base) I.ok.mod.kin G.kp hall ?_ hpl
  refine thn (hkw.run pos pins s σ H _ I h) fun ws s2 ⟨zs, H2, I2, rz, l1, l2, q2⟩ => ⟨I2.kIn, ?_⟩
  rw [hks]
  exact run_gk (us := []) (vs := []) G hr hj hx I2 .nil rz l1 l2 q2
end
/-! str, repr of an own object; repr of data -/
section
variable {X : Cx} {CX : CXT} {k j : Nat} {f C : Addr} {ps : List Str} {sp : Sp}
/-- what a one-argument special def f of the class C gives of the object -/
theorem run_sp {A : Around} {pins : List (Addr × Obj)} {σ : L2.St} {H : Hp} {s : Shared} {Q : VK} {a : Addr} {R : Value → Shared → Prop} (G : Gf X.prog X.w X.K X.mg X.base CX0 k f ps [] sp) (hr : RG k A) (hf : A.frames = X.A.frames)
    (I : Inv X pins σ H s) (h : sp [.ref a] H Q E0) (hR : ∀ v H' u s', Inv X pins σ H' s' → RelV v u → Q v H' → R u s') : wpAny (model X.prog X.w) A (call (.ref f) [.ref a]) R X.xe s := by
  have e0 : Env0 X.prog X.w X.K X.mg X.base A X.stack s H := ⟨by rw [hf]; exact I.ok.frames, I.env0.mod, I.env0.bs, I.env0.bsz, I.env0.funs, I.env0.frf, I.env0.hok, I.env0.bare⟩
  refine wpAny_call (codeAny_mono (G.go (outer := X.stack) (us := [.ref a]) (vs := [.ref a]) hr (Nat.le_refl _) e0 I.kIn (.cons rfl .nil) h) fun y s' hq => ?_)
  match y, hq with
  | .error er, hq => exact hq.elim
  | .ok (.ret u), hq =>
    obtain ⟨v, H', I3, rv, q3⟩ := I.after hq
    exact hR v H' u s' I3 rv q3
def rStrOwn (C : Addr) (sp : Sp) : List V → Hp → VK → Prop := fun xs H Q => ∃ a dx fs, xs = [.ref a] ∧ H a = some (.ins C dx fs) ∧ sp [.ref a] H (fun v H' => ∃ y : Str, v = .str y ∧ Q v H') E0
theorem call_strOwn (G : Gf X.prog X.w X.K X.mg X.base CX0 k f ps [] sp) (hs : PySem.W.findIn X.K (.ref C) "__str__" = some (some (.ref f))) (hf : PySem.W.isFn X.K (.ref f) = true) (hr : RG j X.A) (hj : k + 2 ≤ j) : CallR X (.type "str") (rStrOwn C sp) := by
  intro pins s σ H xs us Q I r h
  obtain ⟨a, dx, fs, rfl, ea, h1⟩ := h
  obtain ⟨u, rfl, rx⟩ := vals1 r
  obtain rfl : u = Value.ref a := rx
  obtain ⟨mA, O, _⟩ := ins_get I.hok ea
  obtain ⟨od, J, _⟩ := O.look
  have hr2 : RG (k + 2) X.A := hr.mono hj
  refine PySem.W.kso_call hr2.in1.in1.r.units0 I.kIn J hs hf (run_sp G hr2.in1.in1 rfl I h1 fun v H' u s' I' rv q => ?_)
  obtain ⟨y, rfl, q⟩ := q
  obtain ⟨t, rfl⟩ := rv
  exact ⟨.str y, H', I', ⟨t, rfl⟩, q⟩
theorem call_reprOwn (G : Gf X.prog X.w X.K X.mg X.base CX0 k f ps [] sp) (hs : PySem.W.findIn X.K (.ref C) "__repr__" = some (some (.ref f))) (hf : PySem.W.isFn X.K (.ref f) = true) (hr : RG j X.A) (hj : k + 1 ≤ j) : CallR X (.builtin "repr") (rStrOwn C sp) := by
  intro pins s σ H xs us Q I r h
  obtain ⟨a, dx, fs, rfl, ea, h1⟩ := h
  obtain ⟨u, rfl, rx⟩ := vals1 r
  obtain rfl : u = Value.ref a := rx
  obtain ⟨mA, O, _⟩ := ins_get I.hok ea
  obtain ⟨od, J, _⟩ := O.look
  obtain ⟨m, hF⟩ := I.fr
  have hr2 : RG (k + 1) X.A := hr.mono hj
  refine PySem.W.repr_K hr2.in1.r.units0 hF I.ok.mod.kin J hs hf (run_sp G hr2.in1 rfl I h1 fun v H' u s' I' rv q => ?_)
  obtain ⟨y, rfl, q⟩ := q
  obtain ⟨t, rfl⟩ := rv
  exact ⟨.str y, H', I', ⟨t, rfl⟩, q⟩
/-- repr of a list or tuple of data -/
def rRepr (K : PySem.W.Frag) : List V → Hp → VK → Prop := fun xs H Q => ∃ a d, xs = [.ref a] ∧ Dp K H (.ref a) d ∧ d.showable = true ∧ d.hasDict = false ∧ d.depth ≤ 50 ∧ d.shown.length ≤ sizeLine ∧ Q (.str d.shown) H
theorem call_reprD (hr : RG j X.A) : CallR X (.builtin "repr") (rRepr X.K) := by
  intro pins s σ H xs us Q I r h
  obtain ⟨a, d, rfl, hd, h1, h2, h3, h4, q⟩ := h
  obtain ⟨u, rfl, rx⟩ := vals1 r
  obtain ⟨as, R⟩ := Dp.reads I d _ _ hd rx
  obtain rfl : u = Value.ref a := rx
  refine repr_of_reads' R h1 (PyData.noDict_hsm h2) hr.g (by have := hr.units; omega) (fun _ _ z => z) (fun h' u tk hk => ?_) h4
  exact ⟨.str d.shown, H, I.kept (t' := tk) hk, ⟨u, rfl⟩, q⟩
end
end My

set_option Elab.async false
set_option linter.all false
set_option maxRecDepth 100000
set_option maxHeartbeats 4000000
/-! LayC: what a head tells of classes, as Bools -/
namespace My
open PySem PySem.Spec PyProof.Rows L2 He
def propB (K : PySem.W.Frag) (x m : Str) : Bool := eqO (PySem.W.findIn K (.ref (ga K x)) m) (some (some (.ref (ma K (ga K x) m)))) && (eqO (PySem.W.specialIn K (.ref (ma K (ga K x) m)) "__get__") (some (some (.builtin "property.__get__"))) &&
  (decide (PySem.W.takesIn K (.ref (ma K (ga K x) m)) = some true) && (match PySem.W.recIn K (ma K (ga K x) m) "property" with
    | some (.ref f :: _) => decide (f = Hk.wfA x "property" m K)
    | _ => false)))
theorem propB_ok {K : PySem.W.Frag} {x m : Str} (h : propB K x m = true) : PropOf K (ga K x) m (ma K (ga K x) m) (Hk.wfA x "property" m K) := by
  obtain ⟨h1, h⟩ := ba h
  obtain ⟨h2, h⟩ := ba h
  obtain ⟨h3, h4⟩ := ba h
  refine ⟨eqO_ok h1, eqO_ok h2, of_decide_eq_true h3, ?_⟩
  split at h4
  · rename_i f rest e
    exact ⟨rest, by rw [e, of_decide_eq_true h4]⟩
  · cases h4
def crB (K : PySem.W.Frag) (x : Str) : Bool := PySem.W.readsIn K (ga K x) (.type "type") && eqO (PySem.W.specialIn K (.ref (ga K x)) "__getattribute__") (some (some (.builtin "type.__getattribute__")))
theorem crB_ok {K : PySem.W.Frag} {x : Str} (h : crB K x = true) : ClX.CRead K (ga K x) (.type "type") := by
  obtain ⟨h1, h2⟩ := ba h
  exact ⟨h1, eqO_ok h2⟩
def cmB (K : PySem.W.Frag) (x m : Str) : Bool := (match PySem.W.findCls K (.ref (ga K x)) (.type "type") m with
    | some (.get (.builtin g) (.ref p) .none (.ref D)) => decide (g = "classmethod.__get__") && (decide (p = ma K (ga K x) m) && decide (D = ga K x))
    | _ => false) && ((match PySem.W.recIn K (ma K (ga K x) m) "classmethod" with
    | some (.ref f :: _) => decide (f = Hk.wfA x "classmethod" m K)
    | _ => false) && PySem.W.fnIn K (Hk.wfA x "classmethod" m K))
theorem cmB_ok {K : PySem.W.Frag} {x m : Str} (h : cmB K x m = true) : ClX.CMet K (ga K x) (.type "type") m (ma K (ga K x) m) (Hk.wfA x "classmethod" m K) := by
  obtain ⟨h1, h⟩ := ba h
  obtain ⟨h2, h3⟩ := ba h
  refine ⟨?_, ?_, h3⟩
  · split at h1
    · rename_i g p D e
      obtain ⟨e1, e2⟩ := ba h1
      obtain ⟨e2, e3⟩ := ba e2
      rw [e, of_decide_eq_true e1, of_decide_eq_true e2, of_decide_eq_true e3]
    · cases h1
  · split at h2
    · rename_i f rest e
      exact ⟨rest, by rw [e, of_decide_eq_true h2]⟩
    · cases h2
/-- isinstance may be asked of the class's instances -/
structure InsOk (K : PySem.W.Frag) (C : Addr) : Prop where
  cl : Cls K C
  ha : PySem.W.findIn K (.ref C) "__class__" = some (some (.builtin "object.__class__"))
  hn : PySem.W.specialIn K (.builtin "object.__class__") "__get__" = some (some (.builtin "getset_descriptor.__get__"))
  htk : PySem.W.takesIn K (.builtin "object.__class__") = some true
  hm : PySem.W.mroIn K C (.type "object") = some true
theorem InsOk.ty {K : PySem.W.Frag} {H : Hp} {a C dx : Addr} {fs : List (Str × V)} (i : InsOk K C) (e : H a = some (.ins C dx fs)) : TyX K H (.ref a) (.ref C) := .base (.ins e i.cl i.ha i.hn i.htk i.hm)
def insB (K : PySem.W.Frag) (x : Str) : Bool := eqO (PySem.W.findIn K (.ref (ga K x)) "__class__") (some (some (.builtin "object.__class__"))) && (eqO (PySem.W.specialIn K (.builtin "object.__class__") "__get__") (some (some (.builtin "getset_descriptor.__get__"))) &&
  (decide (PySem.W.takesIn K (.builtin "object.__class__") = some true) && decide (PySem.W.mroIn K (ga K x) (.type "object") = some true)))
theorem insB_ok {K : PySem.W.Frag} {x : Str} (c : Cls K (ga K x)) (h : insB K x = true) : InsOk K (ga K x) := by
  obtain ⟨h1, h⟩ := ba h
  obtain ⟨h2, h⟩ := ba h
  obtain ⟨h3, h4⟩ := ba h
  exact ⟨c, eqO_ok h1, eqO_ok h2, of_decide_eq_true h3, of_decide_eq_true h4⟩
/-- a special def of a class -/
def spB (K : PySem.W.Frag) (x m : Str) : Bool := eqO (PySem.W.findIn K (.ref (ga K x)) m) (some (some (.ref (ma K (ga K x) m)))) && PySem.W.isFn K (.ref (ma K (ga K x) m))
structure SpOk (K : PySem.W.Frag) (C : Addr) (m : Str) (f : Addr) : Prop where
  at_ : PySem.W.findIn K (.ref C) m = some (some (.ref f))
  fn : PySem.W.isFn K (.ref f) = true
theorem spB_ok {K : PySem.W.Frag} {x m : Str} (h : spB K x m = true) : SpOk K (ga K x) m (ma K (ga K x) m) := by
  obtain ⟨h1, h2⟩ := ba h
  exact ⟨eqO_ok h1, h2⟩
def isiB (K : PySem.W.Frag) (t c : Value) (b : Bool) : Bool := decide (PySem.W.kitOne K t c = some b)
theorem isiB_ok {K : PySem.W.Frag} {t c : Value} {b : Bool} (h : isiB K t c b = true) : PySem.W.kitOne K t c = some b := of_decide_eq_true h
theorem mg_ok {K : PySem.W.Frag} {x : Str} (h : (Fa.mkr x).ok K = true) : Mg K (ga K x) (ma K (ga K x) "__init__") := by
  obtain ⟨h1, h⟩ := ba h
  obtain ⟨h2, h⟩ := ba h
  obtain ⟨h3, h4⟩ := ba h
  exact ⟨h1, eqO_ok h2, h3, h4⟩
end My

set_option Elab.async false
set_option linter.all false
set_option maxRecDepth 100000
set_option maxHeartbeats 4000000
/-! LayD: the law's end, where it is known that no repr is under way -/
namespace My
open PySem PySem.Spec PyProof.Rows L2
/-- from an abstract heap in which the script alone may be tracked -/
theorem law_at {P : Program} {w : World} {K : PySem.W.Frag} {mg mb : Str → Option Value} {CX : CXT} {k : Nat} {fa a : Addr} {fd : FuncData} {x : Str} {sp : Sp} {t : Shared} {vs : List Value} {ns : List Int} {H : Hp}
    (KX : K.In t.heap) (hns : t.heap.Ns mainGlobals mg) (hb : t.heap.Ns builtinsNs mb) (hbb : ∀ x : Str, x ≠ "__name__" → mb x = bootBuiltins x) (hlim : t.heap.NoLimit) (hg : t.gens = #[])
    (ha : t.heap.get? a = some { cls := .type "list", data := .seq vs.toArray }) (hr : RG k callerA)
    (F : ∀ base : Heap, K.In base → base.Ns mainGlobals mg → FnG P w K mg base CX k fa fd [x] sp) (hbind : ∀ (s : Shared) (u : Value), BindsTo s fd ⟨[u], []⟩ [(x, u)])
    (hsp : sp [.ref a] H (fun v _ => v = .bl true) fun _ _ _ => False) (hCX : ∀ H e s', CX [] H t (fun _ _ _ => False) e s' → False)
    (hO : Only H) (hok : HOk P w H t.heap) (hA : ∀ b, H b ≠ none → b = a) (hK : H a ≠ none → K.lookup a = none) :
    codeAny (model P w) callerA (.call (.ref fa) ⟨[.ref a], []⟩) (fun r s' => r = .ok (.ret (.bool true)) ∧ OldK t.heap s'.heap ∧ s'.os = t.os ∧ AllBare s'.gens) t := by
  have off : ∀ {b : Addr}, (b = a → False) → H b = none := fun {b} n => Classical.byContradiction fun q => n (hA b q)
  have kb : K.In (hidT t.heap H) := fun b o e => hidT_get (KX b o e) (Classical.byContradiction fun q => by
    have z := hA b q
    subst z
    rw [hK q] at e
    cases e)
  have nsK : ∀ {b : Addr} {m : Str → Option Value}, t.heap.Ns b m → (hidT t.heap H).Ns b m := fun {b m} ⟨o, es, ep, e, d, r⟩ => ⟨o, es, ep, hidT_get e (off fun z => by
    subst z
    rw [ha] at e
    cases e
    have d2 : Data.seq vs.toArray _ = Data.dict es ep := d
    cases d2), d, r⟩
  have hM : Mod K mg (hidT t.heap H) := ⟨kb, nsK hns, ⟨mb, nsK hb, hbb⟩, let ⟨mc, h1, h2⟩ := hlim; ⟨mc, nsK h1, h2⟩⟩
  have e0 : Env0 P w K mg (hidT t.heap H) callerA [] t H := ⟨rfl, hM, fun b o e => of_hidT e, Nat.le_of_eq (hidT_size _ _), trivial, fun b z => (List.not_mem_nil (a := b) z).elim, hok, .of_eq hg⟩
  refine codeAny_mono ((F _ kb (nsK hns)).run callerA [] t H ⟨[.ref a], []⟩ [.ref a] [.ref a] _ _ hr e0 (hbind t (.ref a)) (.cons rfl .nil) hsp) fun y s' h => ?_
  match y, h with
  | .error e, h => exact (hCX H e s' h).elim
  | .ok (.ret u), h =>
    obtain ⟨v, H', os, bare, un, hok', r', q⟩ := h
    have q2 : v = .bl true := q
    subst q2
    obtain rfl : u = Value.bool true := r'
    refine ⟨rfl, OldK.of_keep fun b o e => ?_, os, bare⟩
    cases q : H b with
    | none => exact un.keep b o e q (fun z => (List.not_mem_nil (a := b) z).elim) (by simp)
    | some u =>
      rcases hO b with z | ⟨ob, xs, z⟩
      · rw [q] at z
        cases z
      · obtain ⟨e1, _⟩ := hok b _ z
        obtain ⟨e2, _⟩ := hok' b _ (un.frzs b ob _ z)
        rw [e] at e1
        cases e1
        exact e2
theorem law_g {P : Program} {w : World} {K : PySem.W.Frag} {mg mb : Str → Option Value} {CX : CXT} {k : Nat} {fa a : Addr} {fd : FuncData} {x : Str} {sp : Sp} {t : Shared} {vs : List Value} {ns : List Int}
    (KX : K.In t.heap) (hns : t.heap.Ns mainGlobals mg) (hb : t.heap.Ns builtinsNs mb) (hbb : ∀ x : Str, x ≠ "__name__" → mb x = bootBuiltins x) (hlim : t.heap.NoLimit) (hg : t.gens = #[])
    (ha : t.heap.get? a = some { cls := .type "list", data := .seq vs.toArray }) (hi : IntsAre vs ns) (hl : ns.length ≤ sizeLine) (hr : RG k callerA)
    (F : ∀ base : Heap, K.In base → base.Ns mainGlobals mg → FnG P w K mg base CX k fa fd [x] sp) (hbind : ∀ (s : Shared) (u : Value), BindsTo s fd ⟨[u], []⟩ [(x, u)])
    (hsp : ∀ H : Hp, Only H → SqL K H a (ns.map V.int) → sp [.ref a] H (fun v _ => v = .bl true) fun _ _ _ => False) (hCX : ∀ H e s', CX [] H t (fun _ _ _ => False) e s' → False) :
    codeAny (model P w) callerA (.call (.ref fa) ⟨[.ref a], []⟩) (fun r s' => r = .ok (.ret (.bool true)) ∧ OldK t.heap s'.heap ∧ s'.os = t.os ∧ AllBare s'.gens) t := by
  have rv := vals_ints hi
  cases hk : K.lookup a with
  | some o =>
    have e := KX a o hk
    rw [ha] at e
    cases e
    have O : Only (fun _ => none) := fun _ => .inl rfl
    exact law_at (ns := ns) KX hns hb hbb hlim hg ha hr F hbind (hsp _ O (.inr ⟨_, vs.toArray, _, hk, rfl, rfl, rfl, by rw [List.size_toArray, hi.length]; exact hl, by simpa using rv⟩)) hCX O (fun b u z => by cases (show (none : Option HO) = some u from z)) (fun b z => absurd rfl z) fun z => absurd rfl z
  | none =>
    let ob : Obj := { cls := .type "list", data := .seq vs.toArray }
    let H : Hp := fun b => if b = a then some (.frz ob (.lst (ns.map V.int))) else none
    have Ha : H a = some (.frz ob (.lst (ns.map V.int))) := if_pos rfl
    have Hn : ∀ {b}, b ≠ a → H b = none := fun {b} z => if_neg z
    have O : Only H := fun b => by
      by_cases z : b = a
      · exact .inr ⟨_, _, if_pos z⟩
      · exact .inl (Hn z)
    refine law_at (H := H) (ns := ns) KX hns hb hbb hlim hg ha hr F hbind (hsp H O (.inl (.inr ⟨ob, Ha⟩))) hCX O (fun b u z => ?_) (fun b z => Classical.byContradiction fun n => z (Hn n)) fun _ => hk
    by_cases n : b = a
    · subst n
      rw [Ha] at z
      cases z
      exact ⟨ha, by rw [List.length_map]; exact hl, vs, _, rv, ha⟩
    · rw [Hn n] at z
      cases z
theorem walk_g {l : PySem.W.OpenLaw} {n k : Nat} {q : Program} {loose : List Str} {XP : (Str → Option Value) → Heap → Prop} {YP : World → Heap → Prop} {d : DefRec} {x : Str}
    (hn : l.most = some n) (hn2 : n ≤ sizeLine) (hdf : d.params.defaults = []) (hr : RG k callerA)
    (F : ∀ (w : World) (mg : Str → Option Value) (fa : Addr) (h : Heap), YP w h → h.Ns mainGlobals mg → mg d.name = some (.ref fa) →
      ∃ (K : PySem.W.Frag) (fd : FuncData) (sp : Sp), K.In h ∧ (∀ (s : Shared) (u : Value), BindsTo s fd ⟨[u], []⟩ [(x, u)]) ∧
        (∀ (H : Hp) (a : Addr) (ns : List Int), ns.length ≤ n → SqL K H a (ns.map V.int) → sp [.ref a] H (fun v _ => v = .bl true) fun _ _ _ => False) ∧
        ∀ base : Heap, K.In base → base.Ns mainGlobals mg → FnG l.prog w K mg base CX0 k fa fd [x] sp) :
    PySem.W.WalkO q loose XP YP l.row.toRowW d [] (fun f vs => PySem.call f vs) := by
  refine Att.attach_call hn hdf fun w s₀ t mg mb fa o pm cd doc a vs ns G Y ho hd hcd hmg hobj hints hlen hg => ?_
  obtain ⟨K, fd, sp, KX, hb, hsp, hF⟩ := F w mg fa _ Y G.T.g hmg
  exact law_g KX G.T.g G.T.b G.T.builtins G.T.nolimit hg hobj hints (Nat.le_trans hlen hn2) hr hF hb (fun H _ hS => hsp H a ns hlen hS) fun H e s' z => z
end My

set_option Elab.async false
set_option linter.all false
set_option maxRecDepth 100000
set_option maxHeartbeats 4000000
/-! LayE: heaps, lists, texts: steps -/
namespace My
open PySem PySem.Spec PyProof.Rows L2
/-- all but p stands -/
def But (p : Addr) (H H' : Hp) : Prop := ∀ q o, q ≠ p → H q = some o → H' q = some o
theorem But.at {p q : Addr} {H H' : Hp} {o : HO} (b : But p H H') (n : q ≠ p) (h : H q = some o) : H' q = some o := b q o n h
theorem But.rfl {p : Addr} {H : Hp} : But p H H := fun _ _ _ h => h
theorem But.trans {p : Addr} {H H1 H2 : Hp} (a : But p H H1) (b : But p H1 H2) : But p H H2 := fun q o n h => b q o n (a q o n h)
theorem But.new {p r : Addr} {H H1 : Hp} {u : HO} (a : But p H H1) (n : H1 r = none) : But p H (upd H1 r u) := fun q o m h => by
  have z := a q o m h
  rw [upd_ne (ne_of_none z n)]
  exact z
theorem But.put {p : Addr} {H H1 : Hp} {u : HO} (a : But p H H1) : But p H (upd H1 p u) := fun q o m h => by
  rw [upd_ne m]
  exact a q o m h
/-- an object that H does not know changes -/
theorem But.own {p r : Addr} {H H1 : Hp} {u : HO} (a : But p H H1) (n : H r = none) : But p H (upd H1 r u) := fun q o m h => by
  rw [upd_ne (ne_of_none h n)]
  exact a q o m h
theorem But.none {p r : Addr} {H H1 : Hp} (a : But p H H1) (n : H1 r = none) (m : r ≠ p) : H r = none := by
  cases q : H r with
  | none => rfl
  | some o =>
    rw [a r o m q] at n
    cases n
theorem Same.at {q : Addr} {H H' : Hp} {o : HO} (b : Same H H') (h : H q = some o) : H' q = some o := b q o h
theorem Same.but {p : Addr} {H H' : Hp} (b : Same H H') : But p H H' := fun q o _ h => b q o h
theorem Same.new {r : Addr} {H H1 : Hp} {u : HO} (a : Same H H1) (n : H1 r = none) : Same H (upd H1 r u) := fun q o h => by
  have z := a q o h
  rw [upd_ne (ne_of_none z n)]
  exact z
theorem Same.own {r : Addr} {H H1 : Hp} {u : HO} (a : Same H H1) (n : H r = none) : Same H (upd H1 r u) := fun q o h => by
  rw [upd_ne (ne_of_none h n)]
  exact a q o h
theorem But.sqL {K : PySem.W.Frag} {p a : Addr} {H H' : Hp} {xs : List V} (b : But p H H') (n : a ≠ p) (h : SqL K H a xs) : SqL K H' a xs := by
  rcases h with (h | ⟨o, h⟩) | h
  · exact .inl (.inl (b _ _ n h))
  · exact .inl (.inr ⟨o, b _ _ n h⟩)
  · exact .inr h
section
variable {K : PySem.W.Frag} {σ : L2.St} {H : Hp} {nx bk ct : L2.St → Hp → Prop} {rt : VK} {ta tb tc te tv : TE} {Q : VK} {t u : TS} {g : TG} {tA : TA} {c d : TT} {R : Bool → Hp → Prop} {RA : List V → Hp → Prop} {N : L2.St → Hp → Prop}
theorem r_ixL {p : Addr} {xs : List V} {i : Int} {v : V} (h : SqL K H p xs) (e : atI xs i = some v) (q : Q v H) : rIxL K (.ref p) (.int i) H Q := ⟨p, xs, i, v, rfl, rfl, h, e, q⟩
theorem r_ixT {p : Addr} {xs : List V} {i : Int} {v : V} (h : SqT K H p xs) (e : atI xs i = some v) (q : Q v H) : rIxT K (.ref p) (.int i) H Q := ⟨p, xs, i, v, rfl, rfl, h, e, q⟩
theorem r_setL {p : Addr} {xs : List V} {v : V} {k : Int} {j : Nat} {F : Hp → Prop} (h : H p = some (.lst xs)) (e : ixN xs.length k = some j) (q : F (upd H p (.lst (xs.set j v)))) : rSetL (.ref p) (.int k) v H F := ⟨p, xs, k, j, rfl, rfl, h, e, q⟩
theorem r_gtup {a : Addr} {xs : List V} {n : Nat} {tg : TGs} (h : SqT K H a xs) (e : xs.length = n) (q : tg xs σ H N) : gTup K n tg (.ref a) σ H N := ⟨a, xs, rfl, h, e, q⟩
theorem r_gcons {v : V} {r : List V} {tg : TG} {us : TGs} (q : tg v σ H fun σ' H' => us r σ' H' N) : gCons tg us (v :: r) σ H N := ⟨v, r, rfl, q⟩
theorem r_gnil (q : N σ H) : gNil [] σ H N := ⟨rfl, q⟩
theorem r_sl {r : V → Option Int → Option Int → Hp → VK → Prop} {tl th : TO} (h : te σ H fun x H1 => tl σ H1 fun l H2 => th σ H2 fun u H3 => r x l u H3 Q) : tSl r te tl th σ H Q := h
theorem r_nopart {F : Option Int → Hp → Prop} (h : F none H) : tNoPart σ H F := h
theorem r_part {F : Option Int → Hp → Prop} (h : te σ H fun x H1 => ∃ i, x = .int i ∧ F (some i) H1) : tPart te σ H F := h
theorem r_pint {i : Int} {F : Int → Prop} (h : F i) : ∃ j, V.int i = .int j ∧ F j := ⟨i, rfl, h⟩
theorem r_slL {p : Addr} {xs : List V} {lo hi : Option Int} (h : SqL K H p xs) (q : ∀ r, H r = none → Q (.ref r) (upd H r (.lst (cutV xs lo hi)))) : rSlL K (.ref p) lo hi H Q := ⟨p, xs, rfl, h, q⟩
theorem r_lenS {p : Addr} {xs : List V} {F : List V → Prop} (h : SqL K H p xs ∨ SqT K H p xs) (q : F xs) : ∃ a ys, ([V.ref p] : List V) = [.ref a] ∧ (SqL K H a ys ∨ SqT K H a ys) ∧ F ys := ⟨p, xs, rfl, h, q⟩
theorem r_dm {i j : Int} {C : Int → Int → Prop} {F : Int → Int → Prop} (hc : C i j) (q : F i j) : ∃ a b, ([V.int i, V.int j] : List V) = [.int a, .int b] ∧ C a b ∧ F a b := ⟨i, j, rfl, hc, q⟩
theorem r_len {xs : List V} {B : Prop} (h : xs.length ≤ sizeLine) (q : B) : xs.length ≤ sizeLine ∧ B := ⟨h, q⟩
theorem f_fld {f : Str} {a C dx : Addr} {fs : List (Str × V)} {v : V} {F : V → Prop} (h : H a = some (.ins C dx fs)) (c : Cls K C) (n : NoAttr K C f) (l : fs.lookup f = some v) (q : F v) :
    ∃ a' C' dx' fs' v', V.ref a = .ref a' ∧ H a' = some (.ins C' dx' fs') ∧ Cls K C' ∧ NoAttr K C' f ∧ fs'.lookup f = some v' ∧ F v' := ⟨a, C, dx, fs, v, rfl, h, c, n, l, q⟩
theorem r_tfld {f : Str} (h : ta σ H fun x H1 => ∃ a C dx fs v, x = .ref a ∧ H1 a = some (.ins C dx fs) ∧ Cls K C ∧ NoAttr K C f ∧ fs.lookup f = some v ∧ Q v H1) : tFld K ta f σ H Q := h
theorem r_isi_ii {F : VK} (q : F (.bl true) H) : rIsi K [.int i, .ty "int"] H F := ⟨_, _, _, _, true, rfl, .ty _, .base (.int i), kit_ty (by decide +kernel), q⟩
theorem r_isi_ib {F : VK} {i : Int} (q : F (.bl false) H) : rIsi K [.int i, .ty "bool"] H F := ⟨_, _, _, _, false, rfl, .ty _, .base (.int i), kit_ty (by decide +kernel), q⟩
theorem r_isi_ss {F : VK} {s : Str} (q : F (.bl true) H) : rIsi K [.str s, .ty "str"] H F := ⟨_, _, _, _, true, rfl, .ty _, .base (.str s), kit_ty (by decide +kernel), q⟩
theorem r_isi_own {F : VK} {a C C2 dx : Addr} {fs : List (Str × V)} {b : Bool} (h : H a = some (.ins C dx fs)) (i : InsOk K C) (k : PySem.W.kitOne K (.ref C) (.ref C2) = some b) (q : F (.bl b) H) : rIsi K [.ref a, .ref C2] H F := ⟨_, _, _, _, b, rfl, .own _, i.ty h, k, q⟩
theorem r_isi_ty {F : VK} {a C dx : Addr} {fs : List (Str × V)} {b : Bool} {n : String} (h : H a = some (.ins C dx fs)) (i : InsOk K C) (k : PySem.W.kitOne K (.ref C) (.type n) = some b) (q : F (.bl b) H) : rIsi K [.ref a, .ty n] H F := ⟨_, _, _, _, b, rfl, .ty _, i.ty h, k, q⟩
theorem r_isi_int_own {F : VK} {i : Int} {C2 : Addr} {b : Bool} (k : PySem.W.kitOne K (.type "int") (.ref C2) = some b) (q : F (.bl b) H) : rIsi K [.int i, .ref C2] H F := ⟨_, _, _, _, b, rfl, .own _, .base (.int i), k, q⟩
theorem r_make {C : Addr} {sp : Sp} {dvs : List V} {E : XK} (h : tA σ H fun vs H1 => ∀ x dx, H1 x = none → H1 dx = none → dx ≠ x → sp (.ref x :: (vs ++ dvs)) (upd (upd H1 dx (.own x)) x (.ins C dx [])) (fun v H2 => v = .non ∧ Q (.ref x) H2) E) : tMake C sp dvs E tA σ H Q := h
theorem r_makeL {i : Nat} {C : Addr} {sp : Sp} {dvs : List V} {E : XK} (e : σ[i]? = some (some (.ref C))) (h : tMake C sp dvs E tA σ H Q) : tMakeL i C sp dvs E tA σ H Q := ⟨e, h⟩
theorem r_isN {v w : V} (hw : w = .non) (q : Q (.bl (decide (v = .non))) H) : w = .non ∧ Q (.bl (decide (v = .non))) H := ⟨hw, q⟩
end
section
theorem r_pow {i j z : Int} {H : Hp} {Q : VK} (hc : CPow i j) (e : i ^ j.toNat = z) (q : Q (.int z) H) : rI CPow (fun i j => .int (i ^ j.toNat)) (.int i) (.int j) H Q := by
  subst e
  exact r_i hc q
theorem and_i {A B : Prop} (a : A) (b : B) : A ∧ B := ⟨a, b⟩
end
/-! loops -/
/-- what is left of a for once it is known what is walked -/
def LoopG (J : It) (g : TG) (tb : TS) (D : Ends) (σ : L2.St) (H : Hp) : Prop := tFor (fun _ H R => R J H) g tb D σ H
section
variable {K : PySem.W.Frag} {σ : L2.St} {H : Hp} {nx bk ct : L2.St → Hp → Prop} {rt : VK} {tl : TE} {tb : TS} {g : TG} {tA : TA} {c : TT}
theorem r_forR1 (h : tA σ H fun vs H1 => ∃ j : Int, vs = [.int j] ∧ -(2 ^ 62) ≤ j ∧ j < 2 ^ 62 ∧ LoopG (Itr 0 j.toNat) g tb ⟨nx, rt, bk, ct⟩ σ H1) : tFor (iRng1 tA) g tb ⟨nx, rt, bk, ct⟩ σ H := h
theorem r_forR2 (h : tA σ H fun vs H1 => ∃ i j : Int, vs = [.int i, .int j] ∧ (-(2 ^ 62) ≤ i ∧ i < 2 ^ 62 ∧ -(2 ^ 62) ≤ j ∧ j < 2 ^ 62) ∧ LoopG (Itr i (j - i).toNat) g tb ⟨nx, rt, bk, ct⟩ σ H1) : tFor (iRng2 tA) g tb ⟨nx, rt, bk, ct⟩ σ H := h
theorem r_forL (h : tl σ H fun x H1 => ∃ a, x = .ref a ∧ (∃ xs, SqL K H1 a xs) ∧ LoopG (Itl K a) g tb ⟨nx, rt, bk, ct⟩ σ H1) : tFor (iList K tl) g tb ⟨nx, rt, bk, ct⟩ σ H := h
theorem r_forT (h : tl σ H fun x H1 => ∃ a, x = .ref a ∧ (∃ xs, SqT K H1 a xs) ∧ LoopG (Itt K a) g tb ⟨nx, rt, bk, ct⟩ σ H1) : tFor (iTup K tl) g tb ⟨nx, rt, bk, ct⟩ σ H := h
theorem r_ref1 {p : Addr} {F : Addr → Prop} (h : F p) : ∃ a, V.ref p = .ref a ∧ F a := ⟨p, rfl, h⟩
theorem r_ex {xs : List V} {F : List V → Prop} {B : Prop} (h : F xs) (q : B) : (∃ ys, F ys) ∧ B := ⟨⟨xs, h⟩, q⟩
theorem lp_range {lo : Int} {n : Nat} (Pv : Nat → L2.St → Hp → Prop) (h0 : Pv 0 σ H) (hs : ∀ i σ H, i < n → Pv i σ H → g (.int (lo + i)) σ H fun σ2 H2 => tb ⟨Pv (i + 1), rt, nx, Pv (i + 1)⟩ σ2 H2) (hd : ∀ σ H, Pv n σ H → nx σ H) :
    LoopG (Itr lo n) g tb ⟨nx, rt, bk, ct⟩ σ H := for_range (D := ⟨nx, rt, bk, ct⟩) Pv h0 hs hd
theorem lp_list {a : Addr} {xs : List V} (Pv : Nat → L2.St → Hp → Prop) (h0 : Pv 0 σ H) (hl : ∀ i σ H, i ≤ xs.length → Pv i σ H → SqL K H a xs)
    (hs : ∀ i x σ H, xs[i]? = some x → Pv i σ H → g x σ H fun σ2 H2 => tb ⟨Pv (i + 1), rt, nx, Pv (i + 1)⟩ σ2 H2) (hd : ∀ σ H, Pv xs.length σ H → nx σ H) :
    LoopG (Itl K a) g tb ⟨nx, rt, bk, ct⟩ σ H := for_list (D := ⟨nx, rt, bk, ct⟩) Pv h0 hl hs hd
theorem lp_tup {a : Addr} {xs : List V} (Pv : Nat → L2.St → Hp → Prop) (h0 : Pv 0 σ H) (hl : ∀ i σ H, i ≤ xs.length → Pv i σ H → SqT K H a xs)
    (hs : ∀ i x σ H, xs[i]? = some x → Pv i σ H → g x σ H fun σ2 H2 => tb ⟨Pv (i + 1), rt, nx, Pv (i + 1)⟩ σ2 H2) (hd : ∀ σ H, Pv xs.length σ H → nx σ H) :
    LoopG (Itt K a) g tb ⟨nx, rt, bk, ct⟩ σ H := for_tup (D := ⟨nx, rt, bk, ct⟩) Pv h0 hl hs hd
theorem lp_while (Pv : L2.St → Hp → Prop) (μ : L2.St → Hp → Nat) (h0 : Pv σ H)
    (hs : ∀ σ H, Pv σ H → c σ H fun b H1 => if b = true then (∃ N : L2.St → Hp → Prop, (∀ σ' H', N σ' H' → ∃ m', m' < μ σ H ∧ (m' = μ σ' H' ∧ Pv σ' H')) ∧ tb ⟨N, rt, nx, N⟩ σ H1) else nx σ H1) : tWhile c tb ⟨nx, rt, bk, ct⟩ σ H := by
  refine ⟨fun m σ H => m = μ σ H ∧ Pv σ H, ⟨_, rfl, h0⟩, ?_⟩
  rintro m σ H ⟨rfl, p⟩
  exact hs σ H p
theorem w_turn {Pv : L2.St → Hp → Prop} {μ : L2.St → Hp → Nat} {m : Nat} (h : tb ⟨fun σ' H' => Pv σ' H' ∧ μ σ' H' < m, rt, nx, fun σ' H' => Pv σ' H' ∧ μ σ' H' < m⟩ σ H) :
    ∃ N : L2.St → Hp → Prop, (∀ σ' H', N σ' H' → ∃ m', m' < m ∧ (m' = μ σ' H' ∧ Pv σ' H')) ∧ tb ⟨N, rt, nx, N⟩ σ H := ⟨_, fun σ' H' q => ⟨_, q.2, rfl, q.1⟩, h⟩
end
theorem call_divmodA {X : Cx} : CallR X (.builtin "divmod") (fun xs H Q => ∃ i j, xs = [.int i, .int j] ∧ CDivW i j ∧ ∀ p, H p = none → Q (.ref p) (upd H p (.tup [.int (i / j), .int (i % j)]))) := by
  intro pins s σ H xs us Q I r h
  obtain ⟨i, j, rfl, hc, q⟩ := h
  exact call_divmodW pins s σ H _ us Q I r ⟨i, j, rfl, ⟨hc.1, PyProof.noPylong_of_log2 hc.2⟩, q⟩
/-- a product one of whose factors is below 2 ^ 64 -/
theorem ml {i j : Int} (h1 : -(2 ^ 64) < i) (h2 : i < 2 ^ 64) : IntMulOk i j := CMul.ok (.inl ⟨h1, h2⟩)
theorem mr {i j : Int} (h1 : -(2 ^ 64) < j) (h2 : j < 2 ^ 64) : IntMulOk i j := CMul.ok (.inr ⟨h1, h2⟩)
theorem sz {n : Nat} (h : n ≤ 1000) : n ≤ sizeLine := Nat.le_trans h (by decide)
theorem szl {n : Nat} (h : n ≤ 1000) : n < sizeLine := Nat.lt_of_le_of_lt h (by decide)
theorem atI_map {ns : List Int} {i : Int} (h0 : 0 ≤ i) (h : i < ns.length) : atI (ns.map V.int) i = some (.int (ns.getD i.toNat 0)) := by
  obtain ⟨k, rfl⟩ := Int.eq_ofNat_of_zero_le h0
  refine atI_nat ?_
  have hk : k < ns.length := by omega
  rw [List.getElem?_map, List.getElem?_eq_getElem hk, Int.toNat_natCast, List.getD_eq_getElem?_getD, List.getElem?_eq_getElem hk] <;> rfl
theorem cut_map (ns : List Int) (lo hi : Option Int) : ∃ ms : List Int, cutV (ns.map V.int) lo hi = ms.map V.int ∧ ms.length ≤ ns.length := by
  refine ⟨(ns.drop (HT.sIx ns.length 0 lo)).take (HT.sIx ns.length ns.length hi - HT.sIx ns.length 0 lo), ?_, ?_⟩
  · unfold cutV
    rw [List.length_map, List.map_take, List.map_drop]
  · rw [List.length_take, List.length_drop]
    omega
theorem pickV {xs : List V} {i : Int} (h0 : 0 ≤ i) (h : i < xs.length) : ∃ v, atI xs i = some v ∧ v ∈ xs := by
  obtain ⟨k, rfl⟩ := Int.eq_ofNat_of_zero_le h0
  have hk : k < xs.length := by omega
  exact ⟨xs[k], atI_nat (List.getElem?_eq_getElem hk), List.getElem_mem hk⟩
theorem pickI (xs : List Int) {i : Int} (h0 : 0 ≤ i) (h : i < xs.length) : ∃ z, atI (xs.map V.int) i = some (.int z) ∧ z ∈ xs := by
  obtain ⟨v, e, m⟩ := pickV (xs := xs.map V.int) h0 (by rw [List.length_map]; exact h)
  obtain ⟨z, hz, rfl⟩ := List.mem_map.mp m
  exact ⟨z, e, hz⟩
/-- an item of a list of ints -/
theorem get_map {ns : List Int} {i : Nat} {y : V} (h : (ns.map V.int)[i]? = some y) : ∃ z, y = .int z ∧ ns[i]? = some z ∧ i < ns.length := by
  rw [List.getElem?_map] at h
  cases e : ns[i]? with
  | none =>
    rw [e] at h
    cases h
  | some z =>
    rw [e] at h
    exact ⟨z, (Option.some.inj h).symm, rfl, (List.getElem?_eq_some_iff.mp e).1⟩
/-- a divisor below 2 ^ 60 -/
theorem dv {i j : Int} (h1 : 0 < j) (h2 : j < 2 ^ 60) : CDivW i j := wide_div (b := 60) h1 (by omega) (by decide) (by decide)
end My

set_option Elab.async false
set_option linter.all false
set_option maxRecDepth 100000
set_option maxHeartbeats 4000000
/-! LayF: sizes of ints, texts of ints, more steps, comparisons of data, list comprehensions -/
namespace My
open PySem PySem.Builtin PySem.Builtin.Str PySem.Spec PyProof.Rows L2 SX
/-! ### sizes -/
def Bd (b : Nat) (i : Int) : Prop := i.natAbs < 2 ^ b
theorem Bd.of {b : Nat} {i : Int} (h1 : -(2 ^ b) < i) (h2 : i < 2 ^ b) : Bd b i := by
  have e : ((2 : Nat) ^ b : Int) = (2 : Int) ^ b := rfl
  unfold Bd
  have z : ((2 ^ b : Nat) : Int) = (2 : Int) ^ b := by push_cast; rfl
  omega
theorem Bd.mono {a b : Nat} {i : Int} (h : Bd a i) (hab : a ≤ b) : Bd b i := Nat.lt_of_lt_of_le h (Nat.pow_le_pow_right (by decide) hab)
theorem Bd.mul {a b : Nat} {i j : Int} (h : Bd a i) (k : Bd b j) : Bd (a + b) (i * j) := by
  unfold Bd at *
  rw [Int.natAbs_mul, Nat.pow_add]
  exact Nat.mul_lt_mul_of_lt_of_le h (Nat.le_of_lt k) (Nat.pow_pos (by decide))
theorem Bd.add {a b : Nat} {i j : Int} (h : Bd a i) (k : Bd b j) : Bd (a + b + 1) (i + j) := by
  unfold Bd at *
  have h1 : (2 : Nat) ^ a ≤ 2 ^ (a + b) := Nat.pow_le_pow_right (by decide) (by omega)
  have h2 : (2 : Nat) ^ b ≤ 2 ^ (a + b) := Nat.pow_le_pow_right (by decide) (by omega)
  have h3 : (2 : Nat) ^ (a + b + 1) = 2 ^ (a + b) * 2 := Nat.pow_succ ..
  omega
theorem Bd.neg {a : Nat} {i : Int} (h : Bd a i) : Bd a (-i) := by
  unfold Bd at *
  rw [Int.natAbs_neg]
  exact h
theorem Bd.sub {a b : Nat} {i j : Int} (h : Bd a i) (k : Bd b j) : Bd (a + b + 1) (i - j) := by
  rw [Int.sub_eq_add_neg]
  exact h.add k.neg
theorem Bd.le {a : Nat} {i j : Int} (h : Bd a i) (k : j.natAbs ≤ i.natAbs) : Bd a j := Nat.lt_of_le_of_lt k h
theorem Bd.quo {a : Nat} {i : Int} (h : Bd a i) (j : Int) : Bd a (i / j) := h.le (Int.natAbs_ediv_le_natAbs i j)
theorem Bd.rem {a : Nat} {i j : Int} (h : Bd a j) (h0 : 0 < j) : Bd a (i % j) := h.le (by
  have h1 := Int.emod_nonneg i (show j ≠ 0 by omega)
  have h2 := Int.emod_lt_of_pos i h0
  omega)
theorem Bd.mulOk {a b : Nat} {i j : Int} (h : Bd a i) (k : Bd b j) (h0 : 0 < a) (h1 : 0 < b) (hs : a + b ≤ 1000000) : IntMulOk i j := CMulW.ok (wide_mul h k h0 h1 hs)
theorem Bd.div {b : Nat} {i j : Int} (h : Bd b j) (hp : 0 < j) (h0 : 0 < b) (h9 : b ≤ 9000) : CDivW i j := wide_div hp h h0 h9
theorem Bd.lg {b : Nat} {i : Int} (h : Bd b i) (h0 : 0 < b) (h9 : b ≤ 1920) : i.natAbs.log2 < 1920 := Nat.lt_of_lt_of_le (PySem.Flt.log2_lt_of h0 h) h9
theorem Bd.ten {k : Nat} {i : Int} (h1 : -(10 ^ k) < i) (h2 : i < 10 ^ k) : Bd (4 * k) i := by
  unfold Bd
  have e : (2 : Nat) ^ (4 * k) = 16 ^ k := by rw [Nat.pow_mul] <;> rfl
  have l : (10 : Nat) ^ k ≤ 16 ^ k := Nat.pow_le_pow_left (by decide) k
  have z : ((10 ^ k : Nat) : Int) = (10 : Int) ^ k := by push_cast; rfl
  omega
/-! ### texts of ints -/
def intL (i : Int) : List Nat := if i < 0 then 45 :: TL.numL i.natAbs else TL.numL i.natAbs
theorem intL_neg {i : Int} (h : i < 0) : intL i = 45 :: TL.numL i.natAbs := if_pos h
theorem intL_nn {i : Int} (h : ¬ i < 0) : intL i = TL.numL i.natAbs := if_neg h
theorem txt_int (i : Int) : Str.ofString (toString i) = S (intL i) := by
  by_cases h : i < 0
  · obtain ⟨n, rfl⟩ : ∃ n : Nat, i = Int.negSucc n := by
      cases i with
      | ofNat n => exact absurd h (by simp)
      | negSucc n => exact ⟨n, rfl⟩
    rw [intL_neg h]
    refine TL.ext_tl ?_
    rw [TL.tl_ofString]
    have e : toString (Int.negSucc n) = "-" ++ toString (n + 1) := rfl
    rw [e, String.toList_append, List.map_append]
    have e2 := TL.tl_num (n + 1)
    rw [TL.tl_ofString] at e2
    have e3 : toString (((n + 1 : Nat)) : Int) = toString (n + 1) := rfl
    rw [e3] at e2
    rw [e2]
    rfl
  · obtain ⟨n, rfl⟩ := Int.eq_ofNat_of_zero_le (Int.not_lt.mp h)
    rw [intL_nn h, num_S, Int.natAbs_natCast]
theorem numL_first {n : Nat} (h : 0 < n) : ∃ c l, TL.numL n = c :: l ∧ c ≠ 48 := by
  induction n using Nat.strongRecOn with
  | _ n ih =>
    by_cases h10 : n < 10
    · exact ⟨48 + n, [], TL.numL_lt h10, by omega⟩
    · obtain ⟨c, l, e, hc⟩ := ih (n / 10) (by omega) (by omega)
      exact ⟨c, l ++ [48 + n % 10], by rw [TL.numL_step (by omega), e] <;> rfl, hc⟩
theorem intL_len {k : Nat} {i : Int} (hk : 0 < k) (h1 : -(10 ^ k) < i) (h2 : i < 10 ^ k) : (intL i).length ≤ k + 1 := by
  have z : ((10 ^ k : Nat) : Int) = (10 : Int) ^ k := by push_cast; rfl
  have hn : i.natAbs < 10 ^ k := by omega
  have l := TL.numL_len hk hn
  unfold intL
  split
  · rw [List.length_cons]
    omega
  · omega
theorem bd_numL {b : Nat} {n : Nat} (hb : 0 < b) (h : n < 2 ^ b) : (TL.numL n).length ≤ b := TL.numL_len hb (Nat.lt_of_lt_of_le h (Nat.pow_le_pow_left (by decide) b))
theorem bd_intL {b : Nat} {i : Int} (hb : 0 < b) (h : Bd b i) : (intL i).length ≤ b + 1 := by
  have l := bd_numL hb h
  unfold intL
  split
  · rw [List.length_cons]
    omega
  · omega
theorem intL_free {i : Int} {s : Nat} (h : s < 48 ∨ 57 < s) (h2 : s ≠ 45) : s ∉ intL i := by
  unfold intL
  split
  · intro z
    rcases List.mem_cons.mp z with z | z
    · exact h2 z
    · exact TL.numL_free h z
  · exact TL.numL_free h
theorem intL_ne (i : Int) : intL i ≠ [] := by
  unfold intL
  split
  · exact List.cons_ne_nil _ _
  · exact TL.numL_ne _
theorem intL_val {i : Int} (h : (intL i).length ≤ 4300) : intText? (S (intL i)) = some i := by
  by_cases hi : i < 0
  · rw [intL_neg hi] at h ⊢
    have e := PySem.intText_neg (x := S (45 :: TL.numL i.natAbs)) rfl (TL.numL_digits _) (TL.numL_ne _) (by rw [S_len]; exact h)
    rw [e, TL.numL_val]
    congr 1
    omega
  · rw [intL_nn hi] at h ⊢
    have e := PySem.intText_digits (x := S (TL.numL i.natAbs)) (TL.numL_digits _) (TL.numL_ne _) (by rw [S_len]; exact h)
    rw [e]
    show some ((PySem.NumText.digitsVal (TL.numL i.natAbs) : Nat) : Int) = some i
    rw [TL.numL_val]
    congr 1
    omega
theorem intL_inj {i j : Int} (h : intL i = intL j) : i = j := by
  have hd : ∀ n, ∃ c l, TL.numL n = c :: l ∧ 48 ≤ c := fun n => by
    have d := TL.numL_digits n
    have e := TL.numL_ne n
    revert d e
    generalize TL.numL n = q
    intro d e
    match q, d, e with
    | [], _, e => exact (e rfl).elim
    | c :: l, d, _ => exact ⟨c, l, rfl, (d c (List.mem_cons_self ..)).1⟩
  unfold intL at h
  split at h <;> split at h
  · have e := TL.numL_inj (List.cons.inj h).2
    omega
  · obtain ⟨c, l, e, hc⟩ := hd j.natAbs
    rw [e] at h
    have := (List.cons.inj h).1
    omega
  · obtain ⟨c, l, e, hc⟩ := hd i.natAbs
    rw [e] at h
    have := (List.cons.inj h).1
    omega
  · have e := TL.numL_inj h
    omega
theorem starts1 (c d : Nat) (l : List Nat) : Txt.startswith (S (c :: l)) (S [d]) = decide (c = d) := by
  unfold Txt.startswith
  rw [S_len, S_len]
  have e1 : decide (0 + [d].length ≤ (c :: l).length) = true := decide_eq_true (by simp)
  rw [e1, Bool.true_and]
  have e2 : subAt (S (c :: l)) (S [d]) 0 = (c == d) := by
    unfold subAt
    simp [S, Str.length]
  rw [e2]
  cases h : (c == d) with
  | true => rw [decide_eq_true (eq_of_beq h)]
  | false => rw [decide_eq_false (by intro z; rw [z, beq_self_eq_true] at h; cases h)]
theorem isdig {l : List Nat} (h : PySem.NumText.AllDigits l) (hn : l ≠ []) : Txt.isdigit (S l) = true := by
  unfold Txt.isdigit
  have e1 : decide ((S l).length > 0) = true := decide_eq_true (by rw [S_len]; exact List.length_pos_iff.mpr hn)
  rw [e1, Bool.true_and]
  show (S l).cps.all Unicode.isDigit = true
  rw [← Array.all_toList, List.all_eq_true]
  intro c hc
  have hc2 : c ∈ l := hc
  obtain ⟨a, b⟩ := h c hc2
  have all : ∀ k : Nat, k < 10 → Unicode.isDigit (48 + k) = true := by decide +kernel
  have := all (c - 48) (by omega)
  rwa [show 48 + (c - 48) = c by omega] at this
theorem cut_tail (c : Nat) (l : List Nat) : cutS (S (c :: l)) (some 1) none = S l := by
  unfold cutS
  refine congrArg S ?_
  rw [S_len]
  show List.take (HT.sIx (c :: l).length (c :: l).length none - HT.sIx (c :: l).length 0 (some 1)) (List.drop (HT.sIx (c :: l).length 0 (some 1)) (c :: l)) = l
  have e1 : HT.sIx (c :: l).length 0 (some 1) = 1 := by
    simp [HT.sIx]
  have e2 : HT.sIx (c :: l).length (c :: l).length none = l.length + 1 := by
    simp [HT.sIx]
  rw [e1, e2]
  simp
theorem split1 {p : List Nat} {c : Nat} (hk : c < 256) (h : c ∉ p) : Txt.split (S p) (S [c]) = [S p] := by
  rw [split_S (List.cons_ne_nil _ _) (by simp [hk])]
  have e := spl_join (c := c) (sep := []) (parts := [p]) (List.cons_ne_nil _ _) (by simpa using h)
  have j : TL.joinL [c] [p] = p := by simp [TL.joinL]
  rw [j] at e
  rw [e]
  rfl
theorem split2 {p q : List Nat} {c : Nat} (hk : c < 256) (h : c ∉ p) (h2 : c ∉ q) : Txt.split (S (p ++ c :: q)) (S [c]) = [S p, S q] := by
  rw [split_S (List.cons_ne_nil _ _) (by simp [hk])]
  have e := spl_join (c := c) (sep := []) (parts := [p, q]) (List.cons_ne_nil _ _) (by simp [h, h2])
  have j : TL.joinL [c] [p, q] = p ++ c :: q := by simp [TL.joinL]
  rw [j] at e
  rw [e]
  rfl
theorem cat_S (a b : Str) : a ++ b = S (a.cps.toList ++ b.cps.toList) := TL.ext_tl (TL.tl_append a b)
theorem lcat (a b : Str) : (a ++ b).length = a.length + b.length := by
  rw [cat_S, S_len, List.length_append]
  rfl
theorem at_new {H : Hp} {a l : Addr} {o u : HO} (n : H l = none) (h : H a = some o) : upd H l u a = some o := (upd_ne (ne_of_none h n)).trans h
theorem at_or {H : Hp} {a l : Addr} {o u : HO} (h : H a = some o) (n : H l = none ∨ a ≠ l) : upd H l u a = some o := n.elim (fun n => at_new n h) fun n => (upd_ne n).trans h
theorem abs_nat (i : Int) : (if i < 0 then -i else i) = (i.natAbs : Int) := by split <;> omega
theorem same_made {H H' : Hp} {x dx C : Addr} {fs : List (Str × V)} (h1 : H x = none) (h2 : H dx = none) (b : But x (upd (upd H dx (.own x)) x (.ins C dx fs)) H') : Same H H' := fun q o h => by
  have q1 : q ≠ x := ne_of_none h h1
  have q2 : q ≠ dx := ne_of_none h h2
  exact b q o q1 (by rw [upd_ne q1, upd_ne q2]; exact h)
theorem sq_but {K : PySem.W.Frag} {H H1 H2 : Hp} {a p : Addr} {xs : List V} (h : SqL K H a xs) (n : H p = none) (s : Same H H1) (b : But p H1 H2) : SqL K H2 a xs := by
  rcases h with (h | ⟨o, h⟩) | h
  · exact .inl (.inl (b _ _ (ne_of_none h n) (s _ _ h)))
  · exact .inl (.inr ⟨o, b _ _ (ne_of_none h n) (s _ _ h)⟩)
  · exact .inr h
/-! ### more steps -/
section
variable {K : PySem.W.Frag} {σ : L2.St} {H : Hp} {nx bk ct : L2.St → Hp → Prop} {rt : VK} {ta tb tc te tv tl : TE} {Q : VK} {t u : TS} {g : TG} {tA tk : TA} {c d : TT} {R : Bool → Hp → Prop} {RA : List V → Hp → Prop} {N : L2.St → Hp → Prop} {C : Addr} {sp : Sp} {dvs : List V} {E : XK}
theorem r_fmt (h : te σ H fun x H1 => (∃ y : Str, x = .str y ∧ y.length ≤ sizeLine ∧ Q (.str y) H1) ∨ ∃ i : Int, x = .int i ∧ i.natAbs.log2 < 1920 ∧ Q (.str (toString i)) H1) : tFmt te σ H Q := h
theorem r_fmti {i : Int} {A : Prop} {F : Int → Prop} (h : i.natAbs.log2 < 1920) (q : F i) : A ∨ ∃ j : Int, V.int i = .int j ∧ j.natAbs.log2 < 1920 ∧ F j := .inr ⟨i, rfl, h, q⟩
theorem r_fmts {y : Str} {A : Prop} {F : Str → Prop} (h : y.length ≤ 1000) (q : F y) : (∃ z : Str, V.str y = .str z ∧ z.length ≤ sizeLine ∧ F z) ∨ A := .inl ⟨y, rfl, sz h, q⟩
theorem r_js0 {acc : Str} {F : Str → Hp → Prop} (h : F acc H) : tJs [] acc σ H F := h
theorem r_js {ts : List TE} {acc : Str} {F : Str → Hp → Prop} (h : te σ H fun x H1 => ∃ y : Str, x = .str y ∧ (acc ++ y).length ≤ sizeLine ∧ tJs ts (acc ++ y) σ H1 F) : tJs (te :: ts) acc σ H F := h
theorem r_jsp {acc y : Str} {F : Str → Prop} (h : (acc ++ y).length ≤ 1000) (q : F y) : ∃ z : Str, V.str y = .str z ∧ (acc ++ z).length ≤ sizeLine ∧ F z := ⟨y, rfl, sz h, q⟩
theorem r_strI {i : Int} {F : Int → Prop} (h : i.natAbs.log2 < 1920) (q : F i) : ∃ j : Int, ([V.int i] : List V) = [.int j] ∧ j.natAbs.log2 < 1920 ∧ F j := ⟨i, rfl, h, q⟩
theorem r_m0 {r : V → List V → Hp → VK → Prop} (h : ta σ H fun x H1 => (∃ a, x = .str a) ∧ r x [] H1 Q) : tM0 r ta σ H Q := h
theorem r_m1 {r : V → List V → Hp → VK → Prop} (h : ta σ H fun x H1 => (∃ a, x = .str a) ∧ tb σ H1 fun y H2 => r x [y] H2 Q) : tM1 r ta tb σ H Q := h
theorem r_str {a : Str} {B : Prop} (h : B) : (∃ b, V.str a = .str b) ∧ B := ⟨⟨a, rfl⟩, h⟩
theorem r_ss {a b : Str} {F : Str → Str → Prop} (h : F a b) : ∃ x y, V.str a = .str x ∧ ([V.str b] : List V) = [.str y] ∧ F x y := ⟨a, b, rfl, rfl, h⟩
theorem r_s0 {a : Str} {F : Str → Prop} (h : F a) : ∃ x, V.str a = .str x ∧ ([] : List V) = [] ∧ True ∧ F x := ⟨a, rfl, rfl, trivial, h⟩
theorem r_addS {a b : Str} {F : Str → Str → Prop} (h : a.length + b.length ≤ 1000) (q : F a b) : ∃ x y, V.str a = .str x ∧ V.str b = .str y ∧ x.length + y.length ≤ sizeLine ∧ F x y := ⟨a, b, rfl, rfl, sz h, q⟩
theorem r_slS {z : Str} {lo hi : Option Int} (h : z.length ≤ 1000) (q : Q (.str (cutS z lo hi)) H) : rSlS (.str z) lo hi H Q := ⟨z, rfl, sz h, q⟩
theorem r_lenT {z : Str} {F : Str → Prop} (h : z.length ≤ 1000) (q : F z) : ∃ y, ([V.str z] : List V) = [.str y] ∧ y.length ≤ sizeLine ∧ F y := ⟨z, rfl, sz h, q⟩
theorem r_intS {a : Str} {n : Int} {F : Int → Prop} (h : intText? a = some n) (hl : a.length ≤ 640) (q : F n) : ∃ b m, ([V.str a] : List V) = [.str b] ∧ intText? b = some m ∧ b.length ≤ 640 ∧ F m := ⟨a, n, rfl, h, hl, q⟩
theorem r_prop {a dx : Addr} {fs : List (Str × V)} (h : ta σ H fun x H1 => ∃ a dx fs, x = .ref a ∧ H1 a = some (.ins C dx fs) ∧ sp (.ref a :: dvs) H1 Q E) : tProp C sp dvs E ta σ H Q := h
theorem r_tprop (h : ta σ H fun x H1 => ∃ a dx fs, x = .ref a ∧ H1 a = some (.ins C dx fs) ∧ sp (.ref a :: dvs) H1 Q E) : tProp C sp dvs E ta σ H Q := h
theorem f_prop {a dx : Addr} {fs : List (Str × V)} {F : Addr → Prop} (h : H a = some (.ins C dx fs)) (q : F a) : ∃ a' dx' fs', V.ref a = .ref a' ∧ H a' = some (.ins C dx' fs') ∧ F a' := ⟨a, dx, fs, rfl, h, q⟩
theorem r_tmeth {m : Str} (h : ta σ H fun x H1 => ∃ a dx fs, x = .ref a ∧ H1 a = some (.ins C dx fs) ∧ fs.lookup m = none ∧ tA σ H1 fun vs H2 => sp (x :: (vs ++ dvs)) H2 Q E) : tMeth C m sp dvs E ta tA σ H Q := h
theorem f_meth {m : Str} {a dx : Addr} {fs : List (Str × V)} {B : Prop} (h : H a = some (.ins C dx fs)) (n : fs.lookup m = none) (q : B) : ∃ a' dx' fs', V.ref a = .ref a' ∧ H a' = some (.ins C dx' fs') ∧ fs'.lookup m = none ∧ B := ⟨a, dx, fs, rfl, h, n, q⟩
theorem r_tcm (h : ta σ H fun x H1 => x = .ref C ∧ tA σ H1 fun vs H2 => sp (.ref C :: vs) H2 Q E) : ClX.tCMeth C sp E ta tA σ H Q := h
theorem r_rr {v : V} {B : Prop} (h : B) : v = v ∧ B := ⟨rfl, h⟩
theorem r_makeK {n m : Nat} {gV : List V → List V → List V} (h : tA σ H fun vs H1 => tk σ H1 fun zs H2 => vs.length = n ∧ zs.length = m ∧ ∀ x dx, H2 x = none → H2 dx = none → dx ≠ x → sp (gV (.ref x :: vs) zs) (upd (upd H2 dx (.own x)) x (.ins C dx [])) (fun v H3 => v = .non ∧ Q (.ref x) H3) E) : tMakeK C n m sp gV E tA tk σ H Q := h
theorem r_callN {n m : Nat} {gV : List V → List V → List V} (h : tA σ H fun vs H1 => tk σ H1 fun zs H2 => vs.length = n ∧ zs.length = m ∧ sp (gV vs zs) H2 Q E) : tCallN n m sp gV E tA tk σ H Q := h
theorem f_strOwn {a dx : Addr} {fs : List (Str × V)} (h : H a = some (.ins C dx fs)) (q : sp [.ref a] H (fun v H' => ∃ y : Str, v = .str y ∧ Q v H') E0) : rStrOwn C sp [.ref a] H Q := ⟨a, dx, fs, rfl, h, q⟩
theorem f_str {y : Str} {H : Hp} (q : Q (.str y) H) : ∃ z : Str, V.str y = .str z ∧ Q (.str y) H := ⟨y, rfl, q⟩
theorem r_sfld {f : Str} (h : tv σ H fun y H1 => ta σ H1 fun x H2 => ∃ a C dx fs, x = .ref a ∧ H2 a = some (.ins C dx fs) ∧ Cls K C ∧ NoAttr K C f ∧ fs.length < 1000 ∧ nx σ (upd H2 a (.ins C dx (putF f y fs)))) : sFld K ta tv f ⟨nx, rt, bk, ct⟩ σ H := h
theorem f_sfld {f : Str} {a dx : Addr} {fs : List (Str × V)} {F : Addr → Addr → Addr → List (Str × V) → Prop} (h : H a = some (.ins C dx fs)) (c : Cls K C) (n : NoAttr K C f) (l : fs.length < 1000) (q : F a C dx fs) :
    ∃ a' C' dx' fs', V.ref a = .ref a' ∧ H a' = some (.ins C' dx' fs') ∧ Cls K C' ∧ NoAttr K C' f ∧ fs'.length < 1000 ∧ F a' C' dx' fs' := ⟨a, C, dx, fs, rfl, h, c, n, l, q⟩
theorem r_inT {p : Addr} {xs : List V} {v : V} {neg : Bool} (h : SqT K H p xs) (f : (flatV v && xs.all flatV) = true) (e : (if neg then !inV v xs else inV v xs) = true) (q : Q (.bl true) H) : rIn K neg v (.ref p) H Q := by
  rw [Bool.and_eq_true] at f
  exact ⟨p, xs, rfl, .inr h, f.1, f.2, by rw [e]; exact q⟩
theorem r_inF {p : Addr} {xs : List V} {v : V} {neg : Bool} (h : SqT K H p xs) (f : (flatV v && xs.all flatV) = true) (e : (if neg then !inV v xs else inV v xs) = false) (q : Q (.bl false) H) : rIn K neg v (.ref p) H Q := by
  rw [Bool.and_eq_true] at f
  exact ⟨p, xs, rfl, .inr h, f.1, f.2, by rw [e]; exact q⟩
theorem r_eqD {x y : V} {d e : PyData} {b : Bool} (h1 : Dp K H x d) (h2 : Dp K H y e) (s1 : SeqAt.shaped d = true) (s2 : SeqAt.shaped e = true) (hb : PyData.eqv d e = b) (q : Q (.bl b) H) : rEqD K x y H Q := ⟨d, e, h1, h2, s1, s2, by rw [hb]; exact q⟩
theorem r_neD {x y : V} {d e : PyData} {b : Bool} (h1 : Dp K H x d) (h2 : Dp K H y e) (s1 : SeqAt.shaped d = true) (s2 : SeqAt.shaped e = true) (hb : PyData.eqv d e = b) (q : Q (.bl (!b)) H) : rNeD K x y H Q := ⟨d, e, h1, h2, s1, s2, by rw [hb]; exact q⟩
/-! lists of ints, of texts as data -/
theorem dp_ints : ∀ ns : List Int, DpAll K H (ns.map V.int) (ns.map PyData.int)
  | [] => .nil
  | n :: ns => .cons (.int n) (dp_ints ns)
theorem dp_strs : ∀ ns : List Str, DpAll K H (ns.map V.str) (ns.map PyData.str)
  | [] => .nil
  | n :: ns => .cons (.str n) (dp_strs ns)
theorem eqv_ints : ∀ ns ms : List Int, PyData.eqvAll (ns.map PyData.int) (ms.map PyData.int) = decide (ns = ms)
  | [], [] => by simp [PyData.eqvAll]
  | [], _ :: _ => by simp [PyData.eqvAll]
  | _ :: _, [] => by simp [PyData.eqvAll]
  | n :: ns, m :: ms => by
    rw [List.map_cons, List.map_cons, PyData.eqvAll, eqv_ints ns ms, PyData.eqv]
    by_cases h : n = m
    · subst h
      simp
    · have e : (n == m) = false := by simp [h]
      rw [e]
      simp [h]
theorem eqv_strs : ∀ ns ms : List Str, PyData.eqvAll (ns.map PyData.str) (ms.map PyData.str) = decide (ns = ms)
  | [], [] => by simp [PyData.eqvAll]
  | [], _ :: _ => by simp [PyData.eqvAll]
  | _ :: _, [] => by simp [PyData.eqvAll]
  | n :: ns, m :: ms => by
    rw [List.map_cons, List.map_cons, PyData.eqvAll, eqv_strs ns ms, PyData.eqv]
    by_cases h : n = m
    · subst h
      simp
    · have e : (n == m) = false := by simp [h]
      rw [e]
      simp [h]
theorem lay_ints : ∀ ns : List Int, PyData.canLayAll0 (ns.map PyData.int) = true
  | [] => by simp [PyData.canLayAll0]
  | n :: ns => by rw [List.map_cons, PyData.canLayAll0, lay_ints ns, PyData.canLay0] <;> rfl
theorem dep_ints : ∀ ns : List Int, PyData.depthAll (ns.map PyData.int) ≤ 1
  | [] => by simp [PyData.depthAll]
  | n :: ns => by
    have := dep_ints ns
    rw [List.map_cons, PyData.depthAll, PyData.depth]
    omega
theorem shp_ints (ns : List Int) : SeqAt.shaped (.list (ns.map PyData.int)) = true := by
  unfold SeqAt.shaped
  rw [PyData.canLay0, lay_ints, Bool.true_and, decide_eq_true_eq, PyData.depth]
  have := dep_ints ns
  omega
theorem lay_strs : ∀ ns : List Str, (∀ s ∈ ns, PyData.strOk s = true) → PyData.canLayAll0 (ns.map PyData.str) = true
  | [], _ => by simp [PyData.canLayAll0]
  | n :: ns, h => by rw [List.map_cons, PyData.canLayAll0, lay_strs ns (fun s hs => h s (List.mem_cons_of_mem _ hs)), PyData.canLay0, h n (List.mem_cons_self ..)] <;> rfl
theorem dep_strs : ∀ ns : List Str, PyData.depthAll (ns.map PyData.str) ≤ 1
  | [] => by simp [PyData.depthAll]
  | n :: ns => by
    have := dep_strs ns
    rw [List.map_cons, PyData.depthAll, PyData.depth]
    omega
theorem shp_strs (ns : List Str) (h : ∀ s ∈ ns, PyData.strOk s = true) : SeqAt.shaped (.list (ns.map PyData.str)) = true := by
  unfold SeqAt.shaped
  rw [PyData.canLay0, lay_strs ns h, Bool.true_and, decide_eq_true_eq, PyData.depth]
  have := dep_strs ns
  omega
theorem strOk_S {l : List Nat} (h : ∀ c ∈ l, c < 0x110000) : PyData.strOk (S l) = true := by
  unfold PyData.strOk
  rw [← Array.all_toList, List.all_eq_true]
  intro c hc
  exact decide_eq_true (h c hc)
theorem r_eqI {a b : Addr} {xs ys : List V} (ns ms : List Int) (h1 : SqL K H a xs) (h2 : SqL K H b ys) (e1 : xs = ns.map V.int) (e2 : ys = ms.map V.int) (q : Q (.bl (decide (ns = ms))) H) : rEqD K (.ref a) (.ref b) H Q := by
  subst e1 e2
  exact r_eqD (.lst h1 (dp_ints ns)) (.lst h2 (dp_ints ms)) (shp_ints ns) (shp_ints ms) (by rw [PyData.eqv]; exact eqv_ints ns ms) q
theorem r_neI {a b : Addr} {xs ys : List V} (ns ms : List Int) (h1 : SqL K H a xs) (h2 : SqL K H b ys) (e1 : xs = ns.map V.int) (e2 : ys = ms.map V.int) (q : Q (.bl (!decide (ns = ms))) H) : rNeD K (.ref a) (.ref b) H Q := by
  subst e1 e2
  exact r_neD (.lst h1 (dp_ints ns)) (.lst h2 (dp_ints ms)) (shp_ints ns) (shp_ints ms) (by rw [PyData.eqv]; exact eqv_ints ns ms) q
theorem r_neS {a b : Addr} {xs ys : List V} (ns ms : List Str) (h1 : SqL K H a xs) (h2 : SqL K H b ys) (e1 : xs = ns.map V.str) (e2 : ys = ms.map V.str) (s1 : ∀ s ∈ ns, PyData.strOk s = true) (s2 : ∀ s ∈ ms, PyData.strOk s = true) (q : Q (.bl (!decide (ns = ms))) H) : rNeD K (.ref a) (.ref b) H Q := by
  subst e1 e2
  exact r_neD (.lst h1 (dp_strs ns)) (.lst h2 (dp_strs ms)) (shp_strs ns s1) (shp_strs ms s2) (by rw [PyData.eqv]; exact eqv_strs ns ms) q
theorem r_neIt {a b : Addr} {xs ys : List V} (ns : List Int) (h1 : SqL K H a xs) (h2 : SqL K H b ys) (e1 : xs = ns.map V.int) (e2 : ys = ns.map V.int) (q : Q (.bl false) H) : rNeD K (.ref a) (.ref b) H Q := r_neI ns ns h1 h2 e1 e2 (by rw [decide_eq_true rfl]; exact q)
theorem r_eqIt {a b : Addr} {xs ys : List V} (ns : List Int) (h1 : SqL K H a xs) (h2 : SqL K H b ys) (e1 : xs = ns.map V.int) (e2 : ys = ns.map V.int) (q : Q (.bl true) H) : rEqD K (.ref a) (.ref b) H Q := r_eqI ns ns h1 h2 e1 e2 (by rw [decide_eq_true rfl]; exact q)
theorem r_neSt {a b : Addr} {xs ys : List V} (ns : List Str) (h1 : SqL K H a xs) (h2 : SqL K H b ys) (e1 : xs = ns.map V.str) (e2 : ys = ns.map V.str) (s1 : ∀ s ∈ ns, PyData.strOk s = true) (q : Q (.bl false) H) : rNeD K (.ref a) (.ref b) H Q := r_neS ns ns h1 h2 e1 e2 s1 s1 (by rw [decide_eq_true rfl]; exact q)
/-! list comprehensions over a list -/
/-- what is left of a list comprehension once it is known what is walked -/
def LcG (J : It) (g : TG) (tt : TT) (te : TE) (vs : List Nat) (σ : L2.St) (H : Hp) (Q : VK) : Prop := tLc (fun _ H R => R J H) g tt te vs σ H Q
theorem r_lcL {tt : TT} {vs : List Nat} (h : tl σ H fun x H1 => ∃ a, x = .ref a ∧ (∃ xs, SqL K H1 a xs) ∧ LcG (Itl K a) g tt te vs σ H1 Q) : tLc (iList K tl) g tt te vs σ H Q := h
theorem r_lcT {tt : TT} {vs : List Nat} (h : tl σ H fun x H1 => ∃ a, x = .ref a ∧ (∃ xs, SqT K H1 a xs) ∧ LcG (Itt K a) g tt te vs σ H1 Q) : tLc (iTup K tl) g tt te vs σ H Q := h
theorem r_lcR1 {tt : TT} {vs : List Nat} (h : tA σ H fun ws H1 => ∃ j : Int, ws = [.int j] ∧ -(2 ^ 62) ≤ j ∧ j < 2 ^ 62 ∧ LcG (Itr 0 j.toNat) g tt te vs σ H1 Q) : tLc (iRng1 tA) g tt te vs σ H Q := h
theorem r_lcR2 {tt : TT} {vs : List Nat} (h : tA σ H fun ws H1 => ∃ i j : Int, ws = [.int i, .int j] ∧ (-(2 ^ 62) ≤ i ∧ i < 2 ^ 62 ∧ -(2 ^ 62) ≤ j ∧ j < 2 ^ 62) ∧ LcG (Itr i (j - i).toNat) g tt te vs σ H1 Q) : tLc (iRng2 tA) g tt te vs σ H Q := h
theorem lc_list {tt : TT} {vs : List Nat} {a : Addr} {xs : List V} (Pv : Nat → Addr → Hp → Prop) (h0 : ∀ D, H D = none → Pv 0 D (upd H D (.lst []))) (hl : ∀ i D H, i ≤ xs.length → Pv i D H → SqL K H a xs)
    (hs : ∀ i x D H, xs[i]? = some x → Pv i D H → g x (wipe σ vs) H fun σ2 H2 => wipe σ2 vs = wipe σ vs ∧ tt σ2 H2 fun b H3 => if b = true then te σ2 H3 fun y H4 => ∃ acc, H4 D = some (.lst acc) ∧ acc.length < sizeLine ∧ Pv (i + 1) D (upd H4 D (.lst (acc ++ [y]))) else Pv (i + 1) D H3)
    (hd : ∀ D H, Pv xs.length D H → Q (.ref D) H) : LcG (Itl K a) g tt te vs σ H Q := by
  intro D hD
  refine ⟨fun i m H => m = xs.length - i ∧ i ≤ xs.length ∧ Pv i D H, ⟨_, rfl, Nat.zero_le _, h0 D hD⟩, ?_⟩
  rintro i m H ⟨rfl, hi, p⟩
  have q := hl i D H hi p
  by_cases hlt : i < xs.length
  · refine .inr ⟨⟨xs, xs[i], q, by simp [hlt]⟩, fun H' => Pv (i + 1) D H', fun H' p' => ⟨xs.length - (i + 1), by omega, rfl, hlt, p'⟩, ?_⟩
    rintro x H' ⟨rfl, y⟩
    exact hs i x D _ (y xs q) p
  · have e : i = xs.length := by omega
    subst e
    exact .inl ⟨⟨xs, q, Nat.le_refl _⟩, hd D H p⟩
theorem lc_tup {tt : TT} {vs : List Nat} {a : Addr} {xs : List V} (Pv : Nat → Addr → Hp → Prop) (h0 : ∀ D, H D = none → Pv 0 D (upd H D (.lst []))) (hl : ∀ i D H, i ≤ xs.length → Pv i D H → SqT K H a xs)
    (hs : ∀ i x D H, xs[i]? = some x → Pv i D H → g x (wipe σ vs) H fun σ2 H2 => wipe σ2 vs = wipe σ vs ∧ tt σ2 H2 fun b H3 => if b = true then te σ2 H3 fun y H4 => ∃ acc, H4 D = some (.lst acc) ∧ acc.length < sizeLine ∧ Pv (i + 1) D (upd H4 D (.lst (acc ++ [y]))) else Pv (i + 1) D H3)
    (hd : ∀ D H, Pv xs.length D H → Q (.ref D) H) : LcG (Itt K a) g tt te vs σ H Q := by
  intro D hD
  refine ⟨fun i m H => m = xs.length - i ∧ i ≤ xs.length ∧ Pv i D H, ⟨_, rfl, Nat.zero_le _, h0 D hD⟩, ?_⟩
  rintro i m H ⟨rfl, hi, p⟩
  have q := hl i D H hi p
  by_cases hlt : i < xs.length
  · refine .inr ⟨⟨xs, xs[i], q, by simp [hlt]⟩, fun H' => Pv (i + 1) D H', fun H' p' => ⟨xs.length - (i + 1), by omega, rfl, hlt, p'⟩, ?_⟩
    rintro x H' ⟨rfl, y⟩
    exact hs i x D _ (y xs q) p
  · have e : i = xs.length := by omega
    subst e
    exact .inl ⟨⟨xs, q, Nat.le_refl _⟩, hd D H p⟩
theorem lc_range {tt : TT} {vs : List Nat} {lo : Int} {n : Nat} (Pv : Nat → Addr → Hp → Prop) (h0 : ∀ D, H D = none → Pv 0 D (upd H D (.lst [])))
    (hs : ∀ i D H, i < n → Pv i D H → g (.int (lo + i)) (wipe σ vs) H fun σ2 H2 => wipe σ2 vs = wipe σ vs ∧ tt σ2 H2 fun b H3 => if b = true then te σ2 H3 fun y H4 => ∃ acc, H4 D = some (.lst acc) ∧ acc.length < sizeLine ∧ Pv (i + 1) D (upd H4 D (.lst (acc ++ [y]))) else Pv (i + 1) D H3)
    (hd : ∀ D H, Pv n D H → Q (.ref D) H) : LcG (Itr lo n) g tt te vs σ H Q := by
  intro D hD
  refine ⟨fun i m H => m = n - i ∧ i ≤ n ∧ Pv i D H, ⟨_, rfl, Nat.zero_le _, h0 D hD⟩, ?_⟩
  rintro i m H ⟨rfl, hi, p⟩
  by_cases hlt : i < n
  · refine .inr ⟨hlt, fun H' => Pv (i + 1) D H', fun H' p' => ⟨n - (i + 1), by omega, rfl, hlt, p'⟩, ?_⟩
    rintro x H' ⟨rfl, rfl⟩
    exact hs i D _ hlt p
  · have e : i = n := by omega
    subst e
    exact .inl ⟨Nat.le_refl _, hd D H p⟩
theorem r_bl1 {b : Bool} {F : Bool → Prop} (h : F b) : ∃ k, ([V.bl b] : List V) = [.bl k] ∧ F k := ⟨b, rfl, h⟩
theorem r_yes {R : Bool → Hp → Prop} (h : R true H) : tYes σ H R := h
theorem r_chain {r r' : R2} (h : ta σ H fun x H1 => tb σ H1 fun y H2 => r x y H2 fun z H3 => ∃ k, z = .bl k ∧ (if k = true then tc σ H3 fun w' H4 => r' y w' H4 Q else Q (.bl false) H3)) : tChain r r' ta tb tc σ H Q := h
/-- both arms of an if-expression give one value -/
theorem r_join {p : Prop} [Decidable p] (v : V) (q : Q v H) (h1 : p → ∀ Q' : VK, Q' v H → ta σ H Q') (h2 : ¬ p → ∀ Q' : VK, Q' v H → tb σ H Q') : if decide p = true then ta σ H Q else tb σ H Q := i_two (fun h => h1 h Q q) (fun h => h2 h Q q)
theorem strOk_cat {a b : Str} (h1 : PyData.strOk a = true) (h2 : PyData.strOk b = true) : PyData.strOk (a ++ b) = true := by
  rw [cat_S]
  refine strOk_S fun c hc => ?_
  have f : ∀ {x : Str}, PyData.strOk x = true → ∀ c ∈ x.cps.toList, c < 0x110000 := fun {x} hx c hc => by
    unfold PyData.strOk at hx
    rw [← Array.all_toList, List.all_eq_true] at hx
    exact of_decide_eq_true (hx c hc)
  rcases List.mem_append.mp hc with z | z
  · exact f h1 c z
  · exact f h2 c z
theorem strOk_int (i : Int) : PyData.strOk (S (intL i)) = true := strOk_S fun c hc => by
  have d : ∀ c ∈ TL.numL i.natAbs, c < 0x110000 := fun c hc => by
    have := (TL.numL_digits i.natAbs c hc).2
    omega
  unfold intL at hc
  split at hc
  · rcases List.mem_cons.mp hc with z | z
    · omega
    · exact d c z
  · exact d c hc
end
end My
namespace My
open PySem PySem.Spec PyProof.Rows L2
theorem ni_non {i : Int} : ¬ (V.int i = V.non) := fun h => V.noConfusion h
theorem nr_non {a : Addr} : ¬ (V.ref a = V.non) := fun h => V.noConfusion h
theorem ns_non {x : Str} : ¬ (V.str x = V.non) := fun h => V.noConfusion h
end My

/-! ### readings whose Frag is written out: within a comprehension's block, too -/
namespace My
open PySem PySem.Spec PyProof.Rows L2
section
variable {K : PySem.W.Frag} {X : Cx}
theorem call_isiK (h : X.K = K) : CallR X (.builtin "isinstance") (rIsi K) := by subst h; exact call_isi
theorem call_lenK (h : X.K = K) : CallR X (.builtin "len") (fun xs H Q => ∃ p ys, xs = [.ref p] ∧ (SqL K H p ys ∨ SqT K H p ys) ∧ Q (.int ys.length) H) := by subst h; exact call_len_seq
theorem call_listK (h : X.K = K) : CallR X (.type "list") (fun xs H Q => ∃ p ys, xs = [.ref p] ∧ (SqL K H p ys ∨ SqT K H p ys) ∧ ∀ l, H l = none → Q (.ref l) (upd H l (.lst ys))) := by subst h; exact call_list_of
theorem call_tupleK (h : X.K = K) : CallR X (.type "tuple") (fun xs H Q => ∃ p ys, xs = [.ref p] ∧ ((SqL K H p ys ∧ ∀ l, H l = none → Q (.ref l) (upd H l (.tup ys))) ∨ (SqT K H p ys ∧ Q (.ref p) H))) := by subst h; exact call_tuple_of
theorem call_reprK {j : Nat} (h : X.K = K) (hr : RG j X.A) : CallR X (.builtin "repr") (rRepr K) := by subst h; exact call_reprD hr
theorem ix_listK (h : X.K = K) : IxR X (rIxL K) := by subst h; exact ix_list
theorem ix_tupK (h : X.K = K) : IxR X (rIxT K) := by subst h; exact ix_tup
theorem sl_listK (h : X.K = K) : SlR X (rSlL K) := by subst h; exact sl_list
theorem sl_tupK (h : X.K = K) : SlR X (rSlA K) := by subst h; exact sl_tupA
theorem op_eqDK (h : X.K = K) (hu : X.A.units + 64 < cLine) : OpR X (compareOp .Eq) (rEqD K) := by subst h; exact op_eqD hu
theorem op_neDK (h : X.K = K) (hu : X.A.units + 64 < cLine) : OpR X (compareOp .NotEq) (rNeD K) := by subst h; exact op_neD hu
theorem op_inK (h : X.K = K) : OpR X (compareOp .In) (rIn K false) := by subst h; exact op_in_seq
theorem op_notInK (h : X.K = K) : OpR X (compareOp .NotIn) (rIn K true) := by subst h; exact op_notIn_seq
theorem op_catK (h : X.K = K) : OpR X (binaryOp .Add) (rCatA K) := by subst h; exact op_catA
theorem pe_fldK {e : Expr} {ta : TE} {f : Str} {pos : Pos} (h : X.K = K) (he : PE X e ta) (hb : attributeBase e f X.env (eval e X.env) = eval e X.env) : PE X (.Attribute e f pos) (tFld K ta f) := by subst h; exact pe_fld he hb
theorem pi_listK {tg l : Expr} {tl : TE} (h : X.K = K) (hl : PE X l tl) : PI X tg l (iList K tl) := by subst h; exact pi_list hl
theorem pi_tupK {tg l : Expr} {tl : TE} (h : X.K = K) (hl : PE X l tl) : PI X tg l (iTup K tl) := by subst h; exact pi_tup hl
theorem pg_tupK {es : List Expr} {k : Nat} {t : TGs} {n : Nat} {pos : Pos} (h : X.K = K) (hc : X.calm = true) (hs : PGs X es t) (hn : (assignEach es X.env).length = n := by rfl) (hst : (assignEach es X.env).findIdx? (·.1) = none := by rfl) : PG X (.Tuple es k pos) (gTup K n t) := by subst h; exact pg_tup hc hs hn hst
end
end My

set_option Elab.async false
set_option linter.all false
set_option maxRecDepth 100000
set_option maxHeartbeats 4000000
/-! LayG: operators of own classes, also with ints on either side -/
namespace My
open PySem PySem.Spec PyProof.Rows L2 He
theorem ins_obj {P : Program} {w : World} {H : Hp} {h : Heap} {a C dx : Addr} {fs : List (Str × V)} (hok : HOk P w H h) (e : H a = some (.ins C dx fs)) : h.get? a = some (PySem.W.instObj C dx) := by
  obtain ⟨_, _, _, ob, _⟩ := (show ObjOk P w H h a (.ins C dx fs) from hok a _ e)
  exact ob
section
variable (a : Int) (t : Tok) (l C dx : Addr)
theorem dec_add : Meets (Builtin.«int.__add__» ⟨[.int a t, .ref l], []⟩) (fun _ R s => s.heap.get? l = some (PySem.W.instObj C dx) ∧ R (.ok (.ret Value.notImplemented)) s) :=
  .of_wp fun prog w A R s h => by obtain ⟨hp, g, d, tk, os⟩ := s; obtain ⟨hl, h⟩ := h; wp_walk; exact ⟨_, rfl, h⟩
theorem dec_sub : Meets (Builtin.«int.__sub__» ⟨[.int a t, .ref l], []⟩) (fun _ R s => s.heap.get? l = some (PySem.W.instObj C dx) ∧ R (.ok (.ret Value.notImplemented)) s) :=
  .of_wp fun prog w A R s h => by obtain ⟨hp, g, d, tk, os⟩ := s; obtain ⟨hl, h⟩ := h; wp_walk; exact ⟨_, rfl, h⟩
theorem dec_mul : Meets (Builtin.«int.__mul__» ⟨[.int a t, .ref l], []⟩) (fun _ R s => s.heap.get? l = some (PySem.W.instObj C dx) ∧ R (.ok (.ret Value.notImplemented)) s) :=
  .of_wp fun prog w A R s h => by obtain ⟨hp, g, d, tk, os⟩ := s; obtain ⟨hl, h⟩ := h; wp_walk; exact ⟨_, rfl, h⟩
theorem dec_lt : Meets (Builtin.«int.__lt__» ⟨[.int a t, .ref l], []⟩) (fun _ R s => s.heap.get? l = some (PySem.W.instObj C dx) ∧ R (.ok (.ret Value.notImplemented)) s) :=
  .of_wp fun prog w A R s h => by obtain ⟨hp, g, d, tk, os⟩ := s; obtain ⟨hl, h⟩ := h; wp_walk; exact ⟨_, rfl, h⟩
theorem dec_le : Meets (Builtin.«int.__le__» ⟨[.int a t, .ref l], []⟩) (fun _ R s => s.heap.get? l = some (PySem.W.instObj C dx) ∧ R (.ok (.ret Value.notImplemented)) s) :=
  .of_wp fun prog w A R s h => by obtain ⟨hp, g, d, tk, os⟩ := s; obtain ⟨hl, h⟩ := h; wp_walk; exact ⟨_, rfl, h⟩
theorem dec_gt : Meets (Builtin.«int.__gt__» ⟨[.int a t, .ref l], []⟩) (fun _ R s => s.heap.get? l = some (PySem.W.instObj C dx) ∧ R (.ok (.ret Value.notImplemented)) s) :=
  .of_wp fun prog w A R s h => by obtain ⟨hp, g, d, tk, os⟩ := s; obtain ⟨hl, h⟩ := h; wp_walk; exact ⟨_, rfl, h⟩
theorem dec_ge : Meets (Builtin.«int.__ge__» ⟨[.int a t, .ref l], []⟩) (fun _ R s => s.heap.get? l = some (PySem.W.instObj C dx) ∧ R (.ok (.ret Value.notImplemented)) s) :=
  .of_wp fun prog w A R s h => by obtain ⟨hp, g, d, tk, os⟩ := s; obtain ⟨hl, h⟩ := h; wp_walk; exact ⟨_, rfl, h⟩
theorem dec_eq : Meets (Builtin.«int.__eq__» ⟨[.int a t, .ref l], []⟩) (fun _ R s => s.heap.get? l = some (PySem.W.instObj C dx) ∧ R (.ok (.ret Value.notImplemented)) s) :=
  .of_wp fun prog w A R s h => by obtain ⟨hp, g, d, tk, os⟩ := s; obtain ⟨hl, h⟩ := h; wp_walk; exact ⟨_, rfl, h⟩
theorem dec_ne : Meets (Builtin.«int.__ne__» ⟨[.int a t, .ref l], []⟩) (fun _ R s => s.heap.get? l = some (PySem.W.instObj C dx) ∧ R (.ok (.ret Value.notImplemented)) s) :=
  .of_wp fun prog w A R s h => by obtain ⟨hp, g, d, tk, os⟩ := s; obtain ⟨hl, h⟩ := h; wp_walk; exact ⟨_, rfl, h⟩
end
/-- an operator of int that declines an instance of an own class -/
structure DecB (op : Operator) : Prop where
  ex : ∃ (id : String) (B : Builtin), Slot "int" (PySem.dunder op.info.2) id ∧ fillsNumberSlot (.type "int") op.info.2 = pure true ∧ entryFor table id = some B ∧ (∀ (a : Int) (t : Tok) (l : Addr), argsOk id ⟨[.int a t, .ref l], []⟩) ∧
    ∀ (a : Int) (t : Tok) (l C dx : Addr), Meets (B ⟨[.int a t, .ref l], []⟩) (fun _ R s => s.heap.get? l = some (PySem.W.instObj C dx) ∧ R (.ok (.ret Value.notImplemented)) s)
theorem decB_add : DecB .Add := ⟨⟨_, _, F.slot_int_add, F.fills_int_add, F.entry_int_add, fun _ _ _ => F.args_int_add_2 _ _, dec_add⟩⟩
theorem decB_sub : DecB .Sub := ⟨⟨_, _, F.slot_int_sub, F.fills_int_sub, F.entry_int_sub, fun _ _ _ => F.args_int_sub_2 _ _, dec_sub⟩⟩
theorem decB_mul : DecB .Mult := ⟨⟨_, _, F.slot_int_mul, F.fills_int_mul, F.entry_int_mul, fun _ _ _ => F.args_int_mul_2 _ _, dec_mul⟩⟩
structure DecC (op : CmpOp) : Prop where
  ex : ∃ (id : String) (B : Builtin), Slot "int" (cmpInfo op).2.1 id ∧ entryFor table id = some B ∧ (∀ (a : Int) (t : Tok) (l : Addr), argsOk id ⟨[.int a t, .ref l], []⟩) ∧
    ∀ (a : Int) (t : Tok) (l C dx : Addr), Meets (B ⟨[.int a t, .ref l], []⟩) (fun _ R s => s.heap.get? l = some (PySem.W.instObj C dx) ∧ R (.ok (.ret Value.notImplemented)) s)
theorem decC_lt : DecC .Lt := ⟨⟨_, _, F.slot_int_lt, F.entry_int_lt, fun _ _ _ => F.args_int_lt_2 _ _, dec_lt⟩⟩
theorem decC_le : DecC .LtE := ⟨⟨_, _, F.slot_int_le, F.entry_int_le, fun _ _ _ => F.args_int_le_2 _ _, dec_le⟩⟩
theorem decC_gt : DecC .Gt := ⟨⟨_, _, F.slot_int_gt, F.entry_int_gt, fun _ _ _ => F.args_int_gt_2 _ _, dec_gt⟩⟩
theorem decC_ge : DecC .GtE := ⟨⟨_, _, F.slot_int_ge, F.entry_int_ge, fun _ _ _ => F.args_int_ge_2 _ _, dec_ge⟩⟩
theorem decC_eq : DecC .Eq := ⟨⟨_, _, F.slot_int_eq, F.entry_int_eq, fun _ _ _ => F.args_int_eq_2 _ _, dec_eq⟩⟩
theorem decC_ne : DecC .NotEq := ⟨⟨_, _, F.slot_int_ne, F.entry_int_ne, fun _ _ _ => F.args_int_ne_2 _ _, dec_ne⟩⟩
/-! the rules -/
namespace Own
open PySem.W PySem.Calls
section
variable {prog : Program} {w : World} {A : Around} {E : Value → Shared → Prop} {s : Shared} {K : Frag} {x C L f fd dx : Addr} {h₀ : Heap} {m : Str → Option Value} {ox : Obj} {od : Option Obj}
/-- int op own: the int declines, the own reflected def answers -/
theorem bin_intL {op : Operator} {i : Int} {t : Tok} {Q : Value → Shared → Prop} (D : DecB op) (F : Fr h₀ L s.heap m) (X₀ : K.In h₀) (I : InstAt s.heap x ox C od) (ho : s.heap.get? x = some (instObj C dx)) (hc : selfFirst K C = true)
    (hd : findIn K (.ref C) (PySem.dunder op.info.2) = some (some (.ref fd))) (hs : findIn K (.ref C) (dunderR op.info.2) = some (some (.ref f))) (hf : isFn K (.ref f) = true) (hsub : subIn K (.ref C) (.type "int") = some false)
    (h : wpAny (model prog w) A (call (.ref f) [.ref x, .int i t]) (PySem.W.CmpBack Q) E s) : wpAny (model prog w) A (binaryOp op (.int i t) (.ref x)) Q E s := by
  have X := X₀.keeps F.keep
  obtain ⟨cd, rest, hcd, hm⟩ := ksp_first hc
  obtain ⟨id, B, slot, fills, entry, args, gives⟩ := D.ex
  rcases hi : op.info with ⟨sym, nm'⟩
  rw [hi] at hs hd slot fills
  dsimp only at hs hd slot fills
  have two := ksp_try X I hs hf h
  have cl : wpAny (model prog w) A (call (.builtin id) [.int i t, .ref x]) (fun v s' => v = .notImplemented ∧ s' = s) E s :=
    call_meets slot (typeIs_int s i t) entry (args i t x) (gives i t x C dx) ⟨ho, rfl, rfl⟩
  have ti := typeIs_int s i t
  obtain ⟨hh, g, d, tt, os⟩ := s
  have L1 : Looks (model prog w) hh (typeOf (.int i t)) (.type "int") := Looks.of_pure rfl
  have L2 : Looks (model prog w) hh (typeOf (.ref x)) (.ref C) := I.type
  have L3 : Looks (model prog w) hh (fillsNumberSlot (.type "int") nm') true := Looks.of_pure fills
  have L4 : Looks (model prog w) hh (fillsNumberSlot (.ref C) nm') true := fills_K X hcd hm hd
  have L5 : Looks (model prog w) hh (isSubtype (.ref C) (.type "int")) false := looks_subIn X hsub
  have L6 : Looks (model prog w) hh (numberSlotInPython (.type "int") nm') false := Looks.of_pure rfl
  have hne : (Value.type "int" == Value.ref C) = false := Bool.eq_false_iff.mpr fun q => by cases beq_iff_eq.mp q
  simp only [binaryOp, hi]
  refine wpAny_holding (wpAny_bind ?_)
  unfold binaryOp1
  refine wpAny_bind (L1.at (wpAny_bind (L2.at (wpAny_bind (L3.at ?_)))))
  simp only [hne, Bool.false_eq_true, if_false]
  refine wpAny_bind (L4.at ?_)
  simp only [Bool.and_self, if_true]
  refine wpAny_bind (L5.at ?_)
  simp only [Bool.false_eq_true, if_false]
  ksp_lk
  refine wpAny_tryMethod_declines ti slot (wpAny_mono cl (fun v s' hv => ⟨hv.1, ?_⟩) fun _ _ e => e)
  obtain ⟨_, rfl⟩ := hv
  ksp_lk
  refine wpAny_mono two (fun r s' hr' => ?_) fun _ _ e => e
  obtain ⟨v, rfl, hq⟩ := hr'
  ksp_lk
  exact hq
/-- int < own and its like: the int declines, the own mirrored def answers -/
theorem cmp_intL {op : CmpOp} {i : Int} {t : Tok} {Q : Value → Shared → Prop} (D : DecC op) (hu : A.units < cLine) (F : Fr h₀ L s.heap m) (X₀ : K.In h₀) (I : InstAt s.heap x ox C od) (ho : s.heap.get? x = some (instObj C dx))
    (hs : findIn K (.ref C) (cmpInfo op).2.2 = some (some (.ref f))) (hf : isFn K (.ref f) = true) (hsub : subIn K (.ref C) (.type "int") = some false)
    (h : wpAny (model prog w) A (call (.ref f) [.ref x, .int i t]) (PySem.W.CmpBack Q) E s) : wpAny (model prog w) A (richCompare op (.int i t) (.ref x)) Q E s := by
  have X := X₀.keeps F.keep
  obtain ⟨id, B, slot, entry, args, gives⟩ := D.ex
  have one : wpAny (model prog w) A (tryCompare (.ref x) (cmpInfo op).2.2 (.int i t)) (fun r s' => ∃ v, r = some v ∧ Q v s') E s := by
    unfold tryCompare
    refine wpAny_bind (ifBound_K X I hs hf (wpAny_mono h (fun v s' hv => ?_) fun _ _ e => e))
    cases v <;> first | exact hv.elim | exact wpAny_pure ⟨_, rfl, hv⟩
  have cl : wpAny (model prog w) A (call (.builtin id) [.int i t, .ref x]) (fun v s' => v = .notImplemented ∧ s' = s) E s :=
    call_meets slot (typeIs_int s i t) entry (args i t x) (gives i t x C dx) ⟨ho, rfl, rfl⟩
  have ti := typeIs_int s i t
  have one0 : oneThing? op (.int i t) (.ref x) = none := ti.oneThing_none op _
  unfold richCompare
  simp only [one0]
  refine wpAny_holding (wpAny_bind (wpAny_cRoomFor hu ?_))
  have L1 : Looks (model prog w) s.heap (typeOf (.int i t)) (.type "int") := Looks.of_pure rfl
  refine wpAny_bind (L1.here (wpAny_bind (I.type.here ?_)))
  rw [if_pos (show (Value.type "int" != Value.ref C) = true from rfl)]
  refine wpAny_bind ((looks_subIn X hsub).here ?_)
  simp only [Bool.false_eq_true, if_false]
  refine wpAny_bind (wpAny_tryCompare_declines ti slot (wpAny_mono cl (fun v s' hv => ⟨hv.1, ?_⟩) fun _ _ e => e))
  obtain ⟨_, rfl⟩ := hv
  refine wpAny_bind (wpAny_mono one (fun r s' z => ?_) fun _ _ e => e)
  obtain ⟨v, rfl, hq⟩ := z
  exact wpAny_pure hq
theorem bool_own {Q : Value → Shared → Prop} (X : K.In s.heap) (F : Fr h₀ L s.heap m) (X₀ : K.In h₀) (I : InstAt s.heap x ox C od) (hs : findIn K (.ref C) "__bool__" = some (some (.ref f))) (hf : isFn K (.ref f) = true)
    (h : wpAny (model prog w) A.in1.in1 (call (.ref f) [.ref x]) (PySem.W.BoolBack fun b s' => Q (.bool b) s') E s) : wpAny (model prog w) A (call (.type "bool") [.ref x]) Q E s := by
  refine callType_codes (T := "bool") (Bi := Builtin.«object.__init__») (Q₁ := fun r s₁ => ∃ b, r = .bool b ∧ Q r s₁) PySem.F.called_bool (PySem.F.typeCall_bool_1 _) PySem.F.entry_object_init ?_ ?_
  · refine codeAny_of_tree ?_
    show wpAny _ A.in1.in1 (do checkBuiltinCall "bool.__new__" ⟨[.type "bool", .ref x], []⟩; again (.builtin "bool.__new__" ⟨[.type "bool", .ref x], []⟩)) _ _ s
    refine wpAny_bind (wpAny_of_eq (PySem.F.newCall_bool_1 _) (wpAny_pure ⟨plainId_quiet (by decide +kernel) _, codeAny_builtin PySem.F.entry_bool_new ?_⟩))
    rw [Around.under_plainId (by decide +kernel) _]
    have tr : wpAny (model prog w) A.in1.in1 (truthy (.ref x)) (fun b s' => ∃ c, Value.bool b = .bool c ∧ Q (.bool b) s') E s := truthy_K F X₀ I hs hf (wpAny_mono h (fun r s₁ hr => by cases r <;> first | exact ⟨_, rfl, hr⟩ | exact False.elim hr) fun _ _ y => y)
    unfold Builtin.«bool.__new__»
    refine wpAny_bind (wpAny_pure ?_)
    dsimp only
    rw [if_neg (by decide)]
    refine wpAny_bind (wpAny_of_eq PySem.F.conv_sub_bool ?_)
    rw [if_neg (by decide)]
    refine wpAny_bind (wpAny_pure ?_)
    exact wpAny_bind (wpAny_mono tr (fun b s₁ hb => wpAny_pure hb) fun _ _ y => y)
  · rintro obj s₁ ⟨b, rfl, hq⟩
    exact ⟨PySem.typeIs_bool _ _, PySem.F.args_object_init_2 _ _, object_init_meets PySem.F.called_bool.init.lookup PySem.F.called_bool.made (by decide) prog w A.in1 _ s₁ ⟨PySem.typeIs_bool _ _, rfl, hq⟩⟩
end
end Own
/-! the readings -/
structure OwOk (K : PySem.W.Frag) (C : Addr) : Prop where
  first : PySem.W.selfFirst K C = true
  sub1 : PySem.W.subIn K (.type "int") (.ref C) = some false
  sub2 : PySem.W.subIn K (.ref C) (.type "int") = some false
  fi : ∀ n ∈ ([PySem.dunder "add", PySem.dunder "sub", PySem.dunder "mul", dunderR "add", dunderR "sub", dunderR "mul"] : List Str), ∃ fo, PySem.W.findIn K (.type "int") n = some fo
def owB (K : PySem.W.Frag) (x : Str) : Bool := PySem.W.selfFirst K (ga K x) && (decide (PySem.W.subIn K (.type "int") (.ref (ga K x)) = some false) && (decide (PySem.W.subIn K (.ref (ga K x)) (.type "int") = some false) &&
  ([PySem.dunder "add", PySem.dunder "sub", PySem.dunder "mul", dunderR "add", dunderR "sub", dunderR "mul"] : List Str).all fun n => (PySem.W.findIn K (.type "int") n).isSome))
theorem owB_ok {K : PySem.W.Frag} {x : Str} (h : owB K x = true) : OwOk K (ga K x) := by
  obtain ⟨h1, h⟩ := ba h
  obtain ⟨h2, h⟩ := ba h
  obtain ⟨h3, h4⟩ := ba h
  exact ⟨h1, of_decide_eq_true h2, of_decide_eq_true h3, fun n hn => Option.isSome_iff_exists.mp (List.all_eq_true.mp h4 n hn)⟩
def rRR (C : Addr) (sp : Sp) : R2 := fun x y H Q => ∃ a dx fs b dy gs, x = .ref a ∧ y = .ref b ∧ H a = some (.ins C dx fs) ∧ H b = some (.ins C dy gs) ∧ sp [.ref a, .ref b] H Q E0
def rRI (C : Addr) (sp : Sp) : R2 := fun x y H Q => ∃ a dx fs i, x = .ref a ∧ y = .int i ∧ H a = some (.ins C dx fs) ∧ sp [.ref a, .int i] H Q E0
def rIR (C : Addr) (sp : Sp) : R2 := fun x y H Q => ∃ a dx fs i, x = .int i ∧ y = .ref a ∧ H a = some (.ins C dx fs) ∧ sp [.ref a, .int i] H Q E0
section
variable {X : Cx} {k j : Nat} {f g C : Addr} {ps qs : List Str} {sp : Sp} {n m : Str}
theorem back {pins : List (Addr × Obj)} {σ : L2.St} {Q : VK} {v : Value} {s' : Shared} (z : EP X pins σ Q v s') : PySem.W.CmpBack (EP X pins σ Q) v s' := by
  obtain ⟨z', H', I', rz, qz⟩ := z
  exact SlX.cmpback rz ⟨z', H', I', rz, qz⟩
theorem op_RR {op : Operator} (G : Gf X.prog X.w X.K X.mg X.base CX0 k f ps [] sp) (o : OwOk X.K C) (p : SpOk X.K C n f) (hr : RG j X.A) (hj : k ≤ j) (e : PySem.dunder op.info.2 = n := by rfl) : OpR X (binaryOp op) (rRR C sp) := by
  intro pins s σ H x y v u Q I rx ry h
  obtain ⟨a, dx, fs, b, dy, gs, rfl, rfl, ea, eb, h1⟩ := h
  obtain rfl : v = Value.ref a := rx
  obtain rfl : u = Value.ref b := ry
  obtain ⟨mA, O, _⟩ := ins_get I.hok ea
  obtain ⟨od, J, _⟩ := O.look
  obtain ⟨mB, O', _⟩ := ins_get I.hok eb
  obtain ⟨od', J', _⟩ := O'.look
  obtain ⟨m, hF⟩ := I.fr
  refine PySem.W.binop_K hF I.ok.mod.kin J J'.type o.first (by rw [e]; exact p.at_) p.fn ?_
  exact wpAny_mono (run_g (us := [.ref a, .ref b]) (vs := [.ref a, .ref b]) G hr hj pass0 I (.cons rfl (.cons rfl .nil)) h1) (fun w s' z => back z) fun _ _ x => x
theorem op_RI {op : Operator} (G : Gf X.prog X.w X.K X.mg X.base CX0 k f ps [] sp) (o : OwOk X.K C) (p : SpOk X.K C n f) (q : SpOk X.K C m g) (hr : RG j X.A) (hj : k ≤ j) (e : PySem.dunder op.info.2 = n := by rfl) (e2 : dunderR op.info.2 = m := by rfl)
    (h1 : PySem.dunder op.info.2 ∈ ([PySem.dunder "add", PySem.dunder "sub", PySem.dunder "mul", dunderR "add", dunderR "sub", dunderR "mul"] : List Str) := by decide) (h2 : dunderR op.info.2 ∈ ([PySem.dunder "add", PySem.dunder "sub", PySem.dunder "mul", dunderR "add", dunderR "sub", dunderR "mul"] : List Str) := by decide) :
    OpR X (binaryOp op) (rRI C sp) := by
  intro pins s σ H x y v u Q I rx ry h
  obtain ⟨a, dx, fs, i, rfl, rfl, ea, h3⟩ := h
  obtain rfl : v = Value.ref a := rx
  obtain ⟨t, rfl⟩ := ry
  obtain ⟨mA, O, _⟩ := ins_get I.hok ea
  obtain ⟨od, J, _⟩ := O.look
  obtain ⟨m, hF⟩ := I.fr
  obtain ⟨fo, f1⟩ := o.fi _ h1
  obtain ⟨ro, f2⟩ := o.fi _ h2
  refine PySem.W.ksp_binT (T := "int") hF I.ok.mod.kin J rfl o.first (by rw [e]; exact p.at_) p.fn (by rw [e2]; exact q.at_) (.inr ⟨g, rfl⟩) f1 f2 o.sub1 ?_
  exact wpAny_mono (run_g (us := [.ref a, .int i t]) (vs := [.ref a, .int i]) G hr hj pass0 I (.cons rfl (.cons ⟨t, rfl⟩ .nil)) h3) (fun w s' z => back z) fun _ _ x => x
theorem op_IR {op : Operator} (D : DecB op) (G : Gf X.prog X.w X.K X.mg X.base CX0 k g qs [] sp) (o : OwOk X.K C) (p : SpOk X.K C n f) (q : SpOk X.K C m g) (hr : RG j X.A) (hj : k ≤ j) (e : PySem.dunder op.info.2 = n := by rfl) (e2 : dunderR op.info.2 = m := by rfl) :
    OpR X (binaryOp op) (rIR C sp) := by
  intro pins s σ H x y v u Q I rx ry h
  obtain ⟨a, dx, fs, i, rfl, rfl, ea, h3⟩ := h
  obtain rfl : u = Value.ref a := ry
  obtain ⟨t, rfl⟩ := rx
  obtain ⟨mA, O, _⟩ := ins_get I.hok ea
  obtain ⟨od, J, _⟩ := O.look
  obtain ⟨m, hF⟩ := I.fr
  refine Own.bin_intL D hF I.ok.mod.kin J (ins_obj I.hok ea) o.first (by rw [e]; exact p.at_) (by rw [e2]; exact q.at_) q.fn o.sub2 ?_
  exact wpAny_mono (run_g (us := [.ref a, .int i t]) (vs := [.ref a, .int i]) G hr hj pass0 I (.cons rfl (.cons ⟨t, rfl⟩ .nil)) h3) (fun w s' z => back z) fun _ _ x => x
theorem cmp_RR {op : CmpOp} (hop : ∀ a b, compareOp op a b = richCompare op a b) (G : Gf X.prog X.w X.K X.mg X.base CX0 k f ps [] sp) (p : SpOk X.K C n f) (hr : RG j X.A) (hj : k ≤ j) (e : (cmpInfo op).2.1 = n := by rfl) : OpR X (compareOp op) (rRR C sp) := by
  intro pins s σ H x y v u Q I rx ry h
  obtain ⟨a, dx, fs, b, dy, gs, rfl, rfl, ea, eb, h1⟩ := h
  obtain rfl : v = Value.ref a := rx
  obtain rfl : u = Value.ref b := ry
  obtain ⟨mA, O, _⟩ := ins_get I.hok ea
  obtain ⟨od, J, _⟩ := O.look
  obtain ⟨mB, O', _⟩ := ins_get I.hok eb
  obtain ⟨od', J', _⟩ := O'.look
  obtain ⟨m, hF⟩ := I.fr
  rw [hop]
  refine PySem.W.cmp_K (op := op) (tb := .ref C) hr.r.units0 hF I.ok.mod.kin J J'.type (by simp [PySem.W.notFirst]) (by rw [e]; exact p.at_) p.fn ?_
  exact wpAny_mono (run_g (us := [.ref a, .ref b]) (vs := [.ref a, .ref b]) G hr hj pass0 I (.cons rfl (.cons rfl .nil)) h1) (fun w s' z => back z) fun _ _ x => x
theorem cmp_RI {op : CmpOp} (hop : ∀ a b, compareOp op a b = richCompare op a b) (G : Gf X.prog X.w X.K X.mg X.base CX0 k f ps [] sp) (o : OwOk X.K C) (p : SpOk X.K C n f) (hr : RG j X.A) (hj : k ≤ j) (e : (cmpInfo op).2.1 = n := by rfl) : OpR X (compareOp op) (rRI C sp) := by
  intro pins s σ H x y v u Q I rx ry h
  obtain ⟨a, dx, fs, i, rfl, rfl, ea, h1⟩ := h
  obtain rfl : v = Value.ref a := rx
  obtain ⟨t, rfl⟩ := ry
  obtain ⟨mA, O, _⟩ := ins_get I.hok ea
  obtain ⟨od, J, _⟩ := O.look
  obtain ⟨m, hF⟩ := I.fr
  rw [hop]
  refine PySem.W.cmp_K (op := op) (tb := .type "int") hr.r.units0 hF I.ok.mod.kin J (PySem.W.Looks.of_pure rfl) (by unfold PySem.W.notFirst; rw [o.sub1] <;> rfl) (by rw [e]; exact p.at_) p.fn ?_
  exact wpAny_mono (run_g (us := [.ref a, .int i t]) (vs := [.ref a, .int i]) G hr hj pass0 I (.cons rfl (.cons ⟨t, rfl⟩ .nil)) h1) (fun w s' z => back z) fun _ _ x => x
theorem cmp_IR {op : CmpOp} (hop : ∀ a b, compareOp op a b = richCompare op a b) (D : DecC op) (G : Gf X.prog X.w X.K X.mg X.base CX0 k f ps [] sp) (o : OwOk X.K C) (p : SpOk X.K C n f) (hr : RG j X.A) (hj : k ≤ j) (e : (cmpInfo op).2.2 = n := by rfl) : OpR X (compareOp op) (rIR C sp) := by
  intro pins s σ H x y v u Q I rx ry h
  obtain ⟨a, dx, fs, i, rfl, rfl, ea, h1⟩ := h
  obtain rfl : u = Value.ref a := ry
  obtain ⟨t, rfl⟩ := rx
  obtain ⟨mA, O, _⟩ := ins_get I.hok ea
  obtain ⟨od, J, _⟩ := O.look
  obtain ⟨m, hF⟩ := I.fr
  rw [hop]
  refine Own.cmp_intL D hr.r.units0 hF I.ok.mod.kin J (ins_obj I.hok ea) (by rw [e]; exact p.at_) p.fn o.sub2 ?_
  exact wpAny_mono (run_g (us := [.ref a, .int i t]) (vs := [.ref a, .int i]) G hr hj pass0 I (.cons rfl (.cons ⟨t, rfl⟩ .nil)) h1) (fun w s' z => back z) fun _ _ x => x
def rUn (C : Addr) (sp : Sp) : V → Hp → VK → Prop := fun x H Q => ∃ a dx fs, x = .ref a ∧ H a = some (.ins C dx fs) ∧ sp [.ref a] H Q E0
theorem un_negO (G : Gf X.prog X.w X.K X.mg X.base CX0 k f ps [] sp) (p : SpOk X.K C "__neg__" f) (hr : RG j X.A) (hj : k ≤ j) : UnR X (unaryOp .USub) (rUn C sp) := by
  intro pins s σ H x v Q I rx h
  obtain ⟨a, dx, fs, rfl, ea, h1⟩ := h
  obtain rfl : v = Value.ref a := rx
  obtain ⟨mA, O, _⟩ := ins_get I.hok ea
  obtain ⟨od, J, _⟩ := O.look
  obtain ⟨m, hF⟩ := I.fr
  exact PySem.W.ksp_neg hF I.ok.mod.kin J p.at_ p.fn (run_g (us := [.ref a]) (vs := [.ref a]) G hr hj pass0 I (.cons rfl .nil) h1)
/-- repr of a truth value -/
theorem call_reprBl : CallR X (.builtin "repr") (fun xs H Q => ∃ b, xs = [.bl b] ∧ Q (.str (if b = true then "True" else "False")) H) := by
  intro pins s σ H xs us Q I r h
  obtain ⟨b, rfl, q⟩ := h
  obtain ⟨u, rfl, rfl⟩ := vals1 r
  exact PySem.P.repr_of_bool ⟨.str _, H, I.tok _, ⟨_, rfl⟩, q⟩
def rBoolOwn (C : Addr) (sp : Sp) : List V → Hp → VK → Prop := fun xs H Q => ∃ a dx fs, xs = [.ref a] ∧ H a = some (.ins C dx fs) ∧ sp [.ref a] H (fun v H' => ∃ b, v = .bl b ∧ Q v H') E0
theorem call_boolOwn (G : Gf X.prog X.w X.K X.mg X.base CX0 k f ps [] sp) (p : SpOk X.K C "__bool__" f) (hr : RG j X.A) (hj : k + 2 ≤ j) : CallR X (.type "bool") (rBoolOwn C sp) := by
  intro pins s σ H xs us Q I r h
  obtain ⟨a, dx, fs, rfl, ea, h1⟩ := h
  obtain ⟨u, rfl, rx⟩ := vals1 r
  obtain rfl : u = Value.ref a := rx
  obtain ⟨mA, O, _⟩ := ins_get I.hok ea
  obtain ⟨od, J, _⟩ := O.look
  obtain ⟨m, hF⟩ := I.fr
  have hr2 : RG (k + 2) X.A := hr.mono hj
  refine Own.bool_own I.kIn hF I.ok.mod.kin J p.at_ p.fn (run_sp G hr2.in1.in1 rfl I h1 fun v H' u s' I' rv q => ?_)
  obtain ⟨b, rfl, q⟩ := q
  obtain rfl := rv
  exact ⟨.bl b, H', I', rfl, q⟩
end
section
variable {K : PySem.W.Frag} {C : Addr} {sp : Sp} {H : Hp} {Q : VK}
theorem f_RR {a dx b dy : Addr} {fs gs : List (Str × V)} (ha : H a = some (.ins C dx fs)) (hb : H b = some (.ins C dy gs)) (q : sp [.ref a, .ref b] H Q E0) : rRR C sp (.ref a) (.ref b) H Q := ⟨a, dx, fs, b, dy, gs, rfl, rfl, ha, hb, q⟩
theorem f_RI {a dx : Addr} {fs : List (Str × V)} {i : Int} (ha : H a = some (.ins C dx fs)) (q : sp [.ref a, .int i] H Q E0) : rRI C sp (.ref a) (.int i) H Q := ⟨a, dx, fs, i, rfl, rfl, ha, q⟩
theorem f_IR {a dx : Addr} {fs : List (Str × V)} {i : Int} (ha : H a = some (.ins C dx fs)) (q : sp [.ref a, .int i] H Q E0) : rIR C sp (.int i) (.ref a) H Q := ⟨a, dx, fs, i, rfl, rfl, ha, q⟩
theorem f_un {a dx : Addr} {fs : List (Str × V)} (ha : H a = some (.ins C dx fs)) (q : sp [.ref a] H Q E0) : rUn C sp (.ref a) H Q := ⟨a, dx, fs, rfl, ha, q⟩
theorem f_boolOwn {a dx : Addr} {fs : List (Str × V)} (ha : H a = some (.ins C dx fs)) (q : sp [.ref a] H (fun v H' => ∃ b, v = .bl b ∧ Q v H') E0) : rBoolOwn C sp [.ref a] H Q := ⟨a, dx, fs, rfl, ha, q⟩
end
end My

set_option Elab.async false
set_option linter.all false
set_option maxRecDepth 100000
set_option maxHeartbeats 4000000
/-! LayH: != of a class with its own __eq__ -/
namespace My
open PySem PySem.Spec PyProof.Rows L2 He
namespace Own
open PySem.W PySem.Calls
section
variable {prog : Program} {w : World} {A : Around} {E : Value → Shared → Prop} {s : Shared} {K : Frag} {x C L f : Addr} {h₀ : Heap} {m : Str → Option Value} {ox : Obj} {od : Option Obj} {b tb : Value}
theorem ne_try {Q : Value → Shared → Prop} (hu : A.in1.units < cLine) (X : K.In s.heap) (I : InstAt s.heap x ox C od) (hne : findIn K (.ref C) "__ne__" = some (some (.builtin "object.__ne__"))) (hob : subIn K (.ref C) (.type "object") = some true)
    (hs : findIn K (.ref C) "__eq__" = some (some (.ref f))) (hf : isFn K (.ref f) = true)
    (h : wpAny (model prog w) A.in1 (call (.ref f) [.ref x, b]) (fun v s' => ∃ c, v = .bool c ∧ Q (.bool (!c)) s') E s) : wpAny (model prog w) A (tryCompare (.ref x) "__ne__" b) (fun r s' => ∃ v, r = some v ∧ Q v s') E s := by
  have FB := F.cmp_object
  unfold tryCompare
  refine wpAny_bind ?_
  simp only [callSpecialIfBound?, bindSpecialIfBound?]
  refine wpAny_holding (wpAny_bind (wpAny_bind (wpAny_bind (I.type.here ((looks_findIn X hne).here ?_)))))
  simp only [FB.ne.bind]
  refine wpAny_bind (wpAny_askSetting (wpAny_ite ?_))
  have ent : wpAny (model prog w) A.in1 (Builtin.«object.__ne__» ⟨[.ref x, b], []⟩) (fun fl s' => ∃ c, fl = .done (.ret (.bool (!c))) ∧ Q (.bool (!c)) s') E s := by
    unfold Builtin.«object.__ne__»
    refine wpAny_bind (wpAny_pure ?_)
    refine wpAny_bind (wpAny_cRoomFor hu ?_)
    refine wpAny_bind (ifBound_K X I hs hf (wpAny_mono h (fun v s' hv => ?_) fun _ _ e => e))
    obtain ⟨c, rfl, hq⟩ := hv
    exact wpAny_bind (wpAny_pure (wpAny_pure ⟨c, rfl, hq⟩))
  have chk : wpAny (model prog w) A.in1 (checkBuiltinCall "object.__ne__" ⟨[.ref x, b], []⟩) (fun _ s' => s' = s) E s := by
    simp only [checkBuiltinCall, F.cmpKind_ne, F.cmpSplit_ne]
    refine wpAny_bind ?_
    unfold isInstance
    refine wpAny_bind (I.type.here ?_)
    refine (looks_subIn X hob).here ?_
    rw [if_neg (show ¬ ((!true) = true) from Bool.false_ne_true)]
    have ha := F.cmpArgs_ne (.ref x) b
    cases hsig : Manifest.signature? "object.__ne__" with
    | none => exact wpAny_pure rfl
    | some sig =>
      simp only [argsOk, hsig] at ha
      have h2 : Bind.checkArgs "object.__ne__" sig ⟨[.ref x, b], []⟩ = pure () := ha
      show wpAny _ A.in1 (Bind.checkArgs "object.__ne__" sig ⟨[.ref x, b], []⟩) _ E _
      rw [h2]
      exact wpAny_pure rfl
  have fin : wpAny (model prog w) A (call (.builtin "object.__ne__") ([.ref x] ++ [b]) >>= fun v => pure (some v)) (fun r s' => ∃ v, r = some v ∧ (∃ c, v = .bool c) ∧ Q v s') E s := by
    refine wpAny_bind (wpAny_call (codeAny_call_builtin FB.ne.plain F.cmpEntry_ne ?_))
    refine wpAny_mono chk (fun _ s' e => ?_) fun _ _ e => e
    subst e
    refine wpAny_mono ent (fun fl s1 hfl => ?_) fun _ _ e => e
    obtain ⟨c, rfl, hq⟩ := hfl
    exact wpAny_pure ⟨_, rfl, ⟨_, rfl⟩, hq⟩
  have last : ∀ (a : Option Value) (s' : Shared), (∃ v, a = some v ∧ (∃ c, v = .bool c) ∧ Q v s') → wpAny (model prog w) A (match a with | some Value.notImplemented => pure none | none => pure none | some v => pure (some v)) (fun r s' => ∃ v, r = some v ∧ Q v s') E s' := by
    rintro a s' ⟨v, rfl, ⟨c, rfl⟩, hq⟩
    exact wpAny_pure ⟨_, rfl, hq⟩
  split
  · exact wpAny_bind (wpAny_pure (wpAny_pure (wpAny_mono fin (fun a s' z => last a s' z) fun _ _ e => e)))
  · exact wpAny_tryCatch (wpAny_bind (wpAny_pure (wpAny_pure (wpAny_mono fin (fun a s' z => last a s' z) fun _ _ e => e))))
theorem ne_own {Q : Value → Shared → Prop} (hu : A.units < cLine) (hu1 : A.in1.units < cLine) (F : Fr h₀ L s.heap m) (X₀ : K.In h₀) (I : InstAt s.heap x ox C od) (hb : Looks (model prog w) s.heap (typeOf b) tb) (hn : notFirst K C tb = true)
    (hne : findIn K (.ref C) "__ne__" = some (some (.builtin "object.__ne__"))) (hob : subIn K (.ref C) (.type "object") = some true) (hs : findIn K (.ref C) "__eq__" = some (some (.ref f))) (hf : isFn K (.ref f) = true)
    (h : wpAny (model prog w) A.in1 (call (.ref f) [.ref x, b]) (fun v s' => ∃ c, v = .bool c ∧ Q (.bool (!c)) s') E s) : wpAny (model prog w) A (richCompare .NotEq (.ref x) b) Q E s := by
  have X := X₀.keeps F.keep
  have one := ne_try (Q := Q) hu1 X I hne hob hs hf h
  unfold richCompare
  simp only [oneThing_ref]
  refine wpAny_holding (wpAny_bind (wpAny_cRoomFor hu ?_))
  refine wpAny_bind (I.type.here (wpAny_bind (hb.here ?_)))
  split
  · rename_i q
    have e : subIn K tb (.ref C) = some false := by
      rcases Bool.or_eq_true_iff.mp hn with e | e
      · rw [beq_iff_eq.mp e] at q
        simp at q
      · exact beq_iff_eq.mp e
    refine wpAny_bind ((looks_subIn X e).here ?_)
    simp only [Bool.false_eq_true, if_false]
    refine wpAny_bind (wpAny_mono one (fun r s' z => ?_) fun _ _ e => e)
    obtain ⟨v, rfl, hq⟩ := z
    exact wpAny_pure hq
  · refine wpAny_bind (wpAny_pure ?_)
    simp only [Bool.false_eq_true, if_false]
    refine wpAny_bind (wpAny_mono one (fun r s' z => ?_) fun _ _ e => e)
    obtain ⟨v, rfl, hq⟩ := z
    exact wpAny_pure hq
/-- int != own: the int declines, object's __ne__ of the own class answers -/
theorem ne_intL {i : Int} {t : Tok} {dx : Addr} {Q : Value → Shared → Prop} (hu : A.units < cLine) (hu1 : A.in1.units < cLine) (F : Fr h₀ L s.heap m) (X₀ : K.In h₀) (I : InstAt s.heap x ox C od) (ho : s.heap.get? x = some (instObj C dx))
    (hne : findIn K (.ref C) "__ne__" = some (some (.builtin "object.__ne__"))) (hob : subIn K (.ref C) (.type "object") = some true) (hs : findIn K (.ref C) "__eq__" = some (some (.ref f))) (hf : isFn K (.ref f) = true) (hsub : subIn K (.ref C) (.type "int") = some false)
    (h : wpAny (model prog w) A.in1 (call (.ref f) [.ref x, .int i t]) (fun v s' => ∃ c, v = .bool c ∧ Q (.bool (!c)) s') E s) : wpAny (model prog w) A (richCompare .NotEq (.int i t) (.ref x)) Q E s := by
  have X := X₀.keeps F.keep
  obtain ⟨id, B, slot, entry, args, gives⟩ := decC_ne.ex
  have one : wpAny (model prog w) A (tryCompare (.ref x) (cmpInfo .NotEq).2.2 (.int i t)) (fun r s' => ∃ v, r = some v ∧ Q v s') E s := ne_try hu1 X I hne hob hs hf h
  have cl : wpAny (model prog w) A (call (.builtin id) [.int i t, .ref x]) (fun v s' => v = .notImplemented ∧ s' = s) E s :=
    call_meets slot (typeIs_int s i t) entry (args i t x) (gives i t x C dx) ⟨ho, rfl, rfl⟩
  have ti := typeIs_int s i t
  have one0 : oneThing? .NotEq (.int i t) (.ref x) = none := ti.oneThing_none .NotEq _
  unfold richCompare
  simp only [one0]
  refine wpAny_holding (wpAny_bind (wpAny_cRoomFor hu ?_))
  have L1 : Looks (model prog w) s.heap (typeOf (.int i t)) (.type "int") := Looks.of_pure rfl
  refine wpAny_bind (L1.here (wpAny_bind (I.type.here ?_)))
  rw [if_pos (show (Value.type "int" != Value.ref C) = true from rfl)]
  refine wpAny_bind ((looks_subIn X hsub).here ?_)
  simp only [Bool.false_eq_true, if_false]
  refine wpAny_bind (wpAny_tryCompare_declines ti slot (wpAny_mono cl (fun v s' hv => ⟨hv.1, ?_⟩) fun _ _ e => e))
  obtain ⟨_, rfl⟩ := hv
  refine wpAny_bind (wpAny_mono one (fun r s' z => ?_) fun _ _ e => e)
  obtain ⟨v, rfl, hq⟩ := z
  exact wpAny_pure hq
end
end Own
/-! the readings -/
structure NeOk (K : PySem.W.Frag) (C : Addr) : Prop where
  ne : PySem.W.findIn K (.ref C) "__ne__" = some (some (.builtin "object.__ne__"))
  ob : PySem.W.subIn K (.ref C) (.type "object") = some true
def neB (K : PySem.W.Frag) (x : Str) : Bool := eqO (PySem.W.findIn K (.ref (ga K x)) "__ne__") (some (some (.builtin "object.__ne__"))) && decide (PySem.W.subIn K (.ref (ga K x)) (.type "object") = some true)
theorem neB_ok {K : PySem.W.Frag} {x : Str} (h : neB K x = true) : NeOk K (ga K x) := by
  obtain ⟨h1, h2⟩ := ba h
  exact ⟨eqO_ok h1, of_decide_eq_true h2⟩
/-- the own == answers by a truth value, != by the other one -/
def turned (Q : VK) : VK := fun v H' => ∃ c, v = .bl c ∧ Q (.bl (!c)) H'
def nRR (C : Addr) (sp : Sp) : R2 := fun x y H Q => rRR C sp x y H (turned Q)
def nRI (C : Addr) (sp : Sp) : R2 := fun x y H Q => rRI C sp x y H (turned Q)
def nIR (C : Addr) (sp : Sp) : R2 := fun x y H Q => rIR C sp x y H (turned Q)
section
variable {X : Cx} {k j : Nat} {f C : Addr} {ps : List Str} {sp : Sp}
theorem run_turned {pins : List (Addr × Obj)} {σ : L2.St} {H : Hp} {s : Shared} {Q : VK} {us : List Value} {vs : List V} (G : Gf X.prog X.w X.K X.mg X.base CX0 k f ps [] sp) (hr : RG (k + 1) X.A) (I : Inv X pins σ H s) (r : Vals vs us) (h : sp vs H (turned Q) E0) :
    wpAny (model X.prog X.w) X.A.in1 (call (.ref f) us) (fun v s' => ∃ c, v = .bool c ∧ EP X pins σ Q (.bool (!c)) s') X.xe s := by
  have h2 : sp (vs ++ []) H (turned Q) E0 := by
    rw [List.append_nil]
    exact h
  refine wpAny_call (codeAny_mono (G.go (outer := X.stack) (us := us) (vs := vs) hr.in1 (Nat.le_refl _) I.env0.in1 I.kIn r h2) fun y s' hq => ?_)
  match y, hq with
  | .error er, hq => exact hq.elim
  | .ok (.ret u), hq =>
    obtain ⟨v, H', I3, rv, c, rfl, q3⟩ := I.after hq
    obtain rfl := rv
    exact ⟨c, rfl, .bl (!c), H', I3, rfl, q3⟩
theorem ne_RR (G : Gf X.prog X.w X.K X.mg X.base CX0 k f ps [] sp) (n : NeOk X.K C) (p : SpOk X.K C "__eq__" f) (hr : RG j X.A) (hj : k + 1 ≤ j) : OpR X (compareOp .NotEq) (nRR C sp) := by
  intro pins s σ H x y v u Q I rx ry h
  obtain ⟨a, dx, fs, b, dy, gs, rfl, rfl, ea, eb, h1⟩ := h
  obtain rfl : v = Value.ref a := rx
  obtain rfl : u = Value.ref b := ry
  obtain ⟨mA, O, _⟩ := ins_get I.hok ea
  obtain ⟨od, J, _⟩ := O.look
  obtain ⟨mB, O', _⟩ := ins_get I.hok eb
  obtain ⟨od', J', _⟩ := O'.look
  obtain ⟨m, hF⟩ := I.fr
  have hr1 : RG (k + 1) X.A := hr.mono hj
  exact Own.ne_own (tb := .ref C) hr.r.units0 hr1.in1.r.units0 hF I.ok.mod.kin J J'.type (by simp [PySem.W.notFirst]) n.ne n.ob p.at_ p.fn (run_turned (us := [.ref a, .ref b]) (vs := [.ref a, .ref b]) G hr1 I (.cons rfl (.cons rfl .nil)) h1)
theorem ne_RI (G : Gf X.prog X.w X.K X.mg X.base CX0 k f ps [] sp) (o : OwOk X.K C) (n : NeOk X.K C) (p : SpOk X.K C "__eq__" f) (hr : RG j X.A) (hj : k + 1 ≤ j) : OpR X (compareOp .NotEq) (nRI C sp) := by
  intro pins s σ H x y v u Q I rx ry h
  obtain ⟨a, dx, fs, i, rfl, rfl, ea, h1⟩ := h
  obtain rfl : v = Value.ref a := rx
  obtain ⟨t, rfl⟩ := ry
  obtain ⟨mA, O, _⟩ := ins_get I.hok ea
  obtain ⟨od, J, _⟩ := O.look
  obtain ⟨m, hF⟩ := I.fr
  have hr1 : RG (k + 1) X.A := hr.mono hj
  exact Own.ne_own (tb := .type "int") hr.r.units0 hr1.in1.r.units0 hF I.ok.mod.kin J (PySem.W.Looks.of_pure rfl) (by unfold PySem.W.notFirst; rw [o.sub1] <;> rfl) n.ne n.ob p.at_ p.fn (run_turned (us := [.ref a, .int i t]) (vs := [.ref a, .int i]) G hr1 I (.cons rfl (.cons ⟨t, rfl⟩ .nil)) h1)
theorem ne_IR (G : Gf X.prog X.w X.K X.mg X.base CX0 k f ps [] sp) (o : OwOk X.K C) (n : NeOk X.K C) (p : SpOk X.K C "__eq__" f) (hr : RG j X.A) (hj : k + 1 ≤ j) : OpR X (compareOp .NotEq) (nIR C sp) := by
  intro pins s σ H x y v u Q I rx ry h
  obtain ⟨a, dx, fs, i, rfl, rfl, ea, h1⟩ := h
  obtain rfl : u = Value.ref a := ry
  obtain ⟨t, rfl⟩ := rx
  obtain ⟨mA, O, _⟩ := ins_get I.hok ea
  obtain ⟨od, J, _⟩ := O.look
  obtain ⟨m, hF⟩ := I.fr
  have hr1 : RG (k + 1) X.A := hr.mono hj
  exact Own.ne_intL hr.r.units0 hr1.in1.r.units0 hF I.ok.mod.kin J (ins_obj I.hok ea) n.ne n.ob p.at_ p.fn o.sub2 (run_turned (us := [.ref a, .int i t]) (vs := [.ref a, .int i]) G hr1 I (.cons rfl (.cons ⟨t, rfl⟩ .nil)) h1)
/-- one of three readings of an operator -/
def r3 (r1 r2 r3 : R2) : R2 := fun x y H Q => r1 x y H Q ∨ r2 x y H Q ∨ r3 x y H Q
theorem op_3 {g : Value → Value → Sem Value} {r1 r2 r3' : R2} (h1 : OpR X g r1) (h2 : OpR X g r2) (h3 : OpR X g r3') : OpR X g (r3 r1 r2 r3') := fun pins s σ H x y v u Q I rx ry h =>
  h.elim (h1 pins s σ H x y v u Q I rx ry) fun h => h.elim (h2 pins s σ H x y v u Q I rx ry) (h3 pins s σ H x y v u Q I rx ry)
end
end My

set_option Elab.async false
set_option linter.all false
set_option maxRecDepth 100000
set_option maxHeartbeats 4000000
/-! LayI: other kinds of values beside an instance of an own class -/
namespace My
open PySem PySem.Spec PyProof.Rows L2 He
section
variable (l C dx : Addr)
theorem dec_eqBool (b : Bool) : Meets (Builtin.«int.__eq__» ⟨[.bool b, .ref l], []⟩) (fun _ R s => s.heap.get? l = some (PySem.W.instObj C dx) ∧ R (.ok (.ret Value.notImplemented)) s) :=
  .of_wp fun prog w A R s h => by obtain ⟨hp, g, d, tk, os⟩ := s; obtain ⟨hl, h⟩ := h; wp_walk; exact ⟨_, rfl, h⟩
theorem dec_eqNone : Meets (Builtin.«NoneType.__eq__» ⟨[.none, .ref l], []⟩) (fun _ R s => s.heap.get? l = some (PySem.W.instObj C dx) ∧ R (.ok (.ret Value.notImplemented)) s) :=
  .of_wp fun prog w A R s h => by obtain ⟨hp, g, d, tk, os⟩ := s; obtain ⟨hl, h⟩ := h; wp_walk; exact ⟨_, rfl, h⟩
theorem dec_eqStr (x : Str) (t : Tok) : Meets (Builtin.«str.__eq__» ⟨[.str x t, .ref l], []⟩) (fun _ R s => s.heap.get? l = some (PySem.W.instObj C dx) ∧ R (.ok (.ret Value.notImplemented)) s) :=
  .of_wp fun prog w A R s h => by obtain ⟨hp, g, d, tk, os⟩ := s; obtain ⟨hl, h⟩ := h; wp_walk; exact ⟨_, rfl, h⟩
theorem dec_eqTuple {K : PySem.W.Frag} (a : Addr) (o : Obj) (its : Array Value) (n : Nat) (hd : o.data = .seq its n) (hc : o.cls = .type "tuple") (hsub : PySem.W.subIn K (.ref C) (.type "tuple") = some false) :
    Meets (Builtin.«tuple.__eq__» ⟨[.ref a, .ref l], []⟩) (fun _ R s => K.In s.heap ∧ s.heap.get? a = some o ∧ s.heap.get? l = some (PySem.W.instObj C dx) ∧ R (.ok (.ret Value.notImplemented)) s) :=
  .of_wp fun prog w A R s h => by
    obtain ⟨hp, g, d, tk, os⟩ := s
    obtain ⟨X, ha, hl, h⟩ := h
    obtain ⟨oc, od, dd, sl⟩ := o
    subst hd
    subst hc
    wp_walk
    refine (PySem.W.looks_subIn (M := model prog w) X hsub).here ?_
    wp_walk
    exact ⟨_, rfl, h⟩
theorem dec_eqList {K : PySem.W.Frag} (a : Addr) (o : Obj) (its : Array Value) (n : Nat) (hd : o.data = .seq its n) (hc : o.cls = .type "list") (hsub : PySem.W.subIn K (.ref C) (.type "list") = some false) :
    Meets (Builtin.«list.__eq__» ⟨[.ref a, .ref l], []⟩) (fun _ R s => K.In s.heap ∧ s.heap.get? a = some o ∧ s.heap.get? l = some (PySem.W.instObj C dx) ∧ R (.ok (.ret Value.notImplemented)) s) :=
  .of_wp fun prog w A R s h => by
    obtain ⟨hp, g, d, tk, os⟩ := s
    obtain ⟨X, ha, hl, h⟩ := h
    obtain ⟨oc, od, dd, sl⟩ := o
    subst hd
    subst hc
    wp_walk
    refine (PySem.W.looks_subIn (M := model prog w) X hsub).here ?_
    wp_walk
    exact ⟨_, rfl, h⟩
theorem dec_eqDict {K : PySem.W.Frag} (a : Addr) (o : Obj) (hc : o.cls = .type "dict") (hsub : PySem.W.subIn K (.ref C) (.type "dict") = some false) :
    Meets (Builtin.«dict.__eq__» ⟨[.ref a, .ref l], []⟩) (fun _ R s => K.In s.heap ∧ s.heap.get? a = some o ∧ s.heap.get? l = some (PySem.W.instObj C dx) ∧ R (.ok (.ret Value.notImplemented)) s) :=
  .of_wp fun prog w A R s h => by
    obtain ⟨hp, g, d, tk, os⟩ := s
    obtain ⟨X, ha, hl, h⟩ := h
    obtain ⟨oc, od, dd, sl⟩ := o
    subst hc
    wp_walk
    refine (PySem.W.looks_subIn (M := model prog w) X hsub).here ?_
    wp_walk
    exact ⟨_, rfl, h⟩
end
/-! the rule: v == own, v declines -/
namespace Own
open PySem.W PySem.Calls
section
variable {prog : Program} {w : World} {A : Around} {E : Value → Shared → Prop} {s : Shared} {K : Frag} {x C L f : Addr} {h₀ : Heap} {m : Str → Option Value} {ox : Obj} {od : Option Obj} {v : Value} {T id : String}
theorem eq_declL {Q : Value → Shared → Prop} (ti : s.TypeIs v T) (slot : Slot T (cmpInfo .Eq).2.1 id) (cl : wpAny (model prog w) A (call (.builtin id) [v, .ref x]) (fun r s' => r = .notImplemented ∧ s' = s) E s) (hu : A.units < cLine) (F : Fr h₀ L s.heap m) (X₀ : K.In h₀) (I : InstAt s.heap x ox C od)
    (hs : findIn K (.ref C) "__eq__" = some (some (.ref f))) (hf : isFn K (.ref f) = true) (hsub : subIn K (.ref C) (.type T) = some false)
    (h : wpAny (model prog w) A (call (.ref f) [.ref x, v]) (PySem.W.CmpBack Q) E s) : wpAny (model prog w) A (richCompare .Eq v (.ref x)) Q E s := by
  have X := X₀.keeps F.keep
  have one : wpAny (model prog w) A (tryCompare (.ref x) (cmpInfo .Eq).2.2 v) (fun r s' => ∃ v, r = some v ∧ Q v s') E s := by
    unfold tryCompare
    refine wpAny_bind (ifBound_K X I hs hf (wpAny_mono h (fun v s' hv => ?_) fun _ _ e => e))
    cases v <;> first | exact hv.elim | exact wpAny_pure ⟨_, rfl, hv⟩
  have one0 : oneThing? .Eq v (.ref x) = none := ti.oneThing_none .Eq _
  unfold richCompare
  simp only [one0]
  refine wpAny_holding (wpAny_bind (wpAny_cRoomFor hu ?_))
  refine wpAny_bind (wpAny_typeOf ti (wpAny_bind (I.type.here ?_)))
  rw [if_pos (show (Value.type T != Value.ref C) = true from rfl)]
  refine wpAny_bind ((looks_subIn X hsub).here ?_)
  simp only [Bool.false_eq_true, if_false]
  refine wpAny_bind (wpAny_tryCompare_declines ti slot (wpAny_mono cl (fun v s' hv => ⟨hv.1, ?_⟩) fun _ _ e => e))
  obtain ⟨_, rfl⟩ := hv
  refine wpAny_bind (wpAny_mono one (fun r s' z => ?_) fun _ _ e => e)
  obtain ⟨v, rfl, hq⟩ := z
  exact wpAny_pure hq
end
end Own
/-! kinds of values -/
inductive Kd (H : Hp) : V → String → Prop where
  | bl (b : Bool) : Kd H (.bl b) "bool"
  | non : Kd H .non "NoneType"
  | str (x : Str) : Kd H (.str x) "str"
  | lst {a : Addr} {xs : List V} (e : H a = some (.lst xs)) : Kd H (.ref a) "list"
  | tup {a : Addr} {xs : List V} (e : H a = some (.tup xs)) : Kd H (.ref a) "tuple"
  | dct {a : Addr} {kvs : List (Key × V)} (e : H a = some (.dK kvs)) : Kd H (.ref a) "dict"
theorem Kd.ty {K : PySem.W.Frag} {H : Hp} {x : V} {T : String} (k : Kd H x T) : TyX K H x (.type T) := by
  cases k with
  | bl b => exact .base (.bl b)
  | non => exact .base .non
  | str x => exact .base (.str x)
  | lst e => exact .base (.lst e)
  | tup e => exact .base (.tup e)
  | dct e => exact .base (.dK e)
def kinds : List String := ["bool", "NoneType", "str", "list", "tuple", "dict"]
theorem Kd.mem {H : Hp} {x : V} {T : String} (k : Kd H x T) : T ∈ kinds := by cases k <;> decide
section
variable {X : Cx} {pins : List (Addr × Obj)} {σ : L2.St} {H : Hp} {s : Shared}
theorem looks_type {M : Model} {v : Value} {T : String} (ti : s.TypeIs v T) : PySem.W.Looks M s.heap (typeOf v) (.type T) := fun A Q E s' kp q => by
  refine wpAny_typeOf (s := s') ?_ q
  cases v with
  | ref a =>
    obtain ⟨o, h1, h2⟩ := ti
    exact ⟨o, kp _ _ h1, h2⟩
  | _ => exact ti
theorem Kd.decl {x : V} {v : Value} {T : String} {l C dx : Addr} {A : Around} {E : Value → Shared → Prop} (k : Kd H x T) (I : Inv X pins σ H s) (r : RelV x v) (ho : s.heap.get? l = some (PySem.W.instObj C dx)) (hsub : ∀ T ∈ kinds, PySem.W.subIn X.K (.ref C) (.type T) = some false) :
    s.TypeIs v T ∧ ∃ id, Slot T (cmpInfo .Eq).2.1 id ∧ wpAny (model X.prog X.w) A (call (.builtin id) [v, .ref l]) (fun r s' => r = .notImplemented ∧ s' = s) E s := by
  cases k with
  | bl b =>
    obtain rfl := r
    exact ⟨rfl, _, F.slot_bool_eq, call_meets F.slot_bool_eq (PySem.typeIs_bool s b) F.entry_int_eq (F.args_int_eq_2 _ _) (dec_eqBool l C dx b) ⟨ho, rfl, rfl⟩⟩
  | non =>
    obtain rfl := r
    exact ⟨rfl, _, F.slot_NoneType_eq, call_meets F.slot_NoneType_eq rfl F.entry_NoneType_eq (F.args_NoneType_eq_2 _ _) (dec_eqNone l C dx) ⟨ho, rfl, rfl⟩⟩
  | str x =>
    obtain ⟨t, rfl⟩ := r
    exact ⟨rfl, _, F.slot_str_eq, call_meets F.slot_str_eq rfl F.entry_str_eq (F.args_str_eq_2 _ _) (dec_eqStr l C dx x t) ⟨ho, rfl, rfl⟩⟩
  | @lst a xs e =>
    obtain rfl : v = Value.ref a := r
    obtain ⟨_, its, n, _, g⟩ := (show ObjOk _ _ H s.heap a (.lst xs) from I.hok a _ e)
    have ti : s.TypeIs (.ref a) "list" := ⟨_, g, rfl⟩
    exact ⟨ti, _, F.slot_list_eq, call_meets F.slot_list_eq ti F.entry_list_eq (F.args_list_eq_2 _ _) (dec_eqList l C dx a _ _ _ rfl rfl (hsub _ (by decide))) ⟨I.kIn, g, ho, rfl, rfl⟩⟩
  | @tup a xs e =>
    obtain rfl : v = Value.ref a := r
    obtain ⟨_, its, _, o, g, c, n, d⟩ := (show ObjOk _ _ H s.heap a (.tup xs) from I.hok a _ e)
    have ti : s.TypeIs (.ref a) "tuple" := ⟨_, g, c⟩
    exact ⟨ti, _, F.slot_tuple_eq, call_meets F.slot_tuple_eq ti F.entry_tuple_eq (F.args_tuple_eq_2 _ _) (dec_eqTuple l C dx a _ _ _ d c (hsub _ (by decide))) ⟨I.kIn, g, ho, rfl, rfl⟩⟩
  | @dct a kvs e =>
    obtain rfl : v = Value.ref a := r
    obtain ⟨_, _, vs, _, o, es, ep, g, ⟨c, _, _⟩, _⟩ := (show ObjOk _ _ H s.heap a (.dK kvs) from I.hok a _ e)
    have ti : s.TypeIs (.ref a) "dict" := ⟨_, g, c⟩
    exact ⟨ti, _, F.slot_dict_eq, call_meets F.slot_dict_eq ti F.entry_dict_eq (F.args_dict_eq_2 _ _) (dec_eqDict l C dx a _ c (hsub _ (by decide))) ⟨I.kIn, g, ho, rfl, rfl⟩⟩
end
/-! the readings -/
structure KdOk (K : PySem.W.Frag) (C : Addr) : Prop where
  one : ∀ T ∈ kinds, PySem.W.subIn K (.ref C) (.type T) = some false
  two : ∀ T ∈ kinds, PySem.W.subIn K (.type T) (.ref C) = some false
def kdB (K : PySem.W.Frag) (x : Str) : Bool := kinds.all fun T => decide (PySem.W.subIn K (.ref (ga K x)) (.type T) = some false) && decide (PySem.W.subIn K (.type T) (.ref (ga K x)) = some false)
theorem kdB_ok {K : PySem.W.Frag} {x : Str} (h : kdB K x = true) : KdOk K (ga K x) :=
  ⟨fun T hT => of_decide_eq_true (ba (List.all_eq_true.mp h T hT)).1, fun T hT => of_decide_eq_true (ba (List.all_eq_true.mp h T hT)).2⟩
def eRK (C : Addr) (sp : Sp) : R2 := fun x y H Q => ∃ a dx fs T, x = .ref a ∧ H a = some (.ins C dx fs) ∧ Kd H y T ∧ sp [.ref a, y] H Q E0
def eKR (C : Addr) (sp : Sp) : R2 := fun x y H Q => ∃ a dx fs T, y = .ref a ∧ H a = some (.ins C dx fs) ∧ Kd H x T ∧ sp [.ref a, x] H Q E0
def nRK (C : Addr) (sp : Sp) : R2 := fun x y H Q => eRK C sp x y H (turned Q)
section
variable {X : Cx} {k j : Nat} {f C : Addr} {ps : List Str} {sp : Sp}
theorem eq_RK (G : Gf X.prog X.w X.K X.mg X.base CX0 k f ps [] sp) (o : KdOk X.K C) (p : SpOk X.K C "__eq__" f) (hr : RG j X.A) (hj : k ≤ j) : OpR X (compareOp .Eq) (eRK C sp) := by
  intro pins s σ H x y v u Q I rx ry h
  obtain ⟨a, dx, fs, T, rfl, ea, kd, h1⟩ := h
  obtain rfl : v = Value.ref a := rx
  obtain ⟨mA, O, _⟩ := ins_get I.hok ea
  obtain ⟨od, J, _⟩ := O.look
  obtain ⟨m, hF⟩ := I.fr
  obtain ⟨ti, _⟩ := kd.decl (A := X.A) (E := X.xe) I ry (ins_obj I.hok ea) o.one
  have nf : PySem.W.notFirst X.K C (.type T) = true := by
    unfold PySem.W.notFirst
    rw [o.two T kd.mem] <;> rfl
  refine PySem.W.cmp_K (op := .Eq) (tb := .type T) hr.r.units0 hF I.ok.mod.kin J (looks_type ti) nf p.at_ p.fn ?_
  exact wpAny_mono (run_g (us := [.ref a, u]) (vs := [.ref a, y]) G hr hj pass0 I (.cons rfl (.cons ry .nil)) h1) (fun w s' z => back z) fun _ _ x => x
theorem eq_KR (G : Gf X.prog X.w X.K X.mg X.base CX0 k f ps [] sp) (o : KdOk X.K C) (p : SpOk X.K C "__eq__" f) (hr : RG j X.A) (hj : k ≤ j) : OpR X (compareOp .Eq) (eKR C sp) := by
  intro pins s σ H x y v u Q I rx ry h
  obtain ⟨a, dx, fs, T, rfl, ea, kd, h1⟩ := h
  obtain rfl : u = Value.ref a := ry
  obtain ⟨mA, O, _⟩ := ins_get I.hok ea
  obtain ⟨od, J, _⟩ := O.look
  obtain ⟨m, hF⟩ := I.fr
  obtain ⟨ti, id, slot, cl⟩ := kd.decl (A := X.A) (E := X.xe) I rx (ins_obj I.hok ea) o.one
  refine Own.eq_declL ti slot cl hr.r.units0 hF I.ok.mod.kin J p.at_ p.fn (o.one T kd.mem) ?_
  exact wpAny_mono (run_g (us := [.ref a, v]) (vs := [.ref a, x]) G hr hj pass0 I (.cons rfl (.cons rx .nil)) h1) (fun w s' z => back z) fun _ _ x => x
theorem ne_RK (G : Gf X.prog X.w X.K X.mg X.base CX0 k f ps [] sp) (o : KdOk X.K C) (n : NeOk X.K C) (p : SpOk X.K C "__eq__" f) (hr : RG j X.A) (hj : k + 1 ≤ j) : OpR X (compareOp .NotEq) (nRK C sp) := by
  intro pins s σ H x y v u Q I rx ry h
  obtain ⟨a, dx, fs, T, rfl, ea, kd, h1⟩ := h
  obtain rfl : v = Value.ref a := rx
  obtain ⟨mA, O, _⟩ := ins_get I.hok ea
  obtain ⟨od, J, _⟩ := O.look
  obtain ⟨m, hF⟩ := I.fr
  obtain ⟨ti, _⟩ := kd.decl (A := X.A) (E := X.xe) I ry (ins_obj I.hok ea) o.one
  have nf : PySem.W.notFirst X.K C (.type T) = true := by
    unfold PySem.W.notFirst
    rw [o.two T kd.mem] <;> rfl
  have hr1 : RG (k + 1) X.A := hr.mono hj
  exact Own.ne_own (tb := .type T) hr.r.units0 hr1.in1.r.units0 hF I.ok.mod.kin J (looks_type ti) nf n.ne n.ob p.at_ p.fn (run_turned (us := [.ref a, u]) (vs := [.ref a, y]) G hr1 I (.cons rfl (.cons ry .nil)) h1)
end
/-- f() -/
theorem pe_g0 {X : Cx} {CX : CXT} {k j : Nat} {f : Addr} {x : Str} {ps : List Str} {dvs : List V} {sp : Sp} {E : XK} {p pos : Pos} (G : Gf X.prog X.w X.K X.mg X.base CX k f ps dvs sp) (hm : X.mg x = some (.ref f)) (hr : RG j X.A) (hj : k ≤ j) (hx : Passes CX X E) (hg : Gl X x := by rfl)
    (hdb : (x == ("__debug__" : Str)) = false := by decide) : PE X (.Call (.Name x p) [] [] pos) (tCall sp dvs E tNil) := by
  refine ⟨fun pins s σ H Q I h => ?_⟩
  refine wpAny_Call_Name_kw (ld_glob I hg hm ?_ hdb)
  exact PySem.W.callWith_K0 I.kIn G.kp (run_g (us := []) (vs := []) G hr hj hx I .nil h)
end My

set_option Elab.async false
set_option linter.all false
set_option maxRecDepth 100000
set_option maxHeartbeats 4000000
namespace Toy
open PySem PySem.Spec PyProof.Rows L2 My
local macro_rules | `(tactic| walk_at "ne") => `(tactic| first
  | with_reducible assumption
  | exact Ne.symm (by with_reducible assumption)
  | (refine' ne_of_none ?hx ?hy; (case hy => with_reducible assumption); (case hx => walk_at "hf"))
  | (refine' Ne.symm (ne_of_none ?hx ?hy); (case hy => with_reducible assumption); (case hx => walk_at "hf")))
local macro_rules | `(tactic| walk_at "hf") => `(tactic| first
  | with_reducible assumption
  | with_reducible exact upd_same
  | ((with_reducible refine' Same.at ?hs ?hr); (case hs => with_reducible assumption); (case hr => walk_at "hf"))
  | ((with_reducible refine' at_or ?hr ?hn); (case hr => walk_at "hf"); (case hn => first | exact Or.inl (by with_reducible assumption) | exact Or.inr (by walk_at "ne")))
  | ((with_reducible refine' But.at ?hb ?hn ?hr); (case hb => with_reducible assumption); (case hr => walk_at "hf"); (case hn => walk_at "ne")))
local macro_rules | `(tactic| walk_at "sq") => `(tactic| first
  | with_reducible assumption
  | exact SqL.of (by walk_at "hf"))
local macro_rules | `(tactic| walk_at "sqo") => `(tactic| first
  | exact Or.inl (by with_reducible assumption)
  | exact Or.inr (by with_reducible assumption)
  | exact Or.inl (SqL.of (by walk_at "hf"))
  | exact Or.inr (SqT.of (by walk_at "hf")))
local macro_rules | `(tactic| walk_at "sqt") => `(tactic| first
  | with_reducible assumption
  | exact SqT.of (by walk_at "hf"))
local macro_rules | `(tactic| walk_at "lg") => `(tactic| first
  | with_reducible assumption
  | exact Bd.lg (by with_reducible assumption) (by decide) (by decide)
  | exact Bd.lg (Bd.of (b := 100) (by omega) (by omega)) (by decide) (by decide))
local macro_rules | `(tactic| walk_at "len") => `(tactic| first
  | with_reducible assumption
  | ((simp only [txt_int, lcat, S_len, List.length_append, List.length_cons, List.length_nil]); omega)
  | (apply of_decide_eq_true; rfl))
local macro_rules | `(tactic| walk_at "side") => `(tactic| first
  | with_reducible assumption
  | omega
  | exact ml (by omega) (by omega)
  | exact mr (by omega) (by omega)
  | exact dv (by omega) (by omega)
  | exact Bd.mulOk (by with_reducible assumption) (by with_reducible assumption) (by decide) (by decide) (by decide)
  | exact Bd.div (by with_reducible assumption) (by omega) (by decide) (by decide)
  | (show (0 : Int) < _; omega)
  | decide
  | exact ni_non
  | exact rfl
  | ((simp only [List.length_cons, List.length_nil, List.length_map]); omega))
local macro_rules | `(tactic| walk_at "st") => `(tactic| first
  | ((with_reducible refine' r_var ?hh ?_); (case hh => rfl))
  | with_reducible refine r_c ?_
  | with_reducible refine r_op ?_
  | with_reducible refine r_i0 ?_
  | with_reducible refine r_cons ?_
  | with_reducible refine r_nil ?_
  | with_reducible refine r_seq ?_
  | with_reducible refine r_asg ?_
  | with_reducible refine r_gname ?_
  | with_reducible refine r_ret ?_
  | with_reducible refine r_ifS ?_
  | with_reducible refine r_test ?_
  | with_reducible refine r_tB ?_
  | with_reducible refine b_bl ?_
  | with_reducible refine i_t ?_
  | with_reducible refine i_f ?_
  | with_reducible refine i_nt ?_
  | with_reducible refine i_nf ?_
  | ((with_reducible refine' i_pos ?hh ?_); (case hh => walk_at "side"))
  | ((with_reducible refine' i_neg ?hh ?_); (case hh => walk_at "side"))
  | ((with_reducible refine' n_pos ?hh ?_); (case hh => walk_at "side"))
  | ((with_reducible refine' n_neg ?hh ?_); (case hh => walk_at "side"))
  | ((with_reducible refine' r_pow ?hh ?he ?_); (case hh => first | exact ⟨by decide, by decide, by decide⟩ | exact ⟨by decide, by decide, by omega⟩); (case he => first | ((simp only [Int.reduceToNat, Int.reducePow]); done) | ((simp only [Int.reduceToNat, Int.reducePow]); rfl) | rfl))
  | ((with_reducible refine' r_i ?hh ?_); (case hh => walk_at "side"))
  | with_reducible refine r_call0 ?_
  | with_reducible refine r_call ?_
  | with_reducible refine r_cb ?_
  | with_reducible refine r_int ?_
  | ((with_reducible refine' r_strI ?hh ?_); (case hh => walk_at "lg"))
  | with_reducible refine r_i1 ?_
  | with_reducible refine r_i2 ?_
  | with_reducible refine r_par ?_
  | with_reducible refine r_two ?_
  | with_reducible refine r_and ?_
  | with_reducible refine r_or ?_
  | with_reducible refine r_not ?_
  | with_reducible refine r_tif ?_
  | with_reducible refine r_andV ?_
  | with_reducible refine r_orV ?_
  | with_reducible refine r_notV ?_
  | with_reducible refine r_un ?_
  | with_reducible refine r_u ?_
  | with_reducible refine r_sb ?_
  | with_reducible refine r_drop ?_
  | with_reducible refine r_next ?_
  | with_reducible refine r_gsub ?_
  | ((with_reducible refine' r_ixL ?hh ?he ?_); (case hh => walk_at "sq"); (case he => rfl))
  | ((with_reducible refine' r_ixT ?hh ?he ?_); (case hh => walk_at "sqt"); (case he => rfl))
  | ((with_reducible refine' r_setL ?hh ?he ?_); (case hh => walk_at "hf"); (case he => rfl))
  | with_reducible refine r_gcons ?_
  | with_reducible refine r_gnil ?_
  | with_reducible refine r_sl ?_
  | with_reducible refine r_nopart ?_
  | with_reducible refine r_part ?_
  | with_reducible refine r_pint ?_
  | ((with_reducible refine' r_lenS ?hh ?_); (case hh => walk_at "sqo"))
  | ((with_reducible refine' r_gtup ?hh ?he ?_); (case hh => walk_at "sqt"); (case he => rfl))
  | ((with_reducible refine' r_slL ?hh ?_); (case hh => walk_at "sq"))
  | ((with_reducible refine' r_len ?hh ?_); (case hh => exact sz (by (try simp only [List.length_map]); (first | omega | decide | exact Nat.le_of_ble_eq_true rfl))))
  | with_reducible refine r_isi_ii ?_
  | with_reducible refine r_isi_ib ?_
  | with_reducible refine r_isi_ss ?_
  | ((with_reducible refine' r_isi_own ?hh ?hi ?hk ?_); (case hh => walk_at "hf"); (case hi => with_reducible assumption); (case hk => with_reducible assumption))
  | with_reducible refine r_lst ?_
  | with_reducible refine r_tup ?_
  | with_reducible refine r_make ?_
  | with_reducible refine r_forR1 ?_
  | with_reducible refine r_forL ?_
  | with_reducible refine r_forT ?_
  | with_reducible refine r_forR2 ?_
  | with_reducible refine r_ref1 ?_
  | with_reducible refine r_brk ?_
  | with_reducible refine r_cont ?_
  | with_reducible refine r_retN ?_
  | with_reducible refine r_rr ?_
  | with_reducible refine r_fmt ?_
  | ((with_reducible refine' r_fmti ?hh ?_); (case hh => walk_at "lg"))
  | with_reducible refine r_js ?_
  | with_reducible refine r_js0 ?_
  | ((with_reducible refine' r_jsp ?hh ?_); (case hh => walk_at "len"))
  | with_reducible refine r_m0 ?_
  | with_reducible refine r_m1 ?_
  | with_reducible refine r_str ?_
  | with_reducible refine r_ss ?_
  | with_reducible refine r_s0 ?_
  | ((with_reducible refine' r_addS ?hh ?_); (case hh => walk_at "len"))
  | ((with_reducible refine' r_slS ?hh ?_); (case hh => walk_at "len"))
  | ((with_reducible refine' r_lenT ?hh ?_); (case hh => walk_at "len"))
  | ((with_reducible refine' r_inT ?hh ?hf ?he ?_); (case hh => walk_at "sqt"); (case hf => rfl); (case he => rfl))
  | ((with_reducible refine' r_inF ?hh ?hf ?he ?_); (case hh => walk_at "sqt"); (case hf => rfl); (case he => rfl))
  | ((with_reducible refine' r_makeL ?hh ?_); (case hh => rfl))
  | with_reducible refine r_tprop ?_
  | with_reducible refine r_tfld ?_
  | ((with_reducible refine' f_prop ?hh ?_); (case hh => walk_at "hf"))
  | ((with_reducible refine' f_fld ?hh ?hc ?hn ?hl ?_); (case hh => walk_at "hf"); (case hc => with_reducible assumption); (case hn => with_reducible assumption); (case hl => rfl))
  | with_reducible refine r_tcm ?_
  | with_reducible refine r_chain ?_
  | with_reducible refine r_bl1 ?_
  | with_reducible refine r_intb ?_
  | with_reducible refine r_yes ?_
  | with_reducible refine r_makeK ?_
  | with_reducible refine r_sfld ?_
  | ((with_reducible refine' f_sfld ?hh ?hc ?hn ?hl ?_); (case hh => walk_at "hf"); (case hc => with_reducible assumption); (case hn => with_reducible assumption); (case hl => exact Nat.le_of_ble_eq_true rfl))
  | with_reducible refine r_lcL ?_
  | with_reducible refine r_lcT ?_
  | with_reducible refine r_lcR1 ?_
  | with_reducible refine r_lcR2 ?_)
local macro_rules | `(tactic| walk_at "go") => `(tactic| (repeat walk_at "st"))
local macro_rules | `(tactic| walk_at "in") => `(tactic| dsimp only [cxOf, L2.start, List.map, List.length, List.replicate, Nat.reduceSub, Nat.reduceAdd, List.cons_append, List.nil_append, List.append_nil])
local macro_rules | `(tactic| walk_at "bt") => `(tactic| first
  | with_reducible assumption
  | exact But.rfl
  | exact Same.but (by with_reducible assumption)
  | (refine' But.put ?ha; (case ha => walk_at "bt"))
  | (refine' But.new ?ha ?hn; (case hn => with_reducible assumption); (case ha => walk_at "bt"))
  | (refine' But.trans ?ha ?hb; (case hb => with_reducible assumption); (case ha => walk_at "bt"))
  | (refine' But.trans ?ha (Same.but ?hb); (case hb => with_reducible assumption); (case ha => walk_at "bt")))
local macro_rules | `(tactic| walk_at "sm") => `(tactic| first
  | with_reducible assumption
  | exact Same.refl _
  | (refine' Same.new ?ha ?hn; (case hn => with_reducible assumption); (case ha => walk_at "sm"))
  | (refine' Same.trans ?ha ?hb; (case hb => with_reducible assumption); (case ha => walk_at "sm")))

def top (i : Nat) : Stmt := PySem.Challenge.pw_drawclaims_k03_order_of_ratios.main.body.getD i (.Pass ⟨0, 0, 0, 0⟩)
abbrev s_is_integer : Stmt := (top 7)
theorem sc_is_integer : FnScope ["value"] ["value"] (defScope s_is_integer) := ⟨rfl, rfl, rfl, by decide +kernel, rfl, by decide +kernel, by decide +kernel⟩
abbrev s_common_divisor : Stmt := (top 8)
theorem sc_common_divisor : FnScope ["first", "second", "great", "small"] ["first", "second"] (defScope s_common_divisor) := ⟨rfl, rfl, rfl, by decide +kernel, rfl, by decide +kernel, by decide +kernel⟩
abbrev s_Ratio__init : Stmt := (inClass (top 11) 0)
theorem sc_Ratio__init : FnScope ["self", "top", "bottom", "divisor"] ["self", "top", "bottom"] (defScope s_Ratio__init) := ⟨rfl, rfl, rfl, by decide +kernel, rfl, by decide +kernel, by decide +kernel⟩
abbrev s_Ratio__eq : Stmt := (inClass (top 11) 10)
theorem sc_Ratio__eq : FnScope ["self", "other"] ["self", "other"] (defScope s_Ratio__eq) := ⟨rfl, rfl, rfl, by decide +kernel, rfl, by decide +kernel, by decide +kernel⟩
abbrev s_Ratio__lt : Stmt := (inClass (top 11) 11)
theorem sc_Ratio__lt : FnScope ["self", "other"] ["self", "other"] (defScope s_Ratio__lt) := ⟨rfl, rfl, rfl, by decide +kernel, rfl, by decide +kernel, by decide +kernel⟩
abbrev s_Ratio__le : Stmt := (inClass (top 11) 12)
theorem sc_Ratio__le : FnScope ["self", "other"] ["self", "other"] (defScope s_Ratio__le) := ⟨rfl, rfl, rfl, by decide +kernel, rfl, by decide +kernel, by decide +kernel⟩
abbrev s_Ratio__gt : Stmt := (inClass (top 11) 13)
theorem sc_Ratio__gt : FnScope ["self", "other"] ["self", "other"] (defScope s_Ratio__gt) := ⟨rfl, rfl, rfl, by decide +kernel, rfl, by decide +kernel, by decide +kernel⟩
abbrev s_Ratio__ge : Stmt := (inClass (top 11) 14)
theorem sc_Ratio__ge : FnScope ["self", "other"] ["self", "other"] (defScope s_Ratio__ge) := ⟨rfl, rfl, rfl, by decide +kernel, rfl, by decide +kernel, by decide +kernel⟩
abbrev s_law_purse : Stmt := (top 13)
theorem sc_law_purse : FnScope ["_law_script", "_law_place", "_law_cell", "_law_number", "_law_mixed"] ["_law_script", "_law_place"] (defScope s_law_purse) := ⟨rfl, rfl, rfl, by decide +kernel, rfl, by decide +kernel, by decide +kernel⟩
abbrev s_law_draw : Stmt := (top 14)
theorem sc_law_draw : FnScope ["_law_purse_here", "_law_many", "_law_mixed", "_law_step", "_law_digit"] ["_law_purse_here", "_law_many"] (defScope s_law_draw) := ⟨rfl, rfl, rfl, by decide +kernel, rfl, by decide +kernel, by decide +kernel⟩
abbrev s_law_great : Stmt := (top 15)
theorem sc_law_great : FnScope ["_law_purse_here", "_law_many", "_law_made", "_law_turn"] ["_law_purse_here", "_law_many"] (defScope s_law_great) := ⟨rfl, rfl, rfl, by decide +kernel, rfl, by decide +kernel, by decide +kernel⟩
abbrev s_law_integer : Stmt := (top 16)
theorem sc_law_integer : FnScope ["_law_purse_here", "_law_way", "_law_sign"] ["_law_purse_here"] (defScope s_law_integer) := ⟨rfl, rfl, rfl, by decide +kernel, rfl, by decide +kernel, by decide +kernel⟩
abbrev s_law_told : Stmt := (top 17)
theorem sc_law_told : FnScope ["_law_one", "_law_two"] ["_law_one", "_law_two"] (defScope s_law_told) := ⟨rfl, rfl, rfl, by decide +kernel, rfl, by decide +kernel, by decide +kernel⟩
abbrev s_law_due : Stmt := (top 18)
theorem sc_law_due : FnScope ["_law_left", "_law_right_here"] ["_law_left", "_law_right_here"] (defScope s_law_due) := ⟨rfl, rfl, rfl, by decide +kernel, rfl, by decide +kernel, by decide +kernel⟩
abbrev s_law_second : Stmt := (top 19)
theorem sc_law_second : FnScope ["_law_purse_here", "_law_top", "_law_bottom", "_law_way", "_law_spare"] ["_law_purse_here", "_law_top", "_law_bottom"] (defScope s_law_second) := ⟨rfl, rfl, rfl, by decide +kernel, rfl, by decide +kernel, by decide +kernel⟩
abbrev s_law_right : Stmt := (top 20)
theorem sc_law_right : FnScope ["_law_purse_here", "_law_top", "_law_bottom", "_law_other", "_law_under", "_law_one", "_law_two", "_law_near", "_law_number"] ["_law_purse_here"] (defScope s_law_right) := ⟨rfl, rfl, rfl, by decide +kernel, rfl, by decide +kernel, by decide +kernel⟩
abbrev s_law_other_kinds : Stmt := (top 21)
theorem sc_law_other_kinds : FnScope ["_law_number", "_law_one", "_law_thing"] [] (defScope s_law_other_kinds) := ⟨rfl, rfl, rfl, by decide +kernel, rfl, by decide +kernel, by decide +kernel⟩
abbrev s_law : Stmt := (top 22)
theorem sc_law : FnScope ["_law_script", "_law_place"] ["_law_script"] (defScope s_law) := ⟨rfl, rfl, rfl, by decide +kernel, rfl, by decide +kernel, by decide +kernel⟩
def d_is_integer : Hk.DefE := ⟨fun K => He.ga K "is_integer", "is_integer", "is_integer", defArgs s_is_integer, defBody s_is_integer, defScope s_is_integer, [], []⟩
def d_common_divisor : Hk.DefE := ⟨fun K => He.ga K "common_divisor", "common_divisor", "common_divisor", defArgs s_common_divisor, defBody s_common_divisor, defScope s_common_divisor, [], []⟩
def d_Ratio__init : Hk.DefE := ⟨fun K => He.ma K (He.ga K "Ratio") "__init__", "__init__", "Ratio.__init__", defArgs s_Ratio__init, defBody s_Ratio__init, defScope s_Ratio__init, [.int 1], []⟩
def d_Ratio__eq : Hk.DefE := ⟨fun K => He.ma K (He.ga K "Ratio") "__eq__", "__eq__", "Ratio.__eq__", defArgs s_Ratio__eq, defBody s_Ratio__eq, defScope s_Ratio__eq, [], []⟩
def d_Ratio__lt : Hk.DefE := ⟨fun K => He.ma K (He.ga K "Ratio") "__lt__", "__lt__", "Ratio.__lt__", defArgs s_Ratio__lt, defBody s_Ratio__lt, defScope s_Ratio__lt, [], []⟩
def d_Ratio__le : Hk.DefE := ⟨fun K => He.ma K (He.ga K "Ratio") "__le__", "__le__", "Ratio.__le__", defArgs s_Ratio__le, defBody s_Ratio__le, defScope s_Ratio__le, [], []⟩
def d_Ratio__gt : Hk.DefE := ⟨fun K => He.ma K (He.ga K "Ratio") "__gt__", "__gt__", "Ratio.__gt__", defArgs s_Ratio__gt, defBody s_Ratio__gt, defScope s_Ratio__gt, [], []⟩
def d_Ratio__ge : Hk.DefE := ⟨fun K => He.ma K (He.ga K "Ratio") "__ge__", "__ge__", "Ratio.__ge__", defArgs s_Ratio__ge, defBody s_Ratio__ge, defScope s_Ratio__ge, [], []⟩
def d_law_purse : Hk.DefE := ⟨fun K => He.ga K "_law_purse", "_law_purse", "_law_purse", defArgs s_law_purse, defBody s_law_purse, defScope s_law_purse, [], []⟩
def d_law_draw : Hk.DefE := ⟨fun K => He.ga K "_law_draw", "_law_draw", "_law_draw", defArgs s_law_draw, defBody s_law_draw, defScope s_law_draw, [], []⟩
def d_law_great : Hk.DefE := ⟨fun K => He.ga K "_law_great", "_law_great", "_law_great", defArgs s_law_great, defBody s_law_great, defScope s_law_great, [], []⟩
def d_law_integer : Hk.DefE := ⟨fun K => He.ga K "_law_integer", "_law_integer", "_law_integer", defArgs s_law_integer, defBody s_law_integer, defScope s_law_integer, [], []⟩
def d_law_told : Hk.DefE := ⟨fun K => He.ga K "_law_told", "_law_told", "_law_told", defArgs s_law_told, defBody s_law_told, defScope s_law_told, [], []⟩
def d_law_due : Hk.DefE := ⟨fun K => He.ga K "_law_due", "_law_due", "_law_due", defArgs s_law_due, defBody s_law_due, defScope s_law_due, [], []⟩
def d_law_second : Hk.DefE := ⟨fun K => He.ga K "_law_second", "_law_second", "_law_second", defArgs s_law_second, defBody s_law_second, defScope s_law_second, [], []⟩
def d_law_right : Hk.DefE := ⟨fun K => He.ga K "_law_right", "_law_right", "_law_right", defArgs s_law_right, defBody s_law_right, defScope s_law_right, [], []⟩
def d_law_other_kinds : Hk.DefE := ⟨fun K => He.ga K "_law_other_kinds", "_law_other_kinds", "_law_other_kinds", defArgs s_law_other_kinds, defBody s_law_other_kinds, defScope s_law_other_kinds, [], []⟩
def d_law : Hk.DefE := ⟨fun K => He.ga K "law", "law", "law", defArgs s_law, defBody s_law, defScope s_law, [], []⟩
def fn : List Hk.DefE := [d_is_integer, d_common_divisor, d_Ratio__init, d_Ratio__eq, d_Ratio__lt, d_Ratio__le, d_Ratio__gt, d_Ratio__ge, d_law_purse, d_law_draw, d_law_great, d_law_integer, d_law_told, d_law_due, d_law_second, d_law_right, d_law_other_kinds, d_law]
def fa : List He.Fa := [.glo "is_integer", .glo "common_divisor", .glo "_law_purse", .glo "_law_draw", .glo "_law_great", .glo "_law_integer", .glo "_law_told", .glo "_law_due", .glo "_law_second", .glo "_law_right", .glo "_law_other_kinds", .glo "law", .free "isinstance", .free "int", .free "bool", .free "abs", .free "len", .free "divmod", .free "range", .free "max", .free "min", .free "repr", .free "str", .glo "Ratio", .cls "Ratio", .noat "Ratio" "top", .noat "Ratio" "bottom", .mkr "Ratio"]
def exs (K : PySem.W.Frag) : List Bool := [spB K "Ratio" "__eq__", spB K "Ratio" "__lt__", spB K "Ratio" "__le__", spB K "Ratio" "__gt__", spB K "Ratio" "__ge__", owB K "Ratio", neB K "Ratio", kdB K "Ratio", insB K "Ratio", isiB K (.ref (He.ga K "Ratio")) (.ref (He.ga K "Ratio")) true, isiB K (.ref (He.ga K "Ratio")) (.type "int") false, isiB K (.type "bool") (.ref (He.ga K "Ratio")) false, isiB K (.type "NoneType") (.ref (He.ga K "Ratio")) false, isiB K (.type "str") (.ref (He.ga K "Ratio")) false, isiB K (.type "list") (.ref (He.ga K "Ratio")) false, isiB K (.type "tuple") (.ref (He.ga K "Ratio")) false, isiB K (.type "dict") (.ref (He.ga K "Ratio")) false]
def ex (K : PySem.W.Frag) : Bool := (exs K).all id
theorem ex_at {K : PySem.W.Frag} (c : Hk.SaysE fa fn ex K) (i : Nat) {b : Bool} (h : (exs K)[i]? = some b) : b = true := List.all_eq_true.mp c.more b (List.mem_of_getElem? h)
/-- what the top has written -/
structure Tx (K : PySem.W.Frag) (mg : Str → Option Value) : Prop where
  d_is_integer : ∃ fd, FunD K "is_integer" "is_integer" (defArgs s_is_integer) (defBody s_is_integer) (defScope s_is_integer) (d_is_integer.dvs K) (d_is_integer.kws K) (d_is_integer.adr K) fd
  g_is_integer : mg "is_integer" = some (.ref (He.ga K "is_integer"))
  d_common_divisor : ∃ fd, FunD K "common_divisor" "common_divisor" (defArgs s_common_divisor) (defBody s_common_divisor) (defScope s_common_divisor) (d_common_divisor.dvs K) (d_common_divisor.kws K) (d_common_divisor.adr K) fd
  g_common_divisor : mg "common_divisor" = some (.ref (He.ga K "common_divisor"))
  d_Ratio__init : ∃ fd, FunD K "__init__" "Ratio.__init__" (defArgs s_Ratio__init) (defBody s_Ratio__init) (defScope s_Ratio__init) (d_Ratio__init.dvs K) (d_Ratio__init.kws K) (d_Ratio__init.adr K) fd
  d_Ratio__eq : ∃ fd, FunD K "__eq__" "Ratio.__eq__" (defArgs s_Ratio__eq) (defBody s_Ratio__eq) (defScope s_Ratio__eq) (d_Ratio__eq.dvs K) (d_Ratio__eq.kws K) (d_Ratio__eq.adr K) fd
  d_Ratio__lt : ∃ fd, FunD K "__lt__" "Ratio.__lt__" (defArgs s_Ratio__lt) (defBody s_Ratio__lt) (defScope s_Ratio__lt) (d_Ratio__lt.dvs K) (d_Ratio__lt.kws K) (d_Ratio__lt.adr K) fd
  d_Ratio__le : ∃ fd, FunD K "__le__" "Ratio.__le__" (defArgs s_Ratio__le) (defBody s_Ratio__le) (defScope s_Ratio__le) (d_Ratio__le.dvs K) (d_Ratio__le.kws K) (d_Ratio__le.adr K) fd
  d_Ratio__gt : ∃ fd, FunD K "__gt__" "Ratio.__gt__" (defArgs s_Ratio__gt) (defBody s_Ratio__gt) (defScope s_Ratio__gt) (d_Ratio__gt.dvs K) (d_Ratio__gt.kws K) (d_Ratio__gt.adr K) fd
  d_Ratio__ge : ∃ fd, FunD K "__ge__" "Ratio.__ge__" (defArgs s_Ratio__ge) (defBody s_Ratio__ge) (defScope s_Ratio__ge) (d_Ratio__ge.dvs K) (d_Ratio__ge.kws K) (d_Ratio__ge.adr K) fd
  d_law_purse : ∃ fd, FunD K "_law_purse" "_law_purse" (defArgs s_law_purse) (defBody s_law_purse) (defScope s_law_purse) (d_law_purse.dvs K) (d_law_purse.kws K) (d_law_purse.adr K) fd
  g_law_purse : mg "_law_purse" = some (.ref (He.ga K "_law_purse"))
  d_law_draw : ∃ fd, FunD K "_law_draw" "_law_draw" (defArgs s_law_draw) (defBody s_law_draw) (defScope s_law_draw) (d_law_draw.dvs K) (d_law_draw.kws K) (d_law_draw.adr K) fd
  g_law_draw : mg "_law_draw" = some (.ref (He.ga K "_law_draw"))
  d_law_great : ∃ fd, FunD K "_law_great" "_law_great" (defArgs s_law_great) (defBody s_law_great) (defScope s_law_great) (d_law_great.dvs K) (d_law_great.kws K) (d_law_great.adr K) fd
  g_law_great : mg "_law_great" = some (.ref (He.ga K "_law_great"))
  d_law_integer : ∃ fd, FunD K "_law_integer" "_law_integer" (defArgs s_law_integer) (defBody s_law_integer) (defScope s_law_integer) (d_law_integer.dvs K) (d_law_integer.kws K) (d_law_integer.adr K) fd
  g_law_integer : mg "_law_integer" = some (.ref (He.ga K "_law_integer"))
  d_law_told : ∃ fd, FunD K "_law_told" "_law_told" (defArgs s_law_told) (defBody s_law_told) (defScope s_law_told) (d_law_told.dvs K) (d_law_told.kws K) (d_law_told.adr K) fd
  g_law_told : mg "_law_told" = some (.ref (He.ga K "_law_told"))
  d_law_due : ∃ fd, FunD K "_law_due" "_law_due" (defArgs s_law_due) (defBody s_law_due) (defScope s_law_due) (d_law_due.dvs K) (d_law_due.kws K) (d_law_due.adr K) fd
  g_law_due : mg "_law_due" = some (.ref (He.ga K "_law_due"))
  d_law_second : ∃ fd, FunD K "_law_second" "_law_second" (defArgs s_law_second) (defBody s_law_second) (defScope s_law_second) (d_law_second.dvs K) (d_law_second.kws K) (d_law_second.adr K) fd
  g_law_second : mg "_law_second" = some (.ref (He.ga K "_law_second"))
  d_law_right : ∃ fd, FunD K "_law_right" "_law_right" (defArgs s_law_right) (defBody s_law_right) (defScope s_law_right) (d_law_right.dvs K) (d_law_right.kws K) (d_law_right.adr K) fd
  g_law_right : mg "_law_right" = some (.ref (He.ga K "_law_right"))
  d_law_other_kinds : ∃ fd, FunD K "_law_other_kinds" "_law_other_kinds" (defArgs s_law_other_kinds) (defBody s_law_other_kinds) (defScope s_law_other_kinds) (d_law_other_kinds.dvs K) (d_law_other_kinds.kws K) (d_law_other_kinds.adr K) fd
  g_law_other_kinds : mg "_law_other_kinds" = some (.ref (He.ga K "_law_other_kinds"))
  d_law : ∃ fd, FunD K "law" "law" (defArgs s_law) (defBody s_law) (defScope s_law) (d_law.dvs K) (d_law.kws K) (d_law.adr K) fd
  g_law : mg "law" = some (.ref (He.ga K "law"))
  f_isinstance : mg "isinstance" = none
  f_int : mg "int" = none
  f_bool : mg "bool" = none
  f_abs : mg "abs" = none
  f_len : mg "len" = none
  f_divmod : mg "divmod" = none
  f_range : mg "range" = none
  f_max : mg "max" = none
  f_min : mg "min" = none
  f_repr : mg "repr" = none
  f_str : mg "str" = none
  g_Ratio : mg "Ratio" = some (.ref (He.ga K "Ratio"))
  cl_Ratio : Cls K (He.ga K "Ratio")
  n_Ratio_top : NoAttr K (He.ga K "Ratio") "top"
  n_Ratio_bottom : NoAttr K (He.ga K "Ratio") "bottom"
  mk_Ratio : Mg K (He.ga K "Ratio") (He.ma K (He.ga K "Ratio") "__init__")
  sp_Ratio__eq : SpOk K (He.ga K "Ratio") "__eq__" (He.ma K (He.ga K "Ratio") "__eq__")
  sp_Ratio__lt : SpOk K (He.ga K "Ratio") "__lt__" (He.ma K (He.ga K "Ratio") "__lt__")
  sp_Ratio__le : SpOk K (He.ga K "Ratio") "__le__" (He.ma K (He.ga K "Ratio") "__le__")
  sp_Ratio__gt : SpOk K (He.ga K "Ratio") "__gt__" (He.ma K (He.ga K "Ratio") "__gt__")
  sp_Ratio__ge : SpOk K (He.ga K "Ratio") "__ge__" (He.ma K (He.ga K "Ratio") "__ge__")
  ow_Ratio : OwOk K (He.ga K "Ratio")
  ne_Ratio : NeOk K (He.ga K "Ratio")
  kd_Ratio : KdOk K (He.ga K "Ratio")
  in_Ratio : InsOk K (He.ga K "Ratio")
  i_RR : PySem.W.kitOne K (.ref (He.ga K "Ratio")) (.ref (He.ga K "Ratio")) = some true
  i_RI : PySem.W.kitOne K (.ref (He.ga K "Ratio")) (.type "int") = some false
  i_Kbool : PySem.W.kitOne K (.type "bool") (.ref (He.ga K "Ratio")) = some false
  i_KNoneType : PySem.W.kitOne K (.type "NoneType") (.ref (He.ga K "Ratio")) = some false
  i_Kstr : PySem.W.kitOne K (.type "str") (.ref (He.ga K "Ratio")) = some false
  i_Klist : PySem.W.kitOne K (.type "list") (.ref (He.ga K "Ratio")) = some false
  i_Ktuple : PySem.W.kitOne K (.type "tuple") (.ref (He.ga K "Ratio")) = some false
  i_Kdict : PySem.W.kitOne K (.type "dict") (.ref (He.ga K "Ratio")) = some false
theorem tx_ok {K : PySem.W.Frag} {h : Heap} {mg : Str → Option Value} (X : K.In h) (G : h.Ns mainGlobals mg) (c : Hk.SaysE fa fn ex K) : Tx K mg where
  d_is_integer := c.def_ 0 rfl
  g_is_integer := He.glo_ok X G (c.fact 0 (f := .glo "is_integer") rfl)
  d_common_divisor := c.def_ 1 rfl
  g_common_divisor := He.glo_ok X G (c.fact 1 (f := .glo "common_divisor") rfl)
  d_Ratio__init := c.def_ 2 rfl
  d_Ratio__eq := c.def_ 3 rfl
  d_Ratio__lt := c.def_ 4 rfl
  d_Ratio__le := c.def_ 5 rfl
  d_Ratio__gt := c.def_ 6 rfl
  d_Ratio__ge := c.def_ 7 rfl
  d_law_purse := c.def_ 8 rfl
  g_law_purse := He.glo_ok X G (c.fact 2 (f := .glo "_law_purse") rfl)
  d_law_draw := c.def_ 9 rfl
  g_law_draw := He.glo_ok X G (c.fact 3 (f := .glo "_law_draw") rfl)
  d_law_great := c.def_ 10 rfl
  g_law_great := He.glo_ok X G (c.fact 4 (f := .glo "_law_great") rfl)
  d_law_integer := c.def_ 11 rfl
  g_law_integer := He.glo_ok X G (c.fact 5 (f := .glo "_law_integer") rfl)
  d_law_told := c.def_ 12 rfl
  g_law_told := He.glo_ok X G (c.fact 6 (f := .glo "_law_told") rfl)
  d_law_due := c.def_ 13 rfl
  g_law_due := He.glo_ok X G (c.fact 7 (f := .glo "_law_due") rfl)
  d_law_second := c.def_ 14 rfl
  g_law_second := He.glo_ok X G (c.fact 8 (f := .glo "_law_second") rfl)
  d_law_right := c.def_ 15 rfl
  g_law_right := He.glo_ok X G (c.fact 9 (f := .glo "_law_right") rfl)
  d_law_other_kinds := c.def_ 16 rfl
  g_law_other_kinds := He.glo_ok X G (c.fact 10 (f := .glo "_law_other_kinds") rfl)
  d_law := c.def_ 17 rfl
  g_law := He.glo_ok X G (c.fact 11 (f := .glo "law") rfl)
  f_isinstance := He.free_ok X G (c.fact 12 (f := .free "isinstance") rfl)
  f_int := He.free_ok X G (c.fact 13 (f := .free "int") rfl)
  f_bool := He.free_ok X G (c.fact 14 (f := .free "bool") rfl)
  f_abs := He.free_ok X G (c.fact 15 (f := .free "abs") rfl)
  f_len := He.free_ok X G (c.fact 16 (f := .free "len") rfl)
  f_divmod := He.free_ok X G (c.fact 17 (f := .free "divmod") rfl)
  f_range := He.free_ok X G (c.fact 18 (f := .free "range") rfl)
  f_max := He.free_ok X G (c.fact 19 (f := .free "max") rfl)
  f_min := He.free_ok X G (c.fact 20 (f := .free "min") rfl)
  f_repr := He.free_ok X G (c.fact 21 (f := .free "repr") rfl)
  f_str := He.free_ok X G (c.fact 22 (f := .free "str") rfl)
  g_Ratio := He.glo_ok X G (c.fact 23 (f := .glo "Ratio") rfl)
  cl_Ratio := He.cls_ok (c.fact 24 (f := .cls "Ratio") rfl)
  n_Ratio_top := He.noat_ok (c.fact 25 (f := .noat "Ratio" "top") rfl)
  n_Ratio_bottom := He.noat_ok (c.fact 26 (f := .noat "Ratio" "bottom") rfl)
  mk_Ratio := mg_ok (c.fact 27 (f := .mkr "Ratio") rfl)
  sp_Ratio__eq := spB_ok (ex_at c 0 rfl)
  sp_Ratio__lt := spB_ok (ex_at c 1 rfl)
  sp_Ratio__le := spB_ok (ex_at c 2 rfl)
  sp_Ratio__gt := spB_ok (ex_at c 3 rfl)
  sp_Ratio__ge := spB_ok (ex_at c 4 rfl)
  ow_Ratio := owB_ok (ex_at c 5 rfl)
  ne_Ratio := neB_ok (ex_at c 6 rfl)
  kd_Ratio := kdB_ok (ex_at c 7 rfl)
  in_Ratio := insB_ok (He.cls_ok (c.fact 24 (f := .cls "Ratio") rfl)) (ex_at c 8 rfl)
  i_RR := isiB_ok (ex_at c 9 rfl)
  i_RI := isiB_ok (ex_at c 10 rfl)
  i_Kbool := isiB_ok (ex_at c 11 rfl)
  i_KNoneType := isiB_ok (ex_at c 12 rfl)
  i_Kstr := isiB_ok (ex_at c 13 rfl)
  i_Klist := isiB_ok (ex_at c 14 rfl)
  i_Ktuple := isiB_ok (ex_at c 15 rfl)
  i_Kdict := isiB_ok (ex_at c 16 rfl)
/-! ### the draws: a purse at p; every number drawn is any in its range -/
def Purse (H : Hp) (p : Addr) : Prop := ∃ a b c : Int, H p = some (.lst [.int a, .int b, .int c]) ∧ 0 ≤ a ∧ a < 2147483629 ∧ 0 ≤ b
theorem Purse.same {H H' : Hp} {p : Addr} (h : Purse H p) (s : Same H H') : Purse H' p := let ⟨a, b, c, e, q⟩ := h; ⟨a, b, c, s _ _ e, q⟩
theorem Purse.new {H : Hp} {p l : Addr} {o : HO} (h : Purse H p) (n : H l = none) : Purse (upd H l o) p := h.same (My.Same.new (Same.refl H) n)
theorem Purse.ne {H : Hp} {p l : Addr} (h : Purse H p) (n : H l = none) : l ≠ p := let ⟨_, _, _, e, _⟩ := h; (ne_of_none e n).symm
def spDraw : Sp := fun vs H Q _ => ∃ p m, vs = [.ref p, .int m] ∧ Purse H p ∧ 0 < m ∧ m < 2 ^ 200 ∧ ∀ d H', 0 ≤ d → d < m → Purse H' p → But p H H' → Q (.int d) H'
theorem go_draw {p : Addr} {m : Int} {H : Hp} {Q : VK} {E : XK} (hp : Purse H p) (h0 : 0 < m) (h1 : m < 2 ^ 200) (k : ∀ d H', 0 ≤ d → d < m → Purse H' p → But p H H' → Q (.int d) H') : spDraw [.ref p, .int m] H Q E := ⟨p, m, rfl, hp, h0, h1, k⟩
section
variable {P : Program} {w : World} {K : PySem.W.Frag} {mg : Str → Option Value} {base : Heap}
theorem dv2 {i j : Int} (h1 : 0 < j) (h2 : j < 2 ^ 200) : CDivW i j := wide_div (b := 200) h1 (by omega) (by decide) (by decide)
theorem ok_law_draw (T : Tx K mg) : Gf P w K mg base CX0 2 (He.ga K "_law_draw") ["_law_purse_here", "_law_many"] [] spDraw := by
  obtain ⟨fd, F⟩ := T.d_law_draw
  refine gf0 F (fnG F sc_law_draw (fun vs H Q E h => ?_) (fun cdv A outer s H vs Q E hr h => ?_)) (fun _ _ _ _ _ _ us hl => match us, hl with | [_, _], _ => rfl)
  · obtain ⟨p, m, rfl, _⟩ := h
    rfl
  obtain ⟨p, m, rfl, ⟨a, b, c, hp, a0, a1, b0⟩, m0, m1, k⟩ := h
  refine ⟨_, PSs.nox (pss_cons (ps_asg (pe_op op_add (pe_ix (ix_listK (K := K) rfl) (pv 0) pe_int (fun _ _ => rfl)) pe_int) (pg_sub (pv 0) pe_int set_list)) (pss_cons (ps_set (i := 2) sc_law_draw.nd rfl (Or.inl rfl) (pe_callTy call_int1 (by rfl) T.f_int (by decide +kernel) (pa_cons (pe_ix (ix_listK (K := K) rfl) (pv 0) pe_int (fun _ _ => rfl)) pa_nil))) (pss_cons (ps_set (i := 3) sc_law_draw.nd rfl (Or.inl rfl) (pe_op op_add (pe_op op_mod (pe_callTy call_int1 (by rfl) T.f_int (by decide +kernel) (pa_cons (pv 2) pa_nil)) pe_int) pe_int)) (pss_cons (ps_asg (pe_op op_mod (pe_callTy call_int1 (by rfl) T.f_int (by decide +kernel) (pa_cons (pe_op op_add (pe_op op_add (pe_op op_mulA (pv 2) (pv 3)) (pe_op op_mulA pe_int (pe_ix (ix_listK (K := K) rfl) (pv 0) pe_int (fun _ _ => rfl)))) pe_int) pa_nil)) pe_int) (pg_sub (pv 0) pe_int set_list)) (pss_cons (ps_if (pt_cmpR op_gt (pe_ix (ix_listK (K := K) rfl) (pv 0) pe_int (fun _ _ => rfl)) pe_int (nomark _)) (pss_cons (ps_asg (pe_callB call_divmodA (by rfl) T.f_divmod (by decide +kernel) (pa_cons (pe_ix (ix_listK (K := K) rfl) (pv 0) pe_int (fun _ _ => rfl)) (pa_cons (pv 1) pa_nil))) (pg_tupK (K := K) rfl rfl (pgs_cons (pg_sub (pv 0) pe_int set_list) (pgs_cons (pg_name (i := 4) sc_law_draw.nd rfl (Or.inl rfl)) pgs_nil)))) (pss_one (ps_ret (pv 4)))) pss_nil) (pss_one (ps_ret (pe_op op_mod (pe_callTy call_int1 (by rfl) T.f_int (by decide +kernel) (pa_cons (pe_op op_fdivW (pe_ix (ix_listK (K := K) rfl) (pv 0) pe_int (fun _ _ => rfl)) pe_int) pa_nil)) (pv 1))))))))), ?_⟩
  walk_at "in"
  walk_at "go"
  refine i_two (fun hb => ?_) (fun hb => ?_)
  · walk_at "go"
    refine ⟨dv2 m0 m1, fun t ht => ?_⟩
    walk_at "go"
    exact k _ _ (Int.emod_nonneg _ (by omega)) (Int.emod_lt_of_pos _ m0) ⟨_, _, _, upd_same, by omega, by omega, Int.ediv_nonneg b0 (by omega)⟩ (by walk_at "bt")
  · walk_at "go"
    exact k _ _ (Int.emod_nonneg _ (by omega)) (Int.emod_lt_of_pos _ m0) ⟨_, _, _, upd_same, by omega, by omega, b0⟩ (by walk_at "bt")
def spGreat : Sp := fun vs H Q _ => ∃ p m, vs = [.ref p, .int m] ∧ Purse H p ∧ 0 ≤ m ∧ m ≤ 10 ∧ ∀ d H', 0 ≤ d → d < 10 ^ 60 → Purse H' p → But p H H' → Q (.int d) H'
theorem go_great {p : Addr} {m : Int} {H : Hp} {Q : VK} {E : XK} (hp : Purse H p) (h0 : 0 ≤ m) (h1 : m ≤ 10) (k : ∀ d H', 0 ≤ d → d < 10 ^ 60 → Purse H' p → But p H H' → Q (.int d) H') : spGreat [.ref p, .int m] H Q E := ⟨p, m, rfl, hp, h0, h1, k⟩
theorem ok_law_great (T : Tx K mg) : Gf P w K mg base CX0 3 (He.ga K "_law_great") ["_law_purse_here", "_law_many"] [] spGreat := by
  obtain ⟨fd, F⟩ := T.d_law_great
  refine gf0 F (fnG F sc_law_great (fun vs H Q E h => ?_) (fun cdv A outer s H vs Q E hr h => ?_)) (fun _ _ _ _ _ _ us hl => match us, hl with | [_, _], _ => rfl)
  · obtain ⟨p, m, rfl, _⟩ := h
    rfl
  obtain ⟨p, m, rfl, hp, m0, m1, k⟩ := h
  refine ⟨_, PSs.nox (pss_cons (ps_set (i := 2) sc_law_great.nd rfl (Or.inl rfl) pe_int) (pss_cons (ps_for PassesOwn.never rfl (pi_range1 rfl T.f_range (pa_cons (pv 1) pa_nil)) (pg_name (i := 3) sc_law_great.nd rfl (Or.inl rfl)) (pss_one (ps_set (i := 2) sc_law_great.nd rfl (Or.inl rfl) (pe_op op_add (pe_op op_mulA (pv 2) (pe_op op_pow pe_int pe_int)) (pe_g (ok_law_draw T) T.g_law_draw hr (by decide) pass0 (pa_cons (pv 0) (pa_cons (pe_op op_pow pe_int pe_int) pa_nil))))))) (pss_one (ps_ret (pv 2))))), ?_⟩
  walk_at "in"
  walk_at "go"
  refine ⟨by omega, by omega, lp_range (n := m.toNat) (fun i σ H' => ∃ (d : Int) (v : Option V), σ = [some (.ref p), some (.int m), some (.int d), v] ∧ 0 ≤ d ∧ d < 10 ^ (6 * i) ∧ Purse H' p ∧ But p H H') ⟨0, none, rfl, by omega, by decide, hp, But.rfl⟩ ?_ ?_⟩
  · rintro i σ H1 hi ⟨d, v, rfl, d0, d1, hp1, b1⟩
    walk_at "go"
    refine go_draw hp1 (by decide) (by decide) fun r H2 r0 r1 hp2 b2 => ?_
    walk_at "go"
    refine ⟨_, _, rfl, by omega, ?_, hp2, by walk_at "bt"⟩
    have e : (10 : Int) ^ (6 * (i + 1)) = 10 ^ (6 * i) * 1000000 := by
      rw [show 6 * (i + 1) = 6 * i + 6 by omega, Int.pow_add] <;> rfl
    rw [e]
    omega
  · rintro σ H1 ⟨d, v, rfl, d0, d1, hp1, b1⟩
    walk_at "go"
    refine k d H1 d0 (Int.lt_of_lt_of_le d1 ?_) hp1 b1
    have h : 10 ^ (6 * m.toNat) ≤ 10 ^ 60 := Nat.pow_le_pow_right (by decide) (by omega)
    exact_mod_cast h
end
section
variable {P : Program} {w : World} {K : PySem.W.Frag} {mg : Str → Option Value} {base : Heap}
def spInteger : Sp := fun vs H Q _ => ∃ p, vs = [.ref p] ∧ Purse H p ∧ ∀ d H', -(10 ^ 60) < d → d < 10 ^ 60 → Purse H' p → But p H H' → Q (.int d) H'
theorem go_integer {p : Addr} {H : Hp} {Q : VK} {E : XK} (hp : Purse H p) (k : ∀ d H', -(10 ^ 60) < d → d < 10 ^ 60 → Purse H' p → But p H H' → Q (.int d) H') : spInteger [.ref p] H Q E := ⟨p, rfl, hp, k⟩
theorem sgn {s d : Int} (h : s = 1 - 2 * d) (d0 : 0 ≤ d) (d2 : d < 2) : s = 1 ∨ s = -1 := by omega
theorem sgn_mul {s x : Int} (h : s = 1 ∨ s = -1) (x0 : 0 ≤ x) (x1 : x < 10 ^ 60) : -(10 ^ 60) < s * x ∧ s * x < 10 ^ 60 := by
  rcases h with rfl | rfl <;> omega
theorem ok_law_integer (T : Tx K mg) : Gf P w K mg base CX0 4 (He.ga K "_law_integer") ["_law_purse_here"] [] spInteger := by
  obtain ⟨fd, F⟩ := T.d_law_integer
  refine gf0 F (fnG F sc_law_integer (fun vs H Q E h => ?_) (fun cdv A outer s H vs Q E hr h => ?_)) (fun _ _ _ _ _ _ us hl => match us, hl with | [_], _ => rfl)
  · obtain ⟨p, rfl, _⟩ := h
    rfl
  obtain ⟨p, rfl, hp, k⟩ := h
  refine ⟨_, PSs.nox (pss_cons (ps_par (i := 1) (j := 2) (by rfl) sc_law_integer.nd rfl rfl (by decide) rfl rfl (pa_cons (pe_g (ok_law_draw T) T.g_law_draw hr (by decide) pass0 (pa_cons (pv 0) (pa_cons pe_int pa_nil))) (pa_cons (pe_op op_sub pe_int (pe_op op_mulA pe_int (pe_g (ok_law_draw T) T.g_law_draw hr (by decide) pass0 (pa_cons (pv 0) (pa_cons pe_int pa_nil))))) pa_nil)) (by rfl)) (pss_cons (ps_if (pt_cmpR op_lt (pv 1) pe_int (nomark _)) (pss_one (ps_ret (pe_op op_mulA (pv 2) (pe_g (ok_law_draw T) T.g_law_draw hr (by decide) pass0 (pa_cons (pv 0) (pa_cons pe_int pa_nil)))))) pss_nil) (pss_cons (ps_if (pt_cmpR op_eqI (pv 1) pe_int (nomark _)) (pss_one (ps_ret (pe_op op_mulA (pv 2) (pe_ix (ix_listK (K := K) rfl) (pe_lst (pa_cons pe_int (pa_cons pe_int (pa_cons pe_int (pa_cons pe_int (pa_cons pe_int (pa_cons (pe_op op_pow pe_int pe_int) (pa_cons (pe_op op_pow pe_int pe_int) (pa_cons (pe_op op_pow pe_int pe_int) pa_nil))))))))) (pe_g (ok_law_draw T) T.g_law_draw hr (by decide) pass0 (pa_cons (pv 0) (pa_cons pe_int pa_nil))) (fun _ _ => rfl))))) pss_nil) (pss_cons (ps_if (pt_cmpR op_eqI (pv 1) pe_int (nomark _)) (pss_one (ps_ret (pe_op op_mulA (pv 2) (pe_g (ok_law_draw T) T.g_law_draw hr (by decide) pass0 (pa_cons (pv 0) (pa_cons (pe_op op_pow pe_int pe_int) pa_nil)))))) pss_nil) (pss_one (ps_ret (pe_op op_mulA (pv 2) (pe_g (ok_law_great T) T.g_law_great hr (by decide) pass0 (pa_cons (pv 0) (pa_cons (pe_op op_add pe_int (pe_g (ok_law_draw T) T.g_law_draw hr (by decide) pass0 (pa_cons (pv 0) (pa_cons pe_int pa_nil)))) pa_nil)))))))))), ?_⟩
  walk_at "in"
  walk_at "go"
  refine go_draw hp (by decide) (by decide) fun w0 H1 w0a w0b hp1 b1 => ?_
  walk_at "go"
  refine go_draw hp1 (by decide) (by decide) fun sg H2 sa sb hp2 b2 => ?_
  walk_at "go"
  have hs := sgn rfl sa sb
  have hm : ∀ x, IntMulOk (1 - 2 * sg) x := fun x => ml (by omega) (by omega)
  refine i_two (fun h1 => ?_) (fun h1 => ?_)
  · walk_at "go"
    refine go_draw hp2 (by decide) (by decide) fun x H3 xa xb hp3 b3 => ?_
    refine r_i (hm _) ?_
    have z := sgn_mul hs xa (by omega)
    exact k _ _ z.1 z.2 hp3 (by walk_at "bt")
  · walk_at "go"
    refine i_two (fun h2 => ?_) (fun h2 => ?_)
    · walk_at "go"
      intro l hl
      walk_at "go"
      refine go_draw (hp2.new hl) (by decide) (by decide) fun x H3 xa xb hp3 b3 => ?_
      obtain ⟨z, hz, hm2⟩ := pickI [0, 1, 60, 100, 999, 1000000000, 1000000000000000000, 1000000000000000000000000000000] xa xb
      have hb : 0 ≤ z ∧ z < 10 ^ 60 := (by decide : ∀ z ∈ ([0, 1, 60, 100, 999, 1000000000, 1000000000000000000, 1000000000000000000000000000000] : List Int), 0 ≤ z ∧ z < 10 ^ 60) z hm2
      have hlp : l ≠ p := hp2.ne hl
      refine r_ixL (SqL.of (b3.at hlp upd_same)) hz ?_
      refine r_i (hm _) ?_
      have y := sgn_mul hs hb.1 hb.2
      exact k _ _ y.1 y.2 hp3 (by walk_at "bt")
    · walk_at "go"
      refine i_two (fun h3 => ?_) (fun h3 => ?_)
      · walk_at "go"
        refine go_draw hp2 (by decide) (by decide) fun x H3 xa xb hp3 b3 => ?_
        refine r_i (hm _) ?_
        have z := sgn_mul hs xa (by omega)
        exact k _ _ z.1 z.2 hp3 (by walk_at "bt")
      · walk_at "go"
        refine go_draw hp2 (by decide) (by decide) fun x H3 xa xb hp3 b3 => ?_
        walk_at "go"
        refine go_great hp3 (by omega) (by omega) fun y H4 ya yb hp4 b4 => ?_
        refine r_i (hm _) ?_
        have z := sgn_mul hs ya yb
        exact k _ _ z.1 z.2 hp4 (by walk_at "bt")
def spPurse (K : PySem.W.Frag) : Sp := fun vs H Q _ => ∃ (a : Addr) (ns : List Int) (i : Int), vs = [.ref a, .int i] ∧ SqL K H a (ns.map V.int) ∧ ns.length ≤ 63 ∧ 0 ≤ i ∧ ∀ p H', H p = none → Purse H' p → Same H H' → Q (.ref p) H'
theorem go_purse {a : Addr} {ns : List Int} {i : Int} {H : Hp} {Q : VK} {E : XK} (h : SqL K H a (ns.map V.int)) (hl : ns.length ≤ 63) (h0 : 0 ≤ i) (k : ∀ p H', H p = none → Purse H' p → Same H H' → Q (.ref p) H') : spPurse K [.ref a, .int i] H Q E := ⟨a, ns, i, rfl, h, hl, h0, k⟩
theorem ok_law_purse (T : Tx K mg) : Gf P w K mg base CX0 1 (He.ga K "_law_purse") ["_law_script", "_law_place"] [] (spPurse K) := by
  obtain ⟨fd, F⟩ := T.d_law_purse
  refine gf0 F (fnG F sc_law_purse (fun vs H Q E h => ?_) (fun cdv A outer s H vs Q E hr h => ?_)) (fun _ _ _ _ _ _ us hl => match us, hl with | [_, _], _ => rfl)
  · obtain ⟨a, ns, i, rfl, _⟩ := h
    rfl
  obtain ⟨a, ns, i, rfl, hS, hl, h0, k⟩ := h
  refine ⟨_, PSs.nox (pss_cons (ps_set (i := 2) sc_law_purse.nd rfl (Or.inl rfl) (pe_op op_add (pe_op op_mulA pe_int (pe_callB (call_lenK (K := K) rfl) (by rfl) T.f_len (by decide +kernel) (pa_cons (pv 0) pa_nil))) (pe_op op_mulA pe_int (pv 1)))) (pss_cons (ps_for PassesOwn.never rfl (pi_listK (K := K) rfl (pe_slice (sl_listK (K := K) rfl) (pv 0) po_none (po_some pe_int))) (pg_name (i := 3) sc_law_purse.nd rfl (Or.inl rfl)) (pss_one (ps_set (i := 2) sc_law_purse.nd rfl (Or.inl rfl) (pe_op op_mod (pe_callTy call_int1 (by rfl) T.f_int (by decide +kernel) (pa_cons (pe_op op_add (pe_op op_mulA (pv 2) pe_int) (pv 3)) pa_nil)) pe_int)))) (pss_cons (ps_if (pt_cmpR op_lt (pv 1) (pe_callB (call_lenK (K := K) rfl) (by rfl) T.f_len (by decide +kernel) (pa_cons (pv 0) pa_nil)) (nomark _)) (pss_one (ps_set (i := 2) sc_law_purse.nd rfl (Or.inl rfl) (pe_ix (ix_listK (K := K) rfl) (pv 0) (pv 1) (fun _ _ => rfl)))) pss_nil) (pss_cons (ps_set (i := 4) sc_law_purse.nd rfl (Or.inl rfl) (pe_op op_pow (pe_callTy call_int1 (by rfl) T.f_int (by decide +kernel) (pa_cons (pe_op op_add (pe_op op_mod (pe_callTy call_int1 (by rfl) T.f_int (by decide +kernel) (pa_cons (pv 2) pa_nil)) pe_int) pe_int) pa_nil)) pe_int)) (pss_one (ps_ret (pe_lst (pa_cons (pe_op op_mod (pe_callTy call_int1 (by rfl) T.f_int (by decide +kernel) (pa_cons (pv 4) pa_nil)) pe_int) (pa_cons (pe_ifExp (PW.pt (pw_or (pt_cmpR op_lt (pv 2) pe_int (nomark _)) (pw_or1 (pt_cmpR op_ge (pv 2) (pe_op op_pow pe_int pe_int) (nomark _))))) (pe_callB call_abs (by rfl) T.f_abs (by decide +kernel) (pa_cons (pv 2) pa_nil)) pe_int) (pa_cons pe_int pa_nil)))))))))), ?_⟩
  walk_at "in"
  walk_at "go"
  intro r hr0
  walk_at "go"
  obtain ⟨ms, e, hms⟩ := cut_map ns none (some 3)
  have hR : (upd H r (.lst (cutV (ns.map V.int) none (some 3)))) r = some (.lst (ms.map V.int)) := by rw [e]; exact upd_same
  refine ⟨⟨_, SqL.of hR⟩, lp_list (xs := ms.map V.int) (fun i2 σ H' => ∃ (c : Int) (v : Option V), σ = [some (.ref a), some (.int i), some (.int c), v, none] ∧ Same H H' ∧ H' r = some (.lst (ms.map V.int))) ⟨_, none, rfl, My.Same.new (Same.refl H) hr0, hR⟩ (fun i2 σ H' _ ⟨_, _, _, _, z⟩ => SqL.of z) ?_ ?_⟩
  · rintro i2 y σ H1 hi ⟨c, v, rfl, s1, hR1⟩
    obtain ⟨z, rfl, _⟩ := get_map hi
    walk_at "go"
    exact ⟨_, _, rfl, s1, hR1⟩
  · rintro σ H1 ⟨c, v, rfl, s1, hR1⟩
    have hS1 := s1.seq hS
    walk_at "go"
    have fin : ∀ (d b : Int), 0 ≤ d → d < 2147483629 → 0 ≤ b → ∀ p, H1 p = none → Q (.ref p) (upd H1 p (.lst [.int d, .int b, .int 0])) := fun d b d0 d1 b0 p hp => k p _ (s1.free hp) ⟨d, b, 0, upd_same, d0, d1, b0⟩ (My.Same.new s1 hp)
    refine i_two (fun h1 => ?_) (fun h1 => ?_)
    · rw [List.length_map] at h1
      walk_at "go"
      refine r_ixL hS1 (atI_map h0 h1) ?_
      walk_at "go"
      refine i_two (fun h2 => ?_) (fun h2 => ?_)
      · walk_at "go"
        refine fin _ _ (Int.emod_nonneg _ (by decide)) (Int.emod_lt_of_pos _ (by decide)) ?_
        split <;> omega
      · walk_at "go"
        refine i_two (fun h3 => ?_) (fun h3 => ?_)
        · walk_at "go"
          refine fin _ _ (Int.emod_nonneg _ (by decide)) (Int.emod_lt_of_pos _ (by decide)) ?_
          split <;> omega
        · walk_at "go"
          exact fin _ _ (Int.emod_nonneg _ (by decide)) (Int.emod_lt_of_pos _ (by decide)) (by omega)
    · walk_at "go"
      refine i_two (fun h2 => ?_) (fun h2 => ?_)
      · walk_at "go"
        refine fin _ _ (Int.emod_nonneg _ (by decide)) (Int.emod_lt_of_pos _ (by decide)) ?_
        split <;> omega
      · walk_at "go"
        refine i_two (fun h3 => ?_) (fun h3 => ?_)
        · walk_at "go"
          refine fin _ _ (Int.emod_nonneg _ (by decide)) (Int.emod_lt_of_pos _ (by decide)) ?_
          split <;> omega
        · walk_at "go"
          exact fin _ _ (Int.emod_nonneg _ (by decide)) (Int.emod_lt_of_pos _ (by decide)) (by omega)
end

end Toy

set_option Elab.async false
set_option linter.all false
set_option maxRecDepth 100000
set_option maxHeartbeats 4000000
namespace Toy
open PySem PySem.Spec PyProof.Rows L2 My SX
local macro_rules | `(tactic| walk_at "ne") => `(tactic| first
  | with_reducible assumption
  | exact Ne.symm (by with_reducible assumption)
  | (refine' ne_of_none ?hx ?hy; (case hy => with_reducible assumption); (case hx => walk_at "hf"))
  | (refine' Ne.symm (ne_of_none ?hx ?hy); (case hy => with_reducible assumption); (case hx => walk_at "hf")))
local macro_rules | `(tactic| walk_at "hf") => `(tactic| first
  | with_reducible assumption
  | with_reducible exact upd_same
  | ((with_reducible refine' Same.at ?hs ?hr); (case hs => with_reducible assumption); (case hr => walk_at "hf"))
  | ((with_reducible refine' at_or ?hr ?hn); (case hr => walk_at "hf"); (case hn => first | exact Or.inl (by with_reducible assumption) | exact Or.inr (by walk_at "ne")))
  | ((with_reducible refine' But.at ?hb ?hn ?hr); (case hb => with_reducible assumption); (case hr => walk_at "hf"); (case hn => walk_at "ne")))
local macro_rules | `(tactic| walk_at "sq") => `(tactic| first
  | with_reducible assumption
  | exact SqL.of (by walk_at "hf"))
local macro_rules | `(tactic| walk_at "sqo") => `(tactic| first
  | exact Or.inl (by with_reducible assumption)
  | exact Or.inr (by with_reducible assumption)
  | exact Or.inl (SqL.of (by walk_at "hf"))
  | exact Or.inr (SqT.of (by walk_at "hf")))
local macro_rules | `(tactic| walk_at "sqt") => `(tactic| first
  | with_reducible assumption
  | exact SqT.of (by walk_at "hf"))
local macro_rules | `(tactic| walk_at "lg") => `(tactic| first
  | with_reducible assumption
  | exact Bd.lg (by with_reducible assumption) (by decide) (by decide)
  | exact Bd.lg (Bd.of (b := 100) (by omega) (by omega)) (by decide) (by decide))
local macro_rules | `(tactic| walk_at "len") => `(tactic| first
  | with_reducible assumption
  | ((simp only [txt_int, lcat, S_len, List.length_append, List.length_cons, List.length_nil]); omega)
  | (apply of_decide_eq_true; rfl))
local macro_rules | `(tactic| walk_at "side") => `(tactic| first
  | with_reducible assumption
  | omega
  | exact ml (by omega) (by omega)
  | exact mr (by omega) (by omega)
  | exact dv (by omega) (by omega)
  | exact Bd.mulOk (by with_reducible assumption) (by with_reducible assumption) (by decide) (by decide) (by decide)
  | exact Bd.div (by with_reducible assumption) (by omega) (by decide) (by decide)
  | (show (0 : Int) < _; omega)
  | decide
  | exact ni_non
  | exact rfl
  | ((simp only [List.length_cons, List.length_nil, List.length_map]); omega))
local macro_rules | `(tactic| walk_at "st") => `(tactic| first
  | ((with_reducible refine' r_var ?hh ?_); (case hh => rfl))
  | with_reducible refine r_c ?_
  | with_reducible refine r_op ?_
  | with_reducible refine r_i0 ?_
  | with_reducible refine r_cons ?_
  | with_reducible refine r_nil ?_
  | with_reducible refine r_seq ?_
  | with_reducible refine r_asg ?_
  | with_reducible refine r_gname ?_
  | with_reducible refine r_ret ?_
  | with_reducible refine r_ifS ?_
  | with_reducible refine r_test ?_
  | with_reducible refine r_tB ?_
  | with_reducible refine b_bl ?_
  | with_reducible refine i_t ?_
  | with_reducible refine i_f ?_
  | with_reducible refine i_nt ?_
  | with_reducible refine i_nf ?_
  | ((with_reducible refine' i_pos ?hh ?_); (case hh => walk_at "side"))
  | ((with_reducible refine' i_neg ?hh ?_); (case hh => walk_at "side"))
  | ((with_reducible refine' n_pos ?hh ?_); (case hh => walk_at "side"))
  | ((with_reducible refine' n_neg ?hh ?_); (case hh => walk_at "side"))
  | ((with_reducible refine' r_pow ?hh ?he ?_); (case hh => first | exact ⟨by decide, by decide, by decide⟩ | exact ⟨by decide, by decide, by omega⟩); (case he => first | ((simp only [Int.reduceToNat, Int.reducePow]); done) | ((simp only [Int.reduceToNat, Int.reducePow]); rfl) | rfl))
  | ((with_reducible refine' r_i ?hh ?_); (case hh => walk_at "side"))
  | with_reducible refine r_call0 ?_
  | with_reducible refine r_call ?_
  | with_reducible refine r_cb ?_
  | with_reducible refine r_int ?_
  | ((with_reducible refine' r_strI ?hh ?_); (case hh => walk_at "lg"))
  | with_reducible refine r_i1 ?_
  | with_reducible refine r_i2 ?_
  | with_reducible refine r_par ?_
  | with_reducible refine r_two ?_
  | with_reducible refine r_and ?_
  | with_reducible refine r_or ?_
  | with_reducible refine r_not ?_
  | with_reducible refine r_tif ?_
  | with_reducible refine r_andV ?_
  | with_reducible refine r_orV ?_
  | with_reducible refine r_notV ?_
  | with_reducible refine r_un ?_
  | with_reducible refine r_u ?_
  | with_reducible refine r_sb ?_
  | with_reducible refine r_drop ?_
  | with_reducible refine r_next ?_
  | with_reducible refine r_gsub ?_
  | ((with_reducible refine' r_ixL ?hh ?he ?_); (case hh => walk_at "sq"); (case he => rfl))
  | ((with_reducible refine' r_ixT ?hh ?he ?_); (case hh => walk_at "sqt"); (case he => rfl))
  | ((with_reducible refine' r_setL ?hh ?he ?_); (case hh => walk_at "hf"); (case he => rfl))
  | with_reducible refine r_gcons ?_
  | with_reducible refine r_gnil ?_
  | with_reducible refine r_sl ?_
  | with_reducible refine r_nopart ?_
  | with_reducible refine r_part ?_
  | with_reducible refine r_pint ?_
  | ((with_reducible refine' r_lenS ?hh ?_); (case hh => walk_at "sqo"))
  | ((with_reducible refine' r_gtup ?hh ?he ?_); (case hh => walk_at "sqt"); (case he => rfl))
  | ((with_reducible refine' r_slL ?hh ?_); (case hh => walk_at "sq"))
  | ((with_reducible refine' r_len ?hh ?_); (case hh => exact sz (by (try simp only [List.length_map]); (first | omega | decide | exact Nat.le_of_ble_eq_true rfl))))
  | with_reducible refine r_isi_ii ?_
  | with_reducible refine r_isi_ib ?_
  | with_reducible refine r_isi_ss ?_
  | ((with_reducible refine' r_isi_own ?hh ?hi ?hk ?_); (case hh => walk_at "hf"); (case hi => with_reducible assumption); (case hk => with_reducible assumption))
  | with_reducible refine r_lst ?_
  | with_reducible refine r_tup ?_
  | with_reducible refine r_make ?_
  | with_reducible refine r_forR1 ?_
  | with_reducible refine r_forL ?_
  | with_reducible refine r_forT ?_
  | with_reducible refine r_forR2 ?_
  | with_reducible refine r_ref1 ?_
  | with_reducible refine r_brk ?_
  | with_reducible refine r_cont ?_
  | with_reducible refine r_retN ?_
  | with_reducible refine r_rr ?_
  | with_reducible refine r_fmt ?_
  | ((with_reducible refine' r_fmti ?hh ?_); (case hh => walk_at "lg"))
  | with_reducible refine r_js ?_
  | with_reducible refine r_js0 ?_
  | ((with_reducible refine' r_jsp ?hh ?_); (case hh => walk_at "len"))
  | with_reducible refine r_m0 ?_
  | with_reducible refine r_m1 ?_
  | with_reducible refine r_str ?_
  | with_reducible refine r_ss ?_
  | with_reducible refine r_s0 ?_
  | ((with_reducible refine' r_addS ?hh ?_); (case hh => walk_at "len"))
  | ((with_reducible refine' r_slS ?hh ?_); (case hh => walk_at "len"))
  | ((with_reducible refine' r_lenT ?hh ?_); (case hh => walk_at "len"))
  | ((with_reducible refine' r_inT ?hh ?hf ?he ?_); (case hh => walk_at "sqt"); (case hf => rfl); (case he => rfl))
  | ((with_reducible refine' r_inF ?hh ?hf ?he ?_); (case hh => walk_at "sqt"); (case hf => rfl); (case he => rfl))
  | ((with_reducible refine' r_makeL ?hh ?_); (case hh => rfl))
  | with_reducible refine r_tprop ?_
  | with_reducible refine r_tfld ?_
  | ((with_reducible refine' f_prop ?hh ?_); (case hh => walk_at "hf"))
  | ((with_reducible refine' f_fld ?hh ?hc ?hn ?hl ?_); (case hh => walk_at "hf"); (case hc => with_reducible assumption); (case hn => with_reducible assumption); (case hl => rfl))
  | with_reducible refine r_tcm ?_
  | with_reducible refine r_chain ?_
  | with_reducible refine r_bl1 ?_
  | with_reducible refine r_intb ?_
  | with_reducible refine r_yes ?_
  | with_reducible refine r_makeK ?_
  | with_reducible refine r_sfld ?_
  | ((with_reducible refine' f_sfld ?hh ?hc ?hn ?hl ?_); (case hh => walk_at "hf"); (case hc => with_reducible assumption); (case hn => with_reducible assumption); (case hl => exact Nat.le_of_ble_eq_true rfl))
  | with_reducible refine r_lcL ?_
  | with_reducible refine r_lcT ?_
  | with_reducible refine r_lcR1 ?_
  | with_reducible refine r_lcR2 ?_)
local macro_rules | `(tactic| walk_at "go") => `(tactic| (repeat walk_at "st"))
local macro_rules | `(tactic| walk_at "in") => `(tactic| dsimp only [cxOf, L2.start, List.map, List.length, List.replicate, Nat.reduceSub, Nat.reduceAdd, List.cons_append, List.nil_append, List.append_nil])
local macro_rules | `(tactic| walk_at "bt") => `(tactic| first
  | with_reducible assumption
  | exact But.rfl
  | exact Same.but (by with_reducible assumption)
  | (refine' But.put ?ha; (case ha => walk_at "bt"))
  | (refine' But.new ?ha ?hn; (case hn => with_reducible assumption); (case ha => walk_at "bt"))
  | (refine' But.trans ?ha ?hb; (case hb => with_reducible assumption); (case ha => walk_at "bt"))
  | (refine' But.trans ?ha (Same.but ?hb); (case hb => with_reducible assumption); (case ha => walk_at "bt")))
local macro_rules | `(tactic| walk_at "sm") => `(tactic| first
  | with_reducible assumption
  | exact Same.refl _
  | (refine' Same.new ?ha ?hn; (case hn => with_reducible assumption); (case ha => walk_at "sm"))
  | (refine' Same.trans ?ha ?hb; (case hb => with_reducible assumption); (case ha => walk_at "sm")))

/-! ### Ratio: its making and repr -/
def ratF (n d : Int) : List (Str × V) := [("top", .int n), ("bottom", .int d)]
def Rt (K : PySem.W.Frag) (H : Hp) (a : Addr) (n d : Int) : Prop := ∃ dx, H a = some (.ins (He.ga K "Ratio") dx (ratF n d))
section
variable {P : Program} {w : World} {K : PySem.W.Frag} {mg : Str → Option Value} {base : Heap}
theorem Rt.same {H H' : Hp} {a : Addr} {n d : Int} (h : Rt K H a n d) (s : Same H H') : Rt K H' a n d := let ⟨dx, e⟩ := h; ⟨dx, s _ _ e⟩
theorem Rt.new {H : Hp} {a l : Addr} {n d : Int} {o : HO} (h : Rt K H a n d) (k : H l = none) : Rt K (upd H l o) a n d := h.same (My.Same.new (Same.refl H) k)
/-- a ratio with what is known of its numbers -/
def RatV (K : PySem.W.Frag) (H : Hp) (a : Addr) (n d : Int) : Prop := Rt K H a n d ∧ 0 < d ∧ Bd 1500 n ∧ Bd 1500 d
/-- what follows of a new ratio with the value N / D -/
def NewR (K : PySem.W.Frag) (H : Hp) (Q : VK) (N D : Int) : Prop := ∀ x H', H x = none → Rt K H' x (N / Int.gcd N D) (D / Int.gcd N D) → Same H H' → Q (.ref x) H'
theorem RatV.same {H H' : Hp} {a : Addr} {n d : Int} (h : RatV K H a n d) (s : Same H H') : RatV K H' a n d := ⟨h.1.same s, h.2⟩
def spIsInt (K : PySem.W.Frag) : Sp := fun vs H Q _ => (∃ i, vs = [.int i] ∧ Q (.bl true) H) ∨ (∃ a n d, vs = [.ref a] ∧ Rt K H a n d ∧ Q (.bl false) H) ∨ ∃ x U, vs = [x] ∧ Kd H x U ∧ Q (.bl false) H
theorem kit_int {K : PySem.W.Frag} {U : String} (h : U ∈ kinds) (n : U ≠ "bool") : PySem.W.kitOne K (.type U) (.type "int") = some false := by
  have h2 : U = "bool" ∨ U = "NoneType" ∨ U = "str" ∨ U = "list" ∨ U = "tuple" ∨ U = "dict" := by simpa [kinds] using h
  rcases h2 with rfl | rfl | rfl | rfl | rfl | rfl
  · exact (n rfl).elim
  all_goals exact kit_ty (by decide +kernel)
theorem ok_is_integer (T : Tx K mg) : Gf P w K mg base CX0 1 (He.ga K "is_integer") ["value"] [] (spIsInt K) := by
  obtain ⟨fd, F⟩ := T.d_is_integer
  refine gf0 F (fnG F sc_is_integer (fun vs H Q E h => ?_) (fun cdv A outer s H vs Q E hr h => ?_)) (fun _ _ _ _ _ _ us hl => match us, hl with | [_], _ => rfl)
  · obtain ⟨i, rfl, _⟩ | ⟨a, n, d, rfl, _⟩ | ⟨x, U, rfl, _⟩ := h <;> rfl
  obtain ⟨i, rfl, k⟩ | ⟨a, n, d, rfl, ⟨dx, ea⟩, k⟩ | ⟨x, U, rfl, kd, k⟩ := h
  all_goals refine ⟨_, PSs.nox (pss_one (ps_ret (pe_and (pe_callB (call_isiK (K := K) rfl) (by rfl) T.f_isinstance (by decide +kernel) (pa_cons (pv 0) (pa_cons (pe_bltn (v := .ty "int") (by rfl) T.f_int (by decide +kernel) rfl) pa_nil))) (pe_one (pe_not (pe_callB (call_isiK (K := K) rfl) (by rfl) T.f_isinstance (by decide +kernel) (pa_cons (pv 0) (pa_cons (pe_bltn (v := .ty "bool") (by rfl) T.f_bool (by decide +kernel) rfl) pa_nil)))))))), ?_⟩
  · walk_at "in"
    walk_at "go"
    exact k
  · walk_at "in"
    walk_at "go"
    refine r_isi_ty ea T.in_Ratio T.i_RI ?_
    walk_at "go"
    exact k
  · walk_at "in"
    walk_at "go"
    by_cases hb : U = "bool"
    · cases kd with
      | bl b =>
        refine ⟨_, _, _, _, true, rfl, .ty _, .base (.bl b), kit_ty (by decide +kernel), ?_⟩
        walk_at "go"
        refine ⟨_, _, _, _, true, rfl, .ty _, .base (.bl b), kit_ty (by decide +kernel), ?_⟩
        walk_at "go"
        exact k
      | _ => exact absurd hb (by decide)
    · refine ⟨_, _, _, _, false, rfl, .ty _, kd.ty, kit_int kd.mem hb, ?_⟩
      walk_at "go"
      exact k
def spGcd : Sp := fun vs H Q _ => ∃ a b : Int, vs = [.int a, .int b] ∧ Q (.int (Int.gcd a b)) H
theorem ok_common_divisor (T : Tx K mg) : Gf P w K mg base CX0 1 (He.ga K "common_divisor") ["first", "second"] [] spGcd := by
  obtain ⟨fd, F⟩ := T.d_common_divisor
  refine gf0 F (fnG F sc_common_divisor (fun vs H Q E h => ?_) (fun cdv A outer s H vs Q E hr h => ?_)) (fun _ _ _ _ _ _ us hl => match us, hl with | [_, _], _ => rfl)
  · obtain ⟨a, b, rfl, _⟩ := h
    rfl
  obtain ⟨a, b, rfl, k⟩ := h
  refine ⟨_, PSs.nox (pss_cons (ps_par (i := 2) (j := 3) (by rfl) sc_common_divisor.nd rfl rfl (by decide) rfl rfl (pa_cons (pe_callB call_abs (by rfl) T.f_abs (by decide +kernel) (pa_cons (pv 0) pa_nil)) (pa_cons (pe_callB call_abs (by rfl) T.f_abs (by decide +kernel) (pa_cons (pv 1) pa_nil)) pa_nil)) (by rfl)) (pss_cons (ps_while PassesOwn.never (pt_cmpR op_gt (pv 3) pe_int (nomark _)) (pss_one (ps_par (i := 2) (j := 3) (by rfl) sc_common_divisor.nd rfl rfl (by decide) rfl rfl (pa_cons (pv 3) (pa_cons (pe_op op_mod (pv 2) (pv 3)) pa_nil)) (by rfl)))) (pss_one (ps_ret (pv 2))))), ?_⟩
  walk_at "in"
  walk_at "go"
  refine lp_while (fun σ H' => ∃ g s : Nat, σ = [some (.int a), some (.int b), some (.int g), some (.int s)] ∧ H' = H ∧ Nat.gcd g s = Int.gcd a b) (fun σ _ => match σ with | [_, _, _, some (.int s)] => s.toNat | _ => 0) ⟨a.natAbs, b.natAbs, ?_, rfl, rfl⟩ ?_
  · rw [abs_nat, abs_nat] <;> rfl
  · rintro σ H1 ⟨g, s, rfl, rfl, hg⟩
    walk_at "go"
    refine i_two (fun h => ?_) (fun h => ?_)
    · refine w_turn ?_
      walk_at "go"
      refine ⟨⟨s, g % s, rfl, rfl, ?_⟩, ?_⟩
      · rw [← hg, Nat.gcd_comm g s, Nat.gcd_rec s g, Nat.gcd_comm]
      · show (((g : Int) % (s : Int))).toNat < ((s : Int)).toNat
        have := Nat.mod_lt g (show s > 0 by omega)
        omega
    · walk_at "go"
      have hs : s = 0 := by omega
      subst hs
      rw [← hg, Nat.gcd_zero_right] at k
      exact k
def spInit (K : PySem.W.Frag) : Sp := fun vs H Q _ => ∃ (x dx : Addr) (n d : Int), vs = [.ref x, .int n, .int d] ∧ H x = some (.ins (He.ga K "Ratio") dx []) ∧ 0 < d ∧ Bd 8000 d ∧ ∀ H', Rt K H' x (n / Int.gcd n d) (d / Int.gcd n d) → But x H H' → Q .non H'
theorem gcd_pos (n : Int) {d : Int} (h : 0 < d) : 0 < ((Int.gcd n d : Nat) : Int) := by
  have := Int.gcd_pos_of_ne_zero_right n (show d ≠ 0 by omega)
  omega
theorem gcd_bd (n : Int) {d : Int} {b : Nat} (h : 0 < d) (k : Bd b d) : Bd b ((Int.gcd n d : Nat) : Int) := k.le (by
  have := Int.gcd_le_natAbs_right n (show d ≠ 0 by omega)
  omega)
theorem fn_Ratio_init (T : Tx K mg) : ∃ fd, FunD K "__init__" "Ratio.__init__" (defArgs s_Ratio__init) (defBody s_Ratio__init) (defScope s_Ratio__init) (d_Ratio__init.dvs K) (d_Ratio__init.kws K) (d_Ratio__init.adr K) fd ∧ FnG P w K mg base CX0 2 (He.ma K (He.ga K "Ratio") "__init__") fd ["self", "top", "bottom"] (spInit K) := by
  obtain ⟨fd, F⟩ := T.d_Ratio__init
  have hc := T.cl_Ratio
  have n1 := T.n_Ratio_top
  have n2 := T.n_Ratio_bottom
  refine ⟨fd, F, fnG F sc_Ratio__init (fun vs H Q E h => ?_) (fun cdv A outer s H vs Q E hr h => ?_)⟩
  · obtain ⟨x, dx, n, d, rfl, _⟩ := h
    rfl
  obtain ⟨x, dx, n, d, rfl, hx, d0, db, k⟩ := h
  refine ⟨_, PSs.nox (pss_cons (ps_if (pt_not (pt_val (pe_g (ok_is_integer T) T.g_is_integer hr (by decide) pass0 (pa_cons (pv 1) pa_nil)))) (pss_one ps_never) pss_nil) (pss_cons (ps_if (PW.pt (pw_or (pt_not (pt_val (pe_g (ok_is_integer T) T.g_is_integer hr (by decide) pass0 (pa_cons (pv 2) pa_nil)))) (pw_or1 (pt_cmpR op_lt (pv 2) pe_int (nomark _))))) (pss_one ps_never) pss_nil) (pss_cons (ps_set (i := 3) sc_Ratio__init.nd rfl (Or.inl rfl) (pe_g (ok_common_divisor T) T.g_common_divisor hr (by decide) pass0 (pa_cons (pv 1) (pa_cons (pv 2) pa_nil)))) (pss_cons (ps_fld (pv 0) (pe_op op_fdivW (pv 1) (pv 3)) rfl) (pss_one (ps_fld (pv 0) (pe_op op_fdivW (pv 2) (pv 3)) rfl)))))), ?_⟩
  walk_at "in"
  walk_at "go"
  refine .inl ⟨_, rfl, ?_⟩
  walk_at "go"
  refine .inl ⟨_, rfl, ?_⟩
  walk_at "go"
  refine ⟨_, _, rfl, ?_⟩
  have g0 := gcd_pos n d0
  have gb := gcd_bd n d0 db
  walk_at "go"
  exact k _ ⟨dx, upd_same⟩ (by walk_at "bt")
theorem ok_Ratio_2 (T : Tx K mg) : Gf P w K mg base CX0 2 (He.ma K (He.ga K "Ratio") "__init__") ["self", "top", "bottom"] [] (spInit K) := by
  obtain ⟨fd, F, G⟩ := fn_Ratio_init (P := P) (w := w) (base := base) T
  obtain ⟨ds, r, b⟩ := F.binds1 (ps := ["self", "top", "bottom"]) 3 1 (List.cons_ne_nil _ _) rfl (fun _ _ _ _ _ _ _ us its l1 l2 => match us, its, l1, l2 with | [_, _, _], [_], _, _ => ⟨_, rfl, rfl⟩)
  exact ⟨⟨fd, ds, G, b, r⟩, F.kp⟩
theorem go_mk {n d : Int} {H : Hp} {R : Addr → Hp → Prop} {E : XK} {vs : List V} (e : vs = [.int n, .int d]) (h0 : 0 < d) (h1 : Bd 8000 d) (k : ∀ x H', H x = none → Rt K H' x (n / Int.gcd n d) (d / Int.gcd n d) → Same H H' → R x H') :
    ∀ x dx, H x = none → H dx = none → dx ≠ x → spInit K (.ref x :: vs) (upd (upd H dx (.own x)) x (.ins (He.ga K "Ratio") dx [])) (fun v H2 => v = .non ∧ R x H2) E := by
  intro x dx hx hd hne
  subst e
  exact ⟨x, dx, n, d, rfl, upd_same, h0, h1, fun H' r b => ⟨rfl, k x H' hx r (same_made hx hd b)⟩⟩
theorem low_facts {a u f n d : Int} (hn : n = a * f) (hd : d = u * f) (u0 : 0 < u) (f0 : 0 < f) : 0 < d / Int.gcd n d ∧ (n / Int.gcd n d) * u = a * (d / Int.gcd n d) ∧ Int.gcd (n / Int.gcd n d) (d / Int.gcd n d) = 1 := by
  have d0 : 0 < d := hd ▸ Int.mul_pos u0 f0
  have g0 := gcd_pos n d0
  have en : (Int.gcd n d : Int) * (n / Int.gcd n d) = n := Int.mul_ediv_cancel' (Int.gcd_dvd_left ..)
  have ed : (Int.gcd n d : Int) * (d / Int.gcd n d) = d := Int.mul_ediv_cancel' (Int.gcd_dvd_right ..)
  refine ⟨?_, ?_, ?_⟩
  · rcases Int.lt_trichotomy (d / Int.gcd n d) 0 with z | z | z
    · have := Int.mul_neg_of_pos_of_neg g0 z
      omega
    · rw [z] at ed
      omega
    · exact z
  · generalize n / Int.gcd n d = x at en ⊢
    generalize d / Int.gcd n d = y at ed ⊢
    generalize (Int.gcd n d : Int) = g at *
    refine Int.eq_of_mul_eq_mul_right (show g * f ≠ 0 from Int.ne_of_gt (Int.mul_pos g0 f0)) ?_
    calc x * u * (g * f) = (g * x) * (u * f) := by ac_rfl
      _ = (a * f) * (g * y) := by rw [en, ed, hn, hd]
      _ = a * y * (g * f) := by ac_rfl
  · exact Int.gcd_ediv_gcd_ediv_gcd (by omega)
def spRight : Sp := fun vs H Q _ => ∃ p, vs = [.ref p] ∧ Purse H p ∧ ∀ H', But p H H' → Q (.bl true) H'
end

end Toy

set_option Elab.async false
set_option linter.all false
set_option maxRecDepth 100000
set_option maxHeartbeats 4000000
namespace Toy
open PySem PySem.Spec PyProof.Rows L2 My SX
local macro_rules | `(tactic| walk_at "ne") => `(tactic| first
  | with_reducible assumption
  | exact Ne.symm (by with_reducible assumption)
  | (refine' ne_of_none ?hx ?hy; (case hy => with_reducible assumption); (case hx => walk_at "hf"))
  | (refine' Ne.symm (ne_of_none ?hx ?hy); (case hy => with_reducible assumption); (case hx => walk_at "hf")))
local macro_rules | `(tactic| walk_at "hf") => `(tactic| first
  | with_reducible assumption
  | with_reducible exact upd_same
  | ((with_reducible refine' Same.at ?hs ?hr); (case hs => with_reducible assumption); (case hr => walk_at "hf"))
  | ((with_reducible refine' at_or ?hr ?hn); (case hr => walk_at "hf"); (case hn => first | exact Or.inl (by with_reducible assumption) | exact Or.inr (by walk_at "ne")))
  | ((with_reducible refine' But.at ?hb ?hn ?hr); (case hb => with_reducible assumption); (case hr => walk_at "hf"); (case hn => walk_at "ne")))
local macro_rules | `(tactic| walk_at "sq") => `(tactic| first
  | with_reducible assumption
  | exact SqL.of (by walk_at "hf"))
local macro_rules | `(tactic| walk_at "sqo") => `(tactic| first
  | exact Or.inl (by with_reducible assumption)
  | exact Or.inr (by with_reducible assumption)
  | exact Or.inl (SqL.of (by walk_at "hf"))
  | exact Or.inr (SqT.of (by walk_at "hf")))
local macro_rules | `(tactic| walk_at "sqt") => `(tactic| first
  | with_reducible assumption
  | exact SqT.of (by walk_at "hf"))
local macro_rules | `(tactic| walk_at "lg") => `(tactic| first
  | with_reducible assumption
  | exact Bd.lg (by with_reducible assumption) (by decide) (by decide)
  | exact Bd.lg (Bd.of (b := 100) (by omega) (by omega)) (by decide) (by decide))
local macro_rules | `(tactic| walk_at "len") => `(tactic| first
  | with_reducible assumption
  | ((simp only [txt_int, lcat, S_len, List.length_append, List.length_cons, List.length_nil]); omega)
  | (apply of_decide_eq_true; rfl))
local macro_rules | `(tactic| walk_at "side") => `(tactic| first
  | with_reducible assumption
  | omega
  | exact ml (by omega) (by omega)
  | exact mr (by omega) (by omega)
  | exact dv (by omega) (by omega)
  | exact Bd.mulOk (by with_reducible assumption) (by with_reducible assumption) (by decide) (by decide) (by decide)
  | exact Bd.div (by with_reducible assumption) (by omega) (by decide) (by decide)
  | (show (0 : Int) < _; omega)
  | decide
  | exact ni_non
  | exact rfl
  | ((simp only [List.length_cons, List.length_nil, List.length_map]); omega))
local macro_rules | `(tactic| walk_at "st") => `(tactic| first
  | ((with_reducible refine' r_var ?hh ?_); (case hh => rfl))
  | with_reducible refine r_c ?_
  | with_reducible refine r_op ?_
  | with_reducible refine r_i0 ?_
  | with_reducible refine r_cons ?_
  | with_reducible refine r_nil ?_
  | with_reducible refine r_seq ?_
  | with_reducible refine r_asg ?_
  | with_reducible refine r_gname ?_
  | with_reducible refine r_ret ?_
  | with_reducible refine r_ifS ?_
  | with_reducible refine r_test ?_
  | with_reducible refine r_tB ?_
  | with_reducible refine b_bl ?_
  | with_reducible refine i_t ?_
  | with_reducible refine i_f ?_
  | with_reducible refine i_nt ?_
  | with_reducible refine i_nf ?_
  | ((with_reducible refine' i_pos ?hh ?_); (case hh => walk_at "side"))
  | ((with_reducible refine' i_neg ?hh ?_); (case hh => walk_at "side"))
  | ((with_reducible refine' n_pos ?hh ?_); (case hh => walk_at "side"))
  | ((with_reducible refine' n_neg ?hh ?_); (case hh => walk_at "side"))
  | ((with_reducible refine' r_pow ?hh ?he ?_); (case hh => first | exact ⟨by decide, by decide, by decide⟩ | exact ⟨by decide, by decide, by omega⟩); (case he => first | ((simp only [Int.reduceToNat, Int.reducePow]); done) | ((simp only [Int.reduceToNat, Int.reducePow]); rfl) | rfl))
  | ((with_reducible refine' r_i ?hh ?_); (case hh => walk_at "side"))
  | with_reducible refine r_call0 ?_
  | with_reducible refine r_call ?_
  | with_reducible refine r_cb ?_
  | with_reducible refine r_int ?_
  | ((with_reducible refine' r_strI ?hh ?_); (case hh => walk_at "lg"))
  | with_reducible refine r_i1 ?_
  | with_reducible refine r_i2 ?_
  | with_reducible refine r_par ?_
  | with_reducible refine r_two ?_
  | with_reducible refine r_and ?_
  | with_reducible refine r_or ?_
  | with_reducible refine r_not ?_
  | with_reducible refine r_tif ?_
  | with_reducible refine r_andV ?_
  | with_reducible refine r_orV ?_
  | with_reducible refine r_notV ?_
  | with_reducible refine r_un ?_
  | with_reducible refine r_u ?_
  | with_reducible refine r_sb ?_
  | with_reducible refine r_drop ?_
  | with_reducible refine r_next ?_
  | with_reducible refine r_gsub ?_
  | ((with_reducible refine' r_ixL ?hh ?he ?_); (case hh => walk_at "sq"); (case he => rfl))
  | ((with_reducible refine' r_ixT ?hh ?he ?_); (case hh => walk_at "sqt"); (case he => rfl))
  | ((with_reducible refine' r_setL ?hh ?he ?_); (case hh => walk_at "hf"); (case he => rfl))
  | with_reducible refine r_gcons ?_
  | with_reducible refine r_gnil ?_
  | with_reducible refine r_sl ?_
  | with_reducible refine r_nopart ?_
  | with_reducible refine r_part ?_
  | with_reducible refine r_pint ?_
  | ((with_reducible refine' r_lenS ?hh ?_); (case hh => walk_at "sqo"))
  | ((with_reducible refine' r_gtup ?hh ?he ?_); (case hh => walk_at "sqt"); (case he => rfl))
  | ((with_reducible refine' r_slL ?hh ?_); (case hh => walk_at "sq"))
  | ((with_reducible refine' r_len ?hh ?_); (case hh => exact sz (by (try simp only [List.length_map]); (first | omega | decide | exact Nat.le_of_ble_eq_true rfl))))
  | with_reducible refine r_isi_ii ?_
  | with_reducible refine r_isi_ib ?_
  | with_reducible refine r_isi_ss ?_
  | ((with_reducible refine' r_isi_own ?hh ?hi ?hk ?_); (case hh => walk_at "hf"); (case hi => with_reducible assumption); (case hk => with_reducible assumption))
  | with_reducible refine r_lst ?_
  | with_reducible refine r_tup ?_
  | with_reducible refine r_make ?_
  | with_reducible refine r_forR1 ?_
  | with_reducible refine r_forL ?_
  | with_reducible refine r_forT ?_
  | with_reducible refine r_forR2 ?_
  | with_reducible refine r_ref1 ?_
  | with_reducible refine r_brk ?_
  | with_reducible refine r_cont ?_
  | with_reducible refine r_retN ?_
  | with_reducible refine r_rr ?_
  | with_reducible refine r_fmt ?_
  | ((with_reducible refine' r_fmti ?hh ?_); (case hh => walk_at "lg"))
  | with_reducible refine r_js ?_
  | with_reducible refine r_js0 ?_
  | ((with_reducible refine' r_jsp ?hh ?_); (case hh => walk_at "len"))
  | with_reducible refine r_m0 ?_
  | with_reducible refine r_m1 ?_
  | with_reducible refine r_str ?_
  | with_reducible refine r_ss ?_
  | with_reducible refine r_s0 ?_
  | ((with_reducible refine' r_addS ?hh ?_); (case hh => walk_at "len"))
  | ((with_reducible refine' r_slS ?hh ?_); (case hh => walk_at "len"))
  | ((with_reducible refine' r_lenT ?hh ?_); (case hh => walk_at "len"))
  | ((with_reducible refine' r_inT ?hh ?hf ?he ?_); (case hh => walk_at "sqt"); (case hf => rfl); (case he => rfl))
  | ((with_reducible refine' r_inF ?hh ?hf ?he ?_); (case hh => walk_at "sqt"); (case hf => rfl); (case he => rfl))
  | ((with_reducible refine' r_makeL ?hh ?_); (case hh => rfl))
  | with_reducible refine r_tprop ?_
  | with_reducible refine r_tfld ?_
  | ((with_reducible refine' f_prop ?hh ?_); (case hh => walk_at "hf"))
  | ((with_reducible refine' f_fld ?hh ?hc ?hn ?hl ?_); (case hh => walk_at "hf"); (case hc => with_reducible assumption); (case hn => with_reducible assumption); (case hl => rfl))
  | with_reducible refine r_tcm ?_
  | with_reducible refine r_chain ?_
  | with_reducible refine r_bl1 ?_
  | with_reducible refine r_intb ?_
  | with_reducible refine r_yes ?_
  | with_reducible refine r_makeK ?_
  | with_reducible refine r_sfld ?_
  | ((with_reducible refine' f_sfld ?hh ?hc ?hn ?hl ?_); (case hh => walk_at "hf"); (case hc => with_reducible assumption); (case hn => with_reducible assumption); (case hl => exact Nat.le_of_ble_eq_true rfl))
  | with_reducible refine r_lcL ?_
  | with_reducible refine r_lcT ?_
  | with_reducible refine r_lcR1 ?_
  | with_reducible refine r_lcR2 ?_)
local macro_rules | `(tactic| walk_at "go") => `(tactic| (repeat walk_at "st"))
local macro_rules | `(tactic| walk_at "in") => `(tactic| dsimp only [cxOf, L2.start, List.map, List.length, List.replicate, Nat.reduceSub, Nat.reduceAdd, List.cons_append, List.nil_append, List.append_nil])
local macro_rules | `(tactic| walk_at "bt") => `(tactic| first
  | with_reducible assumption
  | exact But.rfl
  | exact Same.but (by with_reducible assumption)
  | (refine' But.put ?ha; (case ha => walk_at "bt"))
  | (refine' But.new ?ha ?hn; (case hn => with_reducible assumption); (case ha => walk_at "bt"))
  | (refine' But.trans ?ha ?hb; (case hb => with_reducible assumption); (case ha => walk_at "bt"))
  | (refine' But.trans ?ha (Same.but ?hb); (case hb => with_reducible assumption); (case ha => walk_at "bt")))
local macro_rules | `(tactic| walk_at "sm") => `(tactic| first
  | with_reducible assumption
  | exact Same.refl _
  | (refine' Same.new ?ha ?hn; (case hn => with_reducible assumption); (case ha => walk_at "sm"))
  | (refine' Same.trans ?ha ?hb; (case hb => with_reducible assumption); (case ha => walk_at "sm")))

section
variable {P : Program} {w : World} {K : PySem.W.Frag} {mg : Str → Option Value} {base : Heap}
def sp_lt (K : PySem.W.Frag) : Sp := fun vs H Q _ => ∃ (a : Addr) (n d : Int), RatV K H a n d ∧ ((∃ i, vs = [.ref a, .int i] ∧ Bd 1500 i ∧ Q (.bl (decide (n < i * d))) H) ∨ ∃ (b : Addr) (z m : Int), vs = [.ref a, .ref b] ∧ RatV K H b z m ∧ Q (.bl (decide (n * m < z * d))) H)
theorem ok_Ratio__lt (T : Tx K mg) : Gf P w K mg base CX0 2 (He.ma K (He.ga K "Ratio") "__lt__") ["self", "other"] [] (sp_lt K) := by
  obtain ⟨fd, F⟩ := T.d_Ratio__lt
  have hc := T.cl_Ratio
  have n1 := T.n_Ratio_top
  have n2 := T.n_Ratio_bottom
  have hi := T.in_Ratio
  have hk := T.i_RR
  refine gf0 F (fnG F sc_Ratio__lt (fun vs H Q E h => ?_) (fun cdv A outer s H vs Q E hr h => ?_)) (fun _ _ _ _ _ _ us hl => match us, hl with | [_, _], _ => rfl)
  · obtain ⟨a, n, d, _, ⟨i, rfl, _⟩ | ⟨b, z, m, rfl, _⟩⟩ := h <;> rfl
  obtain ⟨a, n, d, ra, ⟨i, rfl, ib, k⟩ | ⟨b, z, m, rfl, rb, k⟩⟩ := h
  all_goals refine ⟨_, PSs.nox (pss_cons (ps_if (pt_val (pe_g (ok_is_integer T) T.g_is_integer hr (by decide) pass0 (pa_cons (pv 1) pa_nil))) (pss_one (ps_ret (pe_cmpR op_lt (pe_fldK (K := K) rfl (pv 0) rfl) (pe_op op_mulA (pv 1) (pe_fldK (K := K) rfl (pv 0) rfl)) (nomark _)))) pss_nil) (pss_cons (ps_if (pt_not (pt_val (pe_callB (call_isiK (K := K) rfl) (by rfl) T.f_isinstance (by decide +kernel) (pa_cons (pv 1) (pa_cons (pe_glob (v := .ref (He.ga K "Ratio")) rfl T.g_Ratio rfl) pa_nil))))) (pss_one ps_never) pss_nil) (pss_one (ps_ret (pe_cmpR op_lt (pe_op op_mulA (pe_fldK (K := K) rfl (pv 0) rfl) (pe_fldK (K := K) rfl (pv 1) rfl)) (pe_op op_mulA (pe_fldK (K := K) rfl (pv 1) rfl) (pe_fldK (K := K) rfl (pv 0) rfl)) (nomark _)))))), ?_⟩
  · obtain ⟨⟨dx, ea⟩, d0, nb, db⟩ := ra
    walk_at "in"
    walk_at "go"
    refine .inl ⟨i, rfl, ?_⟩
    walk_at "go"
    exact k
  · obtain ⟨⟨dx, ea⟩, d0, nb, db⟩ := ra
    obtain ⟨⟨dy, eb⟩, m0, zb, mb⟩ := rb
    walk_at "in"
    walk_at "go"
    refine .inr (.inl ⟨b, z, m, rfl, ⟨dy, eb⟩, ?_⟩)
    walk_at "go"
    exact k
def sp_le (K : PySem.W.Frag) : Sp := fun vs H Q _ => ∃ (a : Addr) (n d : Int), RatV K H a n d ∧ ((∃ i, vs = [.ref a, .int i] ∧ Bd 1500 i ∧ Q (.bl (decide (n ≤ i * d))) H) ∨ ∃ (b : Addr) (z m : Int), vs = [.ref a, .ref b] ∧ RatV K H b z m ∧ Q (.bl (decide (n * m ≤ z * d))) H)
theorem ok_Ratio__le (T : Tx K mg) : Gf P w K mg base CX0 2 (He.ma K (He.ga K "Ratio") "__le__") ["self", "other"] [] (sp_le K) := by
  obtain ⟨fd, F⟩ := T.d_Ratio__le
  have hc := T.cl_Ratio
  have n1 := T.n_Ratio_top
  have n2 := T.n_Ratio_bottom
  have hi := T.in_Ratio
  have hk := T.i_RR
  refine gf0 F (fnG F sc_Ratio__le (fun vs H Q E h => ?_) (fun cdv A outer s H vs Q E hr h => ?_)) (fun _ _ _ _ _ _ us hl => match us, hl with | [_, _], _ => rfl)
  · obtain ⟨a, n, d, _, ⟨i, rfl, _⟩ | ⟨b, z, m, rfl, _⟩⟩ := h <;> rfl
  obtain ⟨a, n, d, ra, ⟨i, rfl, ib, k⟩ | ⟨b, z, m, rfl, rb, k⟩⟩ := h
  all_goals refine ⟨_, PSs.nox (pss_cons (ps_if (pt_val (pe_g (ok_is_integer T) T.g_is_integer hr (by decide) pass0 (pa_cons (pv 1) pa_nil))) (pss_one (ps_ret (pe_cmpR op_le (pe_fldK (K := K) rfl (pv 0) rfl) (pe_op op_mulA (pv 1) (pe_fldK (K := K) rfl (pv 0) rfl)) (nomark _)))) pss_nil) (pss_cons (ps_if (pt_not (pt_val (pe_callB (call_isiK (K := K) rfl) (by rfl) T.f_isinstance (by decide +kernel) (pa_cons (pv 1) (pa_cons (pe_glob (v := .ref (He.ga K "Ratio")) rfl T.g_Ratio rfl) pa_nil))))) (pss_one ps_never) pss_nil) (pss_one (ps_ret (pe_cmpR op_le (pe_op op_mulA (pe_fldK (K := K) rfl (pv 0) rfl) (pe_fldK (K := K) rfl (pv 1) rfl)) (pe_op op_mulA (pe_fldK (K := K) rfl (pv 1) rfl) (pe_fldK (K := K) rfl (pv 0) rfl)) (nomark _)))))), ?_⟩
  · obtain ⟨⟨dx, ea⟩, d0, nb, db⟩ := ra
    walk_at "in"
    walk_at "go"
    refine .inl ⟨i, rfl, ?_⟩
    walk_at "go"
    exact k
  · obtain ⟨⟨dx, ea⟩, d0, nb, db⟩ := ra
    obtain ⟨⟨dy, eb⟩, m0, zb, mb⟩ := rb
    walk_at "in"
    walk_at "go"
    refine .inr (.inl ⟨b, z, m, rfl, ⟨dy, eb⟩, ?_⟩)
    walk_at "go"
    exact k
def sp_gt (K : PySem.W.Frag) : Sp := fun vs H Q _ => ∃ (a : Addr) (n d : Int), RatV K H a n d ∧ ((∃ i, vs = [.ref a, .int i] ∧ Bd 1500 i ∧ Q (.bl (decide (i * d < n))) H) ∨ ∃ (b : Addr) (z m : Int), vs = [.ref a, .ref b] ∧ RatV K H b z m ∧ Q (.bl (decide (z * d < n * m))) H)
theorem ok_Ratio__gt (T : Tx K mg) : Gf P w K mg base CX0 2 (He.ma K (He.ga K "Ratio") "__gt__") ["self", "other"] [] (sp_gt K) := by
  obtain ⟨fd, F⟩ := T.d_Ratio__gt
  have hc := T.cl_Ratio
  have n1 := T.n_Ratio_top
  have n2 := T.n_Ratio_bottom
  have hi := T.in_Ratio
  have hk := T.i_RR
  refine gf0 F (fnG F sc_Ratio__gt (fun vs H Q E h => ?_) (fun cdv A outer s H vs Q E hr h => ?_)) (fun _ _ _ _ _ _ us hl => match us, hl with | [_, _], _ => rfl)
  · obtain ⟨a, n, d, _, ⟨i, rfl, _⟩ | ⟨b, z, m, rfl, _⟩⟩ := h <;> rfl
  obtain ⟨a, n, d, ra, ⟨i, rfl, ib, k⟩ | ⟨b, z, m, rfl, rb, k⟩⟩ := h
  all_goals refine ⟨_, PSs.nox (pss_cons (ps_if (pt_val (pe_g (ok_is_integer T) T.g_is_integer hr (by decide) pass0 (pa_cons (pv 1) pa_nil))) (pss_one (ps_ret (pe_cmpR op_gt (pe_fldK (K := K) rfl (pv 0) rfl) (pe_op op_mulA (pv 1) (pe_fldK (K := K) rfl (pv 0) rfl)) (nomark _)))) pss_nil) (pss_cons (ps_if (pt_not (pt_val (pe_callB (call_isiK (K := K) rfl) (by rfl) T.f_isinstance (by decide +kernel) (pa_cons (pv 1) (pa_cons (pe_glob (v := .ref (He.ga K "Ratio")) rfl T.g_Ratio rfl) pa_nil))))) (pss_one ps_never) pss_nil) (pss_one (ps_ret (pe_cmpR op_gt (pe_op op_mulA (pe_fldK (K := K) rfl (pv 0) rfl) (pe_fldK (K := K) rfl (pv 1) rfl)) (pe_op op_mulA (pe_fldK (K := K) rfl (pv 1) rfl) (pe_fldK (K := K) rfl (pv 0) rfl)) (nomark _)))))), ?_⟩
  · obtain ⟨⟨dx, ea⟩, d0, nb, db⟩ := ra
    walk_at "in"
    walk_at "go"
    refine .inl ⟨i, rfl, ?_⟩
    walk_at "go"
    exact k
  · obtain ⟨⟨dx, ea⟩, d0, nb, db⟩ := ra
    obtain ⟨⟨dy, eb⟩, m0, zb, mb⟩ := rb
    walk_at "in"
    walk_at "go"
    refine .inr (.inl ⟨b, z, m, rfl, ⟨dy, eb⟩, ?_⟩)
    walk_at "go"
    exact k
def sp_ge (K : PySem.W.Frag) : Sp := fun vs H Q _ => ∃ (a : Addr) (n d : Int), RatV K H a n d ∧ ((∃ i, vs = [.ref a, .int i] ∧ Bd 1500 i ∧ Q (.bl (decide (i * d ≤ n))) H) ∨ ∃ (b : Addr) (z m : Int), vs = [.ref a, .ref b] ∧ RatV K H b z m ∧ Q (.bl (decide (z * d ≤ n * m))) H)
theorem ok_Ratio__ge (T : Tx K mg) : Gf P w K mg base CX0 2 (He.ma K (He.ga K "Ratio") "__ge__") ["self", "other"] [] (sp_ge K) := by
  obtain ⟨fd, F⟩ := T.d_Ratio__ge
  have hc := T.cl_Ratio
  have n1 := T.n_Ratio_top
  have n2 := T.n_Ratio_bottom
  have hi := T.in_Ratio
  have hk := T.i_RR
  refine gf0 F (fnG F sc_Ratio__ge (fun vs H Q E h => ?_) (fun cdv A outer s H vs Q E hr h => ?_)) (fun _ _ _ _ _ _ us hl => match us, hl with | [_, _], _ => rfl)
  · obtain ⟨a, n, d, _, ⟨i, rfl, _⟩ | ⟨b, z, m, rfl, _⟩⟩ := h <;> rfl
  obtain ⟨a, n, d, ra, ⟨i, rfl, ib, k⟩ | ⟨b, z, m, rfl, rb, k⟩⟩ := h
  all_goals refine ⟨_, PSs.nox (pss_cons (ps_if (pt_val (pe_g (ok_is_integer T) T.g_is_integer hr (by decide) pass0 (pa_cons (pv 1) pa_nil))) (pss_one (ps_ret (pe_cmpR op_ge (pe_fldK (K := K) rfl (pv 0) rfl) (pe_op op_mulA (pv 1) (pe_fldK (K := K) rfl (pv 0) rfl)) (nomark _)))) pss_nil) (pss_cons (ps_if (pt_not (pt_val (pe_callB (call_isiK (K := K) rfl) (by rfl) T.f_isinstance (by decide +kernel) (pa_cons (pv 1) (pa_cons (pe_glob (v := .ref (He.ga K "Ratio")) rfl T.g_Ratio rfl) pa_nil))))) (pss_one ps_never) pss_nil) (pss_one (ps_ret (pe_cmpR op_ge (pe_op op_mulA (pe_fldK (K := K) rfl (pv 0) rfl) (pe_fldK (K := K) rfl (pv 1) rfl)) (pe_op op_mulA (pe_fldK (K := K) rfl (pv 1) rfl) (pe_fldK (K := K) rfl (pv 0) rfl)) (nomark _)))))), ?_⟩
  · obtain ⟨⟨dx, ea⟩, d0, nb, db⟩ := ra
    walk_at "in"
    walk_at "go"
    refine .inl ⟨i, rfl, ?_⟩
    walk_at "go"
    exact k
  · obtain ⟨⟨dx, ea⟩, d0, nb, db⟩ := ra
    obtain ⟨⟨dy, eb⟩, m0, zb, mb⟩ := rb
    walk_at "in"
    walk_at "go"
    refine .inr (.inl ⟨b, z, m, rfl, ⟨dy, eb⟩, ?_⟩)
    walk_at "go"
    exact k
def sp_eq (K : PySem.W.Frag) : Sp := fun vs H Q _ => ∃ (a : Addr) (n d : Int), Rt K H a n d ∧ ((∃ i, vs = [.ref a, .int i] ∧ Q (.bl (decide (d = 1) && decide (n = i))) H) ∨ (∃ (b : Addr) (z m : Int), vs = [.ref a, .ref b] ∧ Rt K H b z m ∧ Q (.bl (decide (n = z) && decide (d = m))) H) ∨ ∃ x U, vs = [.ref a, x] ∧ Kd H x U ∧ Q (.bl false) H)
theorem kit_R {T : Tx K mg} {U : String} (h : U ∈ kinds) : PySem.W.kitOne K (.type U) (.ref (He.ga K "Ratio")) = some false := by
  have h2 : U = "bool" ∨ U = "NoneType" ∨ U = "str" ∨ U = "list" ∨ U = "tuple" ∨ U = "dict" := by simpa [kinds] using h
  rcases h2 with rfl | rfl | rfl | rfl | rfl | rfl
  · exact T.i_Kbool
  · exact T.i_KNoneType
  · exact T.i_Kstr
  · exact T.i_Klist
  · exact T.i_Ktuple
  · exact T.i_Kdict
theorem ok_Ratio__eq (T : Tx K mg) : Gf P w K mg base CX0 2 (He.ma K (He.ga K "Ratio") "__eq__") ["self", "other"] [] (sp_eq K) := by
  obtain ⟨fd, F⟩ := T.d_Ratio__eq
  have hc := T.cl_Ratio
  have n1 := T.n_Ratio_top
  have n2 := T.n_Ratio_bottom
  have hi := T.in_Ratio
  have hk := T.i_RR
  refine gf0 F (fnG F sc_Ratio__eq (fun vs H Q E h => ?_) (fun cdv A outer s H vs Q E hr h => ?_)) (fun _ _ _ _ _ _ us hl => match us, hl with | [_, _], _ => rfl)
  · obtain ⟨a, n, d, _, ⟨i, rfl, _⟩ | ⟨b, z, m, rfl, _⟩ | ⟨x, U, rfl, _⟩⟩ := h <;> rfl
  obtain ⟨a, n, d, ⟨dx, ea⟩, ⟨i, rfl, k⟩ | ⟨b, z, m, rfl, ⟨dy, eb⟩, k⟩ | ⟨x, U, rfl, kd, k⟩⟩ := h
  all_goals refine ⟨_, PSs.nox (pss_cons (ps_if (pt_val (pe_g (ok_is_integer T) T.g_is_integer hr (by decide) pass0 (pa_cons (pv 1) pa_nil))) (pss_one (ps_ret (pe_and (pe_cmpR op_eqI (pe_fldK (K := K) rfl (pv 0) rfl) pe_int (nomark _)) (pe_one (pe_cmpR op_eqI (pe_fldK (K := K) rfl (pv 0) rfl) (pv 1) (nomark _)))))) pss_nil) (pss_one (ps_ret (pe_and (pe_callB (call_isiK (K := K) rfl) (by rfl) T.f_isinstance (by decide +kernel) (pa_cons (pv 1) (pa_cons (pe_glob (v := .ref (He.ga K "Ratio")) rfl T.g_Ratio rfl) pa_nil))) (pe_and (pe_cmpR op_eqI (pe_fldK (K := K) rfl (pv 0) rfl) (pe_fldK (K := K) rfl (pv 1) rfl) (nomark _)) (pe_one (pe_cmpR op_eqI (pe_fldK (K := K) rfl (pv 0) rfl) (pe_fldK (K := K) rfl (pv 1) rfl) (nomark _)))))))), ?_⟩
  · walk_at "in"
    walk_at "go"
    refine .inl ⟨i, rfl, ?_⟩
    walk_at "go"
    refine i_two (fun h => ?_) (fun h => ?_)
    · walk_at "go"
      rw [decide_eq_true h, Bool.true_and] at k
      exact k
    · rw [decide_eq_false h, Bool.false_and] at k
      exact k
  · walk_at "in"
    walk_at "go"
    refine .inr (.inl ⟨b, z, m, rfl, ⟨dy, eb⟩, ?_⟩)
    walk_at "go"
    refine i_two (fun h => ?_) (fun h => ?_)
    · walk_at "go"
      rw [decide_eq_true h, Bool.true_and] at k
      exact k
    · rw [decide_eq_false h, Bool.false_and] at k
      exact k
  · walk_at "in"
    walk_at "go"
    refine .inr (.inr ⟨x, U, rfl, kd, ?_⟩)
    walk_at "go"
    refine ⟨_, _, _, _, false, rfl, .own _, kd.ty, kit_R (T := T) kd.mem, ?_⟩
    walk_at "go"
    exact k
end

end Toy

set_option Elab.async false
set_option linter.all false
set_option maxRecDepth 100000
set_option maxHeartbeats 4000000
namespace Toy
open PySem PySem.Spec PyProof.Rows L2 My SX
local macro_rules | `(tactic| walk_at "ne") => `(tactic| first
  | with_reducible assumption
  | exact Ne.symm (by with_reducible assumption)
  | (refine' ne_of_none ?hx ?hy; (case hy => with_reducible assumption); (case hx => walk_at "hf"))
  | (refine' Ne.symm (ne_of_none ?hx ?hy); (case hy => with_reducible assumption); (case hx => walk_at "hf")))
local macro_rules | `(tactic| walk_at "hf") => `(tactic| first
  | with_reducible assumption
  | with_reducible exact upd_same
  | ((with_reducible refine' Same.at ?hs ?hr); (case hs => with_reducible assumption); (case hr => walk_at "hf"))
  | ((with_reducible refine' at_or ?hr ?hn); (case hr => walk_at "hf"); (case hn => first | exact Or.inl (by with_reducible assumption) | exact Or.inr (by walk_at "ne")))
  | ((with_reducible refine' But.at ?hb ?hn ?hr); (case hb => with_reducible assumption); (case hr => walk_at "hf"); (case hn => walk_at "ne")))
local macro_rules | `(tactic| walk_at "sq") => `(tactic| first
  | with_reducible assumption
  | exact SqL.of (by walk_at "hf"))
local macro_rules | `(tactic| walk_at "sqo") => `(tactic| first
  | exact Or.inl (by with_reducible assumption)
  | exact Or.inr (by with_reducible assumption)
  | exact Or.inl (SqL.of (by walk_at "hf"))
  | exact Or.inr (SqT.of (by walk_at "hf")))
local macro_rules | `(tactic| walk_at "sqt") => `(tactic| first
  | with_reducible assumption
  | exact SqT.of (by walk_at "hf"))
local macro_rules | `(tactic| walk_at "lg") => `(tactic| first
  | with_reducible assumption
  | exact Bd.lg (by with_reducible assumption) (by decide) (by decide)
  | exact Bd.lg (Bd.of (b := 100) (by omega) (by omega)) (by decide) (by decide))
local macro_rules | `(tactic| walk_at "len") => `(tactic| first
  | with_reducible assumption
  | ((simp only [txt_int, lcat, S_len, List.length_append, List.length_cons, List.length_nil]); omega)
  | (apply of_decide_eq_true; rfl))
local macro_rules | `(tactic| walk_at "side") => `(tactic| first
  | with_reducible assumption
  | omega
  | exact ml (by omega) (by omega)
  | exact mr (by omega) (by omega)
  | exact dv (by omega) (by omega)
  | exact Bd.mulOk (by with_reducible assumption) (by with_reducible assumption) (by decide) (by decide) (by decide)
  | exact Bd.div (by with_reducible assumption) (by omega) (by decide) (by decide)
  | (show (0 : Int) < _; omega)
  | decide
  | exact ni_non
  | exact rfl
  | ((simp only [List.length_cons, List.length_nil, List.length_map]); omega))
local macro_rules | `(tactic| walk_at "st") => `(tactic| first
  | ((with_reducible refine' r_var ?hh ?_); (case hh => rfl))
  | with_reducible refine r_c ?_
  | with_reducible refine r_op ?_
  | with_reducible refine r_i0 ?_
  | with_reducible refine r_cons ?_
  | with_reducible refine r_nil ?_
  | with_reducible refine r_seq ?_
  | with_reducible refine r_asg ?_
  | with_reducible refine r_gname ?_
  | with_reducible refine r_ret ?_
  | with_reducible refine r_ifS ?_
  | with_reducible refine r_test ?_
  | with_reducible refine r_tB ?_
  | with_reducible refine b_bl ?_
  | with_reducible refine i_t ?_
  | with_reducible refine i_f ?_
  | with_reducible refine i_nt ?_
  | with_reducible refine i_nf ?_
  | ((with_reducible refine' i_pos ?hh ?_); (case hh => walk_at "side"))
  | ((with_reducible refine' i_neg ?hh ?_); (case hh => walk_at "side"))
  | ((with_reducible refine' n_pos ?hh ?_); (case hh => walk_at "side"))
  | ((with_reducible refine' n_neg ?hh ?_); (case hh => walk_at "side"))
  | ((with_reducible refine' r_pow ?hh ?he ?_); (case hh => first | exact ⟨by decide, by decide, by decide⟩ | exact ⟨by decide, by decide, by omega⟩); (case he => first | ((simp only [Int.reduceToNat, Int.reducePow]); done) | ((simp only [Int.reduceToNat, Int.reducePow]); rfl) | rfl))
  | ((with_reducible refine' r_i ?hh ?_); (case hh => walk_at "side"))
  | with_reducible refine r_call0 ?_
  | with_reducible refine r_call ?_
  | with_reducible refine r_cb ?_
  | with_reducible refine r_int ?_
  | ((with_reducible refine' r_strI ?hh ?_); (case hh => walk_at "lg"))
  | with_reducible refine r_i1 ?_
  | with_reducible refine r_i2 ?_
  | with_reducible refine r_par ?_
  | with_reducible refine r_two ?_
  | with_reducible refine r_and ?_
  | with_reducible refine r_or ?_
  | with_reducible refine r_not ?_
  | with_reducible refine r_tif ?_
  | with_reducible refine r_andV ?_
  | with_reducible refine r_orV ?_
  | with_reducible refine r_notV ?_
  | with_reducible refine r_un ?_
  | with_reducible refine r_u ?_
  | with_reducible refine r_sb ?_
  | with_reducible refine r_drop ?_
  | with_reducible refine r_next ?_
  | with_reducible refine r_gsub ?_
  | ((with_reducible refine' r_ixL ?hh ?he ?_); (case hh => walk_at "sq"); (case he => rfl))
  | ((with_reducible refine' r_ixT ?hh ?he ?_); (case hh => walk_at "sqt"); (case he => rfl))
  | ((with_reducible refine' r_setL ?hh ?he ?_); (case hh => walk_at "hf"); (case he => rfl))
  | with_reducible refine r_gcons ?_
  | with_reducible refine r_gnil ?_
  | with_reducible refine r_sl ?_
  | with_reducible refine r_nopart ?_
  | with_reducible refine r_part ?_
  | with_reducible refine r_pint ?_
  | ((with_reducible refine' r_lenS ?hh ?_); (case hh => walk_at "sqo"))
  | ((with_reducible refine' r_gtup ?hh ?he ?_); (case hh => walk_at "sqt"); (case he => rfl))
  | ((with_reducible refine' r_slL ?hh ?_); (case hh => walk_at "sq"))
  | ((with_reducible refine' r_len ?hh ?_); (case hh => exact sz (by (try simp only [List.length_map]); (first | omega | decide | exact Nat.le_of_ble_eq_true rfl))))
  | with_reducible refine r_isi_ii ?_
  | with_reducible refine r_isi_ib ?_
  | with_reducible refine r_isi_ss ?_
  | ((with_reducible refine' r_isi_own ?hh ?hi ?hk ?_); (case hh => walk_at "hf"); (case hi => with_reducible assumption); (case hk => with_reducible assumption))
  | with_reducible refine r_lst ?_
  | with_reducible refine r_tup ?_
  | with_reducible refine r_make ?_
  | with_reducible refine r_forR1 ?_
  | with_reducible refine r_forL ?_
  | with_reducible refine r_forT ?_
  | with_reducible refine r_forR2 ?_
  | with_reducible refine r_ref1 ?_
  | with_reducible refine r_brk ?_
  | with_reducible refine r_cont ?_
  | with_reducible refine r_retN ?_
  | with_reducible refine r_rr ?_
  | with_reducible refine r_fmt ?_
  | ((with_reducible refine' r_fmti ?hh ?_); (case hh => walk_at "lg"))
  | with_reducible refine r_js ?_
  | with_reducible refine r_js0 ?_
  | ((with_reducible refine' r_jsp ?hh ?_); (case hh => walk_at "len"))
  | with_reducible refine r_m0 ?_
  | with_reducible refine r_m1 ?_
  | with_reducible refine r_str ?_
  | with_reducible refine r_ss ?_
  | with_reducible refine r_s0 ?_
  | ((with_reducible refine' r_addS ?hh ?_); (case hh => walk_at "len"))
  | ((with_reducible refine' r_slS ?hh ?_); (case hh => walk_at "len"))
  | ((with_reducible refine' r_lenT ?hh ?_); (case hh => walk_at "len"))
  | ((with_reducible refine' r_inT ?hh ?hf ?he ?_); (case hh => walk_at "sqt"); (case hf => rfl); (case he => rfl))
  | ((with_reducible refine' r_inF ?hh ?hf ?he ?_); (case hh => walk_at "sqt"); (case hf => rfl); (case he => rfl))
  | ((with_reducible refine' r_makeL ?hh ?_); (case hh => rfl))
  | with_reducible refine r_tprop ?_
  | with_reducible refine r_tfld ?_
  | ((with_reducible refine' f_prop ?hh ?_); (case hh => walk_at "hf"))
  | ((with_reducible refine' f_fld ?hh ?hc ?hn ?hl ?_); (case hh => walk_at "hf"); (case hc => with_reducible assumption); (case hn => with_reducible assumption); (case hl => rfl))
  | with_reducible refine r_tcm ?_
  | with_reducible refine r_chain ?_
  | with_reducible refine r_bl1 ?_
  | with_reducible refine r_intb ?_
  | with_reducible refine r_yes ?_
  | with_reducible refine r_makeK ?_
  | with_reducible refine r_sfld ?_
  | ((with_reducible refine' f_sfld ?hh ?hc ?hn ?hl ?_); (case hh => walk_at "hf"); (case hc => with_reducible assumption); (case hn => with_reducible assumption); (case hl => exact Nat.le_of_ble_eq_true rfl))
  | with_reducible refine r_lcL ?_
  | with_reducible refine r_lcT ?_
  | with_reducible refine r_lcR1 ?_
  | with_reducible refine r_lcR2 ?_)
local macro_rules | `(tactic| walk_at "go") => `(tactic| (repeat walk_at "st"))
local macro_rules | `(tactic| walk_at "in") => `(tactic| dsimp only [cxOf, L2.start, List.map, List.length, List.replicate, Nat.reduceSub, Nat.reduceAdd, List.cons_append, List.nil_append, List.append_nil])
local macro_rules | `(tactic| walk_at "bt") => `(tactic| first
  | with_reducible assumption
  | exact But.rfl
  | exact Same.but (by with_reducible assumption)
  | (refine' But.put ?ha; (case ha => walk_at "bt"))
  | (refine' But.new ?ha ?hn; (case hn => with_reducible assumption); (case ha => walk_at "bt"))
  | (refine' But.trans ?ha ?hb; (case hb => with_reducible assumption); (case ha => walk_at "bt"))
  | (refine' But.trans ?ha (Same.but ?hb); (case hb => with_reducible assumption); (case ha => walk_at "bt")))
local macro_rules | `(tactic| walk_at "sm") => `(tactic| first
  | with_reducible assumption
  | exact Same.refl _
  | (refine' Same.new ?ha ?hn; (case hn => with_reducible assumption); (case ha => walk_at "sm"))
  | (refine' Same.trans ?ha ?hb; (case hb => with_reducible assumption); (case ha => walk_at "sm")))

section
variable {P : Program} {w : World} {K : PySem.W.Frag} {mg : Str → Option Value} {base : Heap}
/-- what six comparisons of two integers say -/
def six (l r : Int) : List V := [.bl (decide (l < r)), .bl (decide (l ≤ r)), .bl (decide (r < l)), .bl (decide (r ≤ l)), .bl (decide (l = r)), .bl (!decide (l = r))]
def spDue : Sp := fun vs H Q _ => ∃ l r : Int, vs = [.int l, .int r] ∧ ∀ p, H p = none → Q (.ref p) (upd H p (.lst (six l r)))
theorem ok_law_due (T : Tx K mg) : Gf P w K mg base CX0 1 (He.ga K "_law_due") ["_law_left", "_law_right_here"] [] spDue := by
  obtain ⟨fd, F⟩ := T.d_law_due
  refine gf0 F (fnG F sc_law_due (fun vs H Q E h => ?_) (fun cdv A outer s H vs Q E hr h => ?_)) (fun _ _ _ _ _ _ us hl => match us, hl with | [_, _], _ => rfl)
  · obtain ⟨l, r, rfl, _⟩ := h
    rfl
  obtain ⟨l, r, rfl, k⟩ := h
  refine ⟨_, PSs.nox (pss_one (ps_ret (pe_lst (pa_cons (pe_cmpR op_lt (pv 0) (pv 1) (nomark _)) (pa_cons (pe_cmpR op_le (pv 0) (pv 1) (nomark _)) (pa_cons (pe_cmpR op_gt (pv 0) (pv 1) (nomark _)) (pa_cons (pe_cmpR op_ge (pv 0) (pv 1) (nomark _)) (pa_cons (pe_cmpR op_eqI (pv 0) (pv 1) (nomark _)) (pa_cons (pe_cmpR op_neI (pv 0) (pv 1) (nomark _)) pa_nil))))))))), ?_⟩
  walk_at "in"
  walk_at "go"
  exact k
/-- two things that compare as the integers l and r -/
inductive Cmp (K : PySem.W.Frag) (H : Hp) (l r : Int) : V → V → Prop where
  | rr {a b : Addr} {n d z m : Int} (ra : RatV K H a n d) (rb : RatV K H b z m) (e1 : n * m < z * d ↔ l < r) (e2 : z * d < n * m ↔ r < l) (e3 : n = z ∧ d = m ↔ l = r) : Cmp K H l r (.ref a) (.ref b)
  | ri {a : Addr} {n d i : Int} (ra : RatV K H a n d) (ib : Bd 1500 i) (e1 : n < i * d ↔ l < r) (e2 : i * d < n ↔ r < l) (e3 : d = 1 ∧ n = i ↔ l = r) : Cmp K H l r (.ref a) (.int i)
  | ir {a : Addr} {n d i : Int} (ra : RatV K H a n d) (ib : Bd 1500 i) (e1 : i * d < n ↔ l < r) (e2 : n < i * d ↔ r < l) (e3 : d = 1 ∧ n = i ↔ l = r) : Cmp K H l r (.int i) (.ref a)
def spTold (K : PySem.W.Frag) : Sp := fun vs H Q _ => ∃ (x y : V) (l r : Int), vs = [x, y] ∧ Cmp K H l r x y ∧ ∀ p, H p = none → Q (.ref p) (upd H p (.lst (six l r)))
theorem and_dec {p q : Prop} [Decidable p] [Decidable q] : (decide p && decide q) = decide (p ∧ q) := by
  by_cases hp : p <;> by_cases hq : q <;> simp [hp, hq]
theorem ok_law_told (T : Tx K mg) : Gf P w K mg base CX0 4 (He.ga K "_law_told") ["_law_one", "_law_two"] [] (spTold K) := by
  obtain ⟨fd, F⟩ := T.d_law_told
  refine gf0 F (fnG F sc_law_told (fun vs H Q E h => ?_) (fun cdv A outer s H vs Q E hr h => ?_)) (fun _ _ _ _ _ _ us hl => match us, hl with | [_, _], _ => rfl)
  · obtain ⟨x, y, l, r, rfl, _⟩ := h
    rfl
  obtain ⟨x, y, l, r, rfl, c, k⟩ := h
  refine ⟨_, PSs.nox (pss_one (ps_ret (pe_lst (pa_cons (pe_cmpR (op_3 (cmp_RR (fun _ _ => rfl) (ok_Ratio__lt T) T.sp_Ratio__lt hr (by decide)) (cmp_RI (fun _ _ => rfl) (ok_Ratio__lt T) T.ow_Ratio T.sp_Ratio__lt hr (by decide)) (cmp_IR (fun _ _ => rfl) decC_lt (ok_Ratio__gt T) T.ow_Ratio T.sp_Ratio__gt hr (by decide))) (pv 0) (pv 1) (nomark _)) (pa_cons (pe_cmpR (op_3 (cmp_RR (fun _ _ => rfl) (ok_Ratio__le T) T.sp_Ratio__le hr (by decide)) (cmp_RI (fun _ _ => rfl) (ok_Ratio__le T) T.ow_Ratio T.sp_Ratio__le hr (by decide)) (cmp_IR (fun _ _ => rfl) decC_le (ok_Ratio__ge T) T.ow_Ratio T.sp_Ratio__ge hr (by decide))) (pv 0) (pv 1) (nomark _)) (pa_cons (pe_cmpR (op_3 (cmp_RR (fun _ _ => rfl) (ok_Ratio__gt T) T.sp_Ratio__gt hr (by decide)) (cmp_RI (fun _ _ => rfl) (ok_Ratio__gt T) T.ow_Ratio T.sp_Ratio__gt hr (by decide)) (cmp_IR (fun _ _ => rfl) decC_gt (ok_Ratio__lt T) T.ow_Ratio T.sp_Ratio__lt hr (by decide))) (pv 0) (pv 1) (nomark _)) (pa_cons (pe_cmpR (op_3 (cmp_RR (fun _ _ => rfl) (ok_Ratio__ge T) T.sp_Ratio__ge hr (by decide)) (cmp_RI (fun _ _ => rfl) (ok_Ratio__ge T) T.ow_Ratio T.sp_Ratio__ge hr (by decide)) (cmp_IR (fun _ _ => rfl) decC_ge (ok_Ratio__le T) T.ow_Ratio T.sp_Ratio__le hr (by decide))) (pv 0) (pv 1) (nomark _)) (pa_cons (pe_cmpR (op_3 (cmp_RR (fun _ _ => rfl) (ok_Ratio__eq T) T.sp_Ratio__eq hr (by decide)) (cmp_RI (fun _ _ => rfl) (ok_Ratio__eq T) T.ow_Ratio T.sp_Ratio__eq hr (by decide)) (cmp_IR (fun _ _ => rfl) decC_eq (ok_Ratio__eq T) T.ow_Ratio T.sp_Ratio__eq hr (by decide))) (pv 0) (pv 1) (nomark _)) (pa_cons (pe_cmpR (op_3 (ne_RR (ok_Ratio__eq T) T.ne_Ratio T.sp_Ratio__eq hr (by decide)) (ne_RI (ok_Ratio__eq T) T.ow_Ratio T.ne_Ratio T.sp_Ratio__eq hr (by decide)) (ne_IR (ok_Ratio__eq T) T.ow_Ratio T.ne_Ratio T.sp_Ratio__eq hr (by decide))) (pv 0) (pv 1) (nomark _)) pa_nil))))))))), ?_⟩
  cases c with
  | @rr a b n d z m ra rb e1 e2 e3 =>
    have ra2 := ra
    have rb2 := rb
    obtain ⟨⟨dx, ea⟩, _⟩ := id ra2
    obtain ⟨⟨dy, eb⟩, _⟩ := id rb2
    walk_at "in"
    walk_at "go"
    refine .inl (f_RR ea eb ⟨a, n, d, ra, .inr ⟨b, z, m, rfl, rb, ?_⟩⟩)
    walk_at "go"
    refine .inl (f_RR ea eb ⟨a, n, d, ra, .inr ⟨b, z, m, rfl, rb, ?_⟩⟩)
    walk_at "go"
    refine .inl (f_RR ea eb ⟨a, n, d, ra, .inr ⟨b, z, m, rfl, rb, ?_⟩⟩)
    walk_at "go"
    refine .inl (f_RR ea eb ⟨a, n, d, ra, .inr ⟨b, z, m, rfl, rb, ?_⟩⟩)
    walk_at "go"
    refine .inl (f_RR ea eb ⟨a, n, d, ra.1, .inr (.inl ⟨b, z, m, rfl, rb.1, ?_⟩)⟩)
    walk_at "go"
    refine .inl (f_RR ea eb ⟨a, n, d, ra.1, .inr (.inl ⟨b, z, m, rfl, rb.1, _, rfl, ?_⟩)⟩)
    walk_at "go"
    have h2 : n * m ≤ z * d ↔ l ≤ r := by omega
    have h4 : z * d ≤ n * m ↔ r ≤ l := by omega
    simp only [and_dec, decide_eq_decide.mpr e1, decide_eq_decide.mpr e2, decide_eq_decide.mpr e3, decide_eq_decide.mpr h2, decide_eq_decide.mpr h4]
    exact k
  | @ri a n d i ra ib e1 e2 e3 =>
    have ra2 := ra
    obtain ⟨⟨dx, ea⟩, _⟩ := id ra2
    walk_at "in"
    walk_at "go"
    refine .inr (.inl (f_RI ea ⟨a, n, d, ra, .inl ⟨i, rfl, ib, ?_⟩⟩))
    walk_at "go"
    refine .inr (.inl (f_RI ea ⟨a, n, d, ra, .inl ⟨i, rfl, ib, ?_⟩⟩))
    walk_at "go"
    refine .inr (.inl (f_RI ea ⟨a, n, d, ra, .inl ⟨i, rfl, ib, ?_⟩⟩))
    walk_at "go"
    refine .inr (.inl (f_RI ea ⟨a, n, d, ra, .inl ⟨i, rfl, ib, ?_⟩⟩))
    walk_at "go"
    refine .inr (.inl (f_RI ea ⟨a, n, d, ra.1, .inl ⟨i, rfl, ?_⟩⟩))
    walk_at "go"
    refine .inr (.inl (f_RI ea ⟨a, n, d, ra.1, .inl ⟨i, rfl, _, rfl, ?_⟩⟩))
    walk_at "go"
    have h2 : n ≤ i * d ↔ l ≤ r := by omega
    have h4 : i * d ≤ n ↔ r ≤ l := by omega
    simp only [and_dec, decide_eq_decide.mpr e1, decide_eq_decide.mpr e2, decide_eq_decide.mpr e3, decide_eq_decide.mpr h2, decide_eq_decide.mpr h4]
    exact k
  | @ir a n d i ra ib e1 e2 e3 =>
    have ra2 := ra
    obtain ⟨⟨dx, ea⟩, _⟩ := id ra2
    walk_at "in"
    walk_at "go"
    refine .inr (.inr (f_IR ea ⟨a, n, d, ra, .inl ⟨i, rfl, ib, ?_⟩⟩))
    walk_at "go"
    refine .inr (.inr (f_IR ea ⟨a, n, d, ra, .inl ⟨i, rfl, ib, ?_⟩⟩))
    walk_at "go"
    refine .inr (.inr (f_IR ea ⟨a, n, d, ra, .inl ⟨i, rfl, ib, ?_⟩⟩))
    walk_at "go"
    refine .inr (.inr (f_IR ea ⟨a, n, d, ra, .inl ⟨i, rfl, ib, ?_⟩⟩))
    walk_at "go"
    refine .inr (.inr (f_IR ea ⟨a, n, d, ra.1, .inl ⟨i, rfl, ?_⟩⟩))
    walk_at "go"
    refine .inr (.inr (f_IR ea ⟨a, n, d, ra.1, .inl ⟨i, rfl, _, rfl, ?_⟩⟩))
    walk_at "go"
    have h2 : i * d ≤ n ↔ l ≤ r := by omega
    have h4 : n ≤ i * d ↔ r ≤ l := by omega
    simp only [and_dec, decide_eq_decide.mpr e1, decide_eq_decide.mpr e2, decide_eq_decide.mpr e3, decide_eq_decide.mpr h2, decide_eq_decide.mpr h4]
    exact k
theorem go_told {H : Hp} {Q : VK} {E : XK} {x y : V} {l r : Int} (c : Cmp K H l r x y) (k : ∀ p, H p = none → Q (.ref p) (upd H p (.lst (six l r)))) : spTold K [x, y] H Q E := ⟨x, y, l, r, rfl, c, k⟩
theorem go_due {H : Hp} {Q : VK} {E : XK} {l r : Int} (k : ∀ p, H p = none → Q (.ref p) (upd H p (.lst (six l r)))) : spDue [.int l, .int r] H Q E := ⟨l, r, rfl, k⟩
end

end Toy

set_option Elab.async false
set_option linter.all false
set_option maxRecDepth 100000
set_option maxHeartbeats 4000000
namespace Toy
open PySem PySem.Spec PyProof.Rows L2 My SX
local macro_rules | `(tactic| walk_at "ne") => `(tactic| first
  | with_reducible assumption
  | exact Ne.symm (by with_reducible assumption)
  | (refine' ne_of_none ?hx ?hy; (case hy => with_reducible assumption); (case hx => walk_at "hf"))
  | (refine' Ne.symm (ne_of_none ?hx ?hy); (case hy => with_reducible assumption); (case hx => walk_at "hf")))
local macro_rules | `(tactic| walk_at "hf") => `(tactic| first
  | with_reducible assumption
  | with_reducible exact upd_same
  | ((with_reducible refine' Same.at ?hs ?hr); (case hs => with_reducible assumption); (case hr => walk_at "hf"))
  | ((with_reducible refine' at_or ?hr ?hn); (case hr => walk_at "hf"); (case hn => first | exact Or.inl (by with_reducible assumption) | exact Or.inr (by walk_at "ne")))
  | ((with_reducible refine' But.at ?hb ?hn ?hr); (case hb => with_reducible assumption); (case hr => walk_at "hf"); (case hn => walk_at "ne")))
local macro_rules | `(tactic| walk_at "sq") => `(tactic| first
  | with_reducible assumption
  | exact SqL.of (by walk_at "hf"))
local macro_rules | `(tactic| walk_at "sqo") => `(tactic| first
  | exact Or.inl (by with_reducible assumption)
  | exact Or.inr (by with_reducible assumption)
  | exact Or.inl (SqL.of (by walk_at "hf"))
  | exact Or.inr (SqT.of (by walk_at "hf")))
local macro_rules | `(tactic| walk_at "sqt") => `(tactic| first
  | with_reducible assumption
  | exact SqT.of (by walk_at "hf"))
local macro_rules | `(tactic| walk_at "lg") => `(tactic| first
  | with_reducible assumption
  | exact Bd.lg (by with_reducible assumption) (by decide) (by decide)
  | exact Bd.lg (Bd.of (b := 100) (by omega) (by omega)) (by decide) (by decide))
local macro_rules | `(tactic| walk_at "len") => `(tactic| first
  | with_reducible assumption
  | ((simp only [txt_int, lcat, S_len, List.length_append, List.length_cons, List.length_nil]); omega)
  | (apply of_decide_eq_true; rfl))
local macro_rules | `(tactic| walk_at "side") => `(tactic| first
  | with_reducible assumption
  | omega
  | exact ml (by omega) (by omega)
  | exact mr (by omega) (by omega)
  | exact dv (by omega) (by omega)
  | exact Bd.mulOk (by with_reducible assumption) (by with_reducible assumption) (by decide) (by decide) (by decide)
  | exact Bd.div (by with_reducible assumption) (by omega) (by decide) (by decide)
  | (show (0 : Int) < _; omega)
  | decide
  | exact ni_non
  | exact rfl
  | ((simp only [List.length_cons, List.length_nil, List.length_map]); omega))
local macro_rules | `(tactic| walk_at "st") => `(tactic| first
  | ((with_reducible refine' r_var ?hh ?_); (case hh => rfl))
  | with_reducible refine r_c ?_
  | with_reducible refine r_op ?_
  | with_reducible refine r_i0 ?_
  | with_reducible refine r_cons ?_
  | with_reducible refine r_nil ?_
  | with_reducible refine r_seq ?_
  | with_reducible refine r_asg ?_
  | with_reducible refine r_gname ?_
  | with_reducible refine r_ret ?_
  | with_reducible refine r_ifS ?_
  | with_reducible refine r_test ?_
  | with_reducible refine r_tB ?_
  | with_reducible refine b_bl ?_
  | with_reducible refine i_t ?_
  | with_reducible refine i_f ?_
  | with_reducible refine i_nt ?_
  | with_reducible refine i_nf ?_
  | ((with_reducible refine' i_pos ?hh ?_); (case hh => walk_at "side"))
  | ((with_reducible refine' i_neg ?hh ?_); (case hh => walk_at "side"))
  | ((with_reducible refine' n_pos ?hh ?_); (case hh => walk_at "side"))
  | ((with_reducible refine' n_neg ?hh ?_); (case hh => walk_at "side"))
  | ((with_reducible refine' r_pow ?hh ?he ?_); (case hh => first | exact ⟨by decide, by decide, by decide⟩ | exact ⟨by decide, by decide, by omega⟩); (case he => first | ((simp only [Int.reduceToNat, Int.reducePow]); done) | ((simp only [Int.reduceToNat, Int.reducePow]); rfl) | rfl))
  | ((with_reducible refine' r_i ?hh ?_); (case hh => walk_at "side"))
  | with_reducible refine r_call0 ?_
  | with_reducible refine r_call ?_
  | with_reducible refine r_cb ?_
  | with_reducible refine r_int ?_
  | ((with_reducible refine' r_strI ?hh ?_); (case hh => walk_at "lg"))
  | with_reducible refine r_i1 ?_
  | with_reducible refine r_i2 ?_
  | with_reducible refine r_par ?_
  | with_reducible refine r_two ?_
  | with_reducible refine r_and ?_
  | with_reducible refine r_or ?_
  | with_reducible refine r_not ?_
  | with_reducible refine r_tif ?_
  | with_reducible refine r_andV ?_
  | with_reducible refine r_orV ?_
  | with_reducible refine r_notV ?_
  | with_reducible refine r_un ?_
  | with_reducible refine r_u ?_
  | with_reducible refine r_sb ?_
  | with_reducible refine r_drop ?_
  | with_reducible refine r_next ?_
  | with_reducible refine r_gsub ?_
  | ((with_reducible refine' r_ixL ?hh ?he ?_); (case hh => walk_at "sq"); (case he => rfl))
  | ((with_reducible refine' r_ixT ?hh ?he ?_); (case hh => walk_at "sqt"); (case he => rfl))
  | ((with_reducible refine' r_setL ?hh ?he ?_); (case hh => walk_at "hf"); (case he => rfl))
  | with_reducible refine r_gcons ?_
  | with_reducible refine r_gnil ?_
  | with_reducible refine r_sl ?_
  | with_reducible refine r_nopart ?_
  | with_reducible refine r_part ?_
  | with_reducible refine r_pint ?_
  | ((with_reducible refine' r_lenS ?hh ?_); (case hh => walk_at "sqo"))
  | ((with_reducible refine' r_gtup ?hh ?he ?_); (case hh => walk_at "sqt"); (case he => rfl))
  | ((with_reducible refine' r_slL ?hh ?_); (case hh => walk_at "sq"))
  | ((with_reducible refine' r_len ?hh ?_); (case hh => exact sz (by (try simp only [List.length_map]); (first | omega | decide | exact Nat.le_of_ble_eq_true rfl))))
  | with_reducible refine r_isi_ii ?_
  | with_reducible refine r_isi_ib ?_
  | with_reducible refine r_isi_ss ?_
  | ((with_reducible refine' r_isi_own ?hh ?hi ?hk ?_); (case hh => walk_at "hf"); (case hi => with_reducible assumption); (case hk => with_reducible assumption))
  | with_reducible refine r_lst ?_
  | with_reducible refine r_tup ?_
  | with_reducible refine r_make ?_
  | with_reducible refine r_forR1 ?_
  | with_reducible refine r_forL ?_
  | with_reducible refine r_forT ?_
  | with_reducible refine r_forR2 ?_
  | with_reducible refine r_ref1 ?_
  | with_reducible refine r_brk ?_
  | with_reducible refine r_cont ?_
  | with_reducible refine r_retN ?_
  | with_reducible refine r_rr ?_
  | with_reducible refine r_fmt ?_
  | ((with_reducible refine' r_fmti ?hh ?_); (case hh => walk_at "lg"))
  | with_reducible refine r_js ?_
  | with_reducible refine r_js0 ?_
  | ((with_reducible refine' r_jsp ?hh ?_); (case hh => walk_at "len"))
  | with_reducible refine r_m0 ?_
  | with_reducible refine r_m1 ?_
  | with_reducible refine r_str ?_
  | with_reducible refine r_ss ?_
  | with_reducible refine r_s0 ?_
  | ((with_reducible refine' r_addS ?hh ?_); (case hh => walk_at "len"))
  | ((with_reducible refine' r_slS ?hh ?_); (case hh => walk_at "len"))
  | ((with_reducible refine' r_lenT ?hh ?_); (case hh => walk_at "len"))
  | ((with_reducible refine' r_inT ?hh ?hf ?he ?_); (case hh => walk_at "sqt"); (case hf => rfl); (case he => rfl))
  | ((with_reducible refine' r_inF ?hh ?hf ?he ?_); (case hh => walk_at "sqt"); (case hf => rfl); (case he => rfl))
  | ((with_reducible refine' r_makeL ?hh ?_); (case hh => rfl))
  | with_reducible refine r_tprop ?_
  | with_reducible refine r_tfld ?_
  | ((with_reducible refine' f_prop ?hh ?_); (case hh => walk_at "hf"))
  | ((with_reducible refine' f_fld ?hh ?hc ?hn ?hl ?_); (case hh => walk_at "hf"); (case hc => with_reducible assumption); (case hn => with_reducible assumption); (case hl => rfl))
  | with_reducible refine r_tcm ?_
  | with_reducible refine r_chain ?_
  | with_reducible refine r_bl1 ?_
  | with_reducible refine r_intb ?_
  | with_reducible refine r_yes ?_
  | with_reducible refine r_makeK ?_
  | with_reducible refine r_sfld ?_
  | ((with_reducible refine' f_sfld ?hh ?hc ?hn ?hl ?_); (case hh => walk_at "hf"); (case hc => with_reducible assumption); (case hn => with_reducible assumption); (case hl => exact Nat.le_of_ble_eq_true rfl))
  | with_reducible refine r_lcL ?_
  | with_reducible refine r_lcT ?_
  | with_reducible refine r_lcR1 ?_
  | with_reducible refine r_lcR2 ?_)
local macro_rules | `(tactic| walk_at "go") => `(tactic| (repeat walk_at "st"))
local macro_rules | `(tactic| walk_at "in") => `(tactic| dsimp only [cxOf, L2.start, List.map, List.length, List.replicate, Nat.reduceSub, Nat.reduceAdd, List.cons_append, List.nil_append, List.append_nil])
local macro_rules | `(tactic| walk_at "bt") => `(tactic| first
  | with_reducible assumption
  | exact But.rfl
  | exact Same.but (by with_reducible assumption)
  | (refine' But.put ?ha; (case ha => walk_at "bt"))
  | (refine' But.new ?ha ?hn; (case hn => with_reducible assumption); (case ha => walk_at "bt"))
  | (refine' But.trans ?ha ?hb; (case hb => with_reducible assumption); (case ha => walk_at "bt"))
  | (refine' But.trans ?ha (Same.but ?hb); (case hb => with_reducible assumption); (case ha => walk_at "bt")))
local macro_rules | `(tactic| walk_at "sm") => `(tactic| first
  | with_reducible assumption
  | exact Same.refl _
  | (refine' Same.new ?ha ?hn; (case hn => with_reducible assumption); (case ha => walk_at "sm"))
  | (refine' Same.trans ?ha ?hb; (case hb => with_reducible assumption); (case ha => walk_at "sm")))

section
variable {P : Program} {w : World} {K : PySem.W.Frag} {mg : Str → Option Value} {base : Heap}
def sixD (l r : Int) : PyData := .list [.bool (decide (l < r)), .bool (decide (l ≤ r)), .bool (decide (r < l)), .bool (decide (r ≤ l)), .bool (decide (l = r)), .bool (!decide (l = r))]
theorem six_ok : ∀ a b c d e f : Bool, ((PyData.list [.bool a, .bool b, .bool c, .bool d, .bool e, .bool f]).showable && !(PyData.list [.bool a, .bool b, .bool c, .bool d, .bool e, .bool f]).hasDict && decide ((PyData.list [.bool a, .bool b, .bool c, .bool d, .bool e, .bool f]).depth ≤ 50) && decide ((PyData.list [.bool a, .bool b, .bool c, .bool d, .bool e, .bool f]).shown.length ≤ 1000)) = true := by decide +kernel
theorem go_reprS {H : Hp} {p : Addr} {l r : Int} {Q : VK} (h : H p = some (.lst (six l r))) (q : Q (.str (sixD l r).shown) H) : rRepr K [.ref p] H Q := by
  have z := six_ok (decide (l < r)) (decide (l ≤ r)) (decide (r < l)) (decide (r ≤ l)) (decide (l = r)) (!decide (l = r))
  rw [Bool.and_eq_true, Bool.and_eq_true, Bool.and_eq_true, decide_eq_true_eq, decide_eq_true_eq, Bool.not_eq_true'] at z
  obtain ⟨⟨⟨z1, z2⟩, z3⟩, z4⟩ := z
  exact ⟨p, sixD l r, rfl, .lst (SqL.of h) (.cons (.bl _) (.cons (.bl _) (.cons (.bl _) (.cons (.bl _) (.cons (.bl _) (.cons (.bl _) .nil)))))), z1, z2, z3, sz z4, q⟩
def spSecond : Sp := fun vs H Q _ => ∃ (p : Addr) (a b : Int), vs = [.ref p, .int a, .int b] ∧ Purse H p ∧ Bd 241 a ∧ Bd 241 b ∧ 0 < b ∧ ∀ t c d H', H' t = some (.tup [.int c, .int d]) → Bd 300 c → 0 < d → Bd 300 d → Purse H' p → But p H H' → t ≠ p → Q (.ref t) H'
theorem go_second {p : Addr} {a b : Int} {H : Hp} {Q : VK} {E : XK} (hp : Purse H p) (ab : Bd 241 a) (bb : Bd 241 b) (b0 : 0 < b) (k : ∀ t c d H', H' t = some (.tup [.int c, .int d]) → Bd 300 c → 0 < d → Bd 300 d → Purse H' p → But p H H' → t ≠ p → Q (.ref t) H') : spSecond [.ref p, .int a, .int b] H Q E := ⟨p, a, b, rfl, hp, ab, bb, b0, k⟩
theorem ok_law_second (T : Tx K mg) : Gf P w K mg base CX0 5 (He.ga K "_law_second") ["_law_purse_here", "_law_top", "_law_bottom"] [] spSecond := by
  obtain ⟨fd, F⟩ := T.d_law_second
  refine gf0 F (fnG F sc_law_second (fun vs H Q E h => ?_) (fun cdv A outer s H vs Q E hr h => ?_)) (fun _ _ _ _ _ _ us hl => match us, hl with | [_, _, _], _ => rfl)
  · obtain ⟨p, a, b, rfl, _⟩ := h
    rfl
  obtain ⟨p, a, b, rfl, hp, ab, bb, b0, k⟩ := h
  refine ⟨_, PSs.nox (pss_cons (ps_par (i := 3) (j := 4) (by rfl) sc_law_second.nd rfl rfl (by decide) rfl rfl (pa_cons (pe_g (ok_law_draw T) T.g_law_draw hr (by decide) pass0 (pa_cons (pv 0) (pa_cons pe_int pa_nil))) (pa_cons (pe_op op_add pe_int (pe_g (ok_law_draw T) T.g_law_draw hr (by decide) pass0 (pa_cons (pv 0) (pa_cons (pe_op op_pow pe_int pe_int) pa_nil)))) pa_nil)) (by rfl)) (pss_cons (ps_if (pt_cmpR op_lt (pv 3) pe_int (nomark _)) (pss_one (ps_ret (pe_tup (pa_cons (pe_g (ok_law_integer T) T.g_law_integer hr (by decide) pass0 (pa_cons (pv 0) pa_nil)) (pa_cons (pe_op op_add pe_int (pe_callB call_abs (by rfl) T.f_abs (by decide +kernel) (pa_cons (pe_g (ok_law_integer T) T.g_law_integer hr (by decide) pass0 (pa_cons (pv 0) pa_nil)) pa_nil))) pa_nil))))) pss_nil) (pss_cons (ps_if (pt_cmpR op_eqI (pv 3) pe_int (nomark _)) (pss_one (ps_ret (pe_tup (pa_cons (pe_op op_mulA (pv 1) (pv 4)) (pa_cons (pe_op op_mulA (pv 2) (pv 4)) pa_nil))))) pss_nil) (pss_one (ps_ret (pe_tup (pa_cons (pe_op op_sub (pe_op op_add (pe_op op_mulA (pv 1) (pv 4)) pe_int) (pe_op op_mulA pe_int (pe_g (ok_law_draw T) T.g_law_draw hr (by decide) pass0 (pa_cons (pv 0) (pa_cons pe_int pa_nil))))) (pa_cons (pe_op op_mulA (pv 2) (pv 4)) pa_nil)))))))), ?_⟩
  walk_at "in"
  walk_at "go"
  refine go_draw hp (by decide) (by decide) fun way H1 wa wb hp1 b1 => ?_
  walk_at "go"
  refine go_draw hp1 (by decide) (by decide) fun sp H2 sa sb hp2 b2 => ?_
  walk_at "go"
  have s0 : 0 < 1 + sp := by omega
  have sbd : Bd 20 (1 + sp) := Bd.of (by omega) (by omega)
  have d0 : 0 < b * (1 + sp) := Int.mul_pos b0 s0
  refine i_two (fun h => ?_) (fun h => ?_)
  · walk_at "go"
    refine go_integer hp2 fun c H3 c1 c2 hp3 b3 => ?_
    walk_at "go"
    refine go_integer hp3 fun u H4 u1 u2 hp4 b4 => ?_
    walk_at "go"
    intro l hl
    refine k l c _ _ upd_same ((Bd.ten c1 c2).mono (by decide)) (by split <;> omega) ?_ (hp4.new hl) (by walk_at "bt") (hp4.ne hl)
    rw [abs_nat, Int.add_comm]
    exact ((Bd.add (a := 240) (b := 1) ((Bd.ten u1 u2).le (by omega)) (Bd.of (by decide) (by decide)))).mono (by decide)
  · walk_at "go"
    refine i_two (fun h => ?_) (fun h => ?_)
    · walk_at "go"
      intro l hl
      exact k l _ _ _ upd_same ((ab.mul sbd).mono (by decide)) d0 ((bb.mul sbd).mono (by decide)) (hp2.new hl) (by walk_at "bt") (hp2.ne hl)
    · walk_at "go"
      refine go_draw hp2 (by decide) (by decide) fun e H3 ea eb hp3 b3 => ?_
      walk_at "go"
      intro l hl
      refine k l _ _ _ upd_same ?_ d0 ((bb.mul sbd).mono (by decide)) (hp3.new hl) (by walk_at "bt") (hp3.ne hl)
      have t1 : Bd 5 (2 * e) := Bd.of (by omega) (by omega)
      have t2 : Bd 5 1 := Bd.of (by decide) (by decide)
      exact (((ab.mul sbd).add t2).sub t1).mono (by decide)
end

end Toy

set_option Elab.async false
set_option linter.all false
set_option maxRecDepth 100000
set_option maxHeartbeats 4000000
namespace Toy
open PySem PySem.Spec PyProof.Rows L2 My SX
local macro_rules | `(tactic| walk_at "ne") => `(tactic| first
  | with_reducible assumption
  | exact Ne.symm (by with_reducible assumption)
  | (refine' ne_of_none ?hx ?hy; (case hy => with_reducible assumption); (case hx => walk_at "hf"))
  | (refine' Ne.symm (ne_of_none ?hx ?hy); (case hy => with_reducible assumption); (case hx => walk_at "hf")))
local macro_rules | `(tactic| walk_at "hf") => `(tactic| first
  | with_reducible assumption
  | with_reducible exact upd_same
  | ((with_reducible refine' Same.at ?hs ?hr); (case hs => with_reducible assumption); (case hr => walk_at "hf"))
  | ((with_reducible refine' at_or ?hr ?hn); (case hr => walk_at "hf"); (case hn => first | exact Or.inl (by with_reducible assumption) | exact Or.inr (by walk_at "ne")))
  | ((with_reducible refine' But.at ?hb ?hn ?hr); (case hb => with_reducible assumption); (case hr => walk_at "hf"); (case hn => walk_at "ne")))
local macro_rules | `(tactic| walk_at "sq") => `(tactic| first
  | with_reducible assumption
  | exact SqL.of (by walk_at "hf"))
local macro_rules | `(tactic| walk_at "sqo") => `(tactic| first
  | exact Or.inl (by with_reducible assumption)
  | exact Or.inr (by with_reducible assumption)
  | exact Or.inl (SqL.of (by walk_at "hf"))
  | exact Or.inr (SqT.of (by walk_at "hf")))
local macro_rules | `(tactic| walk_at "sqt") => `(tactic| first
  | with_reducible assumption
  | exact SqT.of (by walk_at "hf"))
local macro_rules | `(tactic| walk_at "lg") => `(tactic| first
  | with_reducible assumption
  | exact Bd.lg (by with_reducible assumption) (by decide) (by decide)
  | exact Bd.lg (Bd.of (b := 100) (by omega) (by omega)) (by decide) (by decide))
local macro_rules | `(tactic| walk_at "len") => `(tactic| first
  | with_reducible assumption
  | ((simp only [txt_int, lcat, S_len, List.length_append, List.length_cons, List.length_nil]); omega)
  | (apply of_decide_eq_true; rfl))
local macro_rules | `(tactic| walk_at "side") => `(tactic| first
  | with_reducible assumption
  | omega
  | exact ml (by omega) (by omega)
  | exact mr (by omega) (by omega)
  | exact dv (by omega) (by omega)
  | exact Bd.mulOk (by with_reducible assumption) (by with_reducible assumption) (by decide) (by decide) (by decide)
  | exact Bd.div (by with_reducible assumption) (by omega) (by decide) (by decide)
  | (show (0 : Int) < _; omega)
  | decide
  | exact ni_non
  | exact rfl
  | ((simp only [List.length_cons, List.length_nil, List.length_map]); omega))
local macro_rules | `(tactic| walk_at "st") => `(tactic| first
  | ((with_reducible refine' r_var ?hh ?_); (case hh => rfl))
  | with_reducible refine r_c ?_
  | with_reducible refine r_op ?_
  | with_reducible refine r_i0 ?_
  | with_reducible refine r_cons ?_
  | with_reducible refine r_nil ?_
  | with_reducible refine r_seq ?_
  | with_reducible refine r_asg ?_
  | with_reducible refine r_gname ?_
  | with_reducible refine r_ret ?_
  | with_reducible refine r_ifS ?_
  | with_reducible refine r_test ?_
  | with_reducible refine r_tB ?_
  | with_reducible refine b_bl ?_
  | with_reducible refine i_t ?_
  | with_reducible refine i_f ?_
  | with_reducible refine i_nt ?_
  | with_reducible refine i_nf ?_
  | ((with_reducible refine' i_pos ?hh ?_); (case hh => walk_at "side"))
  | ((with_reducible refine' i_neg ?hh ?_); (case hh => walk_at "side"))
  | ((with_reducible refine' n_pos ?hh ?_); (case hh => walk_at "side"))
  | ((with_reducible refine' n_neg ?hh ?_); (case hh => walk_at "side"))
  | ((with_reducible refine' r_pow ?hh ?he ?_); (case hh => first | exact ⟨by decide, by decide, by decide⟩ | exact ⟨by decide, by decide, by omega⟩); (case he => first | ((simp only [Int.reduceToNat, Int.reducePow]); done) | ((simp only [Int.reduceToNat, Int.reducePow]); rfl) | rfl))
  | ((with_reducible refine' r_i ?hh ?_); (case hh => walk_at "side"))
  | with_reducible refine r_call0 ?_
  | with_reducible refine r_call ?_
  | with_reducible refine r_cb ?_
  | with_reducible refine r_int ?_
  | ((with_reducible refine' r_strI ?hh ?_); (case hh => walk_at "lg"))
  | with_reducible refine r_i1 ?_
  | with_reducible refine r_i2 ?_
  | with_reducible refine r_par ?_
  | with_reducible refine r_two ?_
  | with_reducible refine r_and ?_
  | with_reducible refine r_or ?_
  | with_reducible refine r_not ?_
  | with_reducible refine r_tif ?_
  | with_reducible refine r_andV ?_
  | with_reducible refine r_orV ?_
  | with_reducible refine r_notV ?_
  | with_reducible refine r_un ?_
  | with_reducible refine r_u ?_
  | with_reducible refine r_sb ?_
  | with_reducible refine r_drop ?_
  | with_reducible refine r_next ?_
  | with_reducible refine r_gsub ?_
  | ((with_reducible refine' r_ixL ?hh ?he ?_); (case hh => walk_at "sq"); (case he => rfl))
  | ((with_reducible refine' r_ixT ?hh ?he ?_); (case hh => walk_at "sqt"); (case he => rfl))
  | ((with_reducible refine' r_setL ?hh ?he ?_); (case hh => walk_at "hf"); (case he => rfl))
  | with_reducible refine r_gcons ?_
  | with_reducible refine r_gnil ?_
  | with_reducible refine r_sl ?_
  | with_reducible refine r_nopart ?_
  | with_reducible refine r_part ?_
  | with_reducible refine r_pint ?_
  | ((with_reducible refine' r_lenS ?hh ?_); (case hh => walk_at "sqo"))
  | ((with_reducible refine' r_gtup ?hh ?he ?_); (case hh => walk_at "sqt"); (case he => rfl))
  | ((with_reducible refine' r_slL ?hh ?_); (case hh => walk_at "sq"))
  | ((with_reducible refine' r_len ?hh ?_); (case hh => exact sz (by (try simp only [List.length_map]); (first | omega | decide | exact Nat.le_of_ble_eq_true rfl))))
  | with_reducible refine r_isi_ii ?_
  | with_reducible refine r_isi_ib ?_
  | with_reducible refine r_isi_ss ?_
  | ((with_reducible refine' r_isi_own ?hh ?hi ?hk ?_); (case hh => walk_at "hf"); (case hi => with_reducible assumption); (case hk => with_reducible assumption))
  | with_reducible refine r_lst ?_
  | with_reducible refine r_tup ?_
  | with_reducible refine r_make ?_
  | with_reducible refine r_forR1 ?_
  | with_reducible refine r_forL ?_
  | with_reducible refine r_forT ?_
  | with_reducible refine r_forR2 ?_
  | with_reducible refine r_ref1 ?_
  | with_reducible refine r_brk ?_
  | with_reducible refine r_cont ?_
  | with_reducible refine r_retN ?_
  | with_reducible refine r_rr ?_
  | with_reducible refine r_fmt ?_
  | ((with_reducible refine' r_fmti ?hh ?_); (case hh => walk_at "lg"))
  | with_reducible refine r_js ?_
  | with_reducible refine r_js0 ?_
  | ((with_reducible refine' r_jsp ?hh ?_); (case hh => walk_at "len"))
  | with_reducible refine r_m0 ?_
  | with_reducible refine r_m1 ?_
  | with_reducible refine r_str ?_
  | with_reducible refine r_ss ?_
  | with_reducible refine r_s0 ?_
  | ((with_reducible refine' r_addS ?hh ?_); (case hh => walk_at "len"))
  | ((with_reducible refine' r_slS ?hh ?_); (case hh => walk_at "len"))
  | ((with_reducible refine' r_lenT ?hh ?_); (case hh => walk_at "len"))
  | ((with_reducible refine' r_inT ?hh ?hf ?he ?_); (case hh => walk_at "sqt"); (case hf => rfl); (case he => rfl))
  | ((with_reducible refine' r_inF ?hh ?hf ?he ?_); (case hh => walk_at "sqt"); (case hf => rfl); (case he => rfl))
  | ((with_reducible refine' r_makeL ?hh ?_); (case hh => rfl))
  | with_reducible refine r_tprop ?_
  | with_reducible refine r_tfld ?_
  | ((with_reducible refine' f_prop ?hh ?_); (case hh => walk_at "hf"))
  | ((with_reducible refine' f_fld ?hh ?hc ?hn ?hl ?_); (case hh => walk_at "hf"); (case hc => with_reducible assumption); (case hn => with_reducible assumption); (case hl => rfl))
  | with_reducible refine r_tcm ?_
  | with_reducible refine r_chain ?_
  | with_reducible refine r_bl1 ?_
  | with_reducible refine r_intb ?_
  | with_reducible refine r_yes ?_
  | with_reducible refine r_makeK ?_
  | with_reducible refine r_sfld ?_
  | ((with_reducible refine' f_sfld ?hh ?hc ?hn ?hl ?_); (case hh => walk_at "hf"); (case hc => with_reducible assumption); (case hn => with_reducible assumption); (case hl => exact Nat.le_of_ble_eq_true rfl))
  | with_reducible refine r_lcL ?_
  | with_reducible refine r_lcT ?_
  | with_reducible refine r_lcR1 ?_
  | with_reducible refine r_lcR2 ?_)
local macro_rules | `(tactic| walk_at "go") => `(tactic| (repeat walk_at "st"))
local macro_rules | `(tactic| walk_at "in") => `(tactic| dsimp only [cxOf, L2.start, List.map, List.length, List.replicate, Nat.reduceSub, Nat.reduceAdd, List.cons_append, List.nil_append, List.append_nil])
local macro_rules | `(tactic| walk_at "bt") => `(tactic| first
  | with_reducible assumption
  | exact But.rfl
  | exact Same.but (by with_reducible assumption)
  | (refine' But.put ?ha; (case ha => walk_at "bt"))
  | (refine' But.new ?ha ?hn; (case hn => with_reducible assumption); (case ha => walk_at "bt"))
  | (refine' But.trans ?ha ?hb; (case hb => with_reducible assumption); (case ha => walk_at "bt"))
  | (refine' But.trans ?ha (Same.but ?hb); (case hb => with_reducible assumption); (case ha => walk_at "bt")))
local macro_rules | `(tactic| walk_at "sm") => `(tactic| first
  | with_reducible assumption
  | exact Same.refl _
  | (refine' Same.new ?ha ?hn; (case hn => with_reducible assumption); (case ha => walk_at "sm"))
  | (refine' Same.trans ?ha ?hb; (case hb => with_reducible assumption); (case ha => walk_at "sm")))

section
variable {P : Program} {w : World} {K : PySem.W.Frag} {mg : Str → Option Value} {base : Heap}
theorem bd_add {a : Nat} {i j : Int} (h : Bd a i) (k : Bd a j) : Bd (a + 1) (i + j) := by
  unfold Bd at *
  have h3 : (2 : Nat) ^ (a + 1) = 2 ^ a * 2 := Nat.pow_succ ..
  omega
theorem bd_sub {a : Nat} {i j : Int} (h : Bd a i) (k : Bd a j) : Bd (a + 1) (i - j) := by
  rw [Int.sub_eq_add_neg]
  exact bd_add h k.neg
/-- the ratio at x is in lowest terms, its value is N / D, its numbers have at most b bits -/
def Val (K : PySem.W.Frag) (b : Nat) (H : Hp) (x : Addr) (N D : Int) : Prop := ∃ n d, Rt K H x n d ∧ 0 < d ∧ Int.gcd n d = 1 ∧ n * D = N * d ∧ Bd b n ∧ Bd b d
theorem Val.same {b : Nat} {H H' : Hp} {x : Addr} {N D : Int} (h : Val K b H x N D) (s : Same H H') : Val K b H' x N D := let ⟨n, d, r, q⟩ := h; ⟨n, d, r.same s, q⟩
theorem Val.new {b : Nat} {H : Hp} {x l : Addr} {N D : Int} {o : HO} (h : Val K b H x N D) (k : H l = none) : Val K b (upd H l o) x N D := h.same (My.Same.new (Same.refl H) k)
theorem val_new {b : Nat} {H' : Hp} {x : Addr} {n d N D : Int} (r : Rt K H' x (n / Int.gcd n d) (d / Int.gcd n d)) (d0 : 0 < d) (e : n * D = N * d) (nb : Bd b n) (db : Bd b d) : Val K b H' x N D := by
  have g0 := gcd_pos n d0
  have en : (Int.gcd n d : Int) * (n / Int.gcd n d) = n := Int.mul_ediv_cancel' (Int.gcd_dvd_left ..)
  have ed : (Int.gcd n d : Int) * (d / Int.gcd n d) = d := Int.mul_ediv_cancel' (Int.gcd_dvd_right ..)
  refine ⟨_, _, r, ?_, Int.gcd_ediv_gcd_ediv_gcd (by omega), ?_, nb.quo _, db.quo _⟩
  · rcases Int.lt_trichotomy (d / Int.gcd n d) 0 with z | z | z
    · have := Int.mul_neg_of_pos_of_neg g0 z
      omega
    · rw [z] at ed
      omega
    · exact z
  · generalize n / Int.gcd n d = x at en ⊢
    generalize d / Int.gcd n d = y at ed ⊢
    generalize (Int.gcd n d : Int) = g at *
    refine Int.eq_of_mul_eq_mul_left (show g ≠ 0 by omega) ?_
    calc g * (x * D) = (g * x) * D := by ac_rfl
      _ = N * (g * y) := by rw [en, ed, e]
      _ = g * (N * y) := by ac_rfl
theorem val_uniq {n d z m : Int} (d0 : 0 < d) (m0 : 0 < m) (g1 : Int.gcd n d = 1) (g2 : Int.gcd z m = 1) (e : n * m = z * d) : n = z ∧ d = m := by
  have c : ∀ {x y k : Int}, Int.gcd x y = 1 → y ∣ x * k → y ∣ k := fun {x y k} g h => by
    have h2 : y.natAbs ∣ x.natAbs * k.natAbs := by
      rw [← Int.natAbs_mul]
      exact Int.natAbs_dvd_natAbs.mpr h
    have g2 : Nat.Coprime y.natAbs x.natAbs := by
      show Nat.gcd y.natAbs x.natAbs = 1
      rw [Nat.gcd_comm]
      exact g
    exact Int.natAbs_dvd_natAbs.mp (g2.dvd_of_dvd_mul_left h2)
  have h1 : d ∣ m := c g1 (by rw [e]; exact Int.dvd_mul_left z d)
  have h2 : m ∣ d := c g2 (by rw [← e]; exact Int.dvd_mul_left n m)
  have h3 : d = m := Int.dvd_antisymm (by omega) (by omega) h1 h2
  subst h3
  exact ⟨Int.eq_of_mul_eq_mul_right (by omega) e, rfl⟩
theorem Val.ratV {b : Nat} {H : Hp} {x : Addr} {n d : Int} (hb : b ≤ 1500) (r : Rt K H x n d) (d0 : 0 < d) (nb : Bd b n) (db : Bd b d) : RatV K H x n d := ⟨r, d0, nb.mono hb, db.mono hb⟩
end

local macro_rules | `(tactic| walk_at "va") => `(tactic| first
  | with_reducible assumption
  | ((with_reducible refine' Val.same ?hv ?hs); (case hs => with_reducible assumption); (case hv => walk_at "va"))
  | ((with_reducible refine' Val.new ?hv ?hn); (case hn => with_reducible assumption); (case hv => walk_at "va")))
local macro_rules | `(tactic| walk_at "pu") => `(tactic| first
  | with_reducible assumption
  | ((with_reducible refine' Purse.same ?hv ?hs); (case hs => with_reducible assumption); (case hv => walk_at "pu"))
  | ((with_reducible refine' Purse.new ?hv ?hn); (case hn => with_reducible assumption); (case hv => walk_at "pu")))
section
variable {P : Program} {w : World} {K : PySem.W.Frag} {mg : Str → Option Value} {base : Heap}
theorem Val.but {b : Nat} {H H' : Hp} {p x : Addr} {N D : Int} (v : Val K b H x N D) (h : But p H H') (n : x ≠ p) : Val K b H' x N D := let ⟨k, d, ⟨dx, r⟩, q⟩ := v; ⟨k, d, ⟨dx, h _ _ n r⟩, q⟩
theorem ord1 {x y l r p q : Int} (p0 : 0 < p) (q0 : 0 < q) (e1 : x * p = l * q) (e2 : y * p = r * q) : (x < y ↔ l < r) ∧ (x = y ↔ l = r) := by
  constructor
  · constructor
    · intro h
      refine Int.lt_of_mul_lt_mul_right ?_ (Int.le_of_lt q0)
      rw [← e1, ← e2]
      exact Int.mul_lt_mul_of_pos_right h p0
    · intro h
      refine Int.lt_of_mul_lt_mul_right ?_ (Int.le_of_lt p0)
      rw [e1, e2]
      exact Int.mul_lt_mul_of_pos_right h q0
  · constructor
    · rintro rfl
      exact Int.eq_of_mul_eq_mul_right (by omega) (e1.symm.trans e2)
    · rintro rfl
      exact Int.eq_of_mul_eq_mul_right (by omega) (e1.trans e2.symm)
theorem cmp_rr {H : Hp} {x y : Addr} {a b c d : Int} {p q : Nat} (v1 : Val K p H x a b) (v2 : Val K q H y c d) (hp : p ≤ 1500) (hq : q ≤ 1500) (b0 : 0 < b) (d0 : 0 < d) : Cmp K H (a * d) (c * b) (.ref x) (.ref y) := by
  obtain ⟨n, e, r1, e0, g1, q1, nb, eb⟩ := v1
  obtain ⟨z, m, r2, m0, g2, q2, zb, mb⟩ := v2
  have h1 : n * m * (b * d) = a * d * (e * m) := by
    calc n * m * (b * d) = (n * b) * (m * d) := by ac_rfl
      _ = a * d * (e * m) := by rw [q1]; ac_rfl
  have h2 : z * e * (b * d) = c * b * (e * m) := by
    calc z * e * (b * d) = (z * d) * (e * b) := by ac_rfl
      _ = c * b * (e * m) := by rw [q2]; ac_rfl
  have P0 := Int.mul_pos b0 d0
  have Q0 := Int.mul_pos e0 m0
  obtain ⟨o1, o2⟩ := ord1 P0 Q0 h1 h2
  obtain ⟨o3, _⟩ := ord1 P0 Q0 h2 h1
  refine .rr (Val.ratV hp r1 e0 nb eb) (Val.ratV hq r2 m0 zb mb) o1 o3 ⟨?_, fun h => val_uniq e0 m0 g1 g2 (o2.mpr h)⟩
  rintro ⟨rfl, rfl⟩
  exact o2.mp rfl
theorem cmp_i {H : Hp} {x : Addr} {a b i : Int} {p : Nat} (v1 : Val K p H x a b) (hp : p ≤ 1500) (ib : Bd 1500 i) (b0 : 0 < b) : Cmp K H a (i * b) (.ref x) (.int i) ∧ Cmp K H (i * b) a (.int i) (.ref x) := by
  obtain ⟨n, e, r1, e0, g1, q1, nb, eb⟩ := v1
  have h2 : i * e * b = i * b * e := by ac_rfl
  obtain ⟨o1, o2⟩ := ord1 b0 e0 q1 h2
  obtain ⟨o3, _⟩ := ord1 b0 e0 h2 q1
  have u : n = i * e → e = 1 ∧ n = i := fun h => by
    have z := val_uniq e0 (show (0 : Int) < 1 by decide) g1 (show Int.gcd i 1 = 1 by simp) (by rw [Int.mul_one]; exact h)
    exact ⟨z.2, z.1⟩
  have u2 : e = 1 ∧ n = i → n = i * e := by
    rintro ⟨rfl, rfl⟩
    rw [Int.mul_one]
  exact ⟨.ri (Val.ratV hp r1 e0 nb eb) ib o1 o3 ⟨fun h => o2.mp (u2 h), fun h => u (o2.mpr h)⟩, .ir (Val.ratV hp r1 e0 nb eb) ib o3 o1 ⟨fun h => (o2.mp (u2 h)).symm, fun h => u (o2.mpr h.symm)⟩⟩
theorem ok_law_right (T : Tx K mg) : Gf P w K mg base CX0 6 (He.ga K "_law_right") ["_law_purse_here"] [] spRight := by
  obtain ⟨fd, F⟩ := T.d_law_right
  refine gf0 F (fnG F sc_law_right (fun vs H Q E h => ?_) (fun cdv A outer s H vs Q E hr h => ?_)) (fun _ _ _ _ _ _ us hl => match us, hl with | [_], _ => rfl)
  · obtain ⟨p, rfl, _⟩ := h
    rfl
  obtain ⟨p, rfl, hp, k⟩ := h
  refine ⟨_, PSs.nox (pss_cons (ps_par (i := 1) (j := 2) (by rfl) sc_law_right.nd rfl rfl (by decide) rfl rfl (pa_cons (pe_g (ok_law_integer T) T.g_law_integer hr (by decide) pass0 (pa_cons (pv 0) pa_nil)) (pa_cons (pe_op op_add pe_int (pe_callB call_abs (by rfl) T.f_abs (by decide +kernel) (pa_cons (pe_g (ok_law_integer T) T.g_law_integer hr (by decide) pass0 (pa_cons (pv 0) pa_nil)) pa_nil))) pa_nil)) (by rfl)) (pss_cons (ps_asg (pe_g (ok_law_second T) T.g_law_second hr (by decide) pass0 (pa_cons (pv 0) (pa_cons (pv 1) (pa_cons (pv 2) pa_nil)))) (pg_tupK (K := K) rfl rfl (pgs_cons (pg_name (i := 3) sc_law_right.nd rfl (Or.inl rfl)) (pgs_cons (pg_name (i := 4) sc_law_right.nd rfl (Or.inl rfl)) pgs_nil)))) (pss_cons (ps_par (i := 5) (j := 6) (by rfl) sc_law_right.nd rfl rfl (by decide) rfl rfl (pa_cons (pe_mk T.mk_Ratio (ok_Ratio_2 T) T.g_Ratio hr (by decide) pass0 (pa_cons (pv 1) (pa_cons (pv 2) pa_nil))) (pa_cons (pe_mk T.mk_Ratio (ok_Ratio_2 T) T.g_Ratio hr (by decide) pass0 (pa_cons (pv 3) (pa_cons (pv 4) pa_nil))) pa_nil)) (by rfl)) (pss_cons (ps_if (pt_cmpR op_neS (pe_callB (call_reprK (K := K) rfl hr) (by rfl) T.f_repr (by decide +kernel) (pa_cons (pe_g (ok_law_told T) T.g_law_told hr (by decide) pass0 (pa_cons (pv 5) (pa_cons (pv 6) pa_nil))) pa_nil)) (pe_callB (call_reprK (K := K) rfl hr) (by rfl) T.f_repr (by decide +kernel) (pa_cons (pe_g (ok_law_due T) T.g_law_due hr (by decide) pass0 (pa_cons (pe_op op_mulA (pv 1) (pv 4)) (pa_cons (pe_op op_mulA (pv 3) (pv 2)) pa_nil))) pa_nil)) (nomark _)) (pss_one (ps_ret pe_bl)) pss_nil) (pss_cons (ps_if (pt_cmpR op_neS (pe_callB (call_reprK (K := K) rfl hr) (by rfl) T.f_repr (by decide +kernel) (pa_cons (pe_g (ok_law_told T) T.g_law_told hr (by decide) pass0 (pa_cons (pv 6) (pa_cons (pv 5) pa_nil))) pa_nil)) (pe_callB (call_reprK (K := K) rfl hr) (by rfl) T.f_repr (by decide +kernel) (pa_cons (pe_g (ok_law_due T) T.g_law_due hr (by decide) pass0 (pa_cons (pe_op op_mulA (pv 3) (pv 2)) (pa_cons (pe_op op_mulA (pv 1) (pv 4)) pa_nil))) pa_nil)) (nomark _)) (pss_one (ps_ret pe_bl)) pss_nil) (pss_cons (ps_set (i := 7) sc_law_right.nd rfl (Or.inl rfl) (pe_op op_fdivW (pv 1) (pv 2))) (pss_cons (ps_for PassesOwn.never rfl (pi_listK (K := K) rfl (pe_lst (pa_cons (pv 7) (pa_cons (pe_op op_add (pv 7) pe_int) (pa_cons (pe_g (ok_law_integer T) T.g_law_integer hr (by decide) pass0 (pa_cons (pv 0) pa_nil)) (pa_cons pe_int pa_nil)))))) (pg_name (i := 8) sc_law_right.nd rfl (Or.inl rfl)) (pss_cons (ps_if (pt_cmpR op_neS (pe_callB (call_reprK (K := K) rfl hr) (by rfl) T.f_repr (by decide +kernel) (pa_cons (pe_g (ok_law_told T) T.g_law_told hr (by decide) pass0 (pa_cons (pv 5) (pa_cons (pv 8) pa_nil))) pa_nil)) (pe_callB (call_reprK (K := K) rfl hr) (by rfl) T.f_repr (by decide +kernel) (pa_cons (pe_g (ok_law_due T) T.g_law_due hr (by decide) pass0 (pa_cons (pv 1) (pa_cons (pe_op op_mulA (pv 8) (pv 2)) pa_nil))) pa_nil)) (nomark _)) (pss_one (ps_ret pe_bl)) pss_nil) (pss_one (ps_if (pt_cmpR op_neS (pe_callB (call_reprK (K := K) rfl hr) (by rfl) T.f_repr (by decide +kernel) (pa_cons (pe_g (ok_law_told T) T.g_law_told hr (by decide) pass0 (pa_cons (pv 8) (pa_cons (pv 5) pa_nil))) pa_nil)) (pe_callB (call_reprK (K := K) rfl hr) (by rfl) T.f_repr (by decide +kernel) (pa_cons (pe_g (ok_law_due T) T.g_law_due hr (by decide) pass0 (pa_cons (pe_op op_mulA (pv 8) (pv 2)) (pa_cons (pv 1) pa_nil))) pa_nil)) (nomark _)) (pss_one (ps_ret pe_bl)) pss_nil)))) (pss_one (ps_ret pe_bl))))))))), ?_⟩
  walk_at "in"
  walk_at "go"
  refine go_integer hp fun a H1 a1 a2 hp1 b1 => ?_
  walk_at "go"
  refine go_integer hp1 fun u H2 u1 u2 hp2 b2 => ?_
  walk_at "go"
  generalize hu : (1 + if u < 0 then -u else u) = un
  have un0 : 0 < un := by subst hu; split <;> omega
  have unb : Bd 241 un := by
    subst hu
    rw [abs_nat, Int.add_comm]
    exact bd_add (a := 240) ((Bd.ten u1 u2).le (by omega)) (Bd.of (by decide) (by decide))
  have ab : Bd 241 a := (Bd.ten a1 a2).mono (by decide)
  refine go_second hp2 ab unb un0 fun t c d H3 ht cb d0 db hp3 b3 nt => ?_
  walk_at "go"
  refine go_mk rfl un0 (unb.mono (by decide)) fun x1 H4 hx1 r1 s1 => ?_
  have v1 : Val K 300 H4 x1 a un := val_new r1 un0 rfl (ab.mono (by decide)) (unb.mono (by decide))
  walk_at "go"
  refine go_mk rfl d0 (db.mono (by decide)) fun x2 H5 hx2 r2 s2 => ?_
  have v2 : Val K 300 H5 x2 c d := val_new r2 d0 rfl cb db
  walk_at "go"
  refine go_told (cmp_rr (v1.same s2) v2 (by decide) (by decide) un0 d0) fun l1 hl1 => ?_
  walk_at "go"
  refine go_reprS (by walk_at "hf") ?_
  walk_at "go"
  refine go_due fun l2 hl2 => ?_
  walk_at "go"
  refine go_reprS (by walk_at "hf") ?_
  walk_at "go"
  refine go_told (cmp_rr (a := c) (b := d) (c := a) (d := un) (p := 300) (q := 300) (by walk_at "va") (by walk_at "va") (by decide) (by decide) d0 un0) fun l3 hl3 => ?_
  walk_at "go"
  refine go_reprS (by walk_at "hf") ?_
  walk_at "go"
  refine go_due fun l4 hl4 => ?_
  walk_at "go"
  refine go_reprS (by walk_at "hf") ?_
  walk_at "go"
  have nearb : Bd 241 (a / un) := ab.quo un
  refine go_integer (by walk_at "pu") fun i H6 i1 i2 hp6 b6 => ?_
  walk_at "go"
  intro l hl
  walk_at "go"
  have w1 : Val K 300 H6 x1 a un := Val.but (by walk_at "va") b6 (hp3.ne hx1)
  have q1 : Bd 300 (a / un) := nearb.mono (by decide)
  have q2 : Bd 300 (a / un + 1) := (nearb.add (b := 1) (Bd.of (by decide) (by decide))).mono (by decide)
  have q3 : Bd 300 i := (Bd.ten i1 i2).mono (by decide)
  refine ⟨⟨_, SqL.of upd_same⟩, lp_list (xs := [a / un, a / un + 1, i, 0].map V.int) (fun j σ H' => ∃ v, σ = [some (.ref p), some (.int a), some (.int un), some (.int c), some (.int d), some (.ref x1), some (.ref x2), some (.int (a / un)), v] ∧ Same (upd H6 l (.lst [.int (a / un), .int (a / un + 1), .int i, .int 0])) H') ⟨none, rfl, Same.refl _⟩ (fun j σ H' _ ⟨_, _, q⟩ => SqL.of (q _ _ upd_same)) ?_ ?_⟩
  · rintro j y σ H7 hy ⟨v, rfl, sm⟩
    obtain ⟨z, rfl, hz, _⟩ := get_map hy
    have zb : Bd 300 z := by
      have hm := List.mem_of_getElem? hz
      simp only [List.mem_cons, List.not_mem_nil, or_false] at hm
      rcases hm with rfl | rfl | rfl | rfl
      · exact q1
      · exact q2
      · exact q3
      · exact Nat.pow_pos (by decide)
    have w7 : Val K 300 H7 x1 a un := (w1.new hl).same sm
    walk_at "go"
    refine go_told (cmp_i w7 (by decide) (zb.mono (by decide)) un0).1 fun l5 hl5 => ?_
    walk_at "go"
    refine go_reprS (by walk_at "hf") ?_
    walk_at "go"
    refine go_due fun l6 hl6 => ?_
    walk_at "go"
    refine go_reprS (by walk_at "hf") ?_
    walk_at "go"
    refine go_told (cmp_i (by walk_at "va") (by decide) (zb.mono (by decide)) un0).2 fun l7 hl7 => ?_
    walk_at "go"
    refine go_reprS (by walk_at "hf") ?_
    walk_at "go"
    refine go_due fun l8 hl8 => ?_
    walk_at "go"
    refine go_reprS (by walk_at "hf") ?_
    walk_at "go"
    exact ⟨_, rfl, by walk_at "sm"⟩
  · rintro σ H7 ⟨v, rfl, sm⟩
    walk_at "go"
    exact k _ (by walk_at "bt")
theorem go_right {p : Addr} {H : Hp} {Q : VK} {E : XK} (hp : Purse H p) (k : ∀ H', But p H H' → Q (.bl true) H') : spRight [.ref p] H Q E := ⟨p, rfl, hp, k⟩
end

end Toy

set_option Elab.async false
set_option linter.all false
set_option maxRecDepth 100000
set_option maxHeartbeats 4000000
namespace Toy
open PySem PySem.Spec PyProof.Rows L2 My SX
local macro_rules | `(tactic| walk_at "ne") => `(tactic| first
  | with_reducible assumption
  | exact Ne.symm (by with_reducible assumption)
  | (refine' ne_of_none ?hx ?hy; (case hy => with_reducible assumption); (case hx => walk_at "hf"))
  | (refine' Ne.symm (ne_of_none ?hx ?hy); (case hy => with_reducible assumption); (case hx => walk_at "hf")))
local macro_rules | `(tactic| walk_at "hf") => `(tactic| first
  | with_reducible assumption
  | with_reducible exact upd_same
  | ((with_reducible refine' Same.at ?hs ?hr); (case hs => with_reducible assumption); (case hr => walk_at "hf"))
  | ((with_reducible refine' at_or ?hr ?hn); (case hr => walk_at "hf"); (case hn => first | exact Or.inl (by with_reducible assumption) | exact Or.inr (by walk_at "ne")))
  | ((with_reducible refine' But.at ?hb ?hn ?hr); (case hb => with_reducible assumption); (case hr => walk_at "hf"); (case hn => walk_at "ne")))
local macro_rules | `(tactic| walk_at "sq") => `(tactic| first
  | with_reducible assumption
  | exact SqL.of (by walk_at "hf"))
local macro_rules | `(tactic| walk_at "sqo") => `(tactic| first
  | exact Or.inl (by with_reducible assumption)
  | exact Or.inr (by with_reducible assumption)
  | exact Or.inl (SqL.of (by walk_at "hf"))
  | exact Or.inr (SqT.of (by walk_at "hf")))
local macro_rules | `(tactic| walk_at "sqt") => `(tactic| first
  | with_reducible assumption
  | exact SqT.of (by walk_at "hf"))
local macro_rules | `(tactic| walk_at "lg") => `(tactic| first
  | with_reducible assumption
  | exact Bd.lg (by with_reducible assumption) (by decide) (by decide)
  | exact Bd.lg (Bd.of (b := 100) (by omega) (by omega)) (by decide) (by decide))
local macro_rules | `(tactic| walk_at "len") => `(tactic| first
  | with_reducible assumption
  | ((simp only [txt_int, lcat, S_len, List.length_append, List.length_cons, List.length_nil]); omega)
  | (apply of_decide_eq_true; rfl))
local macro_rules | `(tactic| walk_at "side") => `(tactic| first
  | with_reducible assumption
  | omega
  | exact ml (by omega) (by omega)
  | exact mr (by omega) (by omega)
  | exact dv (by omega) (by omega)
  | exact Bd.mulOk (by with_reducible assumption) (by with_reducible assumption) (by decide) (by decide) (by decide)
  | exact Bd.div (by with_reducible assumption) (by omega) (by decide) (by decide)
  | (show (0 : Int) < _; omega)
  | decide
  | exact ni_non
  | exact rfl
  | ((simp only [List.length_cons, List.length_nil, List.length_map]); omega))
local macro_rules | `(tactic| walk_at "st") => `(tactic| first
  | ((with_reducible refine' r_var ?hh ?_); (case hh => rfl))
  | with_reducible refine r_c ?_
  | with_reducible refine r_op ?_
  | with_reducible refine r_i0 ?_
  | with_reducible refine r_cons ?_
  | with_reducible refine r_nil ?_
  | with_reducible refine r_seq ?_
  | with_reducible refine r_asg ?_
  | with_reducible refine r_gname ?_
  | with_reducible refine r_ret ?_
  | with_reducible refine r_ifS ?_
  | with_reducible refine r_test ?_
  | with_reducible refine r_tB ?_
  | with_reducible refine b_bl ?_
  | with_reducible refine i_t ?_
  | with_reducible refine i_f ?_
  | with_reducible refine i_nt ?_
  | with_reducible refine i_nf ?_
  | ((with_reducible refine' i_pos ?hh ?_); (case hh => walk_at "side"))
  | ((with_reducible refine' i_neg ?hh ?_); (case hh => walk_at "side"))
  | ((with_reducible refine' n_pos ?hh ?_); (case hh => walk_at "side"))
  | ((with_reducible refine' n_neg ?hh ?_); (case hh => walk_at "side"))
  | ((with_reducible refine' r_pow ?hh ?he ?_); (case hh => first | exact ⟨by decide, by decide, by decide⟩ | exact ⟨by decide, by decide, by omega⟩); (case he => first | ((simp only [Int.reduceToNat, Int.reducePow]); done) | ((simp only [Int.reduceToNat, Int.reducePow]); rfl) | rfl))
  | ((with_reducible refine' r_i ?hh ?_); (case hh => walk_at "side"))
  | with_reducible refine r_call0 ?_
  | with_reducible refine r_call ?_
  | with_reducible refine r_cb ?_
  | with_reducible refine r_int ?_
  | ((with_reducible refine' r_strI ?hh ?_); (case hh => walk_at "lg"))
  | with_reducible refine r_i1 ?_
  | with_reducible refine r_i2 ?_
  | with_reducible refine r_par ?_
  | with_reducible refine r_two ?_
  | with_reducible refine r_and ?_
  | with_reducible refine r_or ?_
  | with_reducible refine r_not ?_
  | with_reducible refine r_tif ?_
  | with_reducible refine r_andV ?_
  | with_reducible refine r_orV ?_
  | with_reducible refine r_notV ?_
  | with_reducible refine r_un ?_
  | with_reducible refine r_u ?_
  | with_reducible refine r_sb ?_
  | with_reducible refine r_drop ?_
  | with_reducible refine r_next ?_
  | with_reducible refine r_gsub ?_
  | ((with_reducible refine' r_ixL ?hh ?he ?_); (case hh => walk_at "sq"); (case he => rfl))
  | ((with_reducible refine' r_ixT ?hh ?he ?_); (case hh => walk_at "sqt"); (case he => rfl))
  | ((with_reducible refine' r_setL ?hh ?he ?_); (case hh => walk_at "hf"); (case he => rfl))
  | with_reducible refine r_gcons ?_
  | with_reducible refine r_gnil ?_
  | with_reducible refine r_sl ?_
  | with_reducible refine r_nopart ?_
  | with_reducible refine r_part ?_
  | with_reducible refine r_pint ?_
  | ((with_reducible refine' r_lenS ?hh ?_); (case hh => walk_at "sqo"))
  | ((with_reducible refine' r_gtup ?hh ?he ?_); (case hh => walk_at "sqt"); (case he => rfl))
  | ((with_reducible refine' r_slL ?hh ?_); (case hh => walk_at "sq"))
  | ((with_reducible refine' r_len ?hh ?_); (case hh => exact sz (by (try simp only [List.length_map]); (first | omega | decide | exact Nat.le_of_ble_eq_true rfl))))
  | with_reducible refine r_isi_ii ?_
  | with_reducible refine r_isi_ib ?_
  | with_reducible refine r_isi_ss ?_
  | ((with_reducible refine' r_isi_own ?hh ?hi ?hk ?_); (case hh => walk_at "hf"); (case hi => with_reducible assumption); (case hk => with_reducible assumption))
  | with_reducible refine r_lst ?_
  | with_reducible refine r_tup ?_
  | with_reducible refine r_make ?_
  | with_reducible refine r_forR1 ?_
  | with_reducible refine r_forL ?_
  | with_reducible refine r_forT ?_
  | with_reducible refine r_forR2 ?_
  | with_reducible refine r_ref1 ?_
  | with_reducible refine r_brk ?_
  | with_reducible refine r_cont ?_
  | with_reducible refine r_retN ?_
  | with_reducible refine r_rr ?_
  | with_reducible refine r_fmt ?_
  | ((with_reducible refine' r_fmti ?hh ?_); (case hh => walk_at "lg"))
  | with_reducible refine r_js ?_
  | with_reducible refine r_js0 ?_
  | ((with_reducible refine' r_jsp ?hh ?_); (case hh => walk_at "len"))
  | with_reducible refine r_m0 ?_
  | with_reducible refine r_m1 ?_
  | with_reducible refine r_str ?_
  | with_reducible refine r_ss ?_
  | with_reducible refine r_s0 ?_
  | ((with_reducible refine' r_addS ?hh ?_); (case hh => walk_at "len"))
  | ((with_reducible refine' r_slS ?hh ?_); (case hh => walk_at "len"))
  | ((with_reducible refine' r_lenT ?hh ?_); (case hh => walk_at "len"))
  | ((with_reducible refine' r_inT ?hh ?hf ?he ?_); (case hh => walk_at "sqt"); (case hf => rfl); (case he => rfl))
  | ((with_reducible refine' r_inF ?hh ?hf ?he ?_); (case hh => walk_at "sqt"); (case hf => rfl); (case he => rfl))
  | ((with_reducible refine' r_makeL ?hh ?_); (case hh => rfl))
  | with_reducible refine r_tprop ?_
  | with_reducible refine r_tfld ?_
  | ((with_reducible refine' f_prop ?hh ?_); (case hh => walk_at "hf"))
  | ((with_reducible refine' f_fld ?hh ?hc ?hn ?hl ?_); (case hh => walk_at "hf"); (case hc => with_reducible assumption); (case hn => with_reducible assumption); (case hl => rfl))
  | with_reducible refine r_tcm ?_
  | with_reducible refine r_chain ?_
  | with_reducible refine r_bl1 ?_
  | with_reducible refine r_intb ?_
  | with_reducible refine r_yes ?_
  | with_reducible refine r_makeK ?_
  | with_reducible refine r_sfld ?_
  | ((with_reducible refine' f_sfld ?hh ?hc ?hn ?hl ?_); (case hh => walk_at "hf"); (case hc => with_reducible assumption); (case hn => with_reducible assumption); (case hl => exact Nat.le_of_ble_eq_true rfl))
  | with_reducible refine r_lcL ?_
  | with_reducible refine r_lcT ?_
  | with_reducible refine r_lcR1 ?_
  | with_reducible refine r_lcR2 ?_)
local macro_rules | `(tactic| walk_at "go") => `(tactic| (repeat walk_at "st"))
local macro_rules | `(tactic| walk_at "in") => `(tactic| dsimp only [cxOf, L2.start, List.map, List.length, List.replicate, Nat.reduceSub, Nat.reduceAdd, List.cons_append, List.nil_append, List.append_nil])
local macro_rules | `(tactic| walk_at "bt") => `(tactic| first
  | with_reducible assumption
  | exact But.rfl
  | exact Same.but (by with_reducible assumption)
  | (refine' But.put ?ha; (case ha => walk_at "bt"))
  | (refine' But.new ?ha ?hn; (case hn => with_reducible assumption); (case ha => walk_at "bt"))
  | (refine' But.trans ?ha ?hb; (case hb => with_reducible assumption); (case ha => walk_at "bt"))
  | (refine' But.trans ?ha (Same.but ?hb); (case hb => with_reducible assumption); (case ha => walk_at "bt")))
local macro_rules | `(tactic| walk_at "sm") => `(tactic| first
  | with_reducible assumption
  | exact Same.refl _
  | (refine' Same.new ?ha ?hn; (case hn => with_reducible assumption); (case ha => walk_at "sm"))
  | (refine' Same.trans ?ha ?hb; (case hb => with_reducible assumption); (case ha => walk_at "sm")))

section
variable {P : Program} {w : World} {K : PySem.W.Frag} {mg : Str → Option Value} {base : Heap}
theorem ok_Ratio_1 (T : Tx K mg) : Gf P w K mg base CX0 2 (He.ma K (He.ga K "Ratio") "__init__") ["self", "top", "bottom"] [.int 1] (spInit K) := by
  obtain ⟨fd, F, G⟩ := fn_Ratio_init (P := P) (w := w) (base := base) T
  obtain ⟨ds, r, b⟩ := F.binds1 (ps := ["self", "top", "bottom"]) 2 0 (List.cons_ne_nil _ _) rfl (fun _ _ _ _ _ _ _ us its l1 l2 => match us, its, l1, l2 with | [_, _], [_], _, _ => ⟨_, rfl, rfl⟩)
  exact ⟨⟨fd, ds, G, b, r⟩, F.kp⟩
def spKinds : Sp := fun vs H Q _ => vs = [] ∧ ∀ H', Same H H' → Q (.bl true) H'
theorem ok_law_other_kinds (T : Tx K mg) : Gf P w K mg base CX0 4 (He.ga K "_law_other_kinds") [] [] spKinds := by
  obtain ⟨fd, F⟩ := T.d_law_other_kinds
  refine gf0 F (fnG F sc_law_other_kinds (fun vs H Q E h => ?_) (fun cdv A outer s H vs Q E hr h => ?_)) (fun _ _ _ _ _ _ us hl => match us, hl with | [], _ => rfl)
  · obtain ⟨rfl, _⟩ := h
    rfl
  obtain ⟨rfl, k⟩ := h
  refine ⟨_, PSs.nox (pss_cons (ps_for PassesOwn.never rfl (pi_listK (K := K) rfl (pe_lst (pa_cons pe_int (pa_cons pe_int (pa_cons pe_int pa_nil))))) (pg_name (i := 0) sc_law_other_kinds.nd rfl (Or.inl rfl)) (pss_cons (ps_set (i := 1) sc_law_other_kinds.nd rfl (Or.inl rfl) (pe_mk T.mk_Ratio (ok_Ratio_1 T) T.g_Ratio hr (by decide) pass0 (pa_cons (pv 0) pa_nil))) (pss_one (ps_for PassesOwn.never rfl (pi_listK (K := K) rfl (pe_lst (pa_cons pe_bl (pa_cons pe_bl (pa_cons pe_non (pa_cons (pe_callTy call_str_int (by rfl) T.f_str (by decide +kernel) (pa_cons (pv 0) pa_nil)) (pa_cons (pe_tup (pa_cons (pv 0) (pa_cons pe_int pa_nil))) (pa_cons (pe_lst (pa_cons (pv 0) pa_nil)) (pa_cons pe_dnewK pa_nil))))))))) (pg_name (i := 2) sc_law_other_kinds.nd rfl (Or.inl rfl)) (pss_one (ps_if (PW.pt (pw_or (pt_cmpR (eq_RK (ok_Ratio__eq T) T.kd_Ratio T.sp_Ratio__eq hr (by decide)) (pv 1) (pv 2) (nomark _)) (pw_or (pt_cmpR (eq_KR (ok_Ratio__eq T) T.kd_Ratio T.sp_Ratio__eq hr (by decide)) (pv 2) (pv 1) (nomark _)) (pw_or1 (pt_not (pt_cmpR (ne_RK (ok_Ratio__eq T) T.kd_Ratio T.ne_Ratio T.sp_Ratio__eq hr (by decide)) (pv 1) (pv 2) (nomark _))))))) (pss_one (ps_ret pe_bl)) pss_nil)))))) (pss_one (ps_ret pe_bl))), ?_⟩
  walk_at "in"
  walk_at "go"
  intro l hl
  walk_at "go"
  refine ⟨⟨_, SqL.of upd_same⟩, lp_list (xs := [0, 1, 2].map V.int) (fun j σ H' => ∃ v1 v2 v3, σ = [v1, v2, v3] ∧ Same (upd H l (.lst [.int 0, .int 1, .int 2])) H') ⟨none, none, none, rfl, Same.refl _⟩ (fun j σ H' _ ⟨_, _, _, _, q⟩ => SqL.of (q _ _ upd_same)) ?_ ?_⟩
  · rintro j y σ H1 hy ⟨v1, v2, v3, rfl, sm⟩
    obtain ⟨z, rfl, hz, _⟩ := get_map hy
    have zb : Bd 300 z := by
      have hm := List.mem_of_getElem? hz
      simp only [List.mem_cons, List.not_mem_nil, or_false] at hm
      rcases hm with rfl | rfl | rfl
      · exact Nat.pow_pos (by decide)
      · exact Bd.of (by decide) (by decide)
      · exact Bd.of (by decide) (by decide)
    walk_at "go"
    refine go_mk (n := z) (d := 1) rfl (by decide) (Bd.of (by decide) (by decide)) fun x1 H2 hx1 r1 s1 => ?_
    obtain ⟨dx, e1⟩ := id r1
    walk_at "go"
    intro t ht
    walk_at "go"
    intro m hm
    walk_at "go"
    intro p hp
    walk_at "go"
    intro q hq
    walk_at "go"
    refine ⟨⟨_, SqL.of upd_same⟩, lp_list (xs := [.bl true, .bl false, .non, .str (Str.ofString (toString z)), .ref t, .ref m, .ref p]) (fun j σ H' => ∃ v, σ = [some (.int z), some (.ref x1), v] ∧ Same (upd (upd (upd (upd H2 t (.tup [.int z, .int 1])) m (.lst [.int z])) p (.dK [])) q (.lst [.bl true, .bl false, .non, .str (Str.ofString (toString z)), .ref t, .ref m, .ref p])) H') ⟨_, rfl, Same.refl _⟩ (fun j σ H' _ ⟨_, _, q⟩ => SqL.of (q _ _ upd_same)) ?_ ?_⟩
    · rintro i y σ H3 hi ⟨v, rfl, sn⟩
      have kd : ∃ U, Kd H3 y U := by
        match i, hi with
        | 0, hi => cases hi; exact ⟨_, .bl _⟩
        | 1, hi => cases hi; exact ⟨_, .bl _⟩
        | 2, hi => cases hi; exact ⟨_, .non⟩
        | 3, hi => cases hi; exact ⟨_, .str _⟩
        | 4, hi => cases hi; exact ⟨_, .tup (xs := [.int z, .int 1]) (by walk_at "hf")⟩
        | 5, hi => cases hi; exact ⟨_, .lst (xs := [.int z]) (by walk_at "hf")⟩
        | 6, hi => cases hi; exact ⟨_, .dct (kvs := []) (by walk_at "hf")⟩
      obtain ⟨U, kd⟩ := kd
      have e3 : H3 x1 = some (.ins (He.ga K "Ratio") dx (ratF (z / Int.gcd z 1) (1 / Int.gcd z 1))) := by walk_at "hf"
      walk_at "go"
      refine ⟨x1, dx, _, U, rfl, e3, kd, x1, _, _, ⟨dx, e3⟩, .inr (.inr ⟨y, U, rfl, kd, ?_⟩)⟩
      walk_at "go"
      refine ⟨x1, dx, _, U, rfl, e3, kd, x1, _, _, ⟨dx, e3⟩, .inr (.inr ⟨y, U, rfl, kd, ?_⟩)⟩
      walk_at "go"
      refine ⟨x1, dx, _, U, rfl, e3, kd, x1, _, _, ⟨dx, e3⟩, .inr (.inr ⟨y, U, rfl, kd, _, rfl, ?_⟩)⟩
      walk_at "go"
      exact ⟨_, rfl, sn⟩
    · rintro σ H3 ⟨v, rfl, sn⟩
      walk_at "go"
      exact ⟨_, _, _, rfl, by walk_at "sm"⟩
  · rintro σ H1 ⟨v1, v2, v3, rfl, sm⟩
    walk_at "go"
    exact k _ (by walk_at "sm")
theorem go_kinds {H : Hp} {Q : VK} {E : XK} (k : ∀ H', Same H H' → Q (.bl true) H') : spKinds [] H Q E := ⟨rfl, k⟩
def spLaw (K : PySem.W.Frag) : Sp := fun vs H Q _ => ∃ (a : Addr) (ns : List Int), vs = [.ref a] ∧ SqL K H a (ns.map V.int) ∧ ns.length ≤ 63 ∧ ∀ H', Q (.bl true) H'
theorem ok_law (T : Tx K mg) : FnG P w K mg base CX0 7 (He.ga K "law") (Classical.choose T.d_law) ["_law_script"] (spLaw K) := by
  have F := Classical.choose_spec T.d_law
  refine fnG F sc_law (fun vs H Q E h => ?_) (fun cdv A outer s H vs Q E hr h => ?_)
  · obtain ⟨a, ns, rfl, _⟩ := h
    rfl
  obtain ⟨a, ns, rfl, hS, hl, k⟩ := h
  refine ⟨_, PSs.nox (pss_cons (ps_for PassesOwn.never rfl (pi_range1 rfl T.f_range (pa_cons (pe_callB (call_max2 rfl) (by rfl) T.f_max (by decide +kernel) (pa_cons pe_int (pa_cons (pe_callB (call_min2 rfl) (by rfl) T.f_min (by decide +kernel) (pa_cons (pe_callB (call_lenK (K := K) rfl) (by rfl) T.f_len (by decide +kernel) (pa_cons (pv 0) pa_nil)) (pa_cons pe_int pa_nil))) pa_nil))) pa_nil)) (pg_name (i := 1) sc_law.nd rfl (Or.inl rfl)) (pss_one (ps_if (pt_not (pt_val (pe_g (ok_law_right T) T.g_law_right hr (by decide) pass0 (pa_cons (pe_g (ok_law_purse T) T.g_law_purse hr (by decide) pass0 (pa_cons (pv 0) (pa_cons (pv 1) pa_nil))) pa_nil)))) (pss_one (ps_ret pe_bl)) pss_nil))) (pss_one (ps_ret (pe_g0 (ok_law_other_kinds T) T.g_law_other_kinds hr (by decide) pass0)))), ?_⟩
  walk_at "in"
  walk_at "go"
  simp only [List.length_map]
  generalize hN : (if (if (10 : Int) < (ns.length : Int) then (10 : Int) else (ns.length : Int)) > 2 then (if (10 : Int) < (ns.length : Int) then (10 : Int) else (ns.length : Int)) else 2) = N
  have hN0 : 0 ≤ N ∧ N ≤ 16 := by subst hN; split <;> split <;> omega
  refine ⟨by omega, by omega, lp_range (fun i σ H' => ∃ v, σ = [some (.ref a), v] ∧ SqL K H' a (ns.map V.int)) ⟨none, rfl, hS⟩ ?_ ?_⟩
  · rintro i σ H1 hi ⟨v, rfl, hS1⟩
    walk_at "go"
    refine go_purse hS1 hl (by omega) fun p H2 hp hpu s1 => ?_
    walk_at "go"
    refine go_right hpu fun H3 b3 => ?_
    walk_at "go"
    exact ⟨_, rfl, sq_but hS1 hp s1 b3⟩
  · rintro σ H1 ⟨v, rfl, hS1⟩
    walk_at "go"
    exact go_kinds fun H' _ => k _
end

end Toy

set_option Elab.async false
set_option linter.all false
set_option maxRecDepth 100000
set_option maxHeartbeats 4000000
namespace Toy
open PySem PySem.Spec PyProof.Rows L2 My SX


abbrev R : PySem.W.OpenRow := PySem.W.OpenLaw.row PySem.Challenge.rw_drawclaims_k03_order_of_ratios
abbrev hk : PySem.W.Hook := Hk.hookE 6 fa fn ex
def ob (s : PySem.W.SharedT) : Hk.AlE := Hk.obsEG 6 fa fn ex (HandSHeadRun.getT s)
theorem ob_eq (s : PySem.W.SharedT) : ob s = hk.obs s.abs := Hk.obsEG_eq (HandSHeadRun.getT_eq s)
def loose : List Str := ["_wall", "InputError", "InvalidNumber", "InvalidText", "FIGURES", "is_integer", "common_divisor", "read_integer", "Ratio", "_law_purse", "_law_draw", "_law_great", "_law_integer", "_law_told", "_law_due", "_law_second", "_law_right", "_law_other_kinds"]
theorem run (w : World) : HandSHeadRun.RunEq R (PySem.W.view R.prog [22]) hk ob 3000 loose w := by
  intro os
  kernel_rfl
theorem law_binds {K : PySem.W.Frag} {mg : Str → Option Value} (T : Tx K mg) (s : Shared) (u : Value) : BindsTo s (Classical.choose T.d_law) ⟨[u], []⟩ [("_law_script", u)] :=
  FunD.bindsA (ps := ["_law_script"]) (Classical.choose_spec T.d_law) (fun _ _ _ _ _ _ us hl => match us, hl with | [_], _ => rfl) s [u] rfl
end Toy
open PySem PySem.W PySem.Calls PyProof.Rows
theorem PySem.Challenge.cw_drawclaims_k03_order_of_ratios_holds : PySem.Challenge.rw_drawclaims_k03_order_of_ratios.Holds := by
  w_on; o_law
  refine HandSHeadRun.head_any (r := OpenLaw.row PySem.Challenge.rw_drawclaims_k03_order_of_ratios) (q := view (OpenLaw.row PySem.Challenge.rw_drawclaims_k03_order_of_ratios).prog [22]) (H := Toy.hk) (ob := Toy.ob) (M := 3000) (loose := Toy.loose) (d := HandSHeadRun.topDef (OpenLaw.row PySem.Challenge.rw_drawclaims_k03_order_of_ratios).prog 22) (kwd := []) Toy.ob_eq
    (by kernel_rfl) (fun s => by kernel_rfl) Toy.run (by kernel_rfl) (by kernel_rfl) (by kernel_rfl) (by rfl) (by first | assumption | decide +kernel) (by decide +kernel) ⟨rfl, rfl, rfl, rfl, rfl, by decide +kernel⟩ ?hw ?hc
  case hw => w_witness2
  case hc =>
    refine My.walk_g (l := PySem.Challenge.rw_drawclaims_k03_order_of_ratios) (n := 63) (k := 7) (x := "_law_script") rfl (by decide) (by kernel_rfl) ⟨⟨rfl, by decide, by decide⟩, rfl⟩ ?F
    intro w mg fa h Y G hmg0
    obtain ⟨K, KX, c⟩ := Y
    have hmg : mg ("law" : PySem.Str) = some (.ref fa) := by
      have e : (HandSHeadRun.topDef (OpenLaw.row PySem.Challenge.rw_drawclaims_k03_order_of_ratios).prog 22).name = ("law" : PySem.Str) := by kernel_rfl
      rw [← e]
      exact hmg0
    have T := Toy.tx_ok KX G c
    have e := hmg.symm.trans T.g_law
    cases e
    exact ⟨K, _, Toy.spLaw K, KX, fun s v => Toy.law_binds T s v, fun H a ns hl hS => ⟨a, ns, rfl, hS, hl, fun _ => rfl⟩, fun base _ _ => Toy.ok_law T⟩
