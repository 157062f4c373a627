import PyProof.Rows.All
import Wide.All
import OpenK.AllK
import Wide.FinOn
import KE.KStateDown
import Lean
import HandS.Base
import HandS.Call
import HandS.List
import HandS.Comp
import HandS.Ends
import HandS.More
import HandS.Text
import HandS.Words
import HandS.WordsList
import HandS.Exc
import HandS.WordsExc
import HandS.Defaults
import HandS.Wide
import HandS.WideBits
import HandS.IsInst
import HandS.FStr
import HandS.MakeKwOnly
import HandS.Property
import HandS.ClsMeth
import HandS.Evl
import HandS.Head0
import HandS.Head1
import HandS.Head2
import HandS.HeadEnd
import HandS.HeadHook1
import HandS.HeadHook2
import HandS.Codes
import HandS.MakeKw
import HandS.TupAny
import KE.IntTextLaws
import KE.KOpsOwn
import HandS.SlotsOwn
import PyProof.InstEq
import HandS.RevRange
import HandS.Style
import HandS.SortInts
import HandS.ExcInit
import HandS.ExcField
import KE.KExcIs
import HandS.Dict
import PySem.Challenge.RW_drawclaims_k27_falling_products
set_option Elab.async false
set_option linter.all false
set_option maxRecDepth 100000
set_option maxHeartbeats 4000000
/-! LayA: a hook of facts about defs at any place; good defs; steps of readings -/
namespace Hk
open PySem PySem.Spec PyProof.Rows L2 He
/-- one def: where it stands, its name, qualified name, parameters, body, scope, defaults -/
structure DefE where
  adr : PySem.W.Frag → Addr
  name : Str
  qual : Str
  params : Arguments
  body : List Stmt
  scope : Scope
  dfl : List Dv := []
  kwd : List (Str × Dv) := []
def fnE (K : PySem.W.Frag) (a : Addr) : FnW := match K.lookup a with
  | some ⟨_, _, .func fd, _⟩ => some (fd.name, fd.qualname, fd.params, fd.body, fd.scope, fd.globals, fd.closure, fd.builtins)
  | _ => none
def DefE.val (d : DefE) : FnW := some (d.name, d.qual, d.params, .stmts d.body, d.scope, mainGlobals, [], builtinsNs)
def DefE.dvs (K : PySem.W.Frag) (d : DefE) : List V := d.dfl.map (Dv.v K)
def DefE.kws (K : PySem.W.Frag) (d : DefE) : List (Str × V) := d.kwd.map fun q => (q.1, q.2.v K)
def DefE.ok (K : PySem.W.Frag) (d : DefE) : Bool := PySem.W.keepIn K (.ref (d.adr K)) && (match K.lookup (d.adr K) with
  | some ⟨_, _, .func fd, _⟩ => PySem.W.codeIn K fd.code d.qual && (dflB K fd.defaults (d.dvs K) && kwdB K fd.kwdefaults (d.kws K))
  | _ => false)
theorem DefE.funD {K : PySem.W.Frag} {d : DefE} (e : fnE K (d.adr K) = d.val) (c : d.ok K = true) : ∃ fd, FunD K d.name d.qual d.params d.body d.scope (d.dvs K) (d.kws K) (d.adr K) fd := by
  obtain ⟨kp, c2⟩ := ba c
  unfold fnE at e
  cases q : K.lookup (d.adr K) with
  | none =>
    rw [q] at c2
    cases c2
  | some o =>
    obtain ⟨oc, od, dt, osl⟩ := o
    rw [q] at c2 e
    cases dt with
    | func fd =>
      obtain ⟨n1, n2, n3, n4, n5, n6, n7, n8, n9, n10, n11, n12, n13, n14, n15⟩ := fd
      have e2 : (some (n1, n2, n3, n4, n5, n6, n7, n15) : FnW) = some (d.name, d.qual, d.params, .stmts d.body, d.scope, mainGlobals, [], builtinsNs) := e
      simp only [Option.some.injEq, Prod.mk.injEq] at e2
      obtain ⟨h1, h2, h3, h4, h5, h6, h7, h8⟩ := e2
      subst h1 h2 h3 h4 h5 h6 h7 h8
      have c3 : (PySem.W.codeIn K n13 d.qual && (dflB K n8 (d.dvs K) && kwdB K n9 (d.kws K))) = true := c2
      obtain ⟨k1, k2⟩ := ba c3
      obtain ⟨k3, k4⟩ := ba k2
      exact ⟨_, ⟨oc, od, n8, n9, n10, n11, n12, n13, n14, osl, rfl, q, k1, dflB_ok k3, kwdB_ok k4⟩, kp⟩
    | _ => cases c2
/-! the Hook -/
abbrev AlE : Type := Bool × List FnW
def obsE (fa : List Fa) (fn : List DefE) (ex : PySem.W.Frag → Bool) (K : PySem.W.Frag) : AlE := ((fa.all fun f => f.ok K) && ((fn.all fun d => d.ok K) && ex K), fn.map fun d => fnE K (d.adr K))
def valE (fn : List DefE) : AlE := (true, fn.map DefE.val)
def SaysE (fa : List Fa) (fn : List DefE) (ex : PySem.W.Frag → Bool) (K : PySem.W.Frag) : Prop := obsE fa fn ex K = valE fn
def obsEG (n : Nat) (fa : List Fa) (fn : List DefE) (ex : PySem.W.Frag → Bool) (g : Addr → Option Obj) : AlE := obsE fa fn ex (frG g (asD g n ++ [cStatics]))
def hookE (n : Nat) (fa : List Fa) (fn : List DefE) (ex : PySem.W.Frag → Bool) : PySem.W.Hook where
  α := AlE
  obs := fun s => obsEG n fa fn ex s.heap.get?
  val := fun _ => valE fn
  says := fun _ h => ∃ K : PySem.W.Frag, K.In h ∧ SaysE fa fn ex K
  of := fun _ _ e => ⟨_, frG_in, e⟩
  keeps := fun _ _ _ ⟨K, hK, c⟩ k => ⟨K, PySem.W.Frag.In.keeps hK k, c⟩
theorem obsEG_eq {n : Nat} {fa : List Fa} {fn : List DefE} {ex : PySem.W.Frag → Bool} {g : Addr → Option Obj} {s : Shared} (h : ∀ a, g a = s.heap.get? a) : obsEG n fa fn ex g = (hookE n fa fn ex).obs s := by
  have e : g = s.heap.get? := funext h
  rw [e] <;> rfl
section
variable {fa : List Fa} {fn : List DefE} {ex : PySem.W.Frag → Bool} {K : PySem.W.Frag}
theorem SaysE.parts (c : SaysE fa fn ex K) : (fa.all fun f => f.ok K) = true ∧ (fn.all fun d => d.ok K) = true ∧ ex K = true := by
  have c1 : ((fa.all fun f => f.ok K) && ((fn.all fun d => d.ok K) && ex K)) = true := congrArg (fun z : AlE => z.1) c
  obtain ⟨h1, h2⟩ := ba c1
  obtain ⟨h3, h4⟩ := ba h2
  exact ⟨h1, h3, h4⟩
theorem SaysE.fact (c : SaysE fa fn ex K) (i : Nat) {f : Fa} (h : fa[i]? = some f := by rfl) : f.ok K = true :=
  List.all_eq_true.mp c.parts.1 f (List.mem_of_getElem? h)
theorem SaysE.more (c : SaysE fa fn ex K) : ex K = true := c.parts.2.2
theorem SaysE.def_ (c : SaysE fa fn ex K) (i : Nat) {d : DefE} (h : fn[i]? = some d := by rfl) : ∃ fd, FunD K d.name d.qual d.params d.body d.scope (d.dvs K) (d.kws K) (d.adr K) fd := by
  have c2 := c.parts.2.1
  have e : fn.map (fun d => fnE K (d.adr K)) = fn.map DefE.val := congrArg (fun z : AlE => z.2) c
  have e2 : (fn.map fun d => fnE K (d.adr K))[i]? = (fn.map DefE.val)[i]? := by rw [e]
  rw [List.getElem?_map, List.getElem?_map, h] at e2
  exact DefE.funD (Option.some.inj e2) (List.all_eq_true.mp c2 d (List.mem_of_getElem? h))
end
/-- the def of the record (a property, a classmethod, a staticmethod) that the class has under this name -/
def wfA (x : Str) (T : String) (m : Str) (K : PySem.W.Frag) : Addr := match PySem.W.recIn K (ma K (ga K x) m) T with
  | some (.ref f :: _) => f
  | _ => 0
end Hk
namespace My
open PySem PySem.Spec PyProof.Rows L2
/-! good defs: beside the room it is known that no repr is under way -/
structure RG (k : Nat) (A : Around) : Prop where
  r : Room k A
  g : A.guards = some []
theorem RG.mono {j k : Nat} {A : Around} (r : RG k A) (h : j ≤ k) : RG j A := ⟨r.r.mono h, r.g⟩
theorem RG.deeper {k : Nat} {A : Around} (r : RG (k + 1) A) (env : Env) : RG k (A.deeper env) := ⟨r.r.deeper env, r.g⟩
theorem RG.in1 {k : Nat} {A : Around} (r : RG (k + 1) A) : RG k A.in1 := ⟨r.r.in1, r.g⟩
theorem RG.units {k : Nat} {A : Around} (r : RG k A) : A.units + 64 < cLine := r.r.units
theorem RG.make {k : Nat} {A : Around} (r : RG (k + 1) A) (C : Addr) (us : List Value) (kw : List (Str × Value)) : RG k (A.under (.builtin "type.__call__" ⟨.ref C :: us, kw⟩)) := by
  refine ⟨r.r.make C us kw, ?_⟩
  show pushGuards (Code.guards (.builtin "type.__call__" ⟨.ref C :: us, kw⟩)) A.guards = some []
  have e : Code.guards (.builtin "type.__call__" ⟨.ref C :: us, kw⟩) = [] := by
    unfold Code.guards Code.isGuard
    rw [if_neg (show ¬ (guardIds.contains "type.__call__" = true) from by decide +kernel)]
  rw [e]
  exact r.g
/-- the def fd at f keeps its promise wherever no repr is under way -/
structure FnG (P : Program) (w : World) (K : PySem.W.Frag) (mg : Str → Option Value) (base : Heap) (CX : CXT) (k : Nat) (f : Addr) (fd : FuncData) (ps : List Str) (sp : Sp) : Prop where
  len : ∀ vs H Q E, sp vs H Q E → vs.length = ps.length
  run : ∀ (A : Around) (outer : List Env) (s : Shared) (H : Hp) (args : Args) (us : List Value) (vs : List V) (Q : VK) (E : XK), RG k A → Env0 P w K mg base A outer s H → BindsTo s fd args (ps.zip us) → Vals vs us → sp vs H Q E →
    codeAny (model P w) A (.call (.ref f) args) (CR CX outer P w H s Q E) s
/-- dvs: the values of the parameters that a call by position does not write -/
structure Gf (P : Program) (w : World) (K : PySem.W.Frag) (mg : Str → Option Value) (base : Heap) (CX : CXT) (k : Nat) (f : Addr) (ps : List Str) (dvs : List V) (sp : Sp) : Prop where
  ex : ∃ (fd : FuncData) (ds : List Value), FnG P w K mg base CX k f fd ps sp ∧ Binds K fd ps ds ∧ Vals dvs ds
  kp : PySem.W.keepIn K (.ref f) = true
section
variable {CX : CXT} {P : Program} {w : World} {K : PySem.W.Frag} {mg : Str → Option Value} {base : Heap} {k : Nat} {f : Addr} {x qual : Str} {params : Arguments} {body : List Stmt} {scope : Scope} {dvs : List V} {kws : List (Str × V)} {fd : FuncData} {N ps : List Str} {sp : Sp}
theorem fnG (F : FunD K x qual params body scope dvs kws f fd) (S : FnScope N ps scope) (len : ∀ vs H Q E, sp vs H Q E → vs.length = ps.length)
    (hbody : ∀ (cdv : Value) (A : Around) (outer : List Env) (s : Shared) (H : Hp) (vs : List V) (Q : VK) (E : XK), RG k (A.deeper (envOfC qual scope s.heap.objs.size f cdv)) → sp vs H Q E →
      ∃ t, PSs (cxOf CX P w K mg base N qual scope f cdv A outer s H E) body t ∧ t { nx := fun _ H' => Q .non H', rt := Q } (start N vs) H) : FnG P w K mg base CX (k + 1) f fd ps sp := by
  obtain ⟨oc, od, dV, kV, doc, pm, an, cdv, ct, osl, rfl, lk, hcd, _, _⟩ := F.ex
  refine ⟨len, fun A outer s H args us vs Q E hr e0 hb r hsp => ?_⟩
  have old := fun b o e => (e0.bs b o e).1
  have KX : K.In s.heap := e0.mod.kin.keeps old
  refine codeAny_call_function hr.r.depth (KX _ _ lk) rfl S.co S.gen rfl (PySem.W.codeRec_of KX hcd) (hb _ _ _ _ ?_)
  refine wpAny_newFunctionEnv_cells S.kind (fun p hy => ?_) fun env he s1 z => ?_
  · obtain ⟨n, v⟩ := p
    exact (S.par n (List.of_mem_zip hy).1).elim (fun q => .inl q) fun q => .inr ⟨q, PySem.W.cellsFrom_some _ _ _ (.inl q)⟩
  subst he
  refine ⟨(e0.mod.nolimit.keeps old).keeps z.toInCall.keep, codeAny_func ?_⟩
  obtain ⟨t, ht, hq⟩ := hbody cdv A outer s H vs Q E (hr.deeper _) hsp
  refine wpAny_mono (ht.run [] s1 (start N vs) H _ (inv_start S hr.r.hd e0 (len _ _ _ _ hsp) r z) hq) (fun fl s' hs => ?_) fun _ _ hs => hs
  cases fl with
  | ret u => exact let ⟨v, _, H', J, rv, q⟩ := hs; ⟨v, H', J.os, J.bare, J.base, J.hok, rv, q⟩
  | next => exact let ⟨_, H', J, q⟩ := hs; ⟨.non, H', J.os, J.bare, J.base, J.hok, rfl, q⟩
  | brk => exact let ⟨_, _, _, q⟩ := hs; q.elim
  | cont => exact let ⟨_, _, _, q⟩ := hs; q.elim
/-- from a def without defaults -/
theorem gf0 (F : FunD K x qual params body scope [] kws f fd) (G : FnG P w K mg base CX k f fd ps sp)
    (h : ∀ (kV doc pm : Value) (an : Option Addr) (cdv ct : Value) (us : List Value), us.length = ps.length → bindArgs (PySem.W.fnOf x qual params body scope .none kV doc pm an cdv ct) ⟨us, []⟩ = pure (ps.zip us)) : Gf P w K mg base CX k f ps [] sp :=
  ⟨⟨fd, [], G, F.bindsN h, .nil⟩, F.kp⟩
end
section
variable {X : Cx} {CX : CXT} {k j : Nat} {f C : Addr} {x : Str} {ps : List Str} {dvs : List V} {sp : Sp} {E : XK} {e : Expr} {es : List Expr} {p pos : Pos} {t : TA}
theorem Gf.go {A : Around} {H : Hp} {s : Shared} {us : List Value} {vs : List V} {Q : VK} {outer : List Env} {P : Program} {w : World} {K : PySem.W.Frag} {mg : Str → Option Value} {base : Heap} (G : Gf P w K mg base CX k f ps dvs sp) (hr : RG j A) (hj : k ≤ j) (e0 : Env0 P w K mg base A outer s H) (KX : K.In s.heap) (r : Vals vs us) (h : sp (vs ++ dvs) H Q E) :
    codeAny (model P w) A (.call (.ref f) ⟨us, []⟩) (CR CX outer P w H s Q E) s := by
  obtain ⟨fd, ds, F, hb, hd⟩ := G.ex
  have r2 := r.append hd
  exact F.run A outer s H ⟨us, []⟩ (us ++ ds) (vs ++ dvs) Q E (hr.mono hj) e0 (hb s us KX (by rw [← r2.length]; exact F.len _ _ _ _ h)) r2 h
theorem run_g {pins : List (Addr × Obj)} {σ : L2.St} {H : Hp} {s : Shared} {Q : VK} {us : List Value} {vs : List V} (G : Gf X.prog X.w X.K X.mg X.base CX k f ps dvs sp) (hr : RG j X.A) (hj : k ≤ j) (hx : Passes CX X E)
    (I : Inv X pins σ H s) (r : Vals vs us) (h : sp (vs ++ dvs) H Q E) : wpAny (model X.prog X.w) X.A (call (.ref f) us) (EP X pins σ Q) X.xe s := by
  refine wpAny_call (codeAny_mono (G.go hr hj I.env0 I.kIn r h) fun y s' hq => ?_)
  match y, hq with
  | .error e, hq => exact hx pins σ H s e s' I hq
  | .ok (.ret u), hq => exact I.after hq
theorem pe_g (G : Gf X.prog X.w X.K X.mg X.base CX k f ps dvs sp) (hm : X.mg x = some (.ref f)) (hr : RG j X.A) (hj : k ≤ j) (hx : Passes CX X E) (ha : PA X (e :: es) t) (hg : Gl X x := by rfl)
    (hdb : (x == ("__debug__" : Str)) = false := by decide) (he : starEach (e :: es) X.env = (false, eval e X.env) :: starEach es X.env := by rfl) (hpl : (backTo pos (starEach es X.env)).any (·.1) = false := by rfl) :
    PE X (.Call (.Name x p) (e :: es) [] pos) (tCall sp dvs E t) := by
  refine ⟨fun pins s σ H Q I h => ?_⟩
  refine wpAny_Call_Name_kw (ld_glob I hg hm ?_ hdb)
  exact PySem.W.callWith_K (h₀ := X.base) I.ok.mod.kin G.kp (thn (ha.run pos pins s σ H _ I h) fun us s1 ⟨vs, H1, I1, r, q⟩ => ⟨I1.kIn, run_g G hr hj hx I1 r q⟩) he hpl
/-- a class whose instances its own __init__ makes -/
structure Mg (K : PySem.W.Frag) (C f : Addr) : Prop where
  makes : PySem.W.makesIn K C = true
  init : PySem.W.findIn K (.ref C) "__init__" = some (some (.ref f))
  fn : PySem.W.isFn K (.ref f) = true
  kp : PySem.W.keepIn K (.ref C) = true
theorem run_mk {pins : List (Addr × Obj)} {σ : L2.St} {H : Hp} {s : Shared} {Q : VK} {us : List Value} {vs : List V} (M : Mg X.K C f) (G : Gf X.prog X.w X.K X.mg X.base CX k f ps dvs sp) (hr : RG j X.A) (hj : k + 1 ≤ j) (hx : Passes CX X E) (I : Inv X pins σ H s) (r : Vals vs us)
    (h : ∀ x dx, H x = none → H dx = none → dx ≠ x → sp (.ref x :: (vs ++ dvs)) (upd (upd H dx (.own x)) x (.ins C dx [])) (fun v H2 => v = .non ∧ Q (.ref x) H2) E) :
    wpAny (model X.prog X.w) X.A (call (.ref C) us) (EP X pins σ Q) X.xe s := by
  have n := s.heap.objs.size
  have hq := h (s.heap.objs.size + 1) s.heap.objs.size (I.hok.fresh (Nat.le_succ _)) (I.hok.fresh (Nat.le_refl _)) (Nat.ne_of_lt (Nat.lt_succ_self _))
  have I2 := Inv.made (C := C) I
  have r2 : Vals (V.ref (s.heap.objs.size + 1) :: vs) (Value.ref (s.heap.objs.size + 1) :: us) := .cons rfl r
  refine wpAny_call (make_map (f := f) I.kIn M.makes M.init (beq_iff_eq.mp M.fn) (codeAny_mono (G.go (outer := X.stack) (RG.make (hr.mono hj) C us []) (Nat.le_refl _) (I2.env0.make C us []) I2.kIn r2 hq) fun y s' hq' => ?_))
  match y, hq' with
  | .error e, hq' => exact hx pins σ _ _ e s' I2 hq'
  | .ok (.ret u), hq' =>
    obtain ⟨v, H', I3, rv, ev, q3⟩ := I2.after hq'
    subst ev
    exact ⟨rv, ⟨V.ref (s.heap.objs.size + 1), H', I3, rfl, q3⟩⟩
theorem pe_mk (M : Mg X.K C f) (G : Gf X.prog X.w X.K X.mg X.base CX k f ps dvs sp) (hm : X.mg x = some (.ref C)) (hr : RG j X.A) (hj : k + 1 ≤ j) (hx : Passes CX X E) (ha : PA X (e :: es) t) (hg : Gl X x := by rfl)
    (hdb : (x == ("__debug__" : Str)) = false := by decide) (he : starEach (e :: es) X.env = (false, eval e X.env) :: starEach es X.env := by rfl) (hpl : (backTo pos (starEach es X.env)).any (·.1) = false := by rfl) :
    PE X (.Call (.Name x p) (e :: es) [] pos) (tMake C sp dvs E t) := by
  refine ⟨fun pins s σ H Q I h => ?_⟩
  refine wpAny_Call_Name_kw (ld_glob I hg hm ?_ hdb)
  exact PySem.W.callWith_K (h₀ := X.base) I.ok.mod.kin M.kp (thn (ha.run pos pins s σ H _ I h) fun us s1 ⟨vs, H1, I1, r, q⟩ => ⟨I1.kIn, run_mk M G hr hj hx I1 r q⟩) he hpl
/-- the class stands in the i-th slot -/
def tMakeL (i : Nat) (C : Addr) (sp : Sp) (dvs : List V) (E : XK) (t : TA) : TE := fun σ H Q => σ[i]? = some (some (.ref C)) ∧ tMake C sp dvs E t σ H Q
theorem pe_mkL {i : Nat} (M : Mg X.K C f) (G : Gf X.prog X.w X.K X.mg X.base CX k f ps dvs sp) (hN : X.N[i]? = some x) (hv : Vis X.env.scope x) (hr : RG j X.A) (hj : k + 1 ≤ j) (hx : Passes CX X E) (ha : PA X (e :: es) t)
    (hdb : (x == ("__debug__" : Str)) = false := by decide) (hcd : (x == ("__classdict__" : Str)) = false := by decide) (he : starEach (e :: es) X.env = (false, eval e X.env) :: starEach es X.env := by rfl) (hpl : (backTo pos (starEach es X.env)).any (·.1) = false := by rfl) :
    PE X (.Call (.Name x p) (e :: es) [] pos) (tMakeL i C sp dvs E t) := by
  refine ⟨fun pins s σ H Q I h => ?_⟩
  refine wpAny_Call_Name_kw (thn ((pe_var (pos := p) hN hv hdb hcd).run pins s σ H (fun v H1 => v = .ref C ∧ H1 = H) I ⟨.ref C, h.1, rfl, rfl⟩) fun u s1 ⟨v, H1, I1, r1, e1, e2⟩ => ?_)
  subst e1 e2
  obtain rfl : u = Value.ref C := r1
  exact PySem.W.callWith_K (h₀ := X.base) I.ok.mod.kin M.kp (thn (ha.run pos pins s1 σ _ _ I1 h.2) fun us s2 ⟨vs, H2, I2, r, q⟩ => ⟨I2.kIn, run_mk M G hr hj hx I2 r q⟩) he hpl
end
section
theorem pe_gi {X : Cx} {x : Str} {i : Int} {pos : Pos} (hg : Gl X x) (h : ∃ t, X.mg x = some (.int i t)) (hd : (x == ("__debug__" : Str)) = false := by decide) : PE X (.Name x pos) (tC (.int i)) := by
  obtain ⟨t, hm⟩ := h
  exact pe_glob hg hm ⟨t, rfl⟩ hd
end
/-! tests -/
section
variable {A B : Prop}
theorem b_bl {b : Bool} {F : Bool → Prop} (h : F b) : ∃ k, V.bl b = .bl k ∧ F k := ⟨b, rfl, h⟩
theorem i_pos {p : Prop} [Decidable p] (hp : p) (h : A) : if decide p = true then A else B := by
  rw [if_pos (decide_eq_true hp)]
  exact h
theorem i_neg {p : Prop} [Decidable p] (hp : ¬ p) (h : B) : if decide p = true then A else B := by
  rw [if_neg (by rw [decide_eq_false hp]; exact Bool.false_ne_true)]
  exact h
theorem i_two {p : Prop} [Decidable p] (h1 : p → A) (h2 : ¬ p → B) : if decide p = true then A else B := by
  by_cases hp : p
  · exact i_pos hp (h1 hp)
  · exact i_neg hp (h2 hp)
theorem n_pos {p : Prop} [Decidable p] (hp : p) (h : B) : if (!decide p) = true then A else B := by
  rw [if_neg (by rw [decide_eq_true hp]; exact Bool.false_ne_true)]
  exact h
theorem n_neg {p : Prop} [Decidable p] (hp : ¬ p) (h : A) : if (!decide p) = true then A else B := by
  rw [if_pos (by rw [decide_eq_false hp] <;> rfl)]
  exact h
theorem n_two {p : Prop} [Decidable p] (h1 : p → B) (h2 : ¬ p → A) : if (!decide p) = true then A else B := by
  by_cases hp : p
  · exact n_pos hp (h1 hp)
  · exact n_neg hp (h2 hp)
theorem b_two {b : Bool} (h1 : b = true → A) (h2 : b = false → B) : if b = true then A else B := by
  cases b with
  | true => exact h1 rfl
  | false => exact h2 rfl
theorem nb_two {b : Bool} (h1 : b = true → B) (h2 : b = false → A) : if (!b) = true then A else B := by
  cases b with
  | true => exact h1 rfl
  | false => exact h2 rfl
theorem i_t (h : A) : if true = true then A else B := h
theorem i_f (h : B) : if false = true then A else B := h
theorem i_nt (h : B) : if (!true) = true then A else B := h
theorem i_nf (h : A) : if (!false) = true then A else B := h
end
/-! operators on ints, texts, bools with their own readings -/
section
variable {X : Cx}
theorem op_mulA : OpR X (binaryOp .Mult) (rI IntMulOk fun i j => .int (i * j)) := opI fun _ _ _ _ _ _ _ hc q => mul_int q hc
def rSB (f : Str → Str → Bool) : R2 := fun x y H Q => ∃ a b, x = .str a ∧ y = .str b ∧ Q (.bl (f a b)) H
theorem op_eqI : OpR X (compareOp .Eq) (rI0 fun i j => .bl (decide (i = j))) := fun pins s σ H x y v u Q I rx ry h => by
  obtain ⟨i, j, rfl, rfl, q⟩ := h
  refine op_eq pins s σ H _ _ v u Q I rx ry ⟨rfl, ?_⟩
  rw [dec_int, Bool.beq_eq_decide_eq]
  exact q
theorem op_neI : OpR X (compareOp .NotEq) (rI0 fun i j => .bl (!decide (i = j))) := fun pins s σ H x y v u Q I rx ry h => by
  obtain ⟨i, j, rfl, rfl, q⟩ := h
  refine op_ne pins s σ H _ _ v u Q I rx ry ⟨rfl, ?_⟩
  rw [dec_int, Bool.beq_eq_decide_eq]
  exact q
theorem op_eqS : OpR X (compareOp .Eq) (rSB fun a b => decide (a = b)) := fun pins s σ H x y v u Q I rx ry h => by
  obtain ⟨i, j, rfl, rfl, q⟩ := h
  refine op_eq pins s σ H _ _ v u Q I rx ry ⟨rfl, ?_⟩
  rw [dec_str, Bool.beq_eq_decide_eq]
  exact q
theorem op_neS : OpR X (compareOp .NotEq) (rSB fun a b => !decide (a = b)) := fun pins s σ H x y v u Q I rx ry h => by
  obtain ⟨i, j, rfl, rfl, q⟩ := h
  refine op_ne pins s σ H _ _ v u Q I rx ry ⟨rfl, ?_⟩
  rw [dec_str, Bool.beq_eq_decide_eq]
  exact q
end
/-! steps -/
section
variable {K : PySem.W.Frag} {σ : L2.St} {H : Hp} {nx bk ct : L2.St → Hp → Prop} {rt : VK} {ta tb tc te tv : TE} {Q : VK} {t u : TS} {g : TG} {tA : TA} {c d : TT} {R : Bool → Hp → Prop} {RA : List V → Hp → Prop}
theorem r_seq (h : t ⟨u ⟨nx, rt, bk, ct⟩, rt, bk, ct⟩ σ H) : tSeq t u ⟨nx, rt, bk, ct⟩ σ H := h
theorem r_next (h : nx σ H) : tNext ⟨nx, rt, bk, ct⟩ σ H := h
theorem r_brk (h : bk σ H) : tBreak ⟨nx, rt, bk, ct⟩ σ H := h
theorem r_cont (h : ct σ H) : tCont ⟨nx, rt, bk, ct⟩ σ H := h
theorem r_ret (h : te σ H rt) : tRet te ⟨nx, rt, bk, ct⟩ σ H := h
theorem r_retN (h : rt .non H) : tRetN ⟨nx, rt, bk, ct⟩ σ H := h
theorem r_asg (h : te σ H fun x H1 => g x σ H1 nx) : tAsg te g ⟨nx, rt, bk, ct⟩ σ H := h
theorem r_drop (h : te σ H fun _ H1 => nx σ H1) : tDrop te ⟨nx, rt, bk, ct⟩ σ H := h
theorem r_ifS (h : c σ H fun b H1 => if b = true then t ⟨nx, rt, bk, ct⟩ σ H1 else u ⟨nx, rt, bk, ct⟩ σ H1) : tIfS c t u ⟨nx, rt, bk, ct⟩ σ H := h
theorem r_par {i j : Nat} (h : tA σ H fun vs H1 => ∃ v w, vs = [v, w] ∧ nx ((σ.set i (some v)).set j (some w)) H1) : tPar i j tA ⟨nx, rt, bk, ct⟩ σ H := h
theorem r_two {v w : V} {F : V → V → Prop} (h : F v w) : ∃ a b, ([v, w] : List V) = [a, b] ∧ F a b := ⟨v, w, rfl, h⟩
theorem r_gname {i : Nat} {v : V} {N : L2.St → Hp → Prop} (h : N (σ.set i (some v)) H) : gName i v σ H N := h
theorem r_gsub {v : V} {ts : TSet} {N : L2.St → Hp → Prop} (h : ta σ H fun o H1 => tb σ H1 fun i H2 => ts o i v H2 fun H3 => N σ H3) : gSub ta tb ts v σ H N := h
theorem r_var {i : Nat} {v : V} (e : σ[i]? = some (some v)) (h : Q v H) : tVar i σ H Q := ⟨v, e, h⟩
theorem r_c {v : V} (h : Q v H) : tC v σ H Q := h
theorem r_op {r : R2} (h : ta σ H fun x H1 => tb σ H1 fun y H2 => r x y H2 Q) : tOp r ta tb σ H Q := h
theorem r_un {r : V → Hp → VK → Prop} (h : ta σ H fun x H1 => r x H1 Q) : tUn r ta σ H Q := h
theorem r_i0 {f : Int → Int → V} {i j : Int} (h : Q (f i j) H) : rI0 f (.int i) (.int j) H Q := ⟨i, j, rfl, rfl, h⟩
theorem r_i {C : Int → Int → Prop} {f : Int → Int → V} {i j : Int} (hc : C i j) (h : Q (f i j) H) : rI C f (.int i) (.int j) H Q := ⟨i, j, rfl, rfl, hc, h⟩
theorem r_u {f : Int → V} {i : Int} (h : Q (f i) H) : rU f (.int i) H Q := ⟨i, rfl, h⟩
theorem r_sb {f : Str → Str → Bool} {a b : Str} (h : Q (.bl (f a b)) H) : rSB f (.str a) (.str b) H Q := ⟨a, b, rfl, rfl, h⟩
theorem r_test (h : te σ H fun x H' => ∃ k, x = .bl k ∧ R k H') : tTest te σ H R := h
theorem r_tB (h : te σ H fun x H' => ∃ k, x = .bl k ∧ R k H') : tB te σ H R := h
theorem r_and (h : c σ H fun b H1 => if b = true then d σ H1 R else R false H1) : tAnd c d σ H R := h
theorem r_or (h : c σ H fun b H1 => if b = true then R true H1 else d σ H1 R) : tOr c d σ H R := h
theorem r_not (h : c σ H fun b H1 => R (!b) H1) : tNot c σ H R := h
theorem r_andV (h : ta σ H fun x H1 => ∃ k, x = .bl k ∧ if k = true then tb σ H1 Q else Q (.bl false) H1) : tAndV ta tb σ H Q := h
theorem r_orV (h : ta σ H fun x H1 => ∃ k, x = .bl k ∧ if k = true then Q (.bl true) H1 else tb σ H1 Q) : tOrV ta tb σ H Q := h
theorem r_notV (h : ta σ H fun x H1 => ∃ k, x = .bl k ∧ Q (.bl (!k)) H1) : tNotV ta σ H Q := h
theorem r_tif (h : c σ H fun b H1 => if b = true then ta σ H1 Q else tb σ H1 Q) : tIf c ta tb σ H Q := h
theorem r_nil (h : RA [] H) : tNil σ H RA := h
theorem r_cons {tR : TA} (h : te σ H fun x H1 => tR σ H1 fun xs H2 => RA (x :: xs) H2) : tCons te tR σ H RA := h
theorem r_call {sp : Sp} {dvs : List V} {E : XK} (h : tA σ H fun vs H1 => sp (vs ++ dvs) H1 Q E) : tCall sp dvs E tA σ H Q := h
theorem r_cb {r : List V → Hp → VK → Prop} (h : tA σ H fun vs H1 => r vs H1 Q) : tCB r tA σ H Q := h
theorem r_lst (h : tA σ H fun xs H1 => xs.length ≤ sizeLine ∧ ∀ p, H1 p = none → Q (.ref p) (upd H1 p (.lst xs))) : tLst tA σ H Q := h
theorem r_tup (h : tA σ H fun xs H1 => xs.length ≤ sizeLine ∧ ∀ p, H1 p = none → Q (.ref p) (upd H1 p (.tup xs))) : tTup tA σ H Q := h
theorem r_int {i : Int} {F : Int → Prop} {B : Prop} (h : F i) : (∃ j, ([V.int i] : List V) = [.int j] ∧ F j) ∨ B := .inl ⟨i, rfl, h⟩
theorem r_intb {b : Bool} {F : Bool → Prop} {B : Prop} (h : F b) : B ∨ ∃ k, ([V.bl b] : List V) = [.bl k] ∧ F k := .inr ⟨b, rfl, h⟩
theorem r_call0 {sp : Sp} {E : XK} (h : tA σ H fun vs H1 => sp vs H1 Q E) : tCall sp [] E tA σ H Q := by
  unfold tCall
  simp only [List.append_nil]
  exact h
theorem r_i1 {i : Int} {F : Int → Prop} (h : F i) : ∃ j, ([V.int i] : List V) = [.int j] ∧ F j := ⟨i, rfl, h⟩
theorem r_i2 {i j : Int} {F : Int → Int → Prop} (h : F i j) : ∃ a b, ([V.int i, V.int j] : List V) = [.int a, .int b] ∧ F a b := ⟨i, j, rfl, h⟩
end
end My

set_option Elab.async false
set_option linter.all false
set_option maxRecDepth 100000
set_option maxHeartbeats 4000000
/-! LayB: methods, properties, classmethods, keywords, str and repr of own objects, repr of data -/
namespace My
open PySem PySem.Spec PyProof.Rows L2
section
variable {X : Cx} {CX : CXT} {k j : Nat} {f C : Addr} {x m : Str} {ps : List Str} {dvs : List V} {sp : Sp} {E : XK} {o e : Expr} {es : List Expr} {p pos apos : Pos} {t : TA} {ta : TE}
theorem pe_me {pl : Sem Bool} (he : PE X o ta) (c : Cls X.K C) (hm : Meth X.K C m f) (G : Gf X.prog X.w X.K X.mg X.base CX k f ps dvs sp) (hr : RG j X.A) (hj : k ≤ j) (hx : Passes CX X E) (ha : PA X (e :: es) t)
    (hst : starEach (e :: es) X.env = (false, eval e X.env) :: starEach es X.env := by rfl) (hpl : (backTo pos (starEach es X.env)).any (·.1) = false := by rfl)
    (ht : eval (.Call (.Attribute o m apos) (e :: es) [] pos) X.env = (do
      let ov ← eval o X.env
      standAt apos.atName
      let (f, first) ← holding [ov] (getMethod ov m pl)
      callWith pos f first (backTo pos (starEach (e :: es) X.env)) (backToKw pos (keywordEach [] X.env))) := by rfl) :
    PE X (.Call (.Attribute o m apos) (e :: es) [] pos) (tMeth C m sp dvs E ta t) := by
  refine ⟨fun pins s σ H Q I h => PySem.W.methodCall_KW (pl := pl) (thn (he.run pins s σ H _ I h) fun u s1 ⟨x, H1, I1, rx, a, dx, fs, ex, ea, l, q⟩ => ?_) ht⟩
  subst ex
  obtain rfl : u = Value.ref a := rx
  refine getmeth_ok I1 ea c hm l ?_
  exact PySem.W.callWith_K (first := [.ref a]) (h₀ := X.base) I.ok.mod.kin hm.kp (thn (ha.run pos pins s1 σ H1 _ I1 q) fun us s2 ⟨vs, H2, I2, r, q2⟩ => ⟨I2.kIn, run_g (us := .ref a :: us) (vs := .ref a :: vs) G hr hj hx I2 (.cons rfl r) q2⟩) hst hpl
theorem pe_me0 {pl : Sem Bool} (he : PE X o ta) (c : Cls X.K C) (hm : Meth X.K C m f) (G : Gf X.prog X.w X.K X.mg X.base CX k f ps dvs sp) (hr : RG j X.A) (hj : k ≤ j) (hx : Passes CX X E)
    (ht : eval (.Call (.Attribute o m apos) [] [] pos) X.env = (do
      let ov ← eval o X.env
      standAt apos.atName
      let (f, first) ← holding [ov] (getMethod ov m pl)
      callWith pos f first (backTo pos (starEach [] X.env)) (backToKw pos (keywordEach [] X.env))) := by rfl) :
    PE X (.Call (.Attribute o m apos) [] [] pos) (tMeth C m sp dvs E ta tNil) := by
  refine ⟨fun pins s σ H Q I h => PySem.W.methodCall_KW (pl := pl) (thn (he.run pins s σ H _ I h) fun u s1 ⟨x, H1, I1, rx, a, dx, fs, ex, ea, l, q⟩ => ?_) ht⟩
  subst ex
  obtain rfl : u = Value.ref a := rx
  refine getmeth_ok I1 ea c hm l ?_
  exact PySem.W.callWith_K0 (first := [.ref a]) I1.kIn hm.kp (run_g (us := [.ref a]) (vs := [.ref a]) G hr hj hx I1 (.cons rfl .nil) q)
/-- e.f, a property at q whose getter is the def at f -/
theorem pe_pr {q : Addr} {n : Str} (he : PE X e ta) (c : Cls X.K C) (hp : PropOf X.K C n q f) (G : Gf X.prog X.w X.K X.mg X.base CX k f ps dvs sp) (hr : RG j X.A) (hj : k + 1 ≤ j) (hx : Passes CX X.nox E)
    (hab : attributeBase e n X.env (eval e X.env) = eval e X.env := by rfl) : PE X (.Attribute e n pos) (tProp C sp dvs E ta) := by
  refine ⟨fun pins s σ H Q I h => attr_of hab (thn (he.run pins s σ H _ I h) fun u s1 ⟨y, H1, I1, rx, a, dx, fs, ex, ea, h1⟩ => ?_)⟩
  subst ex
  obtain rfl : u = Value.ref a := rx
  obtain ⟨mA, O, _, _, _, _⟩ := ins_get I1.hok ea
  obtain ⟨od, J, _⟩ := O.look
  obtain ⟨rest, hrec⟩ := hp.rec_
  have I2 := I1.tok (s1.toks + 1)
  have hc : (PySem.W.clsIn X.K C).isSome = true := let ⟨cd, hc, _⟩ := PySem.W.any_some c.hd; by rw [hc] <;> rfl
  refine PySem.W.get_bind I1.kIn J (PySem.W.plainGet_of (c.get n)).1 (PySem.W.findObj_data hc hp.at_ hp.get hp.tak) (PySem.W.plainGet_of (c.get n)).2 (wpAny_call (PySem.W.prop_get (s := { s1 with toks := s1.toks + 1 }) I1.kIn hrec ?_))
  refine codeAny_mono (G.go (outer := X.stack) (us := [.ref a]) (vs := [.ref a]) (hr.mono hj).in1 (Nat.le_refl _) I2.env0.in1 I2.kIn (.cons rfl .nil) h1) fun y s' hq => ?_
  match y, hq with
  | .error er, hq => exact (hx pins σ H1 { s1 with toks := s1.toks + 1 } er s' (I2.wish _) hq).elim
  | .ok (.ret u), hq =>
    obtain ⟨v, H', I3, rv, q3⟩ := I2.after hq
    show wpAny _ _ (handedOut u) _ _ _
    rw [PySem.W.handedOut_of (handed_of rv)]
    exact wpAny_pure ⟨v, H', I3, rv, q3⟩
/-- C.m(..), m a classmethod: its record at q, its def at f -/
theorem pe_cm {q : Addr} {mc : Value} {pl : Sem Bool} (he : PE X o ta) (r : ClX.CRead X.K C mc) (c : ClX.CMet X.K C mc m q f) (G : Gf X.prog X.w X.K X.mg X.base CX k f ps dvs sp) (hr : RG j X.A) (hj : k ≤ j) (hx : Passes CX X E) (ha : PA X (e :: es) t)
    (hst : starEach (e :: es) X.env = (false, eval e X.env) :: starEach es X.env := by rfl) (hpl : (backTo pos (starEach es X.env)).any (·.1) = false := by rfl)
    (ht : eval (.Call (.Attribute o m apos) (e :: es) [] pos) X.env = (do
      let ov ← eval o X.env
      standAt apos.atName
      let (f, first) ← holding [ov] (getMethod ov m pl)
      callWith pos f first (backTo pos (starEach (e :: es) X.env)) (backToKw pos (keywordEach [] X.env))) := by rfl) :
    PE X (.Call (.Attribute o m apos) (e :: es) [] pos) (ClX.tCMeth C (fun vs => sp (vs ++ dvs)) E ta t) := by
  refine ⟨fun pins s σ H Q I h => PySem.W.methodCall_KW (pl := pl) (thn (he.run pins s σ H _ I h) fun u s1 ⟨x, H1, I1, rx, ex, h1⟩ => ?_) ht⟩
  subst ex
  obtain rfl : u = Value.ref C := rx
  refine ClX.getmethcm_ok I1 r c fun s2 I2 => ?_
  refine ClX.callwith_cm I2 (ClX.base_none I1 (Nat.le_refl _)) c.fi (thn (ha.run pos _ s2 σ H1 _ I2 h1) fun us s3 ⟨vs, H2, I3, rv, q2⟩ => ⟨⟨ClX.pin_at I3, I3.kIn⟩, ?_⟩) hst hpl
  have z : wpAny (model X.prog X.w) X.A (call (.ref s1.heap.objs.size) us) (EP X ((s1.heap.objs.size, PySem.W.methodObj (.ref f) (.ref C)) :: pins) σ Q) X.xe s3 := by
    refine wpAny_call (PySem.W.method_call (ClX.pin_at I3) (codeAny_mono (G.go (outer := X.stack) (us := .ref C :: us) (vs := .ref C :: vs) hr hj I3.env0 I3.kIn (.cons rfl rv) q2) fun y s' hq => ?_))
    match y, hq with
    | .error er, hq => exact hx _ σ H2 s3 er s' I3 hq
    | .ok (.ret u), hq => exact I3.after hq
  exact thn z fun _ _ y => ClX.unpinE y
end
/-! f(.., k = v, ..), C(.., k = v, ..) -/
/-- a def as a call with n positional values and keywords ks finds it; gV puts both in the parameters' order -/
structure Gk (P : Program) (w : World) (K : PySem.W.Frag) (mg : Str → Option Value) (base : Heap) (CX : CXT) (k : Nat) (f : Addr) (ps : List Str) (n : Nat) (ks : List Str) (gV : List V → List V → List V) (sp : Sp) : Prop where
  ex : ∃ (fd : FuncData) (g : List Value → List Value → List Value), FnG P w K mg base CX k f fd ps sp ∧ KBn K fd ps n ks g gV
  kp : PySem.W.keepIn K (.ref f) = true
section
variable {X : Cx} {CX : CXT} {k j n : Nat} {f C : Addr} {x m : Str} {ps ks : List Str} {sp : Sp} {E : XK} {o e : Expr} {es : List Expr} {p pos apos : Pos} {t tk : TA} {ta : TE} {kws : List Keyword} {gV : List V → List V → List V}
theorem Gk.go {A : Around} {H : Hp} {s : Shared} {us ws : List Value} {vs zs : List V} {Q : VK} {outer : List Env} {P : Program} {w : World} {K : PySem.W.Frag} {mg : Str → Option Value} {base : Heap} (G : Gk P w K mg base CX k f ps n ks gV sp) (hr : RG j A) (hj : k ≤ j) (e0 : Env0 P w K mg base A outer s H) (KX : K.In s.heap)
    (r : Vals vs us) (rz : Vals zs ws) (l1 : vs.length = n) (l2 : zs.length = ks.length) (h : sp (gV vs zs) H Q E) :
    codeAny (model P w) A (.call (.ref f) ⟨us, ks.zip ws⟩) (CR CX outer P w H s Q E) s := by
  obtain ⟨fd, g, F, hb⟩ := G.ex
  exact F.run A outer s H ⟨us, ks.zip ws⟩ (g us ws) (gV vs zs) Q E (hr.mono hj) e0 (hb.to s us ws KX (r.length.symm.trans l1) (rz.length.symm.trans l2)) (hb.rel r rz) h
theorem run_gk {pins : List (Addr × Obj)} {σ : L2.St} {H : Hp} {s : Shared} {Q : VK} {us ws : List Value} {vs zs : List V} (G : Gk X.prog X.w X.K X.mg X.base CX k f ps n ks gV sp) (hr : RG j X.A) (hj : k ≤ j) (hx : Passes CX X E)
    (I : Inv X pins σ H s) (r : Vals vs us) (rz : Vals zs ws) (l1 : vs.length = n) (l2 : zs.length = ks.length) (h : sp (gV vs zs) H Q E) : wpAny (model X.prog X.w) X.A (call (.ref f) us (ks.zip ws)) (EP X pins σ Q) X.xe s := by
  refine wpAny_call (codeAny_mono (G.go hr hj I.env0 I.kIn r rz l1 l2 h) fun y s' hq => ?_)
  match y, hq with
  | .error e, hq => exact hx pins σ H s e s' I hq
  | .ok (.ret u), hq => exact I.after hq
theorem run_mkk {pins : List (Addr × Obj)} {σ : L2.St} {H : Hp} {s : Shared} {Q : VK} {us ws : List Value} {vs zs : List V} (M : Mg X.K C f) (G : Gk X.prog X.w X.K X.mg X.base CX k f ps (n + 1) ks gV sp) (hr : RG j X.A) (hj : k + 1 ≤ j) (hx : Passes CX X E) (I : Inv X pins σ H s) (r : Vals vs us) (rz : Vals zs ws) (l1 : vs.length = n) (l2 : zs.length = ks.length)
    (h : ∀ x dx, H x = none → H dx = none → dx ≠ x → sp (gV (.ref x :: vs) zs) (upd (upd H dx (.own x)) x (.ins C dx [])) (fun v H2 => v = .non ∧ Q (.ref x) H2) E) :
    wpAny (model X.prog X.w) X.A (call (.ref C) us (ks.zip ws)) (EP X pins σ Q) X.xe s := by
  have hq := h (s.heap.objs.size + 1) s.heap.objs.size (I.hok.fresh (Nat.le_succ _)) (I.hok.fresh (Nat.le_refl _)) (Nat.ne_of_lt (Nat.lt_succ_self _))
  have I2 := Inv.made (C := C) I
  have r2 : Vals (V.ref (s.heap.objs.size + 1) :: vs) (Value.ref (s.heap.objs.size + 1) :: us) := .cons rfl r
  refine wpAny_call (make_map (f := f) I.kIn M.makes M.init (beq_iff_eq.mp M.fn) (codeAny_mono (G.go (outer := X.stack) (RG.make (hr.mono hj) C us (ks.zip ws)) (Nat.le_refl _) (I2.env0.make C us (ks.zip ws)) I2.kIn r2 rz (by rw [List.length_cons, l1]) l2 hq) fun y s' hq' => ?_))
  match y, hq' with
  | .error e, hq' => exact hx pins σ _ _ e s' I2 hq'
  | .ok (.ret u), hq' =>
    obtain ⟨v, H', I3, rv, ev, q3⟩ := I2.after hq'
    subst ev
    exact ⟨rv, ⟨V.ref (s.heap.objs.size + 1), H', I3, rfl, q3⟩⟩
theorem pe_mkK0 (M : Mg X.K C f) (G : Gk X.prog X.w X.K X.mg X.base CX k f ps 1 ks gV sp) (hm : X.mg x = some (.ref C)) (hr : RG j X.A) (hj : k + 1 ≤ j) (hx : Passes CX X E) (hkw : PK X kws tk) (hg : Gl X x := by rfl)
    (hall : (backToKw pos (keywordEach kws X.env)).all (·.1.isSome) = true := by rfl) (hks : (backToKw pos (keywordEach kws X.env)).filterMap (·.1) = ks := by rfl) (hdb : (x == ("__debug__" : Str)) = false := by decide)
    (hpl : ((backTo pos (starEach [] X.env)).any (·.1) || (backToKw pos (keywordEach kws X.env)).any (·.1.isNone)) = false := by rfl) :
    PE X (.Call (.Name x p) [] kws pos) (tMakeK C 0 ks.length sp gV E tNil tk) := by
  refine ⟨fun pins s σ H Q I h => wpAny_Call_Name_kw (ld_glob I hg hm ?_ hdb)⟩
  refine PySem.W.callWith_KW0 (h₀ := X.base) I.ok.mod.kin M.kp hall ?_ hpl
  refine thn (hkw.run pos pins s σ H _ I h) fun ws s2 ⟨zs, H2, I2, rz, l1, l2, q2⟩ => ⟨I2.kIn, ?_⟩
  rw [hks]
  exact run_mkk (us := []) (vs := []) M G hr hj hx I2 .nil rz rfl l2 q2
/-- f(k = v, ..) -/
theorem pe_gk0 (G : Gk X.prog X.w X.K X.mg X.base CX k f ps 0 ks gV sp) (hm : X.mg x = some (.ref f)) (hr : RG j X.A) (hj : k ≤ j) (hx : Passes CX X E) (hkw : PK X kws tk) (hg : Gl X x := by rfl)
    (hall : (backToKw pos (keywordEach kws X.env)).all (·.1.isSome) = true := by rfl) (hks : (backToKw pos (keywordEach kws X.env)).filterMap (·.1) = ks := by rfl) (hdb : (x == ("__debug__" : Str)) = false := by decide)
    (hpl : ((backTo pos (starEach [] X.env)).any (·.1) || (backToKw pos (keywordEach kws X.env)).any (·.1.isNone)) = false := by rfl) :
    PE X (.Call (.Name x p) [] kws pos) (tCallN 0 ks.length sp gV E tNil tk) := by
  refine ⟨fun pins s σ H Q I h => wpAny_Call_Name_kw (ld_glob I hg hm ?_ hdb)⟩
  refine PySem.W.callWith_KW0 (h₀ := X.base) I.ok.mod.kin G.kp hall ?_ hpl
  refine thn (hkw.run pos pins s σ H _ I h) fun ws s2 ⟨zs, H2, I2, rz, l1, l2, q2⟩ => ⟨I2.kIn, ?_⟩
  rw [hks]
  exact run_gk (us := []) (vs := []) G hr hj hx I2 .nil rz l1 l2 q2
end
/-! str, repr of an own object; repr of data -/
section
variable {X : Cx} {CX : CXT} {k j : Nat} {f C : Addr} {ps : List Str} {sp : Sp}
/-- what a one-argument special def f of the class C gives of the object -/
theorem run_sp {A : Around} {pins : List (Addr × Obj)} {σ : L2.St} {H : Hp} {s : Shared} {Q : VK} {a : Addr} {R : Value → Shared → Prop} (G : Gf X.prog X.w X.K X.mg X.base CX0 k f ps [] sp) (hr : RG k A) (hf : A.frames = X.A.frames)
    (I : Inv X pins σ H s) (h : sp [.ref a] H Q E0) (hR : ∀ v H' u s', Inv X pins σ H' s' → RelV v u → Q v H' → R u s') : wpAny (model X.prog X.w) A (call (.ref f) [.ref a]) R X.xe s := by
  have e0 : Env0 X.prog X.w X.K X.mg X.base A X.stack s H := ⟨by rw [hf]; exact I.ok.frames, I.env0.mod, I.env0.bs, I.env0.bsz, I.env0.funs, I.env0.frf, I.env0.hok, I.env0.bare⟩
  refine wpAny_call (codeAny_mono (G.go (outer := X.stack) (us := [.ref a]) (vs := [.ref a]) hr (Nat.le_refl _) e0 I.kIn (.cons rfl .nil) h) fun y s' hq => ?_)
  match y, hq with
  | .error er, hq => exact hq.elim
  | .ok (.ret u), hq =>
    obtain ⟨v, H', I3, rv, q3⟩ := I.after hq
    exact hR v H' u s' I3 rv q3
def rStrOwn (C : Addr) (sp : Sp) : List V → Hp → VK → Prop := fun xs H Q => ∃ a dx fs, xs = [.ref a] ∧ H a = some (.ins C dx fs) ∧ sp [.ref a] H (fun v H' => ∃ y : Str, v = .str y ∧ Q v H') E0
theorem call_strOwn (G : Gf X.prog X.w X.K X.mg X.base CX0 k f ps [] sp) (hs : PySem.W.findIn X.K (.ref C) "__str__" = some (some (.ref f))) (hf : PySem.W.isFn X.K (.ref f) = true) (hr : RG j X.A) (hj : k + 2 ≤ j) : CallR X (.type "str") (rStrOwn C sp) := by
  intro pins s σ H xs us Q I r h
  obtain ⟨a, dx, fs, rfl, ea, h1⟩ := h
  obtain ⟨u, rfl, rx⟩ := vals1 r
  obtain rfl : u = Value.ref a := rx
  obtain ⟨mA, O, _⟩ := ins_get I.hok ea
  obtain ⟨od, J, _⟩ := O.look
  have hr2 : RG (k + 2) X.A := hr.mono hj
  refine PySem.W.kso_call hr2.in1.in1.r.units0 I.kIn J hs hf (run_sp G hr2.in1.in1 rfl I h1 fun v H' u s' I' rv q => ?_)
  obtain ⟨y, rfl, q⟩ := q
  obtain ⟨t, rfl⟩ := rv
  exact ⟨.str y, H', I', ⟨t, rfl⟩, q⟩
theorem call_reprOwn (G : Gf X.prog X.w X.K X.mg X.base CX0 k f ps [] sp) (hs : PySem.W.findIn X.K (.ref C) "__repr__" = some (some (.ref f))) (hf : PySem.W.isFn X.K (.ref f) = true) (hr : RG j X.A) (hj : k + 1 ≤ j) : CallR X (.builtin "repr") (rStrOwn C sp) := by
  intro pins s σ H xs us Q I r h
  obtain ⟨a, dx, fs, rfl, ea, h1⟩ := h
  obtain ⟨u, rfl, rx⟩ := vals1 r
  obtain rfl : u = Value.ref a := rx
  obtain ⟨mA, O, _⟩ := ins_get I.hok ea
  obtain ⟨od, J, _⟩ := O.look
  obtain ⟨m, hF⟩ := I.fr
  have hr2 : RG (k + 1) X.A := hr.mono hj
  refine PySem.W.repr_K hr2.in1.r.units0 hF I.ok.mod.kin J hs hf (run_sp G hr2.in1 rfl I h1 fun v H' u s' I' rv q => ?_)
  obtain ⟨y, rfl, q⟩ := q
  obtain ⟨t, rfl⟩ := rv
  exact ⟨.str y, H', I', ⟨t, rfl⟩, q⟩
/-- repr of a list or tuple of data -/
def rRepr (K : PySem.W.Frag) : List V → Hp → VK → Prop := fun xs H Q => ∃ a d, xs = [.ref a] ∧ Dp K H (.ref a) d ∧ d.showable = true ∧ d.hasDict = false ∧ d.depth ≤ 50 ∧ d.shown.length ≤ sizeLine ∧ Q (.str d.shown) H
theorem call_reprD (hr : RG j X.A) : CallR X (.builtin "repr") (rRepr X.K) := by
  intro pins s σ H xs us Q I r h
  obtain ⟨a, d, rfl, hd, h1, h2, h3, h4, q⟩ := h
  obtain ⟨u, rfl, rx⟩ := vals1 r
  obtain ⟨as, R⟩ := Dp.reads I d _ _ hd rx
  obtain rfl : u = Value.ref a := rx
  refine repr_of_reads' R h1 (PyData.noDict_hsm h2) hr.g (by have := hr.units; omega) (fun _ _ z => z) (fun h' u tk hk => ?_) h4
  exact ⟨.str d.shown, H, I.kept (t' := tk) hk, ⟨u, rfl⟩, q⟩
end
end My

set_option Elab.async false
set_option linter.all false
set_option maxRecDepth 100000
set_option maxHeartbeats 4000000
/-! LayC: what a head tells of classes, as Bools -/
namespace My
open PySem PySem.Spec PyProof.Rows L2 He
def propB (K : PySem.W.Frag) (x m : Str) : Bool := eqO (PySem.W.findIn K (.ref (ga K x)) m) (some (some (.ref (ma K (ga K x) m)))) && (eqO (PySem.W.specialIn K (.ref (ma K (ga K x) m)) "__get__") (some (some (.builtin "property.__get__"))) &&
  (decide (PySem.W.takesIn K (.ref (ma K (ga K x) m)) = some true) && (match PySem.W.recIn K (ma K (ga K x) m) "property" with
    | some (.ref f :: _) => decide (f = Hk.wfA x "property" m K)
    | _ => false)))
theorem propB_ok {K : PySem.W.Frag} {x m : Str} (h : propB K x m = true) : PropOf K (ga K x) m (ma K (ga K x) m) (Hk.wfA x "property" m K) := by
  obtain ⟨h1, h⟩ := ba h
  obtain ⟨h2, h⟩ := ba h
  obtain ⟨h3, h4⟩ := ba h
  refine ⟨eqO_ok h1, eqO_ok h2, of_decide_eq_true h3, ?_⟩
  split at h4
  · rename_i f rest e
    exact ⟨rest, by rw [e, of_decide_eq_true h4]⟩
  · cases h4
def crB (K : PySem.W.Frag) (x : Str) : Bool := PySem.W.readsIn K (ga K x) (.type "type") && eqO (PySem.W.specialIn K (.ref (ga K x)) "__getattribute__") (some (some (.builtin "type.__getattribute__")))
theorem crB_ok {K : PySem.W.Frag} {x : Str} (h : crB K x = true) : ClX.CRead K (ga K x) (.type "type") := by
  obtain ⟨h1, h2⟩ := ba h
  exact ⟨h1, eqO_ok h2⟩
def cmB (K : PySem.W.Frag) (x m : Str) : Bool := (match PySem.W.findCls K (.ref (ga K x)) (.type "type") m with
    | some (.get (.builtin g) (.ref p) .none (.ref D)) => decide (g = "classmethod.__get__") && (decide (p = ma K (ga K x) m) && decide (D = ga K x))
    | _ => false) && ((match PySem.W.recIn K (ma K (ga K x) m) "classmethod" with
    | some (.ref f :: _) => decide (f = Hk.wfA x "classmethod" m K)
    | _ => false) && PySem.W.fnIn K (Hk.wfA x "classmethod" m K))
theorem cmB_ok {K : PySem.W.Frag} {x m : Str} (h : cmB K x m = true) : ClX.CMet K (ga K x) (.type "type") m (ma K (ga K x) m) (Hk.wfA x "classmethod" m K) := by
  obtain ⟨h1, h⟩ := ba h
  obtain ⟨h2, h3⟩ := ba h
  refine ⟨?_, ?_, h3⟩
  · split at h1
    · rename_i g p D e
      obtain ⟨e1, e2⟩ := ba h1
      obtain ⟨e2, e3⟩ := ba e2
      rw [e, of_decide_eq_true e1, of_decide_eq_true e2, of_decide_eq_true e3]
    · cases h1
  · split at h2
    · rename_i f rest e
      exact ⟨rest, by rw [e, of_decide_eq_true h2]⟩
    · cases h2
/-- isinstance may be asked of the class's instances -/
structure InsOk (K : PySem.W.Frag) (C : Addr) : Prop where
  cl : Cls K C
  ha : PySem.W.findIn K (.ref C) "__class__" = some (some (.builtin "object.__class__"))
  hn : PySem.W.specialIn K (.builtin "object.__class__") "__get__" = some (some (.builtin "getset_descriptor.__get__"))
  htk : PySem.W.takesIn K (.builtin "object.__class__") = some true
  hm : PySem.W.mroIn K C (.type "object") = some true
theorem InsOk.ty {K : PySem.W.Frag} {H : Hp} {a C dx : Addr} {fs : List (Str × V)} (i : InsOk K C) (e : H a = some (.ins C dx fs)) : TyX K H (.ref a) (.ref C) := .base (.ins e i.cl i.ha i.hn i.htk i.hm)
def insB (K : PySem.W.Frag) (x : Str) : Bool := eqO (PySem.W.findIn K (.ref (ga K x)) "__class__") (some (some (.builtin "object.__class__"))) && (eqO (PySem.W.specialIn K (.builtin "object.__class__") "__get__") (some (some (.builtin "getset_descriptor.__get__"))) &&
  (decide (PySem.W.takesIn K (.builtin "object.__class__") = some true) && decide (PySem.W.mroIn K (ga K x) (.type "object") = some true)))
theorem insB_ok {K : PySem.W.Frag} {x : Str} (c : Cls K (ga K x)) (h : insB K x = true) : InsOk K (ga K x) := by
  obtain ⟨h1, h⟩ := ba h
  obtain ⟨h2, h⟩ := ba h
  obtain ⟨h3, h4⟩ := ba h
  exact ⟨c, eqO_ok h1, eqO_ok h2, of_decide_eq_true h3, of_decide_eq_true h4⟩
/-- a special def of a class -/
def spB (K : PySem.W.Frag) (x m : Str) : Bool := eqO (PySem.W.findIn K (.ref (ga K x)) m) (some (some (.ref (ma K (ga K x) m)))) && PySem.W.isFn K (.ref (ma K (ga K x) m))
structure SpOk (K : PySem.W.Frag) (C : Addr) (m : Str) (f : Addr) : Prop where
  at_ : PySem.W.findIn K (.ref C) m = some (some (.ref f))
  fn : PySem.W.isFn K (.ref f) = true
theorem spB_ok {K : PySem.W.Frag} {x m : Str} (h : spB K x m = true) : SpOk K (ga K x) m (ma K (ga K x) m) := by
  obtain ⟨h1, h2⟩ := ba h
  exact ⟨eqO_ok h1, h2⟩
def isiB (K : PySem.W.Frag) (t c : Value) (b : Bool) : Bool := decide (PySem.W.kitOne K t c = some b)
theorem isiB_ok {K : PySem.W.Frag} {t c : Value} {b : Bool} (h : isiB K t c b = true) : PySem.W.kitOne K t c = some b := of_decide_eq_true h
theorem mg_ok {K : PySem.W.Frag} {x : Str} (h : (Fa.mkr x).ok K = true) : Mg K (ga K x) (ma K (ga K x) "__init__") := by
  obtain ⟨h1, h⟩ := ba h
  obtain ⟨h2, h⟩ := ba h
  obtain ⟨h3, h4⟩ := ba h
  exact ⟨h1, eqO_ok h2, h3, h4⟩
end My

set_option Elab.async false
set_option linter.all false
set_option maxRecDepth 100000
set_option maxHeartbeats 4000000
/-! LayD: the law's end, where it is known that no repr is under way -/
namespace My
open PySem PySem.Spec PyProof.Rows L2
/-- from an abstract heap in which the script alone may be tracked -/
theorem law_at {P : Program} {w : World} {K : PySem.W.Frag} {mg mb : Str → Option Value} {CX : CXT} {k : Nat} {fa a : Addr} {fd : FuncData} {x : Str} {sp : Sp} {t : Shared} {vs : List Value} {ns : List Int} {H : Hp}
    (KX : K.In t.heap) (hns : t.heap.Ns mainGlobals mg) (hb : t.heap.Ns builtinsNs mb) (hbb : ∀ x : Str, x ≠ "__name__" → mb x = bootBuiltins x) (hlim : t.heap.NoLimit) (hg : t.gens = #[])
    (ha : t.heap.get? a = some { cls := .type "list", data := .seq vs.toArray }) (hr : RG k callerA)
    (F : ∀ base : Heap, K.In base → base.Ns mainGlobals mg → FnG P w K mg base CX k fa fd [x] sp) (hbind : ∀ (s : Shared) (u : Value), BindsTo s fd ⟨[u], []⟩ [(x, u)])
    (hsp : sp [.ref a] H (fun v _ => v = .bl true) fun _ _ _ => False) (hCX : ∀ H e s', CX [] H t (fun _ _ _ => False) e s' → False)
    (hO : Only H) (hok : HOk P w H t.heap) (hA : ∀ b, H b ≠ none → b = a) (hK : H a ≠ none → K.lookup a = none) :
    codeAny (model P w) callerA (.call (.ref fa) ⟨[.ref a], []⟩) (fun r s' => r = .ok (.ret (.bool true)) ∧ OldK t.heap s'.heap ∧ s'.os = t.os ∧ AllBare s'.gens) t := by
  have off : ∀ {b : Addr}, (b = a → False) → H b = none := fun {b} n => Classical.byContradiction fun q => n (hA b q)
  have kb : K.In (hidT t.heap H) := fun b o e => hidT_get (KX b o e) (Classical.byContradiction fun q => by
    have z := hA b q
    subst z
    rw [hK q] at e
    cases e)
  have nsK : ∀ {b : Addr} {m : Str → Option Value}, t.heap.Ns b m → (hidT t.heap H).Ns b m := fun {b m} ⟨o, es, ep, e, d, r⟩ => ⟨o, es, ep, hidT_get e (off fun z => by
    subst z
    rw [ha] at e
    cases e
    have d2 : Data.seq vs.toArray _ = Data.dict es ep := d
    cases d2), d, r⟩
  have hM : Mod K mg (hidT t.heap H) := ⟨kb, nsK hns, ⟨mb, nsK hb, hbb⟩, let ⟨mc, h1, h2⟩ := hlim; ⟨mc, nsK h1, h2⟩⟩
  have e0 : Env0 P w K mg (hidT t.heap H) callerA [] t H := ⟨rfl, hM, fun b o e => of_hidT e, Nat.le_of_eq (hidT_size _ _), trivial, fun b z => (List.not_mem_nil (a := b) z).elim, hok, .of_eq hg⟩
  refine codeAny_mono ((F _ kb (nsK hns)).run callerA [] t H ⟨[.ref a], []⟩ [.ref a] [.ref a] _ _ hr e0 (hbind t (.ref a)) (.cons rfl .nil) hsp) fun y s' h => ?_
  match y, h with
  | .error e, h => exact (hCX H e s' h).elim
  | .ok (.ret u), h =>
    obtain ⟨v, H', os, bare, un, hok', r', q⟩ := h
    have q2 : v = .bl true := q
    subst q2
    obtain rfl : u = Value.bool true := r'
    refine ⟨rfl, OldK.of_keep fun b o e => ?_, os, bare⟩
    cases q : H b with
    | none => exact un.keep b o e q (fun z => (List.not_mem_nil (a := b) z).elim) (by simp)
    | some u =>
      rcases hO b with z | ⟨ob, xs, z⟩
      · rw [q] at z
        cases z
      · obtain ⟨e1, _⟩ := hok b _ z
        obtain ⟨e2, _⟩ := hok' b _ (un.frzs b ob _ z)
        rw [e] at e1
        cases e1
        exact e2
theorem law_g {P : Program} {w : World} {K : PySem.W.Frag} {mg mb : Str → Option Value} {CX : CXT} {k : Nat} {fa a : Addr} {fd : FuncData} {x : Str} {sp : Sp} {t : Shared} {vs : List Value} {ns : List Int}
    (KX : K.In t.heap) (hns : t.heap.Ns mainGlobals mg) (hb : t.heap.Ns builtinsNs mb) (hbb : ∀ x : Str, x ≠ "__name__" → mb x = bootBuiltins x) (hlim : t.heap.NoLimit) (hg : t.gens = #[])
    (ha : t.heap.get? a = some { cls := .type "list", data := .seq vs.toArray }) (hi : IntsAre vs ns) (hl : ns.length ≤ sizeLine) (hr : RG k callerA)
    (F : ∀ base : Heap, K.In base → base.Ns mainGlobals mg → FnG P w K mg base CX k fa fd [x] sp) (hbind : ∀ (s : Shared) (u : Value), BindsTo s fd ⟨[u], []⟩ [(x, u)])
    (hsp : ∀ H : Hp, Only H → SqL K H a (ns.map V.int) → sp [.ref a] H (fun v _ => v = .bl true) fun _ _ _ => False) (hCX : ∀ H e s', CX [] H t (fun _ _ _ => False) e s' → False) :
    codeAny (model P w) callerA (.call (.ref fa) ⟨[.ref a], []⟩) (fun r s' => r = .ok (.ret (.bool true)) ∧ OldK t.heap s'.heap ∧ s'.os = t.os ∧ AllBare s'.gens) t := by
  have rv := vals_ints hi
  cases hk : K.lookup a with
  | some o =>
    have e := KX a o hk
    rw [ha] at e
    cases e
    have O : Only (fun _ => none) := fun _ => .inl rfl
    exact law_at (ns := ns) KX hns hb hbb hlim hg ha hr F hbind (hsp _ O (.inr ⟨_, vs.toArray, _, hk, rfl, rfl, rfl, by rw [List.size_toArray, hi.length]; exact hl, by simpa using rv⟩)) hCX O (fun b u z => by cases (show (none : Option HO) = some u from z)) (fun b z => absurd rfl z) fun z => absurd rfl z
  | none =>
    let ob : Obj := { cls := .type "list", data := .seq vs.toArray }
    let H : Hp := fun b => if b = a then some (.frz ob (.lst (ns.map V.int))) else none
    have Ha : H a = some (.frz ob (.lst (ns.map V.int))) := if_pos rfl
    have Hn : ∀ {b}, b ≠ a → H b = none := fun {b} z => if_neg z
    have O : Only H := fun b => by
      by_cases z : b = a
      · exact .inr ⟨_, _, if_pos z⟩
      · exact .inl (Hn z)
    refine law_at (H := H) (ns := ns) KX hns hb hbb hlim hg ha hr F hbind (hsp H O (.inl (.inr ⟨ob, Ha⟩))) hCX O (fun b u z => ?_) (fun b z => Classical.byContradiction fun n => z (Hn n)) fun _ => hk
    by_cases n : b = a
    · subst n
      rw [Ha] at z
      cases z
      exact ⟨ha, by rw [List.length_map]; exact hl, vs, _, rv, ha⟩
    · rw [Hn n] at z
      cases z
theorem walk_g {l : PySem.W.OpenLaw} {n k : Nat} {q : Program} {loose : List Str} {XP : (Str → Option Value) → Heap → Prop} {YP : World → Heap → Prop} {d : DefRec} {x : Str}
    (hn : l.most = some n) (hn2 : n ≤ sizeLine) (hdf : d.params.defaults = []) (hr : RG k callerA)
    (F : ∀ (w : World) (mg : Str → Option Value) (fa : Addr) (h : Heap), YP w h → h.Ns mainGlobals mg → mg d.name = some (.ref fa) →
      ∃ (K : PySem.W.Frag) (fd : FuncData) (sp : Sp), K.In h ∧ (∀ (s : Shared) (u : Value), BindsTo s fd ⟨[u], []⟩ [(x, u)]) ∧
        (∀ (H : Hp) (a : Addr) (ns : List Int), ns.length ≤ n → SqL K H a (ns.map V.int) → sp [.ref a] H (fun v _ => v = .bl true) fun _ _ _ => False) ∧
        ∀ base : Heap, K.In base → base.Ns mainGlobals mg → FnG l.prog w K mg base CX0 k fa fd [x] sp) :
    PySem.W.WalkO q loose XP YP l.row.toRowW d [] (fun f vs => PySem.call f vs) := by
  refine Att.attach_call hn hdf fun w s₀ t mg mb fa o pm cd doc a vs ns G Y ho hd hcd hmg hobj hints hlen hg => ?_
  obtain ⟨K, fd, sp, KX, hb, hsp, hF⟩ := F w mg fa _ Y G.T.g hmg
  exact law_g KX G.T.g G.T.b G.T.builtins G.T.nolimit hg hobj hints (Nat.le_trans hlen hn2) hr hF hb (fun H _ hS => hsp H a ns hlen hS) fun H e s' z => z
end My

set_option Elab.async false
set_option linter.all false
set_option maxRecDepth 100000
set_option maxHeartbeats 4000000
/-! LayE: heaps, lists, texts: steps -/
namespace My
open PySem PySem.Spec PyProof.Rows L2
/-- all but p stands -/
def But (p : Addr) (H H' : Hp) : Prop := ∀ q o, q ≠ p → H q = some o → H' q = some o
theorem But.at {p q : Addr} {H H' : Hp} {o : HO} (b : But p H H') (n : q ≠ p) (h : H q = some o) : H' q = some o := b q o n h
theorem But.rfl {p : Addr} {H : Hp} : But p H H := fun _ _ _ h => h
theorem But.trans {p : Addr} {H H1 H2 : Hp} (a : But p H H1) (b : But p H1 H2) : But p H H2 := fun q o n h => b q o n (a q o n h)
theorem But.new {p r : Addr} {H H1 : Hp} {u : HO} (a : But p H H1) (n : H1 r = none) : But p H (upd H1 r u) := fun q o m h => by
  have z := a q o m h
  rw [upd_ne (ne_of_none z n)]
  exact z
theorem But.put {p : Addr} {H H1 : Hp} {u : HO} (a : But p H H1) : But p H (upd H1 p u) := fun q o m h => by
  rw [upd_ne m]
  exact a q o m h
/-- an object that H does not know changes -/
theorem But.own {p r : Addr} {H H1 : Hp} {u : HO} (a : But p H H1) (n : H r = none) : But p H (upd H1 r u) := fun q o m h => by
  rw [upd_ne (ne_of_none h n)]
  exact a q o m h
theorem But.none {p r : Addr} {H H1 : Hp} (a : But p H H1) (n : H1 r = none) (m : r ≠ p) : H r = none := by
  cases q : H r with
  | none => rfl
  | some o =>
    rw [a r o m q] at n
    cases n
theorem Same.at {q : Addr} {H H' : Hp} {o : HO} (b : Same H H') (h : H q = some o) : H' q = some o := b q o h
theorem Same.but {p : Addr} {H H' : Hp} (b : Same H H') : But p H H' := fun q o _ h => b q o h
theorem Same.new {r : Addr} {H H1 : Hp} {u : HO} (a : Same H H1) (n : H1 r = none) : Same H (upd H1 r u) := fun q o h => by
  have z := a q o h
  rw [upd_ne (ne_of_none z n)]
  exact z
theorem Same.own {r : Addr} {H H1 : Hp} {u : HO} (a : Same H H1) (n : H r = none) : Same H (upd H1 r u) := fun q o h => by
  rw [upd_ne (ne_of_none h n)]
  exact a q o h
theorem But.sqL {K : PySem.W.Frag} {p a : Addr} {H H' : Hp} {xs : List V} (b : But p H H') (n : a ≠ p) (h : SqL K H a xs) : SqL K H' a xs := by
  rcases h with (h | ⟨o, h⟩) | h
  · exact .inl (.inl (b _ _ n h))
  · exact .inl (.inr ⟨o, b _ _ n h⟩)
  · exact .inr h
section
variable {K : PySem.W.Frag} {σ : L2.St} {H : Hp} {nx bk ct : L2.St → Hp → Prop} {rt : VK} {ta tb tc te tv : TE} {Q : VK} {t u : TS} {g : TG} {tA : TA} {c d : TT} {R : Bool → Hp → Prop} {RA : List V → Hp → Prop} {N : L2.St → Hp → Prop}
theorem r_ixL {p : Addr} {xs : List V} {i : Int} {v : V} (h : SqL K H p xs) (e : atI xs i = some v) (q : Q v H) : rIxL K (.ref p) (.int i) H Q := ⟨p, xs, i, v, rfl, rfl, h, e, q⟩
theorem r_ixT {p : Addr} {xs : List V} {i : Int} {v : V} (h : SqT K H p xs) (e : atI xs i = some v) (q : Q v H) : rIxT K (.ref p) (.int i) H Q := ⟨p, xs, i, v, rfl, rfl, h, e, q⟩
theorem r_setL {p : Addr} {xs : List V} {v : V} {k : Int} {j : Nat} {F : Hp → Prop} (h : H p = some (.lst xs)) (e : ixN xs.length k = some j) (q : F (upd H p (.lst (xs.set j v)))) : rSetL (.ref p) (.int k) v H F := ⟨p, xs, k, j, rfl, rfl, h, e, q⟩
theorem r_gtup {a : Addr} {xs : List V} {n : Nat} {tg : TGs} (h : SqT K H a xs) (e : xs.length = n) (q : tg xs σ H N) : gTup K n tg (.ref a) σ H N := ⟨a, xs, rfl, h, e, q⟩
theorem r_gcons {v : V} {r : List V} {tg : TG} {us : TGs} (q : tg v σ H fun σ' H' => us r σ' H' N) : gCons tg us (v :: r) σ H N := ⟨v, r, rfl, q⟩
theorem r_gnil (q : N σ H) : gNil [] σ H N := ⟨rfl, q⟩
theorem r_sl {r : V → Option Int → Option Int → Hp → VK → Prop} {tl th : TO} (h : te σ H fun x H1 => tl σ H1 fun l H2 => th σ H2 fun u H3 => r x l u H3 Q) : tSl r te tl th σ H Q := h
theorem r_nopart {F : Option Int → Hp → Prop} (h : F none H) : tNoPart σ H F := h
theorem r_part {F : Option Int → Hp → Prop} (h : te σ H fun x H1 => ∃ i, x = .int i ∧ F (some i) H1) : tPart te σ H F := h
theorem r_pint {i : Int} {F : Int → Prop} (h : F i) : ∃ j, V.int i = .int j ∧ F j := ⟨i, rfl, h⟩
theorem r_slL {p : Addr} {xs : List V} {lo hi : Option Int} (h : SqL K H p xs) (q : ∀ r, H r = none → Q (.ref r) (upd H r (.lst (cutV xs lo hi)))) : rSlL K (.ref p) lo hi H Q := ⟨p, xs, rfl, h, q⟩
theorem r_lenS {p : Addr} {xs : List V} {F : List V → Prop} (h : SqL K H p xs ∨ SqT K H p xs) (q : F xs) : ∃ a ys, ([V.ref p] : List V) = [.ref a] ∧ (SqL K H a ys ∨ SqT K H a ys) ∧ F ys := ⟨p, xs, rfl, h, q⟩
theorem r_dm {i j : Int} {C : Int → Int → Prop} {F : Int → Int → Prop} (hc : C i j) (q : F i j) : ∃ a b, ([V.int i, V.int j] : List V) = [.int a, .int b] ∧ C a b ∧ F a b := ⟨i, j, rfl, hc, q⟩
theorem r_len {xs : List V} {B : Prop} (h : xs.length ≤ sizeLine) (q : B) : xs.length ≤ sizeLine ∧ B := ⟨h, q⟩
theorem f_fld {f : Str} {a C dx : Addr} {fs : List (Str × V)} {v : V} {F : V → Prop} (h : H a = some (.ins C dx fs)) (c : Cls K C) (n : NoAttr K C f) (l : fs.lookup f = some v) (q : F v) :
    ∃ a' C' dx' fs' v', V.ref a = .ref a' ∧ H a' = some (.ins C' dx' fs') ∧ Cls K C' ∧ NoAttr K C' f ∧ fs'.lookup f = some v' ∧ F v' := ⟨a, C, dx, fs, v, rfl, h, c, n, l, q⟩
theorem r_tfld {f : Str} (h : ta σ H fun x H1 => ∃ a C dx fs v, x = .ref a ∧ H1 a = some (.ins C dx fs) ∧ Cls K C ∧ NoAttr K C f ∧ fs.lookup f = some v ∧ Q v H1) : tFld K ta f σ H Q := h
theorem r_isi_ii {F : VK} (q : F (.bl true) H) : rIsi K [.int i, .ty "int"] H F := ⟨_, _, _, _, true, rfl, .ty _, .base (.int i), kit_ty (by decide +kernel), q⟩
theorem r_isi_ib {F : VK} {i : Int} (q : F (.bl false) H) : rIsi K [.int i, .ty "bool"] H F := ⟨_, _, _, _, false, rfl, .ty _, .base (.int i), kit_ty (by decide +kernel), q⟩
theorem r_isi_ss {F : VK} {s : Str} (q : F (.bl true) H) : rIsi K [.str s, .ty "str"] H F := ⟨_, _, _, _, true, rfl, .ty _, .base (.str s), kit_ty (by decide +kernel), q⟩
theorem r_isi_own {F : VK} {a C C2 dx : Addr} {fs : List (Str × V)} {b : Bool} (h : H a = some (.ins C dx fs)) (i : InsOk K C) (k : PySem.W.kitOne K (.ref C) (.ref C2) = some b) (q : F (.bl b) H) : rIsi K [.ref a, .ref C2] H F := ⟨_, _, _, _, b, rfl, .own _, i.ty h, k, q⟩
theorem r_isi_ty {F : VK} {a C dx : Addr} {fs : List (Str × V)} {b : Bool} {n : String} (h : H a = some (.ins C dx fs)) (i : InsOk K C) (k : PySem.W.kitOne K (.ref C) (.type n) = some b) (q : F (.bl b) H) : rIsi K [.ref a, .ty n] H F := ⟨_, _, _, _, b, rfl, .ty _, i.ty h, k, q⟩
theorem r_isi_int_own {F : VK} {i : Int} {C2 : Addr} {b : Bool} (k : PySem.W.kitOne K (.type "int") (.ref C2) = some b) (q : F (.bl b) H) : rIsi K [.int i, .ref C2] H F := ⟨_, _, _, _, b, rfl, .own _, .base (.int i), k, q⟩
theorem r_make {C : Addr} {sp : Sp} {dvs : List V} {E : XK} (h : tA σ H fun vs H1 => ∀ x dx, H1 x = none → H1 dx = none → dx ≠ x → sp (.ref x :: (vs ++ dvs)) (upd (upd H1 dx (.own x)) x (.ins C dx [])) (fun v H2 => v = .non ∧ Q (.ref x) H2) E) : tMake C sp dvs E tA σ H Q := h
theorem r_makeL {i : Nat} {C : Addr} {sp : Sp} {dvs : List V} {E : XK} (e : σ[i]? = some (some (.ref C))) (h : tMake C sp dvs E tA σ H Q) : tMakeL i C sp dvs E tA σ H Q := ⟨e, h⟩
theorem r_isN {v w : V} (hw : w = .non) (q : Q (.bl (decide (v = .non))) H) : w = .non ∧ Q (.bl (decide (v = .non))) H := ⟨hw, q⟩
end
section
theorem r_pow {i j z : Int} {H : Hp} {Q : VK} (hc : CPow i j) (e : i ^ j.toNat = z) (q : Q (.int z) H) : rI CPow (fun i j => .int (i ^ j.toNat)) (.int i) (.int j) H Q := by
  subst e
  exact r_i hc q
theorem and_i {A B : Prop} (a : A) (b : B) : A ∧ B := ⟨a, b⟩
end
/-! loops -/
/-- what is left of a for once it is known what is walked -/
def LoopG (J : It) (g : TG) (tb : TS) (D : Ends) (σ : L2.St) (H : Hp) : Prop := tFor (fun _ H R => R J H) g tb D σ H
section
variable {K : PySem.W.Frag} {σ : L2.St} {H : Hp} {nx bk ct : L2.St → Hp → Prop} {rt : VK} {tl : TE} {tb : TS} {g : TG} {tA : TA} {c : TT}
theorem r_forR1 (h : tA σ H fun vs H1 => ∃ j : Int, vs = [.int j] ∧ -(2 ^ 62) ≤ j ∧ j < 2 ^ 62 ∧ LoopG (Itr 0 j.toNat) g tb ⟨nx, rt, bk, ct⟩ σ H1) : tFor (iRng1 tA) g tb ⟨nx, rt, bk, ct⟩ σ H := h
theorem r_forR2 (h : tA σ H fun vs H1 => ∃ i j : Int, vs = [.int i, .int j] ∧ (-(2 ^ 62) ≤ i ∧ i < 2 ^ 62 ∧ -(2 ^ 62) ≤ j ∧ j < 2 ^ 62) ∧ LoopG (Itr i (j - i).toNat) g tb ⟨nx, rt, bk, ct⟩ σ H1) : tFor (iRng2 tA) g tb ⟨nx, rt, bk, ct⟩ σ H := h
theorem r_forL (h : tl σ H fun x H1 => ∃ a, x = .ref a ∧ (∃ xs, SqL K H1 a xs) ∧ LoopG (Itl K a) g tb ⟨nx, rt, bk, ct⟩ σ H1) : tFor (iList K tl) g tb ⟨nx, rt, bk, ct⟩ σ H := h
theorem r_forT (h : tl σ H fun x H1 => ∃ a, x = .ref a ∧ (∃ xs, SqT K H1 a xs) ∧ LoopG (Itt K a) g tb ⟨nx, rt, bk, ct⟩ σ H1) : tFor (iTup K tl) g tb ⟨nx, rt, bk, ct⟩ σ H := h
theorem r_ref1 {p : Addr} {F : Addr → Prop} (h : F p) : ∃ a, V.ref p = .ref a ∧ F a := ⟨p, rfl, h⟩
theorem r_ex {xs : List V} {F : List V → Prop} {B : Prop} (h : F xs) (q : B) : (∃ ys, F ys) ∧ B := ⟨⟨xs, h⟩, q⟩
theorem lp_range {lo : Int} {n : Nat} (Pv : Nat → L2.St → Hp → Prop) (h0 : Pv 0 σ H) (hs : ∀ i σ H, i < n → Pv i σ H → g (.int (lo + i)) σ H fun σ2 H2 => tb ⟨Pv (i + 1), rt, nx, Pv (i + 1)⟩ σ2 H2) (hd : ∀ σ H, Pv n σ H → nx σ H) :
    LoopG (Itr lo n) g tb ⟨nx, rt, bk, ct⟩ σ H := for_range (D := ⟨nx, rt, bk, ct⟩) Pv h0 hs hd
theorem lp_list {a : Addr} {xs : List V} (Pv : Nat → L2.St → Hp → Prop) (h0 : Pv 0 σ H) (hl : ∀ i σ H, i ≤ xs.length → Pv i σ H → SqL K H a xs)
    (hs : ∀ i x σ H, xs[i]? = some x → Pv i σ H → g x σ H fun σ2 H2 => tb ⟨Pv (i + 1), rt, nx, Pv (i + 1)⟩ σ2 H2) (hd : ∀ σ H, Pv xs.length σ H → nx σ H) :
    LoopG (Itl K a) g tb ⟨nx, rt, bk, ct⟩ σ H := for_list (D := ⟨nx, rt, bk, ct⟩) Pv h0 hl hs hd
theorem lp_tup {a : Addr} {xs : List V} (Pv : Nat → L2.St → Hp → Prop) (h0 : Pv 0 σ H) (hl : ∀ i σ H, i ≤ xs.length → Pv i σ H → SqT K H a xs)
    (hs : ∀ i x σ H, xs[i]? = some x → Pv i σ H → g x σ H fun σ2 H2 => tb ⟨Pv (i + 1), rt, nx, Pv (i + 1)⟩ σ2 H2) (hd : ∀ σ H, Pv xs.length σ H → nx σ H) :
    LoopG (Itt K a) g tb ⟨nx, rt, bk, ct⟩ σ H := for_tup (D := ⟨nx, rt, bk, ct⟩) Pv h0 hl hs hd
theorem lp_while (Pv : L2.St → Hp → Prop) (μ : L2.St → Hp → Nat) (h0 : Pv σ H)
    (hs : ∀ σ H, Pv σ H → c σ H fun b H1 => if b = true then (∃ N : L2.St → Hp → Prop, (∀ σ' H', N σ' H' → ∃ m', m' < μ σ H ∧ (m' = μ σ' H' ∧ Pv σ' H')) ∧ tb ⟨N, rt, nx, N⟩ σ H1) else nx σ H1) : tWhile c tb ⟨nx, rt, bk, ct⟩ σ H := by
  refine ⟨fun m σ H => m = μ σ H ∧ Pv σ H, ⟨_, rfl, h0⟩, ?_⟩
  rintro m σ H ⟨rfl, p⟩
  exact hs σ H p
theorem w_turn {Pv : L2.St → Hp → Prop} {μ : L2.St → Hp → Nat} {m : Nat} (h : tb ⟨fun σ' H' => Pv σ' H' ∧ μ σ' H' < m, rt, nx, fun σ' H' => Pv σ' H' ∧ μ σ' H' < m⟩ σ H) :
    ∃ N : L2.St → Hp → Prop, (∀ σ' H', N σ' H' → ∃ m', m' < m ∧ (m' = μ σ' H' ∧ Pv σ' H')) ∧ tb ⟨N, rt, nx, N⟩ σ H := ⟨_, fun σ' H' q => ⟨_, q.2, rfl, q.1⟩, h⟩
end
theorem call_divmodA {X : Cx} : CallR X (.builtin "divmod") (fun xs H Q => ∃ i j, xs = [.int i, .int j] ∧ CDivW i j ∧ ∀ p, H p = none → Q (.ref p) (upd H p (.tup [.int (i / j), .int (i % j)]))) := by
  intro pins s σ H xs us Q I r h
  obtain ⟨i, j, rfl, hc, q⟩ := h
  exact call_divmodW pins s σ H _ us Q I r ⟨i, j, rfl, ⟨hc.1, PyProof.noPylong_of_log2 hc.2⟩, q⟩
/-- a product one of whose factors is below 2 ^ 64 -/
theorem ml {i j : Int} (h1 : -(2 ^ 64) < i) (h2 : i < 2 ^ 64) : IntMulOk i j := CMul.ok (.inl ⟨h1, h2⟩)
theorem mr {i j : Int} (h1 : -(2 ^ 64) < j) (h2 : j < 2 ^ 64) : IntMulOk i j := CMul.ok (.inr ⟨h1, h2⟩)
theorem sz {n : Nat} (h : n ≤ 1000) : n ≤ sizeLine := Nat.le_trans h (by decide)
theorem szl {n : Nat} (h : n ≤ 1000) : n < sizeLine := Nat.lt_of_le_of_lt h (by decide)
theorem atI_map {ns : List Int} {i : Int} (h0 : 0 ≤ i) (h : i < ns.length) : atI (ns.map V.int) i = some (.int (ns.getD i.toNat 0)) := by
  obtain ⟨k, rfl⟩ := Int.eq_ofNat_of_zero_le h0
  refine atI_nat ?_
  have hk : k < ns.length := by omega
  rw [List.getElem?_map, List.getElem?_eq_getElem hk, Int.toNat_natCast, List.getD_eq_getElem?_getD, List.getElem?_eq_getElem hk] <;> rfl
theorem cut_map (ns : List Int) (lo hi : Option Int) : ∃ ms : List Int, cutV (ns.map V.int) lo hi = ms.map V.int ∧ ms.length ≤ ns.length := by
  refine ⟨(ns.drop (HT.sIx ns.length 0 lo)).take (HT.sIx ns.length ns.length hi - HT.sIx ns.length 0 lo), ?_, ?_⟩
  · unfold cutV
    rw [List.length_map, List.map_take, List.map_drop]
  · rw [List.length_take, List.length_drop]
    omega
theorem pickV {xs : List V} {i : Int} (h0 : 0 ≤ i) (h : i < xs.length) : ∃ v, atI xs i = some v ∧ v ∈ xs := by
  obtain ⟨k, rfl⟩ := Int.eq_ofNat_of_zero_le h0
  have hk : k < xs.length := by omega
  exact ⟨xs[k], atI_nat (List.getElem?_eq_getElem hk), List.getElem_mem hk⟩
theorem pickI (xs : List Int) {i : Int} (h0 : 0 ≤ i) (h : i < xs.length) : ∃ z, atI (xs.map V.int) i = some (.int z) ∧ z ∈ xs := by
  obtain ⟨v, e, m⟩ := pickV (xs := xs.map V.int) h0 (by rw [List.length_map]; exact h)
  obtain ⟨z, hz, rfl⟩ := List.mem_map.mp m
  exact ⟨z, e, hz⟩
/-- an item of a list of ints -/
theorem get_map {ns : List Int} {i : Nat} {y : V} (h : (ns.map V.int)[i]? = some y) : ∃ z, y = .int z ∧ ns[i]? = some z ∧ i < ns.length := by
  rw [List.getElem?_map] at h
  cases e : ns[i]? with
  | none =>
    rw [e] at h
    cases h
  | some z =>
    rw [e] at h
    exact ⟨z, (Option.some.inj h).symm, rfl, (List.getElem?_eq_some_iff.mp e).1⟩
/-- a divisor below 2 ^ 60 -/
theorem dv {i j : Int} (h1 : 0 < j) (h2 : j < 2 ^ 60) : CDivW i j := wide_div (b := 60) h1 (by omega) (by decide) (by decide)
end My

set_option Elab.async false
set_option linter.all false
set_option maxRecDepth 100000
set_option maxHeartbeats 4000000
/-! LayF: sizes of ints, texts of ints, more steps, comparisons of data, list comprehensions -/
namespace My
open PySem PySem.Builtin PySem.Builtin.Str PySem.Spec PyProof.Rows L2 SX
/-! ### sizes -/
def Bd (b : Nat) (i : Int) : Prop := i.natAbs < 2 ^ b
theorem Bd.of {b : Nat} {i : Int} (h1 : -(2 ^ b) < i) (h2 : i < 2 ^ b) : Bd b i := by
  have e : ((2 : Nat) ^ b : Int) = (2 : Int) ^ b := rfl
  unfold Bd
  have z : ((2 ^ b : Nat) : Int) = (2 : Int) ^ b := by push_cast; rfl
  omega
theorem Bd.mono {a b : Nat} {i : Int} (h : Bd a i) (hab : a ≤ b) : Bd b i := Nat.lt_of_lt_of_le h (Nat.pow_le_pow_right (by decide) hab)
theorem Bd.mul {a b : Nat} {i j : Int} (h : Bd a i) (k : Bd b j) : Bd (a + b) (i * j) := by
  unfold Bd at *
  rw [Int.natAbs_mul, Nat.pow_add]
  exact Nat.mul_lt_mul_of_lt_of_le h (Nat.le_of_lt k) (Nat.pow_pos (by decide))
theorem Bd.add {a b : Nat} {i j : Int} (h : Bd a i) (k : Bd b j) : Bd (a + b + 1) (i + j) := by
  unfold Bd at *
  have h1 : (2 : Nat) ^ a ≤ 2 ^ (a + b) := Nat.pow_le_pow_right (by decide) (by omega)
  have h2 : (2 : Nat) ^ b ≤ 2 ^ (a + b) := Nat.pow_le_pow_right (by decide) (by omega)
  have h3 : (2 : Nat) ^ (a + b + 1) = 2 ^ (a + b) * 2 := Nat.pow_succ ..
  omega
theorem Bd.neg {a : Nat} {i : Int} (h : Bd a i) : Bd a (-i) := by
  unfold Bd at *
  rw [Int.natAbs_neg]
  exact h
theorem Bd.sub {a b : Nat} {i j : Int} (h : Bd a i) (k : Bd b j) : Bd (a + b + 1) (i - j) := by
  rw [Int.sub_eq_add_neg]
  exact h.add k.neg
theorem Bd.le {a : Nat} {i j : Int} (h : Bd a i) (k : j.natAbs ≤ i.natAbs) : Bd a j := Nat.lt_of_le_of_lt k h
theorem Bd.quo {a : Nat} {i : Int} (h : Bd a i) (j : Int) : Bd a (i / j) := h.le (Int.natAbs_ediv_le_natAbs i j)
theorem Bd.rem {a : Nat} {i j : Int} (h : Bd a j) (h0 : 0 < j) : Bd a (i % j) := h.le (by
  have h1 := Int.emod_nonneg i (show j ≠ 0 by omega)
  have h2 := Int.emod_lt_of_pos i h0
  omega)
theorem Bd.mulOk {a b : Nat} {i j : Int} (h : Bd a i) (k : Bd b j) (h0 : 0 < a) (h1 : 0 < b) (hs : a + b ≤ 1000000) : IntMulOk i j := CMulW.ok (wide_mul h k h0 h1 hs)
theorem Bd.div {b : Nat} {i j : Int} (h : Bd b j) (hp : 0 < j) (h0 : 0 < b) (h9 : b ≤ 9000) : CDivW i j := wide_div hp h h0 h9
theorem Bd.lg {b : Nat} {i : Int} (h : Bd b i) (h0 : 0 < b) (h9 : b ≤ 1920) : i.natAbs.log2 < 1920 := Nat.lt_of_lt_of_le (PySem.Flt.log2_lt_of h0 h) h9
theorem Bd.ten {k : Nat} {i : Int} (h1 : -(10 ^ k) < i) (h2 : i < 10 ^ k) : Bd (4 * k) i := by
  unfold Bd
  have e : (2 : Nat) ^ (4 * k) = 16 ^ k := by rw [Nat.pow_mul] <;> rfl
  have l : (10 : Nat) ^ k ≤ 16 ^ k := Nat.pow_le_pow_left (by decide) k
  have z : ((10 ^ k : Nat) : Int) = (10 : Int) ^ k := by push_cast; rfl
  omega
/-! ### texts of ints -/
def intL (i : Int) : List Nat := if i < 0 then 45 :: TL.numL i.natAbs else TL.numL i.natAbs
theorem intL_neg {i : Int} (h : i < 0) : intL i = 45 :: TL.numL i.natAbs := if_pos h
theorem intL_nn {i : Int} (h : ¬ i < 0) : intL i = TL.numL i.natAbs := if_neg h
theorem txt_int (i : Int) : Str.ofString (toString i) = S (intL i) := by
  by_cases h : i < 0
  · obtain ⟨n, rfl⟩ : ∃ n : Nat, i = Int.negSucc n := by
      cases i with
      | ofNat n => exact absurd h (by simp)
      | negSucc n => exact ⟨n, rfl⟩
    rw [intL_neg h]
    refine TL.ext_tl ?_
    rw [TL.tl_ofString]
    have e : toString (Int.negSucc n) = "-" ++ toString (n + 1) := rfl
    rw [e, String.toList_append, List.map_append]
    have e2 := TL.tl_num (n + 1)
    rw [TL.tl_ofString] at e2
    have e3 : toString (((n + 1 : Nat)) : Int) = toString (n + 1) := rfl
    rw [e3] at e2
    rw [e2]
    rfl
  · obtain ⟨n, rfl⟩ := Int.eq_ofNat_of_zero_le (Int.not_lt.mp h)
    rw [intL_nn h, num_S, Int.natAbs_natCast]
theorem numL_first {n : Nat} (h : 0 < n) : ∃ c l, TL.numL n = c :: l ∧ c ≠ 48 := by
  induction n using Nat.strongRecOn with
  | _ n ih =>
    by_cases h10 : n < 10
    · exact ⟨48 + n, [], TL.numL_lt h10, by omega⟩
    · obtain ⟨c, l, e, hc⟩ := ih (n / 10) (by omega) (by omega)
      exact ⟨c, l ++ [48 + n % 10], by rw [TL.numL_step (by omega), e] <;> rfl, hc⟩
theorem intL_len {k : Nat} {i : Int} (hk : 0 < k) (h1 : -(10 ^ k) < i) (h2 : i < 10 ^ k) : (intL i).length ≤ k + 1 := by
  have z : ((10 ^ k : Nat) : Int) = (10 : Int) ^ k := by push_cast; rfl
  have hn : i.natAbs < 10 ^ k := by omega
  have l := TL.numL_len hk hn
  unfold intL
  split
  · rw [List.length_cons]
    omega
  · omega
theorem bd_numL {b : Nat} {n : Nat} (hb : 0 < b) (h : n < 2 ^ b) : (TL.numL n).length ≤ b := TL.numL_len hb (Nat.lt_of_lt_of_le h (Nat.pow_le_pow_left (by decide) b))
theorem bd_intL {b : Nat} {i : Int} (hb : 0 < b) (h : Bd b i) : (intL i).length ≤ b + 1 := by
  have l := bd_numL hb h
  unfold intL
  split
  · rw [List.length_cons]
    omega
  · omega
theorem intL_free {i : Int} {s : Nat} (h : s < 48 ∨ 57 < s) (h2 : s ≠ 45) : s ∉ intL i := by
  unfold intL
  split
  · intro z
    rcases List.mem_cons.mp z with z | z
    · exact h2 z
    · exact TL.numL_free h z
  · exact TL.numL_free h
theorem intL_ne (i : Int) : intL i ≠ [] := by
  unfold intL
  split
  · exact List.cons_ne_nil _ _
  · exact TL.numL_ne _
theorem intL_val {i : Int} (h : (intL i).length ≤ 4300) : intText? (S (intL i)) = some i := by
  by_cases hi : i < 0
  · rw [intL_neg hi] at h ⊢
    have e := PySem.intText_neg (x := S (45 :: TL.numL i.natAbs)) rfl (TL.numL_digits _) (TL.numL_ne _) (by rw [S_len]; exact h)
    rw [e, TL.numL_val]
    congr 1
    omega
  · rw [intL_nn hi] at h ⊢
    have e := PySem.intText_digits (x := S (TL.numL i.natAbs)) (TL.numL_digits _) (TL.numL_ne _) (by rw [S_len]; exact h)
    rw [e]
    show some ((PySem.NumText.digitsVal (TL.numL i.natAbs) : Nat) : Int) = some i
    rw [TL.numL_val]
    congr 1
    omega
theorem intL_inj {i j : Int} (h : intL i = intL j) : i = j := by
  have hd : ∀ n, ∃ c l, TL.numL n = c :: l ∧ 48 ≤ c := fun n => by
    have d := TL.numL_digits n
    have e := TL.numL_ne n
    revert d e
    generalize TL.numL n = q
    intro d e
    match q, d, e with
    | [], _, e => exact (e rfl).elim
    | c :: l, d, _ => exact ⟨c, l, rfl, (d c (List.mem_cons_self ..)).1⟩
  unfold intL at h
  split at h <;> split at h
  · have e := TL.numL_inj (List.cons.inj h).2
    omega
  · obtain ⟨c, l, e, hc⟩ := hd j.natAbs
    rw [e] at h
    have := (List.cons.inj h).1
    omega
  · obtain ⟨c, l, e, hc⟩ := hd i.natAbs
    rw [e] at h
    have := (List.cons.inj h).1
    omega
  · have e := TL.numL_inj h
    omega
theorem starts1 (c d : Nat) (l : List Nat) : Txt.startswith (S (c :: l)) (S [d]) = decide (c = d) := by
  unfold Txt.startswith
  rw [S_len, S_len]
  have e1 : decide (0 + [d].length ≤ (c :: l).length) = true := decide_eq_true (by simp)
  rw [e1, Bool.true_and]
  have e2 : subAt (S (c :: l)) (S [d]) 0 = (c == d) := by
    unfold subAt
    simp [S, Str.length]
  rw [e2]
  cases h : (c == d) with
  | true => rw [decide_eq_true (eq_of_beq h)]
  | false => rw [decide_eq_false (by intro z; rw [z, beq_self_eq_true] at h; cases h)]
theorem isdig {l : List Nat} (h : PySem.NumText.AllDigits l) (hn : l ≠ []) : Txt.isdigit (S l) = true := by
  unfold Txt.isdigit
  have e1 : decide ((S l).length > 0) = true := decide_eq_true (by rw [S_len]; exact List.length_pos_iff.mpr hn)
  rw [e1, Bool.true_and]
  show (S l).cps.all Unicode.isDigit = true
  rw [← Array.all_toList, List.all_eq_true]
  intro c hc
  have hc2 : c ∈ l := hc
  obtain ⟨a, b⟩ := h c hc2
  have all : ∀ k : Nat, k < 10 → Unicode.isDigit (48 + k) = true := by decide +kernel
  have := all (c - 48) (by omega)
  rwa [show 48 + (c - 48) = c by omega] at this
theorem cut_tail (c : Nat) (l : List Nat) : cutS (S (c :: l)) (some 1) none = S l := by
  unfold cutS
  refine congrArg S ?_
  rw [S_len]
  show List.take (HT.sIx (c :: l).length (c :: l).length none - HT.sIx (c :: l).length 0 (some 1)) (List.drop (HT.sIx (c :: l).length 0 (some 1)) (c :: l)) = l
  have e1 : HT.sIx (c :: l).length 0 (some 1) = 1 := by
    simp [HT.sIx]
  have e2 : HT.sIx (c :: l).length (c :: l).length none = l.length + 1 := by
    simp [HT.sIx]
  rw [e1, e2]
  simp
theorem split1 {p : List Nat} {c : Nat} (hk : c < 256) (h : c ∉ p) : Txt.split (S p) (S [c]) = [S p] := by
  rw [split_S (List.cons_ne_nil _ _) (by simp [hk])]
  have e := spl_join (c := c) (sep := []) (parts := [p]) (List.cons_ne_nil _ _) (by simpa using h)
  have j : TL.joinL [c] [p] = p := by simp [TL.joinL]
  rw [j] at e
  rw [e]
  rfl
theorem split2 {p q : List Nat} {c : Nat} (hk : c < 256) (h : c ∉ p) (h2 : c ∉ q) : Txt.split (S (p ++ c :: q)) (S [c]) = [S p, S q] := by
  rw [split_S (List.cons_ne_nil _ _) (by simp [hk])]
  have e := spl_join (c := c) (sep := []) (parts := [p, q]) (List.cons_ne_nil _ _) (by simp [h, h2])
  have j : TL.joinL [c] [p, q] = p ++ c :: q := by simp [TL.joinL]
  rw [j] at e
  rw [e]
  rfl
theorem cat_S (a b : Str) : a ++ b = S (a.cps.toList ++ b.cps.toList) := TL.ext_tl (TL.tl_append a b)
theorem lcat (a b : Str) : (a ++ b).length = a.length + b.length := by
  rw [cat_S, S_len, List.length_append]
  rfl
theorem at_new {H : Hp} {a l : Addr} {o u : HO} (n : H l = none) (h : H a = some o) : upd H l u a = some o := (upd_ne (ne_of_none h n)).trans h
theorem at_or {H : Hp} {a l : Addr} {o u : HO} (h : H a = some o) (n : H l = none ∨ a ≠ l) : upd H l u a = some o := n.elim (fun n => at_new n h) fun n => (upd_ne n).trans h
theorem abs_nat (i : Int) : (if i < 0 then -i else i) = (i.natAbs : Int) := by split <;> omega
theorem same_made {H H' : Hp} {x dx C : Addr} {fs : List (Str × V)} (h1 : H x = none) (h2 : H dx = none) (b : But x (upd (upd H dx (.own x)) x (.ins C dx fs)) H') : Same H H' := fun q o h => by
  have q1 : q ≠ x := ne_of_none h h1
  have q2 : q ≠ dx := ne_of_none h h2
  exact b q o q1 (by rw [upd_ne q1, upd_ne q2]; exact h)
theorem sq_but {K : PySem.W.Frag} {H H1 H2 : Hp} {a p : Addr} {xs : List V} (h : SqL K H a xs) (n : H p = none) (s : Same H H1) (b : But p H1 H2) : SqL K H2 a xs := by
  rcases h with (h | ⟨o, h⟩) | h
  · exact .inl (.inl (b _ _ (ne_of_none h n) (s _ _ h)))
  · exact .inl (.inr ⟨o, b _ _ (ne_of_none h n) (s _ _ h)⟩)
  · exact .inr h
/-! ### more steps -/
section
variable {K : PySem.W.Frag} {σ : L2.St} {H : Hp} {nx bk ct : L2.St → Hp → Prop} {rt : VK} {ta tb tc te tv tl : TE} {Q : VK} {t u : TS} {g : TG} {tA tk : TA} {c d : TT} {R : Bool → Hp → Prop} {RA : List V → Hp → Prop} {N : L2.St → Hp → Prop} {C : Addr} {sp : Sp} {dvs : List V} {E : XK}
theorem r_fmt (h : te σ H fun x H1 => (∃ y : Str, x = .str y ∧ y.length ≤ sizeLine ∧ Q (.str y) H1) ∨ ∃ i : Int, x = .int i ∧ i.natAbs.log2 < 1920 ∧ Q (.str (toString i)) H1) : tFmt te σ H Q := h
theorem r_fmti {i : Int} {A : Prop} {F : Int → Prop} (h : i.natAbs.log2 < 1920) (q : F i) : A ∨ ∃ j : Int, V.int i = .int j ∧ j.natAbs.log2 < 1920 ∧ F j := .inr ⟨i, rfl, h, q⟩
theorem r_fmts {y : Str} {A : Prop} {F : Str → Prop} (h : y.length ≤ 1000) (q : F y) : (∃ z : Str, V.str y = .str z ∧ z.length ≤ sizeLine ∧ F z) ∨ A := .inl ⟨y, rfl, sz h, q⟩
theorem r_js0 {acc : Str} {F : Str → Hp → Prop} (h : F acc H) : tJs [] acc σ H F := h
theorem r_js {ts : List TE} {acc : Str} {F : Str → Hp → Prop} (h : te σ H fun x H1 => ∃ y : Str, x = .str y ∧ (acc ++ y).length ≤ sizeLine ∧ tJs ts (acc ++ y) σ H1 F) : tJs (te :: ts) acc σ H F := h
theorem r_jsp {acc y : Str} {F : Str → Prop} (h : (acc ++ y).length ≤ 1000) (q : F y) : ∃ z : Str, V.str y = .str z ∧ (acc ++ z).length ≤ sizeLine ∧ F z := ⟨y, rfl, sz h, q⟩
theorem r_strI {i : Int} {F : Int → Prop} (h : i.natAbs.log2 < 1920) (q : F i) : ∃ j : Int, ([V.int i] : List V) = [.int j] ∧ j.natAbs.log2 < 1920 ∧ F j := ⟨i, rfl, h, q⟩
theorem r_m0 {r : V → List V → Hp → VK → Prop} (h : ta σ H fun x H1 => (∃ a, x = .str a) ∧ r x [] H1 Q) : tM0 r ta σ H Q := h
theorem r_m1 {r : V → List V → Hp → VK → Prop} (h : ta σ H fun x H1 => (∃ a, x = .str a) ∧ tb σ H1 fun y H2 => r x [y] H2 Q) : tM1 r ta tb σ H Q := h
theorem r_str {a : Str} {B : Prop} (h : B) : (∃ b, V.str a = .str b) ∧ B := ⟨⟨a, rfl⟩, h⟩
theorem r_ss {a b : Str} {F : Str → Str → Prop} (h : F a b) : ∃ x y, V.str a = .str x ∧ ([V.str b] : List V) = [.str y] ∧ F x y := ⟨a, b, rfl, rfl, h⟩
theorem r_s0 {a : Str} {F : Str → Prop} (h : F a) : ∃ x, V.str a = .str x ∧ ([] : List V) = [] ∧ True ∧ F x := ⟨a, rfl, rfl, trivial, h⟩
theorem r_addS {a b : Str} {F : Str → Str → Prop} (h : a.length + b.length ≤ 1000) (q : F a b) : ∃ x y, V.str a = .str x ∧ V.str b = .str y ∧ x.length + y.length ≤ sizeLine ∧ F x y := ⟨a, b, rfl, rfl, sz h, q⟩
theorem r_slS {z : Str} {lo hi : Option Int} (h : z.length ≤ 1000) (q : Q (.str (cutS z lo hi)) H) : rSlS (.str z) lo hi H Q := ⟨z, rfl, sz h, q⟩
theorem r_lenT {z : Str} {F : Str → Prop} (h : z.length ≤ 1000) (q : F z) : ∃ y, ([V.str z] : List V) = [.str y] ∧ y.length ≤ sizeLine ∧ F y := ⟨z, rfl, sz h, q⟩
theorem r_intS {a : Str} {n : Int} {F : Int → Prop} (h : intText? a = some n) (hl : a.length ≤ 640) (q : F n) : ∃ b m, ([V.str a] : List V) = [.str b] ∧ intText? b = some m ∧ b.length ≤ 640 ∧ F m := ⟨a, n, rfl, h, hl, q⟩
theorem r_prop {a dx : Addr} {fs : List (Str × V)} (h : ta σ H fun x H1 => ∃ a dx fs, x = .ref a ∧ H1 a = some (.ins C dx fs) ∧ sp (.ref a :: dvs) H1 Q E) : tProp C sp dvs E ta σ H Q := h
theorem r_tprop (h : ta σ H fun x H1 => ∃ a dx fs, x = .ref a ∧ H1 a = some (.ins C dx fs) ∧ sp (.ref a :: dvs) H1 Q E) : tProp C sp dvs E ta σ H Q := h
theorem f_prop {a dx : Addr} {fs : List (Str × V)} {F : Addr → Prop} (h : H a = some (.ins C dx fs)) (q : F a) : ∃ a' dx' fs', V.ref a = .ref a' ∧ H a' = some (.ins C dx' fs') ∧ F a' := ⟨a, dx, fs, rfl, h, q⟩
theorem r_tmeth {m : Str} (h : ta σ H fun x H1 => ∃ a dx fs, x = .ref a ∧ H1 a = some (.ins C dx fs) ∧ fs.lookup m = none ∧ tA σ H1 fun vs H2 => sp (x :: (vs ++ dvs)) H2 Q E) : tMeth C m sp dvs E ta tA σ H Q := h
theorem f_meth {m : Str} {a dx : Addr} {fs : List (Str × V)} {B : Prop} (h : H a = some (.ins C dx fs)) (n : fs.lookup m = none) (q : B) : ∃ a' dx' fs', V.ref a = .ref a' ∧ H a' = some (.ins C dx' fs') ∧ fs'.lookup m = none ∧ B := ⟨a, dx, fs, rfl, h, n, q⟩
theorem r_tcm (h : ta σ H fun x H1 => x = .ref C ∧ tA σ H1 fun vs H2 => sp (.ref C :: vs) H2 Q E) : ClX.tCMeth C sp E ta tA σ H Q := h
theorem r_rr {v : V} {B : Prop} (h : B) : v = v ∧ B := ⟨rfl, h⟩
theorem r_makeK {n m : Nat} {gV : List V → List V → List V} (h : tA σ H fun vs H1 => tk σ H1 fun zs H2 => vs.length = n ∧ zs.length = m ∧ ∀ x dx, H2 x = none → H2 dx = none → dx ≠ x → sp (gV (.ref x :: vs) zs) (upd (upd H2 dx (.own x)) x (.ins C dx [])) (fun v H3 => v = .non ∧ Q (.ref x) H3) E) : tMakeK C n m sp gV E tA tk σ H Q := h
theorem r_callN {n m : Nat} {gV : List V → List V → List V} (h : tA σ H fun vs H1 => tk σ H1 fun zs H2 => vs.length = n ∧ zs.length = m ∧ sp (gV vs zs) H2 Q E) : tCallN n m sp gV E tA tk σ H Q := h
theorem f_strOwn {a dx : Addr} {fs : List (Str × V)} (h : H a = some (.ins C dx fs)) (q : sp [.ref a] H (fun v H' => ∃ y : Str, v = .str y ∧ Q v H') E0) : rStrOwn C sp [.ref a] H Q := ⟨a, dx, fs, rfl, h, q⟩
theorem f_str {y : Str} {H : Hp} (q : Q (.str y) H) : ∃ z : Str, V.str y = .str z ∧ Q (.str y) H := ⟨y, rfl, q⟩
theorem r_sfld {f : Str} (h : tv σ H fun y H1 => ta σ H1 fun x H2 => ∃ a C dx fs, x = .ref a ∧ H2 a = some (.ins C dx fs) ∧ Cls K C ∧ NoAttr K C f ∧ fs.length < 1000 ∧ nx σ (upd H2 a (.ins C dx (putF f y fs)))) : sFld K ta tv f ⟨nx, rt, bk, ct⟩ σ H := h
theorem f_sfld {f : Str} {a dx : Addr} {fs : List (Str × V)} {F : Addr → Addr → Addr → List (Str × V) → Prop} (h : H a = some (.ins C dx fs)) (c : Cls K C) (n : NoAttr K C f) (l : fs.length < 1000) (q : F a C dx fs) :
    ∃ a' C' dx' fs', V.ref a = .ref a' ∧ H a' = some (.ins C' dx' fs') ∧ Cls K C' ∧ NoAttr K C' f ∧ fs'.length < 1000 ∧ F a' C' dx' fs' := ⟨a, C, dx, fs, rfl, h, c, n, l, q⟩
theorem r_inT {p : Addr} {xs : List V} {v : V} {neg : Bool} (h : SqT K H p xs) (f : (flatV v && xs.all flatV) = true) (e : (if neg then !inV v xs else inV v xs) = true) (q : Q (.bl true) H) : rIn K neg v (.ref p) H Q := by
  rw [Bool.and_eq_true] at f
  exact ⟨p, xs, rfl, .inr h, f.1, f.2, by rw [e]; exact q⟩
theorem r_inF {p : Addr} {xs : List V} {v : V} {neg : Bool} (h : SqT K H p xs) (f : (flatV v && xs.all flatV) = true) (e : (if neg then !inV v xs else inV v xs) = false) (q : Q (.bl false) H) : rIn K neg v (.ref p) H Q := by
  rw [Bool.and_eq_true] at f
  exact ⟨p, xs, rfl, .inr h, f.1, f.2, by rw [e]; exact q⟩
theorem r_eqD {x y : V} {d e : PyData} {b : Bool} (h1 : Dp K H x d) (h2 : Dp K H y e) (s1 : SeqAt.shaped d = true) (s2 : SeqAt.shaped e = true) (hb : PyData.eqv d e = b) (q : Q (.bl b) H) : rEqD K x y H Q := ⟨d, e, h1, h2, s1, s2, by rw [hb]; exact q⟩
theorem r_neD {x y : V} {d e : PyData} {b : Bool} (h1 : Dp K H x d) (h2 : Dp K H y e) (s1 : SeqAt.shaped d = true) (s2 : SeqAt.shaped e = true) (hb : PyData.eqv d e = b) (q : Q (.bl (!b)) H) : rNeD K x y H Q := ⟨d, e, h1, h2, s1, s2, by rw [hb]; exact q⟩
/-! lists of ints, of texts as data -/
theorem dp_ints : ∀ ns : List Int, DpAll K H (ns.map V.int) (ns.map PyData.int)
  | [] => .nil
  | n :: ns => .cons (.int n) (dp_ints ns)
theorem dp_strs : ∀ ns : List Str, DpAll K H (ns.map V.str) (ns.map PyData.str)
  | [] => .nil
  | n :: ns => .cons (.str n) (dp_strs ns)
theorem eqv_ints : ∀ ns ms : List Int, PyData.eqvAll (ns.map PyData.int) (ms.map PyData.int) = decide (ns = ms)
  | [], [] => by simp [PyData.eqvAll]
  | [], _ :: _ => by simp [PyData.eqvAll]
  | _ :: _, [] => by simp [PyData.eqvAll]
  | n :: ns, m :: ms => by
    rw [List.map_cons, List.map_cons, PyData.eqvAll, eqv_ints ns ms, PyData.eqv]
    by_cases h : n = m
    · subst h
      simp
    · have e : (n == m) = false := by simp [h]
      rw [e]
      simp [h]
theorem eqv_strs : ∀ ns ms : List Str, PyData.eqvAll (ns.map PyData.str) (ms.map PyData.str) = decide (ns = ms)
  | [], [] => by simp [PyData.eqvAll]
  | [], _ :: _ => by simp [PyData.eqvAll]
  | _ :: _, [] => by simp [PyData.eqvAll]
  | n :: ns, m :: ms => by
    rw [List.map_cons, List.map_cons, PyData.eqvAll, eqv_strs ns ms, PyData.eqv]
    by_cases h : n = m
    · subst h
      simp
    · have e : (n == m) = false := by simp [h]
      rw [e]
      simp [h]
theorem lay_ints : ∀ ns : List Int, PyData.canLayAll0 (ns.map PyData.int) = true
  | [] => by simp [PyData.canLayAll0]
  | n :: ns => by rw [List.map_cons, PyData.canLayAll0, lay_ints ns, PyData.canLay0] <;> rfl
theorem dep_ints : ∀ ns : List Int, PyData.depthAll (ns.map PyData.int) ≤ 1
  | [] => by simp [PyData.depthAll]
  | n :: ns => by
    have := dep_ints ns
    rw [List.map_cons, PyData.depthAll, PyData.depth]
    omega
theorem shp_ints (ns : List Int) : SeqAt.shaped (.list (ns.map PyData.int)) = true := by
  unfold SeqAt.shaped
  rw [PyData.canLay0, lay_ints, Bool.true_and, decide_eq_true_eq, PyData.depth]
  have := dep_ints ns
  omega
theorem lay_strs : ∀ ns : List Str, (∀ s ∈ ns, PyData.strOk s = true) → PyData.canLayAll0 (ns.map PyData.str) = true
  | [], _ => by simp [PyData.canLayAll0]
  | n :: ns, h => by rw [List.map_cons, PyData.canLayAll0, lay_strs ns (fun s hs => h s (List.mem_cons_of_mem _ hs)), PyData.canLay0, h n (List.mem_cons_self ..)] <;> rfl
theorem dep_strs : ∀ ns : List Str, PyData.depthAll (ns.map PyData.str) ≤ 1
  | [] => by simp [PyData.depthAll]
  | n :: ns => by
    have := dep_strs ns
    rw [List.map_cons, PyData.depthAll, PyData.depth]
    omega
theorem shp_strs (ns : List Str) (h : ∀ s ∈ ns, PyData.strOk s = true) : SeqAt.shaped (.list (ns.map PyData.str)) = true := by
  unfold SeqAt.shaped
  rw [PyData.canLay0, lay_strs ns h, Bool.true_and, decide_eq_true_eq, PyData.depth]
  have := dep_strs ns
  omega
theorem strOk_S {l : List Nat} (h : ∀ c ∈ l, c < 0x110000) : PyData.strOk (S l) = true := by
  unfold PyData.strOk
  rw [← Array.all_toList, List.all_eq_true]
  intro c hc
  exact decide_eq_true (h c hc)
theorem r_eqI {a b : Addr} {xs ys : List V} (ns ms : List Int) (h1 : SqL K H a xs) (h2 : SqL K H b ys) (e1 : xs = ns.map V.int) (e2 : ys = ms.map V.int) (q : Q (.bl (decide (ns = ms))) H) : rEqD K (.ref a) (.ref b) H Q := by
  subst e1 e2
  exact r_eqD (.lst h1 (dp_ints ns)) (.lst h2 (dp_ints ms)) (shp_ints ns) (shp_ints ms) (by rw [PyData.eqv]; exact eqv_ints ns ms) q
theorem r_neI {a b : Addr} {xs ys : List V} (ns ms : List Int) (h1 : SqL K H a xs) (h2 : SqL K H b ys) (e1 : xs = ns.map V.int) (e2 : ys = ms.map V.int) (q : Q (.bl (!decide (ns = ms))) H) : rNeD K (.ref a) (.ref b) H Q := by
  subst e1 e2
  exact r_neD (.lst h1 (dp_ints ns)) (.lst h2 (dp_ints ms)) (shp_ints ns) (shp_ints ms) (by rw [PyData.eqv]; exact eqv_ints ns ms) q
theorem r_neS {a b : Addr} {xs ys : List V} (ns ms : List Str) (h1 : SqL K H a xs) (h2 : SqL K H b ys) (e1 : xs = ns.map V.str) (e2 : ys = ms.map V.str) (s1 : ∀ s ∈ ns, PyData.strOk s = true) (s2 : ∀ s ∈ ms, PyData.strOk s = true) (q : Q (.bl (!decide (ns = ms))) H) : rNeD K (.ref a) (.ref b) H Q := by
  subst e1 e2
  exact r_neD (.lst h1 (dp_strs ns)) (.lst h2 (dp_strs ms)) (shp_strs ns s1) (shp_strs ms s2) (by rw [PyData.eqv]; exact eqv_strs ns ms) q
theorem r_neIt {a b : Addr} {xs ys : List V} (ns : List Int) (h1 : SqL K H a xs) (h2 : SqL K H b ys) (e1 : xs = ns.map V.int) (e2 : ys = ns.map V.int) (q : Q (.bl false) H) : rNeD K (.ref a) (.ref b) H Q := r_neI ns ns h1 h2 e1 e2 (by rw [decide_eq_true rfl]; exact q)
theorem r_eqIt {a b : Addr} {xs ys : List V} (ns : List Int) (h1 : SqL K H a xs) (h2 : SqL K H b ys) (e1 : xs = ns.map V.int) (e2 : ys = ns.map V.int) (q : Q (.bl true) H) : rEqD K (.ref a) (.ref b) H Q := r_eqI ns ns h1 h2 e1 e2 (by rw [decide_eq_true rfl]; exact q)
theorem r_neSt {a b : Addr} {xs ys : List V} (ns : List Str) (h1 : SqL K H a xs) (h2 : SqL K H b ys) (e1 : xs = ns.map V.str) (e2 : ys = ns.map V.str) (s1 : ∀ s ∈ ns, PyData.strOk s = true) (q : Q (.bl false) H) : rNeD K (.ref a) (.ref b) H Q := r_neS ns ns h1 h2 e1 e2 s1 s1 (by rw [decide_eq_true rfl]; exact q)
/-! list comprehensions over a list -/
/-- what is left of a list comprehension once it is known what is walked -/
def LcG (J : It) (g : TG) (tt : TT) (te : TE) (vs : List Nat) (σ : L2.St) (H : Hp) (Q : VK) : Prop := tLc (fun _ H R => R J H) g tt te vs σ H Q
theorem r_lcL {tt : TT} {vs : List Nat} (h : tl σ H fun x H1 => ∃ a, x = .ref a ∧ (∃ xs, SqL K H1 a xs) ∧ LcG (Itl K a) g tt te vs σ H1 Q) : tLc (iList K tl) g tt te vs σ H Q := h
theorem r_lcT {tt : TT} {vs : List Nat} (h : tl σ H fun x H1 => ∃ a, x = .ref a ∧ (∃ xs, SqT K H1 a xs) ∧ LcG (Itt K a) g tt te vs σ H1 Q) : tLc (iTup K tl) g tt te vs σ H Q := h
theorem r_lcR1 {tt : TT} {vs : List Nat} (h : tA σ H fun ws H1 => ∃ j : Int, ws = [.int j] ∧ -(2 ^ 62) ≤ j ∧ j < 2 ^ 62 ∧ LcG (Itr 0 j.toNat) g tt te vs σ H1 Q) : tLc (iRng1 tA) g tt te vs σ H Q := h
theorem r_lcR2 {tt : TT} {vs : List Nat} (h : tA σ H fun ws H1 => ∃ i j : Int, ws = [.int i, .int j] ∧ (-(2 ^ 62) ≤ i ∧ i < 2 ^ 62 ∧ -(2 ^ 62) ≤ j ∧ j < 2 ^ 62) ∧ LcG (Itr i (j - i).toNat) g tt te vs σ H1 Q) : tLc (iRng2 tA) g tt te vs σ H Q := h
theorem lc_list {tt : TT} {vs : List Nat} {a : Addr} {xs : List V} (Pv : Nat → Addr → Hp → Prop) (h0 : ∀ D, H D = none → Pv 0 D (upd H D (.lst []))) (hl : ∀ i D H, i ≤ xs.length → Pv i D H → SqL K H a xs)
    (hs : ∀ i x D H, xs[i]? = some x → Pv i D H → g x (wipe σ vs) H fun σ2 H2 => wipe σ2 vs = wipe σ vs ∧ tt σ2 H2 fun b H3 => if b = true then te σ2 H3 fun y H4 => ∃ acc, H4 D = some (.lst acc) ∧ acc.length < sizeLine ∧ Pv (i + 1) D (upd H4 D (.lst (acc ++ [y]))) else Pv (i + 1) D H3)
    (hd : ∀ D H, Pv xs.length D H → Q (.ref D) H) : LcG (Itl K a) g tt te vs σ H Q := by
  intro D hD
  refine ⟨fun i m H => m = xs.length - i ∧ i ≤ xs.length ∧ Pv i D H, ⟨_, rfl, Nat.zero_le _, h0 D hD⟩, ?_⟩
  rintro i m H ⟨rfl, hi, p⟩
  have q := hl i D H hi p
  by_cases hlt : i < xs.length
  · refine .inr ⟨⟨xs, xs[i], q, by simp [hlt]⟩, fun H' => Pv (i + 1) D H', fun H' p' => ⟨xs.length - (i + 1), by omega, rfl, hlt, p'⟩, ?_⟩
    rintro x H' ⟨rfl, y⟩
    exact hs i x D _ (y xs q) p
  · have e : i = xs.length := by omega
    subst e
    exact .inl ⟨⟨xs, q, Nat.le_refl _⟩, hd D H p⟩
theorem lc_tup {tt : TT} {vs : List Nat} {a : Addr} {xs : List V} (Pv : Nat → Addr → Hp → Prop) (h0 : ∀ D, H D = none → Pv 0 D (upd H D (.lst []))) (hl : ∀ i D H, i ≤ xs.length → Pv i D H → SqT K H a xs)
    (hs : ∀ i x D H, xs[i]? = some x → Pv i D H → g x (wipe σ vs) H fun σ2 H2 => wipe σ2 vs = wipe σ vs ∧ tt σ2 H2 fun b H3 => if b = true then te σ2 H3 fun y H4 => ∃ acc, H4 D = some (.lst acc) ∧ acc.length < sizeLine ∧ Pv (i + 1) D (upd H4 D (.lst (acc ++ [y]))) else Pv (i + 1) D H3)
    (hd : ∀ D H, Pv xs.length D H → Q (.ref D) H) : LcG (Itt K a) g tt te vs σ H Q := by
  intro D hD
  refine ⟨fun i m H => m = xs.length - i ∧ i ≤ xs.length ∧ Pv i D H, ⟨_, rfl, Nat.zero_le _, h0 D hD⟩, ?_⟩
  rintro i m H ⟨rfl, hi, p⟩
  have q := hl i D H hi p
  by_cases hlt : i < xs.length
  · refine .inr ⟨⟨xs, xs[i], q, by simp [hlt]⟩, fun H' => Pv (i + 1) D H', fun H' p' => ⟨xs.length - (i + 1), by omega, rfl, hlt, p'⟩, ?_⟩
    rintro x H' ⟨rfl, y⟩
    exact hs i x D _ (y xs q) p
  · have e : i = xs.length := by omega
    subst e
    exact .inl ⟨⟨xs, q, Nat.le_refl _⟩, hd D H p⟩
theorem lc_range {tt : TT} {vs : List Nat} {lo : Int} {n : Nat} (Pv : Nat → Addr → Hp → Prop) (h0 : ∀ D, H D = none → Pv 0 D (upd H D (.lst [])))
    (hs : ∀ i D H, i < n → Pv i D H → g (.int (lo + i)) (wipe σ vs) H fun σ2 H2 => wipe σ2 vs = wipe σ vs ∧ tt σ2 H2 fun b H3 => if b = true then te σ2 H3 fun y H4 => ∃ acc, H4 D = some (.lst acc) ∧ acc.length < sizeLine ∧ Pv (i + 1) D (upd H4 D (.lst (acc ++ [y]))) else Pv (i + 1) D H3)
    (hd : ∀ D H, Pv n D H → Q (.ref D) H) : LcG (Itr lo n) g tt te vs σ H Q := by
  intro D hD
  refine ⟨fun i m H => m = n - i ∧ i ≤ n ∧ Pv i D H, ⟨_, rfl, Nat.zero_le _, h0 D hD⟩, ?_⟩
  rintro i m H ⟨rfl, hi, p⟩
  by_cases hlt : i < n
  · refine .inr ⟨hlt, fun H' => Pv (i + 1) D H', fun H' p' => ⟨n - (i + 1), by omega, rfl, hlt, p'⟩, ?_⟩
    rintro x H' ⟨rfl, rfl⟩
    exact hs i D _ hlt p
  · have e : i = n := by omega
    subst e
    exact .inl ⟨Nat.le_refl _, hd D H p⟩
theorem r_bl1 {b : Bool} {F : Bool → Prop} (h : F b) : ∃ k, ([V.bl b] : List V) = [.bl k] ∧ F k := ⟨b, rfl, h⟩
theorem r_yes {R : Bool → Hp → Prop} (h : R true H) : tYes σ H R := h
theorem r_chain {r r' : R2} (h : ta σ H fun x H1 => tb σ H1 fun y H2 => r x y H2 fun z H3 => ∃ k, z = .bl k ∧ (if k = true then tc σ H3 fun w' H4 => r' y w' H4 Q else Q (.bl false) H3)) : tChain r r' ta tb tc σ H Q := h
/-- both arms of an if-expression give one value -/
theorem r_join {p : Prop} [Decidable p] (v : V) (q : Q v H) (h1 : p → ∀ Q' : VK, Q' v H → ta σ H Q') (h2 : ¬ p → ∀ Q' : VK, Q' v H → tb σ H Q') : if decide p = true then ta σ H Q else tb σ H Q := i_two (fun h => h1 h Q q) (fun h => h2 h Q q)
theorem strOk_cat {a b : Str} (h1 : PyData.strOk a = true) (h2 : PyData.strOk b = true) : PyData.strOk (a ++ b) = true := by
  rw [cat_S]
  refine strOk_S fun c hc => ?_
  have f : ∀ {x : Str}, PyData.strOk x = true → ∀ c ∈ x.cps.toList, c < 0x110000 := fun {x} hx c hc => by
    unfold PyData.strOk at hx
    rw [← Array.all_toList, List.all_eq_true] at hx
    exact of_decide_eq_true (hx c hc)
  rcases List.mem_append.mp hc with z | z
  · exact f h1 c z
  · exact f h2 c z
theorem strOk_int (i : Int) : PyData.strOk (S (intL i)) = true := strOk_S fun c hc => by
  have d : ∀ c ∈ TL.numL i.natAbs, c < 0x110000 := fun c hc => by
    have := (TL.numL_digits i.natAbs c hc).2
    omega
  unfold intL at hc
  split at hc
  · rcases List.mem_cons.mp hc with z | z
    · omega
    · exact d c z
  · exact d c hc
end
end My
namespace My
open PySem PySem.Spec PyProof.Rows L2
theorem ni_non {i : Int} : ¬ (V.int i = V.non) := fun h => V.noConfusion h
theorem nr_non {a : Addr} : ¬ (V.ref a = V.non) := fun h => V.noConfusion h
theorem ns_non {x : Str} : ¬ (V.str x = V.non) := fun h => V.noConfusion h
end My

/-! ### readings whose Frag is written out: within a comprehension's block, too -/
namespace My
open PySem PySem.Spec PyProof.Rows L2
section
variable {K : PySem.W.Frag} {X : Cx}
theorem call_isiK (h : X.K = K) : CallR X (.builtin "isinstance") (rIsi K) := by subst h; exact call_isi
theorem call_lenK (h : X.K = K) : CallR X (.builtin "len") (fun xs H Q => ∃ p ys, xs = [.ref p] ∧ (SqL K H p ys ∨ SqT K H p ys) ∧ Q (.int ys.length) H) := by subst h; exact call_len_seq
theorem call_listK (h : X.K = K) : CallR X (.type "list") (fun xs H Q => ∃ p ys, xs = [.ref p] ∧ (SqL K H p ys ∨ SqT K H p ys) ∧ ∀ l, H l = none → Q (.ref l) (upd H l (.lst ys))) := by subst h; exact call_list_of
theorem call_tupleK (h : X.K = K) : CallR X (.type "tuple") (fun xs H Q => ∃ p ys, xs = [.ref p] ∧ ((SqL K H p ys ∧ ∀ l, H l = none → Q (.ref l) (upd H l (.tup ys))) ∨ (SqT K H p ys ∧ Q (.ref p) H))) := by subst h; exact call_tuple_of
theorem call_reprK {j : Nat} (h : X.K = K) (hr : RG j X.A) : CallR X (.builtin "repr") (rRepr K) := by subst h; exact call_reprD hr
theorem ix_listK (h : X.K = K) : IxR X (rIxL K) := by subst h; exact ix_list
theorem ix_tupK (h : X.K = K) : IxR X (rIxT K) := by subst h; exact ix_tup
theorem sl_listK (h : X.K = K) : SlR X (rSlL K) := by subst h; exact sl_list
theorem sl_tupK (h : X.K = K) : SlR X (rSlA K) := by subst h; exact sl_tupA
theorem op_eqDK (h : X.K = K) (hu : X.A.units + 64 < cLine) : OpR X (compareOp .Eq) (rEqD K) := by subst h; exact op_eqD hu
theorem op_neDK (h : X.K = K) (hu : X.A.units + 64 < cLine) : OpR X (compareOp .NotEq) (rNeD K) := by subst h; exact op_neD hu
theorem op_inK (h : X.K = K) : OpR X (compareOp .In) (rIn K false) := by subst h; exact op_in_seq
theorem op_notInK (h : X.K = K) : OpR X (compareOp .NotIn) (rIn K true) := by subst h; exact op_notIn_seq
theorem op_catK (h : X.K = K) : OpR X (binaryOp .Add) (rCatA K) := by subst h; exact op_catA
theorem pe_fldK {e : Expr} {ta : TE} {f : Str} {pos : Pos} (h : X.K = K) (he : PE X e ta) (hb : attributeBase e f X.env (eval e X.env) = eval e X.env) : PE X (.Attribute e f pos) (tFld K ta f) := by subst h; exact pe_fld he hb
theorem pi_listK {tg l : Expr} {tl : TE} (h : X.K = K) (hl : PE X l tl) : PI X tg l (iList K tl) := by subst h; exact pi_list hl
theorem pi_tupK {tg l : Expr} {tl : TE} (h : X.K = K) (hl : PE X l tl) : PI X tg l (iTup K tl) := by subst h; exact pi_tup hl
theorem pg_tupK {es : List Expr} {k : Nat} {t : TGs} {n : Nat} {pos : Pos} (h : X.K = K) (hc : X.calm = true) (hs : PGs X es t) (hn : (assignEach es X.env).length = n := by rfl) (hst : (assignEach es X.env).findIdx? (·.1) = none := by rfl) : PG X (.Tuple es k pos) (gTup K n t) := by subst h; exact pg_tup hc hs hn hst
end
end My

set_option Elab.async false
set_option linter.all false
set_option maxRecDepth 100000
set_option maxHeartbeats 4000000
/-! LayG: operators of own classes, also with ints on either side -/
namespace My
open PySem PySem.Spec PyProof.Rows L2 He
theorem ins_obj {P : Program} {w : World} {H : Hp} {h : Heap} {a C dx : Addr} {fs : List (Str × V)} (hok : HOk P w H h) (e : H a = some (.ins C dx fs)) : h.get? a = some (PySem.W.instObj C dx) := by
  obtain ⟨_, _, _, ob, _⟩ := (show ObjOk P w H h a (.ins C dx fs) from hok a _ e)
  exact ob
section
variable (a : Int) (t : Tok) (l C dx : Addr)
theorem dec_add : Meets (Builtin.«int.__add__» ⟨[.int a t, .ref l], []⟩) (fun _ R s => s.heap.get? l = some (PySem.W.instObj C dx) ∧ R (.ok (.ret Value.notImplemented)) s) :=
  .of_wp fun prog w A R s h => by obtain ⟨hp, g, d, tk, os⟩ := s; obtain ⟨hl, h⟩ := h; wp_walk; exact ⟨_, rfl, h⟩
theorem dec_sub : Meets (Builtin.«int.__sub__» ⟨[.int a t, .ref l], []⟩) (fun _ R s => s.heap.get? l = some (PySem.W.instObj C dx) ∧ R (.ok (.ret Value.notImplemented)) s) :=
  .of_wp fun prog w A R s h => by obtain ⟨hp, g, d, tk, os⟩ := s; obtain ⟨hl, h⟩ := h; wp_walk; exact ⟨_, rfl, h⟩
theorem dec_mul : Meets (Builtin.«int.__mul__» ⟨[.int a t, .ref l], []⟩) (fun _ R s => s.heap.get? l = some (PySem.W.instObj C dx) ∧ R (.ok (.ret Value.notImplemented)) s) :=
  .of_wp fun prog w A R s h => by obtain ⟨hp, g, d, tk, os⟩ := s; obtain ⟨hl, h⟩ := h; wp_walk; exact ⟨_, rfl, h⟩
theorem dec_lt : Meets (Builtin.«int.__lt__» ⟨[.int a t, .ref l], []⟩) (fun _ R s => s.heap.get? l = some (PySem.W.instObj C dx) ∧ R (.ok (.ret Value.notImplemented)) s) :=
  .of_wp fun prog w A R s h => by obtain ⟨hp, g, d, tk, os⟩ := s; obtain ⟨hl, h⟩ := h; wp_walk; exact ⟨_, rfl, h⟩
theorem dec_le : Meets (Builtin.«int.__le__» ⟨[.int a t, .ref l], []⟩) (fun _ R s => s.heap.get? l = some (PySem.W.instObj C dx) ∧ R (.ok (.ret Value.notImplemented)) s) :=
  .of_wp fun prog w A R s h => by obtain ⟨hp, g, d, tk, os⟩ := s; obtain ⟨hl, h⟩ := h; wp_walk; exact ⟨_, rfl, h⟩
theorem dec_gt : Meets (Builtin.«int.__gt__» ⟨[.int a t, .ref l], []⟩) (fun _ R s => s.heap.get? l = some (PySem.W.instObj C dx) ∧ R (.ok (.ret Value.notImplemented)) s) :=
  .of_wp fun prog w A R s h => by obtain ⟨hp, g, d, tk, os⟩ := s; obtain ⟨hl, h⟩ := h; wp_walk; exact ⟨_, rfl, h⟩
theorem dec_ge : Meets (Builtin.«int.__ge__» ⟨[.int a t, .ref l], []⟩) (fun _ R s => s.heap.get? l = some (PySem.W.instObj C dx) ∧ R (.ok (.ret Value.notImplemented)) s) :=
  .of_wp fun prog w A R s h => by obtain ⟨hp, g, d, tk, os⟩ := s; obtain ⟨hl, h⟩ := h; wp_walk; exact ⟨_, rfl, h⟩
theorem dec_eq : Meets (Builtin.«int.__eq__» ⟨[.int a t, .ref l], []⟩) (fun _ R s => s.heap.get? l = some (PySem.W.instObj C dx) ∧ R (.ok (.ret Value.notImplemented)) s) :=
  .of_wp fun prog w A R s h => by obtain ⟨hp, g, d, tk, os⟩ := s; obtain ⟨hl, h⟩ := h; wp_walk; exact ⟨_, rfl, h⟩
theorem dec_ne : Meets (Builtin.«int.__ne__» ⟨[.int a t, .ref l], []⟩) (fun _ R s => s.heap.get? l = some (PySem.W.instObj C dx) ∧ R (.ok (.ret Value.notImplemented)) s) :=
  .of_wp fun prog w A R s h => by obtain ⟨hp, g, d, tk, os⟩ := s; obtain ⟨hl, h⟩ := h; wp_walk; exact ⟨_, rfl, h⟩
end
/-- an operator of int that declines an instance of an own class -/
structure DecB (op : Operator) : Prop where
  ex : ∃ (id : String) (B : Builtin), Slot "int" (PySem.dunder op.info.2) id ∧ fillsNumberSlot (.type "int") op.info.2 = pure true ∧ entryFor table id = some B ∧ (∀ (a : Int) (t : Tok) (l : Addr), argsOk id ⟨[.int a t, .ref l], []⟩) ∧
    ∀ (a : Int) (t : Tok) (l C dx : Addr), Meets (B ⟨[.int a t, .ref l], []⟩) (fun _ R s => s.heap.get? l = some (PySem.W.instObj C dx) ∧ R (.ok (.ret Value.notImplemented)) s)
theorem decB_add : DecB .Add := ⟨⟨_, _, F.slot_int_add, F.fills_int_add, F.entry_int_add, fun _ _ _ => F.args_int_add_2 _ _, dec_add⟩⟩
theorem decB_sub : DecB .Sub := ⟨⟨_, _, F.slot_int_sub, F.fills_int_sub, F.entry_int_sub, fun _ _ _ => F.args_int_sub_2 _ _, dec_sub⟩⟩
theorem decB_mul : DecB .Mult := ⟨⟨_, _, F.slot_int_mul, F.fills_int_mul, F.entry_int_mul, fun _ _ _ => F.args_int_mul_2 _ _, dec_mul⟩⟩
structure DecC (op : CmpOp) : Prop where
  ex : ∃ (id : String) (B : Builtin), Slot "int" (cmpInfo op).2.1 id ∧ entryFor table id = some B ∧ (∀ (a : Int) (t : Tok) (l : Addr), argsOk id ⟨[.int a t, .ref l], []⟩) ∧
    ∀ (a : Int) (t : Tok) (l C dx : Addr), Meets (B ⟨[.int a t, .ref l], []⟩) (fun _ R s => s.heap.get? l = some (PySem.W.instObj C dx) ∧ R (.ok (.ret Value.notImplemented)) s)
theorem decC_lt : DecC .Lt := ⟨⟨_, _, F.slot_int_lt, F.entry_int_lt, fun _ _ _ => F.args_int_lt_2 _ _, dec_lt⟩⟩
theorem decC_le : DecC .LtE := ⟨⟨_, _, F.slot_int_le, F.entry_int_le, fun _ _ _ => F.args_int_le_2 _ _, dec_le⟩⟩
theorem decC_gt : DecC .Gt := ⟨⟨_, _, F.slot_int_gt, F.entry_int_gt, fun _ _ _ => F.args_int_gt_2 _ _, dec_gt⟩⟩
theorem decC_ge : DecC .GtE := ⟨⟨_, _, F.slot_int_ge, F.entry_int_ge, fun _ _ _ => F.args_int_ge_2 _ _, dec_ge⟩⟩
theorem decC_eq : DecC .Eq := ⟨⟨_, _, F.slot_int_eq, F.entry_int_eq, fun _ _ _ => F.args_int_eq_2 _ _, dec_eq⟩⟩
theorem decC_ne : DecC .NotEq := ⟨⟨_, _, F.slot_int_ne, F.entry_int_ne, fun _ _ _ => F.args_int_ne_2 _ _, dec_ne⟩⟩
/-! the rules -/
namespace Own
open PySem.W PySem.Calls
section
variable {prog : Program} {w : World} {A : Around} {E : Value → Shared → Prop} {s : Shared} {K : Frag} {x C L f fd dx : Addr} {h₀ : Heap} {m : Str → Option Value} {ox : Obj} {od : Option Obj}
/-- int op own: the int declines, the own reflected def answers -/
theorem bin_intL {op : Operator} {i : Int} {t : Tok} {Q : Value → Shared → Prop} (D : DecB op) (F : Fr h₀ L s.heap m) (X₀ : K.In h₀) (I : InstAt s.heap x ox C od) (ho : s.heap.get? x = some (instObj C dx)) (hc : selfFirst K C = true)
    (hd : findIn K (.ref C) (PySem.dunder op.info.2) = some (some (.ref fd))) (hs : findIn K (.ref C) (dunderR op.info.2) = some (some (.ref f))) (hf : isFn K (.ref f) = true) (hsub : subIn K (.ref C) (.type "int") = some false)
    (h : wpAny (model prog w) A (call (.ref f) [.ref x, .int i t]) (PySem.W.CmpBack Q) E s) : wpAny (model prog w) A (binaryOp op (.int i t) (.ref x)) Q E s := by
  have X := X₀.keeps F.keep
  obtain ⟨cd, rest, hcd, hm⟩ := ksp_first hc
  obtain ⟨id, B, slot, fills, entry, args, gives⟩ := D.ex
  rcases hi : op.info with ⟨sym, nm'⟩
  rw [hi] at hs hd slot fills
  dsimp only at hs hd slot fills
  have two := ksp_try X I hs hf h
  have cl : wpAny (model prog w) A (call (.builtin id) [.int i t, .ref x]) (fun v s' => v = .notImplemented ∧ s' = s) E s :=
    call_meets slot (typeIs_int s i t) entry (args i t x) (gives i t x C dx) ⟨ho, rfl, rfl⟩
  have ti := typeIs_int s i t
  obtain ⟨hh, g, d, tt, os⟩ := s
  have L1 : Looks (model prog w) hh (typeOf (.int i t)) (.type "int") := Looks.of_pure rfl
  have L2 : Looks (model prog w) hh (typeOf (.ref x)) (.ref C) := I.type
  have L3 : Looks (model prog w) hh (fillsNumberSlot (.type "int") nm') true := Looks.of_pure fills
  have L4 : Looks (model prog w) hh (fillsNumberSlot (.ref C) nm') true := fills_K X hcd hm hd
  have L5 : Looks (model prog w) hh (isSubtype (.ref C) (.type "int")) false := looks_subIn X hsub
  have L6 : Looks (model prog w) hh (numberSlotInPython (.type "int") nm') false := Looks.of_pure rfl
  have hne : (Value.type "int" == Value.ref C) = false := Bool.eq_false_iff.mpr fun q => by cases beq_iff_eq.mp q
  simp only [binaryOp, hi]
  refine wpAny_holding (wpAny_bind ?_)
  unfold binaryOp1
  refine wpAny_bind (L1.at (wpAny_bind (L2.at (wpAny_bind (L3.at ?_)))))
  simp only [hne, Bool.false_eq_true, if_false]
  refine wpAny_bind (L4.at ?_)
  simp only [Bool.and_self, if_true]
  refine wpAny_bind (L5.at ?_)
  simp only [Bool.false_eq_true, if_false]
  ksp_lk
  refine wpAny_tryMethod_declines ti slot (wpAny_mono cl (fun v s' hv => ⟨hv.1, ?_⟩) fun _ _ e => e)
  obtain ⟨_, rfl⟩ := hv
  ksp_lk
  refine wpAny_mono two (fun r s' hr' => ?_) fun _ _ e => e
  obtain ⟨v, rfl, hq⟩ := hr'
  ksp_lk
  exact hq
/-- int < own and its like: the int declines, the own mirrored def answers -/
theorem cmp_intL {op : CmpOp} {i : Int} {t : Tok} {Q : Value → Shared → Prop} (D : DecC op) (hu : A.units < cLine) (F : Fr h₀ L s.heap m) (X₀ : K.In h₀) (I : InstAt s.heap x ox C od) (ho : s.heap.get? x = some (instObj C dx))
    (hs : findIn K (.ref C) (cmpInfo op).2.2 = some (some (.ref f))) (hf : isFn K (.ref f) = true) (hsub : subIn K (.ref C) (.type "int") = some false)
    (h : wpAny (model prog w) A (call (.ref f) [.ref x, .int i t]) (PySem.W.CmpBack Q) E s) : wpAny (model prog w) A (richCompare op (.int i t) (.ref x)) Q E s := by
  have X := X₀.keeps F.keep
  obtain ⟨id, B, slot, entry, args, gives⟩ := D.ex
  have one : wpAny (model prog w) A (tryCompare (.ref x) (cmpInfo op).2.2 (.int i t)) (fun r s' => ∃ v, r = some v ∧ Q v s') E s := by
    unfold tryCompare
    refine wpAny_bind (ifBound_K X I hs hf (wpAny_mono h (fun v s' hv => ?_) fun _ _ e => e))
    cases v <;> first | exact hv.elim | exact wpAny_pure ⟨_, rfl, hv⟩
  have cl : wpAny (model prog w) A (call (.builtin id) [.int i t, .ref x]) (fun v s' => v = .notImplemented ∧ s' = s) E s :=
    call_meets slot (typeIs_int s i t) entry (args i t x) (gives i t x C dx) ⟨ho, rfl, rfl⟩
  have ti := typeIs_int s i t
  have one0 : oneThing? op (.int i t) (.ref x) = none := ti.oneThing_none op _
  unfold richCompare
  simp only [one0]
  refine wpAny_holding (wpAny_bind (wpAny_cRoomFor hu ?_))
  have L1 : Looks (model prog w) s.heap (typeOf (.int i t)) (.type "int") := Looks.of_pure rfl
  refine wpAny_bind (L1.here (wpAny_bind (I.type.here ?_)))
  rw [if_pos (show (Value.type "int" != Value.ref C) = true from rfl)]
  refine wpAny_bind ((looks_subIn X hsub).here ?_)
  simp only [Bool.false_eq_true, if_false]
  refine wpAny_bind (wpAny_tryCompare_declines ti slot (wpAny_mono cl (fun v s' hv => ⟨hv.1, ?_⟩) fun _ _ e => e))
  obtain ⟨_, rfl⟩ := hv
  refine wpAny_bind (wpAny_mono one (fun r s' z => ?_) fun _ _ e => e)
  obtain ⟨v, rfl, hq⟩ := z
  exact wpAny_pure hq
theorem bool_own {Q : Value → Shared → Prop} (X : K.In s.heap) (F : Fr h₀ L s.heap m) (X₀ : K.In h₀) (I : InstAt s.heap x ox C od) (hs : findIn K (.ref C) "__bool__" = some (some (.ref f))) (hf : isFn K (.ref f) = true)
    (h : wpAny (model prog w) A.in1.in1 (call (.ref f) [.ref x]) (PySem.W.BoolBack fun b s' => Q (.bool b) s') E s) : wpAny (model prog w) A (call (.type "bool") [.ref x]) Q E s := by
  refine callType_codes (T := "bool") (Bi := Builtin.«object.__init__») (Q₁ := fun r s₁ => ∃ b, r = .bool b ∧ Q r s₁) PySem.F.called_bool (PySem.F.typeCall_bool_1 _) PySem.F.entry_object_init ?_ ?_
  · refine codeAny_of_tree ?_
    show wpAny _ A.in1.in1 (do checkBuiltinCall "bool.__new__" ⟨[.type "bool", .ref x], []⟩; again (.builtin "bool.__new__" ⟨[.type "bool", .ref x], []⟩)) _ _ s
    refine wpAny_bind (wpAny_of_eq (PySem.F.newCall_bool_1 _) (wpAny_pure ⟨plainId_quiet (by decide +kernel) _, codeAny_builtin PySem.F.entry_bool_new ?_⟩))
    rw [Around.under_plainId (by decide +kernel) _]
    have tr : wpAny (model prog w) A.in1.in1 (truthy (.ref x)) (fun b s' => ∃ c, Value.bool b = .bool c ∧ Q (.bool b) s') E s := truthy_K F X₀ I hs hf (wpAny_mono h (fun r s₁ hr => by cases r <;> first | exact ⟨_, rfl, hr⟩ | exact False.elim hr) fun _ _ y => y)
    unfold Builtin.«bool.__new__»
    refine wpAny_bind (wpAny_pure ?_)
    dsimp only
    rw [if_neg (by decide)]
    refine wpAny_bind (wpAny_of_eq PySem.F.conv_sub_bool ?_)
    rw [if_neg (by decide)]
    refine wpAny_bind (wpAny_pure ?_)
    exact wpAny_bind (wpAny_mono tr (fun b s₁ hb => wpAny_pure hb) fun _ _ y => y)
  · rintro obj s₁ ⟨b, rfl, hq⟩
    exact ⟨PySem.typeIs_bool _ _, PySem.F.args_object_init_2 _ _, object_init_meets PySem.F.called_bool.init.lookup PySem.F.called_bool.made (by decide) prog w A.in1 _ s₁ ⟨PySem.typeIs_bool _ _, rfl, hq⟩⟩
end
end Own
/-! the readings -/
structure OwOk (K : PySem.W.Frag) (C : Addr) : Prop where
  first : PySem.W.selfFirst K C = true
  sub1 : PySem.W.subIn K (.type "int") (.ref C) = some false
  sub2 : PySem.W.subIn K (.ref C) (.type "int") = some false
  fi : ∀ n ∈ ([PySem.dunder "add", PySem.dunder "sub", PySem.dunder "mul", dunderR "add", dunderR "sub", dunderR "mul"] : List Str), ∃ fo, PySem.W.findIn K (.type "int") n = some fo
def owB (K : PySem.W.Frag) (x : Str) : Bool := PySem.W.selfFirst K (ga K x) && (decide (PySem.W.subIn K (.type "int") (.ref (ga K x)) = some false) && (decide (PySem.W.subIn K (.ref (ga K x)) (.type "int") = some false) &&
  ([PySem.dunder "add", PySem.dunder "sub", PySem.dunder "mul", dunderR "add", dunderR "sub", dunderR "mul"] : List Str).all fun n => (PySem.W.findIn K (.type "int") n).isSome))
theorem owB_ok {K : PySem.W.Frag} {x : Str} (h : owB K x = true) : OwOk K (ga K x) := by
  obtain ⟨h1, h⟩ := ba h
  obtain ⟨h2, h⟩ := ba h
  obtain ⟨h3, h4⟩ := ba h
  exact ⟨h1, of_decide_eq_true h2, of_decide_eq_true h3, fun n hn => Option.isSome_iff_exists.mp (List.all_eq_true.mp h4 n hn)⟩
def rRR (C : Addr) (sp : Sp) : R2 := fun x y H Q => ∃ a dx fs b dy gs, x = .ref a ∧ y = .ref b ∧ H a = some (.ins C dx fs) ∧ H b = some (.ins C dy gs) ∧ sp [.ref a, .ref b] H Q E0
def rRI (C : Addr) (sp : Sp) : R2 := fun x y H Q => ∃ a dx fs i, x = .ref a ∧ y = .int i ∧ H a = some (.ins C dx fs) ∧ sp [.ref a, .int i] H Q E0
def rIR (C : Addr) (sp : Sp) : R2 := fun x y H Q => ∃ a dx fs i, x = .int i ∧ y = .ref a ∧ H a = some (.ins C dx fs) ∧ sp [.ref a, .int i] H Q E0
section
variable {X : Cx} {k j : Nat} {f g C : Addr} {ps qs : List Str} {sp : Sp} {n m : Str}
theorem back {pins : List (Addr × Obj)} {σ : L2.St} {Q : VK} {v : Value} {s' : Shared} (z : EP X pins σ Q v s') : PySem.W.CmpBack (EP X pins σ Q) v s' := by
  obtain ⟨z', H', I', rz, qz⟩ := z
  exact SlX.cmpback rz ⟨z', H', I', rz, qz⟩
theorem op_RR {op : Operator} (G : Gf X.prog X.w X.K X.mg X.base CX0 k f ps [] sp) (o : OwOk X.K C) (p : SpOk X.K C n f) (hr : RG j X.A) (hj : k ≤ j) (e : PySem.dunder op.info.2 = n := by rfl) : OpR X (binaryOp op) (rRR C sp) := by
  intro pins s σ H x y v u Q I rx ry h
  obtain ⟨a, dx, fs, b, dy, gs, rfl, rfl, ea, eb, h1⟩ := h
  obtain rfl : v = Value.ref a := rx
  obtain rfl : u = Value.ref b := ry
  obtain ⟨mA, O, _⟩ := ins_get I.hok ea
  obtain ⟨od, J, _⟩ := O.look
  obtain ⟨mB, O', _⟩ := ins_get I.hok eb
  obtain ⟨od', J', _⟩ := O'.look
  obtain ⟨m, hF⟩ := I.fr
  refine PySem.W.binop_K hF I.ok.mod.kin J J'.type o.first (by rw [e]; exact p.at_) p.fn ?_
  exact wpAny_mono (run_g (us := [.ref a, .ref b]) (vs := [.ref a, .ref b]) G hr hj pass0 I (.cons rfl (.cons rfl .nil)) h1) (fun w s' z => back z) fun _ _ x => x
theorem op_RI {op : Operator} (G : Gf X.prog X.w X.K X.mg X.base CX0 k f ps [] sp) (o : OwOk X.K C) (p : SpOk X.K C n f) (q : SpOk X.K C m g) (hr : RG j X.A) (hj : k ≤ j) (e : PySem.dunder op.info.2 = n := by rfl) (e2 : dunderR op.info.2 = m := by rfl)
    (h1 : PySem.dunder op.info.2 ∈ ([PySem.dunder "add", PySem.dunder "sub", PySem.dunder "mul", dunderR "add", dunderR "sub", dunderR "mul"] : List Str) := by decide) (h2 : dunderR op.info.2 ∈ ([PySem.dunder "add", PySem.dunder "sub", PySem.dunder "mul", dunderR "add", dunderR "sub", dunderR "mul"] : List Str) := by decide) :
    OpR X (binaryOp op) (rRI C sp) := by
  intro pins s σ H x y v u Q I rx ry h
  obtain ⟨a, dx, fs, i, rfl, rfl, ea, h3⟩ := h
  obtain rfl : v = Value.ref a := rx
  obtain ⟨t, rfl⟩ := ry
  obtain ⟨mA, O, _⟩ := ins_get I.hok ea
  obtain ⟨od, J, _⟩ := O.look
  obtain ⟨m, hF⟩ := I.fr
  obtain ⟨fo, f1⟩ := o.fi _ h1
  obtain ⟨ro, f2⟩ := o.fi _ h2
  refine PySem.W.ksp_binT (T := "int") hF I.ok.mod.kin J rfl o.first (by rw [e]; exact p.at_) p.fn (by rw [e2]; exact q.at_) (.inr ⟨g, rfl⟩) f1 f2 o.sub1 ?_
  exact wpAny_mono (run_g (us := [.ref a, .int i t]) (vs := [.ref a, .int i]) G hr hj pass0 I (.cons rfl (.cons ⟨t, rfl⟩ .nil)) h3) (fun w s' z => back z) fun _ _ x => x
theorem op_IR {op : Operator} (D : DecB op) (G : Gf X.prog X.w X.K X.mg X.base CX0 k g qs [] sp) (o : OwOk X.K C) (p : SpOk X.K C n f) (q : SpOk X.K C m g) (hr : RG j X.A) (hj : k ≤ j) (e : PySem.dunder op.info.2 = n := by rfl) (e2 : dunderR op.info.2 = m := by rfl) :
    OpR X (binaryOp op) (rIR C sp) := by
  intro pins s σ H x y v u Q I rx ry h
  obtain ⟨a, dx, fs, i, rfl, rfl, ea, h3⟩ := h
  obtain rfl : u = Value.ref a := ry
  obtain ⟨t, rfl⟩ := rx
  obtain ⟨mA, O, _⟩ := ins_get I.hok ea
  obtain ⟨od, J, _⟩ := O.look
  obtain ⟨m, hF⟩ := I.fr
  refine Own.bin_intL D hF I.ok.mod.kin J (ins_obj I.hok ea) o.first (by rw [e]; exact p.at_) (by rw [e2]; exact q.at_) q.fn o.sub2 ?_
  exact wpAny_mono (run_g (us := [.ref a, .int i t]) (vs := [.ref a, .int i]) G hr hj pass0 I (.cons rfl (.cons ⟨t, rfl⟩ .nil)) h3) (fun w s' z => back z) fun _ _ x => x
theorem cmp_RR {op : CmpOp} (hop : ∀ a b, compareOp op a b = richCompare op a b) (G : Gf X.prog X.w X.K X.mg X.base CX0 k f ps [] sp) (p : SpOk X.K C n f) (hr : RG j X.A) (hj : k ≤ j) (e : (cmpInfo op).2.1 = n := by rfl) : OpR X (compareOp op) (rRR C sp) := by
  intro pins s σ H x y v u Q I rx ry h
  obtain ⟨a, dx, fs, b, dy, gs, rfl, rfl, ea, eb, h1⟩ := h
  obtain rfl : v = Value.ref a := rx
  obtain rfl : u = Value.ref b := ry
  obtain ⟨mA, O, _⟩ := ins_get I.hok ea
  obtain ⟨od, J, _⟩ := O.look
  obtain ⟨mB, O', _⟩ := ins_get I.hok eb
  obtain ⟨od', J', _⟩ := O'.look
  obtain ⟨m, hF⟩ := I.fr
  rw [hop]
  refine PySem.W.cmp_K (op := op) (tb := .ref C) hr.r.units0 hF I.ok.mod.kin J J'.type (by simp [PySem.W.notFirst]) (by rw [e]; exact p.at_) p.fn ?_
  exact wpAny_mono (run_g (us := [.ref a, .ref b]) (vs := [.ref a, .ref b]) G hr hj pass0 I (.cons rfl (.cons rfl .nil)) h1) (fun w s' z => back z) fun _ _ x => x
theorem cmp_RI {op : CmpOp} (hop : ∀ a b, compareOp op a b = richCompare op a b) (G : Gf X.prog X.w X.K X.mg X.base CX0 k f ps [] sp) (o : OwOk X.K C) (p : SpOk X.K C n f) (hr : RG j X.A) (hj : k ≤ j) (e : (cmpInfo op).2.1 = n := by rfl) : OpR X (compareOp op) (rRI C sp) := by
  intro pins s σ H x y v u Q I rx ry h
  obtain ⟨a, dx, fs, i, rfl, rfl, ea, h1⟩ := h
  obtain rfl : v = Value.ref a := rx
  obtain ⟨t, rfl⟩ := ry
  obtain ⟨mA, O, _⟩ := ins_get I.hok ea
  obtain ⟨od, J, _⟩ := O.look
  obtain ⟨m, hF⟩ := I.fr
  rw [hop]
  refine PySem.W.cmp_K (op := op) (tb := .type "int") hr.r.units0 hF I.ok.mod.kin J (PySem.W.Looks.of_pure rfl) (by unfold PySem.W.notFirst; rw [o.sub1] <;> rfl) (by rw [e]; exact p.at_) p.fn ?_
  exact wpAny_mono (run_g (us := [.ref a, .int i t]) (vs := [.ref a, .int i]) G hr hj pass0 I (.cons rfl (.cons ⟨t, rfl⟩ .nil)) h1) (fun w s' z => back z) fun _ _ x => x
theorem cmp_IR {op : CmpOp} (hop : ∀ a b, compareOp op a b = richCompare op a b) (D : DecC op) (G : Gf X.prog X.w X.K X.mg X.base CX0 k f ps [] sp) (o : OwOk X.K C) (p : SpOk X.K C n f) (hr : RG j X.A) (hj : k ≤ j) (e : (cmpInfo op).2.2 = n := by rfl) : OpR X (compareOp op) (rIR C sp) := by
  intro pins s σ H x y v u Q I rx ry h
  obtain ⟨a, dx, fs, i, rfl, rfl, ea, h1⟩ := h
  obtain rfl : u = Value.ref a := ry
  obtain ⟨t, rfl⟩ := rx
  obtain ⟨mA, O, _⟩ := ins_get I.hok ea
  obtain ⟨od, J, _⟩ := O.look
  obtain ⟨m, hF⟩ := I.fr
  rw [hop]
  refine Own.cmp_intL D hr.r.units0 hF I.ok.mod.kin J (ins_obj I.hok ea) (by rw [e]; exact p.at_) p.fn o.sub2 ?_
  exact wpAny_mono (run_g (us := [.ref a, .int i t]) (vs := [.ref a, .int i]) G hr hj pass0 I (.cons rfl (.cons ⟨t, rfl⟩ .nil)) h1) (fun w s' z => back z) fun _ _ x => x
def rUn (C : Addr) (sp : Sp) : V → Hp → VK → Prop := fun x H Q => ∃ a dx fs, x = .ref a ∧ H a = some (.ins C dx fs) ∧ sp [.ref a] H Q E0
theorem un_negO (G : Gf X.prog X.w X.K X.mg X.base CX0 k f ps [] sp) (p : SpOk X.K C "__neg__" f) (hr : RG j X.A) (hj : k ≤ j) : UnR X (unaryOp .USub) (rUn C sp) := by
  intro pins s σ H x v Q I rx h
  obtain ⟨a, dx, fs, rfl, ea, h1⟩ := h
  obtain rfl : v = Value.ref a := rx
  obtain ⟨mA, O, _⟩ := ins_get I.hok ea
  obtain ⟨od, J, _⟩ := O.look
  obtain ⟨m, hF⟩ := I.fr
  exact PySem.W.ksp_neg hF I.ok.mod.kin J p.at_ p.fn (run_g (us := [.ref a]) (vs := [.ref a]) G hr hj pass0 I (.cons rfl .nil) h1)
/-- repr of a truth value -/
theorem call_reprBl : CallR X (.builtin "repr") (fun xs H Q => ∃ b, xs = [.bl b] ∧ Q (.str (if b = true then "True" else "False")) H) := by
  intro pins s σ H xs us Q I r h
  obtain ⟨b, rfl, q⟩ := h
  obtain ⟨u, rfl, rfl⟩ := vals1 r
  exact PySem.P.repr_of_bool ⟨.str _, H, I.tok _, ⟨_, rfl⟩, q⟩
def rBoolOwn (C : Addr) (sp : Sp) : List V → Hp → VK → Prop := fun xs H Q => ∃ a dx fs, xs = [.ref a] ∧ H a = some (.ins C dx fs) ∧ sp [.ref a] H (fun v H' => ∃ b, v = .bl b ∧ Q v H') E0
theorem call_boolOwn (G : Gf X.prog X.w X.K X.mg X.base CX0 k f ps [] sp) (p : SpOk X.K C "__bool__" f) (hr : RG j X.A) (hj : k + 2 ≤ j) : CallR X (.type "bool") (rBoolOwn C sp) := by
  intro pins s σ H xs us Q I r h
  obtain ⟨a, dx, fs, rfl, ea, h1⟩ := h
  obtain ⟨u, rfl, rx⟩ := vals1 r
  obtain rfl : u = Value.ref a := rx
  obtain ⟨mA, O, _⟩ := ins_get I.hok ea
  obtain ⟨od, J, _⟩ := O.look
  obtain ⟨m, hF⟩ := I.fr
  have hr2 : RG (k + 2) X.A := hr.mono hj
  refine Own.bool_own I.kIn hF I.ok.mod.kin J p.at_ p.fn (run_sp G hr2.in1.in1 rfl I h1 fun v H' u s' I' rv q => ?_)
  obtain ⟨b, rfl, q⟩ := q
  obtain rfl := rv
  exact ⟨.bl b, H', I', rfl, q⟩
end
section
variable {K : PySem.W.Frag} {C : Addr} {sp : Sp} {H : Hp} {Q : VK}
theorem f_RR {a dx b dy : Addr} {fs gs : List (Str × V)} (ha : H a = some (.ins C dx fs)) (hb : H b = some (.ins C dy gs)) (q : sp [.ref a, .ref b] H Q E0) : rRR C sp (.ref a) (.ref b) H Q := ⟨a, dx, fs, b, dy, gs, rfl, rfl, ha, hb, q⟩
theorem f_RI {a dx : Addr} {fs : List (Str × V)} {i : Int} (ha : H a = some (.ins C dx fs)) (q : sp [.ref a, .int i] H Q E0) : rRI C sp (.ref a) (.int i) H Q := ⟨a, dx, fs, i, rfl, rfl, ha, q⟩
theorem f_IR {a dx : Addr} {fs : List (Str × V)} {i : Int} (ha : H a = some (.ins C dx fs)) (q : sp [.ref a, .int i] H Q E0) : rIR C sp (.int i) (.ref a) H Q := ⟨a, dx, fs, i, rfl, rfl, ha, q⟩
theorem f_un {a dx : Addr} {fs : List (Str × V)} (ha : H a = some (.ins C dx fs)) (q : sp [.ref a] H Q E0) : rUn C sp (.ref a) H Q := ⟨a, dx, fs, rfl, ha, q⟩
theorem f_boolOwn {a dx : Addr} {fs : List (Str × V)} (ha : H a = some (.ins C dx fs)) (q : sp [.ref a] H (fun v H' => ∃ b, v = .bl b ∧ Q v H') E0) : rBoolOwn C sp [.ref a] H Q := ⟨a, dx, fs, rfl, ha, q⟩
end
end My

set_option Elab.async false
set_option linter.all false
set_option maxRecDepth 100000
set_option maxHeartbeats 4000000
/-! LayH: != of a class with its own __eq__ -/
namespace My
open PySem PySem.Spec PyProof.Rows L2 He
namespace Own
open PySem.W PySem.Calls
section
variable {prog : Program} {w : World} {A : Around} {E : Value → Shared → Prop} {s : Shared} {K : Frag} {x C L f : Addr} {h₀ : Heap} {m : Str → Option Value} {ox : Obj} {od : Option Obj} {b tb : Value}
theorem ne_try {Q : Value → Shared → Prop} (hu : A.in1.units < cLine) (X : K.In s.heap) (I : InstAt s.heap x ox C od) (hne : findIn K (.ref C) "__ne__" = some (some (.builtin "object.__ne__"))) (hob : subIn K (.ref C) (.type "object") = some true)
    (hs : findIn K (.ref C) "__eq__" = some (some (.ref f))) (hf : isFn K (.ref f) = true)
    (h : wpAny (model prog w) A.in1 (call (.ref f) [.ref x, b]) (fun v s' => ∃ c, v = .bool c ∧ Q (.bool (!c)) s') E s) : wpAny (model prog w) A (tryCompare (.ref x) "__ne__" b) (fun r s' => ∃ v, r = some v ∧ Q v s') E s := by
  have FB := F.cmp_object
  unfold tryCompare
  refine wpAny_bind ?_
  simp only [callSpecialIfBound?, bindSpecialIfBound?]
  refine wpAny_holding (wpAny_bind (wpAny_bind (wpAny_bind (I.type.here ((looks_findIn X hne).here ?_)))))
  simp only [FB.ne.bind]
  refine wpAny_bind (wpAny_askSetting (wpAny_ite ?_))
  have ent : wpAny (model prog w) A.in1 (Builtin.«object.__ne__» ⟨[.ref x, b], []⟩) (fun fl s' => ∃ c, fl = .done (.ret (.bool (!c))) ∧ Q (.bool (!c)) s') E s := by
    unfold Builtin.«object.__ne__»
    refine wpAny_bind (wpAny_pure ?_)
    refine wpAny_bind (wpAny_cRoomFor hu ?_)
    refine wpAny_bind (ifBound_K X I hs hf (wpAny_mono h (fun v s' hv => ?_) fun _ _ e => e))
    obtain ⟨c, rfl, hq⟩ := hv
    exact wpAny_bind (wpAny_pure (wpAny_pure ⟨c, rfl, hq⟩))
  have chk : wpAny (model prog w) A.in1 (checkBuiltinCall "object.__ne__" ⟨[.ref x, b], []⟩) (fun _ s' => s' = s) E s := by
    simp only [checkBuiltinCall, F.cmpKind_ne, F.cmpSplit_ne]
    refine wpAny_bind ?_
    unfold isInstance
    refine wpAny_bind (I.type.here ?_)
    refine (looks_subIn X hob).here ?_
    rw [if_neg (show ¬ ((!true) = true) from Bool.false_ne_true)]
    have ha := F.cmpArgs_ne (.ref x) b
    cases hsig : Manifest.signature? "object.__ne__" with
    | none => exact wpAny_pure rfl
    | some sig =>
      simp only [argsOk, hsig] at ha
      have h2 : Bind.checkArgs "object.__ne__" sig ⟨[.ref x, b], []⟩ = pure () := ha
      show wpAny _ A.in1 (Bind.checkArgs "object.__ne__" sig ⟨[.ref x, b], []⟩) _ E _
      rw [h2]
      exact wpAny_pure rfl
  have fin : wpAny (model prog w) A (call (.builtin "object.__ne__") ([.ref x] ++ [b]) >>= fun v => pure (some v)) (fun r s' => ∃ v, r = some v ∧ (∃ c, v = .bool c) ∧ Q v s') E s := by
    refine wpAny_bind (wpAny_call (codeAny_call_builtin FB.ne.plain F.cmpEntry_ne ?_))
    refine wpAny_mono chk (fun _ s' e => ?_) fun _ _ e => e
    subst e
    refine wpAny_mono ent (fun fl s1 hfl => ?_) fun _ _ e => e
    obtain ⟨c, rfl, hq⟩ := hfl
    exact wpAny_pure ⟨_, rfl, ⟨_, rfl⟩, hq⟩
  have last : ∀ (a : Option Value) (s' : Shared), (∃ v, a = some v ∧ (∃ c, v = .bool c) ∧ Q v s') → wpAny (model prog w) A (match a with | some Value.notImplemented => pure none | none => pure none | some v => pure (some v)) (fun r s' => ∃ v, r = some v ∧ Q v s') E s' := by
    rintro a s' ⟨v, rfl, ⟨c, rfl⟩, hq⟩
    exact wpAny_pure ⟨_, rfl, hq⟩
  split
  · exact wpAny_bind (wpAny_pure (wpAny_pure (wpAny_mono fin (fun a s' z => last a s' z) fun _ _ e => e)))
  · exact wpAny_tryCatch (wpAny_bind (wpAny_pure (wpAny_pure (wpAny_mono fin (fun a s' z => last a s' z) fun _ _ e => e))))
theorem ne_own {Q : Value → Shared → Prop} (hu : A.units < cLine) (hu1 : A.in1.units < cLine) (F : Fr h₀ L s.heap m) (X₀ : K.In h₀) (I : InstAt s.heap x ox C od) (hb : Looks (model prog w) s.heap (typeOf b) tb) (hn : notFirst K C tb = true)
    (hne : findIn K (.ref C) "__ne__" = some (some (.builtin "object.__ne__"))) (hob : subIn K (.ref C) (.type "object") = some true) (hs : findIn K (.ref C) "__eq__" = some (some (.ref f))) (hf : isFn K (.ref f) = true)
    (h : wpAny (model prog w) A.in1 (call (.ref f) [.ref x, b]) (fun v s' => ∃ c, v = .bool c ∧ Q (.bool (!c)) s') E s) : wpAny (model prog w) A (richCompare .NotEq (.ref x) b) Q E s := by
  have X := X₀.keeps F.keep
  have one := ne_try (Q := Q) hu1 X I hne hob hs hf h
  unfold richCompare
  simp only [oneThing_ref]
  refine wpAny_holding (wpAny_bind (wpAny_cRoomFor hu ?_))
  refine wpAny_bind (I.type.here (wpAny_bind (hb.here ?_)))
  split
  · rename_i q
    have e : subIn K tb (.ref C) = some false := by
      rcases Bool.or_eq_true_iff.mp hn with e | e
      · rw [beq_iff_eq.mp e] at q
        simp at q
      · exact beq_iff_eq.mp e
    refine wpAny_bind ((looks_subIn X e).here ?_)
    simp only [Bool.false_eq_true, if_false]
    refine wpAny_bind (wpAny_mono one (fun r s' z => ?_) fun _ _ e => e)
    obtain ⟨v, rfl, hq⟩ := z
    exact wpAny_pure hq
  · refine wpAny_bind (wpAny_pure ?_)
    simp only [Bool.false_eq_true, if_false]
    refine wpAny_bind (wpAny_mono one (fun r s' z => ?_) fun _ _ e => e)
    obtain ⟨v, rfl, hq⟩ := z
    exact wpAny_pure hq
/-- int != own: the int declines, object's __ne__ of the own class answers -/
theorem ne_intL {i : Int} {t : Tok} {dx : Addr} {Q : Value → Shared → Prop} (hu : A.units < cLine) (hu1 : A.in1.units < cLine) (F : Fr h₀ L s.heap m) (X₀ : K.In h₀) (I : InstAt s.heap x ox C od) (ho : s.heap.get? x = some (instObj C dx))
    (hne : findIn K (.ref C) "__ne__" = some (some (.builtin "object.__ne__"))) (hob : subIn K (.ref C) (.type "object") = some true) (hs : findIn K (.ref C) "__eq__" = some (some (.ref f))) (hf : isFn K (.ref f) = true) (hsub : subIn K (.ref C) (.type "int") = some false)
    (h : wpAny (model prog w) A.in1 (call (.ref f) [.ref x, .int i t]) (fun v s' => ∃ c, v = .bool c ∧ Q (.bool (!c)) s') E s) : wpAny (model prog w) A (richCompare .NotEq (.int i t) (.ref x)) Q E s := by
  have X := X₀.keeps F.keep
  obtain ⟨id, B, slot, entry, args, gives⟩ := decC_ne.ex
  have one : wpAny (model prog w) A (tryCompare (.ref x) (cmpInfo .NotEq).2.2 (.int i t)) (fun r s' => ∃ v, r = some v ∧ Q v s') E s := ne_try hu1 X I hne hob hs hf h
  have cl : wpAny (model prog w) A (call (.builtin id) [.int i t, .ref x]) (fun v s' => v = .notImplemented ∧ s' = s) E s :=
    call_meets slot (typeIs_int s i t) entry (args i t x) (gives i t x C dx) ⟨ho, rfl, rfl⟩
  have ti := typeIs_int s i t
  have one0 : oneThing? .NotEq (.int i t) (.ref x) = none := ti.oneThing_none .NotEq _
  unfold richCompare
  simp only [one0]
  refine wpAny_holding (wpAny_bind (wpAny_cRoomFor hu ?_))
  have L1 : Looks (model prog w) s.heap (typeOf (.int i t)) (.type "int") := Looks.of_pure rfl
  refine wpAny_bind (L1.here (wpAny_bind (I.type.here ?_)))
  rw [if_pos (show (Value.type "int" != Value.ref C) = true from rfl)]
  refine wpAny_bind ((looks_subIn X hsub).here ?_)
  simp only [Bool.false_eq_true, if_false]
  refine wpAny_bind (wpAny_tryCompare_declines ti slot (wpAny_mono cl (fun v s' hv => ⟨hv.1, ?_⟩) fun _ _ e => e))
  obtain ⟨_, rfl⟩ := hv
  refine wpAny_bind (wpAny_mono one (fun r s' z => ?_) fun _ _ e => e)
  obtain ⟨v, rfl, hq⟩ := z
  exact wpAny_pure hq
end
end Own
/-! the readings -/
structure NeOk (K : PySem.W.Frag) (C : Addr) : Prop where
  ne : PySem.W.findIn K (.ref C) "__ne__" = some (some (.builtin "object.__ne__"))
  ob : PySem.W.subIn K (.ref C) (.type "object") = some true
def neB (K : PySem.W.Frag) (x : Str) : Bool := eqO (PySem.W.findIn K (.ref (ga K x)) "__ne__") (some (some (.builtin "object.__ne__"))) && decide (PySem.W.subIn K (.ref (ga K x)) (.type "object") = some true)
theorem neB_ok {K : PySem.W.Frag} {x : Str} (h : neB K x = true) : NeOk K (ga K x) := by
  obtain ⟨h1, h2⟩ := ba h
  exact ⟨eqO_ok h1, of_decide_eq_true h2⟩
/-- the own == answers by a truth value, != by the other one -/
def turned (Q : VK) : VK := fun v H' => ∃ c, v = .bl c ∧ Q (.bl (!c)) H'
def nRR (C : Addr) (sp : Sp) : R2 := fun x y H Q => rRR C sp x y H (turned Q)
def nRI (C : Addr) (sp : Sp) : R2 := fun x y H Q => rRI C sp x y H (turned Q)
def nIR (C : Addr) (sp : Sp) : R2 := fun x y H Q => rIR C sp x y H (turned Q)
section
variable {X : Cx} {k j : Nat} {f C : Addr} {ps : List Str} {sp : Sp}
theorem run_turned {pins : List (Addr × Obj)} {σ : L2.St} {H : Hp} {s : Shared} {Q : VK} {us : List Value} {vs : List V} (G : Gf X.prog X.w X.K X.mg X.base CX0 k f ps [] sp) (hr : RG (k + 1) X.A) (I : Inv X pins σ H s) (r : Vals vs us) (h : sp vs H (turned Q) E0) :
    wpAny (model X.prog X.w) X.A.in1 (call (.ref f) us) (fun v s' => ∃ c, v = .bool c ∧ EP X pins σ Q (.bool (!c)) s') X.xe s := by
  have h2 : sp (vs ++ []) H (turned Q) E0 := by
    rw [List.append_nil]
    exact h
  refine wpAny_call (codeAny_mono (G.go (outer := X.stack) (us := us) (vs := vs) hr.in1 (Nat.le_refl _) I.env0.in1 I.kIn r h2) fun y s' hq => ?_)
  match y, hq with
  | .error er, hq => exact hq.elim
  | .ok (.ret u), hq =>
    obtain ⟨v, H', I3, rv, c, rfl, q3⟩ := I.after hq
    obtain rfl := rv
    exact ⟨c, rfl, .bl (!c), H', I3, rfl, q3⟩
theorem ne_RR (G : Gf X.prog X.w X.K X.mg X.base CX0 k f ps [] sp) (n : NeOk X.K C) (p : SpOk X.K C "__eq__" f) (hr : RG j X.A) (hj : k + 1 ≤ j) : OpR X (compareOp .NotEq) (nRR C sp) := by
  intro pins s σ H x y v u Q I rx ry h
  obtain ⟨a, dx, fs, b, dy, gs, rfl, rfl, ea, eb, h1⟩ := h
  obtain rfl : v = Value.ref a := rx
  obtain rfl : u = Value.ref b := ry
  obtain ⟨mA, O, _⟩ := ins_get I.hok ea
  obtain ⟨od, J, _⟩ := O.look
  obtain ⟨mB, O', _⟩ := ins_get I.hok eb
  obtain ⟨od', J', _⟩ := O'.look
  obtain ⟨m, hF⟩ := I.fr
  have hr1 : RG (k + 1) X.A := hr.mono hj
  exact Own.ne_own (tb := .ref C) hr.r.units0 hr1.in1.r.units0 hF I.ok.mod.kin J J'.type (by simp [PySem.W.notFirst]) n.ne n.ob p.at_ p.fn (run_turned (us := [.ref a, .ref b]) (vs := [.ref a, .ref b]) G hr1 I (.cons rfl (.cons rfl .nil)) h1)
theorem ne_RI (G : Gf X.prog X.w X.K X.mg X.base CX0 k f ps [] sp) (o : OwOk X.K C) (n : NeOk X.K C) (p : SpOk X.K C "__eq__" f) (hr : RG j X.A) (hj : k + 1 ≤ j) : OpR X (compareOp .NotEq) (nRI C sp) := by
  intro pins s σ H x y v u Q I rx ry h
  obtain ⟨a, dx, fs, i, rfl, rfl, ea, h1⟩ := h
  obtain rfl : v = Value.ref a := rx
  obtain ⟨t, rfl⟩ := ry
  obtain ⟨mA, O, _⟩ := ins_get I.hok ea
  obtain ⟨od, J, _⟩ := O.look
  obtain ⟨m, hF⟩ := I.fr
  have hr1 : RG (k + 1) X.A := hr.mono hj
  exact Own.ne_own (tb := .type "int") hr.r.units0 hr1.in1.r.units0 hF I.ok.mod.kin J (PySem.W.Looks.of_pure rfl) (by unfold PySem.W.notFirst; rw [o.sub1] <;> rfl) n.ne n.ob p.at_ p.fn (run_turned (us := [.ref a, .int i t]) (vs := [.ref a, .int i]) G hr1 I (.cons rfl (.cons ⟨t, rfl⟩ .nil)) h1)
theorem ne_IR (G : Gf X.prog X.w X.K X.mg X.base CX0 k f ps [] sp) (o : OwOk X.K C) (n : NeOk X.K C) (p : SpOk X.K C "__eq__" f) (hr : RG j X.A) (hj : k + 1 ≤ j) : OpR X (compareOp .NotEq) (nIR C sp) := by
  intro pins s σ H x y v u Q I rx ry h
  obtain ⟨a, dx, fs, i, rfl, rfl, ea, h1⟩ := h
  obtain rfl : u = Value.ref a := ry
  obtain ⟨t, rfl⟩ := rx
  obtain ⟨mA, O, _⟩ := ins_get I.hok ea
  obtain ⟨od, J, _⟩ := O.look
  obtain ⟨m, hF⟩ := I.fr
  have hr1 : RG (k + 1) X.A := hr.mono hj
  exact Own.ne_intL hr.r.units0 hr1.in1.r.units0 hF I.ok.mod.kin J (ins_obj I.hok ea) n.ne n.ob p.at_ p.fn o.sub2 (run_turned (us := [.ref a, .int i t]) (vs := [.ref a, .int i]) G hr1 I (.cons rfl (.cons ⟨t, rfl⟩ .nil)) h1)
/-- one of three readings of an operator -/
def r3 (r1 r2 r3 : R2) : R2 := fun x y H Q => r1 x y H Q ∨ r2 x y H Q ∨ r3 x y H Q
theorem op_3 {g : Value → Value → Sem Value} {r1 r2 r3' : R2} (h1 : OpR X g r1) (h2 : OpR X g r2) (h3 : OpR X g r3') : OpR X g (r3 r1 r2 r3') := fun pins s σ H x y v u Q I rx ry h =>
  h.elim (h1 pins s σ H x y v u Q I rx ry) fun h => h.elim (h2 pins s σ H x y v u Q I rx ry) (h3 pins s σ H x y v u Q I rx ry)
end
end My

set_option Elab.async false
set_option linter.all false
set_option maxRecDepth 100000
set_option maxHeartbeats 4000000
/-! LayI: other kinds of values beside an instance of an own class -/
namespace My
open PySem PySem.Spec PyProof.Rows L2 He
section
variable (l C dx : Addr)
theorem dec_eqBool (b : Bool) : Meets (Builtin.«int.__eq__» ⟨[.bool b, .ref l], []⟩) (fun _ R s => s.heap.get? l = some (PySem.W.instObj C dx) ∧ R (.ok (.ret Value.notImplemented)) s) :=
  .of_wp fun prog w A R s h => by obtain ⟨hp, g, d, tk, os⟩ := s; obtain ⟨hl, h⟩ := h; wp_walk; exact ⟨_, rfl, h⟩
theorem dec_eqNone : Meets (Builtin.«NoneType.__eq__» ⟨[.none, .ref l], []⟩) (fun _ R s => s.heap.get? l = some (PySem.W.instObj C dx) ∧ R (.ok (.ret Value.notImplemented)) s) :=
  .of_wp fun prog w A R s h => by obtain ⟨hp, g, d, tk, os⟩ := s; obtain ⟨hl, h⟩ := h; wp_walk; exact ⟨_, rfl, h⟩
theorem dec_eqStr (x : Str) (t : Tok) : Meets (Builtin.«str.__eq__» ⟨[.str x t, .ref l], []⟩) (fun _ R s => s.heap.get? l = some (PySem.W.instObj C dx) ∧ R (.ok (.ret Value.notImplemented)) s) :=
  .of_wp fun prog w A R s h => by obtain ⟨hp, g, d, tk, os⟩ := s; obtain ⟨hl, h⟩ := h; wp_walk; exact ⟨_, rfl, h⟩
theorem dec_eqTuple {K : PySem.W.Frag} (a : Addr) (o : Obj) (its : Array Value) (n : Nat) (hd : o.data = .seq its n) (hc : o.cls = .type "tuple") (hsub : PySem.W.subIn K (.ref C) (.type "tuple") = some false) :
    Meets (Builtin.«tuple.__eq__» ⟨[.ref a, .ref l], []⟩) (fun _ R s => K.In s.heap ∧ s.heap.get? a = some o ∧ s.heap.get? l = some (PySem.W.instObj C dx) ∧ R (.ok (.ret Value.notImplemented)) s) :=
  .of_wp fun prog w A R s h => by
    obtain ⟨hp, g, d, tk, os⟩ := s
    obtain ⟨X, ha, hl, h⟩ := h
    obtain ⟨oc, od, dd, sl⟩ := o
    subst hd
    subst hc
    wp_walk
    refine (PySem.W.looks_subIn (M := model prog w) X hsub).here ?_
    wp_walk
    exact ⟨_, rfl, h⟩
theorem dec_eqList {K : PySem.W.Frag} (a : Addr) (o : Obj) (its : Array Value) (n : Nat) (hd : o.data = .seq its n) (hc : o.cls = .type "list") (hsub : PySem.W.subIn K (.ref C) (.type "list") = some false) :
    Meets (Builtin.«list.__eq__» ⟨[.ref a, .ref l], []⟩) (fun _ R s => K.In s.heap ∧ s.heap.get? a = some o ∧ s.heap.get? l = some (PySem.W.instObj C dx) ∧ R (.ok (.ret Value.notImplemented)) s) :=
  .of_wp fun prog w A R s h => by
    obtain ⟨hp, g, d, tk, os⟩ := s
    obtain ⟨X, ha, hl, h⟩ := h
    obtain ⟨oc, od, dd, sl⟩ := o
    subst hd
    subst hc
    wp_walk
    refine (PySem.W.looks_subIn (M := model prog w) X hsub).here ?_
    wp_walk
    exact ⟨_, rfl, h⟩
theorem dec_eqDict {K : PySem.W.Frag} (a : Addr) (o : Obj) (hc : o.cls = .type "dict") (hsub : PySem.W.subIn K (.ref C) (.type "dict") = some false) :
    Meets (Builtin.«dict.__eq__» ⟨[.ref a, .ref l], []⟩) (fun _ R s => K.In s.heap ∧ s.heap.get? a = some o ∧ s.heap.get? l = some (PySem.W.instObj C dx) ∧ R (.ok (.ret Value.notImplemented)) s) :=
  .of_wp fun prog w A R s h => by
    obtain ⟨hp, g, d, tk, os⟩ := s
    obtain ⟨X, ha, hl, h⟩ := h
    obtain ⟨oc, od, dd, sl⟩ := o
    subst hc
    wp_walk
    refine (PySem.W.looks_subIn (M := model prog w) X hsub).here ?_
    wp_walk
    exact ⟨_, rfl, h⟩
end
/-! the rule: v == own, v declines -/
namespace Own
open PySem.W PySem.Calls
section
variable {prog : Program} {w : World} {A : Around} {E : Value → Shared → Prop} {s : Shared} {K : Frag} {x C L f : Addr} {h₀ : Heap} {m : Str → Option Value} {ox : Obj} {od : Option Obj} {v : Value} {T id : String}
theorem eq_declL {Q : Value → Shared → Prop} (ti : s.TypeIs v T) (slot : Slot T (cmpInfo .Eq).2.1 id) (cl : wpAny (model prog w) A (call (.builtin id) [v, .ref x]) (fun r s' => r = .notImplemented ∧ s' = s) E s) (hu : A.units < cLine) (F : Fr h₀ L s.heap m) (X₀ : K.In h₀) (I : InstAt s.heap x ox C od)
    (hs : findIn K (.ref C) "__eq__" = some (some (.ref f))) (hf : isFn K (.ref f) = true) (hsub : subIn K (.ref C) (.type T) = some false)
    (h : wpAny (model prog w) A (call (.ref f) [.ref x, v]) (PySem.W.CmpBack Q) E s) : wpAny (model prog w) A (richCompare .Eq v (.ref x)) Q E s := by
  have X := X₀.keeps F.keep
  have one : wpAny (model prog w) A (tryCompare (.ref x) (cmpInfo .Eq).2.2 v) (fun r s' => ∃ v, r = some v ∧ Q v s') E s := by
    unfold tryCompare
    refine wpAny_bind (ifBound_K X I hs hf (wpAny_mono h (fun v s' hv => ?_) fun _ _ e => e))
    cases v <;> first | exact hv.elim | exact wpAny_pure ⟨_, rfl, hv⟩
  have one0 : oneThing? .Eq v (.ref x) = none := ti.oneThing_none .Eq _
  unfold richCompare
  simp only [one0]
  refine wpAny_holding (wpAny_bind (wpAny_cRoomFor hu ?_))
  refine wpAny_bind (wpAny_typeOf ti (wpAny_bind (I.type.here ?_)))
  rw [if_pos (show (Value.type T != Value.ref C) = true from rfl)]
  refine wpAny_bind ((looks_subIn X hsub).here ?_)
  simp only [Bool.false_eq_true, if_false]
  refine wpAny_bind (wpAny_tryCompare_declines ti slot (wpAny_mono cl (fun v s' hv => ⟨hv.1, ?_⟩) fun _ _ e => e))
  obtain ⟨_, rfl⟩ := hv
  refine wpAny_bind (wpAny_mono one (fun r s' z => ?_) fun _ _ e => e)
  obtain ⟨v, rfl, hq⟩ := z
  exact wpAny_pure hq
end
end Own
/-! kinds of values -/
inductive Kd (H : Hp) : V → String → Prop where
  | bl (b : Bool) : Kd H (.bl b) "bool"
  | non : Kd H .non "NoneType"
  | str (x : Str) : Kd H (.str x) "str"
  | lst {a : Addr} {xs : List V} (e : H a = some (.lst xs)) : Kd H (.ref a) "list"
  | tup {a : Addr} {xs : List V} (e : H a = some (.tup xs)) : Kd H (.ref a) "tuple"
  | dct {a : Addr} {kvs : List (Key × V)} (e : H a = some (.dK kvs)) : Kd H (.ref a) "dict"
theorem Kd.ty {K : PySem.W.Frag} {H : Hp} {x : V} {T : String} (k : Kd H x T) : TyX K H x (.type T) := by
  cases k with
  | bl b => exact .base (.bl b)
  | non => exact .base .non
  | str x => exact .base (.str x)
  | lst e => exact .base (.lst e)
  | tup e => exact .base (.tup e)
  | dct e => exact .base (.dK e)
def kinds : List String := ["bool", "NoneType", "str", "list", "tuple", "dict"]
theorem Kd.mem {H : Hp} {x : V} {T : String} (k : Kd H x T) : T ∈ kinds := by cases k <;> decide
section
variable {X : Cx} {pins : List (Addr × Obj)} {σ : L2.St} {H : Hp} {s : Shared}
theorem looks_type {M : Model} {v : Value} {T : String} (ti : s.TypeIs v T) : PySem.W.Looks M s.heap (typeOf v) (.type T) := fun A Q E s' kp q => by
  refine wpAny_typeOf (s := s') ?_ q
  cases v with
  | ref a =>
    obtain ⟨o, h1, h2⟩ := ti
    exact ⟨o, kp _ _ h1, h2⟩
  | _ => exact ti
theorem Kd.decl {x : V} {v : Value} {T : String} {l C dx : Addr} {A : Around} {E : Value → Shared → Prop} (k : Kd H x T) (I : Inv X pins σ H s) (r : RelV x v) (ho : s.heap.get? l = some (PySem.W.instObj C dx)) (hsub : ∀ T ∈ kinds, PySem.W.subIn X.K (.ref C) (.type T) = some false) :
    s.TypeIs v T ∧ ∃ id, Slot T (cmpInfo .Eq).2.1 id ∧ wpAny (model X.prog X.w) A (call (.builtin id) [v, .ref l]) (fun r s' => r = .notImplemented ∧ s' = s) E s := by
  cases k with
  | bl b =>
    obtain rfl := r
    exact ⟨rfl, _, F.slot_bool_eq, call_meets F.slot_bool_eq (PySem.typeIs_bool s b) F.entry_int_eq (F.args_int_eq_2 _ _) (dec_eqBool l C dx b) ⟨ho, rfl, rfl⟩⟩
  | non =>
    obtain rfl := r
    exact ⟨rfl, _, F.slot_NoneType_eq, call_meets F.slot_NoneType_eq rfl F.entry_NoneType_eq (F.args_NoneType_eq_2 _ _) (dec_eqNone l C dx) ⟨ho, rfl, rfl⟩⟩
  | str x =>
    obtain ⟨t, rfl⟩ := r
    exact ⟨rfl, _, F.slot_str_eq, call_meets F.slot_str_eq rfl F.entry_str_eq (F.args_str_eq_2 _ _) (dec_eqStr l C dx x t) ⟨ho, rfl, rfl⟩⟩
  | @lst a xs e =>
    obtain rfl : v = Value.ref a := r
    obtain ⟨_, its, n, _, g⟩ := (show ObjOk _ _ H s.heap a (.lst xs) from I.hok a _ e)
    have ti : s.TypeIs (.ref a) "list" := ⟨_, g, rfl⟩
    exact ⟨ti, _, F.slot_list_eq, call_meets F.slot_list_eq ti F.entry_list_eq (F.args_list_eq_2 _ _) (dec_eqList l C dx a _ _ _ rfl rfl (hsub _ (by decide))) ⟨I.kIn, g, ho, rfl, rfl⟩⟩
  | @tup a xs e =>
    obtain rfl : v = Value.ref a := r
    obtain ⟨_, its, _, o, g, c, n, d⟩ := (show ObjOk _ _ H s.heap a (.tup xs) from I.hok a _ e)
    have ti : s.TypeIs (.ref a) "tuple" := ⟨_, g, c⟩
    exact ⟨ti, _, F.slot_tuple_eq, call_meets F.slot_tuple_eq ti F.entry_tuple_eq (F.args_tuple_eq_2 _ _) (dec_eqTuple l C dx a _ _ _ d c (hsub _ (by decide))) ⟨I.kIn, g, ho, rfl, rfl⟩⟩
  | @dct a kvs e =>
    obtain rfl : v = Value.ref a := r
    obtain ⟨_, _, vs, _, o, es, ep, g, ⟨c, _, _⟩, _⟩ := (show ObjOk _ _ H s.heap a (.dK kvs) from I.hok a _ e)
    have ti : s.TypeIs (.ref a) "dict" := ⟨_, g, c⟩
    exact ⟨ti, _, F.slot_dict_eq, call_meets F.slot_dict_eq ti F.entry_dict_eq (F.args_dict_eq_2 _ _) (dec_eqDict l C dx a _ c (hsub _ (by decide))) ⟨I.kIn, g, ho, rfl, rfl⟩⟩
end
/-! the readings -/
structure KdOk (K : PySem.W.Frag) (C : Addr) : Prop where
  one : ∀ T ∈ kinds, PySem.W.subIn K (.ref C) (.type T) = some false
  two : ∀ T ∈ kinds, PySem.W.subIn K (.type T) (.ref C) = some false
def kdB (K : PySem.W.Frag) (x : Str) : Bool := kinds.all fun T => decide (PySem.W.subIn K (.ref (ga K x)) (.type T) = some false) && decide (PySem.W.subIn K (.type T) (.ref (ga K x)) = some false)
theorem kdB_ok {K : PySem.W.Frag} {x : Str} (h : kdB K x = true) : KdOk K (ga K x) :=
  ⟨fun T hT => of_decide_eq_true (ba (List.all_eq_true.mp h T hT)).1, fun T hT => of_decide_eq_true (ba (List.all_eq_true.mp h T hT)).2⟩
def eRK (C : Addr) (sp : Sp) : R2 := fun x y H Q => ∃ a dx fs T, x = .ref a ∧ H a = some (.ins C dx fs) ∧ Kd H y T ∧ sp [.ref a, y] H Q E0
def eKR (C : Addr) (sp : Sp) : R2 := fun x y H Q => ∃ a dx fs T, y = .ref a ∧ H a = some (.ins C dx fs) ∧ Kd H x T ∧ sp [.ref a, x] H Q E0
def nRK (C : Addr) (sp : Sp) : R2 := fun x y H Q => eRK C sp x y H (turned Q)
section
variable {X : Cx} {k j : Nat} {f C : Addr} {ps : List Str} {sp : Sp}
theorem eq_RK (G : Gf X.prog X.w X.K X.mg X.base CX0 k f ps [] sp) (o : KdOk X.K C) (p : SpOk X.K C "__eq__" f) (hr : RG j X.A) (hj : k ≤ j) : OpR X (compareOp .Eq) (eRK C sp) := by
  intro pins s σ H x y v u Q I rx ry h
  obtain ⟨a, dx, fs, T, rfl, ea, kd, h1⟩ := h
  obtain rfl : v = Value.ref a := rx
  obtain ⟨mA, O, _⟩ := ins_get I.hok ea
  obtain ⟨od, J, _⟩ := O.look
  obtain ⟨m, hF⟩ := I.fr
  obtain ⟨ti, _⟩ := kd.decl (A := X.A) (E := X.xe) I ry (ins_obj I.hok ea) o.one
  have nf : PySem.W.notFirst X.K C (.type T) = true := by
    unfold PySem.W.notFirst
    rw [o.two T kd.mem] <;> rfl
  refine PySem.W.cmp_K (op := .Eq) (tb := .type T) hr.r.units0 hF I.ok.mod.kin J (looks_type ti) nf p.at_ p.fn ?_
  exact wpAny_mono (run_g (us := [.ref a, u]) (vs := [.ref a, y]) G hr hj pass0 I (.cons rfl (.cons ry .nil)) h1) (fun w s' z => back z) fun _ _ x => x
theorem eq_KR (G : Gf X.prog X.w X.K X.mg X.base CX0 k f ps [] sp) (o : KdOk X.K C) (p : SpOk X.K C "__eq__" f) (hr : RG j X.A) (hj : k ≤ j) : OpR X (compareOp .Eq) (eKR C sp) := by
  intro pins s σ H x y v u Q I rx ry h
  obtain ⟨a, dx, fs, T, rfl, ea, kd, h1⟩ := h
  obtain rfl : u = Value.ref a := ry
  obtain ⟨mA, O, _⟩ := ins_get I.hok ea
  obtain ⟨od, J, _⟩ := O.look
  obtain ⟨m, hF⟩ := I.fr
  obtain ⟨ti, id, slot, cl⟩ := kd.decl (A := X.A) (E := X.xe) I rx (ins_obj I.hok ea) o.one
  refine Own.eq_declL ti slot cl hr.r.units0 hF I.ok.mod.kin J p.at_ p.fn (o.one T kd.mem) ?_
  exact wpAny_mono (run_g (us := [.ref a, v]) (vs := [.ref a, x]) G hr hj pass0 I (.cons rfl (.cons rx .nil)) h1) (fun w s' z => back z) fun _ _ x => x
theorem ne_RK (G : Gf X.prog X.w X.K X.mg X.base CX0 k f ps [] sp) (o : KdOk X.K C) (n : NeOk X.K C) (p : SpOk X.K C "__eq__" f) (hr : RG j X.A) (hj : k + 1 ≤ j) : OpR X (compareOp .NotEq) (nRK C sp) := by
  intro pins s σ H x y v u Q I rx ry h
  obtain ⟨a, dx, fs, T, rfl, ea, kd, h1⟩ := h
  obtain rfl : v = Value.ref a := rx
  obtain ⟨mA, O, _⟩ := ins_get I.hok ea
  obtain ⟨od, J, _⟩ := O.look
  obtain ⟨m, hF⟩ := I.fr
  obtain ⟨ti, _⟩ := kd.decl (A := X.A) (E := X.xe) I ry (ins_obj I.hok ea) o.one
  have nf : PySem.W.notFirst X.K C (.type T) = true := by
    unfold PySem.W.notFirst
    rw [o.two T kd.mem] <;> rfl
  have hr1 : RG (k + 1) X.A := hr.mono hj
  exact Own.ne_own (tb := .type T) hr.r.units0 hr1.in1.r.units0 hF I.ok.mod.kin J (looks_type ti) nf n.ne n.ob p.at_ p.fn (run_turned (us := [.ref a, u]) (vs := [.ref a, y]) G hr1 I (.cons rfl (.cons ry .nil)) h1)
end
/-- f() -/
theorem pe_g0 {X : Cx} {CX : CXT} {k j : Nat} {f : Addr} {x : Str} {ps : List Str} {dvs : List V} {sp : Sp} {E : XK} {p pos : Pos} (G : Gf X.prog X.w X.K X.mg X.base CX k f ps dvs sp) (hm : X.mg x = some (.ref f)) (hr : RG j X.A) (hj : k ≤ j) (hx : Passes CX X E) (hg : Gl X x := by rfl)
    (hdb : (x == ("__debug__" : Str)) = false := by decide) : PE X (.Call (.Name x p) [] [] pos) (tCall sp dvs E tNil) := by
  refine ⟨fun pins s σ H Q I h => ?_⟩
  refine wpAny_Call_Name_kw (ld_glob I hg hm ?_ hdb)
  exact PySem.W.callWith_K0 I.kIn G.kp (run_g (us := []) (vs := []) G hr hj hx I .nil h)
end My

set_option Elab.async false
set_option linter.all false
set_option maxRecDepth 100000
set_option maxHeartbeats 4000000
/-! LayJ: comprehensions by what they gather, append, pop, reversed ranges and slices -/
namespace My
open PySem PySem.Builtin PySem.Builtin.Str PySem.Spec PyProof.Rows L2 SX
theorem tupS {K : PySem.W.Frag} {H H' : Hp} {a : Addr} {xs : List V} (h : SqT K H a xs) (e : Same H H') : SqT K H' a xs :=
  h.elim (fun h => .inl (h.elim (fun h => .inl (e _ _ h)) fun ⟨o, h⟩ => .inr ⟨o, e _ _ h⟩)) fun h => .inr h
theorem ne_lst {H : Hp} {D q : Addr} {acc : List V} {o : HO} (hD : H D = some (.lst acc)) (h : H q = some o) (n : o ≠ .lst acc) : q ≠ D := fun e => by
  rw [e, hD] at h
  exact n (Option.some.inj h).symm
theorem tupB {K : PySem.W.Frag} {H H' : Hp} {a D : Addr} {xs acc : List V} (hD : H D = some (.lst acc)) (b : But D H H') (h : SqT K H a xs) : SqT K H' a xs := by
  rcases h with (h | ⟨o, h⟩) | h
  · exact .inl (.inl (b _ _ (ne_lst hD h fun z => by cases z) h))
  · exact .inl (.inr ⟨o, b _ _ (ne_lst hD h fun z => by cases z) h⟩)
  · exact .inr h
section
variable {K : PySem.W.Frag} {σ : L2.St} {H : Hp} {nx bk ct : L2.St → Hp → Prop} {rt : VK} {ta tb tc te tv tl : TE} {Q : VK} {g : TG} {tA : TA} {tt : TT} {vs : List Nat} {ts : TS}
/-- what a comprehension over a range gathers -/
theorem lc_rangeG {lo : Int} {n : Nat} (Pa : Nat → List V → Hp → Prop) (hn : ∀ i acc H, Pa i acc H → acc.length ≤ 1000) (mono : ∀ i acc D acc' H1 H2, H1 D = some (.lst acc') → But D H1 H2 → Pa i acc H1 → Pa i acc H2) (h0 : ∀ H', Same H H' → Pa 0 [] H')
    (hs : ∀ i acc H1 (X : VK) (Y : Hp → Prop), i < n → Same H H1 → Pa i acc H1 → (∀ y H4, Same H1 H4 → Pa (i + 1) (acc ++ [y]) H4 → X y H4) → (∀ H3, Same H1 H3 → Pa (i + 1) acc H3 → Y H3) → g (.int (lo + i)) (wipe σ vs) H1 fun σ2 H2 => wipe σ2 vs = wipe σ vs ∧ tt σ2 H2 fun b H3 => if b = true then te σ2 H3 X else Y H3)
    (hd : ∀ D acc H1, H D = none → H1 D = some (.lst acc) → Same H H1 → Pa n acc H1 → Q (.ref D) H1) : LcG (Itr lo n) g tt te vs σ H Q := by
  refine My.lc_range (fun i D H1 => H D = none ∧ ∃ acc, H1 D = some (.lst acc) ∧ Same H H1 ∧ Pa i acc H1) (fun D hD => ⟨hD, [], upd_same, My.Same.new (Same.refl H) hD, h0 _ (My.Same.new (Same.refl H) hD)⟩) ?_ (fun D H1 ⟨hD, acc, h1, s1, p⟩ => hd D acc H1 hD h1 s1 p)
  rintro i D H1 hi ⟨hD, acc, h1, s1, p⟩
  exact hs i acc H1 _ _ hi s1 p (fun y H4 s4 p4 => ⟨acc, s4 _ _ h1, szl (hn _ _ _ p), hD, _, upd_same, My.Same.own (s1.trans s4) hD, mono _ _ _ _ _ _ (s4 _ _ h1) (My.But.put But.rfl) p4⟩) fun H3 s3 p3 => ⟨hD, acc, s3 _ _ h1, s1.trans s3, p3⟩
/-- over a list -/
theorem lc_listG {a : Addr} {xs : List V} (ha : SqL K H a xs) (Pa : Nat → List V → Hp → Prop) (hn : ∀ i acc H, Pa i acc H → acc.length ≤ 1000) (mono : ∀ i acc D acc' H1 H2, H1 D = some (.lst acc') → But D H1 H2 → Pa i acc H1 → Pa i acc H2) (h0 : ∀ H', Same H H' → Pa 0 [] H')
    (hs : ∀ i x acc H1 (X : VK) (Y : Hp → Prop), xs[i]? = some x → Same H H1 → Pa i acc H1 → (∀ y H4, Same H1 H4 → Pa (i + 1) (acc ++ [y]) H4 → X y H4) → (∀ H3, Same H1 H3 → Pa (i + 1) acc H3 → Y H3) → g x (wipe σ vs) H1 fun σ2 H2 => wipe σ2 vs = wipe σ vs ∧ tt σ2 H2 fun b H3 => if b = true then te σ2 H3 X else Y H3)
    (hd : ∀ D acc H1, H D = none → H1 D = some (.lst acc) → Same H H1 → Pa xs.length acc H1 → Q (.ref D) H1) : LcG (Itl K a) g tt te vs σ H Q := by
  refine My.lc_list (xs := xs) (fun i D H1 => H D = none ∧ ∃ acc, H1 D = some (.lst acc) ∧ Same H H1 ∧ Pa i acc H1) (fun D hD => ⟨hD, [], upd_same, My.Same.new (Same.refl H) hD, h0 _ (My.Same.new (Same.refl H) hD)⟩) (fun i D H1 _ ⟨_, _, _, s, _⟩ => s.seq ha) ?_ (fun D H1 ⟨hD, acc, h1, s1, p⟩ => hd D acc H1 hD h1 s1 p)
  rintro i x D H1 hi ⟨hD, acc, h1, s1, p⟩
  exact hs i x acc H1 _ _ hi s1 p (fun y H4 s4 p4 => ⟨acc, s4 _ _ h1, szl (hn _ _ _ p), hD, _, upd_same, My.Same.own (s1.trans s4) hD, mono _ _ _ _ _ _ (s4 _ _ h1) (My.But.put But.rfl) p4⟩) fun H3 s3 p3 => ⟨hD, acc, s3 _ _ h1, s1.trans s3, p3⟩
/-- over a tuple -/
theorem lc_tupG {a : Addr} {xs : List V} (ha : SqT K H a xs) (Pa : Nat → List V → Hp → Prop) (hn : ∀ i acc H, Pa i acc H → acc.length ≤ 1000) (mono : ∀ i acc D acc' H1 H2, H1 D = some (.lst acc') → But D H1 H2 → Pa i acc H1 → Pa i acc H2) (h0 : ∀ H', Same H H' → Pa 0 [] H')
    (hs : ∀ i x acc H1 (X : VK) (Y : Hp → Prop), xs[i]? = some x → Same H H1 → Pa i acc H1 → (∀ y H4, Same H1 H4 → Pa (i + 1) (acc ++ [y]) H4 → X y H4) → (∀ H3, Same H1 H3 → Pa (i + 1) acc H3 → Y H3) → g x (wipe σ vs) H1 fun σ2 H2 => wipe σ2 vs = wipe σ vs ∧ tt σ2 H2 fun b H3 => if b = true then te σ2 H3 X else Y H3)
    (hd : ∀ D acc H1, H D = none → H1 D = some (.lst acc) → Same H H1 → Pa xs.length acc H1 → Q (.ref D) H1) : LcG (Itt K a) g tt te vs σ H Q := by
  refine My.lc_tup (xs := xs) (fun i D H1 => H D = none ∧ ∃ acc, H1 D = some (.lst acc) ∧ Same H H1 ∧ Pa i acc H1) (fun D hD => ⟨hD, [], upd_same, My.Same.new (Same.refl H) hD, h0 _ (My.Same.new (Same.refl H) hD)⟩) (fun i D H1 _ ⟨_, _, _, s, _⟩ => tupS ha s) ?_ (fun D H1 ⟨hD, acc, h1, s1, p⟩ => hd D acc H1 hD h1 s1 p)
  rintro i x D H1 hi ⟨hD, acc, h1, s1, p⟩
  exact hs i x acc H1 _ _ hi s1 p (fun y H4 s4 p4 => ⟨acc, s4 _ _ h1, szl (hn _ _ _ p), hD, _, upd_same, My.Same.own (s1.trans s4) hD, mono _ _ _ _ _ _ (s4 _ _ h1) (My.But.put But.rfl) p4⟩) fun H3 s3 p3 => ⟨hD, acc, s3 _ _ h1, s1.trans s3, p3⟩
theorem r_tbm {T : String} {r : V → List V → Hp → VK → Prop} (h : ta σ H fun x H1 => tyV K T x H1 ∧ tA σ H1 fun xs H2 => r x xs H2 Q) : tBM K T r ta tA σ H Q := h
theorem r_tbm0 {T : String} {r : V → List V → Hp → VK → Prop} (h : ta σ H fun x H1 => tyV K T x H1 ∧ r x [] H1 Q) : tBM0 K T r ta σ H Q := h
theorem f_tyL {a : Addr} {xs : List V} {B : Prop} (h : H a = some (.lst xs)) (q : B) : tyV K "list" (.ref a) H ∧ B := ⟨.inl ⟨rfl, xs, SqL.of h⟩, q⟩
theorem r_app {l : Addr} {xs : List V} {y : V} (h : H l = some (.lst xs)) (n : xs.length ≤ 1000) (q : Q .non (upd H l (.lst (xs ++ [y])))) : rAppend (.ref l) [y] H Q := ⟨l, xs, y, rfl, rfl, h, szl n, q⟩
theorem r_pop {l : Addr} {xs : List V} {y : V} (h : H l = some (.lst xs)) (e : xs[xs.length - 1]? = some y) (q : Q y (upd H l (.lst xs.dropLast))) : rPop (.ref l) [] H Q := ⟨l, xs, y, rfl, rfl, h, e, q⟩
theorem r_rev {a : Addr} {xs : List V} (h : SqL K H a xs) (q : ∀ p, H p = none → Q (.ref p) (upd H p (.lst xs.reverse))) : ∃ b ys, V.ref a = .ref b ∧ SqL K H b ys ∧ ∀ p, H p = none → Q (.ref p) (upd H p (.lst ys.reverse)) := ⟨a, xs, rfl, h, q⟩
theorem r_tRev (h : te σ H fun x H1 => ∃ a xs, x = .ref a ∧ SqL K H1 a xs ∧ ∀ p, H1 p = none → Q (.ref p) (upd H1 p (.lst xs.reverse))) : tRevL K te σ H Q := h
theorem atI_last (xs : List V) (v : V) : atI (xs ++ [v]) (-1) = some v := by
  unfold atI ixN
  rw [List.length_append, if_neg (by decide), if_pos (by simp; omega)]
  show (xs ++ [v])[((-1 : Int) + ((xs.length + 1 : Nat) : Int)).toNat]? = some v
  have e : ((-1 : Int) + ((xs.length + 1 : Nat) : Int)).toNat = xs.length := by omega
  rw [e]
  simp
/-- a for over reversed(range(n)) -/
def RvF (n : Int) (g : TG) (ts : TS) (D : Ends) (σ : L2.St) (H : Hp) : Prop := -(2 ^ 62) ≤ (0 : Int) ∧ (0 : Int) < 2 ^ 62 ∧ -(2 ^ 62) ≤ n ∧ n < 2 ^ 62 ∧ LoopG (Itc (0 + (((n - 0).toNat : Nat) : Int) - 1) (-1) (n - 0).toNat) g ts D σ H
theorem r_forRV {te : TE} (h : te σ H fun x H1 => ∃ n : Int, x = .int n ∧ RvF n g ts ⟨nx, rt, bk, ct⟩ σ H1) : tFor (iRevR (tRg1 te)) g ts ⟨nx, rt, bk, ct⟩ σ H := h
theorem rv_at {n : Int} {m : Nat} (e : n.toNat = m) (n1 : -(2 ^ 62) ≤ n) (n2 : n < 2 ^ 62) (q : LoopG (Itc ((m : Int) - 1) (-1) m) g ts ⟨nx, rt, bk, ct⟩ σ H) : RvF n g ts ⟨nx, rt, bk, ct⟩ σ H := by
  refine ⟨by decide, by decide, n1, n2, ?_⟩
  rw [Int.sub_zero, e, Int.zero_add]
  exact q
theorem lp_rev {lo c : Int} {n : Nat} (Pv : Nat → L2.St → Hp → Prop) (h0 : Pv 0 σ H) (hs : ∀ i σ H, i < n → Pv i σ H → g (.int (lo + (i : Nat) * c)) σ H fun σ2 H2 => ts ⟨Pv (i + 1), rt, nx, Pv (i + 1)⟩ σ2 H2) (hd : ∀ σ H, Pv n σ H → nx σ H) :
    LoopG (Itc lo c n) g ts ⟨nx, rt, bk, ct⟩ σ H := for_rangeC (D := ⟨nx, rt, bk, ct⟩) Pv h0 hs hd
/-- the last item -/
theorem r_lastL {p : Addr} {xs : List V} {v : V} (h : SqL K H p (xs ++ [v])) (q : Q v H) : rIxL K (.ref p) (.int (-1)) H Q := ⟨p, xs ++ [v], -1, v, rfl, rfl, h, atI_last xs v, q⟩
theorem r_lastT {p : Addr} {xs : List V} {v : V} (h : SqT K H p (xs ++ [v])) (q : Q v H) : rIxT K (.ref p) (.int (-1)) H Q := ⟨p, xs ++ [v], -1, v, rfl, rfl, h, atI_last xs v, q⟩
theorem r_memI {K : PySem.W.Frag} {a : Addr} {rs : List Int} {t : Int} {H : Hp} {Q : VK} (h : SqL K H a (rs.map V.int)) (q : Q (.bl (decide (t ∈ rs))) H) : rIn K false (.int t) (.ref a) H Q := by
  refine ⟨a, _, rfl, .inl h, rfl, ?_, ?_⟩
  · rw [List.all_eq_true]
    intro x hx
    obtain ⟨z, _, rfl⟩ := List.mem_map.mp hx
    rfl
  · have e : inV (.int t) (rs.map V.int) = decide (t ∈ rs) := by
      unfold inV
      rw [List.any_map]
      by_cases m : t ∈ rs
      · rw [decide_eq_true m, List.any_eq_true]
        exact ⟨t, m, by show (t == t) = true; simp⟩
      · rw [decide_eq_false m, List.any_eq_false]
        intro x hx
        show ¬ (x == t) = true
        simp
        intro z
        exact m (z ▸ hx)
    show Q (.bl (inV (.int t) (rs.map V.int))) H
    rw [e]
    exact q
theorem r_eqB {a b : Bool} {H : Hp} {Q : VK} (q : Q (.bl (decide (a = b))) H) : rEq (.bl a) (.bl b) H Q := ⟨rfl, by
  have e : decide (V.bl a = V.bl b) = decide (a = b) := by
    rw [decide_eq_decide]
    exact ⟨fun z => V.bl.inj z, fun z => by rw [z]⟩
  rw [e]
  exact q⟩
end
end My

set_option Elab.async false
set_option linter.all false
set_option maxRecDepth 100000
set_option maxHeartbeats 4000000
/-! LayK: own error classes whose __init__ sets one field: raised, passed on, caught by name, their class asked, their field read -/
namespace My
open PySem PySem.Spec PyProof.Rows L2 He
theorem decT {p : Prop} [Decidable p] (h : decide p = true) : p := of_decide_eq_true h
/-- the class object of an own error -/
def oexB (K : PySem.W.Frag) (C : Addr) : Bool := match K.lookup C with
  | some ⟨.type "type", _, .cls c, sl⟩ => (match c.mro, sl.toList with
    | .ref C2 :: bm, [_, _, _, _, some (.builtin n), _] => C2 == C && (n == "ValueError.__new__" && (c.hasDict && (!c.hasDel && PySem.HandSPX.refsVE bm)))
    | _, _ => false)
  | _ => false
theorem oexB_ok {K : PySem.W.Frag} {C : Addr} (q : oexB K C = true) : ∃ nm qn N bs bm sn sub ab col dd k0 k1 k2 k3 k5, K.lookup C = some (excClassObj nm qn C N bs bm true sn sub ab col dd k0 k1 k2 k3 k5 "ValueError.__new__") ∧ PySem.HandSPX.refsVE bm = true := by
  unfold oexB at q
  split at q
  · rename_i dd c sl ho
    split at q
    · rename_i C2 bm k0 k1 k2 k3 n k5 em es
      obtain ⟨e1, q⟩ := ba q
      obtain ⟨e2, q⟩ := ba q
      obtain ⟨e3, q⟩ := ba q
      obtain ⟨e4, e5⟩ := ba q
      have e1 := eq_of_beq e1
      have e2 := eq_of_beq e2
      subst e1 e2
      obtain ⟨f1, f2, f3, f4, f5, f6, f7, f8, f9, f10, f11⟩ := c
      dsimp only at em e3 e4
      cases f11 with
      | true => cases e4
      | false =>
        subst em e3
        have esl : sl = #[k0, k1, k2, k3, some (.builtin "ValueError.__new__"), k5] := by
          cases sl
          simp only at es
          rw [es]
        rw [esl] at ho
        exact ⟨_, _, _, _, _, _, _, _, _, _, _, _, _, _, _, ho, e5⟩
    · cases q
  · cases q
/-- all that is asked of an own error class x with an __init__ of its own -/
structure ErrOk (K : PySem.W.Frag) (C f : Addr) : Prop where
  ox : OexC K C
  iC : PySem.W.findIn K (.ref C) "__init__" = some (some (.ref f))
  tI : PySem.W.typeIn K (.ref f) = some (.type "function")
  xf : XfC K C
  cl : (PySem.W.clsIn K C).isSome = true
  ca : PySem.W.findIn K (.ref C) "__class__" = some (some (.builtin "object.__class__"))
  hn : PySem.W.specialIn K (.builtin "object.__class__") "__get__" = some (some (.builtin "getset_descriptor.__get__"))
  tk : PySem.W.takesIn K (.builtin "object.__class__") = some true
  mo : PySem.W.mroIn K C (.type "object") = some true
def errB (K : PySem.W.Frag) (x : Str) : Bool := oexB K (ga K x) && (eqO (PySem.W.findIn K (.ref (ga K x)) "__setattr__") (some (some (.builtin "object.__setattr__"))) && (decide (PySem.W.typeIn K (.ref (ga K x)) = some (.type "type")) && (PySem.W.keepIn K (.ref (ga K x)) &&
  (eqO (PySem.W.findIn K (.ref (ga K x)) "__init__") (some (some (.ref (ma K (ga K x) "__init__")))) && (decide (PySem.W.typeIn K (.ref (ma K (ga K x) "__init__")) = some (.type "function")) && (xfB K (ga K x) && ((PySem.W.clsIn K (ga K x)).isSome &&
  (eqO (PySem.W.findIn K (.ref (ga K x)) "__class__") (some (some (.builtin "object.__class__"))) && (eqO (PySem.W.specialIn K (.builtin "object.__class__") "__get__") (some (some (.builtin "getset_descriptor.__get__"))) &&
  (decide (PySem.W.takesIn K (.builtin "object.__class__") = some true) && decide (PySem.W.mroIn K (ga K x) (.type "object") = some true)))))))))))
theorem errB_ok {K : PySem.W.Frag} {x : Str} (h : errB K x = true) : ErrOk K (ga K x) (ma K (ga K x) "__init__") := by
  obtain ⟨h1, h⟩ := ba h
  obtain ⟨h2, h⟩ := ba h
  obtain ⟨h3, h⟩ := ba h
  obtain ⟨h4, h⟩ := ba h
  obtain ⟨h5, h⟩ := ba h
  obtain ⟨h6, h⟩ := ba h
  obtain ⟨h7, h⟩ := ba h
  obtain ⟨h8, h⟩ := ba h
  obtain ⟨h9, h⟩ := ba h
  obtain ⟨h10, h⟩ := ba h
  obtain ⟨h11, h12⟩ := ba h
  have xf := xfB_ok h7
  exact ⟨⟨oexB_ok h1, eqO_ok h2, xf.exC, decT h3, h4⟩, eqO_ok h5, decT h6, xf, h8, eqO_ok h9, eqO_ok h10, decT h11, decT h12⟩
def noB (K : PySem.W.Frag) (x f : Str) : Bool := eqO (PySem.W.findIn K (.ref (ga K x)) f) (some none)
theorem noB_ok {K : PySem.W.Frag} {x f : Str} (h : noB K x f = true) : PySem.W.findIn K (.ref (ga K x)) f = some none := eqO_ok h
def exmB (K : PySem.W.Frag) (x y : Str) (b : Bool) : Bool := decide (PySem.W.exmOne K (.ref (ga K x)) (.ref (ga K y)) = some b)
theorem exmB_ok {K : PySem.W.Frag} {x y : Str} {b : Bool} (h : exmB K x y b = true) : PySem.W.exmOne K (.ref (ga K x)) (.ref (ga K y)) = some b := decT h
/-! ### the making -/
section
variable {P : Program} {w : World} {K : PySem.W.Frag} {mg : Str → Option Value} {base : Heap} {x qual : Str} {params : Arguments} {body : List Stmt} {scope : Scope} {dvs : List V} {kws : List (Str × V)} {f : Addr} {fd : FuncData} {N ps : List Str} {k : Nat} {sp : Sp}
/-- a def that keeps its promise anywhere -/
theorem fnR (F : FunD K x qual params body scope dvs kws f fd) (S : FnScope N ps scope) (len : ∀ vs H Q E, sp vs H Q E → vs.length = ps.length)
    (hbody : ∀ (cdv : Value) (A : Around) (outer : List Env) (s : Shared) (H : Hp) (vs : List V) (Q : VK) (E : XK), Room k (A.deeper (envOfC qual scope s.heap.objs.size f cdv)) → sp vs H Q E →
      ∃ t, PSs (cxOf CX0 P w K mg base N qual scope f cdv A outer s H E) body t ∧ t { nx := fun _ H2 => Q .non H2, rt := Q } (start N vs) H) : FnOk P w K mg base CX0 (k + 1) f fd ps sp := by
  obtain ⟨_, _, _, _, _, _, _, cdv, _, _, rfl, lk, hcd, _, _⟩ := F.ex
  exact fn_of lk hcd S len fun A outer s H vs Q E hr q => hbody cdv A outer s H vs Q E hr q
end
/-- self.f = v of a new error -/
def spErr (C : Addr) (f : Str) : Sp := fun vs H Q _ => ∃ (a : Addr) (v : V), vs = [.ref a, v] ∧ H a = some (exo a C none) ∧ ∀ dx, H dx = none → dx ≠ a → Q .non (upd (upd H dx (exd dx [(f, v)])) a (exo a C (some dx)))
/-- what follows of C(v): d is the new error's dict -/
def MkE (C : Addr) (f : Str) (vs : List V) (H : Hp) (Q : XK) : Prop := vs.length ≤ 1000 ∧ ∀ a, H a = none → spErr C f (.ref a :: (vs ++ [])) (upd H a (exo a C none))
  (fun v H2 => v = .non ∧ ∃ (d : Addr) (fs : List (Str × V)), H2 a = some (exo a C (some d)) ∧ H2 d = some (exd d fs) ∧ H d = none ∧ Q (.ref C) (some d) (upd (del H2 a) d (.xd fs))) (fun _ _ _ => False)
theorem f_mkE {C : Addr} {f : Str} {v : V} {H : Hp} {Q : XK} (h : ∀ d H2, H d = none → H2 d = some (.xd [(f, v)]) → Same H H2 → Q (.ref C) (some d) H2) : MkE C f [v] H Q := by
  refine ⟨by simp, fun a ha => ⟨a, v, rfl, upd_same, fun dx hd hne => ⟨rfl, dx, [(f, v)], upd_same, ?_, ?_, ?_⟩⟩⟩
  · rw [upd_ne hne]
    exact upd_same
  · rw [upd_ne hne] at hd
    exact hd
  · rw [upd_ne hne] at hd
    refine h dx _ hd upd_same fun q o e => ?_
    have q1 : q ≠ dx := ne_of_none e hd
    have q2 : q ≠ a := ne_of_none e ha
    rw [upd_ne q1, del_ne q2, upd_ne q2, upd_ne q1, upd_ne q2]
    exact e
section
variable {X : Cx} {x : Str} {C g : Addr} {k : Nat} {fd : FuncData} {ps : List Str} {f : Str} {W : WX} {e : Expr} {es : List Expr} {ta : TA} {p pos pos' : Pos}
def tRaise (C : Addr) (f : Str) (W : WX) (ta : TA) : TS := fun _ σ H => ta σ H fun vs H1 => MkE C f vs H1 fun cls d H2 => W cls d σ H2
/-- raise C(v) -/
theorem ps_err (hc : X.calm = true) (tk : Takes X W) (T : ErrOk X.K C g) (F : FnOk X.prog X.w X.K X.mg X.base CX0 k g fd ps (spErr C f)) (hb : Binds X.K fd ps []) (hr : RG (k + 1) X.A) (hm : X.mg x = some (.ref C)) (ha : PA X (e :: es) ta) (hg : Gl X x := by rfl)
    (hdb : (x == ("__debug__" : Str)) = false := by decide) (he : starEach (e :: es) X.env = (false, eval e X.env) :: starEach es X.env := by rfl) (hpl : (backTo pos (starEach es X.env)).any (·.1) = false := by rfl) :
    PS X (.Raise (some (.Call (.Name x p) (e :: es) [] pos)) none pos') (tRaise C f W ta) :=
  ps_raise hc tk (pmk_oex T.ox T.iC T.tI F hr.r hb .nil (fun _ _ _ _ _ _ _ z => z.elim) hg hm ha hdb he hpl)
end
/-! ### calls that may raise -/
section
variable {X : Cx} {CX : CXT} {k j : Nat} {f C : Addr} {x : Str} {ps : List Str} {dvs : List V} {sp : Sp} {E : L2.St → XK} {e : Expr} {es : List Expr} {p pos : Pos} {t : TA}
theorem run_gS {pins : List (Addr × Obj)} {σ : L2.St} {H : Hp} {s : Shared} {Q : VK} {us : List Value} {vs : List V} (G : Gf X.prog X.w X.K X.mg X.base CX k f ps dvs sp) (hr : RG j X.A) (hj : k ≤ j) (hx : PassesAt CX X σ (E σ))
    (I : Inv X pins σ H s) (r : Vals vs us) (h : sp (vs ++ dvs) H Q (E σ)) : wpAny (model X.prog X.w) X.A (call (.ref f) us) (EP X pins σ Q) X.xe s := by
  refine wpAny_call (codeAny_mono (G.go hr hj I.env0 I.kIn r h) fun y s' hq => ?_)
  match y, hq with
  | .error e, hq => exact hx pins H s e s' I hq
  | .ok (.ret u), hq => exact I.after hq
def tCallG (sp : Sp) (dvs : List V) (E : L2.St → XK) (t : TA) : TE := fun σ H Q => t σ H fun vs H1 => sp (vs ++ dvs) H1 Q (E σ)
theorem pe_gS (G : Gf X.prog X.w X.K X.mg X.base CX k f ps dvs sp) (hm : X.mg x = some (.ref f)) (hr : RG j X.A) (hj : k ≤ j) (hx : ∀ σ, PassesAt CX X σ (E σ)) (ha : PA X (e :: es) t) (hg : Gl X x := by rfl)
    (hdb : (x == ("__debug__" : Str)) = false := by decide) (he : starEach (e :: es) X.env = (false, eval e X.env) :: starEach es X.env := by rfl) (hpl : (backTo pos (starEach es X.env)).any (·.1) = false := by rfl) :
    PE X (.Call (.Name x p) (e :: es) [] pos) (tCallG sp dvs E t) := by
  refine ⟨fun pins s σ H Q I h => ?_⟩
  refine wpAny_Call_Name_kw (ld_glob I hg hm ?_ hdb)
  exact PySem.W.callWith_K (h₀ := X.base) I.ok.mod.kin G.kp (thn (ha.run pos pins s σ H _ I h) fun us s1 ⟨vs, H1, I1, r, q⟩ => ⟨I1.kIn, run_gS G hr hj (hx σ) I1 r q⟩) he hpl
/-- in a def that lets all out that its callee lets out -/
theorem passU {X : Cx} {E : XK} (tk : Takes X fun cls d _ H => E cls d H) : Passes (L2.CX X.prog X.w) X E := passes_call tk fun _ _ _ _ h => h
end
/-! ### in an except suite -/
section
variable {X : Cx} {a : Addr} {oe : Obj} {cls : Value} {d : Option Addr} {pn : List (Addr × Obj)}
/-- isinstance(e, c) -/
def rIsX (K : PySem.W.Frag) (a : Addr) (cls : Value) (d : Option Addr) : List V → Hp → VK → Prop := fun xs H Q => ∃ (D g : Addr) (c : V) (u : Value) (b : Bool) (dd : Addr) (fs : List (Str × V)), xs = [.ref a, c] ∧ cls = .ref D ∧ ErrOk K D g ∧ d = some dd ∧ H dd = some (.xd fs) ∧ ClsV c u ∧ PySem.W.kitOne K (.ref D) u = some b ∧ Q (.bl b) H
theorem call_isX (hz : Zc cls d oe) (hf : ∃ vs, oe.data = .fields vs) : CallR (X.suite a ((a, oe) :: pn)) (.builtin "isinstance") (rIsX X.K a cls d) := by
  intro pins s σ H xs us Q I r h
  obtain ⟨D, g, c, u, b, dd, fs, rfl, rfl, T, rfl, hd, k, e, q⟩ := h
  obtain ⟨u1, u2, rfl, r1, r2⟩ := vals2 r
  have e2 := k.eq r2
  subst e2
  obtain rfl : u1 = Value.ref a := r1
  obtain ⟨ha, _⟩ := I.pin (a, oe) (List.mem_append_left _ List.mem_cons_self)
  obtain ⟨vs, hv⟩ := hf
  have hx : ObjOk X.prog X.w H s.heap dd (.xd fs) := I.hok dd _ hd
  obtain ⟨mA, hns, hrel⟩ := hx
  obtain ⟨od, ho, hl⟩ := lookIn_ns hns
  have J : PySem.W.InstAt s.heap a oe D (some od) := ⟨ha, hz.1, by unfold PySem.W.notCls; rw [hv] <;> rfl, by rw [hz.2]; exact ho⟩
  exact PySem.W.kia_one (PySem.W.kitx_exc T.cl T.xf.ga T.xf.gg T.xf.exC T.ca T.hn T.tk T.mo) I.kIn J e (fun z => nomatch z) fun tk => ⟨.bl b, H, I.tok tk, rfl, q⟩
theorem f_isX {K : PySem.W.Frag} {H : Hp} {Q : VK} {D g dd : Addr} {fs : List (Str × V)} {c : V} {u : Value} {b : Bool} (T : ErrOk K D g) (hd : H dd = some (.xd fs)) (k : ClsV c u) (e : PySem.W.kitOne K (.ref D) u = some b) (q : Q (.bl b) H) : rIsX K a (.ref D) (some dd) [.ref a, c] H Q := ⟨D, g, c, u, b, dd, fs, rfl, rfl, T, rfl, hd, k, e, q⟩
/-- e.f, as one of the classes that the clause lets in -/
theorem f_xf {te : TE} {σ : L2.St} {H : Hp} {Q : VK} {C dd : Addr} {f : Str} {fs : List (Str × V)} {v : V} (h : te σ H fun x H1 => x = .ref a ∧ H1 dd = some (.xd fs) ∧ fs.lookup f = some v ∧ Q v H1) (mt : ∀ F G : VK, (∀ x H, F x H → G x H) → te σ H F → te σ H G) : tXf a (.ref C) (some dd) C f te σ H Q :=
  mt _ _ (fun x H1 ⟨e1, e2, e3, q⟩ => ⟨e1, rfl, dd, fs, v, rfl, e2, e3, q⟩) h
end
end My

set_option Elab.async false
set_option linter.all false
set_option maxRecDepth 100000
set_option maxHeartbeats 4000000
/-! LayL: repr of a thing of any plain kind -/
namespace My
open PySem PySem.Spec PyProof.Rows L2
def dkI (ps : List (Int × Int)) : List (Key × V) := ps.map fun p => (.inl p.1, .int p.2)
def ddI (ps : List (Int × Int)) : List (PyData × PyData) := ps.map fun p => (.int p.1, .int p.2)
/-- a value and the data that it is: none, truth values, ints, texts, lists and tuples of such, dicts of ints -/
inductive DpT (K : PySem.W.Frag) (H : Hp) : V → PyData → Prop
  | pl {x : V} {d : PyData} (h : Dp K H x d) (n : d.hasDict = false) : DpT K H x d
  | dct {a : Addr} {ps : List (Int × Int)} (h : H a = some (.dK (dkI ps))) : DpT K H (.ref a) (.dict (ddI ps))
section
variable {X : Cx} {pins : List (Addr × Obj)} {σ : L2.St} {H : Hp} {s : Shared}
theorem kv_reads {P : Program} {w : World} {h : Heap} : ∀ {ps : List (Int × Int)} {es : List DictEntry} {vs : List (Key × Value)}, KV (dkI ps) vs → Pairs (mixKind P w) es vs → ReadsAll h (es.map (·.key)) ((ddI ps).map (·.1)) [] ∧ ReadsAll h (es.map (·.val)) ((ddI ps).map (·.2)) []
  | [], es, vs, r, q => by
    cases r
    cases q
    exact ⟨.nil, .nil⟩
  | p :: ps, es, vs, r, q => by
    cases r with
    | cons r1 r2 =>
      cases q with
      | @cons en _ _ _ q1 q2 q3 =>
        obtain ⟨z1, z2⟩ := kv_reads r2 q3
        obtain ⟨k1, k2⟩ := r1
        dsimp only at k1 k2
        rw [← k1] at q1
        rcases keyIs_shape (show keyIs (Sum.inl p.1) _ = true from q1) with ⟨i, t, e1, e2⟩ | ⟨y, t, e1, e2⟩
        · cases e1
          obtain ⟨t2, e3⟩ := k2
          have g1 : Reads h en.key (.int p.1) [] := by
            rw [e2]
            exact .int _ _
          have g2 : Reads h en.val (.int p.2) [] := by
            rw [q2, e3]
            exact .int _ _
          exact ⟨ReadsAll.cons (as := []) (bs := []) g1 z1, ReadsAll.cons (as := []) (bs := []) g2 z2⟩
        · cases e1
theorem dict_reads (I : Inv X pins σ H s) {a : Addr} {ps : List (Int × Int)} (h : H a = some (.dK (dkI ps))) : Reads s.heap (.ref a) (.dict (ddI ps)) [a] ∧ a ≠ sysModules := by
  obtain ⟨_, hn, vs, rel, o, es, ep, h1, h2, h3, _, h5, _⟩ := dk_of I.hok h
  obtain ⟨z1, z2⟩ := kv_reads (h := s.heap) rel h5
  refine ⟨Reads.dict (as := []) (bs := []) h1 h2.1 h3 z1 z2, fun e => ?_⟩
  rw [e, beq_self_eq_true] at hn
  cases hn
/-- repr of such a thing -/
def rReprT (K : PySem.W.Frag) : List V → Hp → VK → Prop := fun xs H Q => ∃ x d, xs = [x] ∧ DpT K H x d ∧ d.showable = true ∧ d.depth ≤ 50 ∧ d.shown.length ≤ sizeLine ∧ Q (.str d.shown) H
theorem call_reprT {j : Nat} (hr : RG j X.A) : CallR X (.builtin "repr") (rReprT X.K) := by
  intro pins s σ H xs us Q I r h
  obtain ⟨x, d, rfl, hd, h1, h3, h4, q⟩ := h
  obtain ⟨u, rfl, rx⟩ := vals1 r
  have fin : ∀ {a : Addr} {as : List Addr}, u = .ref a → Reads s.heap (.ref a) d as → (d.hasDict = true → sysModules ∉ as) → wpAny (model X.prog X.w) X.A (call (.builtin "repr") [u]) (EP X pins σ Q) X.xe s := fun {a as} e R hs => by
    subst e
    refine repr_of_reads' R h1 hs hr.g (by have := hr.units; omega) (fun _ _ z => z) (fun h' u tk hk => ?_) h4
    exact ⟨.str d.shown, H, I.kept (t' := tk) hk, ⟨u, rfl⟩, q⟩
  cases hd with
  | pl hd hn =>
    cases hd with
    | non =>
      obtain rfl : u = Value.none := rx
      exact PySem.P.repr_of_none ⟨.str _, H, I.tok _, ⟨_, rfl⟩, q⟩
    | bl b =>
      obtain rfl : u = Value.bool b := rx
      exact PySem.P.repr_of_bool ⟨.str _, H, I.tok _, ⟨_, rfl⟩, q⟩
    | int i =>
      obtain ⟨t, rfl⟩ := (show ∃ t, u = Value.int i t from rx)
      exact PySem.P.repr_of_int (of_decide_eq_true h1) ⟨.str _, H, I.tok _, ⟨_, rfl⟩, q⟩
    | str y =>
      obtain ⟨t, rfl⟩ := (show ∃ t, u = Value.str y t from rx)
      exact PySem.P.repr_of_str ⟨.str _, H, I.tok _, ⟨_, rfl⟩, q⟩ h4
    | lst hs ha =>
      obtain ⟨as, R⟩ := Dp.reads I _ _ _ (.lst hs ha) rx
      exact fin rx (by cases (show u = Value.ref _ from rx); exact R) (PyData.noDict_hsm hn)
    | tup hs ha =>
      obtain ⟨as, R⟩ := Dp.reads I _ _ _ (.tup hs ha) rx
      exact fin rx (by cases (show u = Value.ref _ from rx); exact R) (PyData.noDict_hsm hn)
  | dct hs =>
    obtain ⟨R, n⟩ := dict_reads I hs
    exact fin rx R fun _ m => n (List.mem_singleton.mp m).symm
theorem call_reprTK {K : PySem.W.Frag} {j : Nat} (h : X.K = K) (hr : RG j X.A) : CallR X (.builtin "repr") (rReprT K) := by
  subst h
  exact call_reprT hr
end
/-- a thing whose repr may be asked -/
def Thg (K : PySem.W.Frag) (H : Hp) (x : V) (d : PyData) : Prop := DpT K H x d ∧ d.showable = true ∧ d.depth ≤ 50 ∧ d.shown.length ≤ sizeLine
theorem Thg.q {K : PySem.W.Frag} {H : Hp} {x : V} {d : PyData} {Q : VK} (h : Thg K H x d) (q : Q (.str d.shown) H) : rReprT K [x] H Q := ⟨x, d, rfl, h.1, h.2.1, h.2.2.1, h.2.2.2, q⟩
mutual
theorem dp_same {K : PySem.W.Frag} {H H' : Hp} (s : Same H H') : ∀ {d : PyData} {x : V}, Dp K H x d → Dp K H' x d
  | _, _, .non => .non
  | _, _, .bl b => .bl b
  | _, _, .int i => .int i
  | _, _, .str x => .str x
  | _, _, .lst h k => .lst (s.seq h) (dpAll_same s k)
  | _, _, .tup h k => .tup (tupS h s) (dpAll_same s k)
theorem dpAll_same {K : PySem.W.Frag} {H H' : Hp} (s : Same H H') : ∀ {ds : List PyData} {xs : List V}, DpAll K H xs ds → DpAll K H' xs ds
  | _, _, .nil => .nil
  | _, _, .cons h k => .cons (dp_same s h) (dpAll_same s k)
end
theorem Thg.same {K : PySem.W.Frag} {H H' : Hp} {x : V} {d : PyData} (h : Thg K H x d) (s : Same H H') : Thg K H' x d := by
  refine ⟨?_, h.2⟩
  cases h.1 with
  | pl k n => exact .pl (dp_same s k) n
  | dct e => exact .dct (s _ _ e)
/-- a def without defaults, called by names -/
theorem kb0 {K : PySem.W.Frag} {x qual : Str} {params : Arguments} {body : List Stmt} {scope : Scope} {kws : List (Str × V)} {f : Addr} {fd : FuncData} {ps : List Str} (F : FunD K x qual params body scope [] kws f fd) (n : Nat) (ks : List Str) (g : {α : Type} → List α → List α → List α)
    (rl : ∀ {vs zs : List V} {us ws : List Value}, Vals vs us → Vals zs ws → Vals (g vs zs) (g us ws))
    (h : ∀ (kV doc pm : Value) (an : Option Addr) (cdv ct : Value) (us ws : List Value), us.length = n → ws.length = ks.length → bindArgs (PySem.W.fnOf x qual params body scope .none kV doc pm an cdv ct) ⟨us, ks.zip ws⟩ = pure (ps.zip (g us ws))) :
    KBn K fd ps n ks (fun us ws => g us ws) (fun vs zs => g vs zs) := by
  obtain ⟨_, _, _, kV, doc, pm, an, cdv, ct, _, rfl, _, _, hD, _⟩ := F.ex
  rcases hD with ⟨_, rfl⟩ | ⟨e, _⟩
  · exact ⟨fun s us ws _ l1 l2 => .of_eq (h kV doc pm an cdv ct us ws l1 l2), fun r1 r2 => rl r1 r2⟩
  · exact absurd rfl e
section
variable {σ : L2.St} {H : Hp} {D : Ends} {Q : VK} {tA : TA} {C : Addr} {f : Str} {W : WX} {sp : Sp} {E : L2.St → XK}
theorem r_raiseE (h : tA σ H fun vs H1 => MkE C f vs H1 fun cls d H2 => W cls d σ H2) : tRaise C f W tA D σ H := h
theorem r_callG (h : tA σ H fun vs H1 => sp vs H1 Q (E σ)) : tCallG sp [] E tA σ H Q := by
  unfold tCallG
  simp only [List.append_nil]
  exact h
/-- e.f of a caught error that stands in a slot -/
theorem r_xfV {a C dd : Addr} {f : Str} {fs : List (Str × V)} {v : V} {i : Nat} (e : σ[i]? = some (some (.ref a))) (hd : H dd = some (.xd fs)) (l : fs.lookup f = some v) (q : Q v H) : tXf a (.ref C) (some dd) C f (tVar i) σ H Q := ⟨_, e, rfl, rfl, dd, fs, v, rfl, hd, l, q⟩
end
end My

set_option Elab.async false
set_option linter.all false
set_option maxRecDepth 100000
set_option maxHeartbeats 4000000
namespace Toy
open PySem PySem.Spec PyProof.Rows L2 My
local macro_rules | `(tactic| walk_at "ne") => `(tactic| first
  | with_reducible assumption
  | exact Ne.symm (by with_reducible assumption)
  | (refine' ne_of_none ?hx ?hy; (case hy => with_reducible assumption); (case hx => walk_at "hf"))
  | (refine' Ne.symm (ne_of_none ?hx ?hy); (case hy => with_reducible assumption); (case hx => walk_at "hf")))
local macro_rules | `(tactic| walk_at "hf") => `(tactic| first
  | with_reducible assumption
  | with_reducible exact upd_same
  | ((with_reducible refine' Same.at ?hs ?hr); (case hs => with_reducible assumption); (case hr => walk_at "hf"))
  | ((with_reducible refine' at_or ?hr ?hn); (case hr => walk_at "hf"); (case hn => first | exact Or.inl (by with_reducible assumption) | exact Or.inr (by walk_at "ne")))
  | ((with_reducible refine' But.at ?hb ?hn ?hr); (case hb => with_reducible assumption); (case hr => walk_at "hf"); (case hn => walk_at "ne")))
local macro_rules | `(tactic| walk_at "sq") => `(tactic| first
  | with_reducible assumption
  | exact SqL.of (by walk_at "hf"))
local macro_rules | `(tactic| walk_at "sqo") => `(tactic| first
  | exact Or.inl (by with_reducible assumption)
  | exact Or.inr (by with_reducible assumption)
  | exact Or.inl (SqL.of (by walk_at "hf"))
  | exact Or.inr (SqT.of (by walk_at "hf")))
local macro_rules | `(tactic| walk_at "sqt") => `(tactic| first
  | with_reducible assumption
  | exact SqT.of (by walk_at "hf"))
local macro_rules | `(tactic| walk_at "lg") => `(tactic| first
  | with_reducible assumption
  | exact Bd.lg (by with_reducible assumption) (by decide) (by decide)
  | exact Bd.lg (Bd.of (b := 100) (by omega) (by omega)) (by decide) (by decide))
local macro_rules | `(tactic| walk_at "len") => `(tactic| first
  | with_reducible assumption
  | ((simp only [txt_int, lcat, S_len, List.length_append, List.length_cons, List.length_nil]); omega)
  | (apply of_decide_eq_true; rfl))
local macro_rules | `(tactic| walk_at "side") => `(tactic| first
  | with_reducible assumption
  | omega
  | exact ml (by omega) (by omega)
  | exact mr (by omega) (by omega)
  | exact dv (by omega) (by omega)
  | exact Bd.mulOk (by with_reducible assumption) (by with_reducible assumption) (by decide) (by decide) (by decide)
  | exact Bd.div (by with_reducible assumption) (by omega) (by decide) (by decide)
  | (show (0 : Int) < _; omega)
  | decide
  | exact ni_non
  | exact rfl
  | ((simp only [List.length_cons, List.length_nil, List.length_map]); omega))
local macro_rules | `(tactic| walk_at "st") => `(tactic| first
  | ((with_reducible refine' r_var ?hh ?_); (case hh => rfl))
  | with_reducible refine r_c ?_
  | with_reducible refine r_op ?_
  | with_reducible refine r_i0 ?_
  | with_reducible refine r_cons ?_
  | with_reducible refine r_nil ?_
  | with_reducible refine r_seq ?_
  | with_reducible refine r_asg ?_
  | with_reducible refine r_gname ?_
  | with_reducible refine r_ret ?_
  | with_reducible refine r_ifS ?_
  | with_reducible refine r_test ?_
  | with_reducible refine r_tB ?_
  | with_reducible refine b_bl ?_
  | with_reducible refine i_t ?_
  | with_reducible refine i_f ?_
  | with_reducible refine i_nt ?_
  | with_reducible refine i_nf ?_
  | ((with_reducible refine' i_pos ?hh ?_); (case hh => walk_at "side"))
  | ((with_reducible refine' i_neg ?hh ?_); (case hh => walk_at "side"))
  | ((with_reducible refine' n_pos ?hh ?_); (case hh => walk_at "side"))
  | ((with_reducible refine' n_neg ?hh ?_); (case hh => walk_at "side"))
  | ((with_reducible refine' r_pow ?hh ?he ?_); (case hh => first | exact ⟨by decide, by decide, by decide⟩ | exact ⟨by decide, by decide, by omega⟩); (case he => first | ((simp only [Int.reduceToNat, Int.reducePow]); done) | ((simp only [Int.reduceToNat, Int.reducePow]); rfl) | rfl))
  | ((with_reducible refine' r_i ?hh ?_); (case hh => walk_at "side"))
  | with_reducible refine r_call0 ?_
  | with_reducible refine r_call ?_
  | with_reducible refine r_cb ?_
  | with_reducible refine r_int ?_
  | ((with_reducible refine' r_strI ?hh ?_); (case hh => walk_at "lg"))
  | with_reducible refine r_i1 ?_
  | with_reducible refine r_i2 ?_
  | with_reducible refine r_par ?_
  | with_reducible refine r_two ?_
  | with_reducible refine r_and ?_
  | with_reducible refine r_or ?_
  | with_reducible refine r_not ?_
  | with_reducible refine r_tif ?_
  | with_reducible refine r_andV ?_
  | with_reducible refine r_orV ?_
  | with_reducible refine r_notV ?_
  | with_reducible refine r_un ?_
  | with_reducible refine r_u ?_
  | with_reducible refine r_sb ?_
  | with_reducible refine r_drop ?_
  | with_reducible refine r_next ?_
  | with_reducible refine r_gsub ?_
  | ((with_reducible refine' r_ixL ?hh ?he ?_); (case hh => walk_at "sq"); (case he => rfl))
  | ((with_reducible refine' r_ixT ?hh ?he ?_); (case hh => walk_at "sqt"); (case he => rfl))
  | ((with_reducible refine' r_setL ?hh ?he ?_); (case hh => walk_at "hf"); (case he => rfl))
  | with_reducible refine r_gcons ?_
  | with_reducible refine r_gnil ?_
  | with_reducible refine r_sl ?_
  | with_reducible refine r_nopart ?_
  | with_reducible refine r_part ?_
  | with_reducible refine r_pint ?_
  | ((with_reducible refine' r_lenS ?hh ?_); (case hh => walk_at "sqo"))
  | ((with_reducible refine' r_gtup ?hh ?he ?_); (case hh => walk_at "sqt"); (case he => rfl))
  | ((with_reducible refine' r_slL ?hh ?_); (case hh => walk_at "sq"))
  | ((with_reducible refine' r_len ?hh ?_); (case hh => exact sz (by (try simp only [List.length_map]); (first | omega | decide | exact Nat.le_of_ble_eq_true rfl))))
  | with_reducible refine r_isi_ii ?_
  | with_reducible refine r_isi_ib ?_
  | with_reducible refine r_isi_ss ?_
  | ((with_reducible refine' r_isi_own ?hh ?hi ?hk ?_); (case hh => walk_at "hf"); (case hi => with_reducible assumption); (case hk => with_reducible assumption))
  | with_reducible refine r_lst ?_
  | with_reducible refine r_tup ?_
  | with_reducible refine r_make ?_
  | with_reducible refine r_forR1 ?_
  | with_reducible refine r_forL ?_
  | with_reducible refine r_forT ?_
  | with_reducible refine r_forR2 ?_
  | with_reducible refine r_ref1 ?_
  | with_reducible refine r_brk ?_
  | with_reducible refine r_cont ?_
  | with_reducible refine r_retN ?_
  | with_reducible refine r_rr ?_
  | with_reducible refine r_fmt ?_
  | ((with_reducible refine' r_fmti ?hh ?_); (case hh => walk_at "lg"))
  | with_reducible refine r_js ?_
  | with_reducible refine r_js0 ?_
  | ((with_reducible refine' r_jsp ?hh ?_); (case hh => walk_at "len"))
  | with_reducible refine r_m0 ?_
  | with_reducible refine r_m1 ?_
  | with_reducible refine r_str ?_
  | with_reducible refine r_ss ?_
  | with_reducible refine r_s0 ?_
  | ((with_reducible refine' r_addS ?hh ?_); (case hh => walk_at "len"))
  | ((with_reducible refine' r_slS ?hh ?_); (case hh => walk_at "len"))
  | ((with_reducible refine' r_lenT ?hh ?_); (case hh => walk_at "len"))
  | ((with_reducible refine' r_memI ?hh ?_); (case hh => with_reducible assumption))
  | with_reducible refine r_eqB ?_
  | ((with_reducible refine' r_inT ?hh ?hf ?he ?_); (case hh => walk_at "sqt"); (case hf => rfl); (case he => rfl))
  | ((with_reducible refine' r_inF ?hh ?hf ?he ?_); (case hh => walk_at "sqt"); (case hf => rfl); (case he => rfl))
  | ((with_reducible refine' r_makeL ?hh ?_); (case hh => rfl))
  | with_reducible refine r_tprop ?_
  | with_reducible refine r_tfld ?_
  | ((with_reducible refine' f_prop ?hh ?_); (case hh => walk_at "hf"))
  | ((with_reducible refine' f_fld ?hh ?hc ?hn ?hl ?_); (case hh => walk_at "hf"); (case hc => with_reducible assumption); (case hn => with_reducible assumption); (case hl => rfl))
  | with_reducible refine r_tcm ?_
  | with_reducible refine r_chain ?_
  | with_reducible refine r_bl1 ?_
  | with_reducible refine r_intb ?_
  | with_reducible refine r_yes ?_
  | with_reducible refine r_makeK ?_
  | with_reducible refine r_sfld ?_
  | ((with_reducible refine' f_sfld ?hh ?hc ?hn ?hl ?_); (case hh => walk_at "hf"); (case hc => with_reducible assumption); (case hn => with_reducible assumption); (case hl => exact Nat.le_of_ble_eq_true rfl))
  | with_reducible refine r_lcL ?_
  | with_reducible refine r_lcT ?_
  | with_reducible refine r_lcR1 ?_
  | with_reducible refine r_lcR2 ?_
  | with_reducible refine r_tbm ?_
  | with_reducible refine r_tbm0 ?_
  | ((with_reducible refine' f_tyL ?hh ?_); (case hh => walk_at "hf"))
  | ((with_reducible refine' r_app ?hh ?he ?_); (case hh => walk_at "hf"); (case he => walk_at "side"))
  | with_reducible refine r_tRev ?_
  | with_reducible refine r_forRV ?_
  | with_reducible refine r_raiseE ?_
  | with_reducible refine r_callG ?_
  | ((with_reducible refine' r_xfV ?hh ?hf ?hl ?_); (case hh => rfl); (case hf => walk_at "hf"); (case hl => rfl)))
local macro_rules | `(tactic| walk_at "go") => `(tactic| (repeat walk_at "st"))
local macro_rules | `(tactic| walk_at "in") => `(tactic| dsimp only [cxOf, L2.start, List.map, List.length, List.replicate, Nat.reduceSub, Nat.reduceAdd, List.cons_append, List.nil_append, List.append_nil])
local macro_rules | `(tactic| walk_at "bt") => `(tactic| first
  | with_reducible assumption
  | exact But.rfl
  | exact Same.but (by with_reducible assumption)
  | (refine' But.put ?ha; (case ha => walk_at "bt"))
  | (refine' But.new ?ha ?hn; (case hn => with_reducible assumption); (case ha => walk_at "bt"))
  | (refine' But.trans ?ha ?hb; (case hb => with_reducible assumption); (case ha => walk_at "bt"))
  | (refine' But.trans ?ha (Same.but ?hb); (case hb => with_reducible assumption); (case ha => walk_at "bt")))
local macro_rules | `(tactic| walk_at "sm") => `(tactic| first
  | with_reducible assumption
  | exact Same.refl _
  | (refine' Same.new ?ha ?hn; (case hn => with_reducible assumption); (case ha => walk_at "sm"))
  | (refine' Same.trans ?ha ?hb; (case hb => with_reducible assumption); (case ha => walk_at "sm")))

def top (i : Nat) : Stmt := PySem.Challenge.pw_drawclaims_k27_falling_products.main.body.getD i (.Pass ⟨0, 0, 0, 0⟩)
abbrev s_InvalidNumber__init : Stmt := (inClass (top 2) 0)
theorem sc_InvalidNumber__init : FnScope ["self", "number"] ["self", "number"] (defScope s_InvalidNumber__init) := ⟨rfl, rfl, rfl, by decide +kernel, rfl, by decide +kernel, by decide +kernel⟩
abbrev s_is_integer : Stmt := (top 5)
theorem sc_is_integer : FnScope ["value"] ["value"] (defScope s_is_integer) := ⟨rfl, rfl, rfl, by decide +kernel, rfl, by decide +kernel, by decide +kernel⟩
abbrev s_check_range : Stmt := (top 8)
theorem sc_check_range : FnScope ["number", "least", "most"] ["number", "least", "most"] (defScope s_check_range) := ⟨rfl, rfl, rfl, by decide +kernel, rfl, by decide +kernel, by decide +kernel⟩
abbrev s_product_down : Stmt := (top 10)
theorem sc_product_down : FnScope ["top", "times", "product", "step"] ["top", "times"] (defScope s_product_down) := ⟨rfl, rfl, rfl, by decide +kernel, rfl, by decide +kernel, by decide +kernel⟩
abbrev s_falling : Stmt := (top 11)
theorem sc_falling : FnScope ["top", "times"] ["top", "times"] (defScope s_falling) := ⟨rfl, rfl, rfl, by decide +kernel, rfl, by decide +kernel, by decide +kernel⟩
abbrev s_law_cell : Stmt := (top 13)
theorem sc_law_cell : FnScope ["_law_script", "_law_k", "_law_total", "_law_cell_here"] ["_law_script", "_law_k"] (defScope s_law_cell) := ⟨rfl, rfl, rfl, by decide +kernel, rfl, by decide +kernel, by decide +kernel⟩
abbrev s_law_bag : Stmt := (top 14)
theorem sc_law_bag : FnScope ["_law_cell_here", "_law_great"] ["_law_cell_here"] (defScope s_law_bag) := ⟨rfl, rfl, rfl, by decide +kernel, rfl, by decide +kernel, by decide +kernel⟩
abbrev s_law_take : Stmt := (top 15)
theorem sc_law_take : FnScope ["_law_bag_here", "_law_many", "_law_old", "_law_digit"] ["_law_bag_here", "_law_many"] (defScope s_law_take) := ⟨rfl, rfl, rfl, by decide +kernel, rfl, by decide +kernel, by decide +kernel⟩
abbrev s_law_pick : Stmt := (top 16)
theorem sc_law_pick : FnScope ["_law_bag_here", "_law_things"] ["_law_bag_here", "_law_things"] (defScope s_law_pick) := ⟨rfl, rfl, rfl, by decide +kernel, rfl, by decide +kernel, by decide +kernel⟩
abbrev s_law_int : Stmt := (top 17)
theorem sc_law_int : FnScope ["_law_thing"] ["_law_thing"] (defScope s_law_int) := ⟨rfl, rfl, rfl, by decide +kernel, rfl, by decide +kernel, by decide +kernel⟩
abbrev s_law_refused : Stmt := (top 19)
theorem sc_law_refused : FnScope ["_law_top_here", "_law_often", "_law_told", "e"] ["_law_top_here", "_law_often"] (defScope s_law_refused) := ⟨rfl, rfl, rfl, by decide +kernel, rfl, by decide +kernel, by decide +kernel⟩
abbrev s_law_same : Stmt := (top 20)
theorem sc_law_same : FnScope ["_law_told", "_law_thing"] ["_law_told", "_law_thing"] (defScope s_law_same) := ⟨rfl, rfl, rfl, by decide +kernel, rfl, by decide +kernel, by decide +kernel⟩
abbrev s_law_right : Stmt := (top 21)
theorem sc_law_right : FnScope ["_law_bag_here", "_law_wide", "_law_number", "_law_often", "_law_product", "_law_step", "_law_odd", "_law_high"] ["_law_bag_here"] (defScope s_law_right) := ⟨rfl, rfl, rfl, by decide +kernel, rfl, by decide +kernel, by decide +kernel⟩
abbrev s_law : Stmt := (top 22)
theorem sc_law : FnScope ["_law_script", "_law_k"] ["_law_script"] (defScope s_law) := ⟨rfl, rfl, rfl, by decide +kernel, rfl, by decide +kernel, by decide +kernel⟩
def d_InvalidNumber__init : Hk.DefE := ⟨fun K => He.ma K (He.ga K "InvalidNumber") "__init__", "__init__", "InvalidNumber.__init__", defArgs s_InvalidNumber__init, defBody s_InvalidNumber__init, defScope s_InvalidNumber__init, [], []⟩
def d_is_integer : Hk.DefE := ⟨fun K => He.ga K "is_integer", "is_integer", "is_integer", defArgs s_is_integer, defBody s_is_integer, defScope s_is_integer, [], []⟩
def d_check_range : Hk.DefE := ⟨fun K => He.ga K "check_range", "check_range", "check_range", defArgs s_check_range, defBody s_check_range, defScope s_check_range, [], []⟩
def d_product_down : Hk.DefE := ⟨fun K => He.ga K "product_down", "product_down", "product_down", defArgs s_product_down, defBody s_product_down, defScope s_product_down, [], []⟩
def d_falling : Hk.DefE := ⟨fun K => He.ga K "falling", "falling", "falling", defArgs s_falling, defBody s_falling, defScope s_falling, [], []⟩
def d_law_cell : Hk.DefE := ⟨fun K => He.ga K "_law_cell", "_law_cell", "_law_cell", defArgs s_law_cell, defBody s_law_cell, defScope s_law_cell, [], []⟩
def d_law_bag : Hk.DefE := ⟨fun K => He.ga K "_law_bag", "_law_bag", "_law_bag", defArgs s_law_bag, defBody s_law_bag, defScope s_law_bag, [], []⟩
def d_law_take : Hk.DefE := ⟨fun K => He.ga K "_law_take", "_law_take", "_law_take", defArgs s_law_take, defBody s_law_take, defScope s_law_take, [], []⟩
def d_law_pick : Hk.DefE := ⟨fun K => He.ga K "_law_pick", "_law_pick", "_law_pick", defArgs s_law_pick, defBody s_law_pick, defScope s_law_pick, [], []⟩
def d_law_int : Hk.DefE := ⟨fun K => He.ga K "_law_int", "_law_int", "_law_int", defArgs s_law_int, defBody s_law_int, defScope s_law_int, [], []⟩
def d_law_refused : Hk.DefE := ⟨fun K => He.ga K "_law_refused", "_law_refused", "_law_refused", defArgs s_law_refused, defBody s_law_refused, defScope s_law_refused, [], []⟩
def d_law_same : Hk.DefE := ⟨fun K => He.ga K "_law_same", "_law_same", "_law_same", defArgs s_law_same, defBody s_law_same, defScope s_law_same, [], []⟩
def d_law_right : Hk.DefE := ⟨fun K => He.ga K "_law_right", "_law_right", "_law_right", defArgs s_law_right, defBody s_law_right, defScope s_law_right, [], []⟩
def d_law : Hk.DefE := ⟨fun K => He.ga K "law", "law", "law", defArgs s_law, defBody s_law, defScope s_law, [], []⟩
def fn : List Hk.DefE := [d_InvalidNumber__init, d_is_integer, d_check_range, d_product_down, d_falling, d_law_cell, d_law_bag, d_law_take, d_law_pick, d_law_int, d_law_refused, d_law_same, d_law_right, d_law]
def fa : List He.Fa := [.glo "is_integer", .glo "check_range", .glo "product_down", .glo "falling", .glo "_law_cell", .glo "_law_bag", .glo "_law_take", .glo "_law_pick", .glo "_law_int", .glo "_law_refused", .glo "_law_same", .glo "_law_right", .glo "law", .free "isinstance", .free "int", .free "bool", .free "abs", .free "len", .free "range", .free "max", .free "min", .free "repr", .free "divmod", .free "all", .free "ValueError", .int "LONGEST" 20, .glo "InvalidNumber", .glo "InvalidSize", .glo "InputError"]
def exs (K : PySem.W.Frag) : List Bool := [errB K "InvalidNumber", noB K "InvalidNumber" "number", exmB K "InvalidNumber" "InputError" true, isiB K (.ref (He.ga K "InvalidNumber")) (.ref (He.ga K "InvalidNumber")) true, isiB K (.ref (He.ga K "InvalidNumber")) (.ref (He.ga K "InvalidSize")) false, isiB K (.ref (He.ga K "InvalidNumber")) (.type "ValueError") true]
def ex (K : PySem.W.Frag) : Bool := (exs K).all id
theorem ex_at {K : PySem.W.Frag} (c : Hk.SaysE fa fn ex K) (i : Nat) {b : Bool} (h : (exs K)[i]? = some b) : b = true := List.all_eq_true.mp c.more b (List.mem_of_getElem? h)
/-- what the top has written -/
structure Tx (K : PySem.W.Frag) (mg : Str → Option Value) : Prop where
  d_InvalidNumber__init : ∃ fd, FunD K "__init__" "InvalidNumber.__init__" (defArgs s_InvalidNumber__init) (defBody s_InvalidNumber__init) (defScope s_InvalidNumber__init) (d_InvalidNumber__init.dvs K) (d_InvalidNumber__init.kws K) (d_InvalidNumber__init.adr K) fd
  d_is_integer : ∃ fd, FunD K "is_integer" "is_integer" (defArgs s_is_integer) (defBody s_is_integer) (defScope s_is_integer) (d_is_integer.dvs K) (d_is_integer.kws K) (d_is_integer.adr K) fd
  g_is_integer : mg "is_integer" = some (.ref (He.ga K "is_integer"))
  d_check_range : ∃ fd, FunD K "check_range" "check_range" (defArgs s_check_range) (defBody s_check_range) (defScope s_check_range) (d_check_range.dvs K) (d_check_range.kws K) (d_check_range.adr K) fd
  g_check_range : mg "check_range" = some (.ref (He.ga K "check_range"))
  d_product_down : ∃ fd, FunD K "product_down" "product_down" (defArgs s_product_down) (defBody s_product_down) (defScope s_product_down) (d_product_down.dvs K) (d_product_down.kws K) (d_product_down.adr K) fd
  g_product_down : mg "product_down" = some (.ref (He.ga K "product_down"))
  d_falling : ∃ fd, FunD K "falling" "falling" (defArgs s_falling) (defBody s_falling) (defScope s_falling) (d_falling.dvs K) (d_falling.kws K) (d_falling.adr K) fd
  g_falling : mg "falling" = some (.ref (He.ga K "falling"))
  d_law_cell : ∃ fd, FunD K "_law_cell" "_law_cell" (defArgs s_law_cell) (defBody s_law_cell) (defScope s_law_cell) (d_law_cell.dvs K) (d_law_cell.kws K) (d_law_cell.adr K) fd
  g_law_cell : mg "_law_cell" = some (.ref (He.ga K "_law_cell"))
  d_law_bag : ∃ fd, FunD K "_law_bag" "_law_bag" (defArgs s_law_bag) (defBody s_law_bag) (defScope s_law_bag) (d_law_bag.dvs K) (d_law_bag.kws K) (d_law_bag.adr K) fd
  g_law_bag : mg "_law_bag" = some (.ref (He.ga K "_law_bag"))
  d_law_take : ∃ fd, FunD K "_law_take" "_law_take" (defArgs s_law_take) (defBody s_law_take) (defScope s_law_take) (d_law_take.dvs K) (d_law_take.kws K) (d_law_take.adr K) fd
  g_law_take : mg "_law_take" = some (.ref (He.ga K "_law_take"))
  d_law_pick : ∃ fd, FunD K "_law_pick" "_law_pick" (defArgs s_law_pick) (defBody s_law_pick) (defScope s_law_pick) (d_law_pick.dvs K) (d_law_pick.kws K) (d_law_pick.adr K) fd
  g_law_pick : mg "_law_pick" = some (.ref (He.ga K "_law_pick"))
  d_law_int : ∃ fd, FunD K "_law_int" "_law_int" (defArgs s_law_int) (defBody s_law_int) (defScope s_law_int) (d_law_int.dvs K) (d_law_int.kws K) (d_law_int.adr K) fd
  g_law_int : mg "_law_int" = some (.ref (He.ga K "_law_int"))
  d_law_refused : ∃ fd, FunD K "_law_refused" "_law_refused" (defArgs s_law_refused) (defBody s_law_refused) (defScope s_law_refused) (d_law_refused.dvs K) (d_law_refused.kws K) (d_law_refused.adr K) fd
  g_law_refused : mg "_law_refused" = some (.ref (He.ga K "_law_refused"))
  d_law_same : ∃ fd, FunD K "_law_same" "_law_same" (defArgs s_law_same) (defBody s_law_same) (defScope s_law_same) (d_law_same.dvs K) (d_law_same.kws K) (d_law_same.adr K) fd
  g_law_same : mg "_law_same" = some (.ref (He.ga K "_law_same"))
  d_law_right : ∃ fd, FunD K "_law_right" "_law_right" (defArgs s_law_right) (defBody s_law_right) (defScope s_law_right) (d_law_right.dvs K) (d_law_right.kws K) (d_law_right.adr K) fd
  g_law_right : mg "_law_right" = some (.ref (He.ga K "_law_right"))
  d_law : ∃ fd, FunD K "law" "law" (defArgs s_law) (defBody s_law) (defScope s_law) (d_law.dvs K) (d_law.kws K) (d_law.adr K) fd
  g_law : mg "law" = some (.ref (He.ga K "law"))
  f_isinstance : mg "isinstance" = none
  f_int : mg "int" = none
  f_bool : mg "bool" = none
  f_abs : mg "abs" = none
  f_len : mg "len" = none
  f_range : mg "range" = none
  f_max : mg "max" = none
  f_min : mg "min" = none
  f_repr : mg "repr" = none
  f_divmod : mg "divmod" = none
  f_all : mg "all" = none
  f_ValueError : mg "ValueError" = none
  c_LONGEST : ∃ t, mg "LONGEST" = some (.int 20 t)
  g_InvalidNumber : mg "InvalidNumber" = some (.ref (He.ga K "InvalidNumber"))
  er_InvalidNumber : ErrOk K (He.ga K "InvalidNumber") (He.ma K (He.ga K "InvalidNumber") "__init__")
  no_InvalidNumber : PySem.W.findIn K (.ref (He.ga K "InvalidNumber")) "number" = some none
  g_InvalidSize : mg "InvalidSize" = some (.ref (He.ga K "InvalidSize"))
  g_InputError : mg "InputError" = some (.ref (He.ga K "InputError"))
  xm_InvalidNumber_InputError : PySem.W.exmOne K (.ref (He.ga K "InvalidNumber")) (.ref (He.ga K "InputError")) = some true
  i_NN : PySem.W.kitOne K (.ref (He.ga K "InvalidNumber")) (.ref (He.ga K "InvalidNumber")) = some true
  i_NS : PySem.W.kitOne K (.ref (He.ga K "InvalidNumber")) (.ref (He.ga K "InvalidSize")) = some false
  i_NV : PySem.W.kitOne K (.ref (He.ga K "InvalidNumber")) (.type "ValueError") = some true
theorem tx_ok {K : PySem.W.Frag} {h : Heap} {mg : Str → Option Value} (X : K.In h) (G : h.Ns mainGlobals mg) (c : Hk.SaysE fa fn ex K) : Tx K mg where
  d_InvalidNumber__init := c.def_ 0 rfl
  d_is_integer := c.def_ 1 rfl
  g_is_integer := He.glo_ok X G (c.fact 0 (f := .glo "is_integer") rfl)
  d_check_range := c.def_ 2 rfl
  g_check_range := He.glo_ok X G (c.fact 1 (f := .glo "check_range") rfl)
  d_product_down := c.def_ 3 rfl
  g_product_down := He.glo_ok X G (c.fact 2 (f := .glo "product_down") rfl)
  d_falling := c.def_ 4 rfl
  g_falling := He.glo_ok X G (c.fact 3 (f := .glo "falling") rfl)
  d_law_cell := c.def_ 5 rfl
  g_law_cell := He.glo_ok X G (c.fact 4 (f := .glo "_law_cell") rfl)
  d_law_bag := c.def_ 6 rfl
  g_law_bag := He.glo_ok X G (c.fact 5 (f := .glo "_law_bag") rfl)
  d_law_take := c.def_ 7 rfl
  g_law_take := He.glo_ok X G (c.fact 6 (f := .glo "_law_take") rfl)
  d_law_pick := c.def_ 8 rfl
  g_law_pick := He.glo_ok X G (c.fact 7 (f := .glo "_law_pick") rfl)
  d_law_int := c.def_ 9 rfl
  g_law_int := He.glo_ok X G (c.fact 8 (f := .glo "_law_int") rfl)
  d_law_refused := c.def_ 10 rfl
  g_law_refused := He.glo_ok X G (c.fact 9 (f := .glo "_law_refused") rfl)
  d_law_same := c.def_ 11 rfl
  g_law_same := He.glo_ok X G (c.fact 10 (f := .glo "_law_same") rfl)
  d_law_right := c.def_ 12 rfl
  g_law_right := He.glo_ok X G (c.fact 11 (f := .glo "_law_right") rfl)
  d_law := c.def_ 13 rfl
  g_law := He.glo_ok X G (c.fact 12 (f := .glo "law") rfl)
  f_isinstance := He.free_ok X G (c.fact 13 (f := .free "isinstance") rfl)
  f_int := He.free_ok X G (c.fact 14 (f := .free "int") rfl)
  f_bool := He.free_ok X G (c.fact 15 (f := .free "bool") rfl)
  f_abs := He.free_ok X G (c.fact 16 (f := .free "abs") rfl)
  f_len := He.free_ok X G (c.fact 17 (f := .free "len") rfl)
  f_range := He.free_ok X G (c.fact 18 (f := .free "range") rfl)
  f_max := He.free_ok X G (c.fact 19 (f := .free "max") rfl)
  f_min := He.free_ok X G (c.fact 20 (f := .free "min") rfl)
  f_repr := He.free_ok X G (c.fact 21 (f := .free "repr") rfl)
  f_divmod := He.free_ok X G (c.fact 22 (f := .free "divmod") rfl)
  f_all := He.free_ok X G (c.fact 23 (f := .free "all") rfl)
  f_ValueError := He.free_ok X G (c.fact 24 (f := .free "ValueError") rfl)
  c_LONGEST := He.int_ok X G (c.fact 25 (f := .int "LONGEST" 20) rfl)
  g_InvalidNumber := He.glo_ok X G (c.fact 26 (f := .glo "InvalidNumber") rfl)
  er_InvalidNumber := errB_ok (ex_at c 0 rfl)
  no_InvalidNumber := noB_ok (ex_at c 1 rfl)
  g_InvalidSize := He.glo_ok X G (c.fact 27 (f := .glo "InvalidSize") rfl)
  g_InputError := He.glo_ok X G (c.fact 28 (f := .glo "InputError") rfl)
  xm_InvalidNumber_InputError := exmB_ok (ex_at c 2 rfl)
  i_NN := isiB_ok (ex_at c 3 rfl)
  i_NS := isiB_ok (ex_at c 4 rfl)
  i_NV := isiB_ok (ex_at c 5 rfl)
end Toy

set_option Elab.async false
set_option linter.all false
set_option maxRecDepth 100000
set_option maxHeartbeats 4000000
namespace Toy
open PySem PySem.Spec PyProof.Rows L2 My SX
local macro_rules | `(tactic| walk_at "ne") => `(tactic| first
  | with_reducible assumption
  | exact Ne.symm (by with_reducible assumption)
  | (refine' ne_of_none ?hx ?hy; (case hy => with_reducible assumption); (case hx => walk_at "hf"))
  | (refine' Ne.symm (ne_of_none ?hx ?hy); (case hy => with_reducible assumption); (case hx => walk_at "hf")))
local macro_rules | `(tactic| walk_at "hf") => `(tactic| first
  | with_reducible assumption
  | with_reducible exact upd_same
  | ((with_reducible refine' Same.at ?hs ?hr); (case hs => with_reducible assumption); (case hr => walk_at "hf"))
  | ((with_reducible refine' at_or ?hr ?hn); (case hr => walk_at "hf"); (case hn => first | exact Or.inl (by with_reducible assumption) | exact Or.inr (by walk_at "ne")))
  | ((with_reducible refine' But.at ?hb ?hn ?hr); (case hb => with_reducible assumption); (case hr => walk_at "hf"); (case hn => walk_at "ne")))
local macro_rules | `(tactic| walk_at "sq") => `(tactic| first
  | with_reducible assumption
  | exact SqL.of (by walk_at "hf"))
local macro_rules | `(tactic| walk_at "sqo") => `(tactic| first
  | exact Or.inl (by with_reducible assumption)
  | exact Or.inr (by with_reducible assumption)
  | exact Or.inl (SqL.of (by walk_at "hf"))
  | exact Or.inr (SqT.of (by walk_at "hf")))
local macro_rules | `(tactic| walk_at "sqt") => `(tactic| first
  | with_reducible assumption
  | exact SqT.of (by walk_at "hf"))
local macro_rules | `(tactic| walk_at "lg") => `(tactic| first
  | with_reducible assumption
  | exact Bd.lg (by with_reducible assumption) (by decide) (by decide)
  | exact Bd.lg (Bd.of (b := 100) (by omega) (by omega)) (by decide) (by decide))
local macro_rules | `(tactic| walk_at "len") => `(tactic| first
  | with_reducible assumption
  | ((simp only [txt_int, lcat, S_len, List.length_append, List.length_cons, List.length_nil]); omega)
  | (apply of_decide_eq_true; rfl))
local macro_rules | `(tactic| walk_at "side") => `(tactic| first
  | with_reducible assumption
  | omega
  | exact ml (by omega) (by omega)
  | exact mr (by omega) (by omega)
  | exact dv (by omega) (by omega)
  | exact Bd.mulOk (by with_reducible assumption) (by with_reducible assumption) (by decide) (by decide) (by decide)
  | exact Bd.div (by with_reducible assumption) (by omega) (by decide) (by decide)
  | (show (0 : Int) < _; omega)
  | decide
  | exact ni_non
  | exact rfl
  | ((simp only [List.length_cons, List.length_nil, List.length_map]); omega))
local macro_rules | `(tactic| walk_at "st") => `(tactic| first
  | ((with_reducible refine' r_var ?hh ?_); (case hh => rfl))
  | with_reducible refine r_c ?_
  | with_reducible refine r_op ?_
  | with_reducible refine r_i0 ?_
  | with_reducible refine r_cons ?_
  | with_reducible refine r_nil ?_
  | with_reducible refine r_seq ?_
  | with_reducible refine r_asg ?_
  | with_reducible refine r_gname ?_
  | with_reducible refine r_ret ?_
  | with_reducible refine r_ifS ?_
  | with_reducible refine r_test ?_
  | with_reducible refine r_tB ?_
  | with_reducible refine b_bl ?_
  | with_reducible refine i_t ?_
  | with_reducible refine i_f ?_
  | with_reducible refine i_nt ?_
  | with_reducible refine i_nf ?_
  | ((with_reducible refine' i_pos ?hh ?_); (case hh => walk_at "side"))
  | ((with_reducible refine' i_neg ?hh ?_); (case hh => walk_at "side"))
  | ((with_reducible refine' n_pos ?hh ?_); (case hh => walk_at "side"))
  | ((with_reducible refine' n_neg ?hh ?_); (case hh => walk_at "side"))
  | ((with_reducible refine' r_pow ?hh ?he ?_); (case hh => first | exact ⟨by decide, by decide, by decide⟩ | exact ⟨by decide, by decide, by omega⟩); (case he => first | ((simp only [Int.reduceToNat, Int.reducePow]); done) | ((simp only [Int.reduceToNat, Int.reducePow]); rfl) | rfl))
  | ((with_reducible refine' r_i ?hh ?_); (case hh => walk_at "side"))
  | with_reducible refine r_call0 ?_
  | with_reducible refine r_call ?_
  | with_reducible refine r_cb ?_
  | with_reducible refine r_int ?_
  | ((with_reducible refine' r_strI ?hh ?_); (case hh => walk_at "lg"))
  | with_reducible refine r_i1 ?_
  | with_reducible refine r_i2 ?_
  | with_reducible refine r_par ?_
  | with_reducible refine r_two ?_
  | with_reducible refine r_and ?_
  | with_reducible refine r_or ?_
  | with_reducible refine r_not ?_
  | with_reducible refine r_tif ?_
  | with_reducible refine r_andV ?_
  | with_reducible refine r_orV ?_
  | with_reducible refine r_notV ?_
  | with_reducible refine r_un ?_
  | with_reducible refine r_u ?_
  | with_reducible refine r_sb ?_
  | with_reducible refine r_drop ?_
  | with_reducible refine r_next ?_
  | with_reducible refine r_gsub ?_
  | ((with_reducible refine' r_ixL ?hh ?he ?_); (case hh => walk_at "sq"); (case he => rfl))
  | ((with_reducible refine' r_ixT ?hh ?he ?_); (case hh => walk_at "sqt"); (case he => rfl))
  | ((with_reducible refine' r_setL ?hh ?he ?_); (case hh => walk_at "hf"); (case he => rfl))
  | with_reducible refine r_gcons ?_
  | with_reducible refine r_gnil ?_
  | with_reducible refine r_sl ?_
  | with_reducible refine r_nopart ?_
  | with_reducible refine r_part ?_
  | with_reducible refine r_pint ?_
  | ((with_reducible refine' r_lenS ?hh ?_); (case hh => walk_at "sqo"))
  | ((with_reducible refine' r_gtup ?hh ?he ?_); (case hh => walk_at "sqt"); (case he => rfl))
  | ((with_reducible refine' r_slL ?hh ?_); (case hh => walk_at "sq"))
  | ((with_reducible refine' r_len ?hh ?_); (case hh => exact sz (by (try simp only [List.length_map]); (first | omega | decide | exact Nat.le_of_ble_eq_true rfl))))
  | with_reducible refine r_isi_ii ?_
  | with_reducible refine r_isi_ib ?_
  | with_reducible refine r_isi_ss ?_
  | ((with_reducible refine' r_isi_own ?hh ?hi ?hk ?_); (case hh => walk_at "hf"); (case hi => with_reducible assumption); (case hk => with_reducible assumption))
  | with_reducible refine r_lst ?_
  | with_reducible refine r_tup ?_
  | with_reducible refine r_make ?_
  | with_reducible refine r_forR1 ?_
  | with_reducible refine r_forL ?_
  | with_reducible refine r_forT ?_
  | with_reducible refine r_forR2 ?_
  | with_reducible refine r_ref1 ?_
  | with_reducible refine r_brk ?_
  | with_reducible refine r_cont ?_
  | with_reducible refine r_retN ?_
  | with_reducible refine r_rr ?_
  | with_reducible refine r_fmt ?_
  | ((with_reducible refine' r_fmti ?hh ?_); (case hh => walk_at "lg"))
  | with_reducible refine r_js ?_
  | with_reducible refine r_js0 ?_
  | ((with_reducible refine' r_jsp ?hh ?_); (case hh => walk_at "len"))
  | with_reducible refine r_m0 ?_
  | with_reducible refine r_m1 ?_
  | with_reducible refine r_str ?_
  | with_reducible refine r_ss ?_
  | with_reducible refine r_s0 ?_
  | ((with_reducible refine' r_addS ?hh ?_); (case hh => walk_at "len"))
  | ((with_reducible refine' r_slS ?hh ?_); (case hh => walk_at "len"))
  | ((with_reducible refine' r_lenT ?hh ?_); (case hh => walk_at "len"))
  | ((with_reducible refine' r_memI ?hh ?_); (case hh => with_reducible assumption))
  | with_reducible refine r_eqB ?_
  | ((with_reducible refine' r_inT ?hh ?hf ?he ?_); (case hh => walk_at "sqt"); (case hf => rfl); (case he => rfl))
  | ((with_reducible refine' r_inF ?hh ?hf ?he ?_); (case hh => walk_at "sqt"); (case hf => rfl); (case he => rfl))
  | ((with_reducible refine' r_makeL ?hh ?_); (case hh => rfl))
  | with_reducible refine r_tprop ?_
  | with_reducible refine r_tfld ?_
  | ((with_reducible refine' f_prop ?hh ?_); (case hh => walk_at "hf"))
  | ((with_reducible refine' f_fld ?hh ?hc ?hn ?hl ?_); (case hh => walk_at "hf"); (case hc => with_reducible assumption); (case hn => with_reducible assumption); (case hl => rfl))
  | with_reducible refine r_tcm ?_
  | with_reducible refine r_chain ?_
  | with_reducible refine r_bl1 ?_
  | with_reducible refine r_intb ?_
  | with_reducible refine r_yes ?_
  | with_reducible refine r_makeK ?_
  | with_reducible refine r_sfld ?_
  | ((with_reducible refine' f_sfld ?hh ?hc ?hn ?hl ?_); (case hh => walk_at "hf"); (case hc => with_reducible assumption); (case hn => with_reducible assumption); (case hl => exact Nat.le_of_ble_eq_true rfl))
  | with_reducible refine r_lcL ?_
  | with_reducible refine r_lcT ?_
  | with_reducible refine r_lcR1 ?_
  | with_reducible refine r_lcR2 ?_
  | with_reducible refine r_tbm ?_
  | with_reducible refine r_tbm0 ?_
  | ((with_reducible refine' f_tyL ?hh ?_); (case hh => walk_at "hf"))
  | ((with_reducible refine' r_app ?hh ?he ?_); (case hh => walk_at "hf"); (case he => walk_at "side"))
  | with_reducible refine r_tRev ?_
  | with_reducible refine r_forRV ?_
  | with_reducible refine r_raiseE ?_
  | with_reducible refine r_callG ?_
  | ((with_reducible refine' r_xfV ?hh ?hf ?hl ?_); (case hh => rfl); (case hf => walk_at "hf"); (case hl => rfl)))
local macro_rules | `(tactic| walk_at "go") => `(tactic| (repeat walk_at "st"))
local macro_rules | `(tactic| walk_at "in") => `(tactic| dsimp only [cxOf, L2.start, List.map, List.length, List.replicate, Nat.reduceSub, Nat.reduceAdd, List.cons_append, List.nil_append, List.append_nil])
local macro_rules | `(tactic| walk_at "bt") => `(tactic| first
  | with_reducible assumption
  | exact But.rfl
  | exact Same.but (by with_reducible assumption)
  | (refine' But.put ?ha; (case ha => walk_at "bt"))
  | (refine' But.new ?ha ?hn; (case hn => with_reducible assumption); (case ha => walk_at "bt"))
  | (refine' But.trans ?ha ?hb; (case hb => with_reducible assumption); (case ha => walk_at "bt"))
  | (refine' But.trans ?ha (Same.but ?hb); (case hb => with_reducible assumption); (case ha => walk_at "bt")))
local macro_rules | `(tactic| walk_at "sm") => `(tactic| first
  | with_reducible assumption
  | exact Same.refl _
  | (refine' Same.new ?ha ?hn; (case hn => with_reducible assumption); (case ha => walk_at "sm"))
  | (refine' Same.trans ?ha ?hb; (case hb => with_reducible assumption); (case ha => walk_at "sm")))

section
variable {P : Program} {w : World} {K : PySem.W.Frag} {mg : Str → Option Value} {base : Heap}
theorem in_InvalidNumber (T : Tx K mg) : FnOk P w K mg base CX0 1 (He.ma K (He.ga K "InvalidNumber") "__init__") (Classical.choose T.d_InvalidNumber__init) ["self", "number"] (spErr (He.ga K "InvalidNumber") "number") := by
  have F := Classical.choose_spec T.d_InvalidNumber__init
  have er := T.er_InvalidNumber
  refine fnR F sc_InvalidNumber__init (fun vs H Q E h => ?_) (fun cdv A outer s H vs Q E hr h => ?_)
  · obtain ⟨a, v, rfl, _⟩ := h
    rfl
  obtain ⟨a, v, rfl, ha, k⟩ := h
  refine ⟨_, PSs.nox (pss_one (ps_ost (pv 0) (pv 1))), ?_⟩
  walk_at "in"
  refine ⟨v, rfl, .ref a, rfl, a, _, rfl, er.ox, T.no_InvalidNumber, .inl ⟨ha, fun dx h1 h2 => ?_⟩⟩
  exact k dx h1 h2
theorem inB_InvalidNumber (T : Tx K mg) : Binds K (Classical.choose T.d_InvalidNumber__init) ["self", "number"] [] := (Classical.choose_spec T.d_InvalidNumber__init).bindsN (fun _ _ _ _ _ _ us hl => match us, hl with | [_, _], _ => rfl)
/-- isinstance with a built-in class, of a value of another kind -/
theorem r_isK {H : Hp} {x : V} {T n : String} {b : Bool} {F : VK} (k : Kd H x T) (e : PySem.W.kitOne K (.type T) (.type n) = some b) (q : F (.bl b) H) : rIsi K [x, .ty n] H F := ⟨_, _, _, _, b, rfl, .ty _, k.ty, e, q⟩
theorem kit_int {T : String} (h : T ∈ kinds) : PySem.W.kitOne K (.type T) (.type "int") = some (decide (T = "bool")) := by
  simp only [kinds, List.mem_cons, List.not_mem_nil, or_false] at h
  rcases h with rfl | rfl | rfl | rfl | rfl | rfl <;> exact kit_ty (by decide +kernel)
theorem kit_bool {T : String} (h : T ∈ kinds) : PySem.W.kitOne K (.type T) (.type "bool") = some (decide (T = "bool")) := by
  simp only [kinds, List.mem_cons, List.not_mem_nil, or_false] at h
  rcases h with rfl | rfl | rfl | rfl | rfl | rfl <;> exact kit_ty (by decide +kernel)
def spIsI (K : PySem.W.Frag) : Sp := fun vs H Q _ => ∃ x, vs = [x] ∧ ((∃ i, x = .int i ∧ Q (.bl true) H) ∨ ∃ T, Kd H x T ∧ Q (.bl false) H)
theorem go_isI1 {H : Hp} {i : Int} {Q : VK} {E : XK} (q : Q (.bl true) H) : spIsI K [.int i] H Q E := ⟨_, rfl, .inl ⟨i, rfl, q⟩⟩
theorem go_isI0 {H : Hp} {x : V} {T : String} {Q : VK} {E : XK} (k : Kd H x T) (q : Q (.bl false) H) : spIsI K [x] H Q E := ⟨x, rfl, .inr ⟨T, k, q⟩⟩
theorem ok_is_integer (T : Tx K mg) : Gf P w K mg base CX0 1 (He.ga K "is_integer") ["value"] [] (spIsI K) := by
  obtain ⟨fd, F⟩ := T.d_is_integer
  refine gf0 F (fnG F sc_is_integer (fun vs H Q E h => ?_) (fun cdv A outer s H vs Q E hr h => ?_)) (fun _ _ _ _ _ _ us hl => match us, hl with | [_], _ => rfl)
  · obtain ⟨x, rfl, _⟩ := h
    rfl
  obtain ⟨x, rfl, h⟩ := h
  refine ⟨_, PSs.nox (pss_one (ps_ret (pe_and (pe_callB (call_isiK (K := K) rfl) (by rfl) T.f_isinstance (by decide +kernel) (pa_cons (pv 0) (pa_cons (pe_bltn (v := .ty "int") (by rfl) T.f_int (by decide +kernel) rfl) pa_nil))) (pe_one (pe_not (pe_callB (call_isiK (K := K) rfl) (by rfl) T.f_isinstance (by decide +kernel) (pa_cons (pv 0) (pa_cons (pe_bltn (v := .ty "bool") (by rfl) T.f_bool (by decide +kernel) rfl) pa_nil)))))))), ?_⟩
  walk_at "in"
  rcases h with ⟨i, rfl, k⟩ | ⟨T0, kd, k⟩
  · walk_at "go"
    exact k
  · walk_at "go"
    refine r_isK kd (kit_int kd.mem) ?_
    by_cases hb : T0 = "bool"
    · rw [decide_eq_true hb]
      walk_at "go"
      refine r_isK kd (kit_bool kd.mem) ?_
      rw [decide_eq_true hb]
      walk_at "go"
      exact k
    · rw [decide_eq_false hb]
      walk_at "go"
      exact k
/-- what goes out of a def that tells v as the wrong number -/
def Tells (K : PySem.W.Frag) (v : V) (H : Hp) (E : XK) : Prop := ∀ d H2, H2 d = some (.xd [("number", v)]) → Same H H2 → E (.ref (He.ga K "InvalidNumber")) (some d) H2
theorem Tells.same {v : V} {H H' : Hp} {E : XK} (h : Tells K v H E) (s : Same H H') : Tells K v H' E := fun d H2 e s2 => h d H2 e (s.trans s2)
theorem f_tells {v : V} {H : Hp} {E : XK} (h : Tells K v H E) : MkE (He.ga K "InvalidNumber") "number" [v] H fun cls d H2 => E cls d H2 := f_mkE fun d H2 _ e s => h d H2 e s
/-- a number that is none, or not from lo to hi -/
def BadN (H : Hp) (x : V) (lo hi : Int) : Prop := (∃ T, Kd H x T) ∨ ∃ n : Int, x = .int n ∧ (n < lo ∨ n > hi)
def spRange (K : PySem.W.Frag) : Sp := fun vs H Q E => ∃ (x : V) (lo hi : Int), vs = [x, .int lo, .int hi] ∧ ((∃ n : Int, x = .int n ∧ lo ≤ n ∧ n ≤ hi ∧ Q .non H) ∨ (BadN H x lo hi ∧ Tells K x H E))
theorem ok_check_range (T : Tx K mg) : Gf P w K mg base (L2.CX P w) 3 (He.ga K "check_range") ["number", "least", "most"] [] (spRange K) := by
  obtain ⟨fd, F⟩ := T.d_check_range
  refine gf0 F (fnG F sc_check_range (fun vs H Q E h => ?_) (fun cdv A outer s H vs Q E hr h => ?_)) (fun _ _ _ _ _ _ us hl => match us, hl with | [_, _, _], _ => rfl)
  · obtain ⟨x, lo, hi, rfl, _⟩ := h
    rfl
  obtain ⟨x, lo, hi, rfl, h⟩ := h
  refine ⟨_, (pss_one (ps_if (PW.pt (pw_or (pt_not (pt_val (pe_g (ok_is_integer T) T.g_is_integer hr (by decide) pass0 (pa_cons (pv 0) pa_nil)))) (pw_or (pt_cmpR op_lt (pv 0) (pv 1) (nomark _)) (pw_or1 (pt_cmpR op_gt (pv 0) (pv 2) (nomark _)))))) (pss_one (ps_err rfl (takes_of rfl rfl rfl rfl) T.er_InvalidNumber (in_InvalidNumber T) (inB_InvalidNumber T) (hr.mono (by decide)) T.g_InvalidNumber (pa_cons (pv 0) pa_nil))) pss_nil)), ?_⟩
  walk_at "in"
  rcases h with ⟨n, rfl, n0, n1, k⟩ | ⟨⟨T0, kd⟩ | ⟨n, rfl, hn⟩, k⟩
  · walk_at "go"
    refine go_isI1 ?_
    walk_at "go"
    exact k
  · walk_at "go"
    refine go_isI0 kd ?_
    walk_at "go"
    exact f_tells k
  · walk_at "go"
    refine go_isI1 ?_
    walk_at "go"
    refine i_two (fun h1 => ?_) (fun h1 => ?_)
    · walk_at "go"
      exact f_tells k
    · walk_at "go"
      exact f_tells k
end

end Toy

set_option Elab.async false
set_option linter.all false
set_option maxRecDepth 100000
set_option maxHeartbeats 4000000
namespace Toy
open PySem PySem.Spec PyProof.Rows L2 My SX
local macro_rules | `(tactic| walk_at "ne") => `(tactic| first
  | with_reducible assumption
  | exact Ne.symm (by with_reducible assumption)
  | (refine' ne_of_none ?hx ?hy; (case hy => with_reducible assumption); (case hx => walk_at "hf"))
  | (refine' Ne.symm (ne_of_none ?hx ?hy); (case hy => with_reducible assumption); (case hx => walk_at "hf")))
local macro_rules | `(tactic| walk_at "hf") => `(tactic| first
  | with_reducible assumption
  | with_reducible exact upd_same
  | ((with_reducible refine' Same.at ?hs ?hr); (case hs => with_reducible assumption); (case hr => walk_at "hf"))
  | ((with_reducible refine' at_or ?hr ?hn); (case hr => walk_at "hf"); (case hn => first | exact Or.inl (by with_reducible assumption) | exact Or.inr (by walk_at "ne")))
  | ((with_reducible refine' But.at ?hb ?hn ?hr); (case hb => with_reducible assumption); (case hr => walk_at "hf"); (case hn => walk_at "ne")))
local macro_rules | `(tactic| walk_at "sq") => `(tactic| first
  | with_reducible assumption
  | exact SqL.of (by walk_at "hf"))
local macro_rules | `(tactic| walk_at "sqo") => `(tactic| first
  | exact Or.inl (by with_reducible assumption)
  | exact Or.inr (by with_reducible assumption)
  | exact Or.inl (SqL.of (by walk_at "hf"))
  | exact Or.inr (SqT.of (by walk_at "hf")))
local macro_rules | `(tactic| walk_at "sqt") => `(tactic| first
  | with_reducible assumption
  | exact SqT.of (by walk_at "hf"))
local macro_rules | `(tactic| walk_at "lg") => `(tactic| first
  | with_reducible assumption
  | exact Bd.lg (by with_reducible assumption) (by decide) (by decide)
  | exact Bd.lg (Bd.of (b := 100) (by omega) (by omega)) (by decide) (by decide))
local macro_rules | `(tactic| walk_at "len") => `(tactic| first
  | with_reducible assumption
  | ((simp only [txt_int, lcat, S_len, List.length_append, List.length_cons, List.length_nil]); omega)
  | (apply of_decide_eq_true; rfl))
local macro_rules | `(tactic| walk_at "side") => `(tactic| first
  | with_reducible assumption
  | omega
  | exact ml (by omega) (by omega)
  | exact mr (by omega) (by omega)
  | exact dv (by omega) (by omega)
  | exact Bd.mulOk (by with_reducible assumption) (by with_reducible assumption) (by decide) (by decide) (by decide)
  | exact Bd.div (by with_reducible assumption) (by omega) (by decide) (by decide)
  | (show (0 : Int) < _; omega)
  | decide
  | exact ni_non
  | exact rfl
  | ((simp only [List.length_cons, List.length_nil, List.length_map]); omega))
local macro_rules | `(tactic| walk_at "st") => `(tactic| first
  | ((with_reducible refine' r_var ?hh ?_); (case hh => rfl))
  | with_reducible refine r_c ?_
  | with_reducible refine r_op ?_
  | with_reducible refine r_i0 ?_
  | with_reducible refine r_cons ?_
  | with_reducible refine r_nil ?_
  | with_reducible refine r_seq ?_
  | with_reducible refine r_asg ?_
  | with_reducible refine r_gname ?_
  | with_reducible refine r_ret ?_
  | with_reducible refine r_ifS ?_
  | with_reducible refine r_test ?_
  | with_reducible refine r_tB ?_
  | with_reducible refine b_bl ?_
  | with_reducible refine i_t ?_
  | with_reducible refine i_f ?_
  | with_reducible refine i_nt ?_
  | with_reducible refine i_nf ?_
  | ((with_reducible refine' i_pos ?hh ?_); (case hh => walk_at "side"))
  | ((with_reducible refine' i_neg ?hh ?_); (case hh => walk_at "side"))
  | ((with_reducible refine' n_pos ?hh ?_); (case hh => walk_at "side"))
  | ((with_reducible refine' n_neg ?hh ?_); (case hh => walk_at "side"))
  | ((with_reducible refine' r_pow ?hh ?he ?_); (case hh => first | exact ⟨by decide, by decide, by decide⟩ | exact ⟨by decide, by decide, by omega⟩); (case he => first | ((simp only [Int.reduceToNat, Int.reducePow]); done) | ((simp only [Int.reduceToNat, Int.reducePow]); rfl) | rfl))
  | ((with_reducible refine' r_i ?hh ?_); (case hh => walk_at "side"))
  | with_reducible refine r_call0 ?_
  | with_reducible refine r_call ?_
  | with_reducible refine r_cb ?_
  | with_reducible refine r_int ?_
  | ((with_reducible refine' r_strI ?hh ?_); (case hh => walk_at "lg"))
  | with_reducible refine r_i1 ?_
  | with_reducible refine r_i2 ?_
  | with_reducible refine r_par ?_
  | with_reducible refine r_two ?_
  | with_reducible refine r_and ?_
  | with_reducible refine r_or ?_
  | with_reducible refine r_not ?_
  | with_reducible refine r_tif ?_
  | with_reducible refine r_andV ?_
  | with_reducible refine r_orV ?_
  | with_reducible refine r_notV ?_
  | with_reducible refine r_un ?_
  | with_reducible refine r_u ?_
  | with_reducible refine r_sb ?_
  | with_reducible refine r_drop ?_
  | with_reducible refine r_next ?_
  | with_reducible refine r_gsub ?_
  | ((with_reducible refine' r_ixL ?hh ?he ?_); (case hh => walk_at "sq"); (case he => rfl))
  | ((with_reducible refine' r_ixT ?hh ?he ?_); (case hh => walk_at "sqt"); (case he => rfl))
  | ((with_reducible refine' r_setL ?hh ?he ?_); (case hh => walk_at "hf"); (case he => rfl))
  | with_reducible refine r_gcons ?_
  | with_reducible refine r_gnil ?_
  | with_reducible refine r_sl ?_
  | with_reducible refine r_nopart ?_
  | with_reducible refine r_part ?_
  | with_reducible refine r_pint ?_
  | ((with_reducible refine' r_lenS ?hh ?_); (case hh => walk_at "sqo"))
  | ((with_reducible refine' r_gtup ?hh ?he ?_); (case hh => walk_at "sqt"); (case he => rfl))
  | ((with_reducible refine' r_slL ?hh ?_); (case hh => walk_at "sq"))
  | ((with_reducible refine' r_len ?hh ?_); (case hh => exact sz (by (try simp only [List.length_map]); (first | omega | decide | exact Nat.le_of_ble_eq_true rfl))))
  | with_reducible refine r_isi_ii ?_
  | with_reducible refine r_isi_ib ?_
  | with_reducible refine r_isi_ss ?_
  | ((with_reducible refine' r_isi_own ?hh ?hi ?hk ?_); (case hh => walk_at "hf"); (case hi => with_reducible assumption); (case hk => with_reducible assumption))
  | with_reducible refine r_lst ?_
  | with_reducible refine r_tup ?_
  | with_reducible refine r_make ?_
  | with_reducible refine r_forR1 ?_
  | with_reducible refine r_forL ?_
  | with_reducible refine r_forT ?_
  | with_reducible refine r_forR2 ?_
  | with_reducible refine r_ref1 ?_
  | with_reducible refine r_brk ?_
  | with_reducible refine r_cont ?_
  | with_reducible refine r_retN ?_
  | with_reducible refine r_rr ?_
  | with_reducible refine r_fmt ?_
  | ((with_reducible refine' r_fmti ?hh ?_); (case hh => walk_at "lg"))
  | with_reducible refine r_js ?_
  | with_reducible refine r_js0 ?_
  | ((with_reducible refine' r_jsp ?hh ?_); (case hh => walk_at "len"))
  | with_reducible refine r_m0 ?_
  | with_reducible refine r_m1 ?_
  | with_reducible refine r_str ?_
  | with_reducible refine r_ss ?_
  | with_reducible refine r_s0 ?_
  | ((with_reducible refine' r_addS ?hh ?_); (case hh => walk_at "len"))
  | ((with_reducible refine' r_slS ?hh ?_); (case hh => walk_at "len"))
  | ((with_reducible refine' r_lenT ?hh ?_); (case hh => walk_at "len"))
  | ((with_reducible refine' r_memI ?hh ?_); (case hh => with_reducible assumption))
  | with_reducible refine r_eqB ?_
  | ((with_reducible refine' r_inT ?hh ?hf ?he ?_); (case hh => walk_at "sqt"); (case hf => rfl); (case he => rfl))
  | ((with_reducible refine' r_inF ?hh ?hf ?he ?_); (case hh => walk_at "sqt"); (case hf => rfl); (case he => rfl))
  | ((with_reducible refine' r_makeL ?hh ?_); (case hh => rfl))
  | with_reducible refine r_tprop ?_
  | with_reducible refine r_tfld ?_
  | ((with_reducible refine' f_prop ?hh ?_); (case hh => walk_at "hf"))
  | ((with_reducible refine' f_fld ?hh ?hc ?hn ?hl ?_); (case hh => walk_at "hf"); (case hc => with_reducible assumption); (case hn => with_reducible assumption); (case hl => rfl))
  | with_reducible refine r_tcm ?_
  | with_reducible refine r_chain ?_
  | with_reducible refine r_bl1 ?_
  | with_reducible refine r_intb ?_
  | with_reducible refine r_yes ?_
  | with_reducible refine r_makeK ?_
  | with_reducible refine r_sfld ?_
  | ((with_reducible refine' f_sfld ?hh ?hc ?hn ?hl ?_); (case hh => walk_at "hf"); (case hc => with_reducible assumption); (case hn => with_reducible assumption); (case hl => exact Nat.le_of_ble_eq_true rfl))
  | with_reducible refine r_lcL ?_
  | with_reducible refine r_lcT ?_
  | with_reducible refine r_lcR1 ?_
  | with_reducible refine r_lcR2 ?_
  | with_reducible refine r_tbm ?_
  | with_reducible refine r_tbm0 ?_
  | ((with_reducible refine' f_tyL ?hh ?_); (case hh => walk_at "hf"))
  | ((with_reducible refine' r_app ?hh ?he ?_); (case hh => walk_at "hf"); (case he => walk_at "side"))
  | with_reducible refine r_tRev ?_
  | with_reducible refine r_forRV ?_
  | with_reducible refine r_raiseE ?_
  | with_reducible refine r_callG ?_
  | ((with_reducible refine' r_xfV ?hh ?hf ?hl ?_); (case hh => rfl); (case hf => walk_at "hf"); (case hl => rfl)))
local macro_rules | `(tactic| walk_at "go") => `(tactic| (repeat walk_at "st"))
local macro_rules | `(tactic| walk_at "in") => `(tactic| dsimp only [cxOf, L2.start, List.map, List.length, List.replicate, Nat.reduceSub, Nat.reduceAdd, List.cons_append, List.nil_append, List.append_nil])
local macro_rules | `(tactic| walk_at "bt") => `(tactic| first
  | with_reducible assumption
  | exact But.rfl
  | exact Same.but (by with_reducible assumption)
  | (refine' But.put ?ha; (case ha => walk_at "bt"))
  | (refine' But.new ?ha ?hn; (case hn => with_reducible assumption); (case ha => walk_at "bt"))
  | (refine' But.trans ?ha ?hb; (case hb => with_reducible assumption); (case ha => walk_at "bt"))
  | (refine' But.trans ?ha (Same.but ?hb); (case hb => with_reducible assumption); (case ha => walk_at "bt")))
local macro_rules | `(tactic| walk_at "sm") => `(tactic| first
  | with_reducible assumption
  | exact Same.refl _
  | (refine' Same.new ?ha ?hn; (case hn => with_reducible assumption); (case ha => walk_at "sm"))
  | (refine' Same.trans ?ha ?hb; (case hb => with_reducible assumption); (case ha => walk_at "sm")))

section
variable {P : Program} {w : World} {K : PySem.W.Frag} {mg : Str → Option Value} {base : Heap}
/-- n (n - 1) .. , so many factors -/
def fall (n : Int) : Nat → Int
  | 0 => 1
  | k + 1 => fall n k * (n - k)
theorem fall_bd {n : Int} (h : Bd 140 n) : ∀ k : Nat, k ≤ 21 → Bd (2 + 200 * k) (fall n k)
  | 0, _ => (Bd.of (b := 2) (i := 1) (by decide) (by decide)).mono (by decide)
  | k + 1, hk => by
    have h1 := fall_bd h k (by omega)
    have h2 : Bd 200 (n - k) := (h.sub (show Bd 10 (k : Int) from Bd.of (by omega) (by omega))).mono (by decide)
    exact (h1.mul h2).mono (by omega)
def spDown : Sp := fun vs H Q _ => ∃ (n : Int) (k : Nat), vs = [.int n, .int k] ∧ Bd 140 n ∧ k ≤ 21 ∧ Q (.int (fall n k)) H
theorem ok_product_down (T : Tx K mg) : Gf P w K mg base CX0 1 (He.ga K "product_down") ["top", "times"] [] spDown := by
  obtain ⟨fd, F⟩ := T.d_product_down
  refine gf0 F (fnG F sc_product_down (fun vs H Q E h => ?_) (fun cdv A outer s H vs Q E hr h => ?_)) (fun _ _ _ _ _ _ us hl => match us, hl with | [_, _], _ => rfl)
  · obtain ⟨n, k, rfl, _⟩ := h
    rfl
  obtain ⟨n, m, rfl, bn, hm, k⟩ := h
  refine ⟨_, PSs.nox (pss_cons (ps_set (i := 2) sc_product_down.nd rfl (Or.inl rfl) pe_int) (pss_cons (ps_for PassesOwn.never rfl (pi_range1 rfl T.f_range (pa_cons (pv 1) pa_nil)) (pg_name (i := 3) sc_product_down.nd rfl (Or.inl rfl)) (pss_one (ps_set (i := 2) sc_product_down.nd rfl (Or.inl rfl) (pe_op op_mulA (pv 2) (pe_op op_sub (pv 0) (pv 3)))))) (pss_one (ps_ret (pv 2))))), ?_⟩
  walk_at "in"
  walk_at "go"
  refine ⟨by omega, by omega, lp_range (fun i σ H' => ∃ v, σ = [some (.int n), some (.int m), some (.int (fall n i)), v] ∧ H' = H) ⟨none, rfl, rfl⟩ ?_ ?_⟩
  · rintro i σ H1 hi ⟨v, rfl, rfl⟩
    rw [Int.toNat_natCast] at hi
    have b1 := (fall_bd bn i (by omega)).mono (show 2 + 200 * i ≤ 5000 by omega)
    have b2 : Bd 200 (n - i) := (bn.sub (show Bd 10 (i : Int) from Bd.of (by omega) (by omega))).mono (by decide)
    walk_at "go"
    rw [Int.zero_add]
    walk_at "go"
    exact ⟨_, rfl, rfl⟩
  · rintro σ H1 ⟨v, rfl, rfl⟩
    rw [Int.toNat_natCast]
    walk_at "go"
    exact k
/-- what falling does: the product, or the wrong number -/
def spFall (K : PySem.W.Frag) : Sp := fun vs H Q E => ∃ x y : V, vs = [x, y] ∧ ((∃ (n : Int) (k : Nat), x = .int n ∧ y = .int k ∧ Bd 140 n ∧ k ≤ 20 ∧ Q (.int (fall n k)) H) ∨ (∃ T, Kd H x T ∧ Tells K x H E) ∨ (∃ n : Int, x = .int n ∧ BadN H y 0 20 ∧ Tells K y H E))
theorem fn_falling (T : Tx K mg) : ∃ fd, FunD K "falling" "falling" (defArgs s_falling) (defBody s_falling) (defScope s_falling) (d_falling.dvs K) (d_falling.kws K) (d_falling.adr K) fd ∧ FnG P w K mg base (L2.CX P w) 4 (He.ga K "falling") fd ["top", "times"] (spFall K) := by
  obtain ⟨fd, F⟩ := T.d_falling
  refine ⟨fd, F, fnG F sc_falling (fun vs H Q E h => ?_) (fun cdv A outer s H vs Q E hr h => ?_)⟩
  · obtain ⟨x, y, rfl, _⟩ := h
    rfl
  obtain ⟨x, y, rfl, h⟩ := h
  refine ⟨_, (pss_cons (ps_if (pt_not (pt_val (pe_g (ok_is_integer T) T.g_is_integer hr (by decide) pass0 (pa_cons (pv 0) pa_nil)))) (pss_one (ps_err rfl (takes_of rfl rfl rfl rfl) T.er_InvalidNumber (in_InvalidNumber T) (inB_InvalidNumber T) (hr.mono (by decide)) T.g_InvalidNumber (pa_cons (pv 0) pa_nil))) pss_nil) (pss_cons (ps_expr (pe_g (ok_check_range T) T.g_check_range hr (by decide) (passU (takes_of rfl rfl rfl rfl)) (pa_cons (pv 1) (pa_cons pe_int (pa_cons (pe_gi rfl T.c_LONGEST) pa_nil))))) (pss_one (ps_ret (pe_g (ok_product_down T) T.g_product_down hr (by decide) pass0 (pa_cons (pv 0) (pa_cons (pv 1) pa_nil))))))), ?_⟩
  walk_at "in"
  rcases h with ⟨n, m, rfl, rfl, bn, hm, k⟩ | ⟨T0, kd, k⟩ | ⟨n, rfl, hb, k⟩
  · walk_at "go"
    refine go_isI1 ?_
    walk_at "go"
    refine ⟨_, _, _, rfl, .inl ⟨m, rfl, by omega, by omega, ?_⟩⟩
    walk_at "go"
    exact ⟨n, m, rfl, bn, by omega, k⟩
  · walk_at "go"
    refine go_isI0 kd ?_
    walk_at "go"
    exact f_tells k
  · walk_at "go"
    refine go_isI1 ?_
    walk_at "go"
    exact ⟨_, _, _, rfl, .inr ⟨hb, k⟩⟩
theorem ok_falling (T : Tx K mg) : Gf P w K mg base (L2.CX P w) 4 (He.ga K "falling") ["top", "times"] [] (spFall K) := by
  obtain ⟨fd, F, G⟩ := fn_falling (P := P) (w := w) (base := base) T
  exact gf0 F G (fun _ _ _ _ _ _ us hl => match us, hl with | [_, _], _ => rfl)
theorem ok_falling_k (T : Tx K mg) : Gk P w K mg base (L2.CX P w) 4 (He.ga K "falling") ["top", "times"] 0 ["times", "top"] (fun vs zs => vs ++ (zs.drop 1 ++ zs.take 1)) (spFall K) := by
  obtain ⟨fd, F, G⟩ := fn_falling (P := P) (w := w) (base := base) T
  have b := kb0 F (ps := ["top", "times"]) 0 ["times", "top"] (fun us ws => us ++ (ws.drop 1 ++ ws.take 1)) (fun r1 r3 => r1.append ((r3.drop 1).append (r3.take 1))) (fun _ _ _ _ _ _ us ws l1 l2 => match us, ws, l1, l2 with | [], [_, _], _, _ => rfl)
  exact ⟨⟨fd, _, G, b⟩, F.kp⟩
end

end Toy

set_option Elab.async false
set_option linter.all false
set_option maxRecDepth 100000
set_option maxHeartbeats 4000000
namespace Toy
open PySem PySem.Spec PyProof.Rows L2 My SX
local macro_rules | `(tactic| walk_at "ne") => `(tactic| first
  | with_reducible assumption
  | exact Ne.symm (by with_reducible assumption)
  | (refine' ne_of_none ?hx ?hy; (case hy => with_reducible assumption); (case hx => walk_at "hf"))
  | (refine' Ne.symm (ne_of_none ?hx ?hy); (case hy => with_reducible assumption); (case hx => walk_at "hf")))
local macro_rules | `(tactic| walk_at "hf") => `(tactic| first
  | with_reducible assumption
  | with_reducible exact upd_same
  | ((with_reducible refine' Same.at ?hs ?hr); (case hs => with_reducible assumption); (case hr => walk_at "hf"))
  | ((with_reducible refine' at_or ?hr ?hn); (case hr => walk_at "hf"); (case hn => first | exact Or.inl (by with_reducible assumption) | exact Or.inr (by walk_at "ne")))
  | ((with_reducible refine' But.at ?hb ?hn ?hr); (case hb => with_reducible assumption); (case hr => walk_at "hf"); (case hn => walk_at "ne")))
local macro_rules | `(tactic| walk_at "sq") => `(tactic| first
  | with_reducible assumption
  | exact SqL.of (by walk_at "hf"))
local macro_rules | `(tactic| walk_at "sqo") => `(tactic| first
  | exact Or.inl (by with_reducible assumption)
  | exact Or.inr (by with_reducible assumption)
  | exact Or.inl (SqL.of (by walk_at "hf"))
  | exact Or.inr (SqT.of (by walk_at "hf")))
local macro_rules | `(tactic| walk_at "sqt") => `(tactic| first
  | with_reducible assumption
  | exact SqT.of (by walk_at "hf"))
local macro_rules | `(tactic| walk_at "lg") => `(tactic| first
  | with_reducible assumption
  | exact Bd.lg (by with_reducible assumption) (by decide) (by decide)
  | exact Bd.lg (Bd.of (b := 100) (by omega) (by omega)) (by decide) (by decide))
local macro_rules | `(tactic| walk_at "len") => `(tactic| first
  | with_reducible assumption
  | ((simp only [txt_int, lcat, S_len, List.length_append, List.length_cons, List.length_nil]); omega)
  | (apply of_decide_eq_true; rfl))
local macro_rules | `(tactic| walk_at "side") => `(tactic| first
  | with_reducible assumption
  | omega
  | exact ml (by omega) (by omega)
  | exact mr (by omega) (by omega)
  | exact dv (by omega) (by omega)
  | exact Bd.mulOk (by with_reducible assumption) (by with_reducible assumption) (by decide) (by decide) (by decide)
  | exact Bd.div (by with_reducible assumption) (by omega) (by decide) (by decide)
  | (show (0 : Int) < _; omega)
  | decide
  | exact ni_non
  | exact rfl
  | ((simp only [List.length_cons, List.length_nil, List.length_map]); omega))
local macro_rules | `(tactic| walk_at "st") => `(tactic| first
  | ((with_reducible refine' r_var ?hh ?_); (case hh => rfl))
  | with_reducible refine r_c ?_
  | with_reducible refine r_op ?_
  | with_reducible refine r_i0 ?_
  | with_reducible refine r_cons ?_
  | with_reducible refine r_nil ?_
  | with_reducible refine r_seq ?_
  | with_reducible refine r_asg ?_
  | with_reducible refine r_gname ?_
  | with_reducible refine r_ret ?_
  | with_reducible refine r_ifS ?_
  | with_reducible refine r_test ?_
  | with_reducible refine r_tB ?_
  | with_reducible refine b_bl ?_
  | with_reducible refine i_t ?_
  | with_reducible refine i_f ?_
  | with_reducible refine i_nt ?_
  | with_reducible refine i_nf ?_
  | ((with_reducible refine' i_pos ?hh ?_); (case hh => walk_at "side"))
  | ((with_reducible refine' i_neg ?hh ?_); (case hh => walk_at "side"))
  | ((with_reducible refine' n_pos ?hh ?_); (case hh => walk_at "side"))
  | ((with_reducible refine' n_neg ?hh ?_); (case hh => walk_at "side"))
  | ((with_reducible refine' r_pow ?hh ?he ?_); (case hh => first | exact ⟨by decide, by decide, by decide⟩ | exact ⟨by decide, by decide, by omega⟩); (case he => first | ((simp only [Int.reduceToNat, Int.reducePow]); done) | ((simp only [Int.reduceToNat, Int.reducePow]); rfl) | rfl))
  | ((with_reducible refine' r_i ?hh ?_); (case hh => walk_at "side"))
  | with_reducible refine r_call0 ?_
  | with_reducible refine r_call ?_
  | with_reducible refine r_cb ?_
  | with_reducible refine r_int ?_
  | ((with_reducible refine' r_strI ?hh ?_); (case hh => walk_at "lg"))
  | with_reducible refine r_i1 ?_
  | with_reducible refine r_i2 ?_
  | with_reducible refine r_par ?_
  | with_reducible refine r_two ?_
  | with_reducible refine r_and ?_
  | with_reducible refine r_or ?_
  | with_reducible refine r_not ?_
  | with_reducible refine r_tif ?_
  | with_reducible refine r_andV ?_
  | with_reducible refine r_orV ?_
  | with_reducible refine r_notV ?_
  | with_reducible refine r_un ?_
  | with_reducible refine r_u ?_
  | with_reducible refine r_sb ?_
  | with_reducible refine r_drop ?_
  | with_reducible refine r_next ?_
  | with_reducible refine r_gsub ?_
  | ((with_reducible refine' r_ixL ?hh ?he ?_); (case hh => walk_at "sq"); (case he => rfl))
  | ((with_reducible refine' r_ixT ?hh ?he ?_); (case hh => walk_at "sqt"); (case he => rfl))
  | ((with_reducible refine' r_setL ?hh ?he ?_); (case hh => walk_at "hf"); (case he => rfl))
  | with_reducible refine r_gcons ?_
  | with_reducible refine r_gnil ?_
  | with_reducible refine r_sl ?_
  | with_reducible refine r_nopart ?_
  | with_reducible refine r_part ?_
  | with_reducible refine r_pint ?_
  | ((with_reducible refine' r_lenS ?hh ?_); (case hh => walk_at "sqo"))
  | ((with_reducible refine' r_gtup ?hh ?he ?_); (case hh => walk_at "sqt"); (case he => rfl))
  | ((with_reducible refine' r_slL ?hh ?_); (case hh => walk_at "sq"))
  | ((with_reducible refine' r_len ?hh ?_); (case hh => exact sz (by (try simp only [List.length_map]); (first | omega | decide | exact Nat.le_of_ble_eq_true rfl))))
  | with_reducible refine r_isi_ii ?_
  | with_reducible refine r_isi_ib ?_
  | with_reducible refine r_isi_ss ?_
  | ((with_reducible refine' r_isi_own ?hh ?hi ?hk ?_); (case hh => walk_at "hf"); (case hi => with_reducible assumption); (case hk => with_reducible assumption))
  | with_reducible refine r_lst ?_
  | with_reducible refine r_tup ?_
  | with_reducible refine r_make ?_
  | with_reducible refine r_forR1 ?_
  | with_reducible refine r_forL ?_
  | with_reducible refine r_forT ?_
  | with_reducible refine r_forR2 ?_
  | with_reducible refine r_ref1 ?_
  | with_reducible refine r_brk ?_
  | with_reducible refine r_cont ?_
  | with_reducible refine r_retN ?_
  | with_reducible refine r_rr ?_
  | with_reducible refine r_fmt ?_
  | ((with_reducible refine' r_fmti ?hh ?_); (case hh => walk_at "lg"))
  | with_reducible refine r_js ?_
  | with_reducible refine r_js0 ?_
  | ((with_reducible refine' r_jsp ?hh ?_); (case hh => walk_at "len"))
  | with_reducible refine r_m0 ?_
  | with_reducible refine r_m1 ?_
  | with_reducible refine r_str ?_
  | with_reducible refine r_ss ?_
  | with_reducible refine r_s0 ?_
  | ((with_reducible refine' r_addS ?hh ?_); (case hh => walk_at "len"))
  | ((with_reducible refine' r_slS ?hh ?_); (case hh => walk_at "len"))
  | ((with_reducible refine' r_lenT ?hh ?_); (case hh => walk_at "len"))
  | ((with_reducible refine' r_memI ?hh ?_); (case hh => with_reducible assumption))
  | with_reducible refine r_eqB ?_
  | ((with_reducible refine' r_inT ?hh ?hf ?he ?_); (case hh => walk_at "sqt"); (case hf => rfl); (case he => rfl))
  | ((with_reducible refine' r_inF ?hh ?hf ?he ?_); (case hh => walk_at "sqt"); (case hf => rfl); (case he => rfl))
  | ((with_reducible refine' r_makeL ?hh ?_); (case hh => rfl))
  | with_reducible refine r_tprop ?_
  | with_reducible refine r_tfld ?_
  | ((with_reducible refine' f_prop ?hh ?_); (case hh => walk_at "hf"))
  | ((with_reducible refine' f_fld ?hh ?hc ?hn ?hl ?_); (case hh => walk_at "hf"); (case hc => with_reducible assumption); (case hn => with_reducible assumption); (case hl => rfl))
  | with_reducible refine r_tcm ?_
  | with_reducible refine r_chain ?_
  | with_reducible refine r_bl1 ?_
  | with_reducible refine r_intb ?_
  | with_reducible refine r_yes ?_
  | with_reducible refine r_makeK ?_
  | with_reducible refine r_sfld ?_
  | ((with_reducible refine' f_sfld ?hh ?hc ?hn ?hl ?_); (case hh => walk_at "hf"); (case hc => with_reducible assumption); (case hn => with_reducible assumption); (case hl => exact Nat.le_of_ble_eq_true rfl))
  | with_reducible refine r_lcL ?_
  | with_reducible refine r_lcT ?_
  | with_reducible refine r_lcR1 ?_
  | with_reducible refine r_lcR2 ?_
  | with_reducible refine r_tbm ?_
  | with_reducible refine r_tbm0 ?_
  | ((with_reducible refine' f_tyL ?hh ?_); (case hh => walk_at "hf"))
  | ((with_reducible refine' r_app ?hh ?he ?_); (case hh => walk_at "hf"); (case he => walk_at "side"))
  | with_reducible refine r_tRev ?_
  | with_reducible refine r_forRV ?_
  | with_reducible refine r_raiseE ?_
  | with_reducible refine r_callG ?_
  | ((with_reducible refine' r_xfV ?hh ?hf ?hl ?_); (case hh => rfl); (case hf => walk_at "hf"); (case hl => rfl)))
local macro_rules | `(tactic| walk_at "go") => `(tactic| (repeat walk_at "st"))
local macro_rules | `(tactic| walk_at "in") => `(tactic| dsimp only [cxOf, L2.start, List.map, List.length, List.replicate, Nat.reduceSub, Nat.reduceAdd, List.cons_append, List.nil_append, List.append_nil])
local macro_rules | `(tactic| walk_at "bt") => `(tactic| first
  | with_reducible assumption
  | exact But.rfl
  | exact Same.but (by with_reducible assumption)
  | (refine' But.put ?ha; (case ha => walk_at "bt"))
  | (refine' But.new ?ha ?hn; (case hn => with_reducible assumption); (case ha => walk_at "bt"))
  | (refine' But.trans ?ha ?hb; (case hb => with_reducible assumption); (case ha => walk_at "bt"))
  | (refine' But.trans ?ha (Same.but ?hb); (case hb => with_reducible assumption); (case ha => walk_at "bt")))
local macro_rules | `(tactic| walk_at "sm") => `(tactic| first
  | with_reducible assumption
  | exact Same.refl _
  | (refine' Same.new ?ha ?hn; (case hn => with_reducible assumption); (case ha => walk_at "sm"))
  | (refine' Same.trans ?ha ?hb; (case hb => with_reducible assumption); (case ha => walk_at "sm")))

/-! ### the draws: a bag at p -/
def Bag (H : Hp) (p : Addr) : Prop := ∃ a b c : Int, H p = some (.lst [.int a, .int b, .int c]) ∧ 0 ≤ a ∧ a < 2147483629 ∧ 0 ≤ b
theorem Bag.same {H H' : Hp} {p : Addr} (h : Bag H p) (s : Same H H') : Bag H' p := let ⟨a, b, c, e, q⟩ := h; ⟨a, b, c, s _ _ e, q⟩
theorem Bag.new {H : Hp} {p l : Addr} {o : HO} (h : Bag H p) (n : H l = none) : Bag (upd H l o) p := h.same (My.Same.new (Same.refl H) n)
theorem Bag.ne {H : Hp} {p l : Addr} (h : Bag H p) (n : H l = none) : l ≠ p := let ⟨_, _, _, e, _⟩ := h; (ne_of_none e n).symm
def spTake : Sp := fun vs H Q _ => ∃ p m, vs = [.ref p, .int m] ∧ Bag H p ∧ 0 < m ∧ m < 2 ^ 200 ∧ ∀ d H', 0 ≤ d → d < m → Bag H' p → But p H H' → Q (.int d) H'
theorem go_take {p : Addr} {m : Int} {H : Hp} {Q : VK} {E : XK} (hp : Bag H p) (h0 : 0 < m) (h1 : m < 2 ^ 200) (k : ∀ d H', 0 ≤ d → d < m → Bag H' p → But p H H' → Q (.int d) H') : spTake [.ref p, .int m] H Q E := ⟨p, m, rfl, hp, h0, h1, k⟩
section
variable {P : Program} {w : World} {K : PySem.W.Frag} {mg : Str → Option Value} {base : Heap}
theorem dv2 {i j : Int} (h1 : 0 < j) (h2 : j < 2 ^ 200) : CDivW i j := wide_div (b := 200) h1 (by omega) (by decide) (by decide)
theorem ok_law_take (T : Tx K mg) : Gf P w K mg base CX0 1 (He.ga K "_law_take") ["_law_bag_here", "_law_many"] [] spTake := by
  obtain ⟨fd, F⟩ := T.d_law_take
  refine gf0 F (fnG F sc_law_take (fun vs H Q E h => ?_) (fun cdv A outer s H vs Q E hr h => ?_)) (fun _ _ _ _ _ _ us hl => match us, hl with | [_, _], _ => rfl)
  · obtain ⟨p, m, rfl, _⟩ := h
    rfl
  obtain ⟨p, m, rfl, ⟨a, b, c, hp, a0, a1, b0⟩, m0, m1, k⟩ := h
  refine ⟨_, PSs.nox (pss_cons (ps_asg (pe_op op_add (pe_ix (ix_listK (K := K) rfl) (pv 0) pe_int (fun _ _ => rfl)) pe_int) (pg_sub (pv 0) pe_int set_list)) (pss_cons (ps_set (i := 2) sc_law_take.nd rfl (Or.inl rfl) (pe_callTy call_int1 (by rfl) T.f_int (by decide +kernel) (pa_cons (pe_ix (ix_listK (K := K) rfl) (pv 0) pe_int (fun _ _ => rfl)) pa_nil))) (pss_cons (ps_asg (pe_op op_mod (pe_op op_add (pe_op op_add (pe_op op_mulA (pv 2) (pe_op op_add (pe_op op_mod (pv 2) pe_int) pe_int)) (pe_op op_mulA pe_int (pe_ix (ix_listK (K := K) rfl) (pv 0) pe_int (fun _ _ => rfl)))) pe_int) pe_int) (pg_sub (pv 0) pe_int set_list)) (pss_cons (ps_if (pt_cmpR op_gt (pe_ix (ix_listK (K := K) rfl) (pv 0) pe_int (fun _ _ => rfl)) pe_int (nomark _)) (pss_cons (ps_asg (pe_callB call_divmodA (by rfl) T.f_divmod (by decide +kernel) (pa_cons (pe_callTy call_int1 (by rfl) T.f_int (by decide +kernel) (pa_cons (pe_ix (ix_listK (K := K) rfl) (pv 0) pe_int (fun _ _ => rfl)) pa_nil)) (pa_cons (pv 1) pa_nil))) (pg_tupK (K := K) (n := 2) rfl rfl (pgs_cons (pg_sub (pv 0) pe_int set_list) (pgs_cons (pg_name (i := 3) sc_law_take.nd rfl (Or.inl rfl)) pgs_nil)))) (pss_one (ps_ret (pv 3)))) pss_nil) (pss_one (ps_ret (pe_op op_mod (pe_op op_fdivW (pe_callTy call_int1 (by rfl) T.f_int (by decide +kernel) (pa_cons (pe_ix (ix_listK (K := K) rfl) (pv 0) pe_int (fun _ _ => rfl)) pa_nil)) pe_int) (pv 1)))))))), ?_⟩
  walk_at "in"
  walk_at "go"
  refine i_two (fun hb => ?_) (fun hb => ?_)
  · walk_at "go"
    refine ⟨dv2 m0 m1, fun t ht => ?_⟩
    have hpt : p ≠ t := ne_of_none upd_same ht
    walk_at "go"
    refine k _ _ (Int.emod_nonneg _ (by omega)) (Int.emod_lt_of_pos _ m0) ⟨_, _, _, upd_same, Int.emod_nonneg _ (by decide), Int.emod_lt_of_pos _ (by decide), Int.ediv_nonneg b0 (by omega)⟩ ?_
    exact My.But.put (My.But.new (My.But.put (My.But.put But.rfl)) ht)
  · walk_at "go"
    exact k _ _ (Int.emod_nonneg _ (by omega)) (Int.emod_lt_of_pos _ m0) ⟨_, _, _, upd_same, Int.emod_nonneg _ (by decide), Int.emod_lt_of_pos _ (by decide), b0⟩ (My.But.put (My.But.put But.rfl))
def spCell (K : PySem.W.Frag) : Sp := fun vs H Q _ => ∃ (a : Addr) (ns : List Int) (i : Int), vs = [.ref a, .int i] ∧ SqL K H a (ns.map V.int) ∧ 0 ≤ i ∧ i < 1000 ∧ ∀ c H', Same H H' → Q (.int c) H'
theorem ok_law_cell (T : Tx K mg) : Gf P w K mg base CX0 1 (He.ga K "_law_cell") ["_law_script", "_law_k"] [] (spCell K) := by
  obtain ⟨fd, F⟩ := T.d_law_cell
  refine gf0 F (fnG F sc_law_cell (fun vs H Q E h => ?_) (fun cdv A outer s H vs Q E hr h => ?_)) (fun _ _ _ _ _ _ us hl => match us, hl with | [_, _], _ => rfl)
  · obtain ⟨a, ns, i, rfl, _⟩ := h
    rfl
  obtain ⟨a, ns, i, rfl, hS, h0, h9, k⟩ := h
  refine ⟨_, PSs.nox (pss_cons (ps_if (pt_cmpR op_lt (pv 1) (pe_callB (call_lenK (K := K) rfl) (by rfl) T.f_len (by decide +kernel) (pa_cons (pv 0) pa_nil)) (nomark _)) (pss_one (ps_ret (pe_callTy call_int1 (by rfl) T.f_int (by decide +kernel) (pa_cons (pe_ix (ix_listK (K := K) rfl) (pv 0) (pv 1) (fun _ _ => rfl)) pa_nil)))) pss_nil) (pss_cons (ps_set (i := 2) sc_law_cell.nd rfl (Or.inl rfl) (pe_op op_mod (pe_op op_mulA pe_int (pe_op op_add (pe_op op_add (pe_op op_mulA (pv 1) (pv 1)) (pe_op op_mulA pe_int (pv 1))) pe_int)) pe_int)) (pss_cons (ps_for PassesOwn.never rfl (pi_listK (K := K) rfl (pe_slice (sl_listK (K := K) rfl) (pv 0) po_none (po_some pe_int))) (pg_name (i := 3) sc_law_cell.nd rfl (Or.inl rfl)) (pss_one (ps_set (i := 2) sc_law_cell.nd rfl (Or.inl rfl) (pe_op op_mod (pe_op op_add (pe_op op_mulA (pv 2) pe_int) (pe_callTy call_int1 (by rfl) T.f_int (by decide +kernel) (pa_cons (pv 3) pa_nil))) pe_int)))) (pss_one (ps_ret (pv 2)))))), ?_⟩
  walk_at "in"
  walk_at "go"
  refine i_two (fun h1 => ?_) (fun h1 => ?_)
  · rw [List.length_map] at h1
    walk_at "go"
    refine r_ixL hS (atI_map h0 h1) ?_
    walk_at "go"
    exact k _ _ (Same.refl H)
  · walk_at "go"
    intro r hr0
    walk_at "go"
    obtain ⟨ms, e, hms⟩ := cut_map ns none (some 4)
    have hR : (upd H r (.lst (cutV (ns.map V.int) none (some 4)))) r = some (.lst (ms.map V.int)) := by rw [e]; exact upd_same
    refine ⟨⟨_, SqL.of hR⟩, lp_list (xs := ms.map V.int) (fun i2 σ H' => ∃ (c : Int) (v : Option V), σ = [some (.ref a), some (.int i), some (.int c), v] ∧ Same H H' ∧ H' r = some (.lst (ms.map V.int))) ⟨_, none, rfl, My.Same.new (Same.refl H) hr0, hR⟩ (fun i2 σ H' _ ⟨_, _, _, _, z⟩ => SqL.of z) ?_ ?_⟩
    · rintro i2 y σ H1 hi ⟨c, v, rfl, s1, hR1⟩
      obtain ⟨z, rfl, _⟩ := get_map hi
      walk_at "go"
      exact ⟨_, _, rfl, s1, hR1⟩
    · rintro σ H1 ⟨c, v, rfl, s1, hR1⟩
      walk_at "go"
      exact k _ _ s1
def spBag : Sp := fun vs H Q _ => ∃ c : Int, vs = [.int c] ∧ ∀ p H', H p = none → Bag H' p → Same H H' → Q (.ref p) H'
theorem ok_law_bag (T : Tx K mg) : Gf P w K mg base CX0 1 (He.ga K "_law_bag") ["_law_cell_here"] [] spBag := by
  obtain ⟨fd, F⟩ := T.d_law_bag
  refine gf0 F (fnG F sc_law_bag (fun vs H Q E h => ?_) (fun cdv A outer s H vs Q E hr h => ?_)) (fun _ _ _ _ _ _ us hl => match us, hl with | [_], _ => rfl)
  · obtain ⟨c, rfl, _⟩ := h
    rfl
  obtain ⟨c, rfl, k⟩ := h
  have ab : 0 ≤ (if c < 0 then -c else c) := by split <;> omega
  have m0 := Int.emod_nonneg c (show (2147483629 : Int) ≠ 0 by decide)
  have m1 := Int.emod_lt_of_pos c (show (0 : Int) < 2147483629 by decide)
  refine ⟨_, PSs.nox (pss_cons (ps_set (i := 1) sc_law_bag.nd rfl (Or.inl rfl) (pe_ifExp (PW.pt (pw_or (pt_cmpR op_lt (pv 0) pe_int (nomark _)) (pw_or1 (pt_cmpR op_ge (pv 0) (pe_op op_pow pe_int pe_int) (nomark _))))) (pe_callB call_abs (by rfl) T.f_abs (by decide +kernel) (pa_cons (pe_callTy call_int1 (by rfl) T.f_int (by decide +kernel) (pa_cons (pv 0) pa_nil)) pa_nil)) pe_int)) (pss_one (ps_ret (pe_lst (pa_cons (pe_op op_mod (pe_callTy call_int1 (by rfl) T.f_int (by decide +kernel) (pa_cons (pv 0) pa_nil)) pe_int) (pa_cons (pv 1) (pa_cons pe_int pa_nil))))))), ?_⟩
  walk_at "in"
  walk_at "go"
  refine i_two (fun h1 => ?_) (fun h1 => ?_)
  · walk_at "go"
    exact fun p hp => k p _ hp ⟨_, _, _, upd_same, m0, m1, ab⟩ (My.Same.new (Same.refl H) hp)
  · walk_at "go"
    refine i_two (fun h2 => ?_) (fun h2 => ?_)
    · walk_at "go"
      exact fun p hp => k p _ hp ⟨_, _, _, upd_same, m0, m1, ab⟩ (My.Same.new (Same.refl H) hp)
    · walk_at "go"
      exact fun p hp => k p _ hp ⟨_, _, _, upd_same, m0, m1, by omega⟩ (My.Same.new (Same.refl H) hp)
def spPick : Sp := fun vs H Q _ => ∃ (p a : Addr) (xs : List V), vs = [.ref p, .ref a] ∧ Bag H p ∧ H a = some (.lst xs) ∧ a ≠ p ∧ 1 ≤ xs.length ∧ xs.length ≤ 100 ∧ ∀ v H', v ∈ xs → Bag H' p → But p H H' → Q v H'
theorem go_pick {p a : Addr} {xs : List V} {H : Hp} {Q : VK} {E : XK} (hp : Bag H p) (ha : H a = some (.lst xs)) (n : a ≠ p) (l1 : 1 ≤ xs.length) (l2 : xs.length ≤ 100) (k : ∀ v H', v ∈ xs → Bag H' p → But p H H' → Q v H') : spPick [.ref p, .ref a] H Q E := ⟨p, a, xs, rfl, hp, ha, n, l1, l2, k⟩
theorem ok_law_pick (T : Tx K mg) : Gf P w K mg base CX0 2 (He.ga K "_law_pick") ["_law_bag_here", "_law_things"] [] spPick := by
  obtain ⟨fd, F⟩ := T.d_law_pick
  refine gf0 F (fnG F sc_law_pick (fun vs H Q E h => ?_) (fun cdv A outer s H vs Q E hr h => ?_)) (fun _ _ _ _ _ _ us hl => match us, hl with | [_, _], _ => rfl)
  · obtain ⟨p, a, xs, rfl, _⟩ := h
    rfl
  obtain ⟨p, a, xs, rfl, hp, ha, n, l1, l2, k⟩ := h
  refine ⟨_, PSs.nox (pss_one (ps_ret (pe_ix (ix_listK (K := K) rfl) (pv 1) (pe_g (ok_law_take T) T.g_law_take hr (by decide) pass0 (pa_cons (pv 0) (pa_cons (pe_callB (call_lenK (K := K) rfl) (by rfl) T.f_len (by decide +kernel) (pa_cons (pv 1) pa_nil)) pa_nil))) (fun _ _ => rfl)))), ?_⟩
  have hS := SqL.of (K := K) ha
  walk_at "in"
  walk_at "go"
  refine go_take hp (by omega) (by omega) fun d H1 d0 d1 hp1 b1 => ?_
  obtain ⟨v, e, m⟩ := pickV d0 d1
  refine r_ixL (SqL.of (b1.at n ha)) e ?_
  exact k v H1 m hp1 b1
end

end Toy

set_option Elab.async false
set_option linter.all false
set_option maxRecDepth 100000
set_option maxHeartbeats 4000000
namespace Toy
open PySem PySem.Spec PyProof.Rows L2 My SX
local macro_rules | `(tactic| walk_at "ne") => `(tactic| first
  | with_reducible assumption
  | exact Ne.symm (by with_reducible assumption)
  | (refine' ne_of_none ?hx ?hy; (case hy => with_reducible assumption); (case hx => walk_at "hf"))
  | (refine' Ne.symm (ne_of_none ?hx ?hy); (case hy => with_reducible assumption); (case hx => walk_at "hf")))
local macro_rules | `(tactic| walk_at "hf") => `(tactic| first
  | with_reducible assumption
  | with_reducible exact upd_same
  | ((with_reducible refine' Same.at ?hs ?hr); (case hs => with_reducible assumption); (case hr => walk_at "hf"))
  | ((with_reducible refine' at_or ?hr ?hn); (case hr => walk_at "hf"); (case hn => first | exact Or.inl (by with_reducible assumption) | exact Or.inr (by walk_at "ne")))
  | ((with_reducible refine' But.at ?hb ?hn ?hr); (case hb => with_reducible assumption); (case hr => walk_at "hf"); (case hn => walk_at "ne")))
local macro_rules | `(tactic| walk_at "sq") => `(tactic| first
  | with_reducible assumption
  | exact SqL.of (by walk_at "hf"))
local macro_rules | `(tactic| walk_at "sqo") => `(tactic| first
  | exact Or.inl (by with_reducible assumption)
  | exact Or.inr (by with_reducible assumption)
  | exact Or.inl (SqL.of (by walk_at "hf"))
  | exact Or.inr (SqT.of (by walk_at "hf")))
local macro_rules | `(tactic| walk_at "sqt") => `(tactic| first
  | with_reducible assumption
  | exact SqT.of (by walk_at "hf"))
local macro_rules | `(tactic| walk_at "lg") => `(tactic| first
  | with_reducible assumption
  | exact Bd.lg (by with_reducible assumption) (by decide) (by decide)
  | exact Bd.lg (Bd.of (b := 100) (by omega) (by omega)) (by decide) (by decide))
local macro_rules | `(tactic| walk_at "len") => `(tactic| first
  | with_reducible assumption
  | ((simp only [txt_int, lcat, S_len, List.length_append, List.length_cons, List.length_nil]); omega)
  | (apply of_decide_eq_true; rfl))
local macro_rules | `(tactic| walk_at "side") => `(tactic| first
  | with_reducible assumption
  | omega
  | exact ml (by omega) (by omega)
  | exact mr (by omega) (by omega)
  | exact dv (by omega) (by omega)
  | exact Bd.mulOk (by with_reducible assumption) (by with_reducible assumption) (by decide) (by decide) (by decide)
  | exact Bd.div (by with_reducible assumption) (by omega) (by decide) (by decide)
  | (show (0 : Int) < _; omega)
  | decide
  | exact ni_non
  | exact rfl
  | ((simp only [List.length_cons, List.length_nil, List.length_map]); omega))
local macro_rules | `(tactic| walk_at "st") => `(tactic| first
  | ((with_reducible refine' r_var ?hh ?_); (case hh => rfl))
  | with_reducible refine r_c ?_
  | with_reducible refine r_op ?_
  | with_reducible refine r_i0 ?_
  | with_reducible refine r_cons ?_
  | with_reducible refine r_nil ?_
  | with_reducible refine r_seq ?_
  | with_reducible refine r_asg ?_
  | with_reducible refine r_gname ?_
  | with_reducible refine r_ret ?_
  | with_reducible refine r_ifS ?_
  | with_reducible refine r_test ?_
  | with_reducible refine r_tB ?_
  | with_reducible refine b_bl ?_
  | with_reducible refine i_t ?_
  | with_reducible refine i_f ?_
  | with_reducible refine i_nt ?_
  | with_reducible refine i_nf ?_
  | ((with_reducible refine' i_pos ?hh ?_); (case hh => walk_at "side"))
  | ((with_reducible refine' i_neg ?hh ?_); (case hh => walk_at "side"))
  | ((with_reducible refine' n_pos ?hh ?_); (case hh => walk_at "side"))
  | ((with_reducible refine' n_neg ?hh ?_); (case hh => walk_at "side"))
  | ((with_reducible refine' r_pow ?hh ?he ?_); (case hh => first | exact ⟨by decide, by decide, by decide⟩ | exact ⟨by decide, by decide, by omega⟩); (case he => first | ((simp only [Int.reduceToNat, Int.reducePow]); done) | ((simp only [Int.reduceToNat, Int.reducePow]); rfl) | rfl))
  | ((with_reducible refine' r_i ?hh ?_); (case hh => walk_at "side"))
  | with_reducible refine r_call0 ?_
  | with_reducible refine r_call ?_
  | with_reducible refine r_cb ?_
  | with_reducible refine r_int ?_
  | ((with_reducible refine' r_strI ?hh ?_); (case hh => walk_at "lg"))
  | with_reducible refine r_i1 ?_
  | with_reducible refine r_i2 ?_
  | with_reducible refine r_par ?_
  | with_reducible refine r_two ?_
  | with_reducible refine r_and ?_
  | with_reducible refine r_or ?_
  | with_reducible refine r_not ?_
  | with_reducible refine r_tif ?_
  | with_reducible refine r_andV ?_
  | with_reducible refine r_orV ?_
  | with_reducible refine r_notV ?_
  | with_reducible refine r_un ?_
  | with_reducible refine r_u ?_
  | with_reducible refine r_sb ?_
  | with_reducible refine r_drop ?_
  | with_reducible refine r_next ?_
  | with_reducible refine r_gsub ?_
  | ((with_reducible refine' r_ixL ?hh ?he ?_); (case hh => walk_at "sq"); (case he => rfl))
  | ((with_reducible refine' r_ixT ?hh ?he ?_); (case hh => walk_at "sqt"); (case he => rfl))
  | ((with_reducible refine' r_setL ?hh ?he ?_); (case hh => walk_at "hf"); (case he => rfl))
  | with_reducible refine r_gcons ?_
  | with_reducible refine r_gnil ?_
  | with_reducible refine r_sl ?_
  | with_reducible refine r_nopart ?_
  | with_reducible refine r_part ?_
  | with_reducible refine r_pint ?_
  | ((with_reducible refine' r_lenS ?hh ?_); (case hh => walk_at "sqo"))
  | ((with_reducible refine' r_gtup ?hh ?he ?_); (case hh => walk_at "sqt"); (case he => rfl))
  | ((with_reducible refine' r_slL ?hh ?_); (case hh => walk_at "sq"))
  | ((with_reducible refine' r_len ?hh ?_); (case hh => exact sz (by (try simp only [List.length_map]); (first | omega | decide | exact Nat.le_of_ble_eq_true rfl))))
  | with_reducible refine r_isi_ii ?_
  | with_reducible refine r_isi_ib ?_
  | with_reducible refine r_isi_ss ?_
  | ((with_reducible refine' r_isi_own ?hh ?hi ?hk ?_); (case hh => walk_at "hf"); (case hi => with_reducible assumption); (case hk => with_reducible assumption))
  | with_reducible refine r_lst ?_
  | with_reducible refine r_tup ?_
  | with_reducible refine r_make ?_
  | with_reducible refine r_forR1 ?_
  | with_reducible refine r_forL ?_
  | with_reducible refine r_forT ?_
  | with_reducible refine r_forR2 ?_
  | with_reducible refine r_ref1 ?_
  | with_reducible refine r_brk ?_
  | with_reducible refine r_cont ?_
  | with_reducible refine r_retN ?_
  | with_reducible refine r_rr ?_
  | with_reducible refine r_fmt ?_
  | ((with_reducible refine' r_fmti ?hh ?_); (case hh => walk_at "lg"))
  | with_reducible refine r_js ?_
  | with_reducible refine r_js0 ?_
  | ((with_reducible refine' r_jsp ?hh ?_); (case hh => walk_at "len"))
  | with_reducible refine r_m0 ?_
  | with_reducible refine r_m1 ?_
  | with_reducible refine r_str ?_
  | with_reducible refine r_ss ?_
  | with_reducible refine r_s0 ?_
  | ((with_reducible refine' r_addS ?hh ?_); (case hh => walk_at "len"))
  | ((with_reducible refine' r_slS ?hh ?_); (case hh => walk_at "len"))
  | ((with_reducible refine' r_lenT ?hh ?_); (case hh => walk_at "len"))
  | ((with_reducible refine' r_memI ?hh ?_); (case hh => with_reducible assumption))
  | with_reducible refine r_eqB ?_
  | ((with_reducible refine' r_inT ?hh ?hf ?he ?_); (case hh => walk_at "sqt"); (case hf => rfl); (case he => rfl))
  | ((with_reducible refine' r_inF ?hh ?hf ?he ?_); (case hh => walk_at "sqt"); (case hf => rfl); (case he => rfl))
  | ((with_reducible refine' r_makeL ?hh ?_); (case hh => rfl))
  | with_reducible refine r_tprop ?_
  | with_reducible refine r_tfld ?_
  | ((with_reducible refine' f_prop ?hh ?_); (case hh => walk_at "hf"))
  | ((with_reducible refine' f_fld ?hh ?hc ?hn ?hl ?_); (case hh => walk_at "hf"); (case hc => with_reducible assumption); (case hn => with_reducible assumption); (case hl => rfl))
  | with_reducible refine r_tcm ?_
  | with_reducible refine r_chain ?_
  | with_reducible refine r_bl1 ?_
  | with_reducible refine r_intb ?_
  | with_reducible refine r_yes ?_
  | with_reducible refine r_makeK ?_
  | with_reducible refine r_sfld ?_
  | ((with_reducible refine' f_sfld ?hh ?hc ?hn ?hl ?_); (case hh => walk_at "hf"); (case hc => with_reducible assumption); (case hn => with_reducible assumption); (case hl => exact Nat.le_of_ble_eq_true rfl))
  | with_reducible refine r_lcL ?_
  | with_reducible refine r_lcT ?_
  | with_reducible refine r_lcR1 ?_
  | with_reducible refine r_lcR2 ?_
  | with_reducible refine r_tbm ?_
  | with_reducible refine r_tbm0 ?_
  | ((with_reducible refine' f_tyL ?hh ?_); (case hh => walk_at "hf"))
  | ((with_reducible refine' r_app ?hh ?he ?_); (case hh => walk_at "hf"); (case he => walk_at "side"))
  | with_reducible refine r_tRev ?_
  | with_reducible refine r_forRV ?_
  | with_reducible refine r_raiseE ?_
  | with_reducible refine r_callG ?_
  | ((with_reducible refine' r_xfV ?hh ?hf ?hl ?_); (case hh => rfl); (case hf => walk_at "hf"); (case hl => rfl)))
local macro_rules | `(tactic| walk_at "go") => `(tactic| (repeat walk_at "st"))
local macro_rules | `(tactic| walk_at "in") => `(tactic| dsimp only [cxOf, L2.start, List.map, List.length, List.replicate, Nat.reduceSub, Nat.reduceAdd, List.cons_append, List.nil_append, List.append_nil])
local macro_rules | `(tactic| walk_at "bt") => `(tactic| first
  | with_reducible assumption
  | exact But.rfl
  | exact Same.but (by with_reducible assumption)
  | (refine' But.put ?ha; (case ha => walk_at "bt"))
  | (refine' But.new ?ha ?hn; (case hn => with_reducible assumption); (case ha => walk_at "bt"))
  | (refine' But.trans ?ha ?hb; (case hb => with_reducible assumption); (case ha => walk_at "bt"))
  | (refine' But.trans ?ha (Same.but ?hb); (case hb => with_reducible assumption); (case ha => walk_at "bt")))
local macro_rules | `(tactic| walk_at "sm") => `(tactic| first
  | with_reducible assumption
  | exact Same.refl _
  | (refine' Same.new ?ha ?hn; (case hn => with_reducible assumption); (case ha => walk_at "sm"))
  | (refine' Same.trans ?ha ?hb; (case hb => with_reducible assumption); (case ha => walk_at "sm")))

section
variable {P : Program} {w : World} {K : PySem.W.Frag} {mg : Str → Option Value} {base : Heap}
def spInt : Sp := fun vs H Q _ => ∃ i, vs = [.int i] ∧ Q (.bl true) H
theorem ok_law_int (T : Tx K mg) : Gf P w K mg base CX0 1 (He.ga K "_law_int") ["_law_thing"] [] spInt := by
  obtain ⟨fd, F⟩ := T.d_law_int
  refine gf0 F (fnG F sc_law_int (fun vs H Q E h => ?_) (fun cdv A outer s H vs Q E hr h => ?_)) (fun _ _ _ _ _ _ us hl => match us, hl with | [_], _ => rfl)
  · obtain ⟨i, rfl, _⟩ := h
    rfl
  obtain ⟨i, rfl, k⟩ := h
  refine ⟨_, PSs.nox (pss_one (ps_ret (pe_and (pe_callB (call_isiK (K := K) rfl) (by rfl) T.f_isinstance (by decide +kernel) (pa_cons (pv 0) (pa_cons (pe_bltn (v := .ty "int") (by rfl) T.f_int (by decide +kernel) rfl) pa_nil))) (pe_one (pe_not (pe_callB (call_isiK (K := K) rfl) (by rfl) T.f_isinstance (by decide +kernel) (pa_cons (pv 0) (pa_cons (pe_bltn (v := .ty "bool") (by rfl) T.f_bool (by decide +kernel) rfl) pa_nil)))))))), ?_⟩
  walk_at "in"
  walk_at "go"
  exact k
/-- the wrong one of two values -/
def Wrong (H : Hp) (x y z : V) : Prop := (∃ T, Kd H x T ∧ z = x) ∨ ∃ n : Int, x = .int n ∧ BadN H y 0 20 ∧ z = y
theorem Kd.same {H H' : Hp} {x : V} {T : String} (k : Kd H x T) (s : Same H H') : Kd H' x T := by
  cases k with
  | bl b => exact .bl b
  | non => exact .non
  | str x => exact .str x
  | lst e => exact .lst (s _ _ e)
  | tup e => exact .tup (s _ _ e)
  | dct e => exact .dct (s _ _ e)
theorem BadN.same {H H' : Hp} {y : V} {lo hi : Int} (h : BadN H y lo hi) (s : Same H H') : BadN H' y lo hi := h.elim (fun ⟨T, k⟩ => .inl ⟨T, Kd.same k s⟩) .inr
def spRefused (K : PySem.W.Frag) : Sp := fun vs H Q _ => ∃ x y z : V, vs = [x, y] ∧ Wrong H x y z ∧ ∀ q H', H' q = some (.tup [z]) → Same H H' → Q (.ref q) H'
theorem go_refused {H : Hp} {x y : V} {Q : VK} {E : XK} (z : V) (h : Wrong H x y z) (k : ∀ q H', H' q = some (.tup [z]) → Same H H' → Q (.ref q) H') : spRefused K [x, y] H Q E := ⟨x, y, z, rfl, h, k⟩
theorem ok_law_refused (T : Tx K mg) : Gf P w K mg base CX0 5 (He.ga K "_law_refused") ["_law_top_here", "_law_often"] [] (spRefused K) := by
  obtain ⟨fd, F⟩ := T.d_law_refused
  refine gf0 F (fnG F sc_law_refused (fun vs H Q E h => ?_) (fun cdv A outer s H vs Q E hr h => ?_)) (fun _ _ _ _ _ _ us hl => match us, hl with | [_, _], _ => rfl)
  · obtain ⟨x, y, z, rfl, _⟩ := h
    rfl
  obtain ⟨x, y, z, rfl, hw, k⟩ := h
  refine ⟨_, PSs.nox (pss_cons (ps_set (i := 2) sc_law_refused.nd rfl (Or.inl rfl) (pe_tup pa_nil)) (pss_cons (ps_try_as (i := 3) rfl rfl sc_law_refused.nd rfl rfl ⟨rfl, by decide, .inl T.g_InputError⟩ takes0 (fun W pn xe tk _ => (pss_one (ps_expr (pe_gS (ok_falling T) T.g_falling hr (by decide) (fun σ => passAt tk σ) (pa_cons (pv 0) (pa_cons (pv 1) pa_nil)))))) (fun a oe cls d pn hz hf => (pss_one (ps_if (PW.pt (pw_and (pt_val (pe_callB (call_isX hz hf) (by rfl) T.f_isinstance (by decide +kernel) (pa_cons (pv 3) (pa_cons (pe_glob (v := .ref (He.ga K "InvalidNumber")) rfl T.g_InvalidNumber rfl) pa_nil)))) (pw_and (pt_not (pt_val (pe_callB (call_isX hz hf) (by rfl) T.f_isinstance (by decide +kernel) (pa_cons (pv 3) (pa_cons (pe_glob (v := .ref (He.ga K "InvalidSize")) rfl T.g_InvalidSize rfl) pa_nil))))) (pw_and1 (pt_val (pe_callB (call_isX hz hf) (by rfl) T.f_isinstance (by decide +kernel) (pa_cons (pv 3) (pa_cons (pe_bltn (v := .ty "ValueError") (by rfl) T.f_ValueError (by decide +kernel) rfl) pa_nil)))))))) (pss_one (ps_set (i := 2) sc_law_refused.nd rfl (Or.inl rfl) (pe_tup (pa_cons (pe_xf T.er_InvalidNumber.xf T.no_InvalidNumber hz hf (pv 3)) pa_nil)))) pss_nil)))) (pss_one (ps_ret (pv 2))))), ?_⟩
  walk_at "in"
  walk_at "go"
  intro p hp
  have s1 := My.Same.new (Same.refl H) hp (u := .tup [])
  generalize upd H p (.tup []) = H1 at s1 ⊢
  walk_at "go"
  rcases hw with ⟨T0, kd, rfl⟩ | ⟨n, rfl, hb, rfl⟩
  · refine ⟨_, _, rfl, .inr (.inl ⟨T0, Kd.same kd s1, fun d H2 e s2 => ?_⟩)⟩
    refine ⟨true, T.xm_InvalidNumber_InputError, fun _ a ha => ?_, fun z => nomatch z⟩
    walk_at "go"
    refine f_isX T.er_InvalidNumber e (.own _) T.i_NN ?_
    walk_at "go"
    refine f_isX T.er_InvalidNumber e (.own _) T.i_NS ?_
    walk_at "go"
    refine f_isX T.er_InvalidNumber e (.ty _) T.i_NV ?_
    walk_at "go"
    intro q hq
    have s3 := My.Same.new (s1.trans s2) hq (u := .tup [z])
    have hq3 : (upd H2 q (.tup [z])) q = some (.tup [z]) := upd_same
    walk_at "go"
    exact k q _ hq3 s3
  · refine ⟨_, _, rfl, .inr (.inr ⟨n, rfl, BadN.same hb s1, fun d H2 e s2 => ?_⟩)⟩
    refine ⟨true, T.xm_InvalidNumber_InputError, fun _ a ha => ?_, fun z => nomatch z⟩
    walk_at "go"
    refine f_isX T.er_InvalidNumber e (.own _) T.i_NN ?_
    walk_at "go"
    refine f_isX T.er_InvalidNumber e (.own _) T.i_NS ?_
    walk_at "go"
    refine f_isX T.er_InvalidNumber e (.ty _) T.i_NV ?_
    walk_at "go"
    intro q hq
    have s3 := My.Same.new (s1.trans s2) hq (u := .tup [z])
    have hq3 : (upd H2 q (.tup [z])) q = some (.tup [z]) := upd_same
    walk_at "go"
    exact k q _ hq3 s3
/-- repr of a thing, twice -/
def spSame (K : PySem.W.Frag) : Sp := fun vs H Q _ => ∃ (q : Addr) (z : V) (d : PyData), vs = [.ref q, z] ∧ H q = some (.tup [z]) ∧ Thg K H z d ∧ Q (.bl true) H
theorem ok_law_same (T : Tx K mg) : Gf P w K mg base CX0 1 (He.ga K "_law_same") ["_law_told", "_law_thing"] [] (spSame K) := by
  obtain ⟨fd, F⟩ := T.d_law_same
  refine gf0 F (fnG F sc_law_same (fun vs H Q E h => ?_) (fun cdv A outer s H vs Q E hr h => ?_)) (fun _ _ _ _ _ _ us hl => match us, hl with | [_, _], _ => rfl)
  · obtain ⟨q, z, d, rfl, _⟩ := h
    rfl
  obtain ⟨q, z, d, rfl, hq, ht, k⟩ := h
  have hT := SqT.of (K := K) hq
  refine ⟨_, PSs.nox (pss_one (ps_ret (pe_and (pe_cmpR op_eqI (pe_callB (call_lenK (K := K) rfl) (by rfl) T.f_len (by decide +kernel) (pa_cons (pv 0) pa_nil)) pe_int (nomark _)) (pe_one (pe_cmpR op_eqS (pe_callB (call_reprTK (K := K) rfl hr) (by rfl) T.f_repr (by decide +kernel) (pa_cons (pe_ix (ix_tupK (K := K) rfl) (pv 0) pe_int (fun _ _ => rfl)) pa_nil)) (pe_callB (call_reprTK (K := K) rfl hr) (by rfl) T.f_repr (by decide +kernel) (pa_cons (pv 1) pa_nil)) (nomark _)))))), ?_⟩
  walk_at "in"
  walk_at "go"
  refine ht.q ?_
  walk_at "go"
  refine ht.q ?_
  walk_at "go"
  rw [decide_eq_true rfl]
  exact k
end

end Toy

set_option Elab.async false
set_option linter.all false
set_option maxRecDepth 100000
set_option maxHeartbeats 4000000
namespace Toy
open PySem PySem.Spec PyProof.Rows L2 My SX
local macro_rules | `(tactic| walk_at "ne") => `(tactic| first
  | with_reducible assumption
  | exact Ne.symm (by with_reducible assumption)
  | (refine' ne_of_none ?hx ?hy; (case hy => with_reducible assumption); (case hx => walk_at "hf"))
  | (refine' Ne.symm (ne_of_none ?hx ?hy); (case hy => with_reducible assumption); (case hx => walk_at "hf")))
local macro_rules | `(tactic| walk_at "hf") => `(tactic| first
  | with_reducible assumption
  | with_reducible exact upd_same
  | ((with_reducible refine' Same.at ?hs ?hr); (case hs => with_reducible assumption); (case hr => walk_at "hf"))
  | ((with_reducible refine' at_or ?hr ?hn); (case hr => walk_at "hf"); (case hn => first | exact Or.inl (by with_reducible assumption) | exact Or.inr (by walk_at "ne")))
  | ((with_reducible refine' But.at ?hb ?hn ?hr); (case hb => with_reducible assumption); (case hr => walk_at "hf"); (case hn => walk_at "ne")))
local macro_rules | `(tactic| walk_at "sq") => `(tactic| first
  | with_reducible assumption
  | exact SqL.of (by walk_at "hf"))
local macro_rules | `(tactic| walk_at "sqo") => `(tactic| first
  | exact Or.inl (by with_reducible assumption)
  | exact Or.inr (by with_reducible assumption)
  | exact Or.inl (SqL.of (by walk_at "hf"))
  | exact Or.inr (SqT.of (by walk_at "hf")))
local macro_rules | `(tactic| walk_at "sqt") => `(tactic| first
  | with_reducible assumption
  | exact SqT.of (by walk_at "hf"))
local macro_rules | `(tactic| walk_at "lg") => `(tactic| first
  | with_reducible assumption
  | exact Bd.lg (by with_reducible assumption) (by decide) (by decide)
  | exact Bd.lg (Bd.of (b := 100) (by omega) (by omega)) (by decide) (by decide))
local macro_rules | `(tactic| walk_at "len") => `(tactic| first
  | with_reducible assumption
  | ((simp only [txt_int, lcat, S_len, List.length_append, List.length_cons, List.length_nil]); omega)
  | (apply of_decide_eq_true; rfl))
local macro_rules | `(tactic| walk_at "side") => `(tactic| first
  | with_reducible assumption
  | omega
  | exact ml (by omega) (by omega)
  | exact mr (by omega) (by omega)
  | exact dv (by omega) (by omega)
  | exact Bd.mulOk (by with_reducible assumption) (by with_reducible assumption) (by decide) (by decide) (by decide)
  | exact Bd.div (by with_reducible assumption) (by omega) (by decide) (by decide)
  | (show (0 : Int) < _; omega)
  | decide
  | exact ni_non
  | exact rfl
  | ((simp only [List.length_cons, List.length_nil, List.length_map]); omega))
local macro_rules | `(tactic| walk_at "st") => `(tactic| first
  | ((with_reducible refine' r_var ?hh ?_); (case hh => rfl))
  | with_reducible refine r_c ?_
  | with_reducible refine r_op ?_
  | with_reducible refine r_i0 ?_
  | with_reducible refine r_cons ?_
  | with_reducible refine r_nil ?_
  | with_reducible refine r_seq ?_
  | with_reducible refine r_asg ?_
  | with_reducible refine r_gname ?_
  | with_reducible refine r_ret ?_
  | with_reducible refine r_ifS ?_
  | with_reducible refine r_test ?_
  | with_reducible refine r_tB ?_
  | with_reducible refine b_bl ?_
  | with_reducible refine i_t ?_
  | with_reducible refine i_f ?_
  | with_reducible refine i_nt ?_
  | with_reducible refine i_nf ?_
  | ((with_reducible refine' i_pos ?hh ?_); (case hh => walk_at "side"))
  | ((with_reducible refine' i_neg ?hh ?_); (case hh => walk_at "side"))
  | ((with_reducible refine' n_pos ?hh ?_); (case hh => walk_at "side"))
  | ((with_reducible refine' n_neg ?hh ?_); (case hh => walk_at "side"))
  | ((with_reducible refine' r_pow ?hh ?he ?_); (case hh => first | exact ⟨by decide, by decide, by decide⟩ | exact ⟨by decide, by decide, by omega⟩); (case he => first | ((simp only [Int.reduceToNat, Int.reducePow]); done) | ((simp only [Int.reduceToNat, Int.reducePow]); rfl) | rfl))
  | ((with_reducible refine' r_i ?hh ?_); (case hh => walk_at "side"))
  | with_reducible refine r_call0 ?_
  | with_reducible refine r_call ?_
  | with_reducible refine r_cb ?_
  | with_reducible refine r_int ?_
  | ((with_reducible refine' r_strI ?hh ?_); (case hh => walk_at "lg"))
  | with_reducible refine r_i1 ?_
  | with_reducible refine r_i2 ?_
  | with_reducible refine r_par ?_
  | with_reducible refine r_two ?_
  | with_reducible refine r_and ?_
  | with_reducible refine r_or ?_
  | with_reducible refine r_not ?_
  | with_reducible refine r_tif ?_
  | with_reducible refine r_andV ?_
  | with_reducible refine r_orV ?_
  | with_reducible refine r_notV ?_
  | with_reducible refine r_un ?_
  | with_reducible refine r_u ?_
  | with_reducible refine r_sb ?_
  | with_reducible refine r_drop ?_
  | with_reducible refine r_next ?_
  | with_reducible refine r_gsub ?_
  | ((with_reducible refine' r_ixL ?hh ?he ?_); (case hh => walk_at "sq"); (case he => rfl))
  | ((with_reducible refine' r_ixT ?hh ?he ?_); (case hh => walk_at "sqt"); (case he => rfl))
  | ((with_reducible refine' r_setL ?hh ?he ?_); (case hh => walk_at "hf"); (case he => rfl))
  | with_reducible refine r_gcons ?_
  | with_reducible refine r_gnil ?_
  | with_reducible refine r_sl ?_
  | with_reducible refine r_nopart ?_
  | with_reducible refine r_part ?_
  | with_reducible refine r_pint ?_
  | ((with_reducible refine' r_lenS ?hh ?_); (case hh => walk_at "sqo"))
  | ((with_reducible refine' r_gtup ?hh ?he ?_); (case hh => walk_at "sqt"); (case he => rfl))
  | ((with_reducible refine' r_slL ?hh ?_); (case hh => walk_at "sq"))
  | ((with_reducible refine' r_len ?hh ?_); (case hh => exact sz (by (try simp only [List.length_map]); (first | omega | decide | exact Nat.le_of_ble_eq_true rfl))))
  | with_reducible refine r_isi_ii ?_
  | with_reducible refine r_isi_ib ?_
  | with_reducible refine r_isi_ss ?_
  | ((with_reducible refine' r_isi_own ?hh ?hi ?hk ?_); (case hh => walk_at "hf"); (case hi => with_reducible assumption); (case hk => with_reducible assumption))
  | with_reducible refine r_lst ?_
  | with_reducible refine r_tup ?_
  | with_reducible refine r_make ?_
  | with_reducible refine r_forR1 ?_
  | with_reducible refine r_forL ?_
  | with_reducible refine r_forT ?_
  | with_reducible refine r_forR2 ?_
  | with_reducible refine r_ref1 ?_
  | with_reducible refine r_brk ?_
  | with_reducible refine r_cont ?_
  | with_reducible refine r_retN ?_
  | with_reducible refine r_rr ?_
  | with_reducible refine r_fmt ?_
  | ((with_reducible refine' r_fmti ?hh ?_); (case hh => walk_at "lg"))
  | with_reducible refine r_js ?_
  | with_reducible refine r_js0 ?_
  | ((with_reducible refine' r_jsp ?hh ?_); (case hh => walk_at "len"))
  | with_reducible refine r_m0 ?_
  | with_reducible refine r_m1 ?_
  | with_reducible refine r_str ?_
  | with_reducible refine r_ss ?_
  | with_reducible refine r_s0 ?_
  | ((with_reducible refine' r_addS ?hh ?_); (case hh => walk_at "len"))
  | ((with_reducible refine' r_slS ?hh ?_); (case hh => walk_at "len"))
  | ((with_reducible refine' r_lenT ?hh ?_); (case hh => walk_at "len"))
  | ((with_reducible refine' r_memI ?hh ?_); (case hh => with_reducible assumption))
  | with_reducible refine r_eqB ?_
  | ((with_reducible refine' r_inT ?hh ?hf ?he ?_); (case hh => walk_at "sqt"); (case hf => rfl); (case he => rfl))
  | ((with_reducible refine' r_inF ?hh ?hf ?he ?_); (case hh => walk_at "sqt"); (case hf => rfl); (case he => rfl))
  | ((with_reducible refine' r_makeL ?hh ?_); (case hh => rfl))
  | with_reducible refine r_tprop ?_
  | with_reducible refine r_tfld ?_
  | ((with_reducible refine' f_prop ?hh ?_); (case hh => walk_at "hf"))
  | ((with_reducible refine' f_fld ?hh ?hc ?hn ?hl ?_); (case hh => walk_at "hf"); (case hc => with_reducible assumption); (case hn => with_reducible assumption); (case hl => rfl))
  | with_reducible refine r_tcm ?_
  | with_reducible refine r_chain ?_
  | with_reducible refine r_bl1 ?_
  | with_reducible refine r_intb ?_
  | with_reducible refine r_yes ?_
  | with_reducible refine r_makeK ?_
  | with_reducible refine r_sfld ?_
  | ((with_reducible refine' f_sfld ?hh ?hc ?hn ?hl ?_); (case hh => walk_at "hf"); (case hc => with_reducible assumption); (case hn => with_reducible assumption); (case hl => exact Nat.le_of_ble_eq_true rfl))
  | with_reducible refine r_lcL ?_
  | with_reducible refine r_lcT ?_
  | with_reducible refine r_lcR1 ?_
  | with_reducible refine r_lcR2 ?_
  | with_reducible refine r_tbm ?_
  | with_reducible refine r_tbm0 ?_
  | ((with_reducible refine' f_tyL ?hh ?_); (case hh => walk_at "hf"))
  | ((with_reducible refine' r_app ?hh ?he ?_); (case hh => walk_at "hf"); (case he => walk_at "side"))
  | with_reducible refine r_tRev ?_
  | with_reducible refine r_forRV ?_
  | with_reducible refine r_raiseE ?_
  | with_reducible refine r_callG ?_
  | ((with_reducible refine' r_xfV ?hh ?hf ?hl ?_); (case hh => rfl); (case hf => walk_at "hf"); (case hl => rfl)))
local macro_rules | `(tactic| walk_at "go") => `(tactic| (repeat walk_at "st"))
local macro_rules | `(tactic| walk_at "in") => `(tactic| dsimp only [cxOf, L2.start, List.map, List.length, List.replicate, Nat.reduceSub, Nat.reduceAdd, List.cons_append, List.nil_append, List.append_nil])
local macro_rules | `(tactic| walk_at "bt") => `(tactic| first
  | with_reducible assumption
  | exact But.rfl
  | exact Same.but (by with_reducible assumption)
  | (refine' But.put ?ha; (case ha => walk_at "bt"))
  | (refine' But.new ?ha ?hn; (case hn => with_reducible assumption); (case ha => walk_at "bt"))
  | (refine' But.trans ?ha ?hb; (case hb => with_reducible assumption); (case ha => walk_at "bt"))
  | (refine' But.trans ?ha (Same.but ?hb); (case hb => with_reducible assumption); (case ha => walk_at "bt")))
local macro_rules | `(tactic| walk_at "sm") => `(tactic| first
  | with_reducible assumption
  | exact Same.refl _
  | (refine' Same.new ?ha ?hn; (case hn => with_reducible assumption); (case ha => walk_at "sm"))
  | (refine' Same.trans ?ha ?hb; (case hb => with_reducible assumption); (case ha => walk_at "sm")))

section
variable {P : Program} {w : World} {K : PySem.W.Frag} {mg : Str → Option Value} {base : Heap}
theorem go_bag {c : Int} {H : Hp} {Q : VK} {E : XK} (k : ∀ p H', H p = none → Bag H' p → Same H H' → Q (.ref p) H') : spBag [.int c] H Q E := ⟨c, rfl, k⟩
theorem go_cell {a : Addr} {ns : List Int} {i : Int} {H : Hp} {Q : VK} {E : XK} (h : SqL K H a (ns.map V.int)) (h0 : 0 ≤ i) (h9 : i < 1000) (k : ∀ c H', Same H H' → Q (.int c) H') : spCell K [.ref a, .int i] H Q E := ⟨a, ns, i, rfl, h, h0, h9, k⟩
/-- a good call -/
theorem go_fall {n m : Int} {k : Nat} {H : Hp} {Q : VK} {E : XK} (e : m = k) (b : Bd 140 n) (h : k ≤ 20) (q : Q (.int (fall n k)) H) : spFall K [.int n, .int m] H Q E := ⟨_, _, rfl, .inl ⟨n, k, rfl, by rw [e], b, h, q⟩⟩
/-- a thing that is no number -/
def Odd (K : PySem.W.Frag) (H : Hp) (v : V) : Prop := ∃ T d, Kd H v T ∧ Thg K H v d
theorem Odd.same {H H' : Hp} {v : V} (h : Odd K H v) (s : Same H H') : Odd K H' v := let ⟨T, d, k, t⟩ := h; ⟨T, d, Kd.same k s, t.same s⟩
theorem odd_non {H : Hp} : Odd K H .non := ⟨_, _, .non, .pl .non rfl, rfl, by decide, by decide +kernel⟩
theorem odd_bl {H : Hp} (b : Bool) : Odd K H (.bl b) := ⟨_, _, .bl b, .pl (.bl b) rfl, rfl, by show 0 ≤ 50; decide, by cases b <;> decide +kernel⟩
theorem odd_str {H : Hp} : Odd K H (.str "3") := ⟨_, _, .str _, .pl (.str _) rfl, rfl, by show 0 ≤ 50; decide, by decide +kernel⟩
theorem odd_tup {H : Hp} {a : Addr} (h : H a = some (.tup [.int 3])) : Odd K H (.ref a) := ⟨_, _, .tup h, .pl (.tup (SqT.of h) (.cons (.int 3) .nil)) rfl, by decide +kernel, by decide, by decide +kernel⟩
theorem odd_tup0 {H : Hp} {a : Addr} (h : H a = some (.tup [])) : Odd K H (.ref a) := ⟨_, _, .tup h, .pl (.tup (SqT.of h) .nil) rfl, by decide +kernel, by decide, by decide +kernel⟩
theorem odd_lst {H : Hp} {a : Addr} (h : H a = some (.lst [.int 3])) : Odd K H (.ref a) := ⟨_, _, .lst h, .pl (.lst (SqL.of h) (.cons (.int 3) .nil)) rfl, by decide +kernel, by decide, by decide +kernel⟩
theorem odd_d0 {H : Hp} {a : Addr} (h : H a = some (.dK [])) : Odd K H (.ref a) := ⟨_, _, .dct h, .dct (ps := []) h, by decide +kernel, by decide, by decide +kernel⟩
theorem odd_d1 {H : Hp} {a : Addr} (h : H a = some (.dK [(.inl 3, .int 3)])) : Odd K H (.ref a) := ⟨_, _, .dct h, .dct (ps := [(3, 3)]) h, by decide +kernel, by decide, by decide +kernel⟩
/-- a number that is too low or too high -/
def Far (i : Int) : Prop := (i < 0 ∨ i > 20) ∧ ∀ H, Thg K H (.int i) (.int i)
theorem far_of {i : Int} (h : i ∈ ([21, 22, 0 - 1, 1000000000000000000000000000000, 0 - 1000000000000000000000000000000] : List Int)) : Far (K := K) i := by
  simp only [List.mem_cons, List.not_mem_nil, or_false] at h
  have all : ∀ H : Hp, DpT K H (.int i) (.int i) := fun H => .pl (.int i) rfl
  refine ⟨by omega, fun H => ⟨all H, ?_⟩⟩
  rcases h with rfl | rfl | rfl | rfl | rfl <;> exact ⟨by decide +kernel, by show 0 ≤ 50; decide, by decide +kernel⟩
def spRight (K : PySem.W.Frag) : Sp := fun vs H Q _ => ∃ p, vs = [.ref p] ∧ Bag H p ∧ ∀ H', But p H H' → Q (.bl true) H'
theorem go_right {p : Addr} {H : Hp} {Q : VK} {E : XK} (hp : Bag H p) (k : ∀ H', But p H H' → Q (.bl true) H') : spRight K [.ref p] H Q E := ⟨p, rfl, hp, k⟩
theorem ok_law_right (T : Tx K mg) : Gf P w K mg base CX0 6 (He.ga K "_law_right") ["_law_bag_here"] [] (spRight K) := by
  obtain ⟨fd, F⟩ := T.d_law_right
  refine gf0 F (fnG F sc_law_right (fun vs H Q E h => ?_) (fun cdv A outer s H vs Q E hr h => ?_)) (fun _ _ _ _ _ _ us hl => match us, hl with | [_], _ => rfl)
  · obtain ⟨p, rfl, _⟩ := h
    rfl
  obtain ⟨p, rfl, hp, k⟩ := h
  refine ⟨_, PSs.nox (pss_cons (ps_set (i := 1) sc_law_right.nd rfl (Or.inl rfl) (pe_g (ok_law_pick T) T.g_law_pick hr (by decide) pass0 (pa_cons (pv 0) (pa_cons (pe_lst (pa_cons pe_int (pa_cons pe_int (pa_cons (pe_op op_pow pe_int pe_int) (pa_cons (pe_op op_pow pe_int pe_int) pa_nil))))) pa_nil)))) (pss_cons (ps_set (i := 2) sc_law_right.nd rfl (Or.inl rfl) (pe_op op_sub (pe_g (ok_law_take T) T.g_law_take hr (by decide) pass0 (pa_cons (pv 0) (pa_cons (pv 1) pa_nil))) (pe_g (ok_law_pick T) T.g_law_pick hr (by decide) pass0 (pa_cons (pv 0) (pa_cons (pe_lst (pa_cons pe_int (pa_cons (pe_op op_fdivW (pv 1) pe_int) (pa_cons (pv 1) pa_nil)))) pa_nil))))) (pss_cons (ps_par (i := 3) (j := 4) (by rfl) sc_law_right.nd rfl rfl (by decide) rfl rfl (pa_cons (pe_g (ok_law_take T) T.g_law_take hr (by decide) pass0 (pa_cons (pv 0) (pa_cons pe_int pa_nil))) (pa_cons pe_int pa_nil)) (by rfl)) (pss_cons (ps_for PassesOwn.never rfl (pi_range1 rfl T.f_range (pa_cons (pv 3) pa_nil)) (pg_name (i := 5) sc_law_right.nd rfl (Or.inl rfl)) (pss_one (ps_set (i := 4) sc_law_right.nd rfl (Or.inl rfl) (pe_op op_mulA (pv 4) (pe_op op_sub (pv 2) (pv 5)))))) (pss_cons (ps_if (PW.pt (pw_or (pt_not (pt_val (pe_g (ok_law_int T) T.g_law_int hr (by decide) pass0 (pa_cons (pe_g (ok_falling T) T.g_falling hr (by decide) passL (pa_cons (pv 2) (pa_cons (pv 3) pa_nil))) pa_nil)))) (pw_or1 (pt_cmpR op_neI (pe_g (ok_falling T) T.g_falling hr (by decide) passL (pa_cons (pv 2) (pa_cons (pv 3) pa_nil))) (pv 4) (nomark _))))) (pss_one (ps_ret pe_bl)) pss_nil) (pss_cons (ps_if (PW.pt (pw_and (pt_cmpR op_lt (pv 3) pe_int (nomark _)) (pw_and1 (pt_cmpR op_neI (pe_gk0 (ok_falling_k T) T.g_falling hr (by decide) passL (pk_cons (pe_op op_add (pv 3) pe_int) (pk_cons (pv 2) pk_nil))) (pe_op op_mulA (pv 4) (pe_op op_sub (pv 2) (pv 3))) (nomark _))))) (pss_one (ps_ret pe_bl)) pss_nil) (pss_cons (ps_set (i := 6) sc_law_right.nd rfl (Or.inl rfl) (pe_g (ok_law_pick T) T.g_law_pick hr (by decide) pass0 (pa_cons (pv 0) (pa_cons (pe_lst (pa_cons pe_non (pa_cons pe_bl (pa_cons pe_bl (pa_cons pe_str (pa_cons (pe_tup (pa_cons pe_int pa_nil)) (pa_cons (pe_lst (pa_cons pe_int pa_nil)) (pa_cons pe_dnewK (pa_cons (pe_disp (pps_cons pe_int pe_int pps_nil) rfl rfl (List.cons_ne_nil _ _) (by decide)) (pa_cons (pe_tup pa_nil) pa_nil)))))))))) pa_nil)))) (pss_cons (ps_set (i := 7) sc_law_right.nd rfl (Or.inl rfl) (pe_g (ok_law_pick T) T.g_law_pick hr (by decide) pass0 (pa_cons (pv 0) (pa_cons (pe_lst (pa_cons pe_int (pa_cons pe_int (pa_cons (pe_op op_sub pe_int pe_int) (pa_cons (pe_op op_pow pe_int pe_int) (pa_cons (pe_op op_sub pe_int (pe_op op_pow pe_int pe_int)) pa_nil)))))) pa_nil)))) (pss_cons (ps_if (PW.pt (pw_or (pt_not (pt_val (pe_g (ok_law_same T) T.g_law_same hr (by decide) pass0 (pa_cons (pe_g (ok_law_refused T) T.g_law_refused hr (by decide) pass0 (pa_cons (pv 6) (pa_cons (pv 3) pa_nil))) (pa_cons (pv 6) pa_nil))))) (pw_or1 (pt_not (pt_val (pe_g (ok_law_same T) T.g_law_same hr (by decide) pass0 (pa_cons (pe_g (ok_law_refused T) T.g_law_refused hr (by decide) pass0 (pa_cons (pv 2) (pa_cons (pv 6) pa_nil))) (pa_cons (pv 6) pa_nil)))))))) (pss_one (ps_ret pe_bl)) pss_nil) (pss_one (ps_ret (pe_and (pe_g (ok_law_same T) T.g_law_same hr (by decide) pass0 (pa_cons (pe_g (ok_law_refused T) T.g_law_refused hr (by decide) pass0 (pa_cons (pv 6) (pa_cons (pv 7) pa_nil))) (pa_cons (pv 6) pa_nil))) (pe_one (pe_g (ok_law_same T) T.g_law_same hr (by decide) pass0 (pa_cons (pe_g (ok_law_refused T) T.g_law_refused hr (by decide) pass0 (pa_cons (pv 2) (pa_cons (pv 7) pa_nil))) (pa_cons (pv 7) pa_nil)))))))))))))))), ?_⟩
  walk_at "in"
  walk_at "go"
  intro a ha
  have hap : a ≠ p := hp.ne ha
  have b1 : But p H (upd H a (.lst [.int 30, .int 3, .int 1000000, .int 10000000000000000000000000000000000000000])) := My.But.new But.rfl ha
  walk_at "go"
  refine go_pick (hp.new ha) upd_same hap (by decide) (by decide) fun v H1 hv hp1 b2 => ?_
  obtain ⟨wd, rfl, wd0, wd1⟩ : ∃ wd : Int, v = .int wd ∧ 0 < wd ∧ wd ≤ 10 ^ 40 := by
    simp only [List.mem_cons, List.not_mem_nil, or_false] at hv
    rcases hv with rfl | rfl | rfl | rfl <;> exact ⟨_, rfl, by decide, by decide⟩
  have b3 := b1.trans b2
  walk_at "go"
  refine go_take hp1 wd0 (by omega) fun d H2 d0 d1 hp2 b4 => ?_
  walk_at "go"
  intro c hc
  have hcp : c ≠ p := hp2.ne hc
  walk_at "go"
  refine go_pick (hp2.new hc) upd_same hcp (Nat.le_of_ble_eq_true rfl) (Nat.le_of_ble_eq_true rfl) fun v H3 hv hp3 b5 => ?_
  obtain ⟨o, rfl, o0, o1⟩ : ∃ o : Int, v = .int o ∧ 0 ≤ o ∧ o ≤ 10 ^ 40 := by
    simp only [List.mem_cons, List.not_mem_nil, or_false] at hv
    rcases hv with rfl | rfl | rfl
    · exact ⟨_, rfl, by decide, by decide⟩
    · exact ⟨_, rfl, by omega, by omega⟩
    · exact ⟨_, rfl, by omega, wd1⟩
  have b6 : But p H H3 := b3.trans (b4.trans (My.But.trans (My.But.new But.rfl hc) b5))
  walk_at "go"
  refine go_take hp3 (by decide) (by decide) fun m H4 m0 m1 hp4 b7 => ?_
  have b8 := b6.trans b7
  walk_at "go"
  have bn : Bd 140 (d - o) := Bd.of (by omega) (by omega)
  generalize d - o = n at bn
  obtain ⟨f, rfl⟩ := Int.eq_ofNat_of_zero_le m0
  refine ⟨by omega, by omega, lp_range (fun i τ H' => ∃ v, τ = [some (.ref p), some (.int wd), some (.int n), some (.int f), some (.int (fall n i)), v, none, none] ∧ H' = H4) ⟨none, rfl, rfl⟩ ?_ ?_⟩
  · rintro i τ H5 hi ⟨v, rfl, rfl⟩
    rw [Int.toNat_natCast] at hi
    have b1 := (fall_bd bn i (by omega)).mono (show 2 + 200 * i ≤ 5000 by omega)
    have b2 : Bd 200 (n - i) := (bn.sub (show Bd 10 (i : Int) from Bd.of (by omega) (by omega))).mono (by decide)
    walk_at "go"
    rw [Int.zero_add]
    walk_at "go"
    exact ⟨_, rfl, rfl⟩
  · rintro τ H5 ⟨v, rfl, rfl⟩
    rw [Int.toNat_natCast]
    walk_at "go"
    refine go_fall rfl bn (by omega) ?_
    walk_at "go"
    refine ⟨_, rfl, ?_⟩
    walk_at "go"
    refine go_fall rfl bn (by omega) ?_
    walk_at "go"
    have bf := (fall_bd bn f (by omega)).mono (show 2 + 200 * f ≤ 5000 by omega)
    have bnf : Bd 200 (n - f) := (bn.sub (show Bd 10 (f : Int) from Bd.of (by omega) (by omega))).mono (by decide)
    refine i_two (fun hf20 => ?_) (fun hf20 => ?_)
    · walk_at "go"
      refine r_callN ?_
      walk_at "go"
      refine ⟨rfl, rfl, ?_⟩
      show spFall K [.int n, .int (f + 1)] _ _ _
      refine go_fall (k := f + 1) (by push_cast; rfl) bn (by omega) ?_
      walk_at "go"
      intro t1 ht1
      have e1 : (upd H5 t1 (.tup [.int 3])) t1 = some (.tup [.int 3]) := upd_same
      have u1 : Same H5 (upd H5 t1 (.tup [.int 3])) := My.Same.new (Same.refl H5) ht1
      generalize upd H5 t1 (.tup [.int 3]) = G1 at e1 u1 ⊢
      walk_at "go"
      intro l1 hl1
      have e2 : (upd G1 l1 (.lst [.int 3])) l1 = some (.lst [.int 3]) := upd_same
      have u2 : Same G1 (upd G1 l1 (.lst [.int 3])) := My.Same.new (Same.refl G1) hl1
      generalize upd G1 l1 (.lst [.int 3]) = G2 at e2 u2 ⊢
      walk_at "go"
      intro c1 hc1
      have e3 : (upd G2 c1 (.dK [])) c1 = some (.dK []) := upd_same
      have u3 : Same G2 (upd G2 c1 (.dK [])) := My.Same.new (Same.refl G2) hc1
      generalize upd G2 c1 (.dK []) = G3 at e3 u3 ⊢
      walk_at "go"
      intro c2 hc2
      refine ⟨upd_same, [(.inl 3, .int 3)], rfl, by decide, ?_⟩
      have e4 : (upd (upd G3 c2 (.dK [])) c2 (.dK (mergeK [] [(.inl 3, .int 3)]))) c2 = some (.dK [(.inl 3, .int 3)]) := upd_same
      have u4 : Same G3 (upd (upd G3 c2 (.dK [])) c2 (.dK (mergeK [] [(.inl 3, .int 3)]))) := My.Same.own (My.Same.new (Same.refl G3) hc2) hc2
      generalize upd (upd G3 c2 (.dK [])) c2 (.dK (mergeK [] [(.inl 3, .int 3)])) = G4 at e4 u4 ⊢
      walk_at "go"
      intro t2 ht2
      have e5 : (upd G4 t2 (.tup [])) t2 = some (.tup []) := upd_same
      have u5 : Same G4 (upd G4 t2 (.tup [])) := My.Same.new (Same.refl G4) ht2
      generalize upd G4 t2 (.tup []) = G5 at e5 u5 ⊢
      walk_at "go"
      intro a2 ha2
      have e6 : (upd G5 a2 (.lst [.non, .bl true, .bl false, .str "3", .ref t1, .ref l1, .ref c1, .ref c2, .ref t2])) a2 = some (.lst [.non, .bl true, .bl false, .str "3", .ref t1, .ref l1, .ref c1, .ref c2, .ref t2]) := upd_same
      have u6 : Same G5 (upd G5 a2 (.lst [.non, .bl true, .bl false, .str "3", .ref t1, .ref l1, .ref c1, .ref c2, .ref t2])) := My.Same.new (Same.refl G5) ha2
      generalize upd G5 a2 (.lst [.non, .bl true, .bl false, .str "3", .ref t1, .ref l1, .ref c1, .ref c2, .ref t2]) = G6 at e6 u6 ⊢
      have v1 := u1
      have v2 := v1.trans u2
      have v3 := v2.trans u3
      have v4 := v3.trans u4
      have v5 := v4.trans u5
      have v6 := v5.trans u6
      have hp6 := hp4.same v6
      have n1 : t1 ≠ p := hp4.ne ht1
      have n2 : l1 ≠ p := (hp4.same v1).ne hl1
      have n3 : c1 ≠ p := (hp4.same v2).ne hc1
      have n4 : c2 ≠ p := (hp4.same v3).ne hc2
      have n5 : t2 ≠ p := (hp4.same v4).ne ht2
      have n6 : a2 ≠ p := (hp4.same v5).ne ha2
      have w5 := u6 _ _ e5
      have w4 := u6 _ _ (u5 _ _ e4)
      have w3 := u6 _ _ (u5 _ _ (u4 _ _ e3))
      have w2 := u6 _ _ (u5 _ _ (u4 _ _ (u3 _ _ e2)))
      have w1 := u6 _ _ (u5 _ _ (u4 _ _ (u3 _ _ (u2 _ _ e1))))
      walk_at "go"
      refine go_pick hp6 e6 n6 (Nat.le_of_ble_eq_true rfl) (Nat.le_of_ble_eq_true rfl) fun v G7 hv hp7 bb => ?_
      have ov : ∀ Hx, But p G6 Hx → Odd K Hx v := fun Hx bx => by
        simp only [List.mem_cons, List.not_mem_nil, or_false] at hv
        rcases hv with rfl | rfl | rfl | rfl | rfl | rfl | rfl | rfl | rfl
        · exact odd_non
        · exact odd_bl true
        · exact odd_bl false
        · exact odd_str
        · exact odd_tup (bx.at n1 w1)
        · exact odd_lst (bx.at n2 w2)
        · exact odd_d0 (bx.at n3 w3)
        · exact odd_d1 (bx.at n4 w4)
        · exact odd_tup0 (bx.at n5 w5)
      have b9 := b8.trans ((My.Same.but v6).trans bb)
      walk_at "go"
      intro a3 ha3
      have n7 : a3 ≠ p := hp7.ne ha3
      have u8 : Same G7 (upd G7 a3 (.lst [.int 21, .int 22, .int (0 - 1), .int 1000000000000000000000000000000, .int (0 - 1000000000000000000000000000000)])) := My.Same.new (Same.refl G7) ha3
      walk_at "go"
      refine go_pick (hp7.new ha3) upd_same n7 (by decide) (by decide) fun hv2 G8 hm8 hp8 b10 => ?_
      obtain ⟨hi8, rfl, hm9⟩ : ∃ z : Int, hv2 = .int z ∧ z ∈ ([21, 22, 0 - 1, 1000000000000000000000000000000, 0 - 1000000000000000000000000000000] : List Int) := by
        simp only [List.mem_cons, List.not_mem_nil, or_false] at hm8
        rcases hm8 with rfl | rfl | rfl | rfl | rfl <;> exact ⟨_, rfl, by decide⟩
      have far := far_of (K := K) hm9
      have b11 := b9.trans ((My.Same.but u8).trans b10)
      obtain ⟨T0, d0, kd, th⟩ := ov G8 (bb.trans ((My.Same.but u8).trans b10))
      walk_at "go"
      refine go_refused v (.inl ⟨T0, kd, rfl⟩) fun q1 J1 hq1 r1 => ?_
      walk_at "go"
      refine ⟨q1, v, d0, rfl, hq1, th.same r1, ?_⟩
      walk_at "go"
      refine go_refused v (.inr ⟨n, rfl, .inl ⟨T0, Kd.same kd r1⟩, rfl⟩) fun q2 J2 hq2 r2 => ?_
      walk_at "go"
      refine ⟨q2, v, d0, rfl, hq2, th.same (r1.trans r2), ?_⟩
      walk_at "go"
      refine go_refused v (.inl ⟨T0, Kd.same kd (r1.trans r2), rfl⟩) fun q3 J3 hq3 r3 => ?_
      walk_at "go"
      refine ⟨q3, v, d0, rfl, hq3, th.same ((r1.trans r2).trans r3), ?_⟩
      walk_at "go"
      refine go_refused (.int hi8) (.inr ⟨n, rfl, .inr ⟨hi8, rfl, far.1⟩, rfl⟩) fun q4 J4 hq4 r4 => ?_
      walk_at "go"
      refine ⟨q4, .int hi8, _, rfl, hq4, far.2 _, ?_⟩
      exact k _ (b11.trans (My.Same.but ((r1.trans r2).trans (r3.trans r4))))
    · walk_at "go"
      walk_at "go"
      intro t1 ht1
      have e1 : (upd H5 t1 (.tup [.int 3])) t1 = some (.tup [.int 3]) := upd_same
      have u1 : Same H5 (upd H5 t1 (.tup [.int 3])) := My.Same.new (Same.refl H5) ht1
      generalize upd H5 t1 (.tup [.int 3]) = G1 at e1 u1 ⊢
      walk_at "go"
      intro l1 hl1
      have e2 : (upd G1 l1 (.lst [.int 3])) l1 = some (.lst [.int 3]) := upd_same
      have u2 : Same G1 (upd G1 l1 (.lst [.int 3])) := My.Same.new (Same.refl G1) hl1
      generalize upd G1 l1 (.lst [.int 3]) = G2 at e2 u2 ⊢
      walk_at "go"
      intro c1 hc1
      have e3 : (upd G2 c1 (.dK [])) c1 = some (.dK []) := upd_same
      have u3 : Same G2 (upd G2 c1 (.dK [])) := My.Same.new (Same.refl G2) hc1
      generalize upd G2 c1 (.dK []) = G3 at e3 u3 ⊢
      walk_at "go"
      intro c2 hc2
      refine ⟨upd_same, [(.inl 3, .int 3)], rfl, by decide, ?_⟩
      have e4 : (upd (upd G3 c2 (.dK [])) c2 (.dK (mergeK [] [(.inl 3, .int 3)]))) c2 = some (.dK [(.inl 3, .int 3)]) := upd_same
      have u4 : Same G3 (upd (upd G3 c2 (.dK [])) c2 (.dK (mergeK [] [(.inl 3, .int 3)]))) := My.Same.own (My.Same.new (Same.refl G3) hc2) hc2
      generalize upd (upd G3 c2 (.dK [])) c2 (.dK (mergeK [] [(.inl 3, .int 3)])) = G4 at e4 u4 ⊢
      walk_at "go"
      intro t2 ht2
      have e5 : (upd G4 t2 (.tup [])) t2 = some (.tup []) := upd_same
      have u5 : Same G4 (upd G4 t2 (.tup [])) := My.Same.new (Same.refl G4) ht2
      generalize upd G4 t2 (.tup []) = G5 at e5 u5 ⊢
      walk_at "go"
      intro a2 ha2
      have e6 : (upd G5 a2 (.lst [.non, .bl true, .bl false, .str "3", .ref t1, .ref l1, .ref c1, .ref c2, .ref t2])) a2 = some (.lst [.non, .bl true, .bl false, .str "3", .ref t1, .ref l1, .ref c1, .ref c2, .ref t2]) := upd_same
      have u6 : Same G5 (upd G5 a2 (.lst [.non, .bl true, .bl false, .str "3", .ref t1, .ref l1, .ref c1, .ref c2, .ref t2])) := My.Same.new (Same.refl G5) ha2
      generalize upd G5 a2 (.lst [.non, .bl true, .bl false, .str "3", .ref t1, .ref l1, .ref c1, .ref c2, .ref t2]) = G6 at e6 u6 ⊢
      have v1 := u1
      have v2 := v1.trans u2
      have v3 := v2.trans u3
      have v4 := v3.trans u4
      have v5 := v4.trans u5
      have v6 := v5.trans u6
      have hp6 := hp4.same v6
      have n1 : t1 ≠ p := hp4.ne ht1
      have n2 : l1 ≠ p := (hp4.same v1).ne hl1
      have n3 : c1 ≠ p := (hp4.same v2).ne hc1
      have n4 : c2 ≠ p := (hp4.same v3).ne hc2
      have n5 : t2 ≠ p := (hp4.same v4).ne ht2
      have n6 : a2 ≠ p := (hp4.same v5).ne ha2
      have w5 := u6 _ _ e5
      have w4 := u6 _ _ (u5 _ _ e4)
      have w3 := u6 _ _ (u5 _ _ (u4 _ _ e3))
      have w2 := u6 _ _ (u5 _ _ (u4 _ _ (u3 _ _ e2)))
      have w1 := u6 _ _ (u5 _ _ (u4 _ _ (u3 _ _ (u2 _ _ e1))))
      walk_at "go"
      refine go_pick hp6 e6 n6 (Nat.le_of_ble_eq_true rfl) (Nat.le_of_ble_eq_true rfl) fun v G7 hv hp7 bb => ?_
      have ov : ∀ Hx, But p G6 Hx → Odd K Hx v := fun Hx bx => by
        simp only [List.mem_cons, List.not_mem_nil, or_false] at hv
        rcases hv with rfl | rfl | rfl | rfl | rfl | rfl | rfl | rfl | rfl
        · exact odd_non
        · exact odd_bl true
        · exact odd_bl false
        · exact odd_str
        · exact odd_tup (bx.at n1 w1)
        · exact odd_lst (bx.at n2 w2)
        · exact odd_d0 (bx.at n3 w3)
        · exact odd_d1 (bx.at n4 w4)
        · exact odd_tup0 (bx.at n5 w5)
      have b9 := b8.trans ((My.Same.but v6).trans bb)
      walk_at "go"
      intro a3 ha3
      have n7 : a3 ≠ p := hp7.ne ha3
      have u8 : Same G7 (upd G7 a3 (.lst [.int 21, .int 22, .int (0 - 1), .int 1000000000000000000000000000000, .int (0 - 1000000000000000000000000000000)])) := My.Same.new (Same.refl G7) ha3
      walk_at "go"
      refine go_pick (hp7.new ha3) upd_same n7 (by decide) (by decide) fun hv2 G8 hm8 hp8 b10 => ?_
      obtain ⟨hi8, rfl, hm9⟩ : ∃ z : Int, hv2 = .int z ∧ z ∈ ([21, 22, 0 - 1, 1000000000000000000000000000000, 0 - 1000000000000000000000000000000] : List Int) := by
        simp only [List.mem_cons, List.not_mem_nil, or_false] at hm8
        rcases hm8 with rfl | rfl | rfl | rfl | rfl <;> exact ⟨_, rfl, by decide⟩
      have far := far_of (K := K) hm9
      have b11 := b9.trans ((My.Same.but u8).trans b10)
      obtain ⟨T0, d0, kd, th⟩ := ov G8 (bb.trans ((My.Same.but u8).trans b10))
      walk_at "go"
      refine go_refused v (.inl ⟨T0, kd, rfl⟩) fun q1 J1 hq1 r1 => ?_
      walk_at "go"
      refine ⟨q1, v, d0, rfl, hq1, th.same r1, ?_⟩
      walk_at "go"
      refine go_refused v (.inr ⟨n, rfl, .inl ⟨T0, Kd.same kd r1⟩, rfl⟩) fun q2 J2 hq2 r2 => ?_
      walk_at "go"
      refine ⟨q2, v, d0, rfl, hq2, th.same (r1.trans r2), ?_⟩
      walk_at "go"
      refine go_refused v (.inl ⟨T0, Kd.same kd (r1.trans r2), rfl⟩) fun q3 J3 hq3 r3 => ?_
      walk_at "go"
      refine ⟨q3, v, d0, rfl, hq3, th.same ((r1.trans r2).trans r3), ?_⟩
      walk_at "go"
      refine go_refused (.int hi8) (.inr ⟨n, rfl, .inr ⟨hi8, rfl, far.1⟩, rfl⟩) fun q4 J4 hq4 r4 => ?_
      walk_at "go"
      refine ⟨q4, .int hi8, _, rfl, hq4, far.2 _, ?_⟩
      exact k _ (b11.trans (My.Same.but ((r1.trans r2).trans (r3.trans r4))))
end

end Toy

set_option Elab.async false
set_option linter.all false
set_option maxRecDepth 100000
set_option maxHeartbeats 4000000
namespace Toy
open PySem PySem.Spec PyProof.Rows L2 My SX
local macro_rules | `(tactic| walk_at "ne") => `(tactic| first
  | with_reducible assumption
  | exact Ne.symm (by with_reducible assumption)
  | (refine' ne_of_none ?hx ?hy; (case hy => with_reducible assumption); (case hx => walk_at "hf"))
  | (refine' Ne.symm (ne_of_none ?hx ?hy); (case hy => with_reducible assumption); (case hx => walk_at "hf")))
local macro_rules | `(tactic| walk_at "hf") => `(tactic| first
  | with_reducible assumption
  | with_reducible exact upd_same
  | ((with_reducible refine' Same.at ?hs ?hr); (case hs => with_reducible assumption); (case hr => walk_at "hf"))
  | ((with_reducible refine' at_or ?hr ?hn); (case hr => walk_at "hf"); (case hn => first | exact Or.inl (by with_reducible assumption) | exact Or.inr (by walk_at "ne")))
  | ((with_reducible refine' But.at ?hb ?hn ?hr); (case hb => with_reducible assumption); (case hr => walk_at "hf"); (case hn => walk_at "ne")))
local macro_rules | `(tactic| walk_at "sq") => `(tactic| first
  | with_reducible assumption
  | exact SqL.of (by walk_at "hf"))
local macro_rules | `(tactic| walk_at "sqo") => `(tactic| first
  | exact Or.inl (by with_reducible assumption)
  | exact Or.inr (by with_reducible assumption)
  | exact Or.inl (SqL.of (by walk_at "hf"))
  | exact Or.inr (SqT.of (by walk_at "hf")))
local macro_rules | `(tactic| walk_at "sqt") => `(tactic| first
  | with_reducible assumption
  | exact SqT.of (by walk_at "hf"))
local macro_rules | `(tactic| walk_at "lg") => `(tactic| first
  | with_reducible assumption
  | exact Bd.lg (by with_reducible assumption) (by decide) (by decide)
  | exact Bd.lg (Bd.of (b := 100) (by omega) (by omega)) (by decide) (by decide))
local macro_rules | `(tactic| walk_at "len") => `(tactic| first
  | with_reducible assumption
  | ((simp only [txt_int, lcat, S_len, List.length_append, List.length_cons, List.length_nil]); omega)
  | (apply of_decide_eq_true; rfl))
local macro_rules | `(tactic| walk_at "side") => `(tactic| first
  | with_reducible assumption
  | omega
  | exact ml (by omega) (by omega)
  | exact mr (by omega) (by omega)
  | exact dv (by omega) (by omega)
  | exact Bd.mulOk (by with_reducible assumption) (by with_reducible assumption) (by decide) (by decide) (by decide)
  | exact Bd.div (by with_reducible assumption) (by omega) (by decide) (by decide)
  | (show (0 : Int) < _; omega)
  | decide
  | exact ni_non
  | exact rfl
  | ((simp only [List.length_cons, List.length_nil, List.length_map]); omega))
local macro_rules | `(tactic| walk_at "st") => `(tactic| first
  | ((with_reducible refine' r_var ?hh ?_); (case hh => rfl))
  | with_reducible refine r_c ?_
  | with_reducible refine r_op ?_
  | with_reducible refine r_i0 ?_
  | with_reducible refine r_cons ?_
  | with_reducible refine r_nil ?_
  | with_reducible refine r_seq ?_
  | with_reducible refine r_asg ?_
  | with_reducible refine r_gname ?_
  | with_reducible refine r_ret ?_
  | with_reducible refine r_ifS ?_
  | with_reducible refine r_test ?_
  | with_reducible refine r_tB ?_
  | with_reducible refine b_bl ?_
  | with_reducible refine i_t ?_
  | with_reducible refine i_f ?_
  | with_reducible refine i_nt ?_
  | with_reducible refine i_nf ?_
  | ((with_reducible refine' i_pos ?hh ?_); (case hh => walk_at "side"))
  | ((with_reducible refine' i_neg ?hh ?_); (case hh => walk_at "side"))
  | ((with_reducible refine' n_pos ?hh ?_); (case hh => walk_at "side"))
  | ((with_reducible refine' n_neg ?hh ?_); (case hh => walk_at "side"))
  | ((with_reducible refine' r_pow ?hh ?he ?_); (case hh => first | exact ⟨by decide, by decide, by decide⟩ | exact ⟨by decide, by decide, by omega⟩); (case he => first | ((simp only [Int.reduceToNat, Int.reducePow]); done) | ((simp only [Int.reduceToNat, Int.reducePow]); rfl) | rfl))
  | ((with_reducible refine' r_i ?hh ?_); (case hh => walk_at "side"))
  | with_reducible refine r_call0 ?_
  | with_reducible refine r_call ?_
  | with_reducible refine r_cb ?_
  | with_reducible refine r_int ?_
  | ((with_reducible refine' r_strI ?hh ?_); (case hh => walk_at "lg"))
  | with_reducible refine r_i1 ?_
  | with_reducible refine r_i2 ?_
  | with_reducible refine r_par ?_
  | with_reducible refine r_two ?_
  | with_reducible refine r_and ?_
  | with_reducible refine r_or ?_
  | with_reducible refine r_not ?_
  | with_reducible refine r_tif ?_
  | with_reducible refine r_andV ?_
  | with_reducible refine r_orV ?_
  | with_reducible refine r_notV ?_
  | with_reducible refine r_un ?_
  | with_reducible refine r_u ?_
  | with_reducible refine r_sb ?_
  | with_reducible refine r_drop ?_
  | with_reducible refine r_next ?_
  | with_reducible refine r_gsub ?_
  | ((with_reducible refine' r_ixL ?hh ?he ?_); (case hh => walk_at "sq"); (case he => rfl))
  | ((with_reducible refine' r_ixT ?hh ?he ?_); (case hh => walk_at "sqt"); (case he => rfl))
  | ((with_reducible refine' r_setL ?hh ?he ?_); (case hh => walk_at "hf"); (case he => rfl))
  | with_reducible refine r_gcons ?_
  | with_reducible refine r_gnil ?_
  | with_reducible refine r_sl ?_
  | with_reducible refine r_nopart ?_
  | with_reducible refine r_part ?_
  | with_reducible refine r_pint ?_
  | ((with_reducible refine' r_lenS ?hh ?_); (case hh => walk_at "sqo"))
  | ((with_reducible refine' r_gtup ?hh ?he ?_); (case hh => walk_at "sqt"); (case he => rfl))
  | ((with_reducible refine' r_slL ?hh ?_); (case hh => walk_at "sq"))
  | ((with_reducible refine' r_len ?hh ?_); (case hh => exact sz (by (try simp only [List.length_map]); (first | omega | decide | exact Nat.le_of_ble_eq_true rfl))))
  | with_reducible refine r_isi_ii ?_
  | with_reducible refine r_isi_ib ?_
  | with_reducible refine r_isi_ss ?_
  | ((with_reducible refine' r_isi_own ?hh ?hi ?hk ?_); (case hh => walk_at "hf"); (case hi => with_reducible assumption); (case hk => with_reducible assumption))
  | with_reducible refine r_lst ?_
  | with_reducible refine r_tup ?_
  | with_reducible refine r_make ?_
  | with_reducible refine r_forR1 ?_
  | with_reducible refine r_forL ?_
  | with_reducible refine r_forT ?_
  | with_reducible refine r_forR2 ?_
  | with_reducible refine r_ref1 ?_
  | with_reducible refine r_brk ?_
  | with_reducible refine r_cont ?_
  | with_reducible refine r_retN ?_
  | with_reducible refine r_rr ?_
  | with_reducible refine r_fmt ?_
  | ((with_reducible refine' r_fmti ?hh ?_); (case hh => walk_at "lg"))
  | with_reducible refine r_js ?_
  | with_reducible refine r_js0 ?_
  | ((with_reducible refine' r_jsp ?hh ?_); (case hh => walk_at "len"))
  | with_reducible refine r_m0 ?_
  | with_reducible refine r_m1 ?_
  | with_reducible refine r_str ?_
  | with_reducible refine r_ss ?_
  | with_reducible refine r_s0 ?_
  | ((with_reducible refine' r_addS ?hh ?_); (case hh => walk_at "len"))
  | ((with_reducible refine' r_slS ?hh ?_); (case hh => walk_at "len"))
  | ((with_reducible refine' r_lenT ?hh ?_); (case hh => walk_at "len"))
  | ((with_reducible refine' r_memI ?hh ?_); (case hh => with_reducible assumption))
  | with_reducible refine r_eqB ?_
  | ((with_reducible refine' r_inT ?hh ?hf ?he ?_); (case hh => walk_at "sqt"); (case hf => rfl); (case he => rfl))
  | ((with_reducible refine' r_inF ?hh ?hf ?he ?_); (case hh => walk_at "sqt"); (case hf => rfl); (case he => rfl))
  | ((with_reducible refine' r_makeL ?hh ?_); (case hh => rfl))
  | with_reducible refine r_tprop ?_
  | with_reducible refine r_tfld ?_
  | ((with_reducible refine' f_prop ?hh ?_); (case hh => walk_at "hf"))
  | ((with_reducible refine' f_fld ?hh ?hc ?hn ?hl ?_); (case hh => walk_at "hf"); (case hc => with_reducible assumption); (case hn => with_reducible assumption); (case hl => rfl))
  | with_reducible refine r_tcm ?_
  | with_reducible refine r_chain ?_
  | with_reducible refine r_bl1 ?_
  | with_reducible refine r_intb ?_
  | with_reducible refine r_yes ?_
  | with_reducible refine r_makeK ?_
  | with_reducible refine r_sfld ?_
  | ((with_reducible refine' f_sfld ?hh ?hc ?hn ?hl ?_); (case hh => walk_at "hf"); (case hc => with_reducible assumption); (case hn => with_reducible assumption); (case hl => exact Nat.le_of_ble_eq_true rfl))
  | with_reducible refine r_lcL ?_
  | with_reducible refine r_lcT ?_
  | with_reducible refine r_lcR1 ?_
  | with_reducible refine r_lcR2 ?_
  | with_reducible refine r_tbm ?_
  | with_reducible refine r_tbm0 ?_
  | ((with_reducible refine' f_tyL ?hh ?_); (case hh => walk_at "hf"))
  | ((with_reducible refine' r_app ?hh ?he ?_); (case hh => walk_at "hf"); (case he => walk_at "side"))
  | with_reducible refine r_tRev ?_
  | with_reducible refine r_forRV ?_
  | with_reducible refine r_raiseE ?_
  | with_reducible refine r_callG ?_
  | ((with_reducible refine' r_xfV ?hh ?hf ?hl ?_); (case hh => rfl); (case hf => walk_at "hf"); (case hl => rfl)))
local macro_rules | `(tactic| walk_at "go") => `(tactic| (repeat walk_at "st"))
local macro_rules | `(tactic| walk_at "in") => `(tactic| dsimp only [cxOf, L2.start, List.map, List.length, List.replicate, Nat.reduceSub, Nat.reduceAdd, List.cons_append, List.nil_append, List.append_nil])
local macro_rules | `(tactic| walk_at "bt") => `(tactic| first
  | with_reducible assumption
  | exact But.rfl
  | exact Same.but (by with_reducible assumption)
  | (refine' But.put ?ha; (case ha => walk_at "bt"))
  | (refine' But.new ?ha ?hn; (case hn => with_reducible assumption); (case ha => walk_at "bt"))
  | (refine' But.trans ?ha ?hb; (case hb => with_reducible assumption); (case ha => walk_at "bt"))
  | (refine' But.trans ?ha (Same.but ?hb); (case hb => with_reducible assumption); (case ha => walk_at "bt")))
local macro_rules | `(tactic| walk_at "sm") => `(tactic| first
  | with_reducible assumption
  | exact Same.refl _
  | (refine' Same.new ?ha ?hn; (case hn => with_reducible assumption); (case ha => walk_at "sm"))
  | (refine' Same.trans ?ha ?hb; (case hb => with_reducible assumption); (case ha => walk_at "sm")))

section
variable {P : Program} {w : World} {K : PySem.W.Frag} {mg : Str → Option Value} {base : Heap}
def spLaw (K : PySem.W.Frag) : Sp := fun vs H Q _ => ∃ (a : Addr) (ns : List Int), vs = [.ref a] ∧ SqL K H a (ns.map V.int) ∧ ns.length ≤ 63 ∧ ∀ H', Q (.bl true) H'
theorem ok_law (T : Tx K mg) : FnG P w K mg base CX0 7 (He.ga K "law") (Classical.choose T.d_law) ["_law_script"] (spLaw K) := by
  have F := Classical.choose_spec T.d_law
  refine fnG F sc_law (fun vs H Q E h => ?_) (fun cdv A outer s H vs Q E hr h => ?_)
  · obtain ⟨a, ns, rfl, _⟩ := h
    rfl
  obtain ⟨a, ns, rfl, hS, hl, k⟩ := h
  refine ⟨_, PSs.nox (pss_one (ps_ret (pe_callB (cr_all rfl) (by rfl) T.f_all (by decide +kernel) (pa_cons (pe_lc (own := [("_law_k", 1)]) (tt := tYes) rfl sc_law.nd (pi_range1 rfl T.f_range (pa_cons (pe_callB (call_max2 rfl) (by rfl) T.f_max (by decide +kernel) (pa_cons pe_int (pa_cons (pe_callB (call_min2 rfl) (by rfl) T.f_min (by decide +kernel) (pa_cons pe_int (pa_cons (pe_callB (call_lenK (K := K) rfl) (by rfl) T.f_len (by decide +kernel) (pa_cons (pv 0) pa_nil)) pa_nil))) pa_nil))) pa_nil)) (blkOk_by (N := ["_law_script", "_law_k"]) (sc := defScope s_law) (by decide +kernel)) (fun _ _ _ _ _ => (pg_name (i := 1) sc_law.nd rfl (Or.inl rfl))) (fun _ _ _ _ _ => pts_nil) (fun _ _ _ _ _ => (pe_g (ok_law_right T) T.g_law_right hr (by decide) pass0 (pa_cons (pe_g (ok_law_bag T) T.g_law_bag hr (by decide) pass0 (pa_cons (pe_g (ok_law_cell T) T.g_law_cell hr (by decide) pass0 (pa_cons (pv 0) (pa_cons (pv 1) pa_nil))) pa_nil)) pa_nil)))) pa_nil)))), ?_⟩
  walk_at "in"
  walk_at "go"
  simp only [List.length_map]
  generalize hN : (if (if (ns.length : Int) < (12 : Int) then (ns.length : Int) else (12 : Int)) > 2 then (if (ns.length : Int) < (12 : Int) then (ns.length : Int) else (12 : Int)) else 2) = N
  have hN0 : 0 ≤ N ∧ N ≤ 16 := by subst hN; split <;> split <;> omega
  refine ⟨by omega, by omega, My.lc_rangeG (fun i acc _ => acc = (List.replicate i true).map V.bl ∧ i ≤ N.toNat) (fun i acc _ ⟨e, hi⟩ => by rw [e]; simp; omega) (fun _ _ _ _ _ _ _ _ h => h) (fun _ _ => ⟨rfl, by omega⟩) ?_ ?_⟩
  · rintro i acc H1 X Y hi s1 ⟨rfl, hi2⟩ kx ky
    walk_at "go"
    refine ⟨rfl, ?_⟩
    walk_at "go"
    refine go_cell (s1.seq hS) (by omega) (by omega) fun c H2 s2 => ?_
    walk_at "go"
    refine go_bag fun p H3 hp hb s3 => ?_
    walk_at "go"
    refine go_right (K := K) (E := E0) hb fun H4 b4 => ?_
    refine kx _ _ (fun q o e => b4 q o (ne_of_none e (s2.free hp)) ((s2.trans s3) q o e)) ⟨?_, by omega⟩
    rw [List.replicate_succ', List.map_append] <;> rfl
  · rintro D acc H1 hD h1 s1 ⟨rfl, _⟩
    walk_at "go"
    refine ⟨D, _, rfl, SqL.of h1, ?_⟩
    have e : (List.replicate N.toNat true).all id = true := by
      rw [List.all_eq_true]
      intro x hx
      rw [List.eq_of_mem_replicate hx] <;> rfl
    rw [e]
    exact k _
end

end Toy

set_option Elab.async false
set_option linter.all false
set_option maxRecDepth 100000
set_option maxHeartbeats 4000000
namespace Toy
open PySem PySem.Spec PyProof.Rows L2 My SX


abbrev R : PySem.W.OpenRow := PySem.W.OpenLaw.row PySem.Challenge.rw_drawclaims_k27_falling_products
abbrev hk : PySem.W.Hook := Hk.hookE 6 fa fn ex
def ob (s : PySem.W.SharedT) : Hk.AlE := Hk.obsEG 6 fa fn ex (HandSHeadRun.getT s)
theorem ob_eq (s : PySem.W.SharedT) : ob s = hk.obs s.abs := Hk.obsEG_eq (HandSHeadRun.getT_eq s)
def loose : List Str := ["InputError", "InvalidNumber", "InvalidSize", "is_integer", "LONGEST", "check_range", "product_down", "falling", "_law_cell", "_law_bag", "_law_take", "_law_pick", "_law_int", "_law_so", "_law_refused", "_law_same", "_law_right"]
theorem run (w : World) : HandSHeadRun.RunEq R (PySem.W.view R.prog [22]) hk ob 3000 loose w := by
  intro os
  kernel_rfl
theorem law_binds {K : PySem.W.Frag} {mg : Str → Option Value} (T : Tx K mg) (s : Shared) (u : Value) : BindsTo s (Classical.choose T.d_law) ⟨[u], []⟩ [("_law_script", u)] :=
  FunD.bindsA (ps := ["_law_script"]) (Classical.choose_spec T.d_law) (fun _ _ _ _ _ _ us hl => match us, hl with | [_], _ => rfl) s [u] rfl
end Toy
open PySem PySem.W PySem.Calls PyProof.Rows
theorem PySem.Challenge.cw_drawclaims_k27_falling_products_holds : PySem.Challenge.rw_drawclaims_k27_falling_products.Holds := by
  w_on; o_law
  refine HandSHeadRun.head_any (r := OpenLaw.row PySem.Challenge.rw_drawclaims_k27_falling_products) (q := view (OpenLaw.row PySem.Challenge.rw_drawclaims_k27_falling_products).prog [22]) (H := Toy.hk) (ob := Toy.ob) (M := 3000) (loose := Toy.loose) (d := HandSHeadRun.topDef (OpenLaw.row PySem.Challenge.rw_drawclaims_k27_falling_products).prog 22) (kwd := []) Toy.ob_eq
    (by kernel_rfl) (fun s => by kernel_rfl) Toy.run (by kernel_rfl) (by kernel_rfl) (by kernel_rfl) (by rfl) (by first | assumption | decide +kernel) (by decide +kernel) ⟨rfl, rfl, rfl, rfl, rfl, by decide +kernel⟩ ?hw ?hc
  case hw => w_witness2
  case hc =>
    refine My.walk_g (l := PySem.Challenge.rw_drawclaims_k27_falling_products) (n := 63) (k := 7) (x := "_law_script") rfl (by decide) (by kernel_rfl) ⟨⟨rfl, by decide, by decide⟩, rfl⟩ ?F
    intro w mg fa h Y G hmg0
    obtain ⟨K, KX, c⟩ := Y
    have hmg : mg ("law" : PySem.Str) = some (.ref fa) := by
      have e : (HandSHeadRun.topDef (OpenLaw.row PySem.Challenge.rw_drawclaims_k27_falling_products).prog 22).name = ("law" : PySem.Str) := by kernel_rfl
      rw [← e]
      exact hmg0
    have T := Toy.tx_ok KX G c
    have e := hmg.symm.trans T.g_law
    cases e
    exact ⟨K, _, Toy.spLaw K, KX, fun s v => Toy.law_binds T s v, fun H a ns hl hS => ⟨a, ns, rfl, hS, hl, fun _ => rfl⟩, fun base _ _ => Toy.ok_law T⟩
